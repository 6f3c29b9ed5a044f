import PyProof.Rows.All
import Wide.All
import OpenK.AllK
import Wide.FinOn
import HandS.ForMost
import HandS.Evl
import HandS.Codes
import HandS.Defaults
import HandS.IsInst
import HandS.FStr
import KE.KStateDown
import Lean
import HandS.HeadEnd
import HandS.HeadNt
import HandS.HeadHook3
import HandS.Head0
import HandS.Head1
import HandS.Head2
import HandS.Style
import HandS.OwnEq
import KE.KCallOwn
import HandS.Star
import HandS.ClsMeth
import HandS.CallLocal
import KE.GoesNew
import KE.GoesEnum
import HandS.Walk
import HandS.Sort
import HandS.Conv
import HandS.RaiseMore
import HandS.WordsDict
import PyProof.ReprRoads
import KE.KDictKeyed
import KE.KDictPairs
import KE.KDictWalk
import KE.KDictDisplayH
import KE.KDictCopyH
import KE.KDictList
import HandS.Lambda
import HandS.Deep
import HandS.TupAny
import HandS.TupMul
import HandS.Zip
import KE.KUnpackStar
import KE.SortData
import KE.KDictSum
import PyProof.TupleOfSeq
import HandS.Replace
import KE.GoesComp
import KE.GoesMore
import HandS.ReplaceLit
import HandS.More
import KE.DataFind
import KE.DataCmp
import HandS.Property
import PyProof.InstSpecial
import HandS.Exc
import HandS.TryOnly
import HandS.DictTup
import KE.KDictZip
import KE.KTupSum
import OpenK.KMeth
import HandS.ExcOwn
import HandS.WordsExc
import HandS.ExcField
import KE.KExcIs
import KE.KExcSuper
import HandS.ExcInit
import KE.KExcInit
import PyProof.ExcBaseAll.IndexError
import HandS.SuiteRaise
import HandS.RaiseFrom
import HandS.ExcInitHot
import KE.KExcRaise
import HandS.EndTab
import PySem.Challenge.RW_sitout_k09_roads_refused
set_option Elab.async false
set_option linter.all false
set_option maxRecDepth 100000
set_option maxHeartbeats 4000000
namespace L3
open PySem L2 Evl
def Flat : HO → Prop
  | .lst _ => True
  | .dK _ => True
  | _ => False
def anyO (P : Program) (w : World) (S : HO → Prop) (a : Addr) : HO := .ext fun h => ∃ u, S u ∧ ObjOk P w (fun _ => none) h a u
section
variable {P : Program} {w : World} {H H' : Hp} {h h' : Heap} {a : Addr} {u : HO}
theorem flat_any (f : Flat u) (o : ObjOk P w H h a u) : ObjOk P w H' h a u := by
  cases u with
  | lst xs => exact o
  | dK kvs => exact o
  | _ => exact f.elim
theorem any_of {S : HO → Prop} (f : Flat u) (s : S u) (hf : ∀ u, S u → Flat u) (o : ObjOk P w H h a u) : ObjOk P w H' h a (anyO P w S a) := by
  refine ⟨⟨u, s, flat_any f o⟩, ?_, ?_⟩
  · cases u with
    | lst xs => obtain ⟨_, its, n, _, e⟩ := o; exact ⟨_, e⟩
    | dK kvs => obtain ⟨_, _, _, _, ob, _, _, e, _⟩ := o; exact ⟨_, e⟩
    | _ => exact f.elim
  · rintro h1 h2 ⟨u', s', o'⟩ k
    refine ⟨u', s', o'.stay (fun b v hb e => ?_) (fun b e => nomatch e) fun b xs e => nomatch e⟩
    rcases hb with rfl | hb
    · exact k v e
    · cases hb
end
/-- the same heap told by less: some lists and dicts by an invariant alone -/
def Abs (P : Program) (w : World) (H H' : Hp) : Prop := ∀ a, H' a = H a ∨ ∃ u S, H a = some u ∧ (∀ u, S u → Flat u) ∧ S u ∧ H' a = some (anyO P w S a)
section
variable {P : Program} {w : World} {H H' H0 : Hp} {h h0 : Heap}
theorem Abs.hok (b : Abs P w H H') (o : HOk P w H h) : HOk P w H' h := fun a u e => by
  have ho : ∀ c y, H c = some (.own y) → H' c = some (.own y) := fun c y q => by
    rcases b c with z | ⟨u, S, e1, f, s, e2⟩
    · rw [z]; exact q
    · rw [q] at e1; cases e1; exact (f _ s).elim
  have ht : ∀ c xs, H c = some (.tup xs) → H' c = some (.tup xs) := fun c y q => by
    rcases b c with z | ⟨u, S, e1, f, s, e2⟩
    · rw [z]; exact q
    · rw [q] at e1; cases e1; exact (f _ s).elim
  rcases b a with z | ⟨u', S, e1, f, s, e2⟩
  · rw [z] at e
    exact (o a u e).stay (fun _ _ _ q => q) (fun c q => ho c a q) ht
  · rw [e2] at e
    cases e
    exact any_of (f _ s) s f (o a u' e1)
theorem Abs.un {fs ex : List Addr} (b : Abs P w H H') (u : Un fs ex H0 H h0 h) : Un fs ex H0 H' h0 h where
  keep := u.keep
  slot := u.slot
  free := fun c o q n hx => by
    have z := u.free c o q n hx
    rcases b c with r | ⟨_, _, e1, _⟩
    · rw [r]; exact z
    · rw [z] at e1; cases e1
  there := u.there
  tups := fun c xs q => by
    have z := u.tups c xs q
    rcases b c with r | ⟨_, _, e1, f, s, _⟩
    · rw [r]; exact z
    · rw [z] at e1; cases e1; exact (f _ s).elim
  frzs := fun c o v q => by
    have z := u.frzs c o v q
    rcases b c with r | ⟨_, _, e1, f, s, _⟩
    · rw [r]; exact z
    · rw [z] at e1; cases e1; exact (f _ s).elim
  tbls := fun c ps q => by
    obtain ⟨m, z⟩ := u.tbls c ps q
    rcases b c with r | ⟨_, _, e1, f, s, _⟩
    · exact ⟨m, by rw [r]; exact z⟩
    · rw [z] at e1; cases e1; exact (f _ s).elim
/-- an object told by its invariant is opened -/
theorem open_hok {a : Addr} {S : HO → Prop} (ha : H a = some (anyO P w S a)) (hf : ∀ u, S u → Flat u) (o : HOk P w H h) : ∃ u, S u ∧ HOk P w (upd H a u) h := by
  obtain ⟨⟨u, s, q⟩, _, _⟩ := o a _ ha
  have ne : ∀ b v, H b = some v → (∀ φ, v ≠ .ext φ) → b ≠ a := fun b v e n z => by
    rw [z, ha] at e; cases e; exact n _ rfl
  refine ⟨u, s, fun b v e => ?_⟩
  by_cases hb : b = a
  · subst hb
    rw [upd_same] at e
    cases e
    exact flat_any (hf _ s) q
  · rw [upd_ne hb] at e
    exact (o b v e).stay (fun _ _ _ q => q) (fun c q => by rw [upd_ne (ne c _ q (fun _ z => nomatch z))]; exact q) fun c xs q => by rw [upd_ne (ne c _ q (fun _ z => nomatch z))]; exact q
theorem open_un {fs ex : List Addr} {a : Addr} {S : HO → Prop} {u0 : HO} (ha : H0 a = some (anyO P w S a)) (x : Un fs ex (upd H0 a u0) H h0 h) : Un fs ex H0 H h0 h := by
  have ne : ∀ b v, H0 b = some v → (∀ φ, v ≠ .ext φ) → b ≠ a := fun b v e n z => by
    rw [z, ha] at e; cases e; exact n _ rfl
  have nn : ∀ b, H0 b = none → b ≠ a := fun b e z => by rw [z, ha] at e; cases e
  exact ⟨fun b o q n => x.keep b o q (by rw [upd_ne (nn b n)]; exact n), fun b o q n => x.slot b o q (by rw [upd_ne (nn b n)]; exact n), fun b o q n => x.free b o q (by rw [upd_ne (nn b n)]; exact n), x.there,
    fun b xs q => x.tups b xs (by rw [upd_ne (ne b _ q (fun _ z => nomatch z))]; exact q), fun b o v q => x.frzs b o v (by rw [upd_ne (ne b _ q (fun _ z => nomatch z))]; exact q), fun b ps q => x.tbls b ps (by rw [upd_ne (ne b _ q (fun _ z => nomatch z))]; exact q)⟩
end
section
variable {P : Program} {w : World} {K : PySem.W.Frag} {mg : Str → Option Value} {base : Heap} {k : Nat} {f : Addr} {fd : FuncData} {ps : List Str} {sp : Sp}
/-- an object told by an invariant is opened ahead of the call -/
def opened (P : Program) (w : World) (n : Nat) (sp : Sp) : Sp := fun vs H Q E => vs.length = n ∧ ∃ a S, H a = some (anyO P w S a) ∧ (∀ u, S u → Flat u) ∧ ∀ u, S u → sp vs (upd H a u) Q E
theorem pre (F : FnOk P w K mg base CX0 k f fd ps sp) : FnOk P w K mg base CX0 k f fd ps (opened P w ps.length sp) := by
  refine ⟨fun vs H Q E h => h.1, fun A outer s H args us vs Q E hr he hb hv hs => ?_⟩
  obtain ⟨_, a, S, ha, hf, hq⟩ := hs
  obtain ⟨u, su, ok⟩ := open_hok ha hf he.hok
  have nn : ∀ b, H b = none → b ≠ a := fun b e z => by rw [z, ha] at e; cases e
  have he' : Env0 P w K mg base A outer s (upd H a u) := ⟨he.frames, he.mod, fun b o q => ⟨(he.bs b o q).1, by rw [upd_ne (nn b (he.bs b o q).2)]; exact (he.bs b o q).2⟩, he.bsz, he.funs, fun b q => by rw [upd_ne (nn b (he.frf b q))]; exact he.frf b q, ok, he.bare⟩
  refine codeAny_mono (F.run A outer s (upd H a u) args us vs Q E hr he' hb hv (hq u su)) fun r s' z => ?_
  cases r with
  | error e => exact z.elim
  | ok fl =>
    cases fl with
    | ret u' =>
      obtain ⟨v, H', e1, e2, un, ok', rv, q⟩ := z
      exact ⟨v, H', e1, e2, open_un ha un, ok', rv, q⟩
    | _ => exact z
end
end L3
namespace L3
open PySem L2 Evl
end L3
namespace L3
open PySem L2 Evl
structure Df (K : PySem.W.Frag) (mg : Str → Option Value) (x : Str) (st : Stmt) : Prop where
  ex : ∃ f fd, Fun K x x st f fd ∧ mg x = some (.ref f)
structure Fn (P : Program) (w : World) (K : PySem.W.Frag) (mg : Str → Option Value) (base : Heap) (k : Nat) (x : Str) (ps : List Str) (sp : Sp) : Prop where
  ex : ∃ f fd, FnOk P w K mg base CX0 k f fd ps sp ∧ mg x = some (.ref f) ∧ PySem.W.keepIn K (.ref f) = true ∧ Binds K fd ps []
/-- a method -/
structure Md (K : PySem.W.Frag) (C : Addr) (m q : Str) (st : Stmt) : Prop where
  ex : ∃ f fd, Fun K m q st f fd ∧ Meth K C m f
/-- a class with its __init__ -/
structure Ki (K : PySem.W.Frag) (mg : Str → Option Value) (x : Str) (C : Addr) (q : Str) (st : Stmt) : Prop where
  cl : Cls K C
  mgC : mg x = some (.ref C)
  ex : ∃ f fd, Fun K "__init__" q st f fd ∧ Mk K C f
section
variable {P : Program} {w : World} {K : PySem.W.Frag} {mg : Str → Option Value} {base : Heap} {k : Nat} {x q m : Str} {C : Addr} {ps N : List Str} {sp sp' : Sp} {st : Stmt}
theorem Fn.imp (F : Fn P w K mg base k x ps sp) (h : ∀ vs H Q E, sp' vs H Q E → sp vs H Q E) : Fn P w K mg base k x ps sp' := by
  obtain ⟨f, fd, F, r⟩ := F.ex
  exact ⟨f, fd, F.imp h, r⟩
theorem Fn.pre (F : Fn P w K mg base k x ps sp) : Fn P w K mg base k x ps (opened P w ps.length sp) := by
  obtain ⟨f, fd, F, r⟩ := F.ex
  exact ⟨f, fd, L3.pre F, r⟩
end
def rAbs : List V → Hp → VK → Prop := fun xs H Q => ∃ i, xs = [.int i] ∧ Q (.int (if i < 0 then -i else i)) H
theorem call_abs' {X : Cx} : CallR X (.builtin "abs") rAbs := call_abs
end L3
namespace L3
end L3
namespace L3
open PySem PySem.W PyProof.Rows
def obsB (ex : Frag → Bool) (fn : List He5.DefA) (K : Frag) : He.AlD := (ex K && fn.all fun d => d.ok K, fn.map fun d => He5.fnA K (d.at_ K))
def SaysB (ex : Frag → Bool) (fn : List He5.DefA) (K : Frag) : Prop := obsB ex fn K = He5.valA fn
def obsBG (n : Nat) (ex : Frag → Bool) (fn : List He5.DefA) (g : Addr → Option Obj) : He.AlD := obsB ex fn (He.frG g (He5.asA g n))
section
variable {ex : Frag → Bool} {fn : List He5.DefA} {K : Frag}
theorem SaysB.fx (c : SaysB ex fn K) : ex K = true :=
  (He.ba (show (ex K && fn.all fun d => d.ok K) = true from congrArg (fun z : He.AlD => z.1) c)).1
theorem SaysB.def_ (c : SaysB ex fn K) (i : Nat) {d : He5.DefA} (h : fn[i]? = some d := by rfl) : ∃ fd, L2.FunD K d.name d.qual d.params d.body d.scope (d.dvs K) (d.kws K) (d.at_ K) fd := by
  have c2 := (He.ba (show (ex K && fn.all fun d => d.ok K) = true from congrArg (fun z : He.AlD => z.1) c)).2
  have e : fn.map (fun d => He5.fnA K (d.at_ K)) = fn.map He5.DefA.val := congrArg (fun z : He.AlD => z.2) c
  have e2 : (fn.map fun d => He5.fnA K (d.at_ K))[i]? = (fn.map He5.DefA.val)[i]? := by rw [e]
  rw [List.getElem?_map, List.getElem?_map, h] at e2
  exact He5.DefA.funD (Option.some.inj e2) (List.all_eq_true.mp c2 d (List.mem_of_getElem? h))
end
/-- one fact more, a tuple of the top among them -/
inductive Fx where
  | fa (f : He.Fa)
  | tup (x : PySem.Str) (vs : List He.Dv)
  | wrap (x m : PySem.Str)
  | dic (x : PySem.Str)
  | insc (x : PySem.Str)
  | bo (f : Frag → Bool)
def Fx.ok0 (K : Frag) : Fx → Bool
  | .fa f => f.ok K
  | _ => false
def Fx.ok (K : Frag) : Fx → Bool
  | .fa f => f.ok K
  | .tup x vs => He.tupB K x vs
  | .wrap x m => He5.wrapB K (He.ga K x) "classmethod" "classmethod.__get__" m
  | .dic x => (He.dicW K (He.ga K x)).isSome
  | .bo f => f K
  | .insc x => (Fx.fa (.cls x)).ok0 K && (He.eqO (findIn K (.ref (He.ga K x)) "__class__") (some (some (.builtin "object.__class__"))) && (He.eqO (specialIn K (.builtin "object.__class__") "__get__") (some (some (.builtin "getset_descriptor.__get__"))) &&
    (decide (takesIn K (.builtin "object.__class__") = some true) && (decide (mroIn K (He.ga K x) (.type "object") = some true) && decide (kitOne K (.ref (He.ga K x)) (.ref (He.ga K x)) = some true)))))
theorem fx_at {fx : List Fx} {K : Frag} (h : (fx.all fun f => f.ok K) = true) (i : Nat) {f : Fx} (e : fx[i]? = some f := by rfl) : f.ok K = true := List.all_eq_true.mp h f (List.mem_of_getElem? e)
theorem insc_ok {x : PySem.Str} {K : Frag} (h : (Fx.insc x).ok K = true) : C8.InsC K (He.ga K x) := by
  obtain ⟨h1, h⟩ := He.ba h
  obtain ⟨h2, h⟩ := He.ba h
  obtain ⟨h3, h⟩ := He.ba h
  obtain ⟨h4, h⟩ := He.ba h
  obtain ⟨h5, h6⟩ := He.ba h
  exact ⟨He.cls_ok h1, He.eqO_ok h2, He.eqO_ok h3, of_decide_eq_true h4, of_decide_eq_true h5, of_decide_eq_true h6⟩
def gdef (x : PySem.Str) (st : Stmt) : He5.DefA := ⟨fun K => He.ga K x, x, x, L2.defArgs st, L2.defBody st, L2.defScope st, [], []⟩
def mdef (c m q : PySem.Str) (st : Stmt) : He5.DefA := ⟨fun K => He.ma K (He.ga K c) m, m, q, L2.defArgs st, L2.defBody st, L2.defScope st, [], []⟩
section
variable {K : Frag} {h : Heap} {mg : PySem.Str → Option Value} {ex : Frag → Bool} {fn : List He5.DefA} {x c m q : PySem.Str} {st : Stmt}
theorem df_of (X : K.In h) (G : h.Ns mainGlobals mg) (f : (Fx.fa (.glo x)).ok K = true) (s : SaysB ex fn K) (i : Nat) (e : fn[i]? = some (gdef x st) := by rfl) : Df K mg x st := by
  obtain ⟨fd, F⟩ := s.def_ i e
  exact ⟨He.ga K x, fd, He5.fun_of F, He.glo_ok X G f⟩
theorem md_of (f : (Fx.fa (.meth c m)).ok K = true) (s : SaysB ex fn K) (i : Nat) (e : fn[i]? = some (mdef c m q st) := by rfl) : Md K (He.ga K c) m q st := by
  obtain ⟨fd, F⟩ := s.def_ i e
  exact ⟨He.ma K (He.ga K c) m, fd, He5.fun_of F, He.meth_ok f⟩
theorem ki_of (X : K.In h) (G : h.Ns mainGlobals mg) (f : (Fx.fa (.glo x)).ok K = true) (f1 : (Fx.fa (.cls x)).ok K = true) (f2 : (Fx.fa (.mkr x)).ok K = true) (s : SaysB ex fn K) (i : Nat) (e : fn[i]? = some (mdef x "__init__" q st) := by rfl) : Ki K mg x (He.ga K x) q st := by
  obtain ⟨fd, F⟩ := s.def_ i e
  exact ⟨He.cls_ok f1, He.glo_ok X G f, He.ma K (He.ga K x) "__init__", fd, He5.fun_of F, He.mkr_ok f2⟩
end
abbrev Tabs := List (PySem.Str × List PySem.Str)
def tabsOf (ts : Tabs) (K : Frag) : List (Option (List (Option (PySem.Str × Int)))) := ts.map fun t => He.dicW K (He.ga K t.1)
def tabsIn (ts : Tabs) (P : Params) : List (Option (List (Option (PySem.Str × Int)))) := ts.map fun t => some (He.keysIn P t.2)
def obsWG (n : Nat) (ex : Frag → Bool) (fn : List He5.DefA) (ts : Tabs) (g : Addr → Option Obj) : He.AlD × List (Option (List (Option (PySem.Str × Int)))) := (obsBG n ex fn g, tabsOf ts (He.frG g (He5.asA g n)))
structure SaysW (ex : Frag → Bool) (fn : List He5.DefA) (ts : Tabs) (w : World) (K : Frag) : Prop where
  b : SaysB ex fn K
  t : tabsOf ts K = tabsIn ts w.params
def hookW (n : Nat) (ex : Frag → Bool) (fn : List He5.DefA) (ts : Tabs) : PySem.W.Hook where
  α := He.AlD × List (Option (List (Option (PySem.Str × Int))))
  obs := fun s => obsWG n ex fn ts s.heap.get?
  val := fun w => (He5.valA fn, tabsIn ts w.params)
  says := fun w h => ∃ K : Frag, K.In h ∧ SaysW ex fn ts w K
  of := fun w s e => ⟨He.frG s.heap.get? (He5.asA s.heap.get? n), He.frG_in, ⟨congrArg Prod.fst e, congrArg Prod.snd e⟩⟩
  keeps := fun _ _ _ ⟨K, hK, c⟩ k => ⟨K, Frag.In.keeps hK k, c⟩
theorem obsWG_eq {n : Nat} {ex : Frag → Bool} {fn : List He5.DefA} {ts : Tabs} {g : Addr → Option Obj} {s : Shared} (h : ∀ a, g a = s.heap.get? a) : obsWG n ex fn ts g = (hookW n ex fn ts).obs s := by
  have e : g = s.heap.get? := funext h
  rw [e] <;> rfl
theorem SaysW.tab {ex : Frag → Bool} {fn : List He5.DefA} {ts : Tabs} {w : World} {K : Frag} (c : SaysW ex fn ts w K) (i : Nat) {t : PySem.Str × List PySem.Str} (h : ts[i]? = some t := by rfl) : ∃ es n, L2.KDict K w (He.ga K t.1) es n := by
  have e : (tabsOf ts K)[i]? = (tabsIn ts w.params)[i]? := by rw [c.t]
  unfold tabsOf tabsIn at e
  rw [List.getElem?_map, List.getElem?_map, h] at e
  exact He.dicW_ok (Option.some.inj e)
end L3
namespace L3
open PySem L2 Evl
end L3
namespace L3
open PySem L2 Evl
end L3
namespace L3
open PySem L2 Evl
end L3
namespace L3
open PySem L2 Evl TL
end L3
namespace L3
open PySem L2 Evl TL
end L3
namespace L3
open PySem L2 Evl TL
end L3
namespace L3
open PySem L2 Evl TL
end L3
namespace L3
open PySem L2 Evl TL
end L3
namespace L3
open PySem L2 Evl TL
structure Cmd (K : PySem.W.Frag) (C : Addr) (m q : Str) (st : Stmt) : Prop where
  ex : ∃ p g fd, Fun K m q st g fd ∧ ClX.CRead K C (.type "type") ∧ ClX.CMet K C (.type "type") m p g
def cmB (x m : Str) (K : PySem.W.Frag) : Bool := He5.wrapB K (He.ga K x) "classmethod" "classmethod.__get__" m && (PySem.W.fnIn K (He5.wf K (He.ga K x) "classmethod" m) && (PySem.W.readsIn K (He.ga K x) (.type "type") && He.eqO (PySem.W.specialIn K (.ref (He.ga K x)) "__getattribute__") (some (some (.builtin "type.__getattribute__")))))
def cdef (c m q : Str) (st : Stmt) : He5.DefA := ⟨fun K => He5.wf K (He.ga K c) "classmethod" m, m, q, L2.defArgs st, L2.defBody st, L2.defScope st, [], []⟩
theorem cmd_of {K : PySem.W.Frag} {x m q : Str} {st : Stmt} {ex : PySem.W.Frag → Bool} {fn : List He5.DefA} (f : cmB x m K = true) (s : SaysB ex fn K) (i : Nat) (e : fn[i]? = some (cdef x m q st) := by rfl) : Cmd K (He.ga K x) m q st := by
  obtain ⟨h1, h⟩ := He.ba f
  obtain ⟨h2, h⟩ := He.ba h
  obtain ⟨h3, h4⟩ := He.ba h
  obtain ⟨fd, F⟩ := s.def_ i e
  exact ⟨_, _, fd, He5.fun_of F, ⟨h3, He.eqO_ok h4⟩, He5.cmet_of h1 h2⟩
end L3
namespace L3
open PySem L2 Evl TL
end L3
namespace L3
open PySem L2 Evl TL
end L3
namespace L3
open PySem L2 Evl TL
end L3
namespace L3
open PySem L2 Evl TL
end L3
namespace L3
open PySem L2 Evl TL
end L3
namespace L3
open PySem PySem.Spec PyProof.Rows L2 Evl TL
end L3
namespace L3
open PySem PySem.Spec PyProof.Rows L2 Evl TL
end L3
namespace L3
open PySem L2 Evl TL
end L3
namespace L3
open PySem PySem.Spec PyProof.Rows L2 Evl TL
end L3
namespace L3
open PySem PySem.Spec PyProof.Rows L2 Evl TL
/-- what is no list still stands -/
def Kt (H H' : Hp) : Prop := ∀ a u, H a = some u → (∀ ys, u ≠ .lst ys) → H' a = some u
end L3
namespace L3
open PySem PySem.Spec PyProof.Rows L2 Evl TL
structure FnG (P : Program) (w : World) (K : PySem.W.Frag) (mg : Str → Option Value) (base : Heap) (k : Nat) (f : Addr) (fd : FuncData) (ps : List Str) (sp : Sp) : Prop where
  len : ∀ vs H Q E, sp vs H Q E → vs.length = ps.length
  run : ∀ (A : Around) (outer : List Env) (s : Shared) (H : Hp) (args : Args) (us : List Value) (vs : List V) (Q : VK) (E : XK), A.guards = some [] → Room k A → Env0 P w K mg base A outer s H →
    BindsTo s fd args (ps.zip us) → Vals vs us → sp vs H Q E → codeAny (model P w) A (.call (.ref f) args) (CR CX0 outer P w H s Q E) s
section
variable {P : Program} {w : World} {K : PySem.W.Frag} {mg : Str → Option Value} {base : Heap} {k : Nat}
theorem fnG_of {f : Addr} {x q : Str} {st : Stmt} {fd : FuncData} {N ps : List Str} {sp : Sp} (F : Fun K x q st f fd) (S : FnScope N ps (defScope st)) (len : ∀ vs H Q E, sp vs H Q E → vs.length = ps.length)
    (hbody : ∀ (cdv : Value) (A : Around) (outer : List Env) (s : Shared) (H : Hp) (vs : List V) (Q : VK) (E : XK), A.guards = some [] → Room k (A.deeper (envOfC q (defScope st) s.heap.objs.size f cdv)) → sp vs H Q E →
      ∃ t, PSs (cxOf CX0 P w K mg base N q (defScope st) f cdv A outer s H E).nox (defBody st) t ∧ t { nx := fun _ H' => Q .non H', rt := Q } (start N vs) H) : FnG P w K mg base (k + 1) f fd ps sp := by
  obtain ⟨oc, od, kV, doc, pm, an, cdv, ct, osl, rfl, lk, hcd⟩ := F.ex
  refine ⟨len, ?_⟩
  intro A outer s H args us vs Q E hg hr e0 hb r hsp
  have keep : ∀ b o, base.get? b = some o → s.heap.get? b = some o := fun b o e => (e0.bs b o e).1
  have KX : K.In s.heap := e0.mod.kin.keeps keep
  have par : ∀ y ∈ ps.zip us, (defScope st).names.lookup y.1 = some .local ∨ ((defScope st).names.lookup y.1 = some .cell ∧ ((cellsFrom (s.heap.objs.size + 1) (defScope st).names []).lookup y.1).isSome = true) := by
    rintro ⟨n, v⟩ hy
    cases S.par n (List.of_mem_zip hy).1 with
    | inl z => exact .inl z
    | inr z => exact .inr ⟨z, PySem.W.cellsFrom_some _ _ _ (.inl z)⟩
  refine codeAny_call_function hr.depth (KX _ _ lk) rfl S.co S.gen rfl (PySem.W.codeRec_of KX hcd) ?_
  refine hb _ _ _ _ ?_
  refine wpAny_newFunctionEnv_cells S.kind par ?_
  rintro env rfl s1 x
  refine ⟨(e0.mod.nolimit.keeps keep).keeps x.toInCall.keep, ?_⟩
  refine codeAny_func ?_
  obtain ⟨t, ht, hq⟩ := hbody cdv A outer s H vs Q E hg (hr.deeper _) hsp
  have I : Inv (cxOf CX0 P w K mg base N q (defScope st) f cdv A outer s H E) [] (start N vs) H s1 := inv_start S hr.hd e0 (len _ _ _ _ hsp) r x
  refine wpAny_mono (ht.nox.run [] s1 (start N vs) H _ I hq) ?_ (fun _ _ z => z)
  intro fl s' hs
  match fl, hs with
  | .ret u, ⟨v, σ', H', J, rv, z⟩ => exact ⟨v, H', J.os, J.bare, J.base, J.hok, rv, z⟩
  | .next, ⟨σ', H', J, z⟩ => exact ⟨.non, H', J.os, J.bare, J.base, J.hok, rfl, z⟩
  | .brk, ⟨_, _, _, z⟩ => exact z.elim
  | .cont, ⟨_, _, _, z⟩ => exact z.elim
end
end L3
namespace L4
open PySem L2
inductive D where
  | non | bl (b : Bool) | int (i : Int) | str (x : Str) | tup (ds : List D) | lst (ds : List D) | scr (ds : List D) | dic (ks vs : List D) | obj (c : Str) (ns : List Str) (vs : List D) | ref (n : Nat) | glo (x : Str) | ty (n : String) | ptp (ds : List D) | tab (q : Str)
instance : Inhabited D := ⟨.non⟩
inductive O where
  | lst (ds : List D) | dic (ks vs : List D) | ins (c : Str) (ns : List Str) (vs : List D)
abbrev M := List O
structure G where
  P : Program
  w : World
  K : PySem.W.Frag
abbrev gx (X : Cx) : G := ⟨X.prog, X.w, X.K⟩
mutual
def nk : D → Option NestedKey
  | .non => some .none
  | .bl b => some (.num (if b then 1 else 0))
  | .int i => some (.num i)
  | .str x => some (.text x)
  | .tup ds => (nks ds).map .tup
  | .lst _ => none
  | .scr _ => none
  | .dic _ _ => none
  | .obj _ _ _ => none
  | .ref _ => none
  | .glo _ => none
  | .ty _ => none
  | .tab _ => none
  | .ptp _ => none
def nks : List D → Option (List NestedKey)
  | [] => some []
  | d :: ds => match nk d, nks ds with
    | some k, some ks => some (k :: ks)
    | _, _ => none
end
/-- a tuple that is a key -/
def nkT : D → Option NestedKey
  | .tup ds => match nks ds with
    | some ks => if (NestedKey.tup ks).depth ≤ 8 then some (.tup ks) else none
    | none => none
  | _ => none
/-- a dict with nested keys, by its own object -/
def dnO (g : G) (a : Addr) (kvs : List (NestedKey × Addr × V)) : HO := .ext fun h => kvs.length ≤ sizeLine ∧ (a == sysModules) = false ∧ ∃ xs : List (NestedKey × Addr × Value),
  Paired (fun (p : NestedKey × Addr × V) (q : NestedKey × Addr × Value) => p.1 = q.1 ∧ p.2.1 = q.2.1 ∧ RelV p.2.2 q.2.2) kvs xs ∧
  ∃ o es ep, h.get? a = some o ∧ o.ExactDict ∧ o.data = .dict es ep ∧ es.toList = xs.map (entryOfKey (nestedKind g.P g.w)) ∧ (xs.map (·.1)).Nodup
/-- the table of the code object of law -/
def tabP (K : PySem.W.Frag) (_ : Str) : Addr := match K.lookup (He.ga K "law") with
  | some ⟨_, _, .func fd, _⟩ => (match fd.code with
    | Value.ref c => (match K.lookup c with
      | some ⟨_, _, .fields vs, _⟩ => (match vs[11]? with
        | some (Value.ref P) => P
        | _ => 0)
      | _ => 0)
    | _ => 0)
  | _ => 0
/-- what is tracked, and what may not be held as plain data -/
structure Tk where
  μ : List Addr
  ν : List Addr
  τ : List (Addr × Str)
  sub : ∀ a ∈ μ, a ∈ ν
  subτ : ∀ p ∈ τ, p.1 ∈ ν
/-- a read list, tuple that is not tracked: in the heap, or of the top -/
def FL (T : Tk) (H : Hp) (a : Addr) (vs : List V) : Prop := a ∉ T.ν ∧ H a = some (.lst vs)
/-- the script -/
def FS (K : PySem.W.Frag) (T : Tk) (H : Hp) (a : Addr) (vs : List V) : Prop := (a ∉ T.ν ∧ ∃ o, H a = some (.frz o (.lst vs))) ∨ SqL K (fun _ => none) a vs
def FT (K : PySem.W.Frag) (T : Tk) (H : Hp) (a : Addr) (vs : List V) : Prop := (a ∉ T.ν ∧ Rd H a (.tup vs)) ∨ SqT K (fun _ => none) a vs
/-- a tuple without a dict of its own, held as it is -/
def FP (T : Tk) (H : Hp) (a : Addr) (vs : List V) : Prop := a ∉ T.ν ∧ ∃ o : Obj, H a = some (.frz o (.tup vs)) ∧ o.dict = none
mutual
inductive Rep (g : G) (T : Tk) (H : Hp) : D → V → Prop
  | non : Rep g T H .non .non
  | bl (b) : Rep g T H (.bl b) (.bl b)
  | int (i) : Rep g T H (.int i) (.int i)
  | str (x) : Rep g T H (.str x) (.str x)
  | tup {a vs ds} : FT g.K T H a vs → RepL g T H ds vs → Rep g T H (.tup ds) (.ref a)
  | lst {a vs ds} : FL T H a vs → RepL g T H ds vs → Rep g T H (.lst ds) (.ref a)
  | scr {a vs ds} : FS g.K T H a vs → RepL g T H ds vs → Rep g T H (.scr ds) (.ref a)
  | dicF {a kvs ks vs} : a ∉ T.ν → Rd H a (.dK kvs) → RepL g T H ks (kvs.map fun p => kV p.1) → RepL g T H vs (kvs.map Prod.snd) → Rep g T H (.dic ks vs) (.ref a)
  | dicN {a kvs ks vs} : a ∉ T.ν → Rd H a (dnO g a kvs) → (ks.map nkT = kvs.map (fun p => some p.1) ∧ kvs ≠ []) → RepL g T H ks (kvs.map fun p => .ref p.2.1) → RepL g T H vs (kvs.map fun p => p.2.2) → Rep g T H (.dic ks vs) (.ref a)
  | obj {a dx fs c ns vs} : a ∉ T.ν → H a = some (.ins (He.ga g.K c) dx fs) → fs.map Prod.fst = ns → RepL g T H vs (fs.map Prod.snd) → Rep g T H (.obj c ns vs) (.ref a)
  | ref {n a} : T.μ[n]? = some a → Rep g T H (.ref n) (.ref a)
  | glo (x) : Rep g T H (.glo x) (.ref (He.ga g.K x))
  | ty (n) : Rep g T H (.ty n) (.ty n)
  | tab {q : Str} : T.τ = [(tabP g.K q, q)] → Rep g T H (.tab q) (.ref (tabP g.K q))
  | ptp {a vs ds} : FP T H a vs → RepL g T H ds vs → Rep g T H (.ptp ds) (.ref a)
inductive RepL (g : G) (T : Tk) (H : Hp) : List D → List V → Prop
  | nil : RepL g T H [] []
  | cons {d v ds vs} : Rep g T H d v → RepL g T H ds vs → RepL g T H (d :: ds) (v :: vs)
end
/-- what came later: what isn't tracked stays, what is newly tracked was new -/
structure Le (T : Tk) (H : Hp) (T' : Tk) (H' : Hp) : Prop where
  pre : T.μ <+: T'.μ
  keep : ∀ a u, H a = some u → a ∉ T.μ → (∀ p ∈ T.τ, p.1 ≠ a) → H' a = some u
  tb : T'.τ = T.τ
  tk : ∀ p ∈ T.τ, ∀ u, H p.1 = some u → ∃ u', H' p.1 = some u'
  new : ∀ a ∈ T'.ν, a ∉ T.ν → H a = none
  newμ : ∀ a ∈ T'.μ, a ∉ T.μ → H a = none
  up : ∀ a ∈ T.ν, a ∈ T'.ν
section
variable {g : G} {T T1 T2 : Tk} {H H1 H2 : Hp}
theorem Tk.out {a : Addr} (h : a ∉ T.ν) : a ∉ T.μ := fun z => h (T.sub a z)
theorem Tk.outτ {a : Addr} (h : a ∉ T.ν) : ∀ p ∈ T.τ, p.1 ≠ a := fun p hp e => h (e ▸ T.subτ p hp)
theorem Le.refl : Le T H T H := ⟨List.prefix_rfl, fun _ _ h _ _ => h, rfl, fun _ _ u h => ⟨u, h⟩, fun _ h n => absurd h n, fun _ h n => absurd h n, fun _ h => h⟩
theorem Le.out (l : Le T H T1 H1) {a : Addr} {u : HO} (h : H a = some u) (n : a ∉ T.ν) : a ∉ T1.ν := fun z => by rw [l.new a z n] at h; cases h
theorem Le.rd (l : Le T H T1 H1) {a : Addr} {u : HO} (h : Rd H a u) (n : a ∉ T.ν) : Rd H1 a u ∧ a ∉ T1.ν := by
  rcases h with h | ⟨o, h⟩
  · exact ⟨.inl (l.keep _ _ h (Tk.out n) (Tk.outτ n)), l.out h n⟩
  · exact ⟨.inr ⟨o, l.keep _ _ h (Tk.out n) (Tk.outτ n)⟩, l.out h n⟩
theorem Le.get (l : Le T H T1 H1) {n : Nat} {a : Addr} (h : T.μ[n]? = some a) : T1.μ[n]? = some a := by
  obtain ⟨t, e⟩ := l.pre
  rw [← e, List.getElem?_append_left (List.getElem?_eq_some_iff.mp h).1]
  exact h
theorem FL.le {a : Addr} {vs : List V} (l : Le T H T1 H1) (h : FL T H a vs) : FL T1 H1 a vs := ⟨l.out h.2 h.1, l.keep _ _ h.2 (Tk.out h.1) (Tk.outτ h.1)⟩
theorem FS.le {K : PySem.W.Frag} {a : Addr} {vs : List V} (l : Le T H T1 H1) (h : FS K T H a vs) : FS K T1 H1 a vs := by
  rcases h with ⟨n, o, h⟩ | h
  · exact .inl ⟨l.out h n, o, l.keep _ _ h (Tk.out n) (Tk.outτ n)⟩
  · exact .inr h
theorem FT.le {K : PySem.W.Frag} {a : Addr} {vs : List V} (l : Le T H T1 H1) (h : FT K T H a vs) : FT K T1 H1 a vs := by
  rcases h with ⟨n, h⟩ | h
  · exact .inl ⟨(l.rd h n).2, (l.rd h n).1⟩
  · exact .inr h
theorem FP.le {a : Addr} {vs : List V} (l : Le T H T1 H1) (h : FP T H a vs) : FP T1 H1 a vs := by
  obtain ⟨n, o, h, e⟩ := h
  exact ⟨l.out h n, o, l.keep _ _ h (Tk.out n) (Tk.outτ n), e⟩
theorem FL.sq {K : PySem.W.Frag} {a : Addr} {vs : List V} (h : FL T H a vs) : SqL K H a vs := .of h.2
theorem FS.sq {K : PySem.W.Frag} {a : Addr} {vs : List V} (h : FS K T H a vs) : SqL K H a vs := by
  rcases h with ⟨n, o, h⟩ | h | h
  · exact .inl (.inr ⟨o, h⟩)
  · rcases h with h | ⟨_, h⟩ <;> cases h
  · exact .inr h
theorem FT.sq {K : PySem.W.Frag} {a : Addr} {vs : List V} (h : FT K T H a vs) : SqT K H a vs := by
  rcases h with ⟨n, h⟩ | h | h
  · exact .inl h
  · rcases h with h | ⟨_, h⟩ <;> cases h
  · exact .inr h
mutual
theorem Rep.le (l : Le T H T1 H1) : ∀ {d : D} {v : V}, Rep g T H d v → Rep g T1 H1 d v
  | _, _, .non => .non
  | _, _, .bl b => .bl b
  | _, _, .int i => .int i
  | _, _, .str x => .str x
  | _, _, .tup f r => .tup (f.le l) (RepL.le l r)
  | _, _, .lst f r => .lst (f.le l) (RepL.le l r)
  | _, _, .scr f r => .scr (f.le l) (RepL.le l r)
  | _, _, .dicF n h r q => .dicF (l.rd h n).2 (l.rd h n).1 (RepL.le l r) (RepL.le l q)
  | _, _, .dicN n h e r q => .dicN (l.rd h n).2 (l.rd h n).1 e (RepL.le l r) (RepL.le l q)
  | _, _, .obj n h e r => .obj (l.out h n) (l.keep _ _ h (Tk.out n) (Tk.outτ n)) e (RepL.le l r)
  | _, _, .ref h => .ref (l.get h)
  | _, _, .glo x => .glo x
  | _, _, .ty n => .ty n
  | _, _, .tab h => .tab (by rw [l.tb]; exact h)
  | _, _, .ptp f r => .ptp (f.le l) (RepL.le l r)
theorem RepL.le (l : Le T H T1 H1) : ∀ {ds : List D} {vs : List V}, RepL g T H ds vs → RepL g T1 H1 ds vs
  | _, _, .nil => .nil
  | _, _, .cons r s => .cons (Rep.le l r) (RepL.le l s)
end
theorem RepL.length : ∀ {ds : List D} {vs : List V}, RepL g T H ds vs → ds.length = vs.length
  | _, _, .nil => rfl
  | _, _, .cons _ s => by simp [RepL.length s]
theorem RepL.get : ∀ {ds : List D} {vs : List V} {i : Nat} {d : D}, RepL g T H ds vs → ds[i]? = some d → ∃ v, vs[i]? = some v ∧ Rep g T H d v
  | _, _, 0, _, .cons r _, h => by cases h; exact ⟨_, rfl, r⟩
  | _, _, i + 1, _, .cons _ s, h => by obtain ⟨v, e, q⟩ := RepL.get (i := i) s (by simpa using h); exact ⟨v, by simpa using e, q⟩
  | _, _, 0, _, .nil, h => by cases h
  | _, _, i + 1, _, .nil, h => by cases h
theorem RepL.back : ∀ {ds : List D} {vs : List V} {i : Nat} {v : V}, RepL g T H ds vs → vs[i]? = some v → ∃ d, ds[i]? = some d ∧ Rep g T H d v
  | _, _, 0, _, .cons r _, h => by cases h; exact ⟨_, rfl, r⟩
  | _, _, i + 1, _, .cons _ s, h => by obtain ⟨v, e, q⟩ := RepL.back (i := i) s (by simpa using h); exact ⟨v, by simpa using e, q⟩
  | _, _, 0, _, .nil, h => by cases h
  | _, _, i + 1, _, .nil, h => by cases h
theorem RepL.append : ∀ {ds es : List D} {vs us : List V}, RepL g T H ds vs → RepL g T H es us → RepL g T H (ds ++ es) (vs ++ us)
  | _, _, _, _, .nil, h => h
  | _, _, _, _, .cons r s, h => .cons r (RepL.append s h)
theorem RepL.of {ds : List D} {vs : List V} (hl : ds.length = vs.length) (h : ∀ (i : Nat) d v, ds[i]? = some d → vs[i]? = some v → Rep g T H d v) : RepL g T H ds vs := by
  induction ds generalizing vs with
  | nil => cases vs with
    | nil => exact .nil
    | cons _ _ => cases hl
  | cons d ds ih => cases vs with
    | nil => cases hl
    | cons v vs => exact .cons (h 0 d v rfl rfl) (ih (by simpa using hl) fun i e u p q => h (i + 1) e u (by simpa using p) (by simpa using q))
/-- a tracked object -/
inductive RepO (g : G) (T : Tk) (H : Hp) (a : Addr) : O → Prop
  | lst {ds vs} : H a = some (.lst vs) → RepL g T H ds vs → RepO g T H a (.lst ds)
  | dicF {kvs ks vs} : H a = some (.dK kvs) → RepL g T H ks (kvs.map fun p => kV p.1) → RepL g T H vs (kvs.map Prod.snd) → RepO g T H a (.dic ks vs)
  | dicN {kvs ks vs} : H a = some (dnO g a kvs) → (ks.map nkT = kvs.map (fun p => some p.1) ∧ kvs ≠ []) → RepL g T H ks (kvs.map fun p => .ref p.2.1) → RepL g T H vs (kvs.map fun p => p.2.2) → RepO g T H a (.dic ks vs)
  | ins {dx fs c ns vs} : H a = some (.ins (He.ga g.K c) dx fs) → fs.map Prod.fst = ns → RepL g T H vs (fs.map Prod.snd) → RepO g T H a (.ins c ns vs)
/-- an object that may change -/
def Mu : HO → Prop
  | .lst _ => True
  | .dK _ => True
  | .ext _ => True
  | .ins _ _ _ => True
  | .tbl _ => True
  | _ => False
/-- the table at P: each code object that it tells is known, bears the name q, and is not tracked -/
def TabC (T : Tk) (H : Hp) (P : Addr) (q : Str) : Prop := ∃ ps : Array Value, H P = some (.tbl ps) ∧ TriplesOk ps.toList ∧ ∀ (pos : Pos) (cv : Value), codeAmong pos ps.toList = some cv → ∃ c, cv = .ref c ∧ c ∉ T.ν ∧ H c = some (LamX.CodeO c q)
structure RepH (g : G) (T : Tk) (H : Hp) (m : M) : Prop where
  len : T.μ.length = m.length
  nd : T.μ.Nodup
  has : ∀ a ∈ T.ν, ∃ u, H a = some u ∧ Mu u
  at_ : ∀ (n : Nat) a o, T.μ[n]? = some a → m[n]? = some o → RepO g T H a o
  tabs : ∀ p ∈ T.τ, p.1 ∉ T.μ ∧ TabC T H p.1 p.2
/-- what a table tells stays told, if it and its code objects stay -/
theorem TabC.le {P : Addr} {q : Str} (x : TabC T H P q) (k : ∀ u, H P = some u → H1 P = some u) (l : ∀ c u, c ∉ T.ν → H c = some u → c ∉ T1.ν ∧ H1 c = some u) : TabC T1 H1 P q := by
  obtain ⟨ps, h1, h2, h3⟩ := x
  refine ⟨ps, k _ h1, h2, fun pos cv hc => ?_⟩
  obtain ⟨c, e1, e2, e3⟩ := h3 pos cv hc
  exact ⟨c, e1, (l c _ e2 e3).1, (l c _ e2 e3).2⟩
theorem RepO.le {a : Addr} {o : O} (l : Le T H T1 H1) (e : H1 a = H a) (r : RepO g T H a o) : RepO g T1 H1 a o := by
  cases r with
  | lst h r => exact .lst (e.trans h) (r.le l)
  | dicF h r q => exact .dicF (e.trans h) (r.le l) (q.le l)
  | dicN h k r q => exact .dicN (e.trans h) k (r.le l) (q.le l)
  | ins h k r => exact .ins (e.trans h) k (r.le l)
theorem RepO.has {a : Addr} {o : O} (r : RepO g T H a o) : ∃ u, H a = some u ∧ Mu u := by
  cases r with
  | lst h _ => exact ⟨_, h, trivial⟩
  | dicF h _ _ => exact ⟨_, h, trivial⟩
  | dicN h _ _ _ => exact ⟨_, h, trivial⟩
  | ins h _ _ => exact ⟨_, h, trivial⟩
variable {m : M}
theorem RepH.nope (r : RepH g T H m) {p : Addr} (h : H p = none) : p ∉ T.ν := fun z => by obtain ⟨u, e, _⟩ := r.has p z; rw [h] at e; cases e
/-- what isn't tracked may change as long as what there is stays -/
theorem RepH.grow (r : RepH g T H m) (k : ∀ a u, H a = some u → H1 a = some u) : Le T H T H1 ∧ RepH g T H1 m := by
  have l : Le T H T H1 := ⟨List.prefix_rfl, fun a u e _ _ => k a u e, rfl, fun p _ u e => ⟨u, k _ u e⟩, fun a h n => absurd h n, fun a h n => absurd h n, fun _ h => h⟩
  refine ⟨l, r.len, r.nd, fun a h => ?_, fun n a o h1 h2 => (r.at_ n a o h1 h2).le l ?_, fun p hp => ⟨(r.tabs p hp).1, (r.tabs p hp).2.le (k _) fun c u n e => ⟨n, k c u e⟩⟩⟩
  · obtain ⟨u, e, z⟩ := r.has a h
    exact ⟨u, k a u e, z⟩
  · obtain ⟨v, e, _⟩ := (r.at_ n a o h1 h2).has
    rw [e, k a v e]
/-- a new object that isn't tracked -/
theorem RepH.fresh (r : RepH g T H m) {p : Addr} {u : HO} (h : H p = none) : Le T H T (upd H p u) ∧ RepH g T (upd H p u) m :=
  r.grow fun a v e => by rw [upd_ne (ne_of_none e h)]; exact e
def Tk.push (T : Tk) (p : Addr) : Tk := ⟨T.μ ++ [p], T.ν ++ [p], T.τ, fun a h => by
  rcases List.mem_append.mp h with z | z
  · exact List.mem_append_left _ (T.sub a z)
  · exact List.mem_append_right _ z, fun p h => List.mem_append_left _ (T.subτ p h)⟩
/-- a new object that is tracked -/
theorem RepH.push (r : RepH g T H m) {p : Addr} {u : HO} {o : O} (h : H p = none) (q : Le T H (T.push p) (upd H p u) → RepO g (T.push p) (upd H p u) p o) : Le T H (T.push p) (upd H p u) ∧ RepH g (T.push p) (upd H p u) (m ++ [o]) := by
  have l : Le T H (T.push p) (upd H p u) := ⟨List.prefix_append _ _, fun a v e _ _ => by rw [upd_ne (ne_of_none e h)]; exact e, rfl, fun q _ v e => ⟨v, by rw [upd_ne (ne_of_none e h)]; exact e⟩, fun a ha n => by
    rcases List.mem_append.mp ha with z | z
    · exact absurd z n
    · rw [List.mem_singleton.mp z]; exact h, fun a ha n => by
    rcases List.mem_append.mp ha with z | z
    · exact absurd z n
    · rw [List.mem_singleton.mp z]; exact h, fun a ha => List.mem_append_left _ ha⟩
  have np : p ∉ T.μ := Tk.out (r.nope h)
  refine ⟨l, by simp [Tk.push, r.len], List.nodup_append.mpr ⟨r.nd, by simp, fun a ha b hb => by rw [List.mem_singleton.mp hb]; rintro rfl; exact np ha⟩, fun a ha => ?_, fun n a o' h1 h2 => ?_, fun q hq => ⟨fun z => ?_, ?_⟩⟩
  · rcases List.mem_append.mp ha with z | z
    · obtain ⟨v, e, q⟩ := r.has a z
      exact ⟨v, by rw [upd_ne (ne_of_none e h)]; exact e, q⟩
    · rw [List.mem_singleton.mp z]
      exact (q l).has
  · by_cases hn : n < T.μ.length
    · change (T.μ ++ [p])[n]? = _ at h1
      rw [List.getElem?_append_left hn] at h1
      rw [List.getElem?_append_left (by rw [← r.len]; exact hn)] at h2
      refine (r.at_ n a o' h1 h2).le l ?_
      obtain ⟨v, e, _⟩ := (r.at_ n a o' h1 h2).has
      rw [upd_ne (ne_of_none e h)]
    · change (T.μ ++ [p])[n]? = _ at h1
      rw [List.getElem?_append_right (by omega)] at h1
      rw [List.getElem?_append_right (by rw [← r.len]; omega), ← r.len] at h2
      generalize n - T.μ.length = k at h1 h2
      cases k with
      | zero => cases h1; cases h2; exact q l
      | succ k => cases h1
  · rcases List.mem_append.mp z with z | z
    · exact (r.tabs q hq).1 z
    · obtain ⟨ps, e, _⟩ := (r.tabs q hq).2
      rw [List.mem_singleton.mp z, h] at e
      cases e
  · refine (r.tabs q hq).2.le (fun v e => by rw [upd_ne (ne_of_none e h)]; exact e) fun c v n e => ⟨fun z => ?_, by rw [upd_ne (ne_of_none e h)]; exact e⟩
    rcases List.mem_append.mp z with z | z
    · exact n z
    · rw [List.mem_singleton.mp z, h] at e
      cases e
/-- a tracked object is changed -/
theorem RepH.put (r : RepH g T H m) {n : Nat} {a : Addr} {u : HO} {o : O} (h : T.μ[n]? = some a) (q : Le T H T (upd H a u) → RepO g T (upd H a u) a o) : Le T H T (upd H a u) ∧ RepH g T (upd H a u) (m.set n o) := by
  have ha : a ∈ T.μ := List.mem_of_getElem? h
  have l : Le T H T (upd H a u) := ⟨List.prefix_rfl, fun b v e nb _ => by rw [upd_ne (show b ≠ a by rintro rfl; exact nb ha)]; exact e, rfl, fun q _ v e => by
    by_cases z : q.1 = a
    · exact ⟨u, by rw [z, upd_same]⟩
    · exact ⟨v, by rw [upd_ne z]; exact e⟩, fun b h n => absurd h n, fun b h n => absurd h n, fun _ h => h⟩
  refine ⟨l, by simp [r.len], r.nd, fun b hb => ?_, fun k b o' h1 h2 => ?_, fun q hq => ⟨(r.tabs q hq).1, (r.tabs q hq).2.le (fun v e => ?_) fun c v n e => ⟨n, ?_⟩⟩⟩
  · by_cases z : b = a
    · rw [z]
      exact (q l).has
    · obtain ⟨v, e, w⟩ := r.has b hb
      exact ⟨v, by rw [upd_ne z]; exact e, w⟩
  · by_cases hk : n = k
    · subst hk
      rw [h] at h1
      cases h1
      have hl : n < m.length := by rw [← r.len]; exact (List.getElem?_eq_some_iff.mp h).1
      rw [List.getElem?_set_self hl] at h2
      cases h2
      exact q l
    rw [List.getElem?_set_ne hk] at h2
    refine (r.at_ k b o' h1 h2).le l ?_
    have : b ≠ a := by
      rintro rfl
      exact hk ((List.getElem?_inj (List.getElem?_eq_some_iff.mp h).1 r.nd).mp (h.trans h1.symm))
    rw [upd_ne this]
  · rw [upd_ne (fun z => (r.tabs q hq).1 (by rw [z]; exact ha))]
    exact e
  · rw [upd_ne (fun z => n (T.sub c (by rw [z]; exact ha)))]
    exact e
theorem Le.trans (l : Le T H T1 H1) (m : Le T1 H1 T2 H2) : Le T H T2 H2 := by
  have key : ∀ a u, H a = some u → a ∉ T.μ → a ∉ T1.μ := fun a u h n z => by rw [l.newμ a z n] at h; cases h
  refine ⟨l.pre.trans m.pre, fun a u h n t => m.keep a u (l.keep a u h n t) (key a u h n) (by rw [l.tb]; exact t), m.tb.trans l.tb, fun p hp u h => ?_, fun a h n => ?_, fun a h n => ?_, fun a h => m.up a (l.up a h)⟩
  · obtain ⟨v, e⟩ := l.tk p hp u h
    exact m.tk p (by rw [l.tb]; exact hp) v e
  · cases e : H a with
    | none => rfl
    | some u =>
      have := m.new a h (l.out e n)
      rw [l.keep a u e (Tk.out n) (Tk.outτ n)] at this
      cases this
  · cases e : H a with
    | none => rfl
    | some u =>
      have := m.newμ a h (key a u e n)
      by_cases t : ∃ p ∈ T.τ, p.1 = a
      · obtain ⟨p, hp, rfl⟩ := t
        obtain ⟨v, e2⟩ := l.tk p hp u e
        rw [e2] at this
        cases this
      · rw [l.keep a u e n fun p hp z => t ⟨p, hp, z⟩] at this
        cases this
end
end L4
namespace L4
open PySem PySem.Spec PyProof.Rows L2
def tup0B (K : PySem.W.Frag) (a : Addr) : Bool := match K.lookup a with
  | some ⟨.type c, _, .seq its _, _⟩ => decide (c = "tuple") && its.toList.isEmpty
  | _ => false
def mdefD (c m q : PySem.Str) (st : Stmt) : He5.DefA := ⟨fun K => He.ma K (He.ga K c) m, m, q, L2.defArgs st, L2.defBody st, L2.defScope st, [.adr (He.dflAt (c, some m) 0)], []⟩
def itaB (K : PySem.W.Frag) (c : Str) : Bool := ["int", "bool", "str", "tuple", "list"].all fun t => decide (PySem.W.kitOne K (.ref (He.ga K c)) (.type t) = some false)
def xcB (K : PySem.W.Frag) (C : Addr) : Bool := (PySem.W.clsIn K C).isSome && (He.eqO (PySem.W.findIn K (.ref C) "__getattribute__") (some (some (.builtin "BaseException.__getattribute__"))) && (He.eqO (PySem.W.findIn K (.ref C) "__getattr__") (some none) && (decide (PySem.W.subIn K (.ref C) (.type "BaseException") = some true) &&
  (PySem.W.hasDictIn K C && (He.eqO (PySem.W.findIn K (.ref C) "__class__") (some (some (.builtin "object.__class__"))) && (He.eqO (PySem.W.specialIn K (.builtin "object.__class__") "__get__") (some (some (.builtin "getset_descriptor.__get__"))) && (decide (PySem.W.takesIn K (.builtin "object.__class__") = some true) &&
  (decide (PySem.W.mroIn K C (.type "object") = some true) && (decide (PySem.W.typeIn K (.ref C) = some (.type "type")) && PySem.W.keepIn K (.ref C))))))))))
def xmB (K : PySem.W.Frag) (y c : Str) (b : Bool) : Bool := decide (PySem.W.exmOne K (.ref (He.ga K y)) (.ref (He.ga K c)) = some b)
def xiB (K : PySem.W.Frag) (y c : Str) (b : Bool) : Bool := decide (PySem.W.kitOne K (.ref (He.ga K y)) (.ref (He.ga K c)) = some b)
def xfB (K : PySem.W.Frag) (c n : Str) : Bool := He.eqO (PySem.W.findIn K (.ref (He.ga K c)) n) (some none)
def oiShape (x w : Str) : List Stmt → Bool
  | [.Expr (.Call (.Attribute (.Call (.Name s _) [] [] _) i p2) [.Name x1 _] [] p4) _, .Assign [.Attribute (.Name s2 _) w1 _] (.Name x2 _) _] => s == ("super" : Str) && (i == ("__init__" : Str) && (x1 == x && (s2 == ("self" : Str) && (w1 == w && (x2 == x && p2.endLine == p4.line)))))
  | _ => false
def oiParams (x : Str) : Arguments → Bool
  | ⟨[], [⟨s, none, _⟩, ⟨y, none, _⟩], none, [], [], none, []⟩ => s == ("self" : Str) && y == x
  | _ => false
def oiClo (K : PySem.W.Frag) (C : Addr) : List (Str × Addr) → Bool
  | [(n, cc)] => n == ("__class__" : Str) && (match K.lookup cc with
    | some ⟨_, _, .cell (some (.ref D)), _⟩ => D == C
    | _ => false)
  | _ => false
def oiCode (K : PySem.W.Frag) (file : Str) : Value → Bool
  | .ref cda => (match K.lookup cda with
    | some ⟨_, _, .fields vs, _⟩ => (match (vs[2]? : Option Value) with
      | some (.str fl _) => fl == file
      | _ => false)
    | _ => false)
  | _ => false
def noneB : Value → Bool
  | .none => true
  | _ => false
def oiFd (K : PySem.W.Frag) (C : Addr) (x w file : Str) (fd : FuncData) : Bool :=
  (match fd.body with
    | .stmts b => oiShape x w b
    | _ => false) && (oiParams x fd.params && (oiClo K C fd.closure && (oiCode K file fd.code && (PySem.W.codeIn K fd.code fd.qualname && (decide (fd.globals = mainGlobals) && (decide (fd.builtins = builtinsNs) &&
  (decide (fd.scope.names.lookup ("super" : Str) = some .globalImplicit) && (decide (fd.scope.names.lookup ("__class__" : Str) = some .free) && (decide (fd.scope.names.lookup ("self" : Str) = some .local) && (decide (fd.scope.names.lookup x = some .local) &&
  (decide (fd.scope.kind = .function) && (!fd.scope.isCoroutine && (!fd.scope.isGenerator && ((fd.scope.names.all fun z => decide (z.2 ≠ .cell)) && (!(x == ("self" : Str)) && (!(x == ("__debug__" : Str)) && (noneB fd.defaults && noneB fd.kwdefaults)))))))))))))))))
def oiCls (K : PySem.W.Frag) (C : Addr) : Bool := match K.lookup C with
  | some ⟨.type "type", _, .cls cd, sl⟩ => (match cd.mro, sl.toList with
    | .ref C' :: bm, [_, _, _, _, some (.builtin n), _] => C' == C && n == "ValueError.__new__" && !cd.hasDel && cd.hasDict && PySem.HandSPX.refsVE bm
    | _, _ => false)
  | _ => false
def oiB (K : PySem.W.Frag) (c x w file : Str) : Bool := match PySem.W.findIn K (.ref (He.ga K c)) "__init__" with
  | some (some (.ref f)) => decide (PySem.W.typeIn K (.ref f) = some (.type "function")) && ((match K.lookup f with
      | some ⟨_, _, .func fd, _⟩ => oiFd K (He.ga K c) x w file fd
      | _ => false) && (oiCls K (He.ga K c) && (He.eqO (PySem.W.findIn K (.ref (He.ga K c)) "__setattr__") (some (some (.builtin "object.__setattr__"))) && (He.eqO (PySem.W.findIn K (.ref (He.ga K c)) w) (some none) &&
      (He.eqO (PySem.W.nsIn K mainGlobals "super") (some none) && (He.eqO (PySem.W.nsIn K cStatics "thirdparty.any") (some none) && (He.eqO (PySem.W.ks_superIn K (He.ga K c) (He.ga K c) "__init__") (some (some (.builtin "ValueError.__init__"))) &&
      (decide (PySem.W.subIn K (.ref (He.ga K c)) (.type "ValueError") = some true) && (decide (PySem.W.mroIn K (He.ga K c) (.ref (He.ga K c)) = some true) && (PySem.W.excInitIn K (He.ga K c) He.veBase "ValueError.__new__" && xcB K (He.ga K c)))))))))))
  | _ => false
end L4
namespace L4
open PySem PySem.Spec PyProof.Rows L2 LamX
theorem and2h {a b : Bool} (h : (a && b) = true) : a = true ∧ b = true := by cases a <;> cases b <;> first | exact ⟨rfl, rfl⟩ | cases h
def emptyB : Option Obj → Bool
  | some ⟨.none, none, .fields vs, sl⟩ => decide (vs.size = 0) && decide (sl.size = 0)
  | _ => false
theorem emptyB_ok {o : Option Obj} (h : emptyB o = true) : o = some { cls := .none, data := .fields #[] } := by
  unfold emptyB at h
  split at h
  · next vs sl =>
    obtain ⟨h1, h2⟩ := and2h h
    have e1 := Array.eq_empty_of_size_eq_zero (of_decide_eq_true h1)
    have e2 := Array.eq_empty_of_size_eq_zero (of_decide_eq_true h2)
    rw [e1, e2]
  · cases h
def strV : Value → Bool
  | .str _ _ => true
  | _ => false
def intV : Value → Bool
  | .int _ _ => true
  | _ => false
def boolV : Value → Bool
  | .bool _ => true
  | _ => false
theorem strV_ok {a : Value} (h : strV a = true) : ∃ x y, a = .str x y := by cases a <;> first | exact ⟨_, _, rfl⟩ | cases h
theorem intV_ok {a : Value} (h : intV a = true) : ∃ x y, a = .int x y := by cases a <;> first | exact ⟨_, _, rfl⟩ | cases h
theorem boolV_ok {a : Value} (h : boolV a = true) : ∃ x, a = .bool x := by cases a <;> first | exact ⟨_, rfl⟩ | cases h
def codeHdB (K : PySem.W.Frag) (c P : Addr) : Bool := match K.lookup c with
  | some ⟨.type t, _, .fields vs, _⟩ => decide (t = "code") && ((match (vs[11]? : Option Value) with | some (Value.ref p) => decide (p = P) | _ => false) && (strV (vs.getD 18 .none) && (intV (vs.getD 7 .none) && (boolV (vs.getD 9 .none) && (intV (vs.getD 10 .none) && decide (c ≠ P))))))
  | _ => false
theorem codeHdB_ok {K : PySem.W.Frag} {c P : Addr} {h : Heap} (X : K.In h) (e : codeHdB K c P = true) : PySem.W.CodeHd h c P := by
  unfold codeHdB at e
  split at e
  · next t d vs sl hl =>
    obtain ⟨h1, e⟩ := and2h e
    obtain ⟨h2, e⟩ := and2h e
    obtain ⟨h3, e⟩ := and2h e
    obtain ⟨h4, e⟩ := and2h e
    obtain ⟨h5, e⟩ := and2h e
    obtain ⟨h6, h7⟩ := and2h e
    have h1 := of_decide_eq_true h1
    subst h1
    split at h2
    · next p hp =>
      have h2 := of_decide_eq_true h2
      subst h2
      have hg : vs.getD 11 Value.none = .ref p := by
        rw [Array.getD_eq_getD_getElem?, hp]
        rfl
      have k3 := strV_ok h3
      have k4 := intV_ok h4
      have k5 := boolV_ok h5
      have k6 := intV_ok h6
      obtain ⟨a1, a2, k3⟩ := k3
      obtain ⟨b1, b2, k4⟩ := k4
      obtain ⟨c1, k5⟩ := k5
      obtain ⟨d1, d2, k6⟩ := k6
      exact ⟨_, vs, a1, a2, b1, b2, c1, d1, d2, X c _ hl, rfl, rfl, hp, hg, by assumption, by assumption, by assumption, by assumption, of_decide_eq_true h7⟩
    · cases h2
  · cases e
def lawTabB (K : PySem.W.Frag) (g : Addr → Option Obj) : Bool := match K.lookup (He.ga K "law") with
  | some ⟨_, _, .func fd, _⟩ => (match fd.code with
    | Value.ref c => codeHdB K c (tabP K "") && (emptyB (g (tabP K "")) && (K.lookup (tabP K "")).isNone)
    | _ => false)
  | _ => false
/-- the law's own code object, its table -/
def LawTab (K : PySem.W.Frag) (h : Heap) : Prop := ∃ oc od fd osl c, K.lookup (He.ga K "law") = some ⟨oc, od, .func fd, osl⟩ ∧ fd.code = Value.ref c ∧ PySem.W.CodeHd h c (tabP K "") ∧ h.get? (tabP K "") = some { cls := .none, data := .fields #[] } ∧ K.lookup (tabP K "") = none
theorem lawTab_of {K : PySem.W.Frag} {h : Heap} (X : K.In h) (e : lawTabB K h.get? = true) : LawTab K h := by
  unfold lawTabB at e
  split at e
  · next oc od fd osl hl =>
    split at e
    · next c hc =>
      obtain ⟨h1, e⟩ := and2h e
      obtain ⟨h2, h3⟩ := and2h e
      exact ⟨oc, od, fd, osl, c, hl, hc, codeHdB_ok X h1, emptyB_ok h2, Option.isNone_iff_eq_none.mp h3⟩
    · cases e
  · cases e
theorem LawTab.keeps {K : PySem.W.Frag} {h h' : Heap} (x : LawTab K h) (k : ∀ b o, h.get? b = some o → h'.get? b = some o) : LawTab K h' := by
  obtain ⟨oc, od, fd, osl, c, h1, h2, h3, h4, h5⟩ := x
  refine ⟨oc, od, fd, osl, c, h1, h2, ?_, k _ _ h4, h5⟩
  obtain ⟨o, vs, file, tf, flags, tg, inF, text, tt, e1, r⟩ := h3
  exact ⟨o, vs, file, tf, flags, tg, inF, text, tt, k _ _ e1, r⟩
end L4
namespace L4
open PySem L2 TL
open L3 (Df Md Ki Cmd)
def top (i : Nat) : Stmt := PySem.Challenge.pw_sitout_k09_roads_refused.main.body.getD i (.Pass ⟨0, 0, 0, 0⟩)
abbrev s__law_deal : Stmt := top 20
theorem sc__law_deal : FnScope ["_law_script", "_law_base", "_law_cell", "_law_cells", "_law_mixed_here", "_law_great"] ["_law_script", "_law_base"] (defScope s__law_deal) := ⟨rfl, rfl, rfl, by decide +kernel, rfl, by decide +kernel, by decide +kernel⟩
abbrev s__law_draw : Stmt := top 21
theorem sc__law_draw : FnScope ["_law_deal_here", "_law_many", "_law_digit", "_law_first", "_law_second"] ["_law_deal_here", "_law_many"] (defScope s__law_draw) := ⟨rfl, rfl, rfl, by decide +kernel, rfl, by decide +kernel, by decide +kernel⟩
abbrev s__law_pick : Stmt := top 22
theorem sc__law_pick : FnScope ["_law_deal_here", "_law_some"] ["_law_deal_here", "_law_some"] (defScope s__law_pick) := ⟨rfl, rfl, rfl, by decide +kernel, rfl, by decide +kernel, by decide +kernel⟩
abbrev s__law_good : Stmt := top 27
theorem sc__law_good : FnScope ["_law_deal_here", "_law_callers", "_law_servers", "_law_caller", "_law_server"] ["_law_deal_here", "_law_callers", "_law_servers"] (defScope s__law_good) := ⟨rfl, rfl, rfl, by decide +kernel, rfl, by decide +kernel, by decide +kernel⟩
abbrev s__law_told : Stmt := top 25
theorem sc__law_told : FnScope ["_law_work", "_law_found", "e"] ["_law_work"] (defScope s__law_told) := ⟨rfl, rfl, rfl, by decide +kernel, rfl, by decide +kernel, by decide +kernel⟩
abbrev s_is_integer : Stmt := top 9
theorem sc_is_integer : FnScope ["value"] ["value"] (defScope s_is_integer) := ⟨rfl, rfl, rfl, by decide +kernel, rfl, by decide +kernel, by decide +kernel⟩
abbrev s_is_from : Stmt := top 10
theorem sc_is_from : FnScope ["value", "least"] ["value", "least"] (defScope s_is_from) := ⟨rfl, rfl, rfl, by decide +kernel, rfl, by decide +kernel, by decide +kernel⟩
abbrev s_is_sequence : Stmt := top 11
theorem sc_is_sequence : FnScope ["value"] ["value"] (defScope s_is_sequence) := ⟨rfl, rfl, rfl, by decide +kernel, rfl, by decide +kernel, by decide +kernel⟩
abbrev s_number_in : Stmt := top 12
theorem sc_number_in : FnScope ["word", "most", "sign"] ["word", "most"] (defScope s_number_in) := ⟨rfl, rfl, rfl, by decide +kernel, rfl, by decide +kernel, by decide +kernel⟩
abbrev s_event_in : Stmt := top 15
theorem sc_event_in : FnScope ["text", "words", "numbers", "word"] ["text"] (defScope s_event_in) := ⟨rfl, rfl, rfl, by decide +kernel, rfl, by decide +kernel, by decide +kernel⟩
abbrev s_event_of : Stmt := top 16
theorem sc_event_of : FnScope ["value", "callers", "servers", "event"] ["value", "callers", "servers"] (defScope s_event_of) := ⟨rfl, rfl, rfl, by decide +kernel, rfl, by decide +kernel, by decide +kernel⟩
abbrev s_events_of : Stmt := top 17
theorem sc_events_of : FnScope ["values", "callers", "servers", "found", "value"] ["values", "callers", "servers"] (defScope s_events_of) := ⟨rfl, rfl, rfl, by decide +kernel, rfl, by decide +kernel, by decide +kernel⟩
abbrev s_Road___init__ : Stmt := inClass (top 18) 0
theorem sc_Road___init__ : FnScope ["self", "callers", "servers", "events"] ["self", "callers", "servers", "events"] (defScope s_Road___init__) := ⟨rfl, rfl, rfl, by decide +kernel, rfl, by decide +kernel, by decide +kernel⟩
abbrev s__law_value : Stmt := top 24
theorem sc__law_value : FnScope ["_law_deal_here", "_law_deep", "_law_form", "_law_some", "_law_k"] ["_law_deal_here", "_law_deep"] (defScope s__law_value) := ⟨rfl, rfl, rfl, by decide +kernel, rfl, by decide +kernel, by decide +kernel⟩
abbrev s_Road_further : Stmt := inClass (top 18) 3
theorem sc_Road_further : FnScope ["self", "events"] ["self", "events"] (defScope s_Road_further) := ⟨rfl, rfl, rfl, by decide +kernel, rfl, by decide +kernel, by decide +kernel⟩
abbrev s__law_mixed : Stmt := top 23
theorem sc__law_mixed : FnScope ["_law_deal_here", "_law_some", "_law_left", "_law_found"] ["_law_deal_here", "_law_some"] (defScope s__law_mixed) := ⟨rfl, rfl, rfl, by decide +kernel, rfl, by decide +kernel, by decide +kernel⟩
abbrev s__law_bad : Stmt := top 26
theorem sc__law_bad : FnScope ["_law_callers", "_law_servers", "_law_some"] ["_law_callers", "_law_servers"] (defScope s__law_bad) := ⟨rfl, rfl, rfl, by decide +kernel, rfl, by decide +kernel, by decide +kernel⟩
abbrev s_law : Stmt := top 28
theorem sc_law : FnScope ["_law_script", "_law_deal_here", "_law_turn", "_law_bad_here", "_law_at", "_law_bent", "_law_callers", "_law_odd", "_law_part", "_law_servers", "_law_thing", "_law_words", "_law_k", "<table>"] ["_law_script"] (defScope s_law) := ⟨rfl, rfl, rfl, by decide +kernel, rfl, by decide +kernel, by decide +kernel⟩
end L4
namespace L4
open PySem PySem.Spec PyProof.Rows L2
open L3 (Fx fx_at SaysW hookW obsWG obsWG_eq Tabs gdef mdef cdef cmB df_of md_of ki_of cmd_of)
def fxs : List Fx := [.fa (.free "abs"), .fa (.free "all"), .fa (.free "bool"), .fa (.free "int"), .fa (.free "isinstance"), .fa (.free "len"), .fa (.free "list"), .fa (.free "range"), .fa (.free "str"), .fa (.free "tuple"), .fa (.cls "Road"), .fa (.noat "Road" "callers"), .fa (.noat "Road" "events"), .fa (.noat "Road" "servers"), .fa (.noat "Road" "told_events"), .insc "Road", .bo (fun K => itaB K "Road"), .fa (.glo "InvalidEvent"), .fa (.glo "InvalidRoad"), .fa (.glo "InvalidText"), .fa (.glo "SitError"), .fa (.glo "law"), .fa (.glo "ANSWERS"), .tup "ANSWERS" [.str "ok", .str "fault"], .fa (.str "DIGITS" "0123456789"), .bo (fun K => oiB K "InvalidEvent" "at" "at" "/claim/cut.py"), .bo (fun K => xcB K (He.ga K "InvalidEvent")), .bo (fun K => oiB K "InvalidRoad" "word" "word" "/claim/cut.py"), .bo (fun K => xcB K (He.ga K "InvalidRoad")), .bo (fun K => xfB K "InvalidEvent" "at"), .bo (fun K => xfB K "InvalidRoad" "word"), .bo (fun K => xiB K "InvalidEvent" "InvalidText" false), .bo (fun K => xiB K "InvalidEvent" "SitError" true), .bo (fun K => xiB K "InvalidRoad" "InvalidEvent" false), .bo (fun K => xiB K "InvalidRoad" "SitError" true), .bo (fun K => xmB K "InvalidEvent" "InvalidEvent" true), .bo (fun K => xmB K "InvalidEvent" "InvalidRoad" false), .bo (fun K => xmB K "InvalidRoad" "InvalidRoad" true), .fa (.glo "_law_deal"), .fa (.glo "_law_draw"), .fa (.glo "_law_pick"), .fa (.glo "_law_good"), .fa (.glo "_law_told"), .fa (.glo "is_integer"), .fa (.glo "is_from"), .fa (.glo "is_sequence"), .fa (.glo "number_in"), .fa (.glo "event_in"), .fa (.glo "event_of"), .fa (.glo "events_of"), .fa (.glo "Road"), .fa (.mkr "Road"), .bo (fun K => L4.tup0B K (He.dflAt ("Road", some "__init__") 0 K)), .fa (.glo "_law_value"), .fa (.meth "Road" "further"), .fa (.glo "_law_mixed"), .fa (.glo "_law_bad")]
def fns : List He5.DefA := [gdef "_law_deal" s__law_deal, gdef "_law_draw" s__law_draw, gdef "_law_pick" s__law_pick, gdef "_law_good" s__law_good, gdef "_law_told" s__law_told, gdef "is_integer" s_is_integer, gdef "is_from" s_is_from, gdef "is_sequence" s_is_sequence, gdef "number_in" s_number_in, gdef "event_in" s_event_in, gdef "event_of" s_event_of, gdef "events_of" s_events_of, L4.mdefD "Road" "__init__" "Road.__init__" s_Road___init__, gdef "_law_value" s__law_value, mdef "Road" "further" "Road.further" s_Road_further, gdef "_law_mixed" s__law_mixed, gdef "_law_bad" s__law_bad, gdef "law" s_law]
def exs (K : PySem.W.Frag) : Bool := fxs.all fun f => f.ok K
abbrev hR : PySem.W.OpenRow := PySem.W.OpenLaw.row PySem.Challenge.rw_sitout_k09_roads_refused
def htabs : Tabs := []
def kL : List Addr := [0, 2, 3, 4, 6, 15, 16, 17, 18, 19, 20, 21, 29, 30, 31, 32, 38, 44, 45, 46, 47, 48, 49, 50, 51, 52, 53, 59, 65, 66, 67, 68, 69, 70, 71, 72, 73, 74, 80, 86, 87, 88, 89, 90, 91, 92, 93, 94, 95, 101, 107, 108, 109, 110, 111, 112, 113, 114, 115, 116, 117, 120, 121, 122, 123, 124, 125, 126, 127, 128, 129, 130, 131, 132, 133, 134, 135, 136, 137, 138, 139, 140, 141, 142, 143, 144, 145, 146, 147, 148, 149, 150, 151, 152, 153, 154, 155, 156, 157, 158, 159, 160, 161, 162, 163, 171, 172, 173, 174, 175, 176, 177, 178, 179, 180, 181, 182, 183, 184, 185, 186, 187, 188, 189, 190, 191, 192, 193, 194, 195, 196, 197, 198, 199, 200, 201, 202, 203, 204, 205, 206, 207, 208, 209, 210, 211, 212, 213, 214, 215, 216, 217, 218, 219, 220, 221, 222, 223, 224, 225, 226, 227, 228, 229, 230, 231, 232, 233, 234, 235, 236, 237, 238, 239, 240, 241, 244, 245, 246, 247, 248, 249, 250, 251, 252, 253, 254, 255, 256, 257, 258, 259, 260, 261, 262, 263, 264, 265, 266, 267, 268, 269, 270, 271, 272, 273, 274, 275, 276, 277, 278, 279, 280, 281, 282, 283, 284, 285, 286, 287, 288, 289, 290, 291, 292, 293, 294, 295, 296, 298, 299, 300]
abbrev hk : PySem.W.Hook where
  α := (He.AlD × List (Option (List (Option (PySem.Str × Int))))) × Bool
  obs := fun s => ((L3.obsB exs fns (He.frG s.heap.get? kL), L3.tabsOf htabs (He.frG s.heap.get? kL)), lawTabB (He.frG s.heap.get? kL) s.heap.get?)
  val := fun w => ((He5.valA fns, L3.tabsIn htabs w.params), true)
  says := fun w h => ∃ K : PySem.W.Frag, K.In h ∧ SaysW exs fns htabs w K ∧ LawTab K h
  of := fun w s e => ⟨He.frG s.heap.get? kL, He.frG_in, ⟨congrArg Prod.fst (congrArg Prod.fst e), congrArg Prod.snd (congrArg Prod.fst e)⟩, lawTab_of He.frG_in (congrArg Prod.snd e)⟩
  keeps := fun _ _ _ ⟨K, hK, c, t⟩ k => ⟨K, PySem.W.Frag.In.keeps hK k, c, t.keeps k⟩
def hob (s : PySem.W.SharedT) : hk.α := ((L3.obsB exs fns (He.frG (HandSHeadRun.getT s) kL), L3.tabsOf htabs (He.frG (HandSHeadRun.getT s) kL)), lawTabB (He.frG (HandSHeadRun.getT s) kL) (HandSHeadRun.getT s))
theorem hob_eq (s : PySem.W.SharedT) : hob s = hk.obs s.abs := by
  have e : HandSHeadRun.getT s = s.abs.heap.get? := funext (HandSHeadRun.getT_eq s)
  unfold hob
  rw [e]
def hnm0 : List PySem.Str := ["_wall", "__name__", "SitError", "InvalidRoad", "InvalidEvent", "InvalidText", "NoEvent", "DIGITS", "is_integer", "is_from", "is_sequence", "number_in", "ANSWERS", "event_in", "event_of", "events_of", "Road", "_law_deal", "_law_draw", "_law_pick", "_law_mixed", "_law_value", "_law_told", "_law_bad", "_law_good"]
def hnames : List PySem.Str := hnm0
theorem hrunA (w : World) : HandSHeadRun.RunEq hR (PySem.W.view hR.prog [28]) hk hob 8000 hnames (w.withFollow "special-get-raises" false) := by
  intro os
  kernel_rfl
theorem hrunB (w : World) : HandSHeadRun.RunEq hR (PySem.W.view hR.prog [28]) hk hob 8000 hnames (w.withFollow "special-get-raises" true) := by
  intro os
  kernel_rfl
theorem hrun (w : World) : HandSHeadRun.RunEq hR (PySem.W.view hR.prog [28]) hk hob 8000 hnames w := PySem.W.byRow2 "special-get-raises" hrunA hrunB w
open PySem PySem.W PySem.Calls PyProof.Rows in
set_option maxHeartbeats 0 in
theorem law_pre (h : PySem.Challenge.rw_sitout_k09_roads_refused.row.wellSaid = true → PySem.Challenge.rw_sitout_k09_roads_refused.row.Holds) : PySem.Challenge.rw_sitout_k09_roads_refused.Holds := by
  w_on; o_law
  exact h (by assumption)
open PySem PySem.W PySem.Calls PyProof.Rows in
set_option maxHeartbeats 0 in
theorem head_pre (said : hR.wellSaid = true) (call : WalkO (view hR.prog [28]) hnames (XL (view hR.prog [28]) []) hk.says hR.toRowW (HandSHeadRun.topDef hR.prog 28) [] fun f vs => PySem.call f vs) : hR.Holds := by
  refine HandSHeadRun.head_any (r := hR) (q := view hR.prog [28]) (H := hk) (ob := hob) (M := 8000) (loose := hnames) (d := HandSHeadRun.topDef hR.prog 28) (kwd := []) hob_eq
    (by kernel_rfl) (fun s => by kernel_rfl) hrun (by kernel_rfl) (by kernel_rfl) (by kernel_rfl) (by rfl) said (by decide +kernel) ⟨rfl, rfl, rfl, rfl, rfl, by decide +kernel⟩ ?hw call
  case hw => w_witness2
end L4
namespace L4
open PySem L2
abbrev Ss := List (Option D)
abbrev EF := Ss → M → Option (D × M)
abbrev TF := Ss → M → Option (Bool × M)
abbrev AF := Ss → M → Option (List D × M)
abbrev GF := D → Ss → M → Option (Ss × M)
inductive Fl where
  | nx (ρ : Ss) | rt (d : D) | bk (ρ : Ss) | ct (ρ : Ss)
abbrev SF := Ss → M → Option (Fl × M)
structure RepS (g : G) (T : Tk) (H : Hp) (σ : L2.St) (ρ : Ss) : Prop where
  len : σ.length = ρ.length
  at_ : ∀ (i : Nat) d, ρ[i]? = some (some d) → ∃ v, σ[i]? = some (some v) ∧ Rep g T H d v
section
variable {g : G} {T T1 : Tk} {H H1 : Hp} {σ : L2.St} {ρ : Ss}
theorem RepS.le (l : Le T H T1 H1) (r : RepS g T H σ ρ) : RepS g T1 H1 σ ρ := ⟨r.len, fun i d h => by obtain ⟨v, e, q⟩ := r.at_ i d h; exact ⟨v, e, q.le l⟩⟩
theorem RepS.set {i : Nat} {d : D} {v : V} (r : RepS g T H σ ρ) (q : Rep g T H d v) : RepS g T H (σ.set i (some v)) (ρ.set i (some d)) := by
  refine ⟨by simp [r.len], fun j e h => ?_⟩
  by_cases hj : i = j
  · subst hj
    have hl : i < ρ.length := by
      have := (List.getElem?_eq_some_iff.mp h).1
      simpa using this
    rw [List.getElem?_set_self hl] at h
    cases h
    exact ⟨v, by rw [List.getElem?_set_self (by rw [r.len]; exact hl)], q⟩
  · rw [List.getElem?_set_ne hj] at h
    obtain ⟨u, e1, q1⟩ := r.at_ j e h
    exact ⟨u, by rw [List.getElem?_set_ne hj]; exact e1, q1⟩
end
/-- what follows a value -/
def KV (g : G) (T : Tk) (H : Hp) (m : M) (d : D) (Q : VK) : Prop := ∀ v T' H', Le T H T' H' → RepH g T' H' m → Rep g T' H' d v → Q v H'
def KB (g : G) (T : Tk) (H : Hp) (m : M) (b : Bool) (Q : Bool → Hp → Prop) : Prop := ∀ T' H', Le T H T' H' → RepH g T' H' m → Q b H'
def KA (g : G) (T : Tk) (H : Hp) (m : M) (ds : List D) (Q : List V → Hp → Prop) : Prop := ∀ vs T' H', Le T H T' H' → RepH g T' H' m → RepL g T' H' ds vs → Q vs H'
def KS (g : G) (T : Tk) (H : Hp) (m : M) (ρ : Ss) (Q : L2.St → Hp → Prop) : Prop := ∀ σ T' H', Le T H T' H' → RepH g T' H' m → RepS g T' H' σ ρ → Q σ H'
def KF (g : G) (T : Tk) (H : Hp) (m : M) (r : Fl) (D : Ends) : Prop := match r with
  | .nx ρ => KS g T H m ρ D.nx
  | .rt d => KV g T H m d D.rt
  | .bk ρ => KS g T H m ρ D.bk
  | .ct ρ => KS g T H m ρ D.ct
section
variable {g : G} {T T1 : Tk} {H H1 : Hp} {m : M}
theorem KV.le {d : D} {Q : VK} (l : Le T H T1 H1) (k : KV g T H m d Q) : KV g T1 H1 m d Q := fun v T' H' l' => k v T' H' (l.trans l')
theorem KB.le {d : Bool} {Q : Bool → Hp → Prop} (l : Le T H T1 H1) (k : KB g T H m d Q) : KB g T1 H1 m d Q := fun T' H' l' => k T' H' (l.trans l')
theorem KA.le {d : List D} {Q : List V → Hp → Prop} (l : Le T H T1 H1) (k : KA g T H m d Q) : KA g T1 H1 m d Q := fun v T' H' l' => k v T' H' (l.trans l')
theorem KS.le {ρ : Ss} {Q : L2.St → Hp → Prop} (l : Le T H T1 H1) (k : KS g T H m ρ Q) : KS g T1 H1 m ρ Q := fun v T' H' l' => k v T' H' (l.trans l')
theorem KF.le {r : Fl} {D : Ends} (l : Le T H T1 H1) (k : KF g T H m r D) : KF g T1 H1 m r D := by
  cases r with
  | nx ρ => exact KS.le l k
  | rt d => exact KV.le l k
  | bk ρ => exact KS.le l k
  | ct ρ => exact KS.le l k
end
def RfE (g : G) (t : TE) (f : EF) : Prop := ∀ T σ H ρ m d m', RepH g T H m → RepS g T H σ ρ → f ρ m = some (d, m') → ∀ Q : VK, KV g T H m' d Q → t σ H Q
def RfT (g : G) (t : TT) (f : TF) : Prop := ∀ T σ H ρ m b m', RepH g T H m → RepS g T H σ ρ → f ρ m = some (b, m') → ∀ Q, KB g T H m' b Q → t σ H Q
def RfA (g : G) (t : TA) (f : AF) : Prop := ∀ T σ H ρ m ds m', RepH g T H m → RepS g T H σ ρ → f ρ m = some (ds, m') → ∀ Q, KA g T H m' ds Q → t σ H Q
def RfG (g : G) (t : TG) (f : GF) : Prop := ∀ T σ H ρ m d v ρ' m', RepH g T H m → RepS g T H σ ρ → Rep g T H d v → f d ρ m = some (ρ', m') → ∀ Q, KS g T H m' ρ' Q → t v σ H Q
def RfS (g : G) (t : TS) (f : SF) : Prop := ∀ T σ H ρ m r m', RepH g T H m → RepS g T H σ ρ → f ρ m = some (r, m') → ∀ D : Ends, KF g T H m' r D → t D σ H
structure DE (X : Cx) (e : Expr) (f : EF) : Prop where
  ex : ∃ t, PE X e t ∧ RfE (gx X) t f
structure DT (X : Cx) (e : Expr) (f : TF) : Prop where
  ex : ∃ t, PT X e t ∧ RfT (gx X) t f
structure DW (X : Cx) (e : Expr) (f : TF) : Prop where
  ex : ∃ t, PW X e t ∧ RfT (gx X) t f
structure DA (X : Cx) (es : List Expr) (f : AF) : Prop where
  ex : ∃ t, PA X es t ∧ RfA (gx X) t f
structure DG (X : Cx) (e : Expr) (f : GF) : Prop where
  ex : ∃ t, PG X e t ∧ RfG (gx X) t f
structure DS (X : Cx) (s : Stmt) (f : SF) : Prop where
  ex : ∃ t, PS X s t ∧ RfS (gx X) t f
structure DSs (X : Cx) (s : List Stmt) (f : SF) : Prop where
  ex : ∃ t, PSs X s t ∧ RfS (gx X) t f
def bd {α β : Type} (r : Option (α × M)) (k : α → M → Option (β × M)) : Option (β × M) := match r with
  | some (d, m) => k d m
  | none => none
theorem bd_some {α β : Type} {r : Option (α × M)} {k : α → M → Option (β × M)} {b : β} {m' : M} (h : bd r k = some (b, m')) : ∃ d m, r = some (d, m) ∧ k d m = some (b, m') := by
  cases r with
  | none => cases h
  | some p => exact ⟨p.1, p.2, rfl, h⟩
@[simp] theorem bd_go {α β : Type} {d : α} {m : M} {k : α → M → Option (β × M)} : bd (some (d, m)) k = k d m := rfl
@[simp] theorem bd_no {α β : Type} {k : α → M → Option (β × M)} : bd none k = none := rfl
/-- a value that needs no heap -/
def pu {α : Type} (r : Option α) (m : M) : Option (α × M) := r.map (·, m)
theorem pu_some {α : Type} {r : Option α} {a : α} {m m' : M} (h : pu r m = some (a, m')) : r = some a ∧ m' = m := by
  cases r with
  | none => cases h
  | some b => cases h; exact ⟨rfl, rfl⟩
@[simp] theorem pu_go {α : Type} {a : α} {m : M} : pu (some a) m = some (a, m) := rfl
@[simp] theorem pu_no {α : Type} {m : M} : pu (none : Option α) m = none := rfl
def eVar (i : Nat) : EF := fun ρ m => pu (ρ.getD i none) m
def eC (d : D) : EF := fun _ m => some (d, m)
def eOp (f : M → D → D → Option D) (a b : EF) : EF := fun ρ m => bd (a ρ m) fun x m1 => bd (b ρ m1) fun y m2 => pu (f m2 x y) m2
def eUn (f : M → D → Option D) (a : EF) : EF := fun ρ m => bd (a ρ m) fun x m1 => pu (f m1 x) m1
def eCall (f : M → List D → Option D) (a : AF) : EF := fun ρ m => bd (a ρ m) fun xs m1 => pu (f m1 xs) m1
def aNil : AF := fun _ m => some ([], m)
def aCons (a : EF) (r : AF) : AF := fun ρ m => bd (a ρ m) fun x m1 => bd (r ρ m1) fun xs m2 => some (x :: xs, m2)
def tVal (a : EF) : TF := fun ρ m => bd (a ρ m) fun x m1 => match x with
  | .bl b => some (b, m1)
  | _ => none
def tAnd (a b : TF) : TF := fun ρ m => bd (a ρ m) fun x m1 => if x then b ρ m1 else some (false, m1)
def tOr (a b : TF) : TF := fun ρ m => bd (a ρ m) fun x m1 => if x then some (true, m1) else b ρ m1
def tNot (a : TF) : TF := fun ρ m => bd (a ρ m) fun x m1 => some (!x, m1)
def eAnd (a b : EF) : EF := fun ρ m => bd (a ρ m) fun x m1 => match x with
  | .bl true => b ρ m1
  | .bl false => some (.bl false, m1)
  | _ => none
def eOr (a b : EF) : EF := fun ρ m => bd (a ρ m) fun x m1 => match x with
  | .bl true => some (.bl true, m1)
  | .bl false => b ρ m1
  | _ => none
def eIf (c : TF) (a b : EF) : EF := fun ρ m => bd (c ρ m) fun x m1 => if x then a ρ m1 else b ρ m1
def gNm (i : Nat) : GF := fun d ρ m => some (ρ.set i (some d), m)
def sAsg (a : EF) (g : GF) : SF := fun ρ m => bd (a ρ m) fun x m1 => bd (g x ρ m1) fun ρ1 m2 => some (.nx ρ1, m2)
def sDrop (a : EF) : SF := fun ρ m => bd (a ρ m) fun _ m1 => some (.nx ρ, m1)
def sRet (a : EF) : SF := fun ρ m => bd (a ρ m) fun x m1 => some (.rt x, m1)
def sRetN : SF := fun _ m => some (.rt .non, m)
def sNop : SF := fun ρ m => some (.nx ρ, m)
def sBrk : SF := fun ρ m => some (.bk ρ, m)
def sCont : SF := fun ρ m => some (.ct ρ, m)
def sIf (c : TF) (a b : SF) : SF := fun ρ m => bd (c ρ m) fun x m1 => if x then a ρ m1 else b ρ m1
def sSeq (a b : SF) : SF := fun ρ m => bd (a ρ m) fun x m1 => match x with
  | .nx ρ1 => b ρ1 m1
  | r => some (r, m1)
section
variable {X : Cx} {pos : Pos}
theorem de_var {i : Nat} {x : Str} (hN : X.N[i]? = some x) (hv : Vis X.env.scope x) (hd : (x == ("__debug__" : Str)) = false := by decide) (hcd : (x == ("__classdict__" : Str)) = false := by decide) : DE X (.Name x pos) (eVar i) := by
  refine ⟨_, pe_var hN hv hd hcd, fun T σ H ρ m d m' hm hs hf Q k => ?_⟩
  obtain ⟨e, rfl⟩ := pu_some hf
  obtain ⟨v, e1, r⟩ := hs.at_ i d (by
    rw [List.getD_eq_getElem?_getD] at e
    cases h : ρ[i]? with
    | none => rw [h] at e; cases e
    | some o => rw [h] at e; cases e; rfl)
  exact ⟨v, e1, k v T H .refl hm r⟩
theorem rf_c {g : G} {v : V} {d : D} (h : ∀ T H, Rep g T H d v) : RfE g (tC v) (eC d) := by
  intro T σ H ρ m d m' hm hs hf Q k
  cases hf
  exact k v T H .refl hm (h T H)
theorem de_int {i j} : DE X (.Constant (.int i) j pos) (eC (.int i)) := ⟨_, pe_int, rf_c fun _ _ => .int i⟩
theorem de_bl {i j} : DE X (.Constant (.bool i) j pos) (eC (.bl i)) := ⟨_, pe_bl, rf_c fun _ _ => .bl i⟩
theorem de_str {i j} : DE X (.Constant (.str i) j pos) (eC (.str i)) := ⟨_, pe_str, rf_c fun _ _ => .str i⟩
theorem de_non {j} : DE X (.Constant .none j pos) (eC .non) := ⟨_, pe_non, rf_c fun _ _ => .non⟩
/-- an operation of two values -/
def RfO (g : G) (r : R2) (f : M → D → D → Option D) : Prop := ∀ T H m x y v u d, RepH g T H m → Rep g T H x v → Rep g T H y u → f m x y = some d → ∀ Q : VK, KV g T H m d Q → r v u H Q
def RfC (g : G) (r : List V → Hp → VK → Prop) (f : M → List D → Option D) : Prop := ∀ T H m xs vs d, RepH g T H m → RepL g T H xs vs → f m xs = some d → ∀ Q : VK, KV g T H m d Q → r vs H Q
theorem rf_op {g : G} {r : R2} {f : M → D → D → Option D} {ta tb : TE} {a b : EF} (hr : RfO g r f) (ha : RfE g ta a) (hb : RfE g tb b) : RfE g (tOp r ta tb) (eOp f a b) := by
  intro T σ H ρ m d m' hm hs hf Q k
  obtain ⟨x, m1, e1, hf⟩ := bd_some hf
  obtain ⟨y, m2, e2, hf⟩ := bd_some hf
  obtain ⟨e3, rfl⟩ := pu_some hf
  refine ha T σ H ρ m x m1 hm hs e1 _ fun v T1 H1 l1 hm1 r1 => ?_
  refine hb T1 σ H1 ρ m1 y _ hm1 (hs.le l1) e2 _ fun u T2 H2 l2 hm2 r2 => ?_
  exact hr T2 H2 _ x y v u d hm2 (r1.le l2) r2 e3 Q (k.le (l1.trans l2))
theorem rf_call {g : G} {r : List V → Hp → VK → Prop} {f : M → List D → Option D} {ta : TA} {a : AF} (hr : RfC g r f) (ha : RfA g ta a) : RfE g (tCB r ta) (eCall f a) := by
  intro T σ H ρ m d m' hm hs hf Q k
  obtain ⟨x, m1, e1, hf⟩ := bd_some hf
  obtain ⟨e3, rfl⟩ := pu_some hf
  refine ha T σ H ρ m x _ hm hs e1 _ fun v T1 H1 l1 hm1 r1 => ?_
  exact hr T1 H1 _ x v d hm1 r1 e3 Q (k.le l1)
/-- an operator that is known by a function on data -/
structure OpD (X : Cx) (F : Value → Value → Sem Value) (f : M → D → D → Option D) : Prop where
  ex : ∃ r, OpR X F r ∧ RfO (gx X) r f
structure CallD (X : Cx) (F : Value) (f : M → List D → Option D) : Prop where
  ex : ∃ r, CallR X F r ∧ RfC (gx X) r f
theorem de_op {a b : Expr} {fa fb : EF} {op : Operator} {f} (ho : OpD X (binaryOp op) f) (ha : DE X a fa) (hb : DE X b fb) : DE X (.BinOp a op b pos) (eOp f fa fb) := by
  obtain ⟨r, h, q⟩ := ho.ex; obtain ⟨ta, pa, ra⟩ := ha.ex; obtain ⟨tb, pb, rb⟩ := hb.ex
  exact ⟨_, pe_op h pa pb, rf_op q ra rb⟩
theorem de_cmp {a b : Expr} {fa fb : EF} {op : CmpOp} {f} (ho : OpD X (compareOp op) f) (ha : DE X a fa) (hb : DE X b fb) (hm : behindInMarks op b = false) : DE X (.Compare a [op] [b] pos) (eOp f fa fb) := by
  obtain ⟨r, h, q⟩ := ho.ex; obtain ⟨ta, pa, ra⟩ := ha.ex; obtain ⟨tb, pb, rb⟩ := hb.ex
  exact ⟨_, pe_cmpR h pa pb hm, rf_op q ra rb⟩
theorem rf_test {g : G} {t : TE} {f : EF} (h : RfE g t f) : RfT g (tTest t) (tVal f) := by
  intro T σ H ρ m b m' hm hs hf Q k
  obtain ⟨x, m1, e1, hf⟩ := bd_some hf
  cases x with
  | bl c =>
    cases hf
    refine h T σ H ρ m _ _ hm hs e1 _ fun v T1 H1 l1 hm1 r1 => ?_
    cases r1
    exact ⟨b, rfl, k T1 H1 l1 hm1⟩
  | _ => cases hf
theorem dt_cmp {a b : Expr} {fa fb : EF} {op : CmpOp} {f} (ho : OpD X (compareOp op) f) (ha : DE X a fa) (hb : DE X b fb) (hm : behindInMarks op b = false) : DT X (.Compare a [op] [b] pos) (tVal (eOp f fa fb)) := by
  obtain ⟨r, h, q⟩ := ho.ex; obtain ⟨ta, pa, ra⟩ := ha.ex; obtain ⟨tb, pb, rb⟩ := hb.ex
  exact ⟨_, pt_cmpR h pa pb hm, rf_test (rf_op q ra rb)⟩
theorem dt_val {a : Expr} {fa : EF} (ha : DE X a fa) (he : ∀ whole, isTrue a X.env whole = (do let v ← whole; standAt a.pos; holding [v] (truthy v)) := by intro _; rfl) : DT X a (tVal fa) := by
  obtain ⟨ta, pa, ra⟩ := ha.ex
  exact ⟨_, pt_val pa he, rf_test ra⟩
theorem da_nil : DA X [] aNil := ⟨_, pa_nil, fun T σ H ρ m ds m' hm hs hf Q k => by cases hf; exact k [] T H .refl hm .nil⟩
end
end L4
namespace L4
open PySem L2
section
variable {X : Cx} {pos : Pos} {g : G}
theorem rf_cons {te : TE} {ta : TA} {a : EF} {r : AF} (ha : RfE g te a) (hr : RfA g ta r) : RfA g (tCons te ta) (aCons a r) := by
  intro T σ H ρ m ds m' hm hs hf Q k
  obtain ⟨x, m1, e1, hf⟩ := bd_some hf
  obtain ⟨xs, m2, e2, hf⟩ := bd_some hf
  cases hf
  refine ha T σ H ρ m x m1 hm hs e1 _ fun v T1 H1 l1 hm1 r1 => ?_
  refine hr T1 σ H1 ρ m1 xs _ hm1 (hs.le l1) e2 _ fun vs T2 H2 l2 hm2 r2 => ?_
  exact k _ T2 H2 (l1.trans l2) hm2 (.cons (r1.le l2) r2)
theorem da_cons {e : Expr} {es : List Expr} {a : EF} {r : AF} (ha : DE X e a) (hr : DA X es r) (hs : starEach (e :: es) X.env = (false, eval e X.env) :: starEach es X.env := by rfl) : DA X (e :: es) (aCons a r) := by
  obtain ⟨ta, pa, ra⟩ := ha.ex; obtain ⟨tb, pb, rb⟩ := hr.ex
  exact ⟨_, pa_cons pa pb hs, rf_cons ra rb⟩
theorem rf_and {t u : TT} {a b : TF} (ha : RfT g t a) (hb : RfT g u b) : RfT g (L2.tAnd t u) (tAnd a b) := by
  intro T σ H ρ m d m' hm hs hf Q k
  obtain ⟨x, m1, e1, hf⟩ := bd_some hf
  refine ha T σ H ρ m x m1 hm hs e1 _ fun T1 H1 l1 hm1 => ?_
  cases x with
  | true => exact hb T1 σ H1 ρ m1 d m' hm1 (hs.le l1) hf Q (k.le l1)
  | false => cases hf; exact k T1 H1 l1 hm1
theorem rf_or {t u : TT} {a b : TF} (ha : RfT g t a) (hb : RfT g u b) : RfT g (L2.tOr t u) (tOr a b) := by
  intro T σ H ρ m d m' hm hs hf Q k
  obtain ⟨x, m1, e1, hf⟩ := bd_some hf
  refine ha T σ H ρ m x m1 hm hs e1 _ fun T1 H1 l1 hm1 => ?_
  cases x with
  | true => cases hf; exact k T1 H1 l1 hm1
  | false => exact hb T1 σ H1 ρ m1 d m' hm1 (hs.le l1) hf Q (k.le l1)
theorem rf_not {t : TT} {a : TF} (ha : RfT g t a) : RfT g (L2.tNot t) (tNot a) := by
  intro T σ H ρ m d m' hm hs hf Q k
  obtain ⟨x, m1, e1, hf⟩ := bd_some hf
  cases hf
  exact ha T σ H ρ m x _ hm hs e1 _ fun T1 H1 l1 hm1 => k T1 H1 l1 hm1
theorem dw_and {a b : Expr} {rest : List Expr} {f h : TF} (ha : DT X a f) (hb : DW X (.BoolOp .And (b :: rest) pos) h) : DW X (.BoolOp .And (a :: b :: rest) pos) (tAnd f h) := by
  obtain ⟨ta, pa, ra⟩ := ha.ex; obtain ⟨tb, pb, rb⟩ := hb.ex
  exact ⟨_, pw_and pa pb, rf_and ra rb⟩
theorem dw_and1 {a : Expr} {f : TF} (ha : DT X a f) : DW X (.BoolOp .And [a] pos) f := by
  obtain ⟨ta, pa, ra⟩ := ha.ex
  exact ⟨_, pw_and1 pa, ra⟩
theorem dw_or {a b : Expr} {rest : List Expr} {f h : TF} (ha : DT X a f) (hb : DW X (.BoolOp .Or (b :: rest) pos) h) : DW X (.BoolOp .Or (a :: b :: rest) pos) (tOr f h) := by
  obtain ⟨ta, pa, ra⟩ := ha.ex; obtain ⟨tb, pb, rb⟩ := hb.ex
  exact ⟨_, pw_or pa pb, rf_or ra rb⟩
theorem dw_or1 {a : Expr} {f : TF} (ha : DT X a f) : DW X (.BoolOp .Or [a] pos) f := by
  obtain ⟨ta, pa, ra⟩ := ha.ex
  exact ⟨_, pw_or1 pa, ra⟩
theorem dt_w {a : Expr} {f : TF} (ha : DW X a f) : DT X a f := by
  obtain ⟨ta, pa, ra⟩ := ha.ex
  exact ⟨_, pa.pt, ra⟩
theorem dt_not {a : Expr} {f : TF} (ha : DT X a f) : DT X (.UnaryOp .Not a pos) (tNot f) := by
  obtain ⟨ta, pa, ra⟩ := ha.ex
  exact ⟨_, pt_not pa, rf_not ra⟩
theorem de_one {a : Expr} {op} {f : EF} (ha : DE X a f) : DE X (.BoolOp op [a] pos) f := by
  obtain ⟨ta, pa, ra⟩ := ha.ex
  exact ⟨_, pe_one pa, ra⟩
theorem de_and {a b : Expr} {rest : List Expr} {f h : EF} (ha : DE X a f) (hb : DE X (.BoolOp .And (b :: rest) pos) h) : DE X (.BoolOp .And (a :: b :: rest) pos) (eAnd f h) := by
  obtain ⟨ta, pa, ra⟩ := ha.ex; obtain ⟨tb, pb, rb⟩ := hb.ex
  refine ⟨_, pe_and pa pb, fun T σ H ρ m d m' hm hs hf Q k => ?_⟩
  obtain ⟨x, m1, e1, hf⟩ := bd_some hf
  refine ra T σ H ρ m x m1 hm hs e1 _ fun v T1 H1 l1 hm1 r1 => ?_
  cases r1 with
  | bl c => cases c with
    | true => exact ⟨true, rfl, rb T1 σ H1 ρ m1 d m' hm1 (hs.le l1) hf Q (k.le l1)⟩
    | false => cases hf; exact ⟨false, rfl, k _ T1 H1 l1 hm1 (.bl _)⟩
  | _ => cases hf
def eNot (a : EF) : EF := fun ρ m => bd (a ρ m) fun x m1 => match x with
  | .bl b => some (.bl (!b), m1)
  | _ => none
theorem de_not {a : Expr} {f : EF} (ha : DE X a f) : DE X (.UnaryOp .Not a pos) (eNot f) := by
  obtain ⟨ta, pa, ra⟩ := ha.ex
  refine ⟨_, pe_not pa, fun T σ H ρ m d m' hm hs hf Q k => ?_⟩
  obtain ⟨x, m1, e1, hf⟩ := bd_some hf
  refine ra T σ H ρ m x m1 hm hs e1 _ fun v T1 H1 l1 hm1 r1 => ?_
  cases r1 with
  | bl c => cases hf; exact ⟨c, rfl, k _ T1 H1 l1 hm1 (.bl _)⟩
  | _ => cases hf
def isNon : D → Bool
  | .non => true
  | _ => false
def eIsN (a : EF) : EF := fun ρ m => bd (a ρ m) fun x m1 => some (.bl (isNon x), m1)
def eNotN (a : EF) : EF := fun ρ m => bd (a ρ m) fun x m1 => some (.bl (!isNon x), m1)
theorem Rep.isN {T : Tk} {H : Hp} {d : D} {v : V} (r : Rep g T H d v) : decide (v = .non) = isNon d := by cases r <;> rfl
theorem rf_isN {t : TE} {f : EF} (ra : RfE g t f) : RfE g (tIsN t) (eIsN f) := by
  intro T σ H ρ m d m' hm hs hf Q k
  obtain ⟨x, m1, e1, hf⟩ := bd_some hf
  cases hf
  refine ra T σ H ρ m x _ hm hs e1 _ fun v T1 H1 l1 hm1 r1 => ?_
  rw [r1.isN]
  exact k _ T1 H1 l1 hm1 (.bl _)
theorem rf_notN {t : TE} {f : EF} (ra : RfE g t f) : RfE g (tNotN t) (eNotN f) := by
  intro T σ H ρ m d m' hm hs hf Q k
  obtain ⟨x, m1, e1, hf⟩ := bd_some hf
  cases hf
  refine ra T σ H ρ m x _ hm hs e1 _ fun v T1 H1 l1 hm1 r1 => ?_
  rw [r1.isN]
  exact k _ T1 H1 l1 hm1 (.bl _)
theorem rf_tB {t : TE} {f : EF} (h : RfE g t f) : RfT g (tB t) (tVal f) := rf_test h
theorem de_isN {a : Expr} {f : EF} {j pos'} (ha : DE X a f) : DE X (.Compare a [.Is] [.Constant .none j pos'] pos) (eIsN f) := by
  obtain ⟨ta, pa, ra⟩ := ha.ex
  exact ⟨_, pe_cmp (pc_isN pa), rf_isN ra⟩
theorem dt_isN {a : Expr} {f : EF} {j pos'} (ha : DE X a f) : DT X (.Compare a [.Is] [.Constant .none j pos'] pos) (tVal (eIsN f)) := by
  obtain ⟨ta, pa, ra⟩ := ha.ex
  exact ⟨_, pt_cmp (pc_isN pa), rf_tB (rf_isN ra)⟩
theorem dt_notN {a : Expr} {f : EF} {j pos'} (ha : DE X a f) : DT X (.Compare a [.IsNot] [.Constant .none j pos'] pos) (tVal (eNotN f)) := by
  obtain ⟨ta, pa, ra⟩ := ha.ex
  exact ⟨_, pt_cmp (pc_notN pa), rf_tB (rf_notN ra)⟩
theorem de_if {c a b : Expr} {fc : TF} {fa fb : EF} (hc : DT X c fc) (ha : DE X a fa) (hb : DE X b fb) : DE X (.IfExp c a b pos) (eIf fc fa fb) := by
  obtain ⟨tc, pc, rc⟩ := hc.ex; obtain ⟨ta, pa, ra⟩ := ha.ex; obtain ⟨tb, pb, rb⟩ := hb.ex
  refine ⟨_, pe_ifExp pc pa pb, fun T σ H ρ m d m' hm hs hf Q k => ?_⟩
  obtain ⟨x, m1, e1, hf⟩ := bd_some hf
  refine rc T σ H ρ m x m1 hm hs e1 _ fun T1 H1 l1 hm1 => ?_
  cases x with
  | true => exact ra T1 σ H1 ρ m1 d m' hm1 (hs.le l1) hf Q (k.le l1)
  | false => exact rb T1 σ H1 ρ m1 d m' hm1 (hs.le l1) hf Q (k.le l1)
theorem rf_asg {te : TE} {tg : TG} {a : EF} {f : GF} (ha : RfE g te a) (hg : RfG g tg f) : RfS g (tAsg te tg) (sAsg a f) := by
  intro T σ H ρ m d m' hm hs hf D k
  obtain ⟨x, m1, e1, hf⟩ := bd_some hf
  obtain ⟨ρ1, m2, e2, hf⟩ := bd_some hf
  cases hf
  refine ha T σ H ρ m x m1 hm hs e1 _ fun v T1 H1 l1 hm1 r1 => ?_
  exact hg T1 σ H1 ρ m1 x v ρ1 _ hm1 (hs.le l1) r1 e2 _ (KS.le l1 k)
theorem ds_asg {tg e : Expr} {a : EF} {f : GF} (ha : DE X e a) (hg : DG X tg f) (hs : swapsWithSole [tg] e pos.line X.env = pure false := by rfl) (hw : swappedStores [tg] e X.env = pure none := by rfl)
    (h1 : (assignEach [tg] X.env).map (·.2) = [assign tg X.env] := by rfl) : DS X (.Assign [tg] e pos) (sAsg a f) := by
  obtain ⟨ta, pa, ra⟩ := ha.ex; obtain ⟨tb, pb, rb⟩ := hg.ex
  exact ⟨_, ps_asg pa pb hs hw h1, rf_asg ra rb⟩
theorem ds_set {i : Nat} {x : Str} {e : Expr} {a : EF} {pos' : Pos} (hN : X.N.Nodup) (hi : X.N[i]? = some x) (hx : Loc X.env.scope x) (he : DE X e a) (hs : swapsWith e (some (.Name x pos')) pos.line X.env = pure false := by rfl) (hf : X.fn x = true ∨ X.env.scope.names.lookup x = some .local := by first | exact .inl rfl | exact .inr rfl | assumption) :
    DS X (.Assign [.Name x pos'] e pos) (sAsg a (gNm i)) := by
  obtain ⟨ta, pa, ra⟩ := he.ex
  refine ⟨_, ps_set hN hi hx pa hs hf, rf_asg ra fun T σ H ρ m d v ρ' m' hm hs r hf Q k => ?_⟩
  cases hf
  exact k _ T H .refl hm (hs.set r)
theorem ds_expr {e : Expr} {a : EF} (he : DE X e a) (hs : swapsWith e none pos.line X.env = pure false := by rfl) : DS X (.Expr e pos) (sDrop a) := by
  obtain ⟨ta, pa, ra⟩ := he.ex
  refine ⟨_, ps_expr pa hs, fun T σ H ρ m d m' hm hs hf D k => ?_⟩
  obtain ⟨x, m1, e1, hf⟩ := bd_some hf
  cases hf
  exact ra T σ H ρ m x _ hm hs e1 _ fun v T1 H1 l1 hm1 r1 => k σ T1 H1 l1 hm1 (hs.le l1)
theorem ds_ret {e : Expr} {a : EF} (he : DE X e a) : DS X (.Return (some e) pos) (sRet a) := by
  obtain ⟨ta, pa, ra⟩ := he.ex
  refine ⟨_, ps_ret pa, fun T σ H ρ m d m' hm hs hf D k => ?_⟩
  obtain ⟨x, m1, e1, hf⟩ := bd_some hf
  cases hf
  exact ra T σ H ρ m x _ hm hs e1 _ k
theorem dss_nil : DSs X [] sNop := ⟨_, pss_nil, fun T σ H ρ m d m' hm hs hf D k => by cases hf; exact k _ T H .refl hm hs⟩
theorem dss_one {s : Stmt} {f : SF} (h : DS X s f) : DSs X [s] f := by
  obtain ⟨ta, pa, ra⟩ := h.ex
  exact ⟨_, pss_one pa, ra⟩
theorem dss_cons {s : Stmt} {r : List Stmt} {a b : SF} (h : DS X s a) (hr : DSs X r b) : DSs X (s :: r) (sSeq a b) := by
  obtain ⟨ta, pa, ra⟩ := h.ex; obtain ⟨tb, pb, rb⟩ := hr.ex
  refine ⟨_, pss_cons pa pb, fun T σ H ρ m d m' hm hs hf D k => ?_⟩
  obtain ⟨x, m1, e1, hf⟩ := bd_some hf
  refine ra T σ H ρ m x m1 hm hs e1 _ ?_
  cases x with
  | nx ρ1 => exact fun σ1 T1 H1 l1 hm1 hs1 => rb T1 σ1 H1 ρ1 m1 d m' hm1 hs1 hf D (KF.le l1 k)
  | rt d => cases hf; exact k
  | bk ρ => cases hf; exact k
  | ct ρ => cases hf; exact k
theorem ds_if {c : Expr} {a b : List Stmt} {fc : TF} {fa fb : SF} (hc : DT X c fc) (ha : DSs X a fa) (hb : DSs X b fb) : DS X (.If c a b pos) (sIf fc fa fb) := by
  obtain ⟨tc, pc, rc⟩ := hc.ex; obtain ⟨ta, pa, ra⟩ := ha.ex; obtain ⟨tb, pb, rb⟩ := hb.ex
  refine ⟨_, ps_if pc pa pb, fun T σ H ρ m d m' hm hs hf D k => ?_⟩
  obtain ⟨x, m1, e1, hf⟩ := bd_some hf
  refine rc T σ H ρ m x m1 hm hs e1 _ fun T1 H1 l1 hm1 => ?_
  cases x with
  | true => exact ra T1 σ H1 ρ m1 d m' hm1 (hs.le l1) hf D (KF.le l1 k)
  | false => exact rb T1 σ H1 ρ m1 d m' hm1 (hs.le l1) hf D (KF.le l1 k)
def sWhile (n : Nat) (c : TF) (b : SF) : SF := match n with
  | 0 => fun _ _ => none
  | n + 1 => fun ρ m => bd (c ρ m) fun x m1 => if x then bd (b ρ m1) fun r m2 => match r with
      | .nx ρ2 => sWhile n c b ρ2 m2
      | .ct ρ2 => sWhile n c b ρ2 m2
      | .bk ρ2 => some (.nx ρ2, m2)
      | .rt d => some (.rt d, m2)
    else some (.nx ρ, m1)
theorem ds_while {c : Expr} {body : List Stmt} {fc : TF} {fb : SF} (n : Nat) (hp : PassesOwn (model X.prog X.w) X.A X.env X.xe) (hc : DT X c fc) (hb : DSs X body fb) : DS X (.While c body [] pos) (sWhile n fc fb) := by
  obtain ⟨tc, pc, rc⟩ := hc.ex; obtain ⟨tb, pb, rb⟩ := hb.ex
  refine ⟨_, ps_while hp pc pb, fun T σ H ρ m r m' hm hs hf D k => ?_⟩
  refine ⟨fun j σ1 H1 => ∃ T1 ρ1 m1, Le T H T1 H1 ∧ RepH (gx X) T1 H1 m1 ∧ RepS (gx X) T1 H1 σ1 ρ1 ∧ sWhile j fc fb ρ1 m1 = some (r, m'), ⟨n, T, ρ, m, .refl, hm, hs, hf⟩, ?_⟩
  rintro j σ1 H1 ⟨T1, ρ1, m1, l1, hm1, hs1, hf1⟩
  cases j with
  | zero => cases hf1
  | succ j =>
    obtain ⟨x, m2, e2, hf2⟩ := bd_some hf1
    refine rc T1 σ1 H1 ρ1 m1 x m2 hm1 hs1 e2 _ fun T2 H2 l2 hm2 => ?_
    cases x with
    | false => cases hf2; exact k σ1 T2 H2 (l1.trans l2) hm2 (hs1.le l2)
    | true =>
      obtain ⟨y, m3, e3, hf3⟩ := bd_some hf2
      refine ⟨_, fun _ _ q => q, rb T2 σ1 H2 ρ1 m2 y m3 hm2 (hs1.le l2) e3 _ ?_⟩
      cases y with
      | nx ρ3 => exact fun σ3 T3 H3 l3 hm3 hs3 => ⟨j, Nat.lt_succ_self _, T3, ρ3, m3, l1.trans (l2.trans l3), hm3, hs3, hf3⟩
      | ct ρ3 => exact fun σ3 T3 H3 l3 hm3 hs3 => ⟨j, Nat.lt_succ_self _, T3, ρ3, m3, l1.trans (l2.trans l3), hm3, hs3, hf3⟩
      | bk ρ3 => cases hf3; exact KS.le (l1.trans l2) k
      | rt d => cases hf3; exact KV.le (l1.trans l2) k
def ItOk (g : G) (T : Tk) (H : Hp) (J : It) (ds : List D) : Prop := ∀ T1 H1, Le T H T1 H1 → ∀ m1, RepH g T1 H1 m1 → ∀ i : Nat,
  (∀ d, ds[i]? = some d → J.go i H1 ∧ ∀ x H2, J.yld i H1 x H2 → ∃ T2, Le T1 H1 T2 H2 ∧ RepH g T2 H2 m1 ∧ Rep g T2 H2 d x) ∧ (ds.length = i → J.stop i H1)
def RfI (g : G) (wi : TI) (f : AF) : Prop := ∀ T σ H ρ m ds m', RepH g T H m → RepS g T H σ ρ → f ρ m = some (ds, m') → ∀ R : It → Hp → Prop, (∀ J T' H', Le T H T' H' → RepH g T' H' m' → ItOk g T' H' J ds → R J H') → wi σ H R
structure DI (X : Cx) (tg iter : Expr) (f : AF) : Prop where
  ex : ∃ wi, PI X tg iter wi ∧ RfI (gx X) wi f
def forGo (f : GF) (b : SF) : List D → SF
  | [] => fun ρ m => some (.nx ρ, m)
  | x :: xs => fun ρ m => bd (f x ρ m) fun ρ1 m1 => bd (b ρ1 m1) fun r m2 => match r with
      | .nx ρ2 => forGo f b xs ρ2 m2
      | .ct ρ2 => forGo f b xs ρ2 m2
      | .bk ρ2 => some (.nx ρ2, m2)
      | .rt d => some (.rt d, m2)
def sFor (it : AF) (f : GF) (b : SF) : SF := fun ρ m => bd (it ρ m) fun xs m1 => forGo f b xs ρ m1
theorem ds_for {tg iter : Expr} {body : List Stmt} {fi : AF} {fg : GF} {fb : SF} (hp : PassesOwn (model X.prog X.w) X.A X.env X.xe) (hc : X.calm = true) (hi : DI X tg iter fi) (hg : DG X tg fg) (hb : DSs X body fb)
    (hs : ∀ x, foldedSetIterable iter X.env x = pure x := by intro _; rfl) : DS X (.For tg iter body [] pos) (sFor fi fg fb) := by
  obtain ⟨ti, pi, ri⟩ := hi.ex; obtain ⟨tg', pg, rg⟩ := hg.ex; obtain ⟨tb, pb, rb⟩ := hb.ex
  refine ⟨_, ps_for hp hc pi pg pb hs, fun T σ H ρ m r m' hm hs hf D k => ?_⟩
  obtain ⟨ds, m1, e1, hf⟩ := bd_some hf
  refine ri T σ H ρ m ds m1 hm hs e1 _ fun J T0 H0 l0 hm0 ok => ?_
  refine ⟨fun i j σ1 H1 => i + j = ds.length ∧ ∃ T1 ρ1 m1, Le T0 H0 T1 H1 ∧ RepH (gx X) T1 H1 m1 ∧ RepS (gx X) T1 H1 σ1 ρ1 ∧ forGo fg fb (ds.drop i) ρ1 m1 = some (r, m'), ⟨ds.length, by simp, T0, ρ, m1, .refl, hm0, hs.le l0, by simpa using hf⟩, ?_⟩
  rintro i j σ1 H1 ⟨hij, T1, ρ1, m1, l1, hm1, hs1, hf1⟩
  obtain ⟨okG, okS⟩ := ok T1 H1 l1 m1 hm1 i
  cases j with
  | zero =>
    left
    rw [List.drop_of_length_le (by omega)] at hf1
    cases hf1
    exact ⟨okS (by omega), k σ1 T1 H1 (l0.trans l1) hm1 hs1⟩
  | succ j =>
    right
    have hi : i < ds.length := by omega
    rw [List.drop_eq_getElem_cons hi] at hf1
    obtain ⟨go, yl⟩ := okG ds[i] (List.getElem?_eq_getElem hi)
    refine ⟨go, _, fun _ _ q => q, fun x H2 y2 => ?_⟩
    obtain ⟨T2, l2, hm2, r2⟩ := yl x H2 y2
    obtain ⟨ρ3, m3, e3, hf3⟩ := bd_some hf1
    refine rg T2 σ1 H2 ρ1 m1 ds[i] x ρ3 m3 hm2 (hs1.le l2) r2 e3 _ fun σ3 T3 H3 l3 hm3 hs3 => ?_
    obtain ⟨y, m4, e4, hf4⟩ := bd_some hf3
    refine rb T3 σ3 H3 ρ3 m3 y m4 hm3 hs3 e4 _ ?_
    have l13 := l1.trans (l2.trans l3)
    cases y with
    | nx ρ4 => exact fun σ4 T4 H4 l4 hm4 hs4 => ⟨j, Nat.lt_succ_self _, by omega, T4, ρ4, m4, l13.trans l4, hm4, hs4, hf4⟩
    | ct ρ4 => exact fun σ4 T4 H4 l4 hm4 hs4 => ⟨j, Nat.lt_succ_self _, by omega, T4, ρ4, m4, l13.trans l4, hm4, hs4, hf4⟩
    | bk ρ4 => cases hf4; exact KS.le (l0.trans l13) k
    | rt d => cases hf4; exact KV.le (l0.trans l13) k
end
end L4
namespace L4
open PySem L2
mutual
def pureD : D → Bool
  | .tup ds => pureL ds
  | .lst ds => pureL ds
  | .scr ds => pureL ds
  | .dic ks vs => pureL ks && pureL vs
  | .obj _ _ vs => pureL vs
  | .ref _ => false
  | .non => true
  | .bl _ => true
  | .int _ => true
  | .str _ => true
  | .glo _ => true
  | .ty _ => true
  | .tab _ => false
  | .ptp ds => pureL ds
def pureL : List D → Bool
  | [] => true
  | d :: ds => pureD d && pureL ds
end
mutual
def groundD : D → Bool
  | .tup ds => groundL ds
  | .lst _ => false
  | .scr _ => false
  | .dic _ _ => false
  | .obj _ _ _ => false
  | .ref _ => false
  | .non => true
  | .bl _ => true
  | .int _ => true
  | .str _ => true
  | .glo _ => true
  | .ty _ => true
  | .tab _ => false
  | .ptp ds => groundL ds
def groundL : List D → Bool
  | [] => true
  | d :: ds => groundD d && groundL ds
end
def T0 (ν : List Addr) : Tk := ⟨[], ν, [], (fun _ h => nomatch h), fun _ h => nomatch h⟩
section
variable {g : G} {T : Tk} {H : Hp}
theorem and2 {a b : Bool} (h : (a && b) = true) : a = true ∧ b = true := by cases a <;> cases b <;> first | exact ⟨rfl, rfl⟩ | cases h
theorem FT.less {K : PySem.W.Frag} {ν : List Addr} {a : Addr} {vs : List V} (hν : ∀ a ∈ ν, a ∈ T.ν) (f : FT K T H a vs) : FT K (T0 ν) H a vs := by
  rcases f with ⟨n, f⟩ | f
  · exact .inl ⟨fun z => n (hν _ z), f⟩
  · exact .inr f
theorem FL.less {ν : List Addr} {a : Addr} {vs : List V} (hν : ∀ a ∈ ν, a ∈ T.ν) (f : FL T H a vs) : FL (T0 ν) H a vs := ⟨fun z => f.1 (hν _ z), f.2⟩
theorem FS.less {K : PySem.W.Frag} {ν : List Addr} {a : Addr} {vs : List V} (hν : ∀ a ∈ ν, a ∈ T.ν) (f : FS K T H a vs) : FS K (T0 ν) H a vs := by
  rcases f with ⟨n, f⟩ | f
  · exact .inl ⟨fun z => n (hν _ z), f⟩
  · exact .inr f
theorem FP.less {ν : List Addr} {a : Addr} {vs : List V} (hν : ∀ a ∈ ν, a ∈ T.ν) (f : FP T H a vs) : FP (T0 ν) H a vs := ⟨fun z => f.1 (hν _ z), f.2⟩
mutual
theorem Rep.pure {ν : List Addr} (hν : ∀ a ∈ ν, a ∈ T.ν) : ∀ (d : D) {v : V}, pureD d = true → Rep g T H d v → Rep g (T0 ν) H d v
  | .non, _, _, r => by cases r; exact .non
  | .bl _, _, _, r => by cases r; exact .bl _
  | .int _, _, _, r => by cases r; exact .int _
  | .str _, _, _, r => by cases r; exact .str _
  | .glo _, _, _, r => by cases r; exact .glo _
  | .ty _, _, _, r => by cases r; exact .ty _
  | .tab _, _, h, _ => by rw [pureD] at h; cases h
  | .ref _, _, h, _ => by rw [pureD] at h; cases h
  | .tup ds, _, h, r => by
    rw [pureD] at h
    cases r with
    | tup f r => exact .tup (f.less hν) (RepL.pure hν ds h r)
  | .lst ds, _, h, r => by
    rw [pureD] at h
    cases r with
    | lst f r => exact .lst (f.less hν) (RepL.pure hν ds h r)
  | .scr ds, _, h, r => by
    rw [pureD] at h
    cases r with
    | scr f r => exact .scr (f.less hν) (RepL.pure hν ds h r)
  | .dic ks vs, _, h, r => by
    rw [pureD] at h
    cases r with
    | dicF n f r q => exact .dicF (fun z => n (hν _ z)) f (RepL.pure hν ks (and2 h).1 r) (RepL.pure hν vs (and2 h).2 q)
    | dicN n f e r q => exact .dicN (fun z => n (hν _ z)) f e (RepL.pure hν ks (and2 h).1 r) (RepL.pure hν vs (and2 h).2 q)
  | .obj c ns vs, _, h, r => by
    rw [pureD] at h
    cases r with
    | obj n f e r => exact .obj (fun z => n (hν _ z)) f e (RepL.pure hν vs h r)
  | .ptp ds, _, h, r => by
    rw [pureD] at h
    cases r with
    | ptp f r => exact .ptp (f.less hν) (RepL.pure hν ds h r)
theorem RepL.pure {ν : List Addr} (hν : ∀ a ∈ ν, a ∈ T.ν) : ∀ (ds : List D) {vs : List V}, pureL ds = true → RepL g T H ds vs → RepL g (T0 ν) H ds vs
  | [], _, _, r => by cases r; exact .nil
  | d :: ds, _, h, r => by
    rw [pureL] at h
    cases r with
    | cons r s => exact .cons (Rep.pure hν d (and2 h).1 r) (RepL.pure hν ds (and2 h).2 s)
end
mutual
theorem Rep.lift : ∀ (d : D) {v : V}, Rep g (T0 T.ν) H d v → Rep g T H d v
  | .non, _, r => by cases r; exact .non
  | .bl _, _, r => by cases r; exact .bl _
  | .int _, _, r => by cases r; exact .int _
  | .str _, _, r => by cases r; exact .str _
  | .glo _, _, r => by cases r; exact .glo _
  | .ty _, _, r => by cases r; exact .ty _
  | .tab _, _, r => by
    cases r with
    | tab h => exact absurd h (by simp [T0])
  | .ref _, _, r => by
    cases r with
    | ref h => exact absurd h (by simp [T0])
  | .tup ds, _, r => by
    cases r with
    | tup f r => exact .tup f (RepL.lift ds r)
  | .lst ds, _, r => by
    cases r with
    | lst f r => exact .lst f (RepL.lift ds r)
  | .scr ds, _, r => by
    cases r with
    | scr f r => exact .scr f (RepL.lift ds r)
  | .dic ks vs, _, r => by
    cases r with
    | dicF n f r q => exact .dicF n f (RepL.lift ks r) (RepL.lift vs q)
    | dicN n f e r q => exact .dicN n f e (RepL.lift ks r) (RepL.lift vs q)
  | .obj c ns vs, _, r => by
    cases r with
    | obj n f e r => exact .obj n f e (RepL.lift vs r)
  | .ptp ds, _, r => by
    cases r with
    | ptp f r => exact .ptp f (RepL.lift ds r)
theorem RepL.lift : ∀ (ds : List D) {vs : List V}, RepL g (T0 T.ν) H ds vs → RepL g T H ds vs
  | [], _, r => by cases r; exact .nil
  | d :: ds, _, r => by
    cases r with
    | cons r s => exact .cons (Rep.lift d r) (RepL.lift ds s)
end
theorem notup (hν : ∀ a ∈ T.ν, ∃ u, H a = some u ∧ Mu u) {a : Addr} {xs : List V} (h : Rd H a (.tup xs)) : a ∉ T.ν := fun z => by
  obtain ⟨u, e, q⟩ := hν a z
  rcases h with h | ⟨o, h⟩ <;> (rw [h] at e; cases e; exact q)
mutual
theorem Rep.ground {ν : List Addr} (hν : ∀ a ∈ T.ν, ∃ u, H a = some u ∧ Mu u) : ∀ (d : D) {v : V}, groundD d = true → Rep g (T0 ν) H d v → Rep g T H d v
  | .non, _, _, r => by cases r; exact .non
  | .bl _, _, _, r => by cases r; exact .bl _
  | .int _, _, _, r => by cases r; exact .int _
  | .str _, _, _, r => by cases r; exact .str _
  | .glo _, _, _, r => by cases r; exact .glo _
  | .ty _, _, _, r => by cases r; exact .ty _
  | .tab _, _, h, _ => by rw [groundD] at h; cases h
  | .ref _, _, h, _ => by rw [groundD] at h; cases h
  | .lst _, _, h, _ => by rw [groundD] at h; cases h
  | .scr _, _, h, _ => by rw [groundD] at h; cases h
  | .dic _ _, _, h, _ => by rw [groundD] at h; cases h
  | .obj _ _ _, _, h, _ => by rw [groundD] at h; cases h
  | .tup ds, _, h, r => by
    rw [groundD] at h
    cases r with
    | tup f r =>
      refine .tup ?_ (RepL.ground hν ds h r)
      rcases f with ⟨_, f⟩ | f
      · exact .inl ⟨notup hν f, f⟩
      · exact .inr f
  | .ptp ds, _, h, r => by
    rw [groundD] at h
    cases r with
    | ptp f r =>
      obtain ⟨_, o, f, e⟩ := f
      exact .ptp ⟨notup hν (.inr ⟨o, f⟩), o, f, e⟩ (RepL.ground hν ds h r)
theorem RepL.ground {ν : List Addr} (hν : ∀ a ∈ T.ν, ∃ u, H a = some u ∧ Mu u) : ∀ (ds : List D) {vs : List V}, groundL ds = true → RepL g (T0 ν) H ds vs → RepL g T H ds vs
  | [], _, _, r => by cases r; exact .nil
  | d :: ds, _, h, r => by
    rw [groundL] at h
    cases r with
    | cons r s => exact .cons (Rep.ground hν d (and2 h).1 r) (RepL.ground hν ds (and2 h).2 s)
end
end
def mapO (f : D → Option D) : List D → Option (List D)
  | [] => some []
  | d :: ds => match f d, mapO f ds with
    | some e, some es => some (e :: es)
    | _, _ => none
def frzGo (m : M) : Nat → D → Option D
  | 0, _ => none
  | n + 1, .tup ds => (mapO (frzGo m n) ds).map .tup
  | n + 1, .lst ds => (mapO (frzGo m n) ds).map .lst
  | n + 1, .scr ds => (mapO (frzGo m n) ds).map .scr
  | n + 1, .ptp ds => (mapO (frzGo m n) ds).map .ptp
  | n + 1, .dic ks vs => match mapO (frzGo m n) ks, mapO (frzGo m n) vs with
    | some a, some b => if pureL ks then some (.dic ks b) else none
    | _, _ => none
  | n + 1, .obj c ns vs => (mapO (frzGo m n) vs).map (.obj c ns)
  | n + 1, .ref k => match m[k]? with
    | some (.lst ds) => (mapO (frzGo m n) ds).map .lst
    | some (.dic ks vs) => if pureL ks then (mapO (frzGo m n) vs).map (.dic ks) else none
    | some (.ins c ns vs) => (mapO (frzGo m n) vs).map (.obj c ns)
    | none => none
  | _ + 1, .tab _ => none
  | _ + 1, d => some d
def frz (m : M) (d : D) : Option D := if pureD d then some d else frzGo m 40 d
def frzL (m : M) (ds : List D) : Option (List D) := if pureL ds then some ds else mapO (frz m) ds
section
variable {g : G} {T : Tk} {H : Hp} {m : M}
theorem RepL.mapO {T' : Tk} {f : D → Option D} (hf : ∀ d e v, f d = some e → Rep g T H d v → Rep g T' H e v) : ∀ {ds es : List D} {vs : List V}, L4.mapO f ds = some es → RepL g T H ds vs → RepL g T' H es vs
  | [], _, _, h, .nil => by cases h; exact .nil
  | d :: ds, es, _, h, .cons r s => by
    unfold L4.mapO at h
    split at h
    · next e es' h1 h2 => cases h; exact .cons (hf _ _ _ h1 r) (RepL.mapO hf h2 s)
    · cases h
theorem frzGo_ok {ν : List Addr} (hm : RepH g T H m) (hν : ∀ a ∈ ν, a ∈ T.ν) (hμ : ∀ a ∈ T.μ, a ∉ ν) : ∀ (n : Nat) (d e : D) (v : V), frzGo m n d = some e → Rep g T H d v → Rep g (T0 ν) H e v
  | 0, _, _, _, h, _ => by cases h
  | n + 1, d, e, v, h, r => by
    have ih := frzGo_ok hm hν hμ n
    cases r with
    | non => cases h; exact .non
    | bl b => cases h; exact .bl b
    | int i => cases h; exact .int i
    | str x => cases h; exact .str x
    | glo x => cases h; exact .glo x
    | ty x => cases h; exact .ty x
    | tab _ => cases h
    | tup f r =>
      obtain ⟨es, h1, rfl⟩ := Option.map_eq_some_iff.mp h
      exact .tup (f.less hν) (r.mapO ih h1)
    | lst f r =>
      obtain ⟨es, h1, rfl⟩ := Option.map_eq_some_iff.mp h
      exact .lst (f.less hν) (r.mapO ih h1)
    | scr f r =>
      obtain ⟨es, h1, rfl⟩ := Option.map_eq_some_iff.mp h
      exact .scr (f.less hν) (r.mapO ih h1)
    | ptp f r =>
      obtain ⟨es, h1, rfl⟩ := Option.map_eq_some_iff.mp h
      exact .ptp (f.less hν) (r.mapO ih h1)
    | dicF k f r q =>
      unfold frzGo at h
      split at h
      · next a b h1 h2 =>
        split at h
        · next hp => cases h; exact .dicF (fun z => k (hν _ z)) f (RepL.pure hν _ hp r) (q.mapO ih h2)
        · cases h
      · cases h
    | dicN k f e r q =>
      unfold frzGo at h
      split at h
      · next a b h1 h2 =>
        split at h
        · next hp => cases h; exact .dicN (fun z => k (hν _ z)) f e (RepL.pure hν _ hp r) (q.mapO ih h2)
        · cases h
      · cases h
    | obj k f e r =>
      obtain ⟨es, h1, rfl⟩ := Option.map_eq_some_iff.mp h
      exact .obj (fun z => k (hν _ z)) f e (r.mapO ih h1)
    | @ref k a hk =>
      have na : a ∉ ν := hμ a (List.mem_of_getElem? hk)
      unfold frzGo at h
      split at h
      · next ds h1 =>
        obtain ⟨es, h2, rfl⟩ := Option.map_eq_some_iff.mp h
        cases hm.at_ _ _ _ hk h1 with
        | lst f r => exact .lst ⟨na, f⟩ (r.mapO ih h2)
      · next ks vs h1 =>
        split at h
        · next hp =>
          obtain ⟨es, h2, rfl⟩ := Option.map_eq_some_iff.mp h
          cases hm.at_ _ _ _ hk h1 with
          | dicF f r q => exact .dicF na (.inl f) (RepL.pure hν _ hp r) (q.mapO ih h2)
          | dicN f e r q => exact .dicN na (.inl f) e (RepL.pure hν _ hp r) (q.mapO ih h2)
        · cases h
      · next c ns vs h1 =>
        obtain ⟨es, h2, rfl⟩ := Option.map_eq_some_iff.mp h
        cases hm.at_ _ _ _ hk h1 with
        | ins f e r => exact .obj na f e (r.mapO ih h2)
      · cases h
theorem frz_ok {ν : List Addr} (hm : RepH g T H m) (hν : ∀ a ∈ ν, a ∈ T.ν) (hμ : ∀ a ∈ T.μ, a ∉ ν) {d e : D} {v : V} (h : frz m d = some e) (r : Rep g T H d v) : Rep g (T0 ν) H e v := by
  unfold frz at h
  split at h
  · next hp => cases h; exact Rep.pure hν _ hp r
  · exact frzGo_ok hm hν hμ _ _ _ _ h r
theorem frzL_ok {ν : List Addr} (hm : RepH g T H m) (hν : ∀ a ∈ ν, a ∈ T.ν) (hμ : ∀ a ∈ T.μ, a ∉ ν) {d e : List D} {v : List V} (h : frzL m d = some e) (r : RepL g T H d v) : RepL g (T0 ν) H e v := by
  unfold frzL at h
  split at h
  · next hp => cases h; exact RepL.pure hν _ hp r
  · exact r.mapO (fun d e v h r => frz_ok hm hν hμ h r) h
end
structure FnG (P : Program) (w : World) (K : PySem.W.Frag) (mg : Str → Option Value) (base : Heap) (CX : CXT) (k : Nat) (f : Addr) (fd : FuncData) (ps : List Str) (sp : Sp) : Prop where
  len : ∀ vs H Q E, sp vs H Q E → vs.length = ps.length
  run : ∀ (A : Around) (outer : List Env) (s : Shared) (H : Hp) (args : Args) (us : List Value) (vs : List V) (Q : VK) (E : XK), A.guards = some [] → Room k A → Env0 P w K mg base A outer s H →
    BindsTo s fd args (ps.zip us) → Vals vs us → sp vs H Q E → codeAny (model P w) A (.call (.ref f) args) (CR CX outer P w H s Q E) s
theorem FnG.old {P : Program} {w : World} {K : PySem.W.Frag} {mg : Str → Option Value} {base : Heap} {k : Nat} {f : Addr} {fd : FuncData} {ps : List Str} {sp : Sp} (F : L3.FnG P w K mg base k f fd ps sp) : FnG P w K mg base CX0 k f fd ps sp := ⟨F.len, F.run⟩
/-- where a call may be made -/
structure Gd (k : Nat) (X : Cx) : Prop where
  g : X.A.guards = some []
  r : Room k X.A
theorem Gd.mono {j k : Nat} {X : Cx} (h : Gd k X) (l : j ≤ k) : Gd j X := ⟨h.g, h.r.mono l⟩
section
variable {X : Cx} {k : Nat} {f : Addr} {fd : FuncData} {ps : List Str} {sp : Sp} {ds : List Value} {dvs : List V}
theorem FnG.call (F : FnG X.prog X.w X.K X.mg X.base CX0 k f fd ps sp) (hr : Gd k X) (hb : Binds X.K fd ps ds) (hd : Vals dvs ds) : CallR X (.ref f) fun vs H Q => sp (vs ++ dvs) H Q E0 := by
  intro pins s σ H vs us Q I r h
  have r2 : Vals (vs ++ dvs) (us ++ ds) := r.append hd
  have hl : (us ++ ds).length = ps.length := by rw [← r2.length]; exact F.len _ _ _ _ h
  refine wpAny_call (codeAny_mono (F.run X.A X.stack s H ⟨us, []⟩ (us ++ ds) (vs ++ dvs) Q E0 hr.g hr.r I.env0 (hb s us I.kIn hl) r2 h) fun r s' hq => ?_)
  cases r with
  | error e => exact hq.elim
  | ok fl =>
    cases fl with
    | ret u => exact I.after hq
    | next => exact False.elim hq
    | brk => exact False.elim hq
    | cont => exact False.elim hq
variable {r : List V → Hp → VK → Prop} {x : Str} {p pos : Pos} {e : Expr} {es : List Expr} {t : TA}
theorem pe_callR (hc : CallR X (.ref f) r) (hg : Gl X x) (hm : X.mg x = some (.ref f)) (hk : PySem.W.keepIn X.K (.ref f) = true) (ha : PA X (e :: es) t) (hdb : (x == ("__debug__" : Str)) = false := by decide)
    (he : starEach (e :: es) X.env = (false, eval e X.env) :: starEach es X.env := by rfl) (hpl : (backTo pos (starEach es X.env)).any (·.1) = false := by rfl) : PE X (.Call (.Name x p) (e :: es) [] pos) (tCB r t) := by
  refine ⟨fun pins s σ H Q I h => ?_⟩
  refine wpAny_Call_Name_kw (ld_glob I hg hm ?_ hdb)
  refine PySem.W.callWith_K (h₀ := X.base) I.ok.mod.kin hk (thn (ha.run pos pins s σ H _ I h) fun us s1 ⟨vs, H1, I1, r, q⟩ => ⟨I1.kIn, ?_⟩) he hpl
  exact hc pins s1 σ H1 vs us Q I1 r q
end
/-- what a def on plain data promises -/
def spP (g : G) (n : Nat) (F : List D → Option D) : Sp := fun vs H Q _ => vs.length = n ∧ ∃ (ν : List Addr) (ds : List D) (d : D), (∀ a ∈ ν, ∃ u, H a = some u ∧ Mu u) ∧ RepL g (T0 ν) H ds vs ∧ F ds = some d ∧
  ∀ v H', (∀ a u, H a = some u → H' a = some u) → Rep g (T0 ν) H' d v → Q v H'
/-- .. on tracked things too -/
def spM (g : G) (n : Nat) (F : List D → M → Option (D × M)) : Sp := fun vs H Q _ => vs.length = n ∧ ∃ (T : Tk) (m : M) (ds : List D) (d : D) (m' : M), RepH g T H m ∧ RepL g T H ds vs ∧ F ds m = some (d, m') ∧ KV g T H m' d Q
def startD (n : Nat) (ds : List D) : Ss := ds.map some ++ List.replicate (n - ds.length) none
theorem repS_start {g : G} {T : Tk} {H : Hp} {N : List Str} {ds : List D} {vs : List V} (r : RepL g T H ds vs) : RepS g T H (L2.start N vs) (startD N.length ds) := by
  refine ⟨by simp [L2.start, startD, r.length], fun i d h => ?_⟩
  unfold startD at h
  by_cases hi : i < ds.length
  · rw [List.getElem?_append_left (by simpa using hi), List.getElem?_map] at h
    obtain ⟨e, h1, h2⟩ := Option.map_eq_some_iff.mp h
    cases h2
    obtain ⟨v, h3, q⟩ := r.get h1
    exact ⟨v, by
      unfold L2.start
      rw [List.getElem?_append_left (by simpa [← r.length] using hi), List.getElem?_map, h3]
      rfl, q⟩
  · rw [List.getElem?_append_right (by simpa using hi)] at h
    have := List.mem_of_getElem? h
    simp at this
def endP : Option (Fl × M) → Option D
  | some (.rt d, m) => frz m d
  | some (.nx _, _) => some .non
  | _ => none
def endM : Option (Fl × M) → Option (D × M)
  | some (.rt d, m') => some (d, m')
  | some (.nx _, m') => some (.non, m')
  | _ => none
def runP (a n : Nat) (b : SF) (ds : List D) : Option D := if ds.length = a then endP (b (startD n ds) []) else none
def runM (a n : Nat) (b : SF) (ds : List D) (m : M) : Option (D × M) := if ds.length = a then endM (b (startD n ds) m) else none
theorem ite_some {α : Type} {c : Prop} [Decidable c] {a : Option α} {b : α} (h : (if c then a else none) = some b) : c ∧ a = some b := by
  split at h
  · next hc => exact ⟨hc, h⟩
  · cases h
theorem runP_len {a n : Nat} {b : SF} {ds : List D} {d : D} (h : runP a n b ds = some d) : ds.length = a := (ite_some h).1
theorem runM_len {a n : Nat} {b : SF} {ds : List D} {m : M} {r : D × M} (h : runM a n b ds m = some r) : ds.length = a := (ite_some h).1
theorem spP_run {g : G} {n a : Nat} {N : List Str} {t : TS} {b : SF} (ht : RfS g t b) {vs : List V} {H : Hp} {Q : VK} {E : XK} (h : spP g n (runP a N.length b) vs H Q E) : t { nx := fun _ H' => Q .non H', rt := Q } (L2.start N vs) H := by
  obtain ⟨_, ν, ds, d, hν, r, hf, k⟩ := h
  have hm : RepH g (T0 ν) H [] := ⟨rfl, List.nodup_nil, hν, (fun n a o h _ => by cases h), fun p h => nomatch h⟩
  replace hf := (ite_some hf).2
  unfold endP at hf
  split at hf
  · next d' m e =>
    refine ht (T0 ν) _ H _ [] _ _ hm (repS_start r) e _ fun v T' H' l hm' rv => ?_
    refine k v H' (fun a u h => l.keep a u h (fun z => nomatch z) (fun _ z => nomatch z)) (frz_ok hm' (fun a h => l.up a h) (fun a h z => ?_) hf rv)
    have := l.newμ a h fun z => nomatch z
    obtain ⟨u, q, _⟩ := hν a z
    rw [this] at q
    cases q
  · next e =>
    cases hf
    exact ht (T0 ν) _ H _ [] _ _ hm (repS_start r) e _ fun σ T' H' l hm' rv => k _ H' (fun a u h => l.keep a u h (fun z => nomatch z) (fun _ z => nomatch z)) .non
  · cases hf
theorem spM_run {g : G} {n a : Nat} {N : List Str} {t : TS} {b : SF} (ht : RfS g t b) {vs : List V} {H : Hp} {Q : VK} {E : XK} (h : spM g n (runM a N.length b) vs H Q E) : t { nx := fun _ H' => Q .non H', rt := Q } (L2.start N vs) H := by
  obtain ⟨_, T, m, ds, d, m', hm, r, hf, k⟩ := h
  replace hf := (ite_some hf).2
  unfold endM at hf
  split at hf
  · next d' m e =>
    cases hf
    exact ht T _ H _ m _ _ hm (repS_start r) e _ k
  · next e =>
    cases hf
    exact ht T _ H _ m _ _ hm (repS_start r) e _ fun σ T' H' l hm' rv => k _ T' H' l hm' .non
  · cases hf
/-- a call of a def on plain data: tracked things are lent where what comes back is plain -/
def callP (F : List D → Option D) (m : M) (ds : List D) : Option D := if pureL ds then F ds else match mapO (frz m) ds with
  | some es => match F es with
    | some d => if groundD d then some d else none
    | none => none
  | none => none
theorem rf_callP {g : G} {n : Nat} {F : List D → Option D} (hn : ∀ ds d, F ds = some d → ds.length = n) : RfC g (fun vs H Q => spP g n F vs H Q E0) (callP F) := by
  intro T H m xs vs d hm r hf Q k
  unfold callP at hf
  split at hf
  · next hp =>
    refine ⟨by rw [← r.length]; exact hn _ _ hf, T.ν, xs, d, hm.has, RepL.pure (fun _ h => h) _ hp r, hf, fun v H' up rv => ?_⟩
    obtain ⟨l, hm'⟩ := hm.grow up
    exact k v T H' l hm' (Rep.lift _ rv)
  · split at hf
    · next es h1 =>
      split at hf
      · next d' h2 =>
        split at hf
        · next hg =>
          cases hf
          have re : RepL g (T0 []) H es vs := r.mapO (fun d e v h q => frz_ok hm (fun a h => (List.not_mem_nil h).elim) (fun a _ h => (List.not_mem_nil h).elim) h q) h1
          refine ⟨by rw [← re.length]; exact hn _ _ h2, [], es, d, fun a h => (List.not_mem_nil h).elim, re, h2, fun v H' up rv => ?_⟩
          obtain ⟨l, hm'⟩ := hm.grow up
          exact k v T H' l hm' (Rep.ground hm'.has _ hg rv)
        · cases hf
      · cases hf
    · cases hf
/-- a call of a def on tracked things -/
def eCallM (F : List D → M → Option (D × M)) (a : AF) : EF := fun ρ m => bd (a ρ m) fun xs m1 => F xs m1
theorem rf_callM {g : G} {n : Nat} {F : List D → M → Option (D × M)} {t : TA} {a : AF} (hn : ∀ ds m r, F ds m = some r → ds.length = n) (ha : RfA g t a) : RfE g (tCB (fun vs H Q => spM g n F vs H Q E0) t) (eCallM F a) := by
  intro T σ H ρ m d m' hm hs hf Q k
  obtain ⟨x, m1, e1, hf⟩ := bd_some hf
  refine ha T σ H ρ m x _ hm hs e1 _ fun v T1 H1 l1 hm1 r1 => ?_
  exact ⟨by rw [← r1.length]; exact hn _ _ _ hf, T1, m1, x, d, m', hm1, r1, hf, k.le l1⟩
end L4
namespace L4
open PySem L2
def subD : M → D → D → Option D
  | _, .int i, .int j => some (.int (i - j))
  | _, _, _ => none
def fdivD : M → D → D → Option D
  | _, .int i, .int j => if 0 < j ∧ j < 1073741824 then some (.int (i / j)) else none
  | _, _, _ => none
def modD : M → D → D → Option D
  | _, .int i, .int j => if 0 < j then some (.int (i % j)) else none
  | _, _, _ => none
def powD : M → D → D → Option D
  | _, .int i, .int j => if 0 ≤ j ∧ j ≤ 1000000 ∧ i.natAbs < 2 ^ 64 then some (.int (i ^ j.toNat)) else none
  | _, _, _ => none
def negD : M → D → Option D
  | _, .int i => some (.int (-i))
  | _, _ => none
section
variable {X : Cx} {g : G} {T : Tk} {H : Hp} {m : M} {Q : VK}
theorem KV.now {d : D} {v : V} (k : KV g T H m d Q) (hm : RepH g T H m) (r : Rep g T H d v) : Q v H := k v T H .refl hm r
theorem op_sub' : OpD X (binaryOp .Sub) subD := ⟨_, op_sub, fun T H m x y v u d hm rx ry hf Q k => by
  cases rx <;> cases ry <;> first | (cases hf; exact ⟨_, _, rfl, rfl, k.now hm (.int _)⟩) | (cases hf; done)⟩
theorem op_fdiv' : OpD X (binaryOp .FloorDiv) fdivD := ⟨_, op_fdiv, fun T H m x y v u d hm rx ry hf Q k => by
  cases rx <;> cases ry <;> first | (cases hf; done) | (obtain ⟨h, hf⟩ := ite_some hf; cases hf; exact ⟨_, _, rfl, rfl, h, k.now hm (.int _)⟩)⟩
theorem op_mod' : OpD X (binaryOp .Mod) modD := ⟨_, op_mod, fun T H m x y v u d hm rx ry hf Q k => by
  cases rx <;> cases ry <;> first | (cases hf; done) | (obtain ⟨h, hf⟩ := ite_some hf; cases hf; exact ⟨_, _, rfl, rfl, h, k.now hm (.int _)⟩)⟩
theorem op_pow' : OpD X (binaryOp .Pow) powD := ⟨_, op_pow, fun T H m x y v u d hm rx ry hf Q k => by
  cases rx <;> cases ry <;> first | (cases hf; done) | (obtain ⟨h, hf⟩ := ite_some hf; cases hf; exact ⟨_, _, rfl, rfl, h, k.now hm (.int _)⟩)⟩
def cmpI (p : Int → Int → Bool) (q : List Nat → List Nat → Bool) : M → D → D → Option D
  | _, .int i, .int j => some (.bl (p i j))
  | _, .str i, .str j => some (.bl (q i.cps.toList j.cps.toList))
  | _, _, _ => none
def ltD := cmpI (fun i j => decide (i < j)) (fun i j => decide (i < j))
def leD : M → D → D → Option D
  | _, .int i, .int j => some (.bl (decide (i ≤ j)))
  | _, _, _ => none
def gtD : M → D → D → Option D
  | _, .int i, .int j => some (.bl (decide (j < i)))
  | _, _, _ => none
def geD : M → D → D → Option D
  | _, .int i, .int j => some (.bl (decide (j ≤ i)))
  | _, _, _ => none
theorem orR {F : Value → Value → Sem Value} {r q : R2} (h1 : OpR X F r) (h2 : OpR X F q) : OpR X F (fun x y H Q => r x y H Q ∨ q x y H Q) := by
  intro pins s σ H x y v u Q I rx ry h
  rcases h with h | h
  · exact h1 pins s σ H x y v u Q I rx ry h
  · exact h2 pins s σ H x y v u Q I rx ry h
theorem op_lt' : OpD X (compareOp .Lt) ltD := ⟨_, orR op_lt op_lt_str, fun T H m x y v u d hm rx ry hf Q k => by
  cases rx <;> cases ry <;> first | (cases hf; exact .inl ⟨_, _, rfl, rfl, k.now hm (.bl _)⟩) | (cases hf; exact .inr ⟨_, _, rfl, rfl, k.now hm (.bl _)⟩) | (cases hf; done)⟩
theorem op_le' : OpD X (compareOp .LtE) leD := ⟨_, op_le, fun T H m x y v u d hm rx ry hf Q k => by
  cases rx <;> cases ry <;> first | (cases hf; exact ⟨_, _, rfl, rfl, k.now hm (.bl _)⟩) | (cases hf; done)⟩
theorem op_gt' : OpD X (compareOp .Gt) gtD := ⟨_, op_gt, fun T H m x y v u d hm rx ry hf Q k => by
  cases rx <;> cases ry <;> first | (cases hf; exact ⟨_, _, rfl, rfl, k.now hm (.bl _)⟩) | (cases hf; done)⟩
theorem op_ge' : OpD X (compareOp .GtE) geD := ⟨_, op_ge, fun T H m x y v u d hm rx ry hf Q k => by
  cases rx <;> cases ry <;> first | (cases hf; exact ⟨_, _, rfl, rfl, k.now hm (.bl _)⟩) | (cases hf; done)⟩
def lstO : O → Option (List D)
  | .lst ds => some ds
  | _ => none
def lstOf (m : M) : D → Option (List D)
  | .lst ds => some ds
  | .ref n => (m[n]?).bind lstO
  | _ => none
theorem lst_rep {x : D} {v : V} {ds : List D} (hm : RepH g T H m) (r : Rep g T H x v) (h : lstOf m x = some ds) : ∃ a vs, v = .ref a ∧ H a = some (.lst vs) ∧ RepL g T H ds vs := by
  cases r with
  | lst f r => cases h; exact ⟨_, _, rfl, f.2, r⟩
  | ref e =>
    obtain ⟨o, h1, h2⟩ := Option.bind_eq_some_iff.mp h
    cases hm.at_ _ _ _ e h1 with
    | lst f r => cases h2; exact ⟨_, _, rfl, f, r⟩
    | _ => cases h2
  | _ => cases h
/-- a list that is read, the script too -/
def lstR (m : M) : D → Option (List D)
  | .scr ds => some ds
  | d => lstOf m d
theorem lstR_rep {x : D} {v : V} {ds : List D} (hm : RepH g T H m) (r : Rep g T H x v) (h : lstR m x = some ds) : ∃ a vs, v = .ref a ∧ SqL g.K H a vs ∧ RepL g T H ds vs := by
  unfold lstR at h
  split at h
  · cases h
    cases r with
    | scr f r => exact ⟨_, _, rfl, f.sq, r⟩
  · obtain ⟨a, vs, e, q, r⟩ := lst_rep hm r h
    exact ⟨a, vs, e, .of q, r⟩
theorem tup_rep {v : V} {ds : List D} (r : Rep g T H (.tup ds) v) : ∃ a vs, v = .ref a ∧ SqT g.K H a vs ∧ RepL g T H ds vs := by
  cases r with
  | tup f r => exact ⟨_, _, rfl, f.sq, r⟩
/-- a new tuple -/
theorem KV.tup {ds : List D} {vs : List V} (k : KV g T H m (.tup ds) Q) (hm : RepH g T H m) (r : RepL g T H ds vs) (p : Addr) (hp : H p = none) : Q (.ref p) (upd H p (.tup vs)) := by
  obtain ⟨l, hm'⟩ := hm.fresh (u := .tup vs) hp
  exact k _ T _ l hm' (.tup (.inl ⟨fun z => hm.nope hp z, .inl upd_same⟩) (r.le l))
/-- a new list that stays as it is -/
theorem KV.lst {ds : List D} {vs : List V} (k : KV g T H m (.lst ds) Q) (hm : RepH g T H m) (r : RepL g T H ds vs) (p : Addr) (hp : H p = none) : Q (.ref p) (upd H p (.lst vs)) := by
  obtain ⟨l, hm'⟩ := hm.fresh (u := .lst vs) hp
  exact k _ T _ l hm' (.lst ⟨fun z => hm.nope hp z, upd_same⟩ (r.le l))
/-- a new list that is tracked -/
theorem KV.newL {ds : List D} {vs : List V} (k : KV g T H (m ++ [.lst ds]) (.ref m.length) Q) (hm : RepH g T H m) (r : RepL g T H ds vs) (p : Addr) (hp : H p = none) : Q (.ref p) (upd H p (.lst vs)) := by
  obtain ⟨l, hm'⟩ := hm.push (u := .lst vs) (o := .lst ds) hp fun l => .lst upd_same (r.le l)
  refine k _ (T.push p) _ l hm' (.ref ?_)
  show (T.μ ++ [p])[m.length]? = some p
  rw [← hm.len, List.getElem?_append_right (Nat.le_refl _)]
  simp
def eTup (a : AF) : EF := fun ρ m => bd (a ρ m) fun xs m1 => if xs.length ≤ sizeLine then some (.tup xs, m1) else none
def eLst (a : AF) : EF := fun ρ m => bd (a ρ m) fun xs m1 => if xs.length ≤ sizeLine then some (.lst xs, m1) else none
def eNewL (a : AF) : EF := fun ρ m => bd (a ρ m) fun xs m1 => if xs.length ≤ sizeLine then some (.ref m1.length, m1 ++ [.lst xs]) else none
variable {pos : Pos}
theorem de_tup {es : List Expr} {f : AF} {k} (ha : DA X es f) : DE X (.Tuple es k pos) (eTup f) := by
  obtain ⟨ta, pa, ra⟩ := ha.ex
  refine ⟨_, pe_tup pa, fun T σ H ρ m d m' hm hs hf Q k => ?_⟩
  obtain ⟨x, m1, e1, hf⟩ := bd_some hf
  obtain ⟨hz, hf⟩ := ite_some hf
  cases hf
  refine ra T σ H ρ m x _ hm hs e1 _ fun vs T1 H1 l1 hm1 r1 => ⟨by rw [← r1.length]; exact hz, fun p hp => ?_⟩
  exact (k.le l1).tup hm1 r1 p hp
theorem de_lst {es : List Expr} {f : AF} (ha : DA X es f) : DE X (.List es pos) (eLst f) := by
  obtain ⟨ta, pa, ra⟩ := ha.ex
  refine ⟨_, pe_lst pa, fun T σ H ρ m d m' hm hs hf Q k => ?_⟩
  obtain ⟨x, m1, e1, hf⟩ := bd_some hf
  obtain ⟨hz, hf⟩ := ite_some hf
  cases hf
  refine ra T σ H ρ m x _ hm hs e1 _ fun vs T1 H1 l1 hm1 r1 => ⟨by rw [← r1.length]; exact hz, fun p hp => ?_⟩
  exact (k.le l1).lst hm1 r1 p hp
theorem de_newL {es : List Expr} {f : AF} (ha : DA X es f) : DE X (.List es pos) (eNewL f) := by
  obtain ⟨ta, pa, ra⟩ := ha.ex
  refine ⟨_, pe_lst pa, fun T σ H ρ m d m' hm hs hf Q k => ?_⟩
  obtain ⟨x, m1, e1, hf⟩ := bd_some hf
  obtain ⟨hz, hf⟩ := ite_some hf
  cases hf
  refine ra T σ H ρ m x _ hm hs e1 _ fun vs T1 H1 l1 hm1 r1 => ⟨by rw [← r1.length]; exact hz, fun p hp => ?_⟩
  exact (k.le l1).newL hm1 r1 p hp
/-- two texts, one behind the other -/
def catS (i j : Str) : Str := ⟨(i.cps.toList ++ j.cps.toList).toArray⟩
theorem catS_eq (i j : Str) : i ++ j = catS i j := by
  cases i with
  | mk a => cases j with
    | mk b =>
      show (⟨a ++ b⟩ : Str) = ⟨(a.toList ++ b.toList).toArray⟩
      congr 1
      exact Array.ext' (by simp)
def addD (m : M) (x y : D) : Option D := match x, y with
  | .int i, .int j => some (.int (i + j))
  | .str i, .str j => if i.length + j.length ≤ sizeLine then some (.str (catS i j)) else none
  | .tup a, .tup b => if a.length + b.length ≤ sizeLine then some (.tup (a ++ b)) else none
  | x, y => match lstOf m x, lstOf m y with
    | some a, some b => if a.length + b.length ≤ sizeLine then some (.lst (a ++ b)) else none
    | _, _ => none
theorem addD_lst {m : M} {x y d : D} (h : addD m x y = some d) : (∃ i j, x = .int i ∧ y = .int j ∧ d = .int (i + j)) ∨ (∃ i j, x = .str i ∧ y = .str j ∧ i.length + j.length ≤ sizeLine ∧ d = .str (catS i j)) ∨
    (∃ a b, x = .tup a ∧ y = .tup b ∧ a.length + b.length ≤ sizeLine ∧ d = .tup (a ++ b)) ∨ (∃ a b, lstOf m x = some a ∧ lstOf m y = some b ∧ a.length + b.length ≤ sizeLine ∧ d = .lst (a ++ b)) := by
  unfold addD at h
  split at h
  · cases h; exact .inl ⟨_, _, rfl, rfl, rfl⟩
  · obtain ⟨hz, h⟩ := ite_some h; cases h; exact .inr (.inl ⟨_, _, rfl, rfl, hz, rfl⟩)
  · obtain ⟨hz, h⟩ := ite_some h; cases h; exact .inr (.inr (.inl ⟨_, _, rfl, rfl, hz, rfl⟩))
  · split at h
    · next h1 h2 => obtain ⟨hz, h⟩ := ite_some h; cases h; exact .inr (.inr (.inr ⟨_, _, h1, h2, hz, rfl⟩))
    · cases h
theorem op_add' : OpD X (binaryOp .Add) addD := ⟨_, orR op_add (orR op_add_str (orR op_catA op_cat)), fun T H m x y v u d hm rx ry hf Q k => by
  rcases addD_lst hf with ⟨i, j, rfl, rfl, rfl⟩ | ⟨i, j, rfl, rfl, hz, rfl⟩ | ⟨a, b, rfl, rfl, hz, rfl⟩ | ⟨a, b, h1, h2, hz, rfl⟩
  · cases rx; cases ry; exact .inl ⟨_, _, rfl, rfl, k.now hm (.int _)⟩
  · cases rx; cases ry; exact .inr (.inl ⟨_, _, rfl, rfl, hz, by rw [catS_eq]; exact k.now hm (.str _)⟩)
  · obtain ⟨p, xs, rfl, hx, r1⟩ := tup_rep rx
    obtain ⟨q, ys, rfl, hy, r2⟩ := tup_rep ry
    refine .inr (.inr (.inl ⟨p, q, xs, ys, rfl, rfl, hx, hy, by rw [← r1.length, ← r2.length]; exact hz, fun e => ?_, fun _ e => ?_, fun _ _ z hz => k.tup hm (r1.append r2) z hz⟩))
    · subst e; cases r1; exact k.now hm ry
    · subst e; cases r2; rw [List.append_nil] at k; exact k.now hm rx
  · obtain ⟨p, xs, rfl, hx, r1⟩ := lst_rep hm rx h1
    obtain ⟨q, ys, rfl, hy, r2⟩ := lst_rep hm ry h2
    exact .inr (.inr (.inr ⟨p, q, xs, ys, rfl, rfl, hx, hy, by rw [← r1.length, ← r2.length]; exact hz, fun z hz => k.lst hm (r1.append r2) z hz⟩))⟩
def mulD (m : M) (x y : D) : Option D := match x, y with
  | .int i, .int j => if (-(2 ^ 64) < i ∧ i < 2 ^ 64) ∨ (-(2 ^ 64) < j ∧ j < 2 ^ 64) then some (.int (i * j)) else none
  | .tup a, .int k => if a ≠ [] ∧ a.length ≤ 1000 ∧ 0 ≤ k ∧ k ≤ 1000 then some (.tup (List.replicate k.toNat a).flatten) else none
  | .lst a, .int k => if a.length ≤ 1000 ∧ 0 ≤ k ∧ k ≤ 1000 then some (.lst (List.replicate k.toNat a).flatten) else none
  | _, _ => none
theorem tuple_mul1 (l : Addr) (items : Array Value) (n : Nat) (dd : Option Addr) (sl : Array (Option Value)) (u : Tok) :
    Meets (Builtin.«tuple.__mul__» ⟨[.ref l, .int 1 u], []⟩) (fun _ R s => s.heap.get? l = some { cls := .type "tuple", dict := dd, data := .seq items n, slots := sl } ∧ R (.ok (.ret (Value.ref l))) s) :=
  .of_wp fun prog w A R s h => by
    obtain ⟨hp, g, d, tk, os⟩ := s
    obtain ⟨hl, h⟩ := h
    have f1 := AutoSeq1.idx_int
    wp_walk using wpAny_loadPart' hl
    exact ⟨_, rfl, h⟩
theorem tuple_mul0 (l : Addr) (items : Array Value) (n : Nat) (dd : Option Addr) (sl : Array (Option Value)) (u : Tok) (hi : items.isEmpty = false) :
    Meets (Builtin.«tuple.__mul__» ⟨[.ref l, .int 0 u], []⟩) (fun _ R s => s.heap.get? l = some { cls := .type "tuple", dict := dd, data := .seq items n, slots := sl } ∧ R (.ok (.ret (Value.ref s.heap.objs.size))) { s with heap := s.heap.push { cls := Value.type "tuple", data := Data.seq #[] } }) :=
  .of_wp fun prog w A R s h => by
    obtain ⟨hp, g, d, tk, os⟩ := s
    obtain ⟨hl, h⟩ := h
    have f1 := AutoSeq1.idx_int
    have c1 : (items.isEmpty || (0 : Int) == 1) = false := by rw [hi]; rfl
    wp_walk using wpAny_loadPart' hl
    repeat (first
      | (refine wpAny_ite_false (decide_eq_false (by rw [c1]; exact Bool.false_ne_true)) ?_; wp_walk using wpAny_loadPart' hl))
    exact ⟨_, rfl, h⟩
theorem repT_core {l : Addr} {k : Int} {t : Tok} {xs : List V} {pins : List (Addr × Obj)} {s : Shared} {σ : L2.St} {H : Hp} {Q : VK} (I : Inv X pins σ H s) (hT : SqT X.K H l xs) (h1 : k = 1 → Q (.ref l) H) (h0 : k = 0 → xs ≠ [] ∧ ∀ p, H p = none → Q (.ref p) (upd H p (.tup []))) (hk : k = 0 ∨ k = 1) :
    wpAny (model X.prog X.w) X.A (binaryOp .Mult (.ref l) (.int k t)) (EP X pins σ Q) X.xe s := by
  obtain ⟨its, r, ⟨⟨cls, dd, data, sl⟩, ho, hc, n, hd⟩, hs⟩ := I.tuple hT
  simp only at hc hd
  subst hc hd
  refine wpAny_binaryOp_repeat_ref (T := "tuple") (U := "int") (by decide) ⟨_, ho, rfl⟩ (fun s' => typeIs_int s' k t) noFill_tuple_mul F.fills_int_mul F.slot_int_rmul repeat_tuple F.slot_int_index.lookup
    (call_meets F.slot_int_rmul (typeIs_int s k t) F.entry_int_rmul (F.args_int_rmul_2 _ _) (int_rmul_tuple k t l its.toArray n dd sl)
      ⟨ho, rfl, ⟨_, ho, rfl⟩, ?_⟩)
  rcases hk with rfl | rfl
  · obtain ⟨hne, q⟩ := h0 rfl
    refine call_meets F.slot_tuple_mul ⟨_, ho, rfl⟩ F.entry_tuple_mul (F.args_tuple_mul_2 _ _) (tuple_mul0 l its.toArray n dd sl t ?_) ⟨ho, ?_⟩
    · cases its with
      | nil => cases r; exact absurd rfl hne
      | cons _ _ => rfl
    · exact ⟨.ref s.heap.objs.size, _, I.laid (t' := s.toks) (o := .tup []) (fun b ob q => Heap.get?_push_of_some _ q) (Nat.le_refl _) ⟨Nat.zero_le _, _, .nil, PyProof.Rows.IsTup.new _ _⟩, rfl, q _ (I.hok.fresh (Nat.le_refl _))⟩
  · refine call_meets F.slot_tuple_mul ⟨_, ho, rfl⟩ F.entry_tuple_mul (F.args_tuple_mul_2 _ _) (tuple_mul1 l its.toArray n dd sl t) ⟨ho, ?_⟩
    exact ⟨.ref l, H, I, rfl, h1 rfl⟩
def rRepS (K : PySem.W.Frag) : R2 := fun x y H Q => ∃ l k xs, x = .ref l ∧ y = .int k ∧ SqT K H l xs ∧ (k = 1 → Q (.ref l) H) ∧ (k = 0 → xs ≠ [] ∧ ∀ p, H p = none → Q (.ref p) (upd H p (.tup []))) ∧ (k = 0 ∨ k = 1)
theorem op_repS : OpR X (binaryOp .Mult) (rRepS X.K) := by
  intro pins s σ H x y v u Q I rx ry h
  obtain ⟨l, k, xs, rfl, rfl, hT, h1, h0, hk⟩ := h
  cases rx
  obtain ⟨t, rfl⟩ := ry
  exact repT_core I hT h1 h0 hk
theorem rep_nil {α : Type} (xs : List α) : (List.replicate 1 xs).flatten = xs := by simp
theorem RepL.rep {xs : List D} {vs : List V} (r : RepL g T H xs vs) : ∀ n : Nat, RepL g T H (List.replicate n xs).flatten (List.replicate n vs).flatten
  | 0 => .nil
  | n + 1 => by
    rw [List.replicate_succ, List.replicate_succ, List.flatten_cons, List.flatten_cons]
    exact r.append (RepL.rep r n)
theorem mulD_some {m : M} {x y d : D} (h : mulD m x y = some d) : (∃ i j, x = .int i ∧ y = .int j ∧ CMul i j ∧ d = .int (i * j)) ∨
    (∃ a k, x = .tup a ∧ y = .int k ∧ (a ≠ [] ∧ a.length ≤ 1000 ∧ 0 ≤ k ∧ k ≤ 1000) ∧ d = .tup (List.replicate k.toNat a).flatten) ∨ (∃ a k, x = .lst a ∧ y = .int k ∧ (a.length ≤ 1000 ∧ 0 ≤ k ∧ k ≤ 1000) ∧ d = .lst (List.replicate k.toNat a).flatten) := by
  unfold mulD at h
  split at h
  · obtain ⟨hz, h⟩ := ite_some h; cases h; exact .inl ⟨_, _, rfl, rfl, hz, rfl⟩
  · obtain ⟨hz, h⟩ := ite_some h; cases h; exact .inr (.inl ⟨_, _, rfl, rfl, hz, rfl⟩)
  · obtain ⟨hz, h⟩ := ite_some h; cases h; exact .inr (.inr ⟨_, _, rfl, rfl, hz, rfl⟩)
  · cases h
theorem op_mul' : OpD X (binaryOp .Mult) mulD := ⟨_, orR op_mul (orR op_repS (orR op_repT op_rep)), fun T H m x y v u d hm rx ry hf Q k => by
  rcases mulD_some hf with ⟨i, j, rfl, rfl, hc, rfl⟩ | ⟨a, n, rfl, rfl, ⟨h1, h2, h3, h4⟩, rfl⟩ | ⟨a, n, rfl, rfl, ⟨h2, h3, h4⟩, rfl⟩
  · cases rx; cases ry; exact .inl ⟨_, _, rfl, rfl, hc, k.now hm (.int _)⟩
  · obtain ⟨p, xs, rfl, hx, r1⟩ := tup_rep rx
    cases ry
    have hne : xs ≠ [] := fun e => by subst e; cases r1; exact h1 rfl
    by_cases hn : n = 0 ∨ n = 1
    · refine .inr (.inl ⟨p, n, xs, rfl, rfl, hx, fun e => ?_, fun e => ⟨hne, fun z hz => ?_⟩, hn⟩)
      · subst e; rw [show (List.replicate (1 : Int).toNat a).flatten = a from rep_nil a] at k; exact k.now hm rx
      · subst e; exact k.tup hm .nil z hz
    · refine .inr (.inr (.inl ⟨p, n, xs, rfl, rfl, hx, hne, by omega, h4, by rw [← r1.length]; exact h2, fun z hz => k.tup hm (r1.rep _) z hz⟩))
  · cases rx with
    | lst f r1 =>
      cases ry
      refine .inr (.inr (.inr ⟨_, n, _, rfl, rfl, f.2, by omega, by omega, ?_, fun z hz => k.lst hm (r1.rep _) z hz⟩))
      rw [← r1.length, sizeLine_eq]
      have : a.length * n.toNat ≤ 1000 * 1000 := Nat.mul_le_mul h2 (by omega)
      omega⟩
end
end L4
namespace L4
open PySem L2
section
variable {X : Cx} {g : G} {T : Tk} {H : Hp} {m : M} {Q : VK} {pos : Pos}
theorem RepL.atI {ds : List D} {vs : List V} {i : Int} {d : D} (r : RepL g T H ds vs) (h : L2.atI ds i = some d) : ∃ v, L2.atI vs i = some v ∧ Rep g T H d v := by
  unfold L2.atI at h ⊢
  obtain ⟨j, h1, h2⟩ := Option.bind_eq_some_iff.mp h
  obtain ⟨v, h3, q⟩ := r.get h2
  rw [← r.length, h1]
  exact ⟨v, h3, q⟩
def ixD (m : M) (x y : D) : Option D := match x, y with
  | .tup ds, .int i => L2.atI ds i
  | .str z, .int i => if z.length ≤ sizeLine then (L2.atI z.cps.toList i).map fun c => .str ⟨#[c]⟩ else none
  | x, .int i => (lstR m x).bind fun ds => L2.atI ds i
  | _, _ => none
theorem ixD_some {m : M} {x y d : D} (h : ixD m x y = some d) : (∃ ds i, x = .tup ds ∧ y = .int i ∧ L2.atI ds i = some d) ∨ (∃ z i c, x = .str z ∧ y = .int i ∧ z.length ≤ sizeLine ∧ L2.atI z.cps.toList i = some c ∧ d = .str ⟨#[c]⟩) ∨ (∃ ds i, lstR m x = some ds ∧ y = .int i ∧ L2.atI ds i = some d) := by
  unfold ixD at h
  split at h
  · exact .inl ⟨_, _, rfl, rfl, h⟩
  · obtain ⟨hz, h⟩ := ite_some h
    obtain ⟨c, h1, h2⟩ := Option.map_eq_some_iff.mp h
    exact .inr (.inl ⟨_, _, c, rfl, rfl, hz, h1, h2.symm⟩)
  · obtain ⟨ds, h1, h2⟩ := Option.bind_eq_some_iff.mp h
    exact .inr (.inr ⟨ds, _, h1, rfl, h2⟩)
  · cases h
theorem ixR_or {r q : R2} (h1 : IxR X r) (h2 : IxR X q) : IxR X (fun x y H Q => r x y H Q ∨ q x y H Q) := by
  intro value slice pins s σ H x y v u Q I rx ry h hs
  rcases h with h | h
  · exact h1 value slice pins s σ H x y v u Q I rx ry h hs
  · exact h2 value slice pins s σ H x y v u Q I rx ry h hs
abbrev OF := Ss → M → Option (Option Int × M)
def RfP (g : G) (t : TO) (f : OF) : Prop := ∀ T σ H ρ m d m', RepH g T H m → RepS g T H σ ρ → f ρ m = some (d, m') → ∀ Q : Option Int → Hp → Prop, (∀ T' H', Le T H T' H' → RepH g T' H' m' → Q d H') → t σ H Q
structure DP (X : Cx) (e : Option Expr) (f : OF) : Prop where
  ex : ∃ t, PO X e t ∧ RfP (gx X) t f
def oNo : OF := fun _ m => some (none, m)
def oYes (a : EF) : OF := fun ρ m => bd (a ρ m) fun x m1 => match x with
  | .int i => some (some i, m1)
  | _ => none
theorem dp_no : DP X none oNo := ⟨_, po_none, fun T σ H ρ m d m' hm hs hf Q k => by cases hf; exact k T H .refl hm⟩
theorem dp_yes {e : Expr} {f : EF} (h : DE X e f) : DP X (some e) (oYes f) := by
  obtain ⟨t, p, r⟩ := h.ex
  refine ⟨_, po_some p, fun T σ H ρ m d m' hm hs hf Q k => ?_⟩
  obtain ⟨x, m1, e1, hf⟩ := bd_some hf
  refine r T σ H ρ m x m1 hm hs e1 _ fun v T1 H1 l1 hm1 r1 => ?_
  cases r1 with
  | int i => cases hf; exact ⟨i, rfl, k T1 H1 l1 hm1⟩
  | _ => cases hf
def cutD {α : Type} (xs : List α) (lo hi : Option Int) : List α := (xs.drop (HT.sIx xs.length 0 lo)).take (HT.sIx xs.length xs.length hi - HT.sIx xs.length 0 lo)
theorem RepL.drop {ds : List D} {vs : List V} (n : Nat) (r : RepL g T H ds vs) : RepL g T H (ds.drop n) (vs.drop n) := by
  induction n generalizing ds vs with
  | zero => exact r
  | succ n ih => cases r with
    | nil => exact .nil
    | cons _ s => exact ih s
theorem RepL.take {ds : List D} {vs : List V} (n : Nat) (r : RepL g T H ds vs) : RepL g T H (ds.take n) (vs.take n) := by
  induction n generalizing ds vs with
  | zero => exact .nil
  | succ n ih => cases r with
    | nil => exact .nil
    | cons q s => exact .cons q (ih s)
theorem RepL.cut {ds : List D} {vs : List V} (r : RepL g T H ds vs) (lo hi : Option Int) : RepL g T H (cutD ds lo hi) (L2.cutV vs lo hi) := by
  unfold cutD L2.cutV
  rw [r.length]
  exact (r.drop _).take _
def slD (m : M) (x : D) (lo hi : Option Int) : Option D := match x with
  | .tup ds => some (.tup (cutD ds lo hi))
  | .str z => if z.length ≤ sizeLine then some (.str (L2.cutS z lo hi)) else none
  | x => (lstR m x).map fun ds => .lst (cutD ds lo hi)
theorem slD_some {m : M} {x d : D} {lo hi : Option Int} (h : slD m x lo hi = some d) : (∃ ds, x = .tup ds ∧ d = .tup (cutD ds lo hi)) ∨ (∃ z, x = .str z ∧ z.length ≤ sizeLine ∧ d = .str (L2.cutS z lo hi)) ∨ (∃ ds, lstR m x = some ds ∧ d = .lst (cutD ds lo hi)) := by
  unfold slD at h
  split at h
  · cases h; exact .inl ⟨_, rfl, rfl⟩
  · obtain ⟨hz, h⟩ := ite_some h; cases h; exact .inr (.inl ⟨_, rfl, hz, rfl⟩)
  · obtain ⟨ds, h1, h2⟩ := Option.map_eq_some_iff.mp h
    exact .inr (.inr ⟨ds, h1, h2.symm⟩)
theorem slR_or {r q : V → Option Int → Option Int → Hp → VK → Prop} (h1 : SlR X r) (h2 : SlR X q) : SlR X (fun x lo hi H Q => r x lo hi H Q ∨ q x lo hi H Q) := by
  intro pins s σ H x v vl vu lo hi sl Q I rx hs pl pu h
  rcases h with h | h
  · exact h1 pins s σ H x v vl vu lo hi sl Q I rx hs pl pu h
  · exact h2 pins s σ H x v vl vu lo hi sl Q I rx hs pl pu h
def eSl (a : EF) (lo hi : OF) : EF := fun ρ m => bd (a ρ m) fun x m1 => bd (lo ρ m1) fun l m2 => bd (hi ρ m2) fun u m3 => pu (slD m3 x l u) m3
theorem whole_cut {α : Type} {xs : List α} {lo hi : Option Int} (h : HT.sIx xs.length 0 lo = 0 ∧ HT.sIx xs.length xs.length hi = xs.length) : cutD xs lo hi = xs := by
  unfold cutD
  rw [h.1, h.2]
  simp
theorem de_sl {e : Expr} {lo hi : Option Expr} {f : EF} {fl fh : OF} {p2 : Pos} (he : DE X e f) (hl : DP X lo fl) (hh : DP X hi fh) : DE X (.Subscript e (.Slice lo hi none p2) pos) (eSl f fl fh) := by
  obtain ⟨t, p, r⟩ := he.ex; obtain ⟨tl, pl, rl⟩ := hl.ex; obtain ⟨th, ph, rh⟩ := hh.ex
  refine ⟨_, pe_slice (slR_or sl_tupA (slR_or sl_str sl_list)) p pl ph, fun T σ H ρ m d m' hm hs hf Q k => ?_⟩
  obtain ⟨x, m1, e1, hf⟩ := bd_some hf
  obtain ⟨a, m2, e2, hf⟩ := bd_some hf
  obtain ⟨b, m3, e3, hf⟩ := bd_some hf
  obtain ⟨e4, rfl⟩ := pu_some hf
  refine r T σ H ρ m x m1 hm hs e1 _ fun v T1 H1 l1 hm1 r1 => ?_
  refine rl T1 σ H1 ρ m1 a m2 hm1 (hs.le l1) e2 _ fun T2 H2 l2 hm2 => ?_
  refine rh T2 σ H2 ρ m2 b _ hm2 (hs.le (l1.trans l2)) e3 _ fun T3 H3 l3 hm3 => ?_
  have k3 := k.le (l1.trans (l2.trans l3))
  have r3 := r1.le (l2.trans l3)
  rcases slD_some e4 with ⟨ds, rfl, rfl⟩ | ⟨z, rfl, hz, rfl⟩ | ⟨ds, h1, rfl⟩
  · obtain ⟨q, vs, rfl, hx, rr⟩ := tup_rep r3
    refine .inl ⟨q, vs, rfl, hx, fun hw => ?_, fun _ z hz => k3.tup hm3 (rr.cut _ _) z hz⟩
    rw [← rr.length] at hw
    rw [whole_cut hw] at k3
    exact k3.now hm3 r3
  · cases r3
    exact .inr (.inl ⟨z, rfl, hz, k3.now hm3 (.str _)⟩)
  · obtain ⟨q, vs, rfl, hx, rr⟩ := lstR_rep hm3 r3 h1
    exact .inr (.inr ⟨q, vs, rfl, hx, fun z hz => k3.lst hm3 (rr.cut _ _) z hz⟩)
mutual
def pd : D → Option PyData
  | .non => some .none
  | .bl b => some (.bool b)
  | .int i => some (.int i)
  | .str x => some (.str x)
  | .tup ds => (pdL ds).map .tuple
  | .lst ds => (pdL ds).map .list
  | .scr ds => (pdL ds).map .list
  | .dic _ _ => none
  | .obj _ _ _ => none
  | .ref _ => none
  | .glo _ => none
  | .ty _ => none
  | .tab _ => none
  | .ptp ds => (pdL ds).map .tuple
def pdL : List D → Option (List PyData)
  | [] => some []
  | d :: ds => match pd d, pdL ds with
    | some a, some b => some (a :: b)
    | _, _ => none
end
mutual
theorem pd_rep : ∀ (d : D) {v : V} {a : PyData}, pd d = some a → Rep g T H d v → Dp g.K H v a
  | .non, _, _, h, r => by rw [pd] at h; cases h; cases r; exact .non
  | .bl _, _, _, h, r => by rw [pd] at h; cases h; cases r; exact .bl _
  | .int _, _, _, h, r => by rw [pd] at h; cases h; cases r; exact .int _
  | .str _, _, _, h, r => by rw [pd] at h; cases h; cases r; exact .str _
  | .tup ds, _, _, h, r => by
    rw [pd] at h
    obtain ⟨as, h1, rfl⟩ := Option.map_eq_some_iff.mp h
    cases r with
    | tup f r => exact .tup f.sq (pdL_rep ds h1 r)
  | .lst ds, _, _, h, r => by
    rw [pd] at h
    obtain ⟨as, h1, rfl⟩ := Option.map_eq_some_iff.mp h
    cases r with
    | lst f r => exact .lst f.sq (pdL_rep ds h1 r)
  | .scr ds, _, _, h, r => by
    rw [pd] at h
    obtain ⟨as, h1, rfl⟩ := Option.map_eq_some_iff.mp h
    cases r with
    | scr f r => exact .lst f.sq (pdL_rep ds h1 r)
  | .dic _ _, _, _, h, _ => by rw [pd] at h; cases h
  | .obj _ _ _, _, _, h, _ => by rw [pd] at h; cases h
  | .ref _, _, _, h, _ => by rw [pd] at h; cases h
  | .glo _, _, _, h, _ => by rw [pd] at h; cases h
  | .ty _, _, _, h, _ => by rw [pd] at h; cases h
  | .tab _, _, _, h, _ => by rw [pd] at h; cases h
  | .ptp ds, _, _, h, r => by
    rw [pd] at h
    obtain ⟨as, h1, rfl⟩ := Option.map_eq_some_iff.mp h
    cases r with
    | ptp f r =>
      obtain ⟨_, o, f, _⟩ := f
      exact .tup (.inl (.inr ⟨o, f⟩)) (pdL_rep ds h1 r)
theorem pdL_rep : ∀ (ds : List D) {vs : List V} {as : List PyData}, pdL ds = some as → RepL g T H ds vs → DpAll g.K H vs as
  | [], _, _, h, r => by rw [pdL] at h; cases h; cases r; exact .nil
  | d :: ds, _, _, h, r => by
    rw [pdL] at h
    cases h1 : pd d with
    | none => rw [h1] at h; cases h
    | some a => cases h2 : pdL ds with
      | none => rw [h1, h2] at h; cases h
      | some b =>
        rw [h1, h2] at h
        cases h
        cases r with
        | cons r s => exact .cons (pd_rep d h1 r) (pdL_rep ds h2 s)
end
/-- the plain data of a value, of a tracked list too -/
def pdM (m : M) (d : D) : Option PyData := match (frz m d).bind pd with
  | some a => if SeqAt.shaped a then some a else none
  | none => none
theorem pdM_rep {d : D} {v : V} {a : PyData} (hm : RepH g T H m) (h : pdM m d = some a) (r : Rep g T H d v) : Dp g.K H v a ∧ SeqAt.shaped a = true := by
  unfold pdM at h
  split at h
  · next h1 =>
    obtain ⟨hz, h⟩ := ite_some h
    cases h
    obtain ⟨e, h2, h3⟩ := Option.bind_eq_some_iff.mp h1
    exact ⟨pd_rep e h3 (frz_ok hm (fun a h => (List.not_mem_nil h).elim) (fun a _ h => (List.not_mem_nil h).elim) h2 r), hz⟩
  · cases h
def eqD (m : M) (x y : D) : Option D := match pdM m x, pdM m y with
  | some a, some b => some (.bl (PyData.eqv a b))
  | _, _ => none
def neD (m : M) (x y : D) : Option D := match pdM m x, pdM m y with
  | some a, some b => some (.bl (!PyData.eqv a b))
  | _, _ => none
theorem Gd.u64 {k : Nat} (h : Gd k X) : X.A.units + 65 < cLine := by have := h.r.un; omega
theorem op_eq' {k : Nat} (gd : Gd k X) : OpD X (compareOp .Eq) eqD := ⟨_, op_eqD (by have := gd.u64; omega), fun T H m x y v u d hm rx ry hf Q k => by
  unfold eqD at hf
  split at hf
  · next h1 h2 => cases hf; obtain ⟨d1, s1⟩ := pdM_rep hm h1 rx; obtain ⟨d2, s2⟩ := pdM_rep hm h2 ry; exact ⟨_, _, d1, d2, s1, s2, k.now hm (.bl _)⟩
  · cases hf⟩
theorem op_ne' {k : Nat} (gd : Gd k X) : OpD X (compareOp .NotEq) neD := ⟨_, op_neD (by have := gd.u64; omega), fun T H m x y v u d hm rx ry hf Q k => by
  unfold neD at hf
  split at hf
  · next h1 h2 => cases hf; obtain ⟨d1, s1⟩ := pdM_rep hm h1 rx; obtain ⟨d2, s2⟩ := pdM_rep hm h2 ry; exact ⟨_, _, d1, d2, s1, s2, k.now hm (.bl _)⟩
  · cases hf⟩
def rInT (K : PySem.W.Frag) (b : Bool) : R2 := fun x y H Q => ∃ d ds, Dp K H x d ∧ Dp K H y (.tuple ds) ∧ SeqAt.shaped d = true ∧ SeqAt.shaped (.tuple ds) = true ∧ Q (.bl ((ds.any fun z => PyData.eqv z d) != b)) H
theorem room_t {A : Around} {d : PyData} {ds : List PyData} (sd : SeqAt.shaped d = true) (hu : A.units + 65 < cLine) : A.units + 1 + min (PyData.depthAll ds) d.depth < cLine := by
  have := SeqAt.depth_of_shaped sd
  have h2 : min (PyData.depthAll ds) d.depth ≤ d.depth := Nat.min_le_right _ _
  omega
theorem op_inT (hu : X.A.units + 65 < cLine) : OpR X (compareOp .In) (rInT X.K false) := by
  intro pins s σ H x y v u Q I rx ry h
  obtain ⟨d, ds, hd, he, sd, se, q⟩ := h
  obtain ⟨as, r1⟩ := Dp.reads I d x v hd rx
  obtain ⟨bs, r2⟩ := Dp.reads I (.tuple ds) y u he ry
  rw [Bool.bne_false] at q
  exact SeqAt.in_tuple_reads r2 r1 (SeqAt.canLay_of_shaped se) (SeqAt.canLay_of_shaped sd) (room_t sd hu) ⟨.bl _, H, I, rfl, q⟩
theorem op_ninT (hu : X.A.units + 65 < cLine) : OpR X (compareOp .NotIn) (rInT X.K true) := by
  intro pins s σ H x y v u Q I rx ry h
  obtain ⟨d, ds, hd, he, sd, se, q⟩ := h
  obtain ⟨as, r1⟩ := Dp.reads I d x v hd rx
  obtain ⟨bs, r2⟩ := Dp.reads I (.tuple ds) y u he ry
  rw [Bool.bne_true] at q
  exact SeqAt.notIn_tuple_reads r2 r1 (SeqAt.canLay_of_shaped se) (SeqAt.canLay_of_shaped sd) (room_t sd hu) ⟨.bl _, H, I, rfl, q⟩
/-- x in a text: one sign is looked up by itself -/
def inStr (i j : Str) : Bool := match i.cps.toList with
  | [c] => j.cps.toList.contains c
  | _ => !(Builtin.Str.occurrences j i 0 j.length 1).isEmpty
theorem sign_of {i : Str} {c : Nat} (h : i.cps.toList = [c]) : i = ⟨#[c]⟩ := by
  cases i with
  | mk a => congr 1; exact Array.ext' h
/-- x in a tuple, a list, a text -/
def inB (m : M) (x y : D) : Option Bool := match x, y with
  | .str i, .str j => some (inStr i j)
  | x, y => match pdM m x, pdM m y with
    | some a, some (.tuple ds) => some (ds.any fun z => PyData.eqv z a)
    | some a, some (.list ds) => some (ds.any fun z => PyData.eqv z a)
    | _, _ => none
theorem inB_some {m : M} {x y : D} {b : Bool} (h : inB m x y = some b) : (∃ i j, x = .str i ∧ y = .str j ∧ b = inStr i j) ∨
    (∃ a ds, pdM m x = some a ∧ pdM m y = some (.tuple ds) ∧ b = ds.any fun z => PyData.eqv z a) ∨ (∃ a ds, pdM m x = some a ∧ pdM m y = some (.list ds) ∧ b = ds.any fun z => PyData.eqv z a) := by
  unfold inB at h
  split at h
  · cases h; exact .inl ⟨_, _, rfl, rfl, rfl⟩
  · split at h
    · next h1 h2 => cases h; exact .inr (.inl ⟨_, _, h1, h2, rfl⟩)
    · next h1 h2 => cases h; exact .inr (.inr ⟨_, _, h1, h2, rfl⟩)
    · cases h
def inD (m : M) (x y : D) : Option D := (inB m x y).map .bl
def ninD (m : M) (x y : D) : Option D := (inB m x y).map fun b => .bl (!b)
theorem op_in' {k : Nat} (gd : Gd k X) : OpD X (compareOp .In) inD := ⟨_, orR op_in_sign (orR op_in_str (orR (op_inT gd.u64) (op_inD gd.u64))), fun T H m x y v u d hm rx ry hf Q k => by
  obtain ⟨b, hb, rfl⟩ := Option.map_eq_some_iff.mp hf
  rcases inB_some hb with ⟨i, j, rfl, rfl, rfl⟩ | ⟨a, ds, h1, h2, rfl⟩ | ⟨a, ds, h1, h2, rfl⟩
  · cases rx; cases ry
    unfold inStr at k
    split at k
    · next c hc =>
      refine .inl ⟨c, j, by rw [sign_of hc], rfl, ?_⟩
      have e : decide (c ∈ j.cps.toList) = j.cps.toList.contains c := by simp
      rw [e]
      exact k.now hm (.bl _)
    · exact .inr (.inl ⟨i, j, rfl, rfl, k.now hm (.bl _)⟩)
  · obtain ⟨d1, s1⟩ := pdM_rep hm h1 rx; obtain ⟨d2, s2⟩ := pdM_rep hm h2 ry
    exact .inr (.inr (.inl ⟨a, ds, d1, d2, s1, s2, by rw [Bool.bne_false]; exact k.now hm (.bl _)⟩))
  · obtain ⟨d1, s1⟩ := pdM_rep hm h1 rx; obtain ⟨d2, s2⟩ := pdM_rep hm h2 ry
    exact .inr (.inr (.inr ⟨a, ds, d1, d2, s1, s2, k.now hm (.bl _)⟩))⟩
theorem op_nin' {k : Nat} (gd : Gd k X) : OpD X (compareOp .NotIn) ninD := ⟨_, orR op_notIn_sign (orR op_notin_str (orR (op_ninT gd.u64) (op_notInD gd.u64))), fun T H m x y v u d hm rx ry hf Q k => by
  obtain ⟨b, hb, rfl⟩ := Option.map_eq_some_iff.mp hf
  rcases inB_some hb with ⟨i, j, rfl, rfl, rfl⟩ | ⟨a, ds, h1, h2, rfl⟩ | ⟨a, ds, h1, h2, rfl⟩
  · cases rx; cases ry
    unfold inStr at k
    split at k
    · next c hc =>
      refine .inl ⟨c, j, by rw [sign_of hc], rfl, ?_⟩
      have e : decide (c ∈ j.cps.toList) = j.cps.toList.contains c := by simp
      rw [e]
      exact k.now hm (.bl _)
    · exact .inr (.inl ⟨i, j, rfl, rfl, k.now hm (.bl _)⟩)
  · obtain ⟨d1, s1⟩ := pdM_rep hm h1 rx; obtain ⟨d2, s2⟩ := pdM_rep hm h2 ry
    exact .inr (.inr (.inl ⟨a, ds, d1, d2, s1, s2, by rw [Bool.bne_true]; exact k.now hm (.bl _)⟩))
  · obtain ⟨d1, s1⟩ := pdM_rep hm h1 rx; obtain ⟨d2, s2⟩ := pdM_rep hm h2 ry
    exact .inr (.inr (.inr ⟨a, ds, d1, d2, s1, s2, k.now hm (.bl _)⟩))⟩
end
end L4
namespace L4
open PySem L2
section
variable {X : Cx} {g : G} {T T' : Tk} {H : Hp} {m : M} {Q : VK} {pos : Pos}
mutual
theorem Rep.wk (hμ : T'.μ = T.μ ∧ T'.τ = T.τ) (hν : ∀ a ∈ T'.ν, a ∈ T.ν) : ∀ (d : D) {v : V}, Rep g T H d v → Rep g T' H d v
  | .non, _, r => by cases r; exact .non
  | .bl _, _, r => by cases r; exact .bl _
  | .int _, _, r => by cases r; exact .int _
  | .str _, _, r => by cases r; exact .str _
  | .glo _, _, r => by cases r; exact .glo _
  | .ty _, _, r => by cases r; exact .ty _
  | .tab _, _, r => by
    cases r with
    | tab h => exact .tab (by rw [hμ.2]; exact h)
  | .ref _, _, r => by
    cases r with
    | ref h => exact .ref (by rw [hμ.1]; exact h)
  | .tup ds, _, r => by
    cases r with
    | tup f r =>
      refine .tup ?_ (RepL.wk hμ hν ds r)
      rcases f with ⟨n, f⟩ | f
      · exact .inl ⟨fun z => n (hν _ z), f⟩
      · exact .inr f
  | .lst ds, _, r => by
    cases r with
    | lst f r => exact .lst ⟨fun z => f.1 (hν _ z), f.2⟩ (RepL.wk hμ hν ds r)
  | .scr ds, _, r => by
    cases r with
    | scr f r =>
      refine .scr ?_ (RepL.wk hμ hν ds r)
      rcases f with ⟨n, f⟩ | f
      · exact .inl ⟨fun z => n (hν _ z), f⟩
      · exact .inr f
  | .dic ks vs, _, r => by
    cases r with
    | dicF n f r q => exact .dicF (fun z => n (hν _ z)) f (RepL.wk hμ hν ks r) (RepL.wk hμ hν vs q)
    | dicN n f e r q => exact .dicN (fun z => n (hν _ z)) f e (RepL.wk hμ hν ks r) (RepL.wk hμ hν vs q)
  | .obj c ns vs, _, r => by
    cases r with
    | obj n f e r => exact .obj (fun z => n (hν _ z)) f e (RepL.wk hμ hν vs r)
  | .ptp ds, _, r => by
    cases r with
    | ptp f r => exact .ptp ⟨fun z => f.1 (hν _ z), f.2⟩ (RepL.wk hμ hν ds r)
theorem RepL.wk (hμ : T'.μ = T.μ ∧ T'.τ = T.τ) (hν : ∀ a ∈ T'.ν, a ∈ T.ν) : ∀ (ds : List D) {vs : List V}, RepL g T H ds vs → RepL g T' H ds vs
  | [], _, r => by cases r; exact .nil
  | d :: ds, _, r => by
    cases r with
    | cons r s => exact .cons (Rep.wk hμ hν d r) (RepL.wk hμ hν ds s)
end
theorem pre_get {α : Type} {xs ys : List α} {n : Nat} {a : α} (h : xs <+: ys) (e : xs[n]? = some a) : ys[n]? = some a := by
  obtain ⟨t, rfl⟩ := h
  rw [List.getElem?_append_left (List.getElem?_eq_some_iff.mp e).1]
  exact e
mutual
theorem Rep.ext (hμ : T.μ <+: T'.μ) (hν : ∀ a ∈ T'.ν, a ∈ T.ν) (hτ : T'.τ = T.τ) : ∀ (d : D) {v : V}, Rep g T H d v → Rep g T' H d v
  | .non, _, r => by cases r; exact .non
  | .bl _, _, r => by cases r; exact .bl _
  | .int _, _, r => by cases r; exact .int _
  | .str _, _, r => by cases r; exact .str _
  | .glo _, _, r => by cases r; exact .glo _
  | .ty _, _, r => by cases r; exact .ty _
  | .tab _, _, r => by
    cases r with
    | tab h => exact .tab (by rw [hτ]; exact h)
  | .ref _, _, r => by
    cases r with
    | ref h => exact .ref (pre_get hμ h)
  | .tup ds, _, r => by
    cases r with
    | tup f r =>
      refine .tup ?_ (RepL.ext hμ hν hτ ds r)
      rcases f with ⟨n, f⟩ | f
      · exact .inl ⟨fun z => n (hν _ z), f⟩
      · exact .inr f
  | .lst ds, _, r => by
    cases r with
    | lst f r => exact .lst ⟨fun z => f.1 (hν _ z), f.2⟩ (RepL.ext hμ hν hτ ds r)
  | .scr ds, _, r => by
    cases r with
    | scr f r =>
      refine .scr ?_ (RepL.ext hμ hν hτ ds r)
      rcases f with ⟨n, f⟩ | f
      · exact .inl ⟨fun z => n (hν _ z), f⟩
      · exact .inr f
  | .dic ks vs, _, r => by
    cases r with
    | dicF n f r q => exact .dicF (fun z => n (hν _ z)) f (RepL.ext hμ hν hτ ks r) (RepL.ext hμ hν hτ vs q)
    | dicN n f e r q => exact .dicN (fun z => n (hν _ z)) f e (RepL.ext hμ hν hτ ks r) (RepL.ext hμ hν hτ vs q)
  | .obj c ns vs, _, r => by
    cases r with
    | obj n f e r => exact .obj (fun z => n (hν _ z)) f e (RepL.ext hμ hν hτ vs r)
  | .ptp ds, _, r => by
    cases r with
    | ptp f r => exact .ptp ⟨fun z => f.1 (hν _ z), f.2⟩ (RepL.ext hμ hν hτ ds r)
theorem RepL.ext (hμ : T.μ <+: T'.μ) (hν : ∀ a ∈ T'.ν, a ∈ T.ν) (hτ : T'.τ = T.τ) : ∀ (ds : List D) {vs : List V}, RepL g T H ds vs → RepL g T' H ds vs
  | [], _, r => by cases r; exact .nil
  | d :: ds, _, r => by
    cases r with
    | cons r s => exact .cons (Rep.ext hμ hν hτ d r) (RepL.ext hμ hν hτ ds s)
end
/-- a forbidden object changes -/
theorem rd_upd {a p : Addr} {u w : HO} (n : a ∉ T.ν) (hp : p ∈ T.ν) (h : Rd H a u) : Rd (upd H p w) a u := by
  have : a ≠ p := by rintro rfl; exact n hp
  unfold Rd
  rw [upd_ne this]
  exact h
mutual
theorem Rep.upF {p : Addr} {w : HO} (hp : p ∈ T.ν) : ∀ (d : D) {v : V}, Rep g T H d v → Rep g T (upd H p w) d v
  | .non, _, r => by cases r; exact .non
  | .bl _, _, r => by cases r; exact .bl _
  | .int _, _, r => by cases r; exact .int _
  | .str _, _, r => by cases r; exact .str _
  | .glo _, _, r => by cases r; exact .glo _
  | .ty _, _, r => by cases r; exact .ty _
  | .tab _, _, r => by
    cases r with
    | tab h => exact .tab h
  | .ref _, _, r => by
    cases r with
    | ref h => exact .ref h
  | .tup ds, _, r => by
    cases r with
    | tup f r =>
      refine .tup ?_ (RepL.upF hp ds r)
      rcases f with ⟨n, f⟩ | f
      · exact .inl ⟨n, by unfold Rd; rw [upd_ne (show _ ≠ p by rintro rfl; exact n hp)]; exact f⟩
      · exact .inr f
  | .lst ds, _, r => by
    cases r with
    | lst f r => exact .lst ⟨f.1, by rw [upd_ne (show _ ≠ p by rintro rfl; exact f.1 hp)]; exact f.2⟩ (RepL.upF hp ds r)
  | .scr ds, _, r => by
    cases r with
    | scr f r =>
      refine .scr ?_ (RepL.upF hp ds r)
      rcases f with ⟨n, o, f⟩ | f
      · exact .inl ⟨n, o, by rw [upd_ne (show _ ≠ p by rintro rfl; exact n hp)]; exact f⟩
      · exact .inr f
  | .dic ks vs, _, r => by
    cases r with
    | dicF n f r q => exact .dicF n (rd_upd n hp f) (RepL.upF hp ks r) (RepL.upF hp vs q)
    | dicN n f e r q => exact .dicN n (rd_upd n hp f) e (RepL.upF hp ks r) (RepL.upF hp vs q)
  | .obj c ns vs, _, r => by
    cases r with
    | obj n f e r => exact .obj n (by rw [upd_ne (show _ ≠ p by rintro rfl; exact n hp)]; exact f) e (RepL.upF hp vs r)
  | .ptp ds, _, r => by
    cases r with
    | ptp f r =>
      obtain ⟨n, o, f, e⟩ := f
      exact .ptp ⟨n, o, by rw [upd_ne (show _ ≠ p by rintro rfl; exact n hp)]; exact f, e⟩ (RepL.upF hp ds r)
theorem RepL.upF {p : Addr} {w : HO} (hp : p ∈ T.ν) : ∀ (ds : List D) {vs : List V}, RepL g T H ds vs → RepL g T (upd H p w) ds vs
  | [], _, r => by cases r; exact .nil
  | d :: ds, _, r => by
    cases r with
    | cons r s => exact .cons (Rep.upF hp d r) (RepL.upF hp ds s)
end
theorem RepO.wk (hμ : T'.μ = T.μ ∧ T'.τ = T.τ) (hν : ∀ a ∈ T'.ν, a ∈ T.ν) {a : Addr} {o : O} (r : RepO g T H a o) : RepO g T' H a o := by
  cases r with
  | lst h r => exact .lst h (RepL.wk hμ hν _ r)
  | dicF h r q => exact .dicF h (RepL.wk hμ hν _ r) (RepL.wk hμ hν _ q)
  | dicN h k r q => exact .dicN h k (RepL.wk hμ hν _ r) (RepL.wk hμ hν _ q)
  | ins h k r => exact .ins h k (RepL.wk hμ hν _ r)
theorem RepO.ext (hμ : T.μ <+: T'.μ) (hν : ∀ a ∈ T'.ν, a ∈ T.ν) (hτ : T'.τ = T.τ) {a : Addr} {o : O} (r : RepO g T H a o) : RepO g T' H a o := by
  cases r with
  | lst h r => exact .lst h (RepL.ext hμ hν hτ _ r)
  | dicF h r q => exact .dicF h (RepL.ext hμ hν hτ _ r) (RepL.ext hμ hν hτ _ q)
  | dicN h k r q => exact .dicN h k (RepL.ext hμ hν hτ _ r) (RepL.ext hμ hν hτ _ q)
  | ins h k r => exact .ins h k (RepL.ext hμ hν hτ _ r)
theorem RepO.upF {p : Addr} {w : HO} (hp : p ∈ T.ν) {a : Addr} {o : O} (ha : a ≠ p) (r : RepO g T H a o) : RepO g T (upd H p w) a o := by
  cases r with
  | lst h r => exact .lst (by rw [upd_ne ha]; exact h) (RepL.upF hp _ r)
  | dicF h r q => exact .dicF (by rw [upd_ne ha]; exact h) (RepL.upF hp _ r) (RepL.upF hp _ q)
  | dicN h k r q => exact .dicN (by rw [upd_ne ha]; exact h) k (RepL.upF hp _ r) (RepL.upF hp _ q)
  | ins h k r => exact .ins (by rw [upd_ne ha]; exact h) k (RepL.upF hp _ r)
def Tk.forb (T : Tk) (p : Addr) : Tk := ⟨T.μ, p :: T.ν, T.τ, fun a h => List.mem_cons_of_mem _ (T.sub a h), fun q h => List.mem_cons_of_mem _ (T.subτ q h)⟩
structure Made (g : G) (T : Tk) (H : Hp) (m : M) (p : Addr) (ds : List D) : Prop where
  np : p ∉ T.ν
  hm : RepH g (T.forb p) H m
  at_ : ∃ vs, H p = some (.lst vs) ∧ RepL g (T.forb p) H ds vs
theorem Made.new {p : Addr} (hm : RepH g T H m) (hp : H p = none) : Made g T (upd H p (.lst [])) m p [] ∧ Le T H (T.forb p) (upd H p (.lst [])) := by
  have np : p ∉ T.ν := hm.nope hp
  have l : Le T H (T.forb p) (upd H p (.lst [])) := ⟨List.prefix_rfl, fun a u e _ _ => by rw [upd_ne (ne_of_none e hp)]; exact e, rfl, fun q _ v e => ⟨v, by rw [upd_ne (ne_of_none e hp)]; exact e⟩, fun a ha n => by
    rcases List.mem_cons.mp ha with rfl | z
    · exact hp
    · exact absurd z n, fun a ha n => absurd ha n, fun a h => List.mem_cons_of_mem _ h⟩
  refine ⟨⟨np, ⟨hm.len, hm.nd, fun a ha => ?_, fun n a o h1 h2 => (hm.at_ n a o h1 h2).le l ?_, fun q hq => ⟨(hm.tabs q hq).1, (hm.tabs q hq).2.le (fun v e => by rw [upd_ne (ne_of_none e hp)]; exact e) fun c v n e => ⟨fun z => ?_, by rw [upd_ne (ne_of_none e hp)]; exact e⟩⟩⟩, [], upd_same, .nil⟩, l⟩
  · rcases List.mem_cons.mp ha with rfl | z
    · exact ⟨_, upd_same, trivial⟩
    · obtain ⟨u, e, q⟩ := hm.has a z
      exact ⟨u, by rw [upd_ne (ne_of_none e hp)]; exact e, q⟩
  · obtain ⟨v, e, _⟩ := (hm.at_ n a o h1 h2).has
    rw [upd_ne (ne_of_none e hp)]
  · rcases List.mem_cons.mp z with z | z
    · rw [z, hp] at e
      cases e
    · exact n z
/-- what came of an evaluation while the list was being made -/
theorem Le.unforb {p : Addr} {T0 T1 : Tk} {H0 H1 : Hp} (l0 : Le T0 H0 T H) (hp0 : H0 p = none) (np : p ∉ T.ν) (hH : ∃ u, H p = some u) (l : Le (T.forb p) H T1 H1) : ∃ T2 : Tk, T2.μ = T1.μ ∧ p ∉ T2.ν ∧ (∀ a, a ∈ (T2.forb p).ν ↔ a ∈ T1.ν) ∧ Le T0 H0 T2 H1 ∧ T2.τ = T1.τ := by
  obtain ⟨u, hu⟩ := hH
  have npμ : p ∉ T1.μ := fun z => by
    have := l.newμ p z (fun y => np (T.sub p y))
    rw [hu] at this
    cases this
  have etb : T1.τ = T.τ := l.tb
  refine ⟨⟨T1.μ, T1.ν.filter (· ≠ p), T1.τ, fun a h => List.mem_filter.mpr ⟨T1.sub a h, by simp; rintro rfl; exact npμ h⟩, fun q h => List.mem_filter.mpr ⟨T1.subτ q h, by
    have : q.1 ≠ p := fun e => np (e ▸ T.subτ q (by rw [← etb]; exact h))
    simpa using this⟩⟩, rfl, by simp, fun a => ?_, ?_, rfl⟩
  · show a ∈ p :: T1.ν.filter (· ≠ p) ↔ _
    by_cases ha : a = p
    · subst ha
      simp
      exact l.up _ (List.mem_cons_self ..)
    · simp [ha]
  · refine ⟨l0.pre.trans l.pre, fun a v h n t => ?_, etb.trans l0.tb, fun q hq v e => ?_, fun a ha n => ?_, fun a ha n => ?_, fun a h => ?_⟩
    · have h1 : a ∉ T.μ := fun z => by rw [l0.newμ a z n] at h; cases h
      exact l.keep a v (l0.keep a v h n t) h1 (fun q hq => t q (by rw [← l0.tb]; exact hq))
    · obtain ⟨v', e'⟩ := l0.tk q hq v e
      exact l.tk q (by show q ∈ T.τ; rw [l0.tb]; exact hq) v' e'
    · obtain ⟨ha, hne⟩ := List.mem_filter.mp ha
      cases e : H0 a with
      | none => rfl
      | some v =>
        have n1 : a ∉ T.ν := l0.out e n
        have := l.new a ha (fun z => by rcases List.mem_cons.mp z with z | z; simp [z] at hne; exact n1 z)
        rw [l0.keep a v e (Tk.out n) (Tk.outτ n)] at this
        cases this
    · cases e : H0 a with
      | none => rfl
      | some v =>
        have h1 : a ∉ T.μ := fun z => by rw [l0.newμ a z n] at e; cases e
        have := l.newμ a ha h1
        by_cases t : ∃ q ∈ T0.τ, q.1 = a
        · obtain ⟨q, hq, rfl⟩ := t
          obtain ⟨v', e'⟩ := l0.tk q hq v e
          rw [e'] at this
          cases this
        · rw [l0.keep a v e n fun q hq z => t ⟨q, hq, z⟩] at this
          cases this
    · refine List.mem_filter.mpr ⟨l.up a (List.mem_cons_of_mem _ (l0.up a h)), ?_⟩
      have : a ≠ p := by rintro rfl; exact np (l0.up _ h)
      simpa using this
/-- one element more -/
theorem Made.app {p : Addr} {T0 : Tk} {H0 : Hp} {ds : List D} {d : D} {v : V} (l0 : Le T0 H0 T H) (hp0 : H0 p = none) (k : Made g T H m p ds) (r : Rep g (T.forb p) H d v) {vs : List V} (hv : H p = some (.lst vs)) :
    Made g T (upd H p (.lst (vs ++ [v]))) m p (ds ++ [d]) ∧ Le T0 H0 T (upd H p (.lst (vs ++ [v]))) := by
  obtain ⟨np, hm, ws, hw, rl⟩ := k
  rw [hv] at hw
  cases hw
  have hp : p ∈ (T.forb p).ν := List.mem_cons_self ..
  refine ⟨⟨np, ⟨hm.len, hm.nd, fun a ha => ?_, fun n a o h1 h2 => (hm.at_ n a o h1 h2).upF hp ?_, fun q hq => ⟨(hm.tabs q hq).1, (hm.tabs q hq).2.le (fun v e => by rw [upd_ne (show q.1 ≠ p from fun z => np (z ▸ T.subτ q hq))]; exact e) fun c v n e => ⟨n, by rw [upd_ne (show c ≠ p from fun z => n (by rw [z]; exact hp))]; exact e⟩⟩⟩, _, upd_same, (RepL.upF hp _ rl).append (.cons (Rep.upF hp _ r) .nil)⟩, ⟨l0.pre, fun a u h n t => ?_, l0.tb, fun q hq v e => ?_, l0.new, l0.newμ, l0.up⟩⟩
  · by_cases z : a = p
    · rw [z]; exact ⟨_, upd_same, trivial⟩
    · obtain ⟨u, e, q⟩ := hm.has a ha
      exact ⟨u, by rw [upd_ne z]; exact e, q⟩
  · rintro rfl
    exact np (T.sub _ (List.mem_of_getElem? h1))
  · rw [upd_ne (ne_of_none h hp0)]
    exact l0.keep a u h n t
  · rw [upd_ne (ne_of_none e hp0)]
    exact l0.tk q hq v e
/-- the list is done -/
theorem Made.done {p : Addr} {T0 : Tk} {H0 : Hp} {ds : List D} (l0 : Le T0 H0 T H) (k : Made g T H m p ds) : RepH g T H m ∧ Rep g T H (.lst ds) (.ref p) := by
  obtain ⟨np, hm, ws, hw, rl⟩ := k
  have sub : ∀ a ∈ T.ν, a ∈ (T.forb p).ν := fun a h => List.mem_cons_of_mem _ h
  exact ⟨⟨hm.len, hm.nd, fun a h => hm.has a (sub a h), fun n a o h1 h2 => RepO.wk (T := T.forb p) (T' := T) ⟨rfl, rfl⟩ sub (hm.at_ n a o h1 h2), fun q hq => ⟨(hm.tabs q hq).1, (hm.tabs q hq).2.le (fun v e => e) fun c v n e => ⟨fun z => n (sub c z), e⟩⟩⟩, .lst ⟨np, hw⟩ (RepL.wk (T := T.forb p) (T' := T) ⟨rfl, rfl⟩ sub _ rl)⟩
theorem Made.step {p : Addr} {T0 T1 : Tk} {H0 H1 : Hp} {ds : List D} {m1 : M} (l0 : Le T0 H0 T H) (hp0 : H0 p = none) (k : Made g T H m p ds) (l : Le (T.forb p) H T1 H1) (hm : RepH g T1 H1 m1) :
    ∃ T2 : Tk, Le T0 H0 T2 H1 ∧ Made g T2 H1 m1 p ds ∧ (T2.μ = T1.μ ∧ T2.τ = T1.τ) ∧ ∀ a, a ∈ (T2.forb p).ν ↔ a ∈ T1.ν := by
  obtain ⟨np, _, ws, hw, rl⟩ := k
  obtain ⟨T2, e1, e2, e3, l2, e4⟩ := l0.unforb hp0 np ⟨_, hw⟩ l
  refine ⟨T2, l2, ⟨e2, ⟨by rw [← hm.len]; exact congrArg List.length e1, by show T2.μ.Nodup; rw [e1]; exact hm.nd, fun a h => hm.has a ((e3 a).mp h), fun n a o h1 h2 => ?_, fun q hq => ?_⟩, ws, l.keep _ _ hw (fun y => np (T.sub p y)) (fun q hq => Tk.outτ (T := T) np q hq), ?_⟩, ⟨e1, e4⟩, e3⟩
  · exact RepO.wk (T := T1) (T' := T2.forb p) ⟨e1, e4⟩ (fun a h => (e3 a).mp h) (hm.at_ n a o (by rw [← e1]; exact h1) h2)
  · have hq1 : q ∈ T1.τ := by rw [← e4]; exact hq
    exact ⟨by show q.1 ∉ T2.μ; rw [e1]; exact (hm.tabs q hq1).1, (hm.tabs q hq1).2.le (fun v e => e) fun c v n e => ⟨fun z => n ((e3 c).mp z), e⟩⟩
  · exact RepL.wk (T := T1) (T' := T2.forb p) ⟨e1, e4⟩ (fun a h => (e3 a).mp h) _ (rl.le l)
def setMany {α : Type} (σ : List (Option α)) : List Nat → List α → List (Option α)
  | i :: is, v :: vs => setMany (σ.set i (some v)) is vs
  | _, _ => σ
theorem wipe_set {i : Nat} {x : Option V} : ∀ {vs : List Nat} {σ : L2.St}, i ∈ vs → wipe (σ.set i x) vs = wipe σ vs := by
  intro vs
  induction vs with
  | nil => intro σ h; cases h
  | cons v vs ih =>
    intro σ h
    unfold wipe
    by_cases hi : i ∈ vs
    · rw [ih hi]
    · have e : i = v := by rcases List.mem_cons.mp h with z | z; exact z; exact absurd z hi
      subst e
      have key : ∀ (us : List Nat) (τ : L2.St), i ∉ us → wipe (τ.set i x) us = (wipe τ us).set i x := by
        intro us
        induction us with
        | nil => intro τ _; rfl
        | cons u us ih2 =>
          intro τ hu
          unfold wipe
          rw [ih2 τ (fun z => hu (List.mem_cons_of_mem _ z)), List.set_comm _ _ (fun z => hu (by rw [z]; exact List.mem_cons_self ..))]
      rw [key vs σ hi, List.set_set]
theorem wipe_wipe {vs : List Nat} {σ : L2.St} : ∀ us : List Nat, (∀ u ∈ us, u ∈ vs) → wipe (wipe σ us) vs = wipe σ vs
  | [], _ => rfl
  | u :: us, h => by
    show wipe ((wipe σ us).set u none) vs = _
    rw [wipe_set (h u (List.mem_cons_self ..)), wipe_wipe us fun w hw => h w (List.mem_cons_of_mem _ hw)]
theorem wipe_many {vs : List Nat} : ∀ (is : List Nat) (ws : List V) (σ : L2.St), (∀ u ∈ is, u ∈ vs) → wipe (setMany σ is ws) vs = wipe σ vs
  | [], _, _, _ => rfl
  | i :: is, [], _, _ => rfl
  | i :: is, w :: ws, σ, h => by
    show wipe (setMany (σ.set i (some w)) is ws) vs = _
    rw [wipe_many is ws _ fun u hu => h u (List.mem_cons_of_mem _ hu), wipe_set (h i (List.mem_cons_self ..))]
theorem many_len {α : Type} : ∀ (is : List Nat) (ws : List α) (σ : List (Option α)), (setMany σ is ws).length = σ.length
  | [], _, _ => rfl
  | i :: is, [], _ => rfl
  | i :: is, w :: ws, σ => by
    show (setMany (σ.set i (some w)) is ws).length = _
    rw [many_len]
    simp
theorem wipe_other {i : Nat} : ∀ {vs : List Nat} {σ : L2.St}, i ∉ vs → (wipe σ vs)[i]? = σ[i]?
  | [], _, _ => rfl
  | v :: vs, σ, h => by
    show ((wipe σ vs).set v none)[i]? = _
    rw [List.getElem?_set_ne (fun z => h (by rw [z]; exact List.mem_cons_self ..)), wipe_other fun z => h (List.mem_cons_of_mem _ z)]
theorem many_other {α : Type} {i : Nat} : ∀ {is : List Nat} {ws : List α} {σ : List (Option α)}, i ∉ is → (setMany σ is ws)[i]? = σ[i]?
  | [], _, _, _ => rfl
  | j :: is, [], _, _ => rfl
  | j :: is, w :: ws, σ, h => by
    show (setMany (σ.set j (some w)) is ws)[i]? = _
    rw [many_other fun z => h (List.mem_cons_of_mem _ z), List.getElem?_set_ne (fun z => h (by rw [z]; exact List.mem_cons_self ..))]
theorem RepS.many {σ : L2.St} {ρ : Ss} : ∀ {is : List Nat} {ds : List D} {vs : List V}, RepS g T H σ ρ → RepL g T H ds vs → RepS g T H (setMany σ is vs) (setMany ρ is ds)
  | [], _, _, h, _ => h
  | i :: is, _, _, h, .nil => h
  | i :: is, _, _, h, .cons r s => RepS.many (is := is) (RepS.set (i := i) h r) s
/-- the slots that are set are the ones that were wiped -/
theorem many_wiped {is : List Nat} {ds : List D} {vs : List V} {σ : L2.St} {ρ : Ss} (h : RepS g T H σ ρ) (r : RepL g T H ds vs) (hl : is.length = ds.length) : RepS g T H (setMany (wipe σ is) is vs) (setMany ρ is ds) := by
  have h0 : RepS g T H (setMany σ is vs) (setMany ρ is ds) := h.many r
  refine ⟨by rw [many_len, many_len, wipe_length]; exact h.len, fun i d e => ?_⟩
  obtain ⟨v, e1, q⟩ := h0.at_ i d e
  refine ⟨v, ?_, q⟩
  by_cases hi : i ∈ is
  · have key : ∀ (is : List Nat) (vs : List V) (σ τ : L2.St), σ.length = τ.length → is.length = vs.length → i ∈ is → (setMany σ is vs)[i]? = (setMany τ is vs)[i]? := by
      intro is
      induction is with
      | nil => intro vs σ τ _ _ hi; cases hi
      | cons j is ih =>
        intro vs σ τ hl hs hi
        cases vs with
        | nil => cases hs
        | cons w vs =>
          show (setMany (σ.set j (some w)) is vs)[i]? = (setMany (τ.set j (some w)) is vs)[i]?
          by_cases hj : i ∈ is
          · exact ih vs _ _ (by simpa using hl) (by simpa using hs) hj
          · rw [many_other hj, many_other hj]
            rcases List.mem_cons.mp hi with rfl | z
            · by_cases hb : i < σ.length
              · rw [List.getElem?_set_self hb, List.getElem?_set_self (by omega)]
              · rw [List.getElem?_eq_none (by simp; omega), List.getElem?_eq_none (by simp; omega)]
            · exact absurd z hj
    rw [key is vs (wipe σ is) σ (wipe_length _ _) (by rw [hl, r.length]) hi]
    exact e1
  · rw [many_other hi, wipe_other hi]
    rw [many_other hi] at e1
    exact e1
def unpk (n : Nat) (d : D) : Option (List D) := match d with
  | .tup ds => if ds.length = n then some ds else none
  | _ => none
inductive Tgt where
  | one (i : Nat) | many (is : List Nat)
def Tgt.is : Tgt → List Nat
  | .one i => [i]
  | .many is => is
def Tgt.un : Tgt → D → Option (List D)
  | .one _, d => some [d]
  | .many is, d => unpk is.length d
structure DGn (X : Cx) (e : Expr) (t : Tgt) : Prop where
  ex : ∃ tg, PG X e tg ∧ ∀ T σ H d v ds, Rep (gx X) T H d v → t.un d = some ds → ∀ Q, (∀ vs, RepL (gx X) T H ds vs → Q (setMany σ t.is vs) H) → tg v σ H Q
theorem dgn_name {i : Nat} {x : Str} (hN : X.N.Nodup) (hi : X.N[i]? = some x) (hx : Loc X.env.scope x) (hf : X.fn x = true ∨ X.env.scope.names.lookup x = some .local := by first | exact .inl rfl | exact .inr rfl | assumption) : DGn X (.Name x pos) (.one i) :=
  ⟨_, pg_name hN hi hx hf, fun T σ H d v ds r h Q k => by cases h; exact k [v] (.cons r .nil)⟩
structure DGns (X : Cx) (es : List Expr) (is : List Nat) : Prop where
  ex : ∃ tg, PGs X es tg ∧ ∀ vs σ H, vs.length = is.length → ∀ Q, Q (setMany σ is vs) H → tg vs σ H Q
theorem dgns_nil : DGns X [] [] := ⟨_, pgs_nil, fun vs σ H h Q k => ⟨List.eq_nil_of_length_eq_zero h, by cases vs; exact k; cases h⟩⟩
theorem dgns_cons {i : Nat} {x : Str} {es : List Expr} {is : List Nat} (hN : X.N.Nodup) (hi : X.N[i]? = some x) (hx : Loc X.env.scope x) (h2 : DGns X es is) (hf : X.fn x = true ∨ X.env.scope.names.lookup x = some .local := by first | exact .inl rfl | exact .inr rfl | assumption)
    (hs : (assignEach (.Name x pos :: es) X.env).map (·.2) = assign (.Name x pos) X.env :: (assignEach es X.env).map (·.2) := by rfl) : DGns X (.Name x pos :: es) (i :: is) := by
  obtain ⟨tg, pg, rg⟩ := h2.ex
  refine ⟨_, pgs_cons (pg_name hN hi hx hf) pg hs, fun vs σ H h Q k => ?_⟩
  cases vs with
  | nil => cases h
  | cons v vs => exact ⟨v, vs, rfl, rg vs _ H (by simpa using h) Q k⟩
theorem dgn_tup {es : List Expr} {k : Nat} {is : List Nat} (hc : X.calm = true) (h : DGns X es is)
    (hn : (assignEach es X.env).length = is.length := by rfl) (hst : (assignEach es X.env).findIdx? (·.1) = none := by rfl) : DGn X (.Tuple es k pos) (.many is) := by
  obtain ⟨tg, pg, rg⟩ := h.ex
  refine ⟨_, pg_tup hc pg hn hst, fun T σ H d v ds r h Q k => ?_⟩
  change unpk is.length d = some ds at h
  unfold unpk at h
  split at h
  · obtain ⟨hl, h⟩ := ite_some h
    cases h
    obtain ⟨a, vs, rfl, hx, rl⟩ := tup_rep r
    exact ⟨a, vs, rfl, hx, by rw [← rl.length]; exact hl, rg vs σ H (by rw [← rl.length]; exact hl) Q (k vs rl)⟩
  · cases h
/-- as the target of an assignment or a loop -/
def gTgt (t : Tgt) : GF := fun d ρ m => match t.un d with
  | some ds => some (setMany ρ t.is ds, m)
  | none => none
theorem dg_of {e : Expr} {t : Tgt} (h : DGn X e t) : DG X e (gTgt t) := by
  obtain ⟨tg, pg, rg⟩ := h.ex
  refine ⟨_, pg, fun T σ H ρ m d v ρ' m' hm hs r hf Q k => ?_⟩
  unfold gTgt at hf
  split at hf
  · next ds h1 =>
    cases hf
    exact rg T σ H d v ds r h1 Q fun vs rl => k _ T H .refl hm (hs.many rl)
  · cases hf
/-- an object that stood by itself is tracked from now on -/
theorem trackIt {p : Addr} {o : O} {T3 : Tk} (hm : RepH g T H m) (hp : p ∈ T.ν) (np : p ∉ T.μ) (e : T3.μ = T.μ ++ [p]) (e3 : ∀ a ∈ T3.ν, a ∈ T.ν) (ho : RepO g T3 H p o) (e4 : T3.τ = T.τ := by rfl) : RepH g T3 H (m ++ [o]) := by
  have pre : T.μ <+: T3.μ := by rw [e]; exact List.prefix_append _ _
  refine ⟨by rw [e]; simp [hm.len], ?_, fun a ha => hm.has a (e3 a ha), fun n a o' h1 h2 => ?_, fun q hq => ?_⟩
  · rw [e]
    exact List.nodup_append.mpr ⟨hm.nd, by simp, fun a ha b hb => by rw [List.mem_singleton.mp hb]; rintro rfl; exact np ha⟩
  · rw [e] at h1
    by_cases hn : n < T.μ.length
    · rw [List.getElem?_append_left hn] at h1
      rw [List.getElem?_append_left (by rw [← hm.len]; exact hn)] at h2
      exact (hm.at_ n a o' h1 h2).ext pre e3 e4
    · rw [List.getElem?_append_right (by omega)] at h1
      rw [List.getElem?_append_right (by rw [← hm.len]; omega), ← hm.len] at h2
      generalize n - T.μ.length = k at h1 h2
      cases k with
      | zero => cases h1; cases h2; exact ho
      | succ k => cases h1
  · rw [e4] at hq
    refine ⟨fun z => ?_, (hm.tabs q hq).2.le (fun v e => e) fun c v n e => ⟨fun z => n (e3 c z), e⟩⟩
    rw [e] at z
    rcases List.mem_append.mp z with z | z
    · exact (hm.tabs q hq).1 z
    · obtain ⟨ps, ep, _⟩ := (hm.tabs q hq).2
      rw [List.mem_singleton.mp z] at ep
      cases ho with
      | lst h _ => rw [h] at ep; cases ep
      | dicF h _ _ => rw [h] at ep; cases ep
      | dicN h _ _ _ => rw [h] at ep; unfold dnO at ep; cases ep
      | ins h _ _ => rw [h] at ep; cases ep
theorem Le.pushed {p : Addr} {T0 : Tk} {H0 : Hp} (l : Le T0 H0 T H) (hp0 : H0 p = none) : Le T0 H0 (T.push p) H := by
  refine ⟨l.pre.trans (List.prefix_append _ _), l.keep, l.tb, l.tk, fun a ha n => ?_, fun a ha n => ?_, fun a h => List.mem_append_left _ (l.up a h)⟩
  · rcases List.mem_append.mp ha with z | z
    · exact l.new a z n
    · rw [List.mem_singleton.mp z]; exact hp0
  · rcases List.mem_append.mp ha with z | z
    · exact l.newμ a z n
    · rw [List.mem_singleton.mp z]; exact hp0
theorem forb_push {p a : Addr} : a ∈ (T.push p).ν → a ∈ (T.forb p).ν := fun h => by
  rcases List.mem_append.mp h with z | z
  · exact List.mem_cons_of_mem _ z
  · rw [List.mem_singleton.mp z]; exact List.mem_cons_self ..
theorem Made.track {p : Addr} {T0 : Tk} {H0 : Hp} {ds : List D} (l0 : Le T0 H0 T H) (hp0 : H0 p = none) (k : Made g T H m p ds) : Le T0 H0 (T.push p) H ∧ RepH g (T.push p) H (m ++ [.lst ds]) ∧ Rep g (T.push p) H (.ref m.length) (.ref p) := by
  obtain ⟨np, hm, ws, hw, rl⟩ := k
  have sub : ∀ a ∈ (T.push p).ν, a ∈ (T.forb p).ν := fun a h => forb_push h
  have l : T.μ.length = m.length := hm.len
  refine ⟨l0.pushed hp0, trackIt (T := T.forb p) hm (List.mem_cons_self ..) (fun z => np (T.sub p z)) rfl sub (.lst hw (RepL.ext (T := T.forb p) (List.prefix_append _ _) sub rfl _ rl)), .ref ?_⟩
  show (T.μ ++ [p])[m.length]? = some p
  rw [← l, List.getElem?_append_right (Nat.le_refl _)]
  simp
def compGo (t : Tgt) (c : TF) (e : EF) (ρ : Ss) : List D → M → Option (List D × M)
  | [], m => some ([], m)
  | x :: xs, m => match t.un x with
    | some ds => bd (c (setMany ρ t.is ds) m) fun b m1 => if b then bd (e (setMany ρ t.is ds) m1) fun y m2 => bd (compGo t c e ρ xs m2) fun ys m3 => some (y :: ys, m3) else compGo t c e ρ xs m1
    | none => none
def eLcK (nw : Bool) (it : AF) (t : Tgt) (c : TF) (e : EF) : EF := fun ρ m => bd (it ρ m) fun xs m1 => if xs.length ≤ 1000000 then bd (compGo t c e ρ xs m1) fun ys m2 => some (bif nw then (.ref m2.length, m2 ++ [.lst ys]) else (.lst ys, m2)) else none
theorem Tgt.un_len {t : Tgt} {d : D} {ds : List D} (h : t.un d = some ds) : t.is.length = ds.length := by
  cases t with
  | one i => cases h; rfl
  | many is =>
    change unpk is.length d = some ds at h
    unfold unpk at h
    split at h
    · obtain ⟨hl, h⟩ := ite_some h; cases h; exact hl.symm
    · cases h
theorem rf_lc {wi : TI} {it : AF} {t : Tgt} {tg : TG} {tt : TT} {te : TE} {c : TF} {e : EF} (hi : RfI g wi it) (hg : ∀ T σ H d v ds, Rep g T H d v → t.un d = some ds → ∀ Q, (∀ vs, RepL g T H ds vs → Q (setMany σ t.is vs) H) → tg v σ H Q)
    (hc : RfT g tt c) (he : RfE g te e) {is : List Nat} (his : is = t.is) {nw : Bool} : RfE g (tLc wi tg tt te is) (eLcK nw it t c e) := by
  subst his
  intro T σ H ρ m d m' hm hs hf Q k
  obtain ⟨xs, m1, e1, hf⟩ := bd_some hf
  obtain ⟨hz, hf⟩ := ite_some hf
  obtain ⟨ys, mz, e2, hf⟩ := bd_some hf
  have hf := Option.some.inj hf
  refine hi T σ H ρ m xs m1 hm hs e1 _ fun J T0 H0 l0 hm0 ok p hp => ?_
  have hs0 := hs.le l0
  obtain ⟨md, lf⟩ := Made.new hm0 hp
  have start : Le T0 H0 T0 (upd H0 p (.lst [])) := ⟨List.prefix_rfl, fun a u e _ _ => by rw [upd_ne (ne_of_none e hp)]; exact e, rfl, fun q _ u e => ⟨u, by rw [upd_ne (ne_of_none e hp)]; exact e⟩, fun a h n => absurd h n, fun a h n => absurd h n, fun a h => h⟩
  refine ⟨fun i j H1 => i + j = xs.length ∧ ∃ T1 m1 ds rest, Le T0 H0 T1 H1 ∧ Made g T1 H1 m1 p ds ∧ ds.length ≤ i ∧ RepS g (T1.forb p) H1 σ ρ ∧ compGo t c e ρ (xs.drop i) m1 = some (rest, mz) ∧ ys = ds ++ rest, ⟨xs.length, by simp, T0, m1, [], ys, start, md, Nat.le_refl _, hs0.le lf, by simpa using e2, rfl⟩, ?_⟩
  rintro i j H1 ⟨hij, T1, m1', ds, rest, l1, md1, hdl, hs1, hf1, hy⟩
  obtain ⟨vs1, hv1, rl1⟩ := md1.at_
  have okT : ItOk g (T1.forb p) H1 J xs := fun T2 H2 l2 mm hmm => ok (⟨T2.μ, T2.ν, T2.τ, T2.sub, T2.subτ⟩) H2 (by
    have tb1 : (T1.forb p).τ = T0.τ := l1.tb
    refine ⟨l1.pre.trans l2.pre, fun a u h n t => l2.keep a u (l1.keep a u h n t) (fun z => ?_) (by rw [tb1]; exact t), l2.tb.trans l1.tb, fun q hq u e => ?_, fun a ha n => ?_, fun a ha n => ?_, fun a h => l2.up a (List.mem_cons_of_mem _ (l1.up a h))⟩
    · rw [l1.newμ a z n] at h; cases h
    · obtain ⟨u', e'⟩ := l1.tk q hq u e
      exact l2.tk q (by rw [tb1]; exact hq) u' e'
    · cases e : H0 a with
      | none => rfl
      | some u =>
        have n1 : a ∉ (T1.forb p).ν := fun z => by
          rcases List.mem_cons.mp z with rfl | z
          · rw [hp] at e; cases e
          · exact l1.out e n z
        have := l2.new a ha n1
        rw [l1.keep a u e (Tk.out n) (Tk.outτ n)] at this
        cases this
    · cases e : H0 a with
      | none => rfl
      | some u =>
        have n1 : a ∉ T1.μ := fun z => by rw [l1.newμ a z n] at e; cases e
        have := l2.newμ a ha n1
        by_cases t : ∃ q ∈ T0.τ, q.1 = a
        · obtain ⟨q, hq, rfl⟩ := t
          obtain ⟨v', e'⟩ := l1.tk q hq u e
          rw [e'] at this
          cases this
        · rw [l1.keep a u e n fun q hq z => t ⟨q, hq, z⟩] at this
          cases this) mm hmm
  obtain ⟨okG, okS⟩ := okT (T1.forb p) H1 .refl m1' md1.hm i
  cases j with
  | zero =>
    left
    rw [List.drop_of_length_le (by omega)] at hf1
    cases hf1
    rw [List.append_nil] at hy
    subst hy
    refine ⟨okS (by omega), ?_⟩
    cases nw with
    | false =>
      cases hf
      obtain ⟨hmd, rd⟩ := md1.done l1
      exact k _ T1 H1 (l0.trans l1) hmd rd
    | true =>
      cases hf
      obtain ⟨l3, hmd, rd⟩ := md1.track l1 hp
      exact k _ _ H1 (l0.trans l3) hmd rd
  | succ j =>
    right
    have hi' : i < xs.length := by omega
    rw [List.drop_eq_getElem_cons hi'] at hf1
    obtain ⟨go, yl⟩ := okG xs[i] (List.getElem?_eq_getElem hi')
    refine ⟨go, _, fun _ q => q, fun x H2 y2 => ?_⟩
    obtain ⟨T2, l2, hm2, r2⟩ := yl x H2 y2
    unfold compGo at hf1
    split at hf1
    · next es hes =>
      obtain ⟨b, m3, e3, hf3⟩ := bd_some hf1
      refine hg T2 (wipe σ t.is) H2 xs[i] x es r2 hes _ fun vs rv => ⟨?_, ?_⟩
      · rw [wipe_many t.is vs _ fun u hu => hu, wipe_wipe t.is fun u hu => hu]
      · have hs2 : RepS g T2 H2 (setMany (wipe σ t.is) t.is vs) (setMany ρ t.is es) := many_wiped (hs1.le l2) rv (Tgt.un_len hes)
        refine hc T2 _ H2 _ m1' b m3 hm2 hs2 e3 _ fun T3 H3 l3 hm3 => ?_
        cases b with
        | false =>
          obtain ⟨T4, l4, md4, e4, e5⟩ := md1.step l1 hp (l2.trans l3) hm3
          exact ⟨j, Nat.lt_succ_self _, by omega, T4, m3, ds, rest, l4, md4, by omega, ⟨hs1.len, fun q d hq => by
            obtain ⟨v, h1, h2⟩ := (hs1.le (l2.trans l3)).at_ q d hq
            exact ⟨v, h1, Rep.wk (T' := T4.forb p) e4 (fun a h => (e5 a).mp h) _ h2⟩⟩, hf3, hy⟩
        | true =>
          obtain ⟨y, m4, e6, hf4⟩ := bd_some hf3
          obtain ⟨ys', m5, e7, hf5⟩ := bd_some hf4
          cases hf5
          refine he T3 _ H3 _ m3 y m4 hm3 (hs2.le l3) e6 _ fun v T4 H4 l4 hm4 r4 => ?_
          obtain ⟨T5, l5, md5, e8, e9⟩ := md1.step l1 hp (l2.trans (l3.trans l4)) hm4
          obtain ⟨vs5, hv5, _⟩ := md5.at_
          have r5 : Rep g (T5.forb p) H4 y v := Rep.wk (T' := T5.forb p) e8 (fun a h => (e9 a).mp h) _ r4
          obtain ⟨md6, l6⟩ := md5.app l5 hp r5 hv5
          have hl5 : vs5.length = ds.length := by
            obtain ⟨w, hw, q⟩ := md5.at_
            rw [hv5] at hw
            cases hw
            exact q.length.symm
          refine ⟨vs5, hv5, ?_, j, Nat.lt_succ_self _, by omega, T5, m4, ds ++ [y], ys', l6, md6, by simp; omega, ⟨hs1.len, fun q d hq => ?_⟩, e7, by rw [hy]; simp⟩
          · rw [hl5, sizeLine_eq]; omega
          · obtain ⟨w, h1, h2⟩ := (hs1.le (l2.trans (l3.trans l4))).at_ q d hq
            exact ⟨w, h1, Rep.upF (List.mem_cons_self ..) _ (Rep.wk (T' := T5.forb p) e8 (fun a h => (e9 a).mp h) _ h2)⟩
    · cases hf1
end
end L4
namespace L4
open PySem L2
section
variable {X : Cx} {g : G} {T T' : Tk} {H : Hp} {m : M} {Q : VK} {pos : Pos}
structure DTs (X : Cx) (ifs : List Expr) (f : TF) : Prop where
  ex : ∃ t, PTs X ifs t ∧ RfT (gx X) t f
def tTrue : TF := fun _ m => some (true, m)
theorem dts_nil : DTs X [] tTrue := ⟨_, pts_nil, fun T σ H ρ m b m' hm hs hf Q k => by cases hf; exact k T H .refl hm⟩
theorem dts_one {c : Expr} {f : TF} (h : DT X c f) : DTs X [c] f := by
  obtain ⟨t, p, r⟩ := h.ex
  exact ⟨_, pts_one p, r⟩
theorem de_lc {nw : Bool} {elt tg iter : Expr} {ifs : List Expr} {scope : Scope} {own : List (Str × Nat)} {fi : AF} {t : Tgt} {fc : TF} {fe : EF} (hc : X.calm = true) (hN : X.N.Nodup) (hi : DI X tg iter fi) (ok : BlkOk X.N X.env.scope scope own)
    (hg : ∀ (s : Shared) (H : Hp) (C : Addr) (cl : List (Str × Addr)) (fp : List Addr), DGn (X.blk s H scope (compEnvC scope cl C X.env) fp) tg t) (ht : ∀ (s : Shared) (H : Hp) (C : Addr) (cl : List (Str × Addr)) (fp : List Addr), DTs (X.blk s H scope (compEnvC scope cl C X.env) fp) ifs fc)
    (he : ∀ (s : Shared) (H : Hp) (C : Addr) (cl : List (Str × Addr)) (fp : List Addr), DE (X.blk s H scope (compEnvC scope cl C X.env) fp) elt fe) (hq : own.map (·.2) = t.is := by rfl) (hs : ∀ x, foldedSetIterable iter X.env x = pure x := by intro _; rfl) :
    DE X (.ListComp elt [⟨tg, iter, ifs, 0⟩] scope pos) (eLcK nw fi t fc fe) := by
  obtain ⟨ti, pi, ri⟩ := hi.ex
  refine ⟨_, pe_lc (g := fun v σ H Q => ∀ s H' C cl fp, ∃ t, PG (X.blk s H' scope (compEnvC scope cl C X.env) fp) tg t ∧ t v σ H Q) (tt := fun σ H Q => ∀ s H' C cl fp, ∃ t, PTs (X.blk s H' scope (compEnvC scope cl C X.env) fp) ifs t ∧ t σ H Q)
    (te := fun σ H Q => ∀ s H' C cl fp, ∃ t, PE (X.blk s H' scope (compEnvC scope cl C X.env) fp) elt t ∧ t σ H Q) hc hN pi ok (fun s H C cl fp => ⟨fun pins s1 σ H1 v u Q I r h => ?_⟩) (fun s H C cl fp => ⟨fun pins s1 σ H1 Q I h => ?_⟩) (fun s H C cl fp => ⟨fun pins s1 σ H1 Q I h => ?_⟩) hs, ?_⟩
  · obtain ⟨t, p, q⟩ := h s H C cl fp
    exact p.run pins s1 σ H1 v u Q I r q
  · obtain ⟨t, p, q⟩ := h s H C cl fp
    exact p.run pins s1 σ H1 Q I q
  · obtain ⟨t, p, q⟩ := h s H C cl fp
    exact p.run pins s1 σ H1 Q I q
  · refine rf_lc ri ?_ ?_ ?_ hq
    · intro T σ H d v ds r hu Q k s H' C cl fp
      obtain ⟨t, p, q⟩ := (hg s H' C cl fp).ex
      exact ⟨t, p, q T σ H d v ds r hu Q k⟩
    · intro T σ H ρ m b m' hm hs hf Q k s H' C cl fp
      obtain ⟨t, p, q⟩ := (ht s H' C cl fp).ex
      exact ⟨t, p, q T σ H ρ m b m' hm hs hf Q k⟩
    · intro T σ H ρ m b m' hm hs hf Q k s H' C cl fp
      obtain ⟨t, p, q⟩ := (he s H' C cl fp).ex
      exact ⟨t, p, q T σ H ρ m b m' hm hs hf Q k⟩
theorem ds_setLc {nw : Bool} {i : Nat} {y : Str} {py : Pos} {elt tg iter : Expr} {ifs : List Expr} {scope : Scope} {own : List (Str × Nat)} {spos : Pos} {fi : AF} {t : Tgt} {fc : TF} {fe : EF} (hc : X.calm = true) (hN : X.N.Nodup) (hy : X.N[i]? = some y) (hyl : X.env.scope.names.lookup y = some .local)
    (hsw : swapsWith (.ListComp elt [⟨tg, iter, ifs, 0⟩] scope pos) (some (.Name y py)) spos.line X.env = pure true) (hi : DI X tg iter fi) (ok : BlkOk X.N X.env.scope scope own)
    (hg : ∀ (s : Shared) (H : Hp) (C : Addr) (cl : List (Str × Addr)) (fp : List Addr), DGn (X.blk s H scope (compEnvC scope cl C X.env) fp) tg t) (ht : ∀ (s : Shared) (H : Hp) (C : Addr) (cl : List (Str × Addr)) (fp : List Addr), DTs (X.blk s H scope (compEnvC scope cl C X.env) fp) ifs fc)
    (he : ∀ (s : Shared) (H : Hp) (C : Addr) (cl : List (Str × Addr)) (fp : List Addr), DE (X.blk s H scope (compEnvC scope cl C X.env) fp) elt fe) (hq : own.map (·.2) = t.is := by rfl) (hs : ∀ x, foldedSetIterable iter X.env x = pure x := by intro _; rfl) :
    DS X (.Assign [.Name y py] (.ListComp elt [⟨tg, iter, ifs, 0⟩] scope pos) spos) (sAsg (eLcK nw fi t fc fe) (gNm i)) := by
  obtain ⟨ti, pi, ri⟩ := hi.ex
  refine ⟨_, ps_setLc (g := fun v σ H Q => ∀ s H' C cl fp, ∃ t, PG (X.blk s H' scope (compEnvC scope cl C X.env) fp) tg t ∧ t v σ H Q) (tt := fun σ H Q => ∀ s H' C cl fp, ∃ t, PTs (X.blk s H' scope (compEnvC scope cl C X.env) fp) ifs t ∧ t σ H Q)
    (te := fun σ H Q => ∀ s H' C cl fp, ∃ t, PE (X.blk s H' scope (compEnvC scope cl C X.env) fp) elt t ∧ t σ H Q) hc hN hy hyl hsw pi ok (fun s H C cl fp => ⟨fun pins s1 σ H1 v u Q I r h => ?_⟩) (fun s H C cl fp => ⟨fun pins s1 σ H1 Q I h => ?_⟩) (fun s H C cl fp => ⟨fun pins s1 σ H1 Q I h => ?_⟩) hs, rf_asg ?_ ?_⟩
  · obtain ⟨t, p, q⟩ := h s H C cl fp
    exact p.run pins s1 σ H1 v u Q I r q
  · obtain ⟨t, p, q⟩ := h s H C cl fp
    exact p.run pins s1 σ H1 Q I q
  · obtain ⟨t, p, q⟩ := h s H C cl fp
    exact p.run pins s1 σ H1 Q I q
  · refine rf_lc ri ?_ ?_ ?_ hq
    · intro T σ H d v ds r hu Q k s H' C cl fp
      obtain ⟨t, p, q⟩ := (hg s H' C cl fp).ex
      exact ⟨t, p, q T σ H d v ds r hu Q k⟩
    · intro T σ H ρ m b m' hm hs hf Q k s H' C cl fp
      obtain ⟨t, p, q⟩ := (ht s H' C cl fp).ex
      exact ⟨t, p, q T σ H ρ m b m' hm hs hf Q k⟩
    · intro T σ H ρ m b m' hm hs hf Q k s H' C cl fp
      obtain ⟨t, p, q⟩ := (he s H' C cl fp).ex
      exact ⟨t, p, q T σ H ρ m b m' hm hs hf Q k⟩
  · exact fun T σ H ρ m d v ρ' m' hm hs r hf Q k => by cases hf; exact k _ T H .refl hm (hs.set r)
def iAny (K : PySem.W.Frag) (te : TE) : TI := fun σ H R => te σ H fun v H1 => (∃ a, v = .ref a ∧ (∃ xs, SqL K H1 a xs) ∧ R (Itl K a) H1) ∨ (∃ a, v = .ref a ∧ (∃ xs, SqT K H1 a xs) ∧ R (Itt K a) H1) ∨ ∃ x, v = .str x ∧ R (Its x) H1
theorem pi_any {tg e : Expr} {te : TE} (he : PE X e te) : PI X tg e (iAny X.K te) := by
  refine ⟨fun pins s σ H R I h => ?_⟩
  refine thn (he.run pins s σ H _ I h) fun v s1 ⟨y, H1, I1, r1, hq⟩ => ?_
  rcases hq with ⟨a, rfl, ⟨xs, hx⟩, q⟩ | ⟨a, rfl, ⟨xs, hx⟩, q⟩ | ⟨x, rfl, q⟩
  · cases r1
    obtain ⟨its, rv, p, hz⟩ := I1.list hx
    exact wpAny_pyIter_list p.isList (pi_one (tk := s1.toks) I1 _ (turn_list a _) ⟨_, Heap.get?_push_size _ rfl, rfl, rfl⟩ q)
  · cases r1
    obtain ⟨its, rv, p, hz⟩ := I1.tuple hx
    exact wpAny_pyIter_tuple (show s1.heap.IsTuple a its.toArray from p) (pi_one (tk := s1.toks) I1 _ (turn_tuple a _) ⟨_, Heap.get?_push_size _ rfl, rfl, rfl⟩ q)
  · obtain ⟨t, rfl⟩ := r1
    cases ha : x.cps.all (· < 128)
    · exact wpAny_pyIter_wide ha (pi_one (tk := s1.toks) I1 _ (turn_str _ x t "str_iterator" (.inr rfl)) ⟨_, Heap.get?_push_size _ rfl, rfl, rfl⟩ q)
    · exact wpAny_pyIter_ascii ha (pi_one (tk := s1.toks) I1 _ (turn_str _ x t "str_ascii_iterator" (.inl rfl)) ⟨_, Heap.get?_push_size _ rfl, rfl, rfl⟩ q)
theorem RepL.none {ds : List D} {vs : List V} {i : Nat} (r : RepL g T H ds vs) (h : ds.length ≤ i) : vs.length ≤ i := by rw [← r.length]; exact h
theorem itok_L {a : Addr} {ds : List D} (h : ∀ T1 H1, Le T H T1 H1 → ∃ vs, SqL g.K H1 a vs ∧ RepL g T1 H1 ds vs) : ItOk g T H (Itl g.K a) ds := by
  intro T1 H1 l m1 hm1 i
  obtain ⟨vs, hx, r⟩ := h T1 H1 l
  refine ⟨fun d hd => ?_, fun hl => ⟨vs, hx, r.none (Nat.le_of_eq hl)⟩⟩
  obtain ⟨v, hv, q⟩ := r.get hd
  refine ⟨⟨vs, v, hx, hv⟩, fun x H2 ⟨e, hy⟩ => ?_⟩
  subst e
  have := hy vs hx
  rw [hv] at this
  cases this
  exact ⟨T1, .refl, hm1, q⟩
theorem itok_T {a : Addr} {ds : List D} (h : ∀ T1 H1, Le T H T1 H1 → ∃ vs, SqT g.K H1 a vs ∧ RepL g T1 H1 ds vs) : ItOk g T H (Itt g.K a) ds := by
  intro T1 H1 l m1 hm1 i
  obtain ⟨vs, hx, r⟩ := h T1 H1 l
  refine ⟨fun d hd => ?_, fun hl => ⟨vs, hx, r.none (Nat.le_of_eq hl)⟩⟩
  obtain ⟨v, hv, q⟩ := r.get hd
  refine ⟨⟨vs, v, hx, hv⟩, fun x H2 ⟨e, hy⟩ => ?_⟩
  subst e
  have := hy vs hx
  rw [hv] at this
  cases this
  exact ⟨T1, .refl, hm1, q⟩
theorem itok_S {x : Str} : ItOk g T H (Its x) (x.cps.toList.map fun c => .str ⟨#[c]⟩) := by
  intro T1 H1 l m1 hm1 i
  refine ⟨fun d hd => ?_, fun hl => by show x.cps.size ≤ i; have := Nat.le_of_eq hl; simpa using this⟩
  rw [List.getElem?_map] at hd
  obtain ⟨c, hc, rfl⟩ := Option.map_eq_some_iff.mp hd
  have hc' : x.cps[i]? = some c := by simpa using hc
  refine ⟨(Array.getElem?_eq_some_iff.mp hc').1, fun y H2 ⟨e, c', h1, h2⟩ => ?_⟩
  subst e h2
  rw [hc'] at h1
  cases h1
  exact ⟨T1, .refl, hm1, .str _⟩
theorem itok_R {lo : Int} {n : Nat} : ItOk g T H (Itr lo n) ((List.range n).map fun (i : Nat) => .int (lo + i)) := by
  intro T1 H1 l m1 hm1 i
  refine ⟨fun d hd => ?_, fun hl => by show n ≤ i; have := Nat.le_of_eq hl; simpa using this⟩
  rw [List.getElem?_map] at hd
  obtain ⟨c, hc, rfl⟩ := Option.map_eq_some_iff.mp hd
  obtain ⟨h1, h2⟩ := List.getElem?_eq_some_iff.mp hc
  simp at h1 h2
  subst h2
  refine ⟨h1, fun y H2 ⟨e, h2⟩ => ?_⟩
  subst e h2
  exact ⟨T1, .refl, hm1, .int _⟩
/-- the items of what is walked: nothing that is tracked -/
def items : D → Option (List D)
  | .tup ds => some ds
  | .lst ds => some ds
  | .scr ds => some ds
  | .str x => some (x.cps.toList.map fun c => .str ⟨#[c]⟩)
  | _ => none
def iIt (a : EF) : AF := fun ρ m => bd (a ρ m) fun x m1 => pu (items x) m1
theorem di_any {tg e : Expr} {f : EF} (h : DE X e f) : DI X tg e (iIt f) := by
  obtain ⟨t, p, r⟩ := h.ex
  refine ⟨_, pi_any p, fun T σ H ρ m ds m' hm hs hf R k => ?_⟩
  obtain ⟨x, m1, e1, hf⟩ := bd_some hf
  obtain ⟨e2, rfl⟩ := pu_some hf
  refine r T σ H ρ m x _ hm hs e1 _ fun v T1 H1 l1 hm1 r1 => ?_
  cases r1 with
  | tup f q => cases e2; exact .inr (.inl ⟨_, rfl, ⟨_, f.sq⟩, k _ T1 H1 l1 hm1 (itok_T fun T2 H2 l => ⟨_, (f.le l).sq, q.le l⟩)⟩)
  | lst f q => cases e2; exact .inl ⟨_, rfl, ⟨_, f.sq⟩, k _ T1 H1 l1 hm1 (itok_L fun T2 H2 l => ⟨_, (f.le l).sq, q.le l⟩)⟩
  | scr f q => cases e2; exact .inl ⟨_, rfl, ⟨_, f.sq⟩, k _ T1 H1 l1 hm1 (itok_L fun T2 H2 l => ⟨_, (f.le l).sq, q.le l⟩)⟩
  | str x => cases e2; exact .inr (.inr ⟨_, rfl, k _ T1 H1 l1 hm1 itok_S⟩)
  | _ => cases e2
def rngD (lo : Int) (n : Nat) : List D := (List.range n).map fun (i : Nat) => .int (lo + i)
def iR1 (a : AF) : AF := fun ρ m => bd (a ρ m) fun xs m1 => match xs with
  | [.int j] => if -(2 ^ 62) ≤ j ∧ j < 2 ^ 62 then some (rngD 0 j.toNat, m1) else none
  | _ => none
theorem di_range1 {tg a : Expr} {f : AF} {p : Pos} (hg : Gl X "range") (hm : X.mg "range" = none) (ha : DA X [a] f) (hs : starEach [a] X.env = [(false, eval a X.env)] := by rfl) : DI X tg (.Call (.Name "range" p) [a] [] pos) (iR1 f) := by
  obtain ⟨t, pa, r⟩ := ha.ex
  refine ⟨_, pi_range1 hg hm pa hs, fun T σ H ρ m ds m' hm hs hf R k => ?_⟩
  obtain ⟨x, m1, e1, hf⟩ := bd_some hf
  refine r T σ H ρ m x _ hm hs e1 _ fun v T1 H1 l1 hm1 r1 => ?_
  split at hf
  · obtain ⟨⟨h1, h2⟩, hf⟩ := ite_some hf
    cases hf
    cases r1 with
    | cons a b => cases a; cases b; exact ⟨_, rfl, h1, h2, k _ T1 H1 l1 hm1 itok_R⟩
  · cases hf
end
end L4
namespace L4
open PySem L2
structure PFn (P : Program) (w : World) (K : PySem.W.Frag) (mg : Str → Option Value) (base : Heap) (k : Nat) (x : Str) (n : Nat) (F : List D → Option D) : Prop where
  len : ∀ ds d, F ds = some d → ds.length = n
  ex : ∃ f fd ps, FnG P w K mg base CX0 k f fd ps (spP ⟨P, w, K⟩ n F) ∧ mg x = some (.ref f) ∧ PySem.W.keepIn K (.ref f) = true ∧ Binds K fd ps []
structure MFn (P : Program) (w : World) (K : PySem.W.Frag) (mg : Str → Option Value) (base : Heap) (k : Nat) (x : Str) (n : Nat) (F : List D → M → Option (D × M)) : Prop where
  len : ∀ ds m r, F ds m = some r → ds.length = n
  ex : ∃ f fd ps, FnG P w K mg base CX0 k f fd ps (spM ⟨P, w, K⟩ n F) ∧ mg x = some (.ref f) ∧ PySem.W.keepIn K (.ref f) = true ∧ Binds K fd ps []
/-- a class with its __init__ -/
structure MNw (P : Program) (w : World) (K : PySem.W.Frag) (mg : Str → Option Value) (base : Heap) (k : Nat) (c : Str) (n : Nat) (F : List D → M → Option (D × M)) : Prop where
  len : ∀ ds m r, F ds m = some r → ds.length = n
  mgC : mg c = some (.ref (He.ga K c))
  ex : ∃ f fd ps, FnG P w K mg base CX0 k f fd ps (spM ⟨P, w, K⟩ n F) ∧ Mk K (He.ga K c) f ∧ Binds K fd ps []
section
variable {P : Program} {w : World} {K : PySem.W.Frag} {mg : Str → Option Value} {base : Heap} {k : Nat} {x q m c : Str} {ps N : List Str} {st : Stmt} {b : SF}
theorem fnG_all {f : Addr} {fd : FuncData} {sp : Sp} (F : Fun K x q st f fd) (S : FnScope N ps (defScope st)) (len : ∀ vs H Q E, sp vs H Q E → vs.length = ps.length)
    (hrun : ∀ {t : TS}, RfS ⟨P, w, K⟩ t b → ∀ {vs : List V} {H : Hp} {Q : VK} {E : XK}, sp vs H Q E → t { nx := fun _ H' => Q .non H', rt := Q } (L2.start N vs) H)
    (hbody : ∀ (cdv : Value) (A : Around) (outer : List Env) (s : Shared) (H : Hp) (E : XK), Gd k (cxOf CX0 P w K mg base N q (defScope st) f cdv A outer s H E).nox →
      DSs (cxOf CX0 P w K mg base N q (defScope st) f cdv A outer s H E).nox (defBody st) b) : FnG P w K mg base CX0 (k + 1) f fd ps sp := by
  refine .old (L3.fnG_of F S len fun cdv A outer s H vs Q E hg hr hsp => ?_)
  obtain ⟨t, p, r⟩ := (hbody cdv A outer s H E ⟨hg, hr⟩).ex
  exact ⟨t, p, hrun r hsp⟩
theorem pfn_df (D : L3.Df K mg x st) (S : FnScope N ps (defScope st))
    (hb : ∀ (kV doc pm : Value) (an : Option Addr) (cdv ct : Value) (us : List Value), us.length = ps.length → bindArgs (PySem.W.fnOf x x (defArgs st) (defBody st) (defScope st) .none kV doc pm an cdv ct) ⟨us, []⟩ = pure (ps.zip us))
    (hbody : ∀ (f : Addr) (cdv : Value) (A : Around) (outer : List Env) (s : Shared) (H : Hp) (E : XK), Gd k (cxOf CX0 P w K mg base N x (defScope st) f cdv A outer s H E).nox →
      DSs (cxOf CX0 P w K mg base N x (defScope st) f cdv A outer s H E).nox (defBody st) b) : PFn P w K mg base (k + 1) x ps.length (runP ps.length N.length b) := by
  obtain ⟨f, fd, F, g⟩ := D.ex
  exact ⟨fun ds d h => runP_len h, f, fd, ps, fnG_all F S (fun vs H Q E h => h.1) (fun r => spP_run r) (hbody f), g, F.kp, F.binds hb⟩
theorem mfn_df (D : L3.Df K mg x st) (S : FnScope N ps (defScope st))
    (hb : ∀ (kV doc pm : Value) (an : Option Addr) (cdv ct : Value) (us : List Value), us.length = ps.length → bindArgs (PySem.W.fnOf x x (defArgs st) (defBody st) (defScope st) .none kV doc pm an cdv ct) ⟨us, []⟩ = pure (ps.zip us))
    (hbody : ∀ (f : Addr) (cdv : Value) (A : Around) (outer : List Env) (s : Shared) (H : Hp) (E : XK), Gd k (cxOf CX0 P w K mg base N x (defScope st) f cdv A outer s H E).nox →
      DSs (cxOf CX0 P w K mg base N x (defScope st) f cdv A outer s H E).nox (defBody st) b) : MFn P w K mg base (k + 1) x ps.length (runM ps.length N.length b) := by
  obtain ⟨f, fd, F, g⟩ := D.ex
  exact ⟨fun ds m d h => runM_len h, f, fd, ps, fnG_all F S (fun vs H Q E h => h.1) (fun r => spM_run r) (hbody f), g, F.kp, F.binds hb⟩
end
section
variable {X : Cx} {g : G} {T T' : Tk} {H : Hp} {m : M} {Q : VK} {pos p apos : Pos} {e o : Expr} {es : List Expr} {k n : Nat} {x c nm : Str}
theorem app_nil {r : List V → Hp → VK → Prop} {v : Value} {sp : Sp} (h : CallR X v fun vs H Q => sp (vs ++ []) H Q E0) : CallR X v fun vs H Q => sp vs H Q E0 := by
  intro pins s σ H xs us Q I r q
  exact h pins s σ H xs us Q I r (by show sp (xs ++ []) H Q E0; rw [List.append_nil]; exact q)
theorem de_pfn {F : List D → Option D} {f : AF} (hF : PFn X.prog X.w X.K X.mg X.base k x n F) (gd : Gd k X) (hg : Gl X x) (ha : DA X (e :: es) f) (hdb : (x == ("__debug__" : Str)) = false := by decide)
    (he : starEach (e :: es) X.env = (false, eval e X.env) :: starEach es X.env := by rfl) (hpl : (backTo pos (starEach es X.env)).any (·.1) = false := by rfl) : DE X (.Call (.Name x p) (e :: es) [] pos) (eCall (callP F) f) := by
  obtain ⟨fa, fd, ps, G, hm, kp, b⟩ := hF.ex
  obtain ⟨t, pa, ra⟩ := ha.ex
  exact ⟨_, pe_callR (app_nil (r := fun _ _ _ => True) (G.call gd b .nil)) hg hm kp pa hdb he hpl, rf_call (rf_callP hF.len) ra⟩
theorem de_mfn {F : List D → M → Option (D × M)} {f : AF} (hF : MFn X.prog X.w X.K X.mg X.base k x n F) (gd : Gd k X) (hg : Gl X x) (ha : DA X (e :: es) f) (hdb : (x == ("__debug__" : Str)) = false := by decide)
    (he : starEach (e :: es) X.env = (false, eval e X.env) :: starEach es X.env := by rfl) (hpl : (backTo pos (starEach es X.env)).any (·.1) = false := by rfl) : DE X (.Call (.Name x p) (e :: es) [] pos) (eCallM F f) := by
  obtain ⟨fa, fd, ps, G, hm, kp, b⟩ := hF.ex
  obtain ⟨t, pa, ra⟩ := ha.ex
  exact ⟨_, pe_callR (app_nil (r := fun _ _ _ => True) (G.call gd b .nil)) hg hm kp pa hdb he hpl, rf_callM hF.len ra⟩
/-- the class and the fields of an object -/
def insO : O → Option (Str × List Str × List D)
  | .ins c ns vs => some (c, ns, vs)
  | _ => none
def insOf (m : M) : D → Option (Str × List Str × List D)
  | .obj c ns vs => some (c, ns, vs)
  | .ref n => (m[n]?).bind insO
  | _ => none
theorem ins_rep {d : D} {v : V} {ns : List Str} {vs : List D} (hm : RepH g T H m) (r : Rep g T H d v) (h : insOf m d = some (c, ns, vs)) : ∃ a dx fs, v = .ref a ∧ H a = some (.ins (He.ga g.K c) dx fs) ∧ fs.map Prod.fst = ns ∧ RepL g T H vs (fs.map Prod.snd) := by
  cases r with
  | obj n f e r => cases h; exact ⟨_, _, _, rfl, f, e, r⟩
  | ref e =>
    obtain ⟨o, h1, h2⟩ := Option.bind_eq_some_iff.mp h
    cases hm.at_ _ _ _ e h1 with
    | ins f e r => cases h2; exact ⟨_, _, _, rfl, f, e, r⟩
    | _ => cases h2
  | _ => cases h
theorem lookup_none {fs : List (Str × V)} {f : Str} (h : (fs.map Prod.fst).contains f = false) : fs.lookup f = none := by
  rw [List.lookup_eq_none_iff]
  intro p hp
  have : f ∉ fs.map Prod.fst := by simpa using h
  rw [bne_iff_ne]
  rintro rfl
  exact this (List.mem_map.mpr ⟨p, hp, rfl⟩)
/-- o.m(..): the object first, its class is asked -/
def eMth (c nm : Str) (F : M → List D → Option D) (o : EF) (a : AF) : EF := fun ρ m => bd (o ρ m) fun x m1 => match insOf m1 x with
  | some (c', ns, _) => if c' = c ∧ ns.contains nm = false then bd (a ρ m1) fun xs m2 => pu (F m2 (x :: xs)) m2 else none
  | none => none
theorem rf_nil : RfA g tNil aNil := fun T σ H ρ m ds m' hm hs hf Q k => by cases hf; exact k [] T H .refl hm .nil
def fldAt : List Str → List D → Str → Option D
  | n :: ns, v :: vs, f => if n = f then some v else fldAt ns vs f
  | _, _, _ => none
theorem fld_rep {f : Str} : ∀ {fs : List (Str × V)} {ns : List Str} {vs : List D} {d : D}, fs.map Prod.fst = ns → RepL g T H vs (fs.map Prod.snd) → fldAt ns vs f = some d → ∃ v, fs.lookup f = some v ∧ Rep g T H d v
  | [], _, _, _, e, r, h => by subst e; cases r; cases h
  | (n, w) :: fs, _, _, d, e, r, h => by
    subst e
    cases r with
    | cons r s =>
      change (if n = f then some _ else fldAt _ _ f) = some d at h
      by_cases hn : n = f
      · rw [if_pos hn] at h
        cases h
        subst hn
        exact ⟨w, by simp [List.lookup], r⟩
      · rw [if_neg hn] at h
        obtain ⟨v, e1, q⟩ := fld_rep (fs := fs) rfl s h
        refine ⟨v, ?_, q⟩
        have : (f == n) = false := by rw [beq_eq_false_iff_ne]; exact fun z => hn z.symm
        simp [List.lookup, this, e1]
def eFld (cs : List Str) (f : Str) (o : EF) : EF := fun ρ m => bd (o ρ m) fun x m1 => match insOf m1 x with
  | some (c, ns, vs) => if cs.contains c then pu (fldAt ns vs f) m1 else none
  | none => none
/-- none of these classes has the name f itself -/
def NA (K : PySem.W.Frag) (cs : List Str) (f : Str) : Prop := ∀ c ∈ cs, Cls K (He.ga K c) ∧ NoAttr K (He.ga K c) f
theorem na1 {K : PySem.W.Frag} {c f : Str} (h : Cls K (He.ga K c)) (n : NoAttr K (He.ga K c) f) : NA K [c] f := fun d hd => by rw [List.mem_singleton.mp hd]; exact ⟨h, n⟩
theorem de_fld {cs : List Str} {f : Str} {fo : EF} (hn : NA X.K cs f) (ho : DE X o fo) (hb : attributeBase o f X.env (eval o X.env) = eval o X.env := by rfl) : DE X (.Attribute o f pos) (eFld cs f fo) := by
  obtain ⟨to, po, ro⟩ := ho.ex
  refine ⟨_, pe_fld po hb, fun T σ H ρ m d m' hm hs hf Q k => ?_⟩
  obtain ⟨x, m1, e1, hf⟩ := bd_some hf
  refine ro T σ H ρ m x m1 hm hs e1 _ fun v T1 H1 l1 hm1 r1 => ?_
  split at hf
  · next c' ns vs hi =>
    obtain ⟨hc, hf⟩ := ite_some hf
    obtain ⟨e3, rfl⟩ := pu_some hf
    obtain ⟨a, dx, fs, rfl, ea, en, rf⟩ := ins_rep hm1 r1 hi
    obtain ⟨w, e4, q⟩ := fld_rep en rf e3
    have hc' := hn c' (by simpa using hc)
    exact ⟨a, _, dx, fs, w, rfl, ea, hc'.1, hc'.2, e4, k _ T1 H1 l1 hm1 q⟩
  · cases hf
end
end L4
namespace L4
open PySem L2
section
variable {X : Cx} {g : G} {T T' : Tk} {H : Hp} {m : M} {Q : VK} {pos p apos : Pos} {e o : Expr} {es : List Expr} {k n : Nat} {x c nm : Str}
theorem FnG.make {C f : Addr} {fd : FuncData} {ps : List Str} {sp : Sp} (Mk : Mk X.K C f) (F : FnG X.prog X.w X.K X.mg X.base CX0 k f fd ps sp) (gd : Gd (k + 1) X) (hb : Binds X.K fd ps []) :
    CallR X (.ref C) fun vs H Q => ∀ x dx, H x = none → H dx = none → dx ≠ x → sp (.ref x :: vs) (upd (upd H dx (.own x)) x (.ins C dx [])) (fun v H2 => v = .non ∧ Q (.ref x) H2) E0 := by
  intro pins s σ H vs us Q I r h
  have hq := h (s.heap.objs.size + 1) s.heap.objs.size (I.hok.fresh (Nat.le_succ _)) (I.hok.fresh (Nat.le_refl _)) (Nat.ne_of_lt (Nat.lt_succ_self _))
  have I2 := Inv.made (C := C) I
  have r2 : Vals (V.ref (s.heap.objs.size + 1) :: vs) (Value.ref (s.heap.objs.size + 1) :: us) := .cons rfl r
  have hl : (Value.ref (s.heap.objs.size + 1) :: us ++ []).length = ps.length := by
    rw [List.append_nil, ← r2.length]
    exact F.len _ _ _ _ hq
  have hg : (X.A.under (.builtin "type.__call__" ⟨.ref C :: us, []⟩)).guards = some [] := by
    have := gd.g
    have e : (Code.builtin "type.__call__" ⟨.ref C :: us, []⟩).guards = [] := by simp [Code.guards, Code.isGuard, guardIds]
    simp [Around.under, e, pushGuards, this]
  have b := hb _ (Value.ref (s.heap.objs.size + 1) :: us) I2.kIn hl
  rw [List.append_nil] at b
  refine wpAny_call (make_map (f := f) I.kIn Mk.makes Mk.init (beq_iff_eq.mp Mk.fn) (codeAny_mono (F.run _ X.stack _ _ _ _ _ _ E0 hg (gd.r.make C us []) (I2.env0.make C us []) b r2 hq) fun res s' hres => ?_))
  match res, hres with
  | .error _, z => exact z.elim
  | .ok (.ret u), z =>
    obtain ⟨v, H', I3, rv, ev, q3⟩ := I2.after z
    cases ev
    exact ⟨rv, V.ref (s.heap.objs.size + 1), H', I3, rfl, q3⟩
/-- an object that is never changed behind its making: plain data -/
def newP (c : Str) (F : List D → M → Option (D × M)) (ds : List D) : Option D := match F (.ref 0 :: ds) [.ins c [] []] with
  | some (.non, m) => frz m (.ref 0)
  | _ => none
def pureC (F : List D → Option D) (_ : M) (ds : List D) : Option D := if pureL ds then F ds else none
theorem rf_newP {F : List D → M → Option (D × M)} (hn : ∀ ds m r, F ds m = some r → ds.length = n) :
    RfC g (fun vs H Q => ∀ x dx, H x = none → H dx = none → dx ≠ x → spM g n F (.ref x :: vs) (upd (upd H dx (.own x)) x (.ins (He.ga g.K c) dx [])) (fun v H2 => v = .non ∧ Q (.ref x) H2) E0) (pureC (newP c F)) := by
  intro T H m xs vs d hm r hf Q k x dx hx hdx hne
  obtain ⟨hp, hf⟩ := ite_some hf
  unfold newP at hf
  split at hf
  · next m2 hF =>
    have up : ∀ a u, H a = some u → upd (upd H dx (.own x)) x (.ins (He.ga g.K c) dx []) a = some u := fun a u e => by
      rw [upd_ne (ne_of_none e hx), upd_ne (ne_of_none e hdx)]; exact e
    have nx : x ∉ T.ν := hm.nope hx
    let Tc : Tk := ⟨[x], x :: T.ν, [], (fun a h => by rw [List.mem_singleton.mp h]; exact List.mem_cons_self ..), (fun _ h => nomatch h)⟩
    obtain ⟨l1, hm1⟩ := hm.grow up
    have hmc : RepH g Tc (upd (upd H dx (.own x)) x (.ins (He.ga g.K c) dx [])) [.ins c [] []] := by
      refine ⟨rfl, by simp [Tc], fun a ha => ?_, fun i a o h1 h2 => ?_, (fun p h => nomatch h)⟩
      · rcases List.mem_cons.mp ha with rfl | z
        · exact ⟨_, upd_same, trivial⟩
        · exact hm1.has a z
      · cases i with
        | zero => cases h1; cases h2; exact .ins upd_same rfl .nil
        | succ i => cases h2
    have rx : RepL g (T0 T.ν) H xs vs := RepL.pure (fun _ h => h) _ hp r
    have rc : RepL g Tc (upd (upd H dx (.own x)) x (.ins (He.ga g.K c) dx [])) xs vs := by
      have l0 : Le (T0 T.ν) H ⟨[], x :: T.ν, [], (fun a h => nomatch h), (fun _ h => nomatch h)⟩ (upd (upd H dx (.own x)) x (.ins (He.ga g.K c) dx [])) := ⟨List.prefix_rfl, fun a u e _ _ => up a u e, rfl, (fun p h => nomatch h), fun a ha n => by
        rcases List.mem_cons.mp ha with rfl | z
        · exact hx
        · exact absurd z n, fun a h n => (nomatch h), fun a h => List.mem_cons_of_mem _ h⟩
      exact RepL.lift (T := Tc) _ (rx.le l0)
    refine ⟨by have := hn _ _ _ hF; rw [← this]; simp [r.length], Tc, _, .ref 0 :: xs, .non, m2, hmc, .cons (.ref rfl) rc, hF, fun v T2 H2 l2 hm2 rv => ?_⟩
    cases rv
    refine ⟨rfl, ?_⟩
    have upH : ∀ a u, H a = some u → H2 a = some u := fun a u e => l2.keep a u (up a u e) (fun z => by
      rw [List.mem_singleton.mp z] at e
      rw [hx] at e
      cases e) (fun _ h => nomatch h)
    obtain ⟨l3, hm3⟩ := hm.grow upH
    have rz : Rep g T2 H2 (.ref 0) (.ref x) := .ref (l2.get (n := 0) rfl)
    refine k _ T H2 l3 hm3 (Rep.lift _ (frz_ok hm2 (ν := T.ν) (fun a h => l2.up a (List.mem_cons_of_mem _ h)) (fun a h z => ?_) hf rz))
    by_cases ha : a ∈ Tc.μ
    · rw [List.mem_singleton.mp ha] at z; exact nx z
    · obtain ⟨u, e, _⟩ := hm1.has a z
      rw [l2.newμ a h ha] at e
      cases e
  · cases hf
end
end L4
namespace L4
open PySem L2
section
variable {X : Cx} {g : G} {T T' : Tk} {H : Hp} {m : M} {Q : VK} {pos p apos : Pos} {e o : Expr} {es : List Expr} {k n : Nat} {x c nm : Str}
theorem de_newP {F : List D → M → Option (D × M)} {f : AF} (hF : MNw X.prog X.w X.K X.mg X.base k c n F) (gd : Gd (k + 1) X) (hg : Gl X c) (ha : DA X (e :: es) f) (hdb : (c == ("__debug__" : Str)) = false := by decide)
    (he : starEach (e :: es) X.env = (false, eval e X.env) :: starEach es X.env := by rfl) (hpl : (backTo pos (starEach es X.env)).any (·.1) = false := by rfl) : DE X (.Call (.Name c p) (e :: es) [] pos) (eCall (pureC (newP c F)) f) := by
  obtain ⟨fa, fd, ps, G, M, b⟩ := hF.ex
  obtain ⟨t, pa, ra⟩ := ha.ex
  exact ⟨_, pe_callR (G.make M gd b) hg hF.mgC M.kp pa hdb he hpl, rf_call (rf_newP hF.len) ra⟩
def putD (f : Str) (d : D) : List Str → List D → List Str × List D
  | n :: ns, v :: vs => if n = f then (n :: ns, d :: vs) else let r := putD f d ns vs; (n :: r.1, v :: r.2)
  | _, _ => ([f], [d])
theorem put_rep {f : Str} {d : D} {v : V} (rd : Rep g T H d v) : ∀ {fs : List (Str × V)} {vs : List D}, RepL g T H vs (fs.map Prod.snd) → (putF f v fs).map Prod.fst = (putD f d (fs.map Prod.fst) vs).1 ∧ RepL g T H (putD f d (fs.map Prod.fst) vs).2 ((putF f v fs).map Prod.snd)
  | [], _, r => by cases r; exact ⟨rfl, .cons rd .nil⟩
  | (n, w) :: fs, _, r => by
    cases r with
    | cons r s =>
      obtain ⟨h1, h2⟩ := put_rep (f := f) rd s
      unfold putF
      simp only [List.map_cons, putD]
      by_cases hn : n = f
      · rw [if_pos hn, if_pos hn]
        exact ⟨rfl, .cons rd s⟩
      · rw [if_neg hn, if_neg hn]
        exact ⟨by simp [h1], .cons r h2⟩
def sFldM (cs : List Str) (f : Str) (o v : EF) : SF := fun ρ m => bd (v ρ m) fun y m1 => bd (o ρ m1) fun x m2 => match x with
  | .ref n => match m2[n]? with
    | some (.ins c ns vs) => if cs.contains c ∧ vs.length < 1000 then some (.nx ρ, m2.set n (.ins c (putD f y ns vs).1 (putD f y ns vs).2)) else none
    | _ => none
  | _ => none
theorem ds_fld {cs : List Str} {f : Str} {value : Expr} {fo fv : EF} {pos' : Pos} (hn : NA X.K cs f) (ho : DE X o fo) (hv : DE X value fv) (hs : swapsWith value (some (.Attribute o f pos')) pos.line X.env = pure false := by rfl) :
    DS X (.Assign [.Attribute o f pos'] value pos) (sFldM cs f fo fv) := by
  obtain ⟨to, po, ro⟩ := ho.ex; obtain ⟨tv, pv, rv⟩ := hv.ex
  refine ⟨_, ps_fld po pv hs, fun T σ H ρ m d m' hm hs hf D k => ?_⟩
  obtain ⟨y, m1, e1, hf1⟩ := bd_some hf
  obtain ⟨x, m2, e2, hf2⟩ := bd_some hf1
  refine rv T σ H ρ m y m1 hm hs e1 _ fun v T1 H1 l1 hm1 r1 => ?_
  refine ro T1 σ H1 ρ m1 x m2 hm1 (hs.le l1) e2 _ fun u T2 H2 l2 hm2 r2 => ?_
  clear hf hf1
  split at hf2
  · next n =>
    split at hf2
    · next c ns vs hi =>
      obtain ⟨⟨hc, hl⟩, hf3⟩ := ite_some hf2
      cases hf3
      cases r2 with
      | ref ea =>
        cases hm2.at_ _ _ _ ea hi with
        | @ins dx fs _ _ _ h1 h2 r =>
          have hc' := hn c (by simpa using hc)
          refine ⟨_, _, dx, fs, rfl, h1, hc'.1, hc'.2, by have := r.length; simp at this; omega, ?_⟩
          obtain ⟨l3, hm3⟩ := hm2.put (u := .ins (He.ga X.K c) dx (putF f v fs)) (o := .ins c (putD f y ns vs).1 (putD f y ns vs).2) ea fun l => by
            obtain ⟨q1, q2⟩ := put_rep (f := f) ((r1.le l2).le l) (r.le l)
            rw [h2] at q1 q2
            exact .ins upd_same q1 q2
          exact k σ _ _ (l1.trans (l2.trans l3)) hm3 (hs.le (l1.trans (l2.trans l3)))
    · cases hf2
  · cases hf2
theorem lst_tracked {n : Nat} {v : V} {ds : List D} (hm : RepH g T H m) (r : Rep g T H (.ref n) v) (h : m[n]? = some (.lst ds)) : ∃ a vs, v = .ref a ∧ T.μ[n]? = some a ∧ H a = some (.lst vs) ∧ RepL g T H ds vs := by
  cases r with
  | ref e =>
    cases hm.at_ _ _ _ e h with
    | lst f r => exact ⟨_, _, rfl, e, f, r⟩
theorem tyL_of {K : PySem.W.Frag} {a : Addr} {vs : List V} (h : H a = some (.lst vs)) : tyV K "list" (.ref a) H := .inl ⟨rfl, _, SqL.of h⟩
def RfLm (g : G) (r : V → List V → Hp → VK → Prop) (F : M → List D → List D → Option (D × List D)) : Prop := ∀ T H m l xs ds ys vs d es, RepH g T H m → H l = some (.lst xs) → RepL g T H ds xs → RepL g T H ys vs → F m ds ys = some (d, es) → ∀ Q : VK,
  (∀ v zs, RepL g T H es zs → Rep g T H d v → Q v (upd H l (.lst zs))) → r (.ref l) vs H Q
theorem rf_lm {r : V → List V → Hp → VK → Prop} {F : M → List D → List D → Option (D × List D)} {to : TE} {t : TA} {fo : EF} {fa : AF} (hr : RfLm g r F) (ho : RfE g to fo) (ha : RfA g t fa) {ff : EF}
    (hff : ∀ ρ m, ff ρ m = bd (fo ρ m) fun x m1 => match x with
      | .ref n => match m1[n]? with
        | some (.lst _) => bd (fa ρ m1) fun ys m2 => match m2[n]? with
          | some (.lst ds) => (F m2 ds ys).map fun r => (r.1, m2.set n (.lst r.2))
          | _ => none
        | _ => none
      | _ => none) : RfE g (tBM g.K "list" r to t) ff := by
  intro T σ H ρ m d m' hm hs hf Q k
  rw [hff] at hf
  obtain ⟨x, m1, e1, hf1⟩ := bd_some hf
  clear hf
  refine ho T σ H ρ m x m1 hm hs e1 _ fun v T1 H1 l1 hm1 r1 => ?_
  split at hf1
  · next n =>
    split at hf1
    · next ds0 hi0 =>
      obtain ⟨ys, m2, e2, hf2⟩ := bd_some hf1
      obtain ⟨a, vs0, rfl, ea, h0, _⟩ := lst_tracked hm1 r1 hi0
      refine ⟨tyL_of h0, ha T1 σ H1 ρ m1 ys m2 hm1 (hs.le l1) e2 _ fun vs T2 H2 l2 hm2 r2 => ?_⟩
      split at hf2
      · next ds hi =>
        obtain ⟨⟨d', es⟩, h3, h4⟩ := Option.map_eq_some_iff.mp hf2
        obtain ⟨rfl, rfl⟩ : d' = d ∧ _ = m' := by injection h4 with h5 h6; exact ⟨h5, h6⟩
        obtain ⟨a', xs, e, ea2, h5, r5⟩ := lst_tracked hm2 (r1.le l2) hi
        cases e
        refine hr T2 H2 m2 a xs ds ys vs d' es hm2 h5 r5 r2 h3 Q fun v zs rz rv => ?_
        obtain ⟨l3, hm3⟩ := hm2.put (u := .lst zs) (o := .lst es) ea2 fun l => .lst upd_same (rz.le l)
        exact k v T2 _ (l1.trans (l2.trans l3)) hm3 (rv.le l3)
      · cases hf2
    · cases hf1
  · cases hf1
def appL (ds ys : List D) : Option (D × List D) := match ys with
  | [y] => if ds.length < sizeLine then some (.non, ds ++ [y]) else none
  | _ => none
def popL (ds ys : List D) : Option (D × List D) := match ys with
  | [] => match ds.getLast? with
    | some d => some (d, ds.dropLast)
    | none => none
  | _ => none
def extL (m : M) (ds ys : List D) : Option (D × List D) := match ys with
  | [y] => match lstOf m y with
    | some es => if ds.length + es.length ≤ sizeLine then some (.non, ds ++ es) else none
    | none => none
  | _ => none
def eLm0 (F : M → List D → List D → Option (D × List D)) (o : EF) (a : AF) : EF := fun ρ m => bd (o ρ m) fun x m1 => match x with
  | .ref n => match m1[n]? with
    | some (.lst _) => bd (a ρ m1) fun ys m2 => match m2[n]? with
      | some (.lst ds) => (F m2 ds ys).map fun r => (r.1, m2.set n (.lst r.2))
      | _ => none
    | _ => none
  | _ => none
theorem rfl_app : RfLm g rAppend (fun _ => appL) := by
  intro T H m l xs ds ys vs d es hm hl rd ry hf Q k
  change appL ds ys = some (d, es) at hf
  unfold appL at hf
  split at hf
  · obtain ⟨hz, hf⟩ := ite_some hf
    cases hf
    cases ry with
    | cons r1 r2 => cases r2; exact ⟨l, xs, _, rfl, rfl, hl, by rw [← rd.length]; exact hz, k _ _ (rd.append (.cons r1 .nil)) .non⟩
  · cases hf
theorem RepL.last {ds : List D} {vs : List V} {d : D} (r : RepL g T H ds vs) (h : ds.getLast? = some d) : ∃ v, vs[vs.length - 1]? = some v ∧ Rep g T H d v := by
  rw [List.getLast?_eq_getElem?] at h
  obtain ⟨v, e, q⟩ := r.get h
  rw [r.length] at e
  exact ⟨v, e, q⟩
theorem RepL.dropLast {ds : List D} {vs : List V} (r : RepL g T H ds vs) : RepL g T H ds.dropLast vs.dropLast := by
  rw [List.dropLast_eq_take, List.dropLast_eq_take, r.length]
  exact r.take _
theorem rfl_pop : RfLm g rPop (fun _ => popL) := by
  intro T H m l xs ds ys vs d es hm hl rd ry hf Q k
  change popL ds ys = some (d, es) at hf
  unfold popL at hf
  split at hf
  · split at hf
    · next h =>
      cases hf
      cases ry
      obtain ⟨v, e, q⟩ := rd.last h
      exact ⟨l, xs, v, rfl, rfl, hl, e, k _ _ rd.dropLast q⟩
    · cases hf
  · cases hf
theorem de_lm {name : Str} {id : String} {r : V → List V → Hp → VK → Prop} {F : M → List D → List D → Option (D × List D)} {fo : EF} {f : AF} (slot : Slot "list" name id) (hty : typeOf (.builtin id) = pure (.type "method_descriptor")) (hm : MtR X id r) (hr : RfLm (gx X) r F) (ho : DE X o fo) (ha : DA X (e :: es) f)
    (hbase : attributeBase o name X.env (eval o X.env) = eval o X.env := by rfl)
    (hfew : ((backTo pos (starEach (e :: es) X.env)).all (fun x => !x.1) && (backToKw pos (keywordEach [] X.env)).all (fun x => x.1.isSome)
      && decide ((e :: es).length + ([] : List Keyword).length + (if ([] : List Keyword).isEmpty then 0 else 1) < 30)) = true := by rfl)
    (hline : (apos.endLine == pos.line) = true := by rfl) (hs : starEach (e :: es) X.env = (false, eval e X.env) :: starEach es X.env := by rfl) (hplain : (backTo pos (starEach es X.env)).any (·.1) = false := by rfl) :
    DE X (.Call (.Attribute o name apos) (e :: es) [] pos) (eLm0 F fo f) := by
  obtain ⟨to, po, ro⟩ := ho.ex; obtain ⟨t, pa, ra⟩ := ha.ex
  exact ⟨_, pe_bm PySem.F.plainAttrs_list slot hty hm po pa hbase hfew hline hs hplain, rf_lm hr ro ra fun _ _ => rfl⟩
theorem de_lm0 {name : Str} {id : String} {r : V → List V → Hp → VK → Prop} {F : M → List D → List D → Option (D × List D)} {fo : EF} (slot : Slot "list" name id) (hty : typeOf (.builtin id) = pure (.type "method_descriptor")) (hm : MtR X id r) (hr : RfLm (gx X) r F) (ho : DE X o fo)
    (hbase : attributeBase o name X.env (eval o X.env) = eval o X.env := by rfl) (hline : (apos.endLine == pos.line) = true := by rfl) : DE X (.Call (.Attribute o name apos) [] [] pos) (eLm0 F fo aNil) := by
  obtain ⟨to, po, ro⟩ := ho.ex
  refine ⟨_, pe_bm0 PySem.F.plainAttrs_list slot hty hm po hbase hline, fun T σ H ρ m d m' hm hs hf Q k => ?_⟩
  exact rf_lm hr ro rf_nil (fun _ _ => rfl) T σ H ρ m d m' hm hs hf Q k
theorem de_append {fo : EF} {f : AF} (ho : DE X o fo) (ha : DA X [e] f) (hbase : attributeBase o "append" X.env (eval o X.env) = eval o X.env := by rfl) (hline : (apos.endLine == pos.line) = true := by rfl) (hs : starEach [e] X.env = [(false, eval e X.env)] := by rfl)
    (hfew : ((backTo pos (starEach [e] X.env)).all (fun x => !x.1) && (backToKw pos (keywordEach [] X.env)).all (fun x => x.1.isSome) && decide ([e].length + ([] : List Keyword).length + (if ([] : List Keyword).isEmpty then 0 else 1) < 30)) = true := by rfl) :
    DE X (.Call (.Attribute o "append" apos) [e] [] pos) (eLm0 (fun _ => appL) fo f) := de_lm PySem.F.slot_list_append PySem.F.type_list_append mt_append rfl_app ho ha hbase hfew hline hs rfl
theorem de_pop {fo : EF} (ho : DE X o fo) (hbase : attributeBase o "pop" X.env (eval o X.env) = eval o X.env := by rfl) (hline : (apos.endLine == pos.line) = true := by rfl) :
    DE X (.Call (.Attribute o "pop" apos) [] [] pos) (eLm0 (fun _ => popL) fo aNil) := de_lm0 PySem.F.slot_list_pop PySem.F.type_list_pop mt_pop rfl_pop ho hbase hline
theorem RepL.setAt {ds : List D} {vs : List V} {d : D} {v : V} {j : Nat} (r : RepL g T H ds vs) (q : Rep g T H d v) : RepL g T H (ds.set j d) (vs.set j v) := by
  induction j generalizing ds vs with
  | zero => cases r with
    | nil => exact .nil
    | cons _ s => exact .cons q s
  | succ j ih => cases r with
    | nil => exact .nil
    | cons a s => exact .cons a (ih s)
end
end L4
namespace L4
open PySem L2
section
variable {X : Cx} {g : G} {T T' : Tk} {H : Hp} {m : M} {Q : VK} {pos p apos : Pos} {e o : Expr} {es : List Expr} {k n : Nat} {x c nm : Str}
theorem Gd.blk {s : Shared} {H : Hp} {sc : Scope} {ev : Env} {fp : List Addr} (h : Gd k X) : Gd k (X.blk s H sc ev fp) := ⟨h.g, h.r⟩
theorem de_callB {id : String} {F : M → List D → Option D} {f : AF} (hc : CallD X (.builtin id) F) (hg : Gl X x) (hm : X.mg x = none) (hv : bootBuiltins x = some (.builtin id)) (ha : DA X (e :: es) f) (hn : x ≠ "__name__" := by decide) (hdb : (x == ("__debug__" : Str)) = false := by decide)
    (he : starEach (e :: es) X.env = (false, eval e X.env) :: starEach es X.env := by rfl) (hpl : (backTo pos (starEach es X.env)).any (·.1) = false := by rfl) : DE X (.Call (.Name x p) (e :: es) [] pos) (eCall F f) := by
  obtain ⟨r, h, q⟩ := hc.ex; obtain ⟨t, pa, ra⟩ := ha.ex
  exact ⟨_, pe_callB h hg hm hv pa hn hdb he hpl, rf_call q ra⟩
theorem de_callT {id : String} {F : M → List D → Option D} {f : AF} (hc : CallD X (.type id) F) (hg : Gl X x) (hm : X.mg x = none) (hv : bootBuiltins x = some (.type id)) (ha : DA X (e :: es) f) (hn : x ≠ "__name__" := by decide) (hdb : (x == ("__debug__" : Str)) = false := by decide)
    (he : starEach (e :: es) X.env = (false, eval e X.env) :: starEach es X.env := by rfl) (hpl : (backTo pos (starEach es X.env)).any (·.1) = false := by rfl) : DE X (.Call (.Name x p) (e :: es) [] pos) (eCall F f) := by
  obtain ⟨r, h, q⟩ := hc.ex; obtain ⟨t, pa, ra⟩ := ha.ex
  exact ⟨_, pe_callTy h hg hm hv pa hn hdb he hpl, rf_call q ra⟩
theorem orC {F : Value} {r q : List V → Hp → VK → Prop} (h1 : CallR X F r) (h2 : CallR X F q) : CallR X F (fun x H Q => r x H Q ∨ q x H Q) := by
  intro pins s σ H xs us Q I rx h
  rcases h with h | h
  · exact h1 pins s σ H xs us Q I rx h
  · exact h2 pins s σ H xs us Q I rx h
theorem RepL.one {d : D} {vs : List V} (r : RepL g T H [d] vs) : ∃ v, vs = [v] ∧ Rep g T H d v := by
  cases r with
  | cons r s => cases s; exact ⟨_, rfl, r⟩
theorem RepL.two {d e : D} {vs : List V} (r : RepL g T H [d, e] vs) : ∃ v w, vs = [v, w] ∧ Rep g T H d v ∧ Rep g T H e w := by
  cases r with
  | cons r s => obtain ⟨w, rfl, q⟩ := s.one; exact ⟨_, _, rfl, r, q⟩
def absD : M → List D → Option D
  | _, [.int i] => some (.int (if i < 0 then -i else i))
  | _, _ => none
theorem call_abs' : CallD X (.builtin "abs") absD := ⟨_, call_abs, fun T H m xs vs d hm r hf Q k => by
  unfold absD at hf; split at hf
  · cases hf; obtain ⟨v, rfl, q⟩ := r.one; cases q; exact ⟨_, rfl, k.now hm (.int _)⟩
  · cases hf⟩
def min2D : M → List D → Option D
  | _, [.int i, .int j] => some (.int (if j < i then j else i))
  | _, _ => none
def max2D : M → List D → Option D
  | _, [.int i, .int j] => some (.int (if j > i then j else i))
  | _, _ => none
def intD : M → List D → Option D
  | _, [.int i] => some (.int i)
  | _, [.bl b] => some (.int (if b then 1 else 0))
  | _, [.str a] => if a.length ≤ 640 then (PySem.intText? a).map .int else none
  | _, _ => none
theorem call_int' : CallD X (.type "int") intD := ⟨_, orC call_int1 call_int_str, fun T H m xs vs d hm r hf Q k => by
  unfold intD at hf; split at hf
  · cases hf; obtain ⟨v, rfl, q⟩ := r.one; cases q; exact .inl (.inl ⟨_, rfl, k.now hm (.int _)⟩)
  · cases hf; obtain ⟨v, rfl, q⟩ := r.one; cases q; exact .inl (.inr ⟨_, rfl, k.now hm (.int _)⟩)
  · obtain ⟨hz, hf⟩ := ite_some hf
    obtain ⟨n, hn, rfl⟩ := Option.map_eq_some_iff.mp hf
    obtain ⟨v, rfl, q⟩ := r.one; cases q; exact .inr ⟨_, n, rfl, hn, hz, k.now hm (.int _)⟩
  · cases hf⟩
def lenD : M → List D → Option D
  | _, [.tup ds] => some (.int ds.length)
  | _, [.str a] => if a.length ≤ sizeLine then some (.int a.length) else none
  | m, [x] => (lstR m x).map fun ds => .int ds.length
  | _, _ => none
theorem call_len' : CallD X (.builtin "len") lenD := ⟨_, call_len, fun T H m xs vs d hm r hf Q k => by
  unfold lenD at hf; split at hf
  · cases hf; obtain ⟨v, rfl, q⟩ := r.one
    obtain ⟨a, ws, rfl, hx, rl⟩ := tup_rep q
    exact ⟨_, _, rfl, .inr ⟨ws, hx, rl.length⟩, k.now hm (.int _)⟩
  · obtain ⟨hz, hf⟩ := ite_some hf
    cases hf; obtain ⟨v, rfl, q⟩ := r.one; cases q; exact ⟨_, _, rfl, ⟨hz, rfl⟩, k.now hm (.int _)⟩
  · obtain ⟨ds, h1, rfl⟩ := Option.map_eq_some_iff.mp hf
    obtain ⟨v, rfl, q⟩ := r.one
    obtain ⟨a, ws, rfl, hx, rl⟩ := lstR_rep hm q h1
    exact ⟨_, _, rfl, .inl ⟨ws, hx, rl.length⟩, k.now hm (.int _)⟩
  · cases hf⟩
def strD : M → List D → Option D
  | _, [.int i] => if i.natAbs.log2 < 1920 then some (.str (toString i)) else none
  | _, _ => none
def tupD : M → List D → Option D
  | _, [.tup ds] => some (.tup ds)
  | m, [x] => (lstR m x).map .tup
  | _, _ => none
theorem call_tup' : CallD X (.type "tuple") tupD := ⟨_, call_tuple_of, fun T H m xs vs d hm r hf Q k => by
  unfold tupD at hf; split at hf
  · cases hf; obtain ⟨v, rfl, q⟩ := r.one
    obtain ⟨a, ws, rfl, hx, rl⟩ := tup_rep q
    exact ⟨a, ws, rfl, .inr ⟨hx, k.now hm q⟩⟩
  · obtain ⟨ds, h1, rfl⟩ := Option.map_eq_some_iff.mp hf
    obtain ⟨v, rfl, q⟩ := r.one
    obtain ⟨a, ws, rfl, hx, rl⟩ := lstR_rep hm q h1
    exact ⟨a, ws, rfl, .inl ⟨hx, fun l hl => k.tup hm rl l hl⟩⟩
  · cases hf⟩
def lisD : M → List D → Option D
  | _, [.tup ds] => some (.lst ds)
  | m, [x] => (lstR m x).map .lst
  | _, _ => none
/-- list(x) that is changed behind it -/
def eLisN (a : EF) : EF := fun ρ m => bd (a ρ m) fun x m1 => match lisD m1 [x] with
  | some (.lst ds) => some (.ref m1.length, m1 ++ [.lst ds])
  | _ => none
theorem de_lisN {f : EF} (hg : Gl X "list") (hm : X.mg "list" = none) (ha : DE X e f) (he : starEach [e] X.env = (false, eval e X.env) :: starEach [] X.env := by rfl) : DE X (.Call (.Name "list" p) [e] [] pos) (eLisN f) := by
  obtain ⟨t, pa, ra⟩ := ha.ex
  refine ⟨_, pe_callTy call_list_of hg hm (by decide +kernel) (pa_cons pa pa_nil he) (by decide) (by decide) he rfl, fun T σ H ρ m d m' hm hs hf Q k => ?_⟩
  obtain ⟨x, m1, e1, hf⟩ := bd_some hf
  refine ra T σ H ρ m x m1 hm hs e1 _ fun v T1 H1 l1 hm1 r1 => ?_
  split at hf
  · next ds h =>
    cases hf
    unfold lisD at h
    split at h
    · next h2 =>
      cases h; cases h2
      obtain ⟨a, ws, rfl, hx, rl⟩ := tup_rep r1
      exact ⟨a, ws, rfl, .inr hx, fun l hl => (k.le l1).newL hm1 rl l hl⟩
    · next h2 =>
      cases h2
      obtain ⟨es, h3, h4⟩ := Option.map_eq_some_iff.mp h
      cases h4
      obtain ⟨a, ws, rfl, hx, rl⟩ := lstR_rep hm1 r1 h3
      exact ⟨a, ws, rfl, .inl hx, fun l hl => (k.le l1).newL hm1 rl l hl⟩
    · cases h
  · cases hf
def tyO : O → Option String
  | .lst _ => some "list"
  | _ => none
def tyName (m : M) : D → Option String
  | .non => some "NoneType"
  | .bl _ => some "bool"
  | .int _ => some "int"
  | .str _ => some "str"
  | .tup _ => some "tuple"
  | .lst _ => some "list"
  | .scr _ => some "list"
  | .ref n => (m[n]?).bind tyO
  | _ => none
def isiB (t c : String) : Bool := t == c || (t == "bool" && c == "int")
def kinds : List String := ["int", "bool", "str", "tuple", "list"]
def isiD : M → List D → Option D
  | m, [x, .ty c] => if kinds.contains c then (tyName m x).map fun t => .bl (isiB t c) else none
  | m, [x, .tup [.ty c, .ty c']] => if kinds.contains c && kinds.contains c' then (tyName m x).map fun t => .bl (isiB t c || isiB t c') else none
  | _, _ => none
/-- isinstance(x, (c1, c2)), the tuple in the heap, known or not -/
def rIsiR (K : PySem.W.Frag) : List V → Hp → VK → Prop := fun xs H Q => ∃ (x : V) (tp : Addr) (cs : List V) (t : Value) (us : List Value) (b : Bool), xs = [x, .ref tp] ∧ Rd H tp (.tup cs) ∧ Paired ClsV cs us ∧ TyX K H x t ∧ PySem.W.kitAny K t us = some b ∧ Q (.bl b) H
theorem call_isiR : CallR X (.builtin "isinstance") (rIsiR X.K) := fun pins s σ H xs us Q I r h => by
  obtain ⟨x, tp, cs, t, ws, b, rfl, hT, k, ty, e, q⟩ := h
  obtain ⟨u1, u2, rfl, r1, r2⟩ := vals2 r
  cases r2
  obtain ⟨Pz, Z, pz, hx⟩ := kit_of I r1 ty
  obtain ⟨_, its, rv, ⟨_, _, _, _⟩, h1, h2, n, h3⟩ := hT.ok I.hok
  cases h2; cases h3
  rw [ClsV.all k rv] at h1
  exact PySem.W.kia_tup Z I.kIn pz h1 e hx fun tk => ⟨.bl b, H, I.tok tk, rfl, q⟩
theorem tyX_of {d : D} {v : V} {t : String} (hm : RepH g T H m) (r : Rep g T H d v) (h : tyName m d = some t) : TyX g.K H v (.type t) := by
  cases r with
  | non => cases h; exact .base .non
  | bl b => cases h; exact .base (.bl b)
  | int b => cases h; exact .base (.int b)
  | str b => cases h; exact .base (.str b)
  | tup f _ =>
    cases h
    rcases f with ⟨_, f | ⟨_, f⟩⟩ | f
    · exact .base (.tup f)
    · exact .fTuple f
    · rcases f with (f | ⟨_, f⟩) | ⟨o, its, n, h1, h2, _⟩
      · cases f
      · cases f
      · exact .kTuple h1 h2
  | lst f _ => cases h; exact .base (.lst f.2)
  | scr f _ =>
    cases h
    rcases f with ⟨_, o, f⟩ | f
    · exact .base (.frz f)
    · rcases f with (f | ⟨_, f⟩) | ⟨o, its, n, h1, h2, _⟩
      · cases f
      · cases f
      · exact .kList h1 h2
  | ref e =>
    obtain ⟨o, h1, h2⟩ := Option.bind_eq_some_iff.mp h
    cases hm.at_ _ _ _ e h1 with
    | lst f r => cases h2; exact .base (.lst f)
    | _ => cases h2
  | _ => cases h
theorem tyO_lst {o : O} {t : String} (h : tyO o = some t) : t = "list" := by
  cases o with
  | lst ds => cases h; rfl
  | _ => cases h
theorem tyName_mem {d : D} {t : String} (h : tyName m d = some t) : t ∈ ["NoneType", "bool", "int", "str", "tuple", "list"] := by
  cases d with
  | ref n =>
    obtain ⟨o, h1, h2⟩ := Option.bind_eq_some_iff.mp h
    rw [tyO_lst h2]
    decide
  | non => cases h; decide
  | bl b => cases h; decide
  | int b => cases h; decide
  | str b => cases h; decide
  | tup b => cases h; decide
  | lst b => cases h; decide
  | scr b => cases h; decide
  | _ => cases h
theorem kit_isi : ∀ t ∈ ["NoneType", "bool", "int", "str", "tuple", "list"], ∀ c ∈ kinds, kitB t c = some (isiB t c) := by decide +kernel
theorem call_isi' : CallD X (.builtin "isinstance") isiD := ⟨_, orC call_isi (orC call_isiR call_isiK), fun T H m xs vs d hm r hf Q k => by
  unfold isiD at hf; split at hf
  · next y c =>
    obtain ⟨hc, hf⟩ := ite_some hf
    obtain ⟨t, h1, rfl⟩ := Option.map_eq_some_iff.mp hf
    obtain ⟨v, w, rfl, q1, q2⟩ := r.two
    cases q2
    exact .inl ⟨_, _, _, _, _, rfl, .ty _, tyX_of hm q1 h1, kit_ty (kit_isi t (tyName_mem h1) c (by simpa using hc)), k.now hm (.bl _)⟩
  · next y c c' =>
    obtain ⟨hc, hf⟩ := ite_some hf
    obtain ⟨t, h1, rfl⟩ := Option.map_eq_some_iff.mp hf
    obtain ⟨v, w, rfl, q1, q2⟩ := r.two
    obtain ⟨hc1, hc2⟩ := and2 hc
    have k1 := kit_isi t (tyName_mem h1) c (by simpa using hc1)
    have k2 := kit_isi t (tyName_mem h1) c' (by simpa using hc2)
    cases q2 with
    | tup f rl =>
      obtain ⟨v1, v2, rfl, z1, z2⟩ := rl.two
      cases z1; cases z2
      have key : PySem.W.kitAny X.K (.type t) [.type c, .type c'] = some (isiB t c || isiB t c') := by
        unfold PySem.W.kitAny
        rw [kit_ty k1]
        cases h2 : isiB t c with
        | true => rfl
        | false =>
          show PySem.W.kitAny _ _ _ = _
          unfold PySem.W.kitAny
          rw [kit_ty k2]
          cases h3 : isiB t c' <;> rfl
      rcases f with ⟨_, f⟩ | f
      · exact .inr (.inl ⟨_, _, _, _, _, _, rfl, f, .cons (.ty _) (.cons (.ty _) .nil), tyX_of hm q1 h1, key, k.now hm (.bl _)⟩)
      · rcases f with (f | ⟨_, f⟩) | ⟨⟨cl, dd, dt, sl⟩, its, n, h5, h6, h7, _, h8⟩
        · cases f
        · cases f
        · simp only at h6 h7
          subst h6 h7
          have e : its = #[.type c, .type c'] := by
            cases hi : its.toList with
            | nil => rw [hi] at h8; cases h8
            | cons a b =>
              rw [hi] at h8
              cases h8 with
              | cons y1 y2 =>
                cases y2 with
                | cons y3 y4 =>
                  cases y4
                  cases (show a = Value.type c from y1)
                  cases (show _ = Value.type c' from y3)
                  exact Array.ext' hi
          subst e
          exact .inr (.inr ⟨_, _, dd, [.type c, .type c'], n, sl, _, _, rfl, h5, tyX_of hm q1 h1, key, k.now hm (.bl _)⟩)
  · cases hf⟩
theorem de_ty {t : String} (hg : Gl X x) (hm : X.mg x = none) (hv : bootBuiltins x = some (.type t)) (hn : x ≠ "__name__" := by decide) (hd : (x == ("__debug__" : Str)) = false := by decide) : DE X (.Name x pos) (eC (.ty t)) :=
  ⟨_, pe_bltn (v := .ty t) hg hm hv rfl hn hd, rf_c fun _ _ => .ty t⟩
/-- a tuple of the top -/
theorem de_gtup {ds : List D} {vs : List V} (hg : Gl X x) (hm : X.mg x = some (.ref (He.ga X.K x))) (h : ∀ H, SqT X.K H (He.ga X.K x) vs) (hr : ∀ T H, RepL (gx X) T H ds vs) (hd : (x == ("__debug__" : Str)) = false := by decide) : DE X (.Name x pos) (eC (.tup ds)) :=
  ⟨_, pe_glob (v := .ref (He.ga X.K x)) hg hm rfl hd, rf_c fun T H => .tup (.inr (h _)) (hr T H)⟩
theorem de_gstr {v : Str} (hg : Gl X x) (hm : ∃ t, X.mg x = some (.str v t)) (hd : (x == ("__debug__" : Str)) = false := by decide) : DE X (.Name x pos) (eC (.str v)) := by
  obtain ⟨t, hm⟩ := hm
  exact ⟨_, pe_glob (v := .str v) hg hm ⟨t, rfl⟩ hd, rf_c fun T H => .str v⟩
def eM1 (F : M → D → D → Option D) (a b : EF) : EF := fun ρ m => bd (a ρ m) fun x m1 => match x with
  | .str z => bd (b ρ m1) fun y m2 => pu (F m2 (.str z) y) m2
  | _ => none
theorem rf_m1 {r : V → List V → Hp → VK → Prop} {F : M → D → D → Option D} {ta tb : TE} {a b : EF} (hr : ∀ T H m z y u d, RepH g T H m → Rep g T H y u → F m (.str z) y = some d → ∀ Q, KV g T H m d Q → r (.str z) [u] H Q) (ha : RfE g ta a) (hb : RfE g tb b) : RfE g (tM1 r ta tb) (eM1 F a b) := by
  intro T σ H ρ m d m' hm hs hf Q k
  obtain ⟨x, m1, e1, hf1⟩ := bd_some hf
  refine ha T σ H ρ m x m1 hm hs e1 _ fun v T1 H1 l1 hm1 r1 => ?_
  clear hf
  cases r1 with
  | str z =>
    obtain ⟨y, m2, e2, hf⟩ := bd_some hf1
    obtain ⟨e3, rfl⟩ := pu_some hf
    refine ⟨⟨z, rfl⟩, hb T1 σ H1 ρ m1 y _ hm1 (hs.le l1) e2 _ fun u T2 H2 l2 hm2 r2 => ?_⟩
    exact hr T2 H2 _ z y u d hm2 r2 e3 Q (k.le (l1.trans l2))
  | _ => cases hf1
def spl1 (c : Nat) : List Nat → List (List Nat)
  | [] => [[]]
  | x :: xs => if x = c then [] :: spl1 c xs else match spl1 c xs with
    | w :: ws => (x :: w) :: ws
    | [] => [[x]]
theorem spl1_ne (c : Nat) : ∀ l : List Nat, ∃ w ws, spl1 c l = w :: ws
  | [] => ⟨_, _, rfl⟩
  | x :: xs => by
    obtain ⟨w, ws, e⟩ := spl1_ne c xs
    simp only [spl1, e]
    split <;> exact ⟨_, _, rfl⟩
theorem spl_one (c : Nat) : ∀ (l acc w : List Nat) (ws : List (List Nat)), spl1 c l = w :: ws → TL.spl [c] 0 acc l = (acc ++ w) :: ws
  | [], acc, w, ws, h => by cases h; simp [TL.spl]
  | x :: xs, acc, w, ws, h => by
    obtain ⟨v, vs, e⟩ := spl1_ne c xs
    simp only [spl1, e] at h
    by_cases hx : x = c
    · rw [if_pos hx] at h
      cases h
      have hp : TL.pre [c] (x :: xs) = true := by simp [TL.pre, hx]
      simp only [TL.spl, hp, if_true, List.length_singleton, Nat.sub_self, List.append_nil]
      rw [spl_one c xs [] v vs e]
      simp
    · rw [if_neg hx] at h
      cases h
      have hp : TL.pre [c] (x :: xs) = false := by simp [TL.pre]; exact fun z => hx (by first | exact z | exact z.symm)
      simp only [TL.spl, hp, Bool.false_eq_true, if_false]
      rw [spl_one c xs _ _ _ e]
      simp
def splitS (a : Str) (c : Nat) : List Str := (spl1 c a.cps.toList).map fun l => ⟨l.toArray⟩
theorem splitS_eq {a : Str} {c : Nat} (hc : c < 256) : Txt.split a ⟨#[c]⟩ = splitS a c := by
  obtain ⟨w, ws, e⟩ := spl1_ne c a.cps.toList
  have h := SX.split_S (a := a.cps.toList) (b := [c]) (by simp) (by simpa using hc)
  rw [spl_one c _ [] w ws e] at h
  unfold splitS
  rw [e]
  have ea : (SX.S a.cps.toList : Str) = a := by cases a; rfl
  rw [ea] at h
  simpa using h
def splitD : M → D → D → Option D
  | _, .str a, .str b => match b.cps.toList with
    | [c] => if c < 256 ∧ a.length + 2 ≤ sizeLine then some (.lst ((splitS a c).map .str)) else none
    | _ => none
  | _, _, _ => none
theorem repL_strs (ys : List Str) : RepL g T H (ys.map .str) (ys.map V.str) := by
  induction ys with
  | nil => exact .nil
  | cons y ys ih => exact .cons (.str y) ih
theorem de_split {fo fe : EF} (ho : DE X o fo) (he : DE X e fe) (hs : starEach [e] X.env = [(false, eval e X.env)] := by rfl) (hbase : attributeBase o "split" X.env (eval o X.env) = eval o X.env := by rfl) (hline : (apos.endLine == pos.line) = true := by rfl) :
    DE X (.Call (.Attribute o "split" apos) [e] [] pos) (eM1 splitD fo fe) := by
  obtain ⟨to, po, ro⟩ := ho.ex; obtain ⟨te, pe, re⟩ := he.ex
  refine ⟨_, pe_split po pe hs hbase hline, rf_m1 (fun T H m z y u d hm ry hf Q k => ?_) ro re⟩
  cases ry with
  | str b =>
    change (match b.cps.toList with
      | [c] => if c < 256 ∧ z.length + 2 ≤ sizeLine then some (.lst ((splitS z c).map .str)) else none
      | _ => none) = some d at hf
    split at hf
    · next c hc =>
      obtain ⟨⟨h1, h2⟩, hf⟩ := ite_some hf
      cases hf
      have eb := sign_of hc
      subst eb
      exact ⟨z, _, rfl, rfl, rfl, h2, fun p hp => by rw [splitS_eq h1]; exact k.lst hm (repL_strs _) p hp⟩
    · cases hf
  | _ => cases hf
def seqD (m : M) : D → Option (List D)
  | .tup ds => some ds
  | y => lstR m y
theorem seq_rep {d : D} {v : V} {ds : List D} (hm : RepH g T H m) (r : Rep g T H d v) (h : seqD m d = some ds) : ∃ a vs, v = .ref a ∧ (SqL g.K H a vs ∨ SqT g.K H a vs) ∧ RepL g T H ds vs := by
  unfold seqD at h
  split at h
  · cases h
    obtain ⟨a, ws, rfl, hx, rl⟩ := tup_rep r
    exact ⟨a, ws, rfl, .inr hx, rl⟩
  · obtain ⟨a, ws, rfl, hx, rl⟩ := lstR_rep hm r h
    exact ⟨a, ws, rfl, .inl hx, rl⟩
def joinT (a : Str) (ys : List Str) : Str := ⟨(TL.joinL a.cps.toList (ys.map fun y => y.cps.toList)).toArray⟩
def sPar (is : List Nat) (a : AF) : SF := fun ρ m => bd (a ρ m) fun xs m1 => if xs.length = is.length then some (.nx (setMany ρ is xs), m1) else none
theorem ds_par {i j : Nat} {x y : Str} {a b : Expr} {f : AF} {px py pt : Pos} {kt k2 pt2} (hc : X.calm = true) (hN : X.N.Nodup) (hi : X.N[i]? = some x) (hj : X.N[j]? = some y) (hij : i ≠ j)
    (hx : X.env.scope.names.lookup x = some .local) (hy : X.env.scope.names.lookup y = some .local) (ha : DA X [a, b] f)
    (hw : swappedStores [.Tuple [.Name x px, .Name y py] kt pt] (.Tuple [a, b] k2 pt2) X.env = pure (some [x, y]))
    (hs : swapsWithSole [.Tuple [.Name x px, .Name y py] kt pt] (.Tuple [a, b] k2 pt2) pos.line X.env = pure false := by rfl) : DS X (.Assign [.Tuple [.Name x px, .Name y py] kt pt] (.Tuple [a, b] k2 pt2) pos) (sPar [i, j] f) := by
  obtain ⟨t, pa, ra⟩ := ha.ex
  refine ⟨_, ps_par hc hN hi hj hij hx hy pa hw hs, fun T σ H ρ m d m' hm hs hf D k => ?_⟩
  obtain ⟨xs, m1, e1, hf⟩ := bd_some hf
  obtain ⟨hl, hf⟩ := ite_some hf
  cases hf
  refine ra T σ H ρ m xs _ hm hs e1 _ fun vs T1 H1 l1 hm1 r1 => ?_
  match xs, hl, r1 with
  | [d1, d2], _, r1 =>
    obtain ⟨v, w, rfl, q1, q2⟩ := r1.two
    exact ⟨v, w, rfl, k _ T1 H1 l1 hm1 (((hs.le l1).set q1).set q2)⟩
def eChain (f h : M → D → D → Option D) (a b c : EF) : EF := fun ρ m => bd (a ρ m) fun x m1 => bd (b ρ m1) fun y m2 => match f m2 x y with
  | some (.bl true) => bd (c ρ m2) fun z m3 => pu (h m3 y z) m3
  | some (.bl false) => some (.bl false, m2)
  | _ => none
theorem rf_chain {r r' : R2} {f h : M → D → D → Option D} {ta tb tc : TE} {a b c : EF} (h1 : RfO g r f) (h2 : RfO g r' h) (ha : RfE g ta a) (hb : RfE g tb b) (hc : RfE g tc c) : RfE g (tChain r r' ta tb tc) (eChain f h a b c) := by
  intro T σ H ρ m d m' hm hs hf Q k
  obtain ⟨x, m1, e1, hf1⟩ := bd_some hf
  obtain ⟨y, m2, e2, hf2⟩ := bd_some hf1
  clear hf hf1
  refine ha T σ H ρ m x m1 hm hs e1 _ fun v T1 H1 l1 hm1 r1 => ?_
  refine hb T1 σ H1 ρ m1 y m2 hm1 (hs.le l1) e2 _ fun u T2 H2 l2 hm2 r2 => ?_
  split at hf2
  · next hq =>
    obtain ⟨z, m3, e3, hf3⟩ := bd_some hf2
    obtain ⟨e4, e5⟩ := pu_some hf3
    subst e5
    refine h1 T2 H2 m2 x y v u _ hm2 (r1.le l2) r2 hq _ fun w T3 H3 l3 hm3 r3 => ?_
    cases r3
    refine ⟨true, rfl, ?_⟩
    rw [if_pos rfl]
    refine hc T3 σ H3 ρ m2 z _ hm3 (hs.le (l1.trans (l2.trans l3))) e3 _ fun w T4 H4 l4 hm4 r4 => ?_
    exact h2 T4 H4 _ y z u w d hm4 (r2.le (l3.trans l4)) r4 e4 Q (k.le (l1.trans (l2.trans (l3.trans l4))))
  · next hq =>
    cases hf2
    refine h1 T2 H2 _ x y v u _ hm2 (r1.le l2) r2 hq _ fun w T3 H3 l3 hm3 r3 => ?_
    cases r3
    exact ⟨false, rfl, by rw [if_neg Bool.false_ne_true]; exact k _ T3 H3 (l1.trans (l2.trans l3)) hm3 (.bl _)⟩
  · cases hf2
theorem dt_chain {op op' : CmpOp} {f h : M → D → D → Option D} {a b c : Expr} {fa fb fc : EF} (ho : OpD X (compareOp op) f) (ho' : OpD X (compareOp op') h) (ha : DE X a fa) (hb : DE X b fb) (hc : DE X c fc)
    (hm : lastMarks [op, op'] [b, c] = false := by with_unfolding_all rfl) : DT X (.Compare a [op, op'] [b, c] pos) (tVal (eChain f h fa fb fc)) := by
  obtain ⟨r, h1, q1⟩ := ho.ex; obtain ⟨r', h2, q2⟩ := ho'.ex; obtain ⟨ta, pa, ra⟩ := ha.ex; obtain ⟨tb, pb, rb⟩ := hb.ex; obtain ⟨tc, pc, rc⟩ := hc.ex
  exact ⟨_, pt_chain h1 h2 pa pb pc hm, rf_test (rf_chain q1 q2 ra rb rc)⟩
def aStar (a : EF) (r : AF) : AF := fun ρ m => bd (a ρ m) fun x m1 => match seqD m1 x with
  | some ds => bd (r ρ m1) fun ys m2 => some (ds ++ ys, m2)
  | none => none
theorem da_star {f : EF} {fr : AF} (he : DE X e f) (hr : DA X es fr) (hs : starEach (.Starred e p :: es) X.env = (true, eval e X.env) :: starEach es X.env := by rfl) : DA X (.Starred e p :: es) (aStar f fr) := by
  obtain ⟨te, pe, re⟩ := he.ex; obtain ⟨tr, pr, rr⟩ := hr.ex
  refine ⟨_, StX.pa_star pe pr hs, fun T σ H ρ m d m' hm hs hf Q k => ?_⟩
  obtain ⟨x, m1, e1, hf1⟩ := bd_some hf
  clear hf
  refine re T σ H ρ m x m1 hm hs e1 _ fun v T1 H1 l1 hm1 r1 => ?_
  split at hf1
  · next ds hd =>
    obtain ⟨ys, m2, e2, hf2⟩ := bd_some hf1
    cases hf2
    obtain ⟨a, ws, rfl, hx, rl⟩ := seq_rep hm1 r1 hd
    exact ⟨a, ws, rfl, hx.symm, rr T1 σ H1 ρ m1 ys _ hm1 (hs.le l1) e2 _ fun vs T2 H2 l2 hm2 r2 => k _ T2 H2 (l1.trans l2) hm2 ((rl.le l2).append r2)⟩
  · cases hf1
/-- a statement that is never come to -/
def sNo : SF := fun _ _ => none
theorem ds_never {s : Stmt} : DS X s sNo := ⟨_, ps_never, fun T σ H ρ m d m' hm hs hf D k => by cases hf⟩
end
end L4
namespace L4
open PySem L2
section
variable {X : Cx} {g : G} {T T' : Tk} {H : Hp} {m : M} {Q : VK} {pos p apos : Pos} {e o : Expr} {es : List Expr} {k n : Nat} {x c nm : Str}
theorem dv (i : Nat) {x : Str} {pos : Pos} (hN : X.N[i]? = some x := by rfl) (hv : Vis X.env.scope x := by first | exact Or.inl rfl | exact Or.inr (Or.inl rfl) | exact Or.inr (Or.inr rfl)) (hd : (x == ("__debug__" : Str)) = false := by decide)
    (hcd : (x == ("__classdict__" : Str)) = false := by decide) : DE X (.Name x pos) (eVar i) := de_var hN hv hd hcd
def big : Nat := 1000000
def sAug (i : Nat) (f : M → D → D → Option D) (a : EF) : SF := fun ρ m => match ρ.getD i none with
  | some x => bd (a ρ m) fun y m1 => bd (pu (f m1 x y) m1) fun z m2 => some (.nx (ρ.set i (some z)), m2)
  | none => none
def bools : List D → Option (List Bool)
  | [] => some []
  | .bl b :: ds => (bools ds).map (b :: ·)
  | _ => none
theorem bools_rep : ∀ {ds : List D} {bs : List Bool} {vs : List V}, bools ds = some bs → RepL g T H ds vs → vs = bs.map V.bl
  | [], _, _, h, r => by cases h; cases r; rfl
  | .bl x :: ds, _, _, h, r => by
    obtain ⟨ys, h1, rfl⟩ := Option.map_eq_some_iff.mp h
    cases r with
    | cons a s => cases a; rw [bools_rep h1 s]; rfl
  | .non :: _, _, _, h, _ => by cases h
  | .str _ :: _, _, _, h, _ => by cases h
  | .int _ :: _, _, _, h, _ => by cases h
  | .tup _ :: _, _, _, h, _ => by cases h
  | .lst _ :: _, _, _, h, _ => by cases h
  | .scr _ :: _, _, _, h, _ => by cases h
  | .dic _ _ :: _, _, _, h, _ => by cases h
  | .obj _ _ _ :: _, _, _, h, _ => by cases h
  | .ref _ :: _, _, _, h, _ => by cases h
  | .glo _ :: _, _, _, h, _ => by cases h
  | .ty _ :: _, _, _, h, _ => by cases h
  | .tab _ :: _, _, _, h, _ => by cases h
  | .ptp _ :: _, _, _, h, _ => by cases h
end
end L4
namespace L4
open PySem L2
mutual
def eqK : D → D → Bool
  | .non, .non => true
  | .bl a, .bl b => a == b
  | .bl a, .int i => (if a then 1 else 0) == i
  | .int i, .bl a => i == (if a then 1 else 0)
  | .int i, .int j => i == j
  | .str x, .str y => decide (x = y)
  | .tup a, .tup b => eqKs a b
  | _, _ => false
def eqKs : List D → List D → Bool
  | [], [] => true
  | a :: as, b :: bs => eqK a b && eqKs as bs
  | _, _ => false
end
theorem nks_cons {d : D} {ds : List D} {x : List NestedKey} (h : nks (d :: ds) = some x) : ∃ k ks, nk d = some k ∧ nks ds = some ks ∧ x = k :: ks := by
  rw [nks] at h
  cases h1 : nk d with
  | none => rw [h1] at h; cases h
  | some k => cases h2 : nks ds with
    | none => rw [h1, h2] at h; cases h
    | some ks => rw [h1, h2] at h; cases h; exact ⟨k, ks, rfl, rfl, rfl⟩
theorem dec_num {a b : Int} : decide (NestedKey.num a = .num b) = (a == b) := by
  by_cases h : a = b
  · subst h; simp
  · rw [decide_eq_false (fun z => h (by injection z)), beq_eq_false_iff_ne.mpr h]
mutual
theorem eqK_nk : ∀ (a b : D) (x y : NestedKey), nk a = some x → nk b = some y → eqK a b = decide (x = y)
  | .non, b, x, y, h, h2 => by rw [nk] at h; cases h; cases b <;> rw [nk] at h2 <;> first | (cases h2; done) | (cases h2; rfl) | (obtain ⟨z, _, rfl⟩ := Option.map_eq_some_iff.mp h2; rfl)
  | .bl p, b, x, y, h, h2 => by
    rw [nk] at h; cases h
    cases b with
    | bl q => rw [nk] at h2; cases h2; rw [dec_num, eqK]; cases p <;> cases q <;> rfl
    | int j => rw [nk] at h2; cases h2; rw [dec_num, eqK]
    | non => rw [nk] at h2; cases h2; rfl
    | str z => rw [nk] at h2; cases h2; rfl
    | tup z => rw [nk] at h2; obtain ⟨w, _, rfl⟩ := Option.map_eq_some_iff.mp h2; rfl
    | _ => rw [nk] at h2; cases h2
  | .int p, b, x, y, h, h2 => by
    rw [nk] at h; cases h
    cases b with
    | bl q => rw [nk] at h2; cases h2; rw [dec_num, eqK]
    | int j => rw [nk] at h2; cases h2; rw [dec_num, eqK]
    | non => rw [nk] at h2; cases h2; rfl
    | str z => rw [nk] at h2; cases h2; rfl
    | tup z => rw [nk] at h2; obtain ⟨w, _, rfl⟩ := Option.map_eq_some_iff.mp h2; rfl
    | _ => rw [nk] at h2; cases h2
  | .str p, b, x, y, h, h2 => by
    rw [nk] at h; cases h
    cases b with
    | bl q => rw [nk] at h2; cases h2; rfl
    | int j => rw [nk] at h2; cases h2; rfl
    | non => rw [nk] at h2; cases h2; rfl
    | str z =>
      rw [nk] at h2; cases h2; rw [eqK]
      by_cases e : p = z
      · subst e; simp
      · rw [decide_eq_false e, decide_eq_false (fun q => e (by injection q))]
    | tup z => rw [nk] at h2; obtain ⟨w, _, rfl⟩ := Option.map_eq_some_iff.mp h2; rfl
    | _ => rw [nk] at h2; cases h2
  | .tup p, b, x, y, h, h2 => by
    rw [nk] at h
    obtain ⟨w, hw, rfl⟩ := Option.map_eq_some_iff.mp h
    cases b with
    | bl q => rw [nk] at h2; cases h2; rfl
    | int j => rw [nk] at h2; cases h2; rfl
    | non => rw [nk] at h2; cases h2; rfl
    | str z => rw [nk] at h2; cases h2; rfl
    | tup z =>
      rw [nk] at h2
      obtain ⟨u, hu, rfl⟩ := Option.map_eq_some_iff.mp h2
      rw [eqK, eqKs_nk p z w u hw hu]
      by_cases e : w = u
      · subst e; simp
      · rw [decide_eq_false e, decide_eq_false (fun q => e (by injection q))]
    | _ => rw [nk] at h2; cases h2
  | .lst _, _, _, _, h, _ => by rw [nk] at h; cases h
  | .scr _, _, _, _, h, _ => by rw [nk] at h; cases h
  | .dic _ _, _, _, _, h, _ => by rw [nk] at h; cases h
  | .obj _ _ _, _, _, _, h, _ => by rw [nk] at h; cases h
  | .ref _, _, _, _, h, _ => by rw [nk] at h; cases h
  | .glo _, _, _, _, h, _ => by rw [nk] at h; cases h
  | .ty _, _, _, _, h, _ => by rw [nk] at h; cases h
  | .tab _, _, _, _, h, _ => by rw [nk] at h; cases h
  | .ptp _, _, _, _, h, _ => by rw [nk] at h; cases h
theorem eqKs_nk : ∀ (a b : List D) (x y : List NestedKey), nks a = some x → nks b = some y → eqKs a b = decide (x = y)
  | [], b, x, y, h, h2 => by
    rw [nks] at h; cases h
    cases b with
    | nil => rw [nks] at h2; cases h2; rfl
    | cons d ds => obtain ⟨k, ks, _, _, rfl⟩ := nks_cons h2; rfl
  | d :: ds, b, x, y, h, h2 => by
    obtain ⟨k, ks, h3, h4, rfl⟩ := nks_cons h
    cases b with
    | nil => rw [nks] at h2; cases h2; rfl
    | cons e es =>
      obtain ⟨l, lt, h5, h6, rfl⟩ := nks_cons h2
      rw [eqKs, eqK_nk d e k l h3 h5, eqKs_nk ds es ks lt h4 h6]
      by_cases e1 : k = l
      · by_cases e2 : ks = lt
        · rw [decide_eq_true e1, decide_eq_true e2, decide_eq_true (by rw [e1, e2])]; rfl
        · rw [decide_eq_false e2, decide_eq_false (fun q => e2 (List.cons.inj q).2)]; simp
      · rw [decide_eq_false e1, decide_eq_false (fun q => e1 (List.cons.inj q).1)]; simp
end
theorem nkT_nk {d : D} {k : NestedKey} (h : nkT d = some k) : nk d = some k ∧ k.depth ≤ 8 := by
  unfold nkT at h
  split at h
  · split at h
    · next h1 =>
      obtain ⟨hd, h⟩ := ite_some h
      cases h
      exact ⟨by rw [nk, h1]; rfl, hd⟩
    · cases h
  · cases h
def dHas (ks : List D) (k : D) : Bool := ks.any fun a => eqK a k
def dGet : List D → List D → D → Option D
  | a :: ks, b :: vs, k => if eqK a k then some b else dGet ks vs k
  | _, _, _ => none
def dRep : List D → List D → D → D → List D
  | a :: ks, b :: vs, k, v => (if eqK a k then v else b) :: dRep ks vs k v
  | _, _, _, _ => []
def dPutK (ks : List D) (k : D) : List D := if dHas ks k then ks else ks ++ [k]
def dPutV (ks vs : List D) (k v : D) : List D := if dHas ks k then dRep ks vs k v else vs ++ [v]
def isFlat : D → Bool
  | .int _ => true
  | .str _ => true
  | _ => false
section
variable {X : Cx} {g : G} {T T' : Tk} {H : Hp} {m : M} {Q : VK} {pos p apos : Pos} {e o : Expr} {es : List Expr} {k n : Nat} {x c nm : Str}
def keyD : Key → D
  | .inl i => .int i
  | .inr x => .str x
theorem rep_key {d : D} {κ : Key} (r : Rep g T H d (kV κ)) : d = keyD κ := by
  cases κ with
  | inl i => cases r; rfl
  | inr i => cases r; rfl
theorem repL_keys : ∀ {ks : List D} {kvs : List (Key × V)}, RepL g T H ks (kvs.map fun p => kV p.1) → ks = kvs.map fun p => keyD p.1
  | [], [], _ => rfl
  | _ :: _, [], r => by cases r
  | [], _ :: _, r => by cases r
  | d :: ks, p :: kvs, r => by
    cases r with
    | cons a s => rw [rep_key a, repL_keys s]; rfl
theorem keyD_rep {κ : Key} : Rep g T H (keyD κ) (kV κ) := by
  cases κ with
  | inl i => exact .int i
  | inr i => exact .str i
theorem eqK_key (a b : Key) : eqK (keyD a) (keyD b) = decide (a = b) := by
  cases a with
  | inl i => cases b with
    | inl j => show eqK (.int i) (.int j) = _; rw [eqK, key_ll]
    | inr j => show eqK (.int i) (.str j) = _; rw [key_lr]; rfl
  | inr i => cases b with
    | inl j => show eqK (.str i) (.int j) = _; rw [key_rl]; rfl
    | inr j => show eqK (.str i) (.str j) = _; rw [eqK, key_rr]
theorem flat_get {κ : Key} : ∀ {kvs : List (Key × V)} {vs : List D}, RepL g T H vs (kvs.map Prod.snd) → (∀ d, dGet (kvs.map fun p => keyD p.1) vs (keyD κ) = some d → ∃ v, valV kvs κ = some v ∧ Rep g T H d v) ∧ (valV kvs κ).isSome = dHas (kvs.map fun p => keyD p.1) (keyD κ)
  | [], _, r => by
    cases r
    exact ⟨fun d h => (by cases h), rfl⟩
  | p :: kvs, _, r => by
    cases r with
    | @cons d v ds vs a s =>
      obtain ⟨h1, h2⟩ := flat_get (κ := κ) s
      have ek := eqK_key p.1 κ
      by_cases e : p.1 = κ
      · rw [decide_eq_true e] at ek
        refine ⟨fun d' h => ?_, by rw [valV_pos e]; simp [dHas, ek]⟩
        simp only [List.map_cons, dGet, ek, if_true] at h
        cases h
        exact ⟨p.2, valV_pos e, a⟩
      · rw [decide_eq_false e] at ek
        refine ⟨fun d' h => ?_, by rw [valV_neg e, h2]; simp [dHas, ek]⟩
        simp only [List.map_cons, dGet, ek] at h
        rw [valV_neg e]
        exact h1 d' h
theorem flat_rep {κ : Key} {v : V} {d : D} (rv : Rep g T H d v) : ∀ {kvs : List (Key × V)} {vs : List D}, RepL g T H vs (kvs.map Prod.snd) → RepL g T H (dRep (kvs.map fun p => keyD p.1) vs (keyD κ) d) ((kvs.map fun kv => if kv.1 = κ then (kv.1, v) else kv).map Prod.snd) ∧ (kvs.map fun kv => if kv.1 = κ then (kv.1, v) else kv).map Prod.fst = kvs.map Prod.fst
  | [], _, r => by cases r; exact ⟨.nil, rfl⟩
  | p :: kvs, _, r => by
    cases r with
    | cons a s =>
      obtain ⟨h1, h2⟩ := flat_rep (κ := κ) rv s
      have ek := eqK_key p.1 κ
      by_cases e : p.1 = κ
      · rw [decide_eq_true e] at ek
        simp only [List.map_cons, dRep, ek, if_true, if_pos e, h2]
        exact ⟨.cons rv h1, trivial⟩
      · rw [decide_eq_false e] at ek
        simp only [List.map_cons, dRep, ek, if_neg e, h2]
        exact ⟨.cons a h1, trivial⟩
theorem flat_put {κ : Key} {v : V} {d : D} {kvs : List (Key × V)} {ks vs : List D} (rk : RepL g T H ks (kvs.map fun p => kV p.1)) (rs : RepL g T H vs (kvs.map Prod.snd)) (rv : Rep g T H d v) :
    RepL g T H (dPutK ks (keyD κ)) ((putK kvs κ v).map fun p => kV p.1) ∧ RepL g T H (dPutV ks vs (keyD κ) d) ((putK kvs κ v).map Prod.snd) := by
  have ek := repL_keys rk
  have hs := (flat_get (κ := κ) rs).2
  have hany := valV_any κ kvs
  unfold dPutK dPutV putK
  rw [hany, hs, ← ek]
  cases hh : dHas ks (keyD κ) with
  | true =>
    simp only [if_true]
    obtain ⟨h1, h2⟩ := flat_rep (κ := κ) rv rs
    rw [← ek] at h1
    refine ⟨?_, h1⟩
    have : (kvs.map fun kv => if kv.1 = κ then (kv.1, v) else kv).map (fun p => kV p.1) = kvs.map fun p => kV p.1 := by
      have := congrArg (List.map kV) h2
      simpa [List.map_map, Function.comp_def] using this
    rw [this]
    exact rk
  | false =>
    simp only [Bool.false_eq_true, if_false, List.map_append, List.map_cons, List.map_nil]
    exact ⟨rk.append (.cons keyD_rep .nil), rs.append (.cons rv .nil)⟩
end
end L4
namespace L4
open PySem PySem.Spec PyProof.Rows L2
abbrev NV := List (NestedKey × Addr × V)
/-- the tuple at b is the key k -/
def NkAt (X : Cx) (H : Hp) (b : Addr) (k : NestedKey) : Prop := ∀ pins σ s, Inv X pins σ H s → (nestedKind X.prog X.w).is s.heap k b
section
variable {X : Cx} {T T' : Tk} {H : Hp} {m : M} {Q : VK} {pos p apos : Pos} {e o : Expr} {es : List Expr} {n : Nat} {x c nm : Str}
mutual
theorem nested_is {pins : List (Addr × Obj)} {σ : L2.St} {s : Shared} (I : Inv X pins σ H s) : ∀ (d : D) {v : V} {u : Value} {k : NestedKey}, nk d = some k → Rep (gx X) T H d v → RelV v u → NestedIs s.heap k u
  | .non, _, _, _, h, r, q => by rw [nk] at h; cases h; cases r; cases q; exact .none
  | .bl b, _, _, _, h, r, q => by rw [nk] at h; cases h; cases r; cases q; exact .bool rfl
  | .int i, _, _, _, h, r, q => by rw [nk] at h; cases h; cases r; obtain ⟨t, rfl⟩ := q; exact .int i t
  | .str i, _, _, _, h, r, q => by rw [nk] at h; cases h; cases r; obtain ⟨t, rfl⟩ := q; exact .text i t
  | .tup ds, _, _, _, h, r, q => by
    rw [nk] at h
    obtain ⟨ks, h1, rfl⟩ := Option.map_eq_some_iff.mp h
    cases r with
    | tup f r =>
      cases q
      obtain ⟨its, rv, ⟨ob, h2, h3, n, h4⟩, _⟩ := I.tuple f.sq
      exact .tup h2 h3 h4 (by simpa using nested_all I ds h1 r rv)
  | .lst _, _, _, _, h, _, _ => by rw [nk] at h; cases h
  | .scr _, _, _, _, h, _, _ => by rw [nk] at h; cases h
  | .dic _ _, _, _, _, h, _, _ => by rw [nk] at h; cases h
  | .obj _ _ _, _, _, _, h, _, _ => by rw [nk] at h; cases h
  | .ref _, _, _, _, h, _, _ => by rw [nk] at h; cases h
  | .glo _, _, _, _, h, _, _ => by rw [nk] at h; cases h
  | .ty _, _, _, _, h, _, _ => by rw [nk] at h; cases h
  | .tab _, _, _, _, h, _, _ => by rw [nk] at h; cases h
  | .ptp _, _, _, _, h, _, _ => by rw [nk] at h; cases h
theorem nested_all {pins : List (Addr × Obj)} {σ : L2.St} {s : Shared} (I : Inv X pins σ H s) : ∀ (ds : List D) {vs : List V} {us : List Value} {ks : List NestedKey}, nks ds = some ks → RepL (gx X) T H ds vs → Vals vs us → NestedAll s.heap ks us
  | [], _, _, _, h, r, q => by rw [nks] at h; cases h; cases r; cases q; exact .nil
  | d :: ds, _, _, _, h, r, q => by
    obtain ⟨k, ks, h1, h2, rfl⟩ := nks_cons h
    cases r with
    | cons a s => cases q with
      | cons b t => exact .cons (nested_is I d h1 a b) (nested_all I ds h2 s t)
end
theorem nkAt {d : D} {b : Addr} {k : NestedKey} (h : nkT d = some k) (r : Rep (gx X) T H d (.ref b)) : NkAt X H b k := fun pins σ s I => by
  obtain ⟨h1, h2⟩ := nkT_nk h
  exact ⟨nested_is I d h1 r rfl, h2⟩
theorem nkAts : ∀ {ks : List D} {kvs : NV}, ks.map nkT = kvs.map (fun p => some p.1) → RepL (gx X) T H ks (kvs.map fun p => .ref p.2.1) → ∀ p ∈ kvs, NkAt X H p.2.1 p.1
  | [], [], _, _, p, hp => by cases hp
  | _ :: _, [], h, _, _, hp => by cases hp
  | [], _ :: _, h, _, _, _ => by cases h
  | d :: ks, q :: kvs, h, r, p, hp => by
    simp only [List.map_cons, List.cons.injEq] at h
    cases r with
    | cons a s =>
      rcases List.mem_cons.mp hp with rfl | hp
      · exact nkAt h.1 a
      · exact nkAts h.2 s p hp
def NDict (X : Cx) (H : Hp) (a : Addr) (kvs : NV) : Prop := Rd H a (dnO (gx X) a kvs) ∨ (kvs = [] ∧ Rd H a (.dK []))
/-- the dict in the heap -/
theorem dn_rd0 {pins : List (Addr × Obj)} {σ : L2.St} {s : Shared} {a : Addr} {kvs : NV} (I : Inv X pins σ H s) (h : Rd H a (dnO (gx X) a kvs)) (hk : ∀ p ∈ kvs, NkAt X H p.2.1 p.1) :
    kvs.length ≤ sizeLine ∧ (a == sysModules) = false ∧ ∃ xs : List (NestedKey × Addr × Value), Paired (fun (p : NestedKey × Addr × V) (q : NestedKey × Addr × Value) => p.1 = q.1 ∧ p.2.1 = q.2.1 ∧ RelV p.2.2 q.2.2) kvs xs ∧ s.heap.DictOfH (nestedKind X.prog X.w) a xs := by
  obtain ⟨⟨z, hd, xs, pr, ob, es, ep, h1, h2, h3, h4, h5⟩, _⟩ := h.ok I.hok
  refine ⟨z, hd, xs, pr, ob, es, ep, h1, h2, h3, h4, ?_, h5⟩
  have all : ∀ {l : NV} {r : List (NestedKey × Addr × Value)}, Paired (fun (p : NestedKey × Addr × V) (q : NestedKey × Addr × Value) => p.1 = q.1 ∧ p.2.1 = q.2.1 ∧ RelV p.2.2 q.2.2) l r → (∀ p ∈ l, NkAt X H p.2.1 p.1) → ∀ y ∈ r, (nestedKind X.prog X.w).is s.heap y.1 y.2.1 := by
    intro l r q
    induction q with
    | nil => intro _ y hy; cases hy
    | @cons p q ps qs hq t ih =>
      intro hl y hy
      rcases List.mem_cons.mp hy with rfl | hy
      · rw [← hq.1, ← hq.2.1]
        exact hl p (List.mem_cons_self ..) pins σ s I
      · exact ih (fun p hp => hl p (List.mem_cons_of_mem _ hp)) y hy
  exact all pr hk
theorem dn_rd {pins : List (Addr × Obj)} {σ : L2.St} {s : Shared} {a : Addr} {kvs : NV} (I : Inv X pins σ H s) (h : NDict X H a kvs) (hk : ∀ p ∈ kvs, NkAt X H p.2.1 p.1) :
    kvs.length ≤ sizeLine ∧ (a == sysModules) = false ∧ ∃ xs : List (NestedKey × Addr × Value), Paired (fun (p : NestedKey × Addr × V) (q : NestedKey × Addr × Value) => p.1 = q.1 ∧ p.2.1 = q.2.1 ∧ RelV p.2.2 q.2.2) kvs xs ∧ s.heap.DictOfH (nestedKind X.prog X.w) a xs := by
  rcases h with h | ⟨rfl, h⟩
  · exact dn_rd0 I h hk
  · obtain ⟨_, hd, vs, rel, dd⟩ := dk_rd I.hok h
    cases rel
    obtain ⟨ob, es, ep, h1, h2, h3, h4, h5, h6⟩ := dd
    have he : es.toList = [] := by
      cases hh : es.toList with
      | nil => rfl
      | cons a b => rw [hh] at h5; cases h5
    exact ⟨Nat.zero_le _, hd, [], .nil, ob, es, ep, h1, h2, h3, by rw [he]; rfl, fun x hx => (nomatch hx), by simp⟩
def nGet (kvs : NV) (k : NestedKey) : Option V := (kvs.find? fun p => decide (p.1 = k)).map fun p => p.2.2
def nHas (kvs : NV) (k : NestedKey) : Bool := kvs.any fun p => decide (p.1 = k)
def nPut (kvs : NV) (k : NestedKey) (b : Addr) (v : V) : NV := if nHas kvs k then kvs.map fun p => if p.1 = k then (p.1, p.2.1, v) else p else kvs ++ [(k, b, v)]
abbrev NP : NestedKey × Addr × V → NestedKey × Addr × Value → Prop := fun p q => p.1 = q.1 ∧ p.2.1 = q.2.1 ∧ RelV p.2.2 q.2.2
theorem np_at {k : NestedKey} : ∀ {kvs : NV} {xs : List (NestedKey × Addr × Value)}, Paired NP kvs xs → (atKey xs k).isSome = nHas kvs k ∧ ∀ v, nGet kvs k = some v → ∃ q, atKey xs k = some q ∧ RelV v q.2
  | _, _, .nil => ⟨rfl, fun v h => by cases h⟩
  | _, _, .cons (a := p) (b := q) hq t => by
    obtain ⟨h1, h2⟩ := np_at (k := k) t
    by_cases e : p.1 = k
    · have e2 : q.1 = k := by rw [← hq.1]; exact e
      refine ⟨by simp [atKey, nHas, List.find?_cons, e, e2], fun v h => ?_⟩
      simp only [nGet, List.find?_cons, e, decide_true, Option.map_some] at h
      cases h
      exact ⟨q.2, by simp [atKey, List.find?_cons, e2], hq.2.2⟩
    · have e2 : ¬ q.1 = k := by rw [← hq.1]; exact e
      refine ⟨?_, fun v h => ?_⟩
      · simp only [atKey, nHas, List.find?_cons, e2, decide_false, List.any_cons, e, Bool.false_or]
        exact h1
      · simp only [nGet, List.find?_cons, e, decide_false] at h
        obtain ⟨w, e3, r⟩ := h2 v h
        exact ⟨w, by simp only [atKey, List.find?_cons, e2, decide_false]; exact e3, r⟩
theorem np_old {k : NestedKey} {v : V} {u : Value} (rv : RelV v u) : ∀ {kvs : NV} {xs : List (NestedKey × Addr × Value)}, Paired NP kvs xs → Paired NP (kvs.map fun p => if p.1 = k then (p.1, p.2.1, v) else p) (xs.map (putAt k u))
  | _, _, .nil => .nil
  | _, _, .cons (a := p) (b := q) hq t => by
    refine .cons ?_ (np_old rv t)
    show NP (if p.1 = k then (p.1, p.2.1, v) else p) (if q.1 = k then (q.1, q.2.1, u) else q)
    by_cases e : p.1 = k
    · rw [if_pos e, if_pos (by rw [← hq.1]; exact e)]
      exact ⟨hq.1, hq.2.1, rv⟩
    · rw [if_neg e, if_neg (by rw [← hq.1]; exact e)]
      exact hq
theorem np_new {k : NestedKey} {b : Addr} {v : V} {u : Value} (rv : RelV v u) : ∀ {kvs : NV} {xs : List (NestedKey × Addr × Value)}, Paired NP kvs xs → Paired NP (kvs ++ [(k, b, v)]) (xs ++ [(k, b, u)])
  | _, _, .nil => .cons ⟨rfl, rfl, rv⟩ .nil
  | _, _, .cons hq t => .cons hq (np_new rv t)
theorem np_put {k : NestedKey} {b : Addr} {v : V} {u : Value} (rv : RelV v u) {kvs : NV} {xs : List (NestedKey × Addr × Value)} (h : Paired NP kvs xs) : Paired NP (nPut kvs k b v) (storedH xs k b u) := by
  unfold nPut storedH
  rw [(np_at (k := k) h).1]
  cases nHas kvs k with
  | true => exact np_old rv h
  | false => exact np_new rv h
theorem nPut_len {k : NestedKey} {b : Addr} {v : V} {kvs : NV} : (nPut kvs k b v).length ≤ kvs.length + 1 := by
  unfold nPut
  split <;> simp
theorem room8 {k : Nat} (gd : Gd k X) : (nestedKind X.prog X.w).room X.A.in1 := by
  have := gd.r.un
  show X.A.units + 1 + 8 < cLine
  omega
def rInN (X : Cx) (b : Bool) : R2 := fun x y H Q => ∃ a c kvs k, x = .ref c ∧ y = .ref a ∧ NDict X H a kvs ∧ (∀ p ∈ kvs, NkAt X H p.2.1 p.1) ∧ NkAt X H c k ∧ Q (.bl (nHas kvs k != b)) H
theorem op_inN {k : Nat} (gd : Gd k X) : OpR X (compareOp .In) (rInN X false) := by
  intro pins s σ H x y v u Q I rx ry h
  obtain ⟨a, c, kvs, k, rfl, rfl, hr, hk, hc, q⟩ := h
  cases rx
  cases ry
  obtain ⟨_, hd, xs, pr, hm⟩ := dn_rd I hr hk
  refine wpAny_in_heap (room8 gd) (hc pins σ s I) hd hm ⟨.bl _, H, I.tok _, rfl, ?_⟩
  rw [(np_at pr).1]
  rw [Bool.bne_false] at q
  exact q
theorem op_ninN {k : Nat} (gd : Gd k X) : OpR X (compareOp .NotIn) (rInN X true) := by
  intro pins s σ H x y v u Q I rx ry h
  obtain ⟨a, c, kvs, k, rfl, rfl, hr, hk, hc, q⟩ := h
  cases rx
  cases ry
  obtain ⟨_, hd, xs, pr, hm⟩ := dn_rd I hr hk
  refine wpAny_notIn_heap (room8 gd) (hc pins σ s I) hd hm ⟨.bl _, H, I.tok _, rfl, ?_⟩
  rw [(np_at pr).1]
  rw [Bool.bne_true] at q
  exact q
def rIxN (X : Cx) : R2 := fun x y H Q => ∃ a c kvs k v, x = .ref a ∧ y = .ref c ∧ NDict X H a kvs ∧ (∀ p ∈ kvs, NkAt X H p.2.1 p.1) ∧ NkAt X H c k ∧ nGet kvs k = some v ∧ Q v H
theorem ix_N {k : Nat} (gd : Gd k X) : IxR X (rIxN X) := by
  intro value slice pins s σ H x y v u Q I rx ry h hs
  obtain ⟨a, c, kvs, k, z, rfl, rfl, hr, hk, hc, hz, q⟩ := h
  cases rx
  cases ry
  obtain ⟨_, hd, xs, pr, hm⟩ := dn_rd I hr hk
  obtain ⟨w, hw, rw'⟩ := (np_at (k := k) pr).2 z hz
  exact PyProof.Rows.subscriptTail_builtinR (x := w.2) hm.typeIs PySem.F.slot_dict_getitem.lookup (wpAny_getItem_heap (room8 gd) (hc pins σ s I) hm hw ⟨rfl, z, H, I.tok _, rw', q⟩) hs
/-- d[k], flat keys -/
def rIxF : R2 := fun x y H Q => ∃ a kvs κ v, x = .ref a ∧ Rd H a (.dK kvs) ∧ y = kV κ ∧ valV kvs κ = some v ∧ Q v H
theorem ix_F : IxR X rIxF := by
  intro value slice pins s σ H x y v u Q I rx ry h hs
  obtain ⟨a, kvs, κ, z, rfl, hr, rfl, hz, q⟩ := h
  cases rx
  obtain ⟨_, hd, vs, rel, dd⟩ := dk_rd I.hok hr
  obtain ⟨w', hw, rw'⟩ := RelO.some_of (v := z) (o := valueAt vs κ) (by rw [← hz]; exact rel.val κ)
  exact subscriptTail_builtinR (x := w') dd.typeIs PySem.F.slot_dict_getitem.lookup (wpAny_getItem_of (kV_is ry) dd.mapOf hw ⟨rfl, z, H, I.tok _, rw', q⟩) hs
def rInF (b : Bool) : R2 := fun x y H Q => ∃ a kvs κ, x = kV κ ∧ y = .ref a ∧ Rd H a (.dK kvs) ∧ Q (.bl ((valV kvs κ).isSome != b)) H
theorem op_inF : OpR X (compareOp .In) (rInF false) := by
  intro pins s σ H x y v u Q I rx ry h
  obtain ⟨a, kvs, κ, rfl, rfl, hr, q⟩ := h
  cases ry
  obtain ⟨_, hd, vs, rel, dd⟩ := dk_rd I.hok hr
  refine wpAny_in_of (kV_is rx) hd dd.mapOf ⟨.bl _, H, I.tok _, rfl, ?_⟩
  rw [← (rel.val κ).isSome_eq]
  rw [Bool.bne_false] at q
  exact q
theorem op_ninF : OpR X (compareOp .NotIn) (rInF true) := by
  intro pins s σ H x y v u Q I rx ry h
  obtain ⟨a, kvs, κ, rfl, rfl, hr, q⟩ := h
  cases ry
  obtain ⟨_, hd, vs, rel, dd⟩ := dk_rd I.hok hr
  refine wpAny_notIn_of (kV_is rx) hd dd.mapOf ⟨.bl _, H, I.tok _, rfl, ?_⟩
  rw [← (rel.val κ).isSome_eq]
  rw [Bool.bne_true] at q
  exact q
/-- d[k] = v -/
def rPutF : TSet := fun o i v H Q => ∃ a kvs κ, o = .ref a ∧ i = kV κ ∧ H a = some (.dK kvs) ∧ kvs.length < sizeLine ∧ Q (upd H a (.dK (putK kvs κ v)))
theorem set_F {k : Nat} (gd : Gd k X) : PSet X rPutF := by
  intro pins s σ H o i v ov iv u Q I ro ri rv h
  obtain ⟨a, kvs, κ, rfl, rfl, hr, hz, q⟩ := h
  cases ro
  have := gd.r.un
  exact d_setItem (by omega) I (DPut.k hr hz) ri rv fun s' I' => ⟨_, I', q⟩
def rPutN (X : Cx) : TSet := fun o i v H Q => ∃ a c kvs k, o = .ref a ∧ i = .ref c ∧ (H a = some (dnO (gx X) a kvs) ∨ (kvs = [] ∧ H a = some (.dK []))) ∧ (∀ p ∈ kvs, NkAt X H p.2.1 p.1) ∧ NkAt X H c k ∧ kvs.length < sizeLine ∧ Q (upd H a (dnO (gx X) a (nPut kvs k c v)))
theorem dn_ok {P : Program} {w : World} {K : PySem.W.Frag} {h : Heap} {a : Addr} {kvs : NV} {xs : List (NestedKey × Addr × Value)} {H' : Hp} (hz : kvs.length ≤ sizeLine) (hd : (a == sysModules) = false) (pr : Paired NP kvs xs) {ob : Obj} {es : Array DictEntry} {ep : Nat} (h1 : h.get? a = some ob) (h2 : ob.ExactDict) (h3 : ob.data = .dict es ep)
    (h4 : es.toList = xs.map (entryOfKey (nestedKind P w))) (h5 : (xs.map (·.1)).Nodup) : ObjOk P w H' h a (dnO ⟨P, w, K⟩ a kvs) := by
  refine ⟨⟨hz, hd, xs, pr, ob, es, ep, h1, h2, h3, h4, h5⟩, ⟨ob, h1⟩, ?_⟩
  rintro g1 g2 ⟨hz, hd, xs, pr, ob, es, ep, h1, h2, h3, h4, h5⟩ k
  exact ⟨hz, hd, xs, pr, ob, es, ep, k _ h1, h2, h3, h4, h5⟩
theorem set_N {k : Nat} (gd : Gd k X) : PSet X (rPutN X) := by
  intro pins s σ H o i v ov iv u Q I ro ri rv h
  obtain ⟨a, c, kvs, k, rfl, rfl, hr, hk, hc, hz, q⟩ := h
  cases ro
  cases ri
  have key : ∃ xs, (a == sysModules) = false ∧ Paired NP kvs xs ∧ s.heap.DictOfH (nestedKind X.prog X.w) a xs := by
    obtain ⟨_, hd, xs, pr, hm⟩ := dn_rd I (hr.elim (fun h => .inl (.inl h)) fun h => .inr ⟨h.1, .inl h.2⟩) hk
    exact ⟨xs, hd, pr, hm⟩
  obtain ⟨xs, hd, pr, hm⟩ := key
  have hl := Paired.length pr
  refine wpAny_setItem_heap (hsz := by omega) (room8 gd) (hc pins σ s I) hm fun h' dd' hs => ⟨_, ?_, q⟩
  obtain ⟨ob, es, ep, h1, h2, h3, h4, _, h5⟩ := dd'
  refine d_write I ?_ hs ⟨ob, h1⟩ (dn_ok (by have := nPut_len (k := k) (b := c) (v := v) (kvs := kvs); omega) hd (np_put rv pr) h1 h2 h3 h4 h5)
  rcases hr with hr | ⟨_, hr⟩ <;> rw [hr] <;> exact True.intro
end
end L4
namespace L4
open PySem PySem.Spec PyProof.Rows L2
section
variable {X : Cx} {g : G} {T T' : Tk} {H : Hp} {m : M} {Q : VK} {pos p apos : Pos} {e o : Expr} {es : List Expr} {n : Nat} {x c nm : Str}
def dicO : O → Option (List D × List D)
  | .dic ks vs => some (ks, vs)
  | _ => none
def dicOf (m : M) : D → Option (List D × List D)
  | .dic ks vs => some (ks, vs)
  | .ref n => (m[n]?).bind dicO
  | _ => none
/-- a dict, as it is read -/
inductive DicR (X : Cx) (T : Tk) (H : Hp) (a : Addr) (ks vs : List D) : Prop
  | flat {kvs} : Rd H a (.dK kvs) → RepL (gx X) T H ks (kvs.map fun p => kV p.1) → RepL (gx X) T H vs (kvs.map Prod.snd) → DicR X T H a ks vs
  | nest {kvs} : Rd H a (dnO (gx X) a kvs) → (ks.map nkT = kvs.map (fun p => some p.1) ∧ kvs ≠ []) → RepL (gx X) T H ks (kvs.map fun p => .ref p.2.1) → RepL (gx X) T H vs (kvs.map fun p => p.2.2) → DicR X T H a ks vs
theorem dic_rep {d : D} {v : V} {ks vs : List D} (hm : RepH (gx X) T H m) (r : Rep (gx X) T H d v) (h : dicOf m d = some (ks, vs)) : ∃ a, v = .ref a ∧ DicR X T H a ks vs := by
  cases r with
  | dicF n f r q => cases h; exact ⟨_, rfl, .flat f r q⟩
  | dicN n f e r q => cases h; exact ⟨_, rfl, .nest f e r q⟩
  | ref e =>
    obtain ⟨o, h1, h2⟩ := Option.bind_eq_some_iff.mp h
    cases hm.at_ _ _ _ e h1 with
    | dicF f r q => cases h2; exact ⟨_, rfl, .flat (.inl f) r q⟩
    | dicN f k r q => cases h2; exact ⟨_, rfl, .nest (.inl f) k r q⟩
    | _ => cases h2
  | _ => cases h
def headOk (ks : List D) (k : D) : Bool := match ks with
  | [] => isFlat k || (nkT k).isSome
  | a :: _ => if isFlat a then isFlat k else (nkT k).isSome
theorem flat_key {d : D} (h : isFlat d = true) : ∃ κ, d = keyD κ := by
  cases d with
  | int i => exact ⟨.inl i, rfl⟩
  | str i => exact ⟨.inr i, rfl⟩
  | _ => cases h
theorem flatOf_key (κ : Key) : isFlat (keyD κ) = true := by cases κ <;> rfl
theorem nk_notflat {d : D} {k : NestedKey} (h : nkT d = some k) : isFlat d = false := by
  cases d with
  | tup ds => rfl
  | _ => cases h
/-- a key and a dict: both flat, or both nested -/
theorem dic_cases {a : Addr} {ks vs : List D} {k : D} {v : V} (r : DicR X T H a ks vs) (hk : headOk ks k = true) (rk : Rep (gx X) T H k v) :
    (∃ kvs κ, Rd H a (.dK kvs) ∧ RepL (gx X) T H ks (kvs.map fun p => kV p.1) ∧ RepL (gx X) T H vs (kvs.map Prod.snd) ∧ k = keyD κ ∧ v = kV κ) ∨
    (∃ kvs b κ, NDict X H a kvs ∧ (ks.map nkT = kvs.map (fun p => some p.1)) ∧ RepL (gx X) T H ks (kvs.map fun p => .ref p.2.1) ∧ RepL (gx X) T H vs (kvs.map fun p => p.2.2) ∧ v = .ref b ∧ nkT k = some κ ∧ NkAt X H b κ ∧ (Rd H a (dnO (gx X) a kvs) ∨ kvs = [] ∧ Rd H a (.dK []))) := by
  have nested : ∀ κ, nkT k = some κ → ∃ b, v = .ref b ∧ NkAt X H b κ := by
    intro κ h
    cases k with
    | tup ds => cases rk with
      | tup f r => exact ⟨_, rfl, nkAt h (.tup f r)⟩
    | _ => cases h
  have flat : isFlat k = true → ∃ κ, k = keyD κ ∧ v = kV κ := by
    intro h
    obtain ⟨κ, rfl⟩ := flat_key h
    cases κ with
    | inl i => cases rk; exact ⟨.inl i, rfl, rfl⟩
    | inr i => cases rk; exact ⟨.inr i, rfl, rfl⟩
  cases r with
  | @flat kvs h r q =>
    by_cases hf : isFlat k = true
    · obtain ⟨κ, e1, e2⟩ := flat hf
      exact .inl ⟨kvs, κ, h, r, q, e1, e2⟩
    · cases kvs with
      | nil =>
        cases r
        cases q
        unfold headOk at hk
        simp only [Bool.not_eq_true] at hf
        rw [hf, Bool.false_or] at hk
        obtain ⟨κ, hκ⟩ := Option.isSome_iff_exists.mp hk
        obtain ⟨b, e1, e2⟩ := nested κ hκ
        exact .inr ⟨[], b, κ, .inr ⟨rfl, h⟩, rfl, .nil, .nil, e1, hκ, e2, .inr ⟨rfl, h⟩⟩
      | cons p kvs =>
        have := repL_keys r
        subst this
        unfold headOk at hk
        simp only [List.map_cons, flatOf_key, if_true] at hk
        exact absurd hk hf
  | @nest kvs h e r q =>
    cases kvs with
    | nil => exact absurd rfl e.2
    | cons p kvs =>
      cases r with
      | cons r1 r2 =>
        have e1 := e.1
        simp only [List.map_cons, List.cons.injEq] at e1
        simp only [headOk, nk_notflat e1.1, Bool.false_eq_true, if_false] at hk
        obtain ⟨κ, hκ⟩ := Option.isSome_iff_exists.mp hk
        obtain ⟨b, e2, e3⟩ := nested κ hκ
        exact .inr ⟨p :: kvs, b, κ, .inl h, e.1, .cons r1 r2, q, e2, hκ, e3, .inl h⟩
theorem nest_get {k : D} {κ : NestedKey} (hk : nkT k = some κ) : ∀ {kvs : NV} {ks vs : List D}, ks.map nkT = kvs.map (fun p => some p.1) → RepL g T H vs (kvs.map fun p => p.2.2) → (∀ d, dGet ks vs k = some d → ∃ v, nGet kvs κ = some v ∧ Rep g T H d v) ∧ nHas kvs κ = dHas ks k
  | [], [], _, _, r => by cases r; exact ⟨fun d h => (by cases h), rfl⟩
  | [], _ :: _, _, h, _ => by cases h
  | _ :: _, [], _, h, _ => by cases h
  | p :: kvs, a :: ks, _, h, r => by
    simp only [List.map_cons, List.cons.injEq] at h
    cases r with
    | cons r1 r2 =>
      obtain ⟨h1, h2⟩ := nest_get hk h.2 r2
      have ek : eqK a k = decide (p.1 = κ) := eqK_nk a k _ _ (nkT_nk h.1).1 (nkT_nk hk).1
      by_cases e : p.1 = κ
      · rw [decide_eq_true e] at ek
        refine ⟨fun d hd => ?_, by simp [nHas, dHas, ek, e]⟩
        simp only [dGet, ek, if_true] at hd
        cases hd
        exact ⟨p.2.2, by simp [nGet, List.find?_cons, e], r1⟩
      · rw [decide_eq_false e] at ek
        refine ⟨fun d hd => ?_, ?_⟩
        · simp only [dGet, ek] at hd
          obtain ⟨v, e1, q⟩ := h1 d hd
          exact ⟨v, by simp only [nGet, List.find?_cons, e, decide_false]; exact e1, q⟩
        · simp only [nHas, dHas, List.any_cons, ek, e, decide_false, Bool.false_or]
          exact h2
theorem nest_put {k d : D} {κ : NestedKey} {b : Addr} {v : V} (hk : nkT k = some κ) (rk : Rep g T H k (.ref b)) (rv : Rep g T H d v) {kvs : NV} {ks vs : List D} (h : ks.map nkT = kvs.map (fun p => some p.1)) (r : RepL g T H ks (kvs.map fun p => .ref p.2.1)) (q : RepL g T H vs (kvs.map fun p => p.2.2)) :
    (dPutK ks k).map nkT = (nPut kvs κ b v).map (fun p => some p.1) ∧ RepL g T H (dPutK ks k) ((nPut kvs κ b v).map fun p => .ref p.2.1) ∧ RepL g T H (dPutV ks vs k d) ((nPut kvs κ b v).map fun p => p.2.2) := by
  have hh := (nest_get hk h q).2
  unfold dPutK dPutV nPut
  rw [hh]
  cases dHas ks k with
  | false =>
    simp only [Bool.false_eq_true, if_false, List.map_append, List.map_cons, List.map_nil]
    exact ⟨by rw [h, hk], r.append (.cons rk .nil), q.append (.cons rv .nil)⟩
  | true =>
    simp only [if_true]
    have key : ∀ {kvs : NV} {ks vs : List D}, ks.map nkT = kvs.map (fun p => some p.1) → RepL g T H vs (kvs.map fun p => p.2.2) → (kvs.map fun p => if p.1 = κ then (p.1, p.2.1, v) else p).map (fun p => some p.1) = kvs.map (fun p => some p.1) ∧
        (kvs.map fun p => if p.1 = κ then (p.1, p.2.1, v) else p).map (fun p => V.ref p.2.1) = kvs.map (fun p => V.ref p.2.1) ∧ RepL g T H (dRep ks vs k d) ((kvs.map fun p => if p.1 = κ then (p.1, p.2.1, v) else p).map fun p => p.2.2) := by
      intro kvs
      induction kvs with
      | nil => intro ks vs h q; cases q; cases ks with
        | nil => exact ⟨rfl, rfl, .nil⟩
        | cons _ _ => cases h
      | cons p kvs ih =>
        intro ks vs h q
        cases ks with
        | nil => cases h
        | cons a ks =>
          simp only [List.map_cons, List.cons.injEq] at h
          cases q with
          | cons q1 q2 =>
            obtain ⟨h1, h2, h3⟩ := ih h.2 q2
            have ek : eqK a k = decide (p.1 = κ) := eqK_nk a k _ _ (nkT_nk h.1).1 (nkT_nk hk).1
            by_cases e : p.1 = κ
            · rw [decide_eq_true e] at ek
              simp only [List.map_cons, if_pos e, dRep, ek, if_true, h1, h2]
              exact ⟨trivial, trivial, .cons rv h3⟩
            · rw [decide_eq_false e] at ek
              simp only [List.map_cons, if_neg e, dRep, ek, h1, h2]
              exact ⟨trivial, trivial, .cons q1 h3⟩
    obtain ⟨h1, h2, h3⟩ := key h q
    exact ⟨by rw [h1]; exact h, by rw [h2]; exact r, h3⟩
def inAB (m : M) (x y : D) : Option Bool := match dicOf m y with
  | some (ks, _) => if headOk ks x then some (dHas ks x) else none
  | none => inB m x y
def inA (m : M) (x y : D) : Option D := (inAB m x y).map .bl
def ninA (m : M) (x y : D) : Option D := (inAB m x y).map fun b => .bl (!b)
theorem op_inA {k : Nat} (gd : Gd k X) : OpD X (compareOp .In) inA := by
  obtain ⟨r0, h0, q0⟩ := (op_in' (X := X) gd).ex
  refine ⟨_, orR h0 (orR op_inF (op_inN gd)), fun T H m x y v u d hm rx ry hf Q k => ?_⟩
  obtain ⟨b, hb, rfl⟩ := Option.map_eq_some_iff.mp hf
  unfold inAB at hb
  split at hb
  · next ks vs hd =>
    obtain ⟨hk, hb⟩ := ite_some hb
    cases hb
    obtain ⟨a, rfl, dr⟩ := dic_rep hm ry hd
    rcases dic_cases dr hk rx with ⟨kvs, κ, h1, h2, h3, rfl, rfl⟩ | ⟨kvs, b, κ, h1, h2, h3, h4, rfl, h5, h6, _⟩
    · refine .inr (.inl ⟨a, kvs, κ, rfl, rfl, h1, ?_⟩)
      rw [(flat_get h3).2, Bool.bne_false, ← repL_keys h2]
      exact k.now hm (.bl _)
    · refine .inr (.inr ⟨a, b, kvs, κ, rfl, rfl, h1, nkAts h2 h3, h6, ?_⟩)
      rw [(nest_get h5 h2 h4).2, Bool.bne_false]
      exact k.now hm (.bl _)
  · exact .inl (q0 T H m x y v u _ hm rx ry (by unfold inD; rw [hb]; rfl) Q k)
theorem op_ninA {k : Nat} (gd : Gd k X) : OpD X (compareOp .NotIn) ninA := by
  obtain ⟨r0, h0, q0⟩ := (op_nin' (X := X) gd).ex
  refine ⟨_, orR h0 (orR op_ninF (op_ninN gd)), fun T H m x y v u d hm rx ry hf Q k => ?_⟩
  obtain ⟨b, hb, rfl⟩ := Option.map_eq_some_iff.mp hf
  unfold inAB at hb
  split at hb
  · next ks vs hd =>
    obtain ⟨hk, hb⟩ := ite_some hb
    cases hb
    obtain ⟨a, rfl, dr⟩ := dic_rep hm ry hd
    rcases dic_cases dr hk rx with ⟨kvs, κ, h1, h2, h3, rfl, rfl⟩ | ⟨kvs, b, κ, h1, h2, h3, h4, rfl, h5, h6, _⟩
    · refine .inr (.inl ⟨a, kvs, κ, rfl, rfl, h1, ?_⟩)
      rw [(flat_get h3).2, Bool.bne_true, ← repL_keys h2]
      exact k.now hm (.bl _)
    · refine .inr (.inr ⟨a, b, kvs, κ, rfl, rfl, h1, nkAts h2 h3, h6, ?_⟩)
      rw [(nest_get h5 h2 h4).2, Bool.bne_true]
      exact k.now hm (.bl _)
  · exact .inl (q0 T H m x y v u _ hm rx ry (by unfold ninD; rw [hb]; rfl) Q k)
def ixA (m : M) (x y : D) : Option D := match dicOf m x with
  | some (ks, vs) => if headOk ks y then dGet ks vs y else none
  | none => ixD m x y
theorem de_ixA {a b : Expr} {fa fb : EF} {k : Nat} (gd : Gd k X) (ha : DE X a fa) (hb : DE X b fb) (hs : PlainIx b := by exact fun _ _ => rfl) : DE X (.Subscript a b pos) (eOp ixA fa fb) := by
  obtain ⟨ta, pa, ra⟩ := ha.ex; obtain ⟨tb, pb, rb⟩ := hb.ex
  refine ⟨_, pe_ix (ixR_or (ixR_or ix_tup (ixR_or ix_str ix_list)) (ixR_or ix_F (ix_N gd))) pa pb hs, rf_op (fun T H m x y v u d hm rx ry hf Q k => ?_) ra rb⟩
  unfold ixA at hf
  split at hf
  · next ks vs hd =>
    obtain ⟨hk, hf⟩ := ite_some hf
    obtain ⟨a, rfl, dr⟩ := dic_rep hm rx hd
    rcases dic_cases dr hk ry with ⟨kvs, κ, h1, h2, h3, rfl, rfl⟩ | ⟨kvs, b, κ, h1, h2, h3, h4, rfl, h5, h6, _⟩
    · rw [repL_keys h2] at hf
      obtain ⟨w, e1, q⟩ := (flat_get h3).1 d hf
      exact .inr (.inl ⟨a, kvs, κ, w, rfl, h1, rfl, e1, k.now hm q⟩)
    · obtain ⟨w, e1, q⟩ := (nest_get h5 h2 h4).1 d hf
      exact .inr (.inr ⟨a, b, kvs, κ, w, rfl, rfl, h1, nkAts h2 h3, h6, e1, k.now hm q⟩)
  · left
    rcases ixD_some hf with ⟨ds, i, rfl, rfl, h⟩ | ⟨z, i, c, rfl, rfl, hz, h, rfl⟩ | ⟨ds, i, h1, rfl, h⟩
    · obtain ⟨p, vs, rfl, hx, r1⟩ := tup_rep rx
      cases ry
      obtain ⟨w, e, q⟩ := r1.atI h
      exact .inl ⟨p, vs, i, w, rfl, rfl, hx, e, k.now hm q⟩
    · cases rx; cases ry
      exact .inr (.inl ⟨z, i, c, rfl, rfl, hz, h, k.now hm (.str _)⟩)
    · obtain ⟨p, vs, rfl, hx, r1⟩ := lstR_rep hm rx h1
      cases ry
      obtain ⟨w, e, q⟩ := r1.atI h
      exact .inr (.inr ⟨p, vs, i, w, rfl, rfl, hx, e, k.now hm q⟩)
def orS (r q : TSet) : TSet := fun o i v H Q => r o i v H Q ∨ q o i v H Q
theorem set_or {r q : TSet} (h1 : PSet X r) (h2 : PSet X q) : PSet X (orS r q) := by
  intro pins s σ H o i v ov iv u Q I ro ri rv h
  rcases h with h | h
  · exact h1 pins s σ H o i v ov iv u Q I ro ri rv h
  · exact h2 pins s σ H o i v ov iv u Q I ro ri rv h
def setO (o : O) (y d : D) : Option O := match o, y with
  | .lst ds, .int k => (L2.ixN ds.length k).map fun j => .lst (ds.set j d)
  | .dic ks vs, y => if headOk ks y ∧ ks.length < sizeLine then some (.dic (dPutK ks y) (dPutV ks vs y d)) else none
  | _, _ => none
def setM (m : M) (x y d : D) : Option M := match x with
  | .ref n => ((m[n]?).bind fun o => setO o y d).map fun o => m.set n o
  | _ => none
def gSetA (o i : EF) : GF := fun d ρ m => bd (o ρ m) fun x m1 => bd (i ρ m1) fun y m2 => (setM m2 x y d).map fun m3 => (ρ, m3)
theorem dg_subA {i : Expr} {fo fi : EF} {k : Nat} (gd : Gd k X) (ho : DE X o fo) (hi : DE X i fi) (hx : ∀ v, assign (.Subscript o i pos) X.env v = (do
      let ov ← holding [v] (eval o X.env)
      let iv ← holding [v, ov] (eval i X.env)
      standAt pos
      holding [v, ov, iv] (setItem ov iv v)
      release [v, ov, iv] []) := by intro _; rfl) : DG X (.Subscript o i pos) (gSetA fo fi) := by
  obtain ⟨to, po, ro⟩ := ho.ex; obtain ⟨ti, pi, ri⟩ := hi.ex
  refine ⟨_, pg_sub po pi (set_or set_list (set_or (set_F gd) (set_N gd))) hx, fun T σ H ρ m d v ρ' m' hm hs r hf Q k => ?_⟩
  obtain ⟨x, m1, e1, hf1⟩ := bd_some hf
  obtain ⟨y, m2, e2, hf2⟩ := bd_some hf1
  clear hf hf1
  refine ro T σ H ρ m x m1 hm hs e1 _ fun u T1 H1 l1 hm1 r1 => ?_
  refine ri T1 σ H1 ρ m1 y m2 hm1 (hs.le l1) e2 _ fun w T2 H2 l2 hm2 r2 => ?_
  obtain ⟨m3, h3, h4⟩ := Option.map_eq_some_iff.mp hf2
  obtain ⟨rfl, rfl⟩ : ρ = ρ' ∧ m3 = m' := by injection h4 with a b; exact ⟨a, b⟩
  have r1' := r1.le l2
  have rd := r.le (l1.trans l2)
  have fin : ∀ H3, Le T2 H2 T2 H3 → RepH (gx X) T2 H3 m3 → Q σ H3 := fun H3 l hm3 => k σ T2 H3 (l1.trans (l2.trans l)) hm3 (hs.le (l1.trans (l2.trans l)))
  cases r1' with
  | @ref n a ea =>
    obtain ⟨ob', h5, h6⟩ := Option.map_eq_some_iff.mp h3
    obtain ⟨ob, h7, h8⟩ := Option.bind_eq_some_iff.mp h5
    subst h6
    have hrep := hm2.at_ _ _ _ ea h7
    cases ob with
    | lst ds =>
      cases hrep with
      | @lst _ vs hH rl =>
        cases r2 with
        | int kk =>
          obtain ⟨j, hj, rfl⟩ := Option.map_eq_some_iff.mp h8
          refine .inl ⟨a, vs, kk, j, rfl, rfl, hH, by rw [← rl.length]; exact hj, ?_⟩
          obtain ⟨l3, hm3⟩ := hm2.put (u := .lst (vs.set j v)) (o := .lst (ds.set j d)) ea fun l => .lst upd_same ((rl.le l).setAt (rd.le l))
          exact fin _ l3 hm3
        | _ => cases h8
    | dic ks vs =>
      have h8' : (if headOk ks y = true ∧ ks.length < sizeLine then some (O.dic (dPutK ks y) (dPutV ks vs y d)) else none) = some ob' := by
        cases y <;> exact h8
      obtain ⟨⟨hk, hz⟩, h9⟩ := ite_some h8'
      cases h9
      have dr : DicR X T2 H2 a ks vs := by
        cases hrep with
        | dicF f r q => exact .flat (.inl f) r q
        | dicN f k r q => exact .nest (.inl f) k r q
      have nofrz : ∀ u, Rd H2 a u → Mu u ∨ True → (∀ ob w, H2 a = some (.frz ob w) → False) → H2 a = some u := fun u h _ nf => by
        rcases h with h | ⟨ob, h⟩
        · exact h
        · exact (nf ob u h).elim
      have nf : ∀ ob w, H2 a = some (.frz ob w) → False := fun ob w h => by
        obtain ⟨u, e, q⟩ := hrep.has
        rw [h] at e
        cases e
        exact q
      clear h3
      rcases dic_cases dr hk r2 with ⟨kvs, κ, h1, h2, h3, rfl, rfl⟩ | ⟨kvs, b, κ, h1, h2, h3, h4, rfl, h5, h6, hor⟩
      · have hH := nofrz _ h1 (.inr trivial) nf
        refine .inr (.inl ⟨a, kvs, κ, rfl, rfl, hH, by have := h2.length; simp at this; omega, ?_⟩)
        obtain ⟨l3, hm3⟩ := hm2.put (u := .dK (putK kvs κ v)) (o := .dic (dPutK ks (keyD κ)) (dPutV ks vs (keyD κ) d)) ea fun l => by
          obtain ⟨z1, z2⟩ := flat_put (κ := κ) (h2.le l) (h3.le l) (rd.le l)
          exact .dicF upd_same z1 z2
        exact fin _ l3 hm3
      · refine .inr (.inr ⟨a, b, kvs, κ, rfl, rfl, hor.elim (fun h => .inl (nofrz _ h (.inr trivial) nf)) (fun h => .inr ⟨h.1, nofrz _ h.2 (.inr trivial) nf⟩), nkAts h2 h3, h6, by have := h3.length; simp at this; omega, ?_⟩)
        obtain ⟨l3, hm3⟩ := hm2.put (u := dnO (gx X) a (nPut kvs κ b v)) (o := .dic (dPutK ks y) (dPutV ks vs y d)) ea fun l => by
          obtain ⟨z1, z2, z3⟩ := nest_put h5 (r2.le l) (rd.le l) h2 (h3.le l) (h4.le l)
          refine .dicN upd_same ⟨z1, ?_⟩ z2 z3
          unfold nPut
          split
          · next hh => intro e; cases kvs with
            | nil => cases hh
            | cons _ _ => cases e
          · simp
        exact fin _ l3 hm3
    | ins c ns vs => cases y <;> cases h8
  | _ => cases h3
end
end L4
namespace L4
open PySem PySem.Spec PyProof.Rows L2
section
variable {X : Cx} {g : G} {T T' : Tk} {H : Hp} {m : M} {Q : VK} {pos p apos : Pos} {e o : Expr} {es : List Expr} {k n : Nat} {x c nm : Str}
theorem FnG.code {f : Addr} {fd : FuncData} {ps : List Str} {sp : Sp} {pins : List (Addr × Obj)} {σ : L2.St} {s : Shared} {us : List Value} {vs : List V} (F : FnG X.prog X.w X.K X.mg X.base CX0 k f fd ps sp) (hr : Gd k X) (hb : Binds X.K fd ps []) (I : Inv X pins σ H s) (r : Vals vs us) (h : sp vs H Q E0) :
    codeAny (model X.prog X.w) X.A (.call (.ref f) ⟨us, []⟩) (fun r s' => match r with | .ok (.ret v) => EP X pins σ Q v s' | .ok _ => False | .error e => X.xe e s') s := by
  have hl : us.length = ps.length := by rw [← r.length]; exact F.len _ _ _ _ h
  have b := hb s us I.kIn (by rw [List.append_nil]; exact hl)
  rw [List.append_nil] at b
  refine codeAny_mono (F.run X.A X.stack s H ⟨us, []⟩ us vs Q E0 hr.g hr.r I.env0 b r h) fun r s' hq => ?_
  match r, hq with
  | .error _, z => exact z.elim
  | .ok (.ret u), z => exact I.after z
/-- cls(*a, ..): a local that holds a class -/
def eNewPL (i : Nat) (c : Str) (F : List D → M → Option (D × M)) (a : AF) : EF := fun ρ m => match ρ.getD i none with
  | some (.glo c') => if c' = c then eCall (pureC (newP c F)) a ρ m else none
  | _ => none
def allD : M → List D → Option D
  | m, [x] => ((lstR m x).bind bools).map fun bs => .bl (bs.all id)
  | _, _ => none
theorem call_all' (hc : X.calm = true) : CallD X (.builtin "all") allD := ⟨_, cr_all hc, fun T H m xs vs d hm r hf Q k => by
  unfold allD at hf; split at hf
  · obtain ⟨bs, h1, rfl⟩ := Option.map_eq_some_iff.mp hf
    obtain ⟨ds, h2, h3⟩ := Option.bind_eq_some_iff.mp h1
    obtain ⟨v, rfl, q⟩ := r.one
    obtain ⟨a, ws, rfl, hx, rl⟩ := lstR_rep hm q h2
    rw [bools_rep h3 rl] at hx
    exact ⟨a, bs, rfl, hx, k.now hm (.bl _)⟩
  · cases hf⟩
def tblGet (tb : List (Str × D)) (y : D) : Option D := match y with
  | .str z => tb.lookup z
  | _ => none
structure Tbl (X : Cx) (x : Str) (tb : List (Str × D)) : Prop where
  ex : ∃ es n, KDict X.K X.w (He.ga X.K x) es n
  val : ∀ q ∈ tb, ∃ u v, PySem.W.nsIn X.K (He.ga X.K x) q.1 = some (some u) ∧ RelV v u ∧ ∀ T H, Rep (gx X) T H q.2 v
  no : ∀ z, tb.lookup z = none → PySem.W.nsIn X.K (He.ga X.K x) z = some none
theorem lookup_mem {tb : List (Str × D)} {z : Str} {d : D} (h : tb.lookup z = some d) : (z, d) ∈ tb := by
  induction tb with
  | nil => cases h
  | cons p tb ih =>
    simp only [List.lookup] at h
    split at h
    · next hz => cases h; rw [beq_iff_eq.mp hz]; exact List.mem_cons_self ..
    · exact List.mem_cons_of_mem _ (ih h)
def eTbl (tb : List (Str × D)) (a : EF) : EF := fun ρ m => bd (a ρ m) fun y m1 => pu (tblGet tb y) m1
def eTblNin (tb : List (Str × D)) (a : EF) : EF := fun ρ m => bd (a ρ m) fun y m1 => match y with
  | .str z => some (.bl (!(tb.lookup z).isSome), m1)
  | _ => none
theorem Tbl.ns {tb : List (Str × D)} (ht : Tbl X x tb) (z : Str) : ∃ r, PySem.W.nsIn X.K (He.ga X.K x) z = some r ∧ r.isSome = (tb.lookup z).isSome := by
  cases h : tb.lookup z with
  | none => exact ⟨none, ht.no z h, rfl⟩
  | some d =>
    obtain ⟨u, w, h1, _⟩ := ht.val (z, d) (lookup_mem h)
    exact ⟨some u, h1, rfl⟩
end
end L4
namespace L4
open PySem PySem.Spec PyProof.Rows L2
section
variable {X : Cx} {g : G} {T T' : Tk} {H : Hp} {m : M} {Q : VK} {pos p apos : Pos} {e o : Expr} {es : List Expr} {k n : Nat} {x c nm : Str}
def popAtL (ds ys : List D) : Option (D × List D) := match ys with
  | [.int i] => if -(2 ^ 63) ≤ i ∧ i < 2 ^ 63 then match seqIndex? i ds.length with
      | some k => match ds[k]? with
        | some y => some (y, ds.eraseIdx k)
        | none => none
      | none => none
    else none
  | _ => none
theorem RepL.erase {ds : List D} {vs : List V} (k : Nat) (r : RepL g T H ds vs) : RepL g T H (ds.eraseIdx k) (vs.eraseIdx k) := by
  rw [List.eraseIdx_eq_take_drop_succ, List.eraseIdx_eq_take_drop_succ]
  exact (r.take _).append (r.drop _)
theorem rfl_popAt : RfLm g rPopAt (fun _ => popAtL) := by
  intro T H m l xs ds ys vs d es hm hl rd ry hf Q k
  change popAtL ds ys = some (d, es) at hf
  unfold popAtL at hf
  split at hf
  · next i =>
    obtain ⟨⟨h1, h2⟩, hf⟩ := ite_some hf
    split at hf
    · next j hj =>
      split at hf
      · next y hy =>
        cases hf
        obtain ⟨v, rfl, q⟩ := ry.one
        cases q
        obtain ⟨w, ew, qw⟩ := rd.get hy
        exact ⟨l, xs, i, j, w, rfl, rfl, hl, h1, h2, by rw [← rd.length]; exact hj, ew, k _ _ (rd.erase j) qw⟩
      · cases hf
    · cases hf
  · cases hf
theorem de_popAt {fo : EF} {f : AF} (ho : DE X o fo) (ha : DA X [e] f) (hbase : attributeBase o "pop" X.env (eval o X.env) = eval o X.env := by rfl) (hline : (apos.endLine == pos.line) = true := by rfl) (hs : starEach [e] X.env = [(false, eval e X.env)] := by rfl)
    (hfew : ((backTo pos (starEach [e] X.env)).all (fun x => !x.1) && (backToKw pos (keywordEach [] X.env)).all (fun x => x.1.isSome) && decide ([e].length + ([] : List Keyword).length + (if ([] : List Keyword).isEmpty then 0 else 1) < 30)) = true := by rfl) :
    DE X (.Call (.Attribute o "pop" apos) [e] [] pos) (eLm0 (fun _ => popAtL) fo f) := de_lm PySem.F.slot_list_pop PySem.F.type_list_pop mt_popAt rfl_popAt ho ha hbase hfew hline hs rfl
end
end L4
namespace L4
open PySem PySem.Spec PyProof.Rows L2
end L4
namespace L4
open PySem PySem.Spec PyProof.Rows L2
section
variable {X : Cx} {g : G} {T T' : Tk} {H : Hp} {m : M} {Q : VK} {pos p apos : Pos} {e o : Expr} {es : List Expr} {k n : Nat} {x c nm : Str}
def forRef (f : GF) (b : SF) (n : Nat) : Nat → Nat → SF
  | 0, _ => fun _ _ => none
  | k + 1, i => fun ρ m => match (m[n]?).bind lstO with
    | none => none
    | some ds => match ds[i]? with
      | none => some (.nx ρ, m)
      | some x => bd (f x ρ m) fun ρ1 m1 => bd (b ρ1 m1) fun r m2 => match r with
        | .nx ρ2 => forRef f b n k (i + 1) ρ2 m2
        | .ct ρ2 => forRef f b n k (i + 1) ρ2 m2
        | .bk ρ2 => some (.nx ρ2, m2)
        | .rt d => some (.rt d, m2)
def sForA (fuel : Nat) (a : EF) (f : GF) (b : SF) : SF := fun ρ m => bd (a ρ m) fun x m1 => match x with
  | .ref n => forRef f b n fuel 0 ρ m1
  | x => match items x with
    | some xs => forGo f b xs ρ m1
    | none => none
theorem ds_forA {tg : Expr} {body : List Stmt} {fi : EF} {fg : GF} {fb : SF} (fuel : Nat) (hp : PassesOwn (model X.prog X.w) X.A X.env X.xe) (hc : X.calm = true) (hi : DE X e fi) (hg : DG X tg fg) (hb : DSs X body fb)
    (hs : ∀ x, foldedSetIterable e X.env x = pure x := by intro _; rfl) : DS X (.For tg e body [] pos) (sForA fuel fi fg fb) := by
  obtain ⟨ti, pi, ri⟩ := hi.ex; obtain ⟨tg', pg, rg⟩ := hg.ex; obtain ⟨tb, pb, rb⟩ := hb.ex
  obtain ⟨_, _, rI⟩ := (di_any (tg := tg) hi).ex
  obtain ⟨t2, p2, r2⟩ := (ds_for (pos := pos) hp hc (di_any (tg := tg) hi) hg hb hs).ex
  refine ⟨fun D σ H => tFor (iAny X.K ti) tg' tb D σ H ∨ t2 D σ H, ⟨fun pins s σ H D I h => ?_⟩, fun T σ H ρ m r m' hm hs hf D k => ?_⟩
  · rcases h with h | h
    · exact (ps_for hp hc (pi_any pi) pg pb hs).run pins s σ H D I h
    · exact p2.run pins s σ H D I h
  · obtain ⟨x, m1, e1, hf1⟩ := bd_some hf
    clear hf
    by_cases hx : ∃ n, x = .ref n
    · obtain ⟨n, rfl⟩ := hx
      left
      refine ri T σ H ρ m _ m1 hm hs e1 _ fun v T0 H0 l0 hm0 r0 => ?_
      cases r0 with
      | @ref _ a ea =>
        cases fuel with
        | zero => cases hf1
        | succ fuel =>
          change forRef fg fb n (fuel + 1) 0 ρ m1 = some (r, m') at hf1
          have hf1' := hf1
          unfold forRef at hf1
          split at hf1
          · cases hf1
          · next ds hds =>
            obtain ⟨ob, h1, h2⟩ := Option.bind_eq_some_iff.mp hds
            have hro := hm0.at_ _ _ _ ea h1
            cases hro with
            | @lst _ vs hH rl =>
              cases h2
              refine .inl ⟨a, rfl, ⟨_, SqL.of hH⟩, ?_⟩
              refine ⟨fun i j σ1 H1 => ∃ T1 ρ1 m1, Le T0 H0 T1 H1 ∧ RepH (gx X) T1 H1 m1 ∧ RepS (gx X) T1 H1 σ1 ρ1 ∧ forRef fg fb n j i ρ1 m1 = some (r, m'), ⟨fuel + 1, T0, ρ, m1, .refl, hm0, hs.le l0, hf1'⟩, ?_⟩
              rintro i j σ1 H1 ⟨T1, ρ1, m2, l1, hm1, hs1, hfj⟩
              cases j with
              | zero => cases hfj
              | succ j =>
                unfold forRef at hfj
                split at hfj
                · cases hfj
                · next ds1 hd1 =>
                  obtain ⟨ob1, h3, h4⟩ := Option.bind_eq_some_iff.mp hd1
                  have ea1 := l1.get ea
                  cases hm1.at_ _ _ _ ea1 h3 with
                  | @lst _ vs1 hH1 rl1 =>
                    cases h4
                    split at hfj
                    · next hn =>
                      cases hfj
                      left
                      refine ⟨⟨vs1, SqL.of hH1, ?_⟩, k σ1 T1 H1 (l0.trans l1) hm1 hs1⟩
                      rw [← rl1.length]
                      exact List.getElem?_eq_none_iff.mp hn
                    · next y hy =>
                      right
                      obtain ⟨w, ew, qw⟩ := rl1.get hy
                      refine ⟨⟨vs1, w, SqL.of hH1, ew⟩, _, fun _ _ q => q, fun z H2 ⟨eH, hz⟩ => ?_⟩
                      subst eH
                      have : z = w := by
                        have := hz vs1 (SqL.of hH1)
                        rw [ew] at this
                        exact (Option.some.inj this).symm
                      subst this
                      obtain ⟨ρ3, m3, e3, hf3⟩ := bd_some hfj
                      refine rg T1 σ1 _ ρ1 m2 y z ρ3 m3 hm1 hs1 qw e3 _ fun σ3 T3 H3 l3 hm3 hs3 => ?_
                      obtain ⟨fl, m4, e4, hf4⟩ := bd_some hf3
                      refine rb T3 σ3 H3 ρ3 m3 fl m4 hm3 hs3 e4 _ ?_
                      have l13 := l1.trans l3
                      cases fl with
                      | nx ρ4 => exact fun σ4 T4 H4 l4 hm4 hs4 => ⟨j, Nat.lt_succ_self _, T4, ρ4, m4, l13.trans l4, hm4, hs4, hf4⟩
                      | ct ρ4 => exact fun σ4 T4 H4 l4 hm4 hs4 => ⟨j, Nat.lt_succ_self _, T4, ρ4, m4, l13.trans l4, hm4, hs4, hf4⟩
                      | bk ρ4 => cases hf4; exact KS.le (l0.trans l13) k
                      | rt d => cases hf4; exact KV.le (l0.trans l13) k
                  | _ => cases h4
            | _ => cases h2
    · right
      refine r2 T σ H ρ m r m' hm hs ?_ D k
      unfold sFor iIt
      rw [e1]
      simp only [bd_go]
      cases x with
      | ref n => exact absurd ⟨n, rfl⟩ hx
      | tup ds => exact hf1
      | lst ds => exact hf1
      | scr ds => exact hf1
      | str ds => exact hf1
      | _ => cases hf1
end
end L4
namespace L4
open PySem PySem.Spec PyProof.Rows L2
theorem repL_ints {g : G} {T : Tk} {H : Hp} (ns : List Int) : RepL g T H (ns.map D.int) (ns.map V.int) := by
  induction ns with
  | nil => exact .nil
  | cons n ns ih => exact .cons (.int n) ih
end L4
namespace L4
open PySem
theorem ixA_lst {m : M} {ds : List D} {i : Int} : ixA m (.lst ds) (.int i) = L2.atI ds i := by
  simp [ixA, dicOf, ixD, lstR, lstOf]
theorem pow18 (m : M) : powD m (.int 10) (.int 18) = some (.int 1000000000000000000) := by
  have h : (match powD [] (.int 10) (.int 18) with | some (.int i) => decide (i = 1000000000000000000) | _ => false) = true := by decide +kernel
  have e : powD m (.int 10) (.int 18) = powD [] (.int 10) (.int 18) := rfl
  rw [e]
  revert h
  generalize powD [] (.int 10) (.int 18) = z
  intro h
  split at h
  · rw [of_decide_eq_true h]
  · cases h
/-- a loop by what holds at each turn -/
theorem forGo_inv {f : GF} {b : SF} (I : Nat → Ss → M → Prop) : ∀ (xs : List D) (i : Nat) (ρ : Ss) (m : M), I i ρ m →
    (∀ j x ρ m, xs[j]? = some x → I (i + j) ρ m → ∃ ρ1 m1, f x ρ m = some (ρ1, m1) ∧ ∃ r m2, b ρ1 m1 = some (r, m2) ∧ ∃ ρ2, (r = .nx ρ2 ∨ r = .ct ρ2) ∧ I (i + j + 1) ρ2 m2) →
    ∃ ρ' m', forGo f b xs ρ m = some (.nx ρ', m') ∧ I (i + xs.length) ρ' m'
  | [], i, ρ, m, h0, _ => ⟨ρ, m, rfl, h0⟩
  | x :: xs, i, ρ, m, h0, hs => by
    obtain ⟨ρ1, m1, e1, r, m2, e2, ρ2, hr, h2⟩ := hs 0 x ρ m rfl h0
    obtain ⟨ρ', m', e3, h3⟩ := forGo_inv I xs (i + 1) ρ2 m2 h2 fun j y ρ m hj hI => by
      have := hs (j + 1) y ρ m (by simpa using hj) (by rw [show i + (j + 1) = i + 1 + j by omega]; exact hI)
      rw [show i + (j + 1) + 1 = i + 1 + j + 1 by omega] at this
      exact this
    refine ⟨ρ', m', ?_, by rw [List.length_cons, show i + (xs.length + 1) = i + 1 + xs.length by omega]; exact h3⟩
    simp only [forGo, e1, bd_go, e2]
    rcases hr with rfl | rfl <;> exact e3
end L4
namespace L4
open PySem PySem.Spec PyProof.Rows L2
section
variable {X : Cx} {g : G} {T T' : Tk} {H : Hp} {m : M} {Q : VK} {pos p apos : Pos} {e o : Expr} {es : List Expr} {k n : Nat} {x c nm : Str}
/-- pairs, from the left -/
def pairsF : List (EF × EF) → Ss → M → Option (List (D × D) × M)
  | [], _, m => some ([], m)
  | (a, b) :: r, ρ, m => bd (a ρ m) fun x m1 => bd (b ρ m1) fun y m2 => bd (pairsF r ρ m2) fun ps m3 => some ((x, y) :: ps, m3)
def mergeD : List (D × D) → List D × List D → List D × List D
  | [], z => z
  | (x, y) :: ps, (ks, vs) => mergeD ps (dPutK ks x, dPutV ks vs x y)
def eDisp (nw : Bool) (ps : List (EF × EF)) : EF := fun ρ m => bd (pairsF ps ρ m) fun qs m1 =>
  if (qs.all fun q => isFlat q.1) && decide (qs.length ≤ 15) then some (bif nw then (.ref m1.length, m1 ++ [.dic (mergeD qs ([], [])).1 (mergeD qs ([], [])).2]) else (.dic (mergeD qs ([], [])).1 (mergeD qs ([], [])).2, m1)) else none
structure DPs (X : Cx) (pos : Pos) (keys : List (Option Expr)) (values : List Expr) (ps : List (EF × EF)) : Prop where
  ex : ∃ trs, PPs X pos keys values trs ∧ ∀ T σ H ρ m qs m', RepH (gx X) T H m → RepS (gx X) T H σ ρ → pairsF ps ρ m = some (qs, m') → ∀ Q : List (V × V) → Hp → Prop,
    (∀ vs T' H', Le T H T' H' → RepH (gx X) T' H' m' → RepL (gx X) T' H' (qs.map Prod.fst) (vs.map Prod.fst) → RepL (gx X) T' H' (qs.map Prod.snd) (vs.map Prod.snd) → Q vs H') → tPairs trs σ H Q
theorem dps_nil : DPs X pos [] [] [] := ⟨[], pps_nil, fun T σ H ρ m qs m' hm hs hf Q k => by cases hf; exact k [] T H .refl hm .nil .nil⟩
theorem dps_cons {a b : Expr} {ks : List (Option Expr)} {vs : List Expr} {fa fb : EF} {ps : List (EF × EF)} (ha : DE X a fa) (hb : DE X b fb) (hr : DPs X pos ks vs ps) : DPs X pos (some a :: ks) (b :: vs) ((fa, fb) :: ps) := by
  obtain ⟨ta, pa, ra⟩ := ha.ex; obtain ⟨tb, pb, rb⟩ := hb.ex; obtain ⟨tr, pr, rr⟩ := hr.ex
  refine ⟨_, pps_cons pa pb pr, fun T σ H ρ m qs m' hm hs hf Q k => ?_⟩
  obtain ⟨x, m1, e1, hf⟩ := bd_some hf
  obtain ⟨y, m2, e2, hf⟩ := bd_some hf
  obtain ⟨qs, m3, e3, hf⟩ := bd_some hf
  cases hf
  refine ra T σ H ρ m x m1 hm hs e1 _ fun v T1 H1 l1 hm1 r1 => ?_
  refine rb T1 σ H1 ρ m1 y m2 hm1 (hs.le l1) e2 _ fun u T2 H2 l2 hm2 r2 => ?_
  refine rr T2 σ H2 ρ m2 qs _ hm2 ((hs.le l1).le l2) e3 _ fun ws T3 H3 l3 hm3 r3 r4 => ?_
  exact k _ T3 H3 (l1.trans (l2.trans l3)) hm3 (.cons ((r1.le l2).le l3) r3) (.cons (r2.le l3) r4)
theorem flats {qs : List (D × D)} {vs : List (V × V)} (h : (qs.all fun q => isFlat q.1) = true) (r1 : RepL g T H (qs.map Prod.fst) (vs.map Prod.fst)) (r2 : RepL g T H (qs.map Prod.snd) (vs.map Prod.snd)) :
    ∃ kvs : List (Key × V), vs = kvs.map (fun kv => (kV kv.1, kv.2)) ∧ qs.map Prod.fst = kvs.map (fun kv => keyD kv.1) ∧ RepL g T H (qs.map Prod.snd) (kvs.map Prod.snd) := by
  induction qs generalizing vs with
  | nil => cases vs with
    | nil => exact ⟨[], rfl, rfl, .nil⟩
    | cons _ _ => cases r1
  | cons q qs ih => cases vs with
    | nil => cases r1
    | cons v vs =>
      obtain ⟨h1, h2⟩ := and2 h
      cases r1 with
      | cons a1 b1 =>
        cases r2 with
        | cons a2 b2 =>
          obtain ⟨kvs, rfl, e2, r3⟩ := ih h2 b1 b2
          obtain ⟨κ, hκ⟩ := flat_key h1
          rw [hκ] at a1
          have ev : v.1 = kV κ := by
            cases κ with
            | inl i => cases hv : v.1 <;> rw [hv] at a1 <;> cases a1; rfl
            | inr i => cases hv : v.1 <;> rw [hv] at a1 <;> cases a1; rfl
          refine ⟨(κ, v.2) :: kvs, ?_, ?_, .cons a2 r3⟩
          · rw [List.map_cons, ← ev]
          · rw [List.map_cons, List.map_cons, e2, hκ]
theorem merge_rep : ∀ {qs : List (D × D)} {kvs acc : List (Key × V)} {ks vs : List D}, qs.map Prod.fst = kvs.map (fun kv => keyD kv.1) → RepL g T H (qs.map Prod.snd) (kvs.map Prod.snd) → RepL g T H ks (acc.map fun p => kV p.1) → RepL g T H vs (acc.map Prod.snd) →
    RepL g T H (mergeD qs (ks, vs)).1 ((mergeK acc kvs).map fun p => kV p.1) ∧ RepL g T H (mergeD qs (ks, vs)).2 ((mergeK acc kvs).map Prod.snd)
  | [], [], _, _, _, _, _, r1, r2 => ⟨r1, r2⟩
  | [], _ :: _, _, _, _, e, _, _, _ => by cases e
  | _ :: _, [], _, _, _, e, _, _, _ => by cases e
  | (x, y) :: qs, (κ, v) :: kvs, acc, ks, vs, e, r, r1, r2 => by
    have e1 : x = keyD κ := (List.cons.inj e).1
    have e2 := (List.cons.inj e).2
    subst e1
    cases r with
    | cons ry rr =>
      obtain ⟨h1, h2⟩ := flat_put (κ := κ) r1 r2 ry
      exact merge_rep (qs := qs) (kvs := kvs) (acc := putK acc κ v) e2 rr h1 h2
theorem Made.newO {p : Addr} {u : HO} (hu : Mu u) (hm : RepH g T H m) (hp : H p = none) : RepH g (T.forb p) (upd H p u) m ∧ Le T H (T.forb p) (upd H p u) := by
  have l : Le T H (T.forb p) (upd H p u) := ⟨List.prefix_rfl, fun a v e _ _ => by rw [upd_ne (ne_of_none e hp)]; exact e, rfl, fun q _ v e => ⟨v, by rw [upd_ne (ne_of_none e hp)]; exact e⟩, fun a ha n => by
    rcases List.mem_cons.mp ha with rfl | z
    · exact hp
    · exact absurd z n, fun a ha n => absurd ha n, fun a h => List.mem_cons_of_mem _ h⟩
  refine ⟨⟨hm.len, hm.nd, fun a ha => ?_, fun n a o h1 h2 => (hm.at_ n a o h1 h2).le l ?_, fun q hq => ⟨(hm.tabs q hq).1, (hm.tabs q hq).2.le (fun v e => by rw [upd_ne (ne_of_none e hp)]; exact e) fun c v n e => ⟨fun z => ?_, by rw [upd_ne (ne_of_none e hp)]; exact e⟩⟩⟩, l⟩
  · rcases List.mem_cons.mp ha with rfl | z
    · exact ⟨_, upd_same, hu⟩
    · obtain ⟨v, e, q⟩ := hm.has a z
      exact ⟨v, by rw [upd_ne (ne_of_none e hp)]; exact e, q⟩
  · obtain ⟨v, e, _⟩ := (hm.at_ n a o h1 h2).has
    rw [upd_ne (ne_of_none e hp)]
  · rcases List.mem_cons.mp z with z | z
    · rw [z, hp] at e
      cases e
    · exact n z
/-- a new object that stood forbidden is done: as it is, or tracked -/
theorem forb_fin {p : Addr} {u0 u : HO} {H1 : Hp} {T1 : Tk} {m1 : M} (hp : H p = none) (hm : RepH g T H m) (l : Le (T.forb p) (upd H p u0) T1 H1) (hm1 : RepH g T1 H1 m1) (hu : Mu u) :
    ∃ T2 : Tk, Le T H T2 (upd H1 p u) ∧ RepH g T2 (upd H1 p u) m1 ∧ p ∉ T2.ν ∧ (∀ ds vs, RepL g T1 H1 ds vs → RepL g T2 (upd H1 p u) ds vs) ∧
      Le T H (T2.push p) (upd H1 p u) ∧ (∀ ds vs, RepL g T1 H1 ds vs → RepL g (T2.push p) (upd H1 p u) ds vs) ∧ ∀ o, RepO g (T2.push p) (upd H1 p u) p o → RepH g (T2.push p) (upd H1 p u) (m1 ++ [o]) := by
  have np : p ∉ T.ν := hm.nope hp
  have start : Le T H T (upd H p u0) := ⟨List.prefix_rfl, fun a v e _ _ => by rw [upd_ne (ne_of_none e hp)]; exact e, rfl, fun q _ v e => ⟨v, by rw [upd_ne (ne_of_none e hp)]; exact e⟩, fun a h n => absurd h n, fun a h n => absurd h n, fun a h => h⟩
  obtain ⟨T2, e1, e2, e3, l2, e4⟩ := start.unforb hp np ⟨_, upd_same⟩ l
  have etb : T1.τ = T.τ := l.tb
  have npτ : ∀ q ∈ T1.τ, q.1 ≠ p := fun q hq z => np (by rw [← z]; exact T.subτ q (by rw [← etb]; exact hq))
  have hpT1 : p ∈ T1.ν := (e3 p).mp (List.mem_cons_self ..)
  have npμ : p ∉ T1.μ := fun z => e2 (T2.sub p (by rw [e1]; exact z))
  have sub : ∀ a ∈ T2.ν, a ∈ T1.ν := fun a h => (e3 a).mp (List.mem_cons_of_mem _ h)
  have l3 : Le T H T2 (upd H1 p u) := ⟨l2.pre, fun a v e n t => by rw [upd_ne (ne_of_none e hp)]; exact l2.keep a v e n t, l2.tb, fun q hq v e => by rw [upd_ne (ne_of_none e hp)]; exact l2.tk q hq v e, l2.new, l2.newμ, l2.up⟩
  have hm2 : RepH g T1 (upd H1 p u) m1 := ⟨hm1.len, hm1.nd, fun a ha => by
    by_cases z : a = p
    · rw [z]; exact ⟨_, upd_same, hu⟩
    · obtain ⟨v, e, q⟩ := hm1.has a ha
      exact ⟨v, by rw [upd_ne z]; exact e, q⟩, fun n a o h1 h2 => (hm1.at_ n a o h1 h2).upF hpT1 (by rintro rfl; exact npμ (List.mem_of_getElem? h1)), fun q hq => ⟨(hm1.tabs q hq).1, (hm1.tabs q hq).2.le (fun v e => by rw [upd_ne (npτ q hq)]; exact e) fun c v n e => ⟨n, by rw [upd_ne (show c ≠ p from fun z => n (by rw [z]; exact hpT1))]; exact e⟩⟩⟩
  have sub3 : ∀ a ∈ (T2.push p).ν, a ∈ T1.ν := fun a h => (e3 a).mp (forb_push h)
  have pre3 : T1.μ <+: (T2.push p).μ := by
    show T1.μ <+: T2.μ ++ [p]
    rw [e1]; exact List.prefix_append _ _
  refine ⟨T2, l3, ⟨by rw [e1]; exact hm2.len, by rw [e1]; exact hm2.nd, fun a ha => hm2.has a (sub a ha), fun n a o h1 h2 => (hm2.at_ n a o (by rw [← e1]; exact h1) h2).wk ⟨e1, e4⟩ sub, fun q hq => by
    rw [e4] at hq
    exact ⟨by rw [e1]; exact (hm2.tabs q hq).1, (hm2.tabs q hq).2.le (fun v e => e) fun c v n e => ⟨fun z => n (sub c z), e⟩⟩⟩, e2, fun ds vs r => (r.upF hpT1 _).wk ⟨e1, e4⟩ sub _, l3.pushed hp, fun ds vs r => (r.upF hpT1 _).ext pre3 sub3 e4 _, fun o ho => ?_⟩
  exact trackIt hm2 hpT1 npμ (by show T2.μ ++ [p] = _; rw [e1]) sub3 ho e4
theorem push_ref {p : Addr} {T2 : Tk} {m1 : M} (hl : T2.μ.length = m1.length) : Rep g (T2.push p) H (.ref m1.length) (.ref p) := by
  refine .ref ?_
  show (T2.μ ++ [p])[m1.length]? = some p
  rw [← hl, List.getElem?_append_right (Nat.le_refl _)]
  simp
theorem de_disp {nw : Bool} {keys : List (Option Expr)} {values : List Expr} {ps : List (EF × EF)} (h : DPs X pos keys values ps) (hall : keys.all (·.isSome) = true := by rfl) (hl : keys.length = values.length := by rfl) (h0 : keys ≠ [] := by intro z; cases z)
    (h15 : keys.length ≤ 15 := by decide) : DE X (.Dict keys values pos) (eDisp nw ps) := by
  obtain ⟨trs, pp, rp⟩ := h.ex
  refine ⟨_, pe_disp pp hall hl h0 h15, fun T σ H ρ m d m' hm hs hf Q k p hp => ?_⟩
  obtain ⟨qs, m1, e1, hf⟩ := bd_some hf
  obtain ⟨hg, hf⟩ := ite_some hf
  have hf := Option.some.inj hf
  obtain ⟨hfl, hz⟩ := and2 hg
  have hz : qs.length ≤ 15 := of_decide_eq_true hz
  obtain ⟨hm0, l0⟩ := Made.newO (u := .dK []) trivial hm hp
  refine rp _ σ _ ρ m qs m1 hm0 (hs.le l0) e1 _ fun vs T1 H1 l1 hm1 r1 r2 => ?_
  obtain ⟨kvs, rfl, ek, r3⟩ := flats hfl r1 r2
  have hq : H1 p = some (.dK []) := l1.keep p _ upd_same (fun z => hm.nope hp (T.sub p z)) (fun q hq => Tk.outτ (hm.nope hp) q hq)
  refine ⟨hq, kvs, rfl, ?_, ?_⟩
  · have := congrArg List.length ek
    simp at this
    omega
  obtain ⟨T2, l2, hm2, np, rl, l3, rl3, hm3⟩ := forb_fin (u := .dK (mergeK [] kvs)) hp hm l1 hm1 trivial
  obtain ⟨a1, a2⟩ := merge_rep (ks := []) (vs := []) ek r3 (acc := []) .nil .nil
  cases nw with
  | false =>
    cases hf
    exact k _ _ _ l2 hm2 (.dicF np (.inl upd_same) (rl _ _ a1) (rl _ _ a2))
  | true =>
    cases hf
    exact k _ _ _ l3 (hm3 _ (.dicF upd_same (rl3 _ _ a1) (rl3 _ _ a2))) (push_ref hm2.len)
end
end L4
namespace L4
open PySem PySem.Spec PyProof.Rows PySem.W L2
end L4
namespace L4
open PySem PySem.Spec PyProof.Rows PySem.W L2
section
variable {X : Cx} {g : G} {T T' : Tk} {H : Hp} {m : M} {Q : VK} {pos p apos : Pos} {e o : Expr} {es : List Expr} {k n : Nat} {x c nm : Str}
abbrev NX := M → Nat → Option (Option D)
def ItLv (g : G) (T : Tk) (H : Hp) (J : It) (nx : NX) : Prop := ∀ T1 H1, Le T H T1 H1 → ∀ m1, RepH g T1 H1 m1 → ∀ i : Nat,
  (∀ d, nx m1 i = some (some d) → J.go i H1 ∧ ∀ x H2, J.yld i H1 x H2 → ∃ T2, Le T1 H1 T2 H2 ∧ RepH g T2 H2 m1 ∧ Rep g T2 H2 d x) ∧ (nx m1 i = some none → J.stop i H1)
theorem ItLv.le {T1 : Tk} {H1 : Hp} {J : It} {nx : NX} (l : Le T H T1 H1) (h : ItLv g T H J nx) : ItLv g T1 H1 J nx := fun T2 H2 l2 => h T2 H2 (l.trans l2)
end
end L4
namespace L4
open PySem PySem.Spec PyProof.Rows PySem.W L2
end L4
namespace L4
open PySem PySem.Spec PyProof.Rows L2
section
variable {P : Program} {w : World} {K : PySem.W.Frag} {mg : Str → Option Value} {base : Heap} {k : Nat} {x q c : Str} {ps N : List Str} {st : Stmt} {b : SF}
theorem fnG_ofD {f : Addr} {fd : FuncData} {sp : Sp} {dvs : List V} (F : FunD K x q (defArgs st) (defBody st) (defScope st) dvs [] f fd) (S : FnScope N ps (defScope st)) (len : ∀ vs H Q E, sp vs H Q E → vs.length = ps.length)
    (hbody : ∀ (cdv : Value) (A : Around) (outer : List Env) (s : Shared) (H : Hp) (vs : List V) (Q : VK) (E : XK), A.guards = some [] → Room k (A.deeper (envOfC q (defScope st) s.heap.objs.size f cdv)) → sp vs H Q E →
      ∃ t, PSs (cxOf CX0 P w K mg base N q (defScope st) f cdv A outer s H E).nox (defBody st) t ∧ t { nx := fun _ H' => Q .non H', rt := Q } (start N vs) H) : L3.FnG P w K mg base (k + 1) f fd ps sp := by
  obtain ⟨oc, od, dV, kV, doc, pm, an, cdv, ct, osl, rfl, lk, hcd, _, _⟩ := F.ex
  refine ⟨len, ?_⟩
  intro A outer s H args us vs Q E hg hr e0 hb r hsp
  have keep : ∀ b o, base.get? b = some o → s.heap.get? b = some o := fun b o e => (e0.bs b o e).1
  have KX : K.In s.heap := e0.mod.kin.keeps keep
  have par : ∀ y ∈ ps.zip us, (defScope st).names.lookup y.1 = some .local ∨ ((defScope st).names.lookup y.1 = some .cell ∧ ((cellsFrom (s.heap.objs.size + 1) (defScope st).names []).lookup y.1).isSome = true) := by
    rintro ⟨n, v⟩ hy
    cases S.par n (List.of_mem_zip hy).1 with
    | inl z => exact .inl z
    | inr z => exact .inr ⟨z, PySem.W.cellsFrom_some _ _ _ (.inl z)⟩
  refine codeAny_call_function hr.depth (KX _ _ lk) rfl S.co S.gen rfl (PySem.W.codeRec_of KX hcd) ?_
  refine hb _ _ _ _ ?_
  refine wpAny_newFunctionEnv_cells S.kind par ?_
  rintro env rfl s1 x
  refine ⟨(e0.mod.nolimit.keeps keep).keeps x.toInCall.keep, ?_⟩
  refine codeAny_func ?_
  obtain ⟨t, ht, hq⟩ := hbody cdv A outer s H vs Q E hg (hr.deeper _) hsp
  have I : Inv (cxOf CX0 P w K mg base N q (defScope st) f cdv A outer s H E) [] (start N vs) H s1 := inv_start S hr.hd e0 (len _ _ _ _ hsp) r x
  refine wpAny_mono (ht.nox.run [] s1 (start N vs) H _ I hq) ?_ (fun _ _ z => z)
  intro fl s' hs
  cases fl with
  | ret u =>
    obtain ⟨v, σ', H', J, rv, z⟩ := hs
    exact ⟨v, H', J.os, J.bare, J.base, J.hok, rv, z⟩
  | next =>
    obtain ⟨σ', H', J, z⟩ := hs
    exact ⟨.non, H', J.os, J.bare, J.base, J.hok, rfl, z⟩
  | brk => obtain ⟨σ', H', J, z⟩ := hs; exact False.elim z
  | cont => obtain ⟨σ', H', J, z⟩ := hs; exact False.elim z
theorem fnG_allD {f : Addr} {fd : FuncData} {sp : Sp} {dvs : List V} (F : FunD K x q (defArgs st) (defBody st) (defScope st) dvs [] f fd) (S : FnScope N ps (defScope st)) (len : ∀ vs H Q E, sp vs H Q E → vs.length = ps.length)
    (hrun : ∀ {t : TS}, RfS ⟨P, w, K⟩ t b → ∀ {vs : List V} {H : Hp} {Q : VK} {E : XK}, sp vs H Q E → t { nx := fun _ H' => Q .non H', rt := Q } (L2.start N vs) H)
    (hbody : ∀ (cdv : Value) (A : Around) (outer : List Env) (s : Shared) (H : Hp) (E : XK), Gd k (cxOf CX0 P w K mg base N q (defScope st) f cdv A outer s H E).nox →
      DSs (cxOf CX0 P w K mg base N q (defScope st) f cdv A outer s H E).nox (defBody st) b) : FnG P w K mg base CX0 (k + 1) f fd ps sp := by
  refine .old (fnG_ofD F S len fun cdv A outer s H vs Q E hg hr hsp => ?_)
  obtain ⟨t, p, r⟩ := (hbody cdv A outer s H E ⟨hg, hr⟩).ex
  exact ⟨t, p, hrun r hsp⟩
/-- the empty tuple of the top -/
theorem tup0B_ok {a : Addr} (h : tup0B K a = true) (H : Hp) : SqT K H a [] := by
  unfold tup0B at h
  split at h
  · next c d its n sl hq =>
    obtain ⟨h1, h2⟩ := and2 h
    refine .inr ⟨_, its, n, hq, congrArg Value.type (of_decide_eq_true h1), rfl, ?_, ?_⟩
    · rw [← Array.length_toList, List.isEmpty_iff.mp h2]; exact Nat.zero_le _
    · rw [List.isEmpty_iff.mp h2]; exact .nil
  · cases h
structure KiD (K : PySem.W.Frag) (mg : Str → Option Value) (x : Str) (C : Addr) (q : Str) (st : Stmt) : Prop where
  cl : Cls K C
  mgC : mg x = some (.ref C)
  ex : ∃ f fd a, FunD K "__init__" q (defArgs st) (defBody st) (defScope st) [.ref a] [] f fd ∧ Mk K C f ∧ ∀ H, SqT K H a []
theorem kid_of {h : Heap} {ex : PySem.W.Frag → Bool} {fn : List He5.DefA} (X : K.In h) (G : h.Ns mainGlobals mg) (f : (L3.Fx.fa (.glo x)).ok K = true) (f1 : (L3.Fx.fa (.cls x)).ok K = true) (f2 : (L3.Fx.fa (.mkr x)).ok K = true) (f3 : tup0B K (He.dflAt (x, some "__init__") 0 K) = true) (s : L3.SaysB ex fn K) (i : Nat) (e : fn[i]? = some (mdefD x "__init__" q st) := by rfl) : KiD K mg x (He.ga K x) q st := by
  obtain ⟨fd, F⟩ := s.def_ i e
  exact ⟨He.cls_ok f1, He.glo_ok X G f, He.ma K (He.ga K x) "__init__", fd, He.dflAt (x, some "__init__") 0 K, F, He.mkr_ok f2, fun H => tup0B_ok f3 H⟩
structure MNd (P : Program) (w : World) (K : PySem.W.Frag) (mg : Str → Option Value) (base : Heap) (k : Nat) (c : Str) (n : Nat) (F : List D → M → Option (D × M)) : Prop where
  fn : MNw P w K mg base k c n F
  df : ∃ f fd ps a ds, FnG P w K mg base CX0 k f fd ps (spM ⟨P, w, K⟩ n F) ∧ Mk K (He.ga K c) f ∧ Vals [.ref a] ds ∧ Binds K fd ps ds ∧ ∀ H, SqT K H a []
abbrev BindD (x q : Str) (st : Stmt) (ps : List Str) (n j : Nat) : Prop := ∀ (T : Addr) (kV doc pm : Value) (an : Option Addr) (cdv ct : Value) (us its : List Value), us.length = n → its.length = 1 →
      ∃ k, bindArgs (PySem.W.fnOf x q (defArgs st) (defBody st) (defScope st) (.ref T) kV doc pm an cdv ct) ⟨us, []⟩ = seqItems? (.ref T) >>= k ∧ k (some its.toArray) = pure (ps.zip (us ++ its.drop j))
theorem mnd_ki (D : KiD K mg c (He.ga K c) q st) (S : FnScope N ps (defScope st)) (h1 : 1 ≤ ps.length) (hb : BindD "__init__" q st ps ps.length 1) (hb2 : BindD "__init__" q st ps (ps.length - 1) 0)
    (hbody : ∀ (f : Addr) (cdv : Value) (A : Around) (outer : List Env) (s : Shared) (H : Hp) (E : XK), Gd k (cxOf CX0 P w K mg base N q (defScope st) f cdv A outer s H E).nox →
      DSs (cxOf CX0 P w K mg base N q (defScope st) f cdv A outer s H E).nox (defBody st) b) : MNd P w K mg base (k + 1) c ps.length (runM ps.length N.length b) := by
  obtain ⟨f, fd, a, F, g, sq⟩ := D.ex
  have G : FnG P w K mg base CX0 (k + 1) f fd ps (spM ⟨P, w, K⟩ ps.length (runM ps.length N.length b)) := fnG_allD F S (fun vs H Q E h => h.1) (fun r => spM_run r) (hbody f)
  obtain ⟨ds, r, B⟩ := F.binds1 (ps := ps) ps.length 1 (by intro z; cases z) rfl hb
  cases r
  obtain ⟨es, r2, B2⟩ := F.binds1 (ps := ps) (ps.length - 1) 0 (by intro z; cases z) (Nat.sub_add_cancel h1) hb2
  exact ⟨⟨fun ds m d h => runM_len h, D.mgC, f, fd, ps, G, g, B⟩, f, fd, ps, a, es, G, g, r2, B2, sq⟩
end
section
variable {X : Cx} {g : G} {T T' : Tk} {H : Hp} {m : M} {Q : VK} {pos p apos : Pos} {e o : Expr} {es : List Expr} {k n : Nat} {x c nm : Str}
/-- the default at the end -/
def dflt (G : M → List D → Option D) (m : M) (xs : List D) : Option D := G m (xs ++ [.tup []])
theorem rf_dflt {g : G} {r : List V → Hp → VK → Prop} {F : M → List D → Option D} {a : Addr} (sq : ∀ H, SqT g.K H a []) (h : RfC g r F) : RfC g (fun vs H Q => r (vs ++ [.ref a]) H Q) (dflt F) := by
  intro T H m xs vs d hm rl hf Q k
  refine h T H m _ _ d hm (rl.append (.cons (.tup (.inr (sq _)) .nil) .nil)) hf Q k
end
end L4
namespace L4
open PySem PyProof.Rows PySem.W
end L4
namespace L4
open PySem PySem.Spec PyProof.Rows PySem.W L2
end L4
namespace L4
open PySem PySem.Spec PyProof.Rows PySem.W L2
section
variable {X : Cx} {g : G} {T T' : Tk} {H : Hp} {m : M} {Q : VK} {pos p apos : Pos} {e o : Expr} {es : List Expr} {k n : Nat} {x c nm : Str}
def eRev (nw : Bool) (a : EF) : EF := fun ρ m => bd (a ρ m) fun x m1 => match lstR m1 x with
  | some ds => some (bif nw then (.ref m1.length, m1 ++ [.lst ds.reverse]) else (.lst ds.reverse, m1))
  | none => none
theorem RepL.rev {ds : List D} {vs : List V} (r : RepL g T H ds vs) : RepL g T H ds.reverse vs.reverse := by
  induction ds generalizing vs with
  | nil => cases r; exact .nil
  | cons d ds ih => cases r with
    | cons r1 r2 => rw [List.reverse_cons, List.reverse_cons]; exact (ih r2).append (.cons r1 .nil)
theorem de_rev {nw : Bool} {f : EF} {kk : Nat} {p1 p2 p3 : Pos} (h : DE X e f) : DE X (.Subscript e (.Slice none none (some (.UnaryOp .USub (.Constant (.int 1) kk p1) p2)) p3) pos) (eRev nw f) := by
  obtain ⟨t, pt, rt⟩ := h.ex
  refine ⟨_, pe_revL pt, fun T σ H ρ m d m' hm hs hf Q k => ?_⟩
  obtain ⟨x, m1, e1, hf⟩ := bd_some hf
  refine rt T σ H ρ m x m1 hm hs e1 _ fun v T1 H1 l1 hm1 r1 => ?_
  split at hf
  · next ds hl =>
    have hf := Option.some.inj hf
    obtain ⟨a, xs, rfl, hq, rl⟩ := lstR_rep hm1 r1 hl
    refine ⟨a, xs, rfl, hq, fun q hq => ?_⟩
    cases nw with
    | false =>
      cases hf
      exact KV.lst (k.le l1) hm1 rl.rev q hq
    | true =>
      cases hf
      exact KV.newL (k.le l1) hm1 rl.rev q hq
  · cases hf
def findP (d : PyData) : List PyData → Nat → Option Nat
  | [], _ => none
  | z :: zs, i => if PyData.eqv z d then some i else findP d zs (i + 1)
theorem findP_some {d : PyData} : ∀ {zs : List PyData} {i j : Nat}, findP d zs i = some j → ∃ k z, j = i + k ∧ zs[k]? = some z ∧ PyData.eqv z d = true ∧ ∀ (m : Nat) (z' : PyData), m < k → zs[m]? = some z' → PyData.eqv z' d = false
  | [], _, _, h => by cases h
  | z :: zs, i, j, h => by
    unfold findP at h
    split at h
    · next he => cases h; exact ⟨0, z, rfl, rfl, he, fun m z' hm => absurd hm (Nat.not_lt_zero _)⟩
    · next he =>
      obtain ⟨k, z0, rfl, h1, h2, h3⟩ := findP_some h
      refine ⟨k + 1, z0, by omega, by simpa using h1, h2, fun m z' hm hz => ?_⟩
      cases m with
      | zero =>
        cases hz
        simpa using he
      | succ m => exact h3 m z' (by omega) (by simpa using hz)
def indexD (m : M) (x y : D) : Option D := match (pdM m x), (pdM m y) with
  | some (.list ps), some p => (findP p ps 0).map fun j => .int (j : Nat)
  | _, _ => none
def eIdx (a b : EF) : EF := fun ρ m => bd (a ρ m) fun x m1 => if (lstR m1 x).isSome then bd (b ρ m1) fun y m2 => pu (indexD m2 x y) m2 else none
theorem de_index {k : Nat} {fo fe : EF} (gd : Gd k X) (ho : DE X o fo) (he : DE X e fe) (hbase : attributeBase o "index" X.env (eval o X.env) = eval o X.env := by rfl)
    (hfew : ((backTo pos (starEach [e] X.env)).all (fun x => !x.1) && (backToKw pos (keywordEach [] X.env)).all (fun x => x.1.isSome)
      && decide (([e] : List Expr).length + ([] : List Keyword).length + (if ([] : List Keyword).isEmpty then 0 else 1) < 30)) = true := by rfl)
    (hline : (apos.endLine == pos.line) = true := by rfl) (hs : starEach [e] X.env = (false, eval e X.env) :: starEach [] X.env := by rfl) (hplain : (backTo pos (starEach [] X.env)).any (·.1) = false := by rfl) :
    DE X (.Call (.Attribute o "index" apos) [e] [] pos) (eIdx fo fe) := by
  obtain ⟨to, po, ro⟩ := ho.ex; obtain ⟨te, pe, re⟩ := he.ex
  refine ⟨_, pe_bm PySem.F.plainAttrs_list PySem.F.slot_list_index PySem.F.type_list_index (mt_indexD gd.u64) po (pa_cons pe pa_nil hs) hbase hfew hline hs hplain, fun T σ H ρ m d m' hm hs hf Q k => ?_⟩
  obtain ⟨x, m1, e1, hf⟩ := bd_some hf
  obtain ⟨h0, hf⟩ := ite_some hf
  obtain ⟨y, m2, e2, hf⟩ := bd_some hf
  obtain ⟨e3, em⟩ := pu_some hf
  subst em
  refine ro T σ H ρ m x m1 hm hs e1 _ fun v T1 H1 l1 hm1 r1 => ?_
  obtain ⟨ds, hds⟩ := Option.isSome_iff_exists.mp h0
  obtain ⟨a, vs, rfl, hq, rl⟩ := lstR_rep hm1 r1 hds
  refine ⟨.inl ⟨rfl, vs, hq⟩, ?_⟩
  refine re T1 σ H1 ρ m1 y _ hm1 (hs.le l1) e2 _ fun u T2 H2 l2 hm2 r2 => ?_
  unfold indexD at e3
  split at e3
  · next ps q hx hy =>
    obtain ⟨j, h1, rfl⟩ := Option.map_eq_some_iff.mp e3
    obtain ⟨k0, z, h2, h3, h4, h5⟩ := findP_some h1
    have ej : j = k0 := by omega
    subst ej
    obtain ⟨g1, g2⟩ := pdM_rep hm2 hx (r1.le l2)
    obtain ⟨g3, g4⟩ := pdM_rep hm2 hy r2
    exact ⟨a, u, q, ps, j, z, rfl, rfl, g1, g3, g2, g4, h3, h4, h5, k _ T2 H2 (l1.trans l2) hm2 (.int _)⟩
  · cases e3
inductive Tab (X : Cx) (k : Nat) : List (Str × (List D → Option D)) → Prop
  | nil : Tab X k []
  | cons {x n F tb} : PFn X.prog X.w X.K X.mg X.base k x n F → X.mg x = some (.ref (He.ga X.K x)) → Tab X k tb → Tab X k ((x, F) :: tb)
theorem Tab.get {k : Nat} {tb : List (Str × (List D → Option D))} {F : List D → Option D} (h : Tab X k tb) (e : tb.lookup x = some F) : ∃ n, PFn X.prog X.w X.K X.mg X.base k x n F ∧ X.mg x = some (.ref (He.ga X.K x)) := by
  induction h with
  | nil => cases e
  | @cons y n G tb p q t ih =>
    rw [List.lookup_cons] at e
    split at e
    · next hb =>
      cases e
      have := eq_of_beq hb
      subst this
      exact ⟨n, p, q⟩
    · exact ih e
end
end L4
namespace L4
open PySem PySem.Spec PyProof.Rows L2
section
variable {X : Cx} {g : G} {T T' : Tk} {H : Hp} {m : M} {Q : VK} {pos p apos : Pos} {e o : Expr} {es : List Expr} {k n : Nat} {x c nm : Str}
theorem FnG.makeD {C f a : Addr} {fd : FuncData} {ps : List Str} {sp : Sp} {ds : List Value} (Mk : Mk X.K C f) (F : FnG X.prog X.w X.K X.mg X.base CX0 k f fd ps sp) (gd : Gd (k + 1) X) (hb : Binds X.K fd ps ds) (hd : Vals [.ref a] ds) :
    CallR X (.ref C) fun vs H Q => ∀ x dx, H x = none → H dx = none → dx ≠ x → sp (.ref x :: (vs ++ [.ref a])) (upd (upd H dx (.own x)) x (.ins C dx [])) (fun v H2 => v = .non ∧ Q (.ref x) H2) E0 := by
  intro pins s σ H vs us Q I r h
  have hq := h (s.heap.objs.size + 1) s.heap.objs.size (I.hok.fresh (Nat.le_succ _)) (I.hok.fresh (Nat.le_refl _)) (Nat.ne_of_lt (Nat.lt_succ_self _))
  have I2 := Inv.made (C := C) I
  have r2 : Vals (V.ref (s.heap.objs.size + 1) :: (vs ++ [.ref a])) (Value.ref (s.heap.objs.size + 1) :: (us ++ ds)) := .cons rfl (r.append hd)
  have hl : (Value.ref (s.heap.objs.size + 1) :: us ++ ds).length = ps.length := by
    rw [List.cons_append, ← r2.length]
    exact F.len _ _ _ _ hq
  have hg : (X.A.under (.builtin "type.__call__" ⟨.ref C :: us, []⟩)).guards = some [] := by
    have := gd.g
    have e : (Code.builtin "type.__call__" ⟨.ref C :: us, []⟩).guards = [] := by simp [Code.guards, Code.isGuard, guardIds]
    simp [Around.under, e, pushGuards, this]
  have b := hb _ (Value.ref (s.heap.objs.size + 1) :: us) I2.kIn hl
  rw [List.cons_append] at b
  refine wpAny_call (make_map (f := f) I.kIn Mk.makes Mk.init (beq_iff_eq.mp Mk.fn) (codeAny_mono (F.run _ X.stack _ _ _ _ _ _ E0 hg (gd.r.make C us []) (I2.env0.make C us []) b r2 hq) fun res s' hres => ?_))
  match res, hres with
  | .error _, z => exact z.elim
  | .ok (.ret u), z =>
    obtain ⟨v, H', I3, rv, ev, q3⟩ := I2.after z
    cases ev
    exact ⟨rv, V.ref (s.heap.objs.size + 1), H', I3, rfl, q3⟩
theorem de_newPD {F : List D → M → Option (D × M)} {f : AF} (hF : MNd X.prog X.w X.K X.mg X.base k c n F) (gd : Gd (k + 1) X) (hg : Gl X c) (ha : DA X (e :: es) f) (hdb : (c == ("__debug__" : Str)) = false := by decide)
    (he : starEach (e :: es) X.env = (false, eval e X.env) :: starEach es X.env := by rfl) (hpl : (backTo pos (starEach es X.env)).any (·.1) = false := by rfl) : DE X (.Call (.Name c p) (e :: es) [] pos) (eCall (dflt (pureC (newP c F))) f) := by
  obtain ⟨fa, fd, ps, a, ds, G, M, r, b, sq⟩ := hF.df
  obtain ⟨t, pa, ra⟩ := ha.ex
  exact ⟨_, pe_callR (G.makeD M gd b r) hg hF.fn.mgC M.kp pa hdb he hpl, rf_call (rf_dflt (g := gx X) sq (rf_newP hF.fn.len)) ra⟩
end
end L4
namespace L4
open PySem PySem.Spec PyProof.Rows L2
end L4
namespace L4
open PySem PySem.Spec PyProof.Rows L2
abbrev NQ := List (NestedKey × Addr)
/-- the entries behind some items -/
inductive Ent (R : Value → Prop) : NQ → List (NestedKey × Addr × Value) → Prop
  | nil : Ent R [] []
  | snoc {l xs q u} : Ent R l xs → R u → Ent R (l ++ [q]) (storedH xs q.1 q.2 u)
theorem Ent.len {R : Value → Prop} {l : NQ} {xs : List (NestedKey × Addr × Value)} (h : Ent R l xs) : xs.length ≤ l.length := by
  induction h with
  | nil => exact Nat.le_refl _
  | @snoc l xs q u _ _ ih => have := storedH_length xs q.1 q.2 u; simp; omega
end L4
namespace L4
open PySem PySem.Spec PyProof.Rows L2
end L4
namespace L4
open PySem PySem.Spec PyProof.Rows L2
end L4
namespace L4
open PySem PySem.Spec PyProof.Rows L2
end L4
namespace L4
open PySem PySem.Spec PyProof.Rows L2
end L4
namespace L4
open PySem PySem.Spec PyProof.Rows L2
section
variable {X : Cx} {g : G} {T T' : Tk} {H H' : Hp} {m : M} {Q : VK} {pos p apos cpos tpos : Pos} {e o : Expr} {es : List Expr} {k n : Nat} {x c nm : Str}
def Dl : HO → Prop
  | .dK _ => True
  | .ext f => ∃ (g : G) (a : Addr) (kvs : List (NestedKey × Addr × V)), dnO g a kvs = .ext f
  | _ => False
/-- a dict is no code object -/
theorem dnO_ne {g : G} {a c : Addr} {kvs : List (NestedKey × Addr × V)} {q : Str} : dnO g a kvs ≠ LamX.CodeO c q := fun z => by
  unfold dnO LamX.CodeO at z
  have e := HO.ext.inj z
  let o : Obj := { cls := .none, data := .fields #[.none, .str q default] }
  let h : Heap := { objs := Array.replicate (c + 1) o }
  have at_ : ∀ b x, h.get? b = some x → x = o := fun b x hx => by
    have k : h.objs[b]? = if b < c + 1 then some o else none := Array.getElem?_replicate
    unfold Heap.get? at hx
    rw [k] at hx
    split at hx
    · cases hx
    · split at hx
      · exact (Option.some.inj hx).symm
      · cases hx
  have hc : ∃ (oc : Obj) (vs : Array Value) (t : Tok), h.get? c = some oc ∧ oc.data = .fields vs ∧ vs[1]? = some (.str q t) := ⟨o, _, default, by
    have k : h.objs[c]? = if c < c + 1 then some o else none := Array.getElem?_replicate
    unfold Heap.get?
    rw [k, if_pos (Nat.lt_succ_self c)], rfl, rfl⟩
  have := congrFun e h
  rw [← this] at hc
  obtain ⟨_, _, xs, _, ob, es, ep, h1, _, h2, _⟩ := hc
  rw [at_ _ _ h1] at h2
  cases h2
theorem code_nDl {c : Addr} {q : Str} : ¬ Dl (LamX.CodeO c q) := fun ⟨g, a, kvs, h⟩ => dnO_ne h
structure Lk (H H' : Hp) (d : Addr) (u : HO) : Prop where
  off : ∀ b, b ≠ d → H' b = H b
  dl : Dl u
  a : Rd H d u
  b : Rd H' d u
theorem Lk.ne {d b : Addr} {u v : HO} (l : Lk H H' d u) (h : H b = some v) (hv : ¬ Dl v) (hf : ∀ ob w, v = .frz ob w → ¬ Dl w) : b ≠ d := by
  rintro rfl
  rcases l.a with z | ⟨ob, z⟩
  · rw [h] at z; cases z; exact hv l.dl
  · rw [h] at z; cases z; exact hf _ _ rfl l.dl
theorem Lk.rd {d b : Addr} {u v : HO} (l : Lk H H' d u) (h : Rd H b v) (hv : Dl v) : Rd H' b v := by
  by_cases e : b = d
  · subst e
    have eu : u = v := by
      rcases h with h | ⟨ob, h⟩ <;> rcases l.a with z | ⟨oc, z⟩ <;> rw [h] at z <;> cases z
      · rfl
      · exact absurd hv (fun z => z)
      · exact absurd l.dl (fun z => z)
      · rfl
    rw [← eu]; exact l.b
  · rcases h with h | ⟨ob, h⟩
    · exact .inl ((l.off b e).trans h)
    · exact .inr ⟨ob, (l.off b e).trans h⟩
theorem Lk.st {d b : Addr} {u v : HO} (l : Lk H H' d u) (h : H b = some v) (hv : ¬ Dl v) (hf : ∀ ob w, v = .frz ob w → ¬ Dl w) : H' b = some v := (l.off b (l.ne h hv hf)).trans h
theorem FL.lk {d : Addr} {u : HO} (l : Lk H H' d u) {a : Addr} {vs : List V} (h : FL T H a vs) : FL T H' a vs := ⟨h.1, l.st h.2 (fun z => z) fun _ _ z => nomatch z⟩
theorem FS.lk {K : PySem.W.Frag} {d : Addr} {u : HO} (l : Lk H H' d u) {a : Addr} {vs : List V} (h : FS K T H a vs) : FS K T H' a vs := by
  rcases h with ⟨n, ob, h⟩ | h
  · exact .inl ⟨n, ob, l.st h (fun z => z) fun _ _ z => by cases z; exact fun z => z⟩
  · exact .inr h
theorem FT.lk {K : PySem.W.Frag} {d : Addr} {u : HO} (l : Lk H H' d u) {a : Addr} {vs : List V} (h : FT K T H a vs) : FT K T H' a vs := by
  rcases h with ⟨n, h⟩ | h
  · refine .inl ⟨n, ?_⟩
    rcases h with h | ⟨ob, h⟩
    · exact .inl (l.st h (fun z => z) fun _ _ z => nomatch z)
    · exact .inr ⟨ob, l.st h (fun z => z) fun _ _ z => by cases z; exact fun z => z⟩
  · exact .inr h
theorem FP.lk {d : Addr} {u : HO} (l : Lk H H' d u) {a : Addr} {vs : List V} (h : FP T H a vs) : FP T H' a vs := by
  obtain ⟨n, ob, h, e⟩ := h
  exact ⟨n, ob, l.st h (fun z => z) fun _ _ z => by cases z; exact fun z => z, e⟩
mutual
theorem Rep.lk {d : Addr} {u : HO} (l : Lk H H' d u) : ∀ {y : D} {v : V}, Rep g T H y v → Rep g T H' y v
  | _, _, .non => .non
  | _, _, .bl b => .bl b
  | _, _, .int i => .int i
  | _, _, .str x => .str x
  | _, _, .tup f r => .tup (f.lk l) (RepL.lk l r)
  | _, _, .lst f r => .lst (f.lk l) (RepL.lk l r)
  | _, _, .scr f r => .scr (f.lk l) (RepL.lk l r)
  | _, _, .dicF n h r q => .dicF n (l.rd h trivial) (RepL.lk l r) (RepL.lk l q)
  | _, _, .dicN n h e r q => .dicN n (l.rd h ⟨_, _, _, rfl⟩) e (RepL.lk l r) (RepL.lk l q)
  | _, _, .obj n h e r => .obj n (l.st h (fun z => z) fun _ _ z => nomatch z) e (RepL.lk l r)
  | _, _, .ref h => .ref h
  | _, _, .glo x => .glo x
  | _, _, .ty n => .ty n
  | _, _, .ptp f r => .ptp (f.lk l) (RepL.lk l r)
  | _, _, .tab h => .tab h
theorem RepL.lk {d : Addr} {u : HO} (l : Lk H H' d u) : ∀ {ys : List D} {vs : List V}, RepL g T H ys vs → RepL g T H' ys vs
  | _, _, .nil => .nil
  | _, _, .cons r s => .cons (Rep.lk l r) (RepL.lk l s)
end
theorem RepO.lk {d a : Addr} {u : HO} {ob : O} (l : Lk H H' d u) (hne : a ≠ d) (r : RepO g T H a ob) : RepO g T H' a ob := by
  cases r with
  | lst h r => exact .lst ((l.off a hne).trans h) (r.lk l)
  | dicF h r q => exact .dicF ((l.off a hne).trans h) (r.lk l) (q.lk l)
  | dicN h k r q => exact .dicN ((l.off a hne).trans h) k (r.lk l) (q.lk l)
  | ins h k r => exact .ins ((l.off a hne).trans h) k (r.lk l)
theorem RepH.lk {d : Addr} {u : HO} (l : Lk H H' d u) (hd : d ∉ T.ν) (r : RepH g T H m) : RepH g T H' m :=
  ⟨r.len, r.nd, fun a ha => by rw [l.off a (fun z => hd (by rw [← z]; exact ha))]; exact r.has a ha,
    fun n a ob h1 h2 => (r.at_ n a ob h1 h2).lk l fun z => hd (T.sub d (by rw [← z]; exact List.mem_of_getElem? h1)),
    fun p hp => ⟨(r.tabs p hp).1, by
      obtain ⟨ps, h1, h2, h3⟩ := (r.tabs p hp).2
      refine ⟨ps, by rw [l.off p.1 (fun z => hd (by rw [← z]; exact T.subτ p hp))]; exact h1, h2, fun pos cv hc => ?_⟩
      obtain ⟨c, e1, e2, e3⟩ := h3 pos cv hc
      exact ⟨c, e1, e2, l.st e3 code_nDl fun ob w z => by unfold LamX.CodeO at z; cases z⟩⟩⟩
theorem RepS.lk {d : Addr} {u : HO} {σ : L2.St} {ρ : Ss} (l : Lk H H' d u) (r : RepS g T H σ ρ) : RepS g T H' σ ρ := ⟨r.len, fun i y h => by obtain ⟨v, e, q⟩ := r.at_ i y h; exact ⟨v, e, q.lk l⟩⟩
/-- a dict is let go again -/
structure Let (H : Hp) (T : Tk) (d : Addr) (ob : Obj) (u : HO) : Prop where
  h : H d = some u
  dl : Dl u
  out : d ∉ T.ν
section
variable {d : Addr} {ob : Obj} {u : HO} {T1 : Tk} {H1 : Hp}
theorem Let.lk (l : Let H T d ob u) : Lk H (upd H d (.frz ob u)) d u := ⟨fun b hb => upd_ne hb, l.dl, .inl l.h, .inr ⟨ob, upd_same⟩⟩
theorem Let.at_ (l : Let H T d ob u) (q : Le T (upd H d (.frz ob u)) T1 H1) : H1 d = some (.frz ob u) := q.keep d _ upd_same (Tk.out l.out) (Tk.outτ l.out)
theorem Let.le (l : Let H T d ob u) (q : Le T (upd H d (.frz ob u)) T1 H1) : Le T H T1 (upd H1 d u) := by
  have gone : ∀ a, upd H d (.frz ob u) a = none → H a = none := fun a z => by
    by_cases e : a = d
    · subst e; rw [upd_same] at z; cases z
    · rw [upd_ne e] at z; exact z
  refine ⟨q.pre, fun a v h n t => ?_, q.tb, fun p hp v h => ?_, fun a h n => gone a (q.new a h n), fun a h n => gone a (q.newμ a h n), q.up⟩
  · by_cases e : a = d
    · subst e
      rw [upd_same]
      exact l.h.symm.trans h
    · rw [upd_ne e]
      exact q.keep a v (by rw [upd_ne e]; exact h) n t
  · have e : p.1 ≠ d := fun z => l.out (by rw [← z]; exact T.subτ p hp)
    rw [upd_ne e]
    exact q.tk p hp v (by rw [upd_ne e]; exact h)
end
end
end L4
namespace L4
open PySem PySem.Spec PyProof.Rows L2
end L4
namespace L4
open PySem PySem.Spec PyProof.Rows L2
section
variable {X : Cx} {g : G} {T T' : Tk} {H H' : Hp} {m : M} {Q : VK} {pos p apos cpos tpos : Pos} {e o : Expr} {es : List Expr} {k n : Nat} {x c nm : Str}
/-- what is not lent, but held back -/
def Held (T : Tk) (H H' : Hp) (ν : List Addr) : Prop := (∀ a ∈ ν, a ∈ T.ν) ∧ ∀ a ∈ T.ν, a ∉ ν → ∃ u, H a = some u ∧ H' a = some u ∧ Dl u
theorem Held.out {ν : List Addr} (h : Held T H H' ν) {a : Addr} {v : HO} (n : a ∉ ν) (e : H' a = some v) (hv : ¬ Dl v) : a ∉ T.ν := fun z => by
  obtain ⟨u, _, h2, h3⟩ := h.2 a z n
  rw [e] at h2
  cases h2
  exact hv h3
end
end L4
namespace L4
open PySem PySem.Spec PyProof.Rows L2
end L4
namespace L4
open PySem PySem.Spec PyProof.Rows L2
end L4
namespace L4
open PySem PySem.Spec PyProof.Rows L2
section
variable {X : Cx}
def strT (m : M) (xs : List D) : Option D := match xs with
  | [.str z] => some (.str z)
  | xs => strD m xs
theorem call_strT' : CallD X (.type "str") strT := ⟨_, orC call_str_int SkE.call_str_str, fun T H m xs vs d hm r hf Q k => by
  unfold strT at hf
  split at hf
  · cases hf
    obtain ⟨v, rfl, q⟩ := r.one
    cases q
    exact .inr ⟨_, rfl, k.now hm (.str _)⟩
  · unfold strD at hf
    split at hf
    · obtain ⟨hz, hf⟩ := ite_some hf
      cases hf
      obtain ⟨v, rfl, q⟩ := r.one
      cases q
      exact .inl ⟨_, rfl, hz, k.now hm (.str _)⟩
    · cases hf⟩
end
end L4
namespace L4
open PySem PySem.Spec PyProof.Rows L2
end L4
namespace L4
open PySem PySem.Spec PyProof.Rows L2
section
variable {X : Cx} {g : G} {T T' : Tk} {H H' : Hp} {m : M} {Q : VK} {pos p p2 pos2 apos cpos : Pos} {e o a b : Expr} {n : Nat}
def rgOk (i j : Int) : Prop := 0 ≤ i ∧ i ≤ 16777216 ∧ 0 ≤ j ∧ j ≤ 16777216
instance (i j : Int) : Decidable (rgOk i j) := by unfold rgOk; infer_instance
theorem rgOk.ok {i j : Int} (h : rgOk i j) : RgOk i j := .of_le h.1 h.2.2.2 h.2.1 h.2.2.1
def rgA (xs : List D) : Option (List D) := match xs with
  | [.int j] => if rgOk 0 j then some (rngD 0 (j - 0).toNat) else none
  | [.int i, .int j] => if rgOk i j then some (rngD i (j - i).toNat) else none
  | _ => none
def eTupR (a : AF) : EF := fun ρ m => bd (a ρ m) fun xs m1 => (rgA xs).map fun ds => (.tup ds, m1)
def eLisR (nw : Bool) (a : AF) : EF := fun ρ m => bd (a ρ m) fun xs m1 => (rgA xs).map fun ds => bif nw then (.ref m1.length, m1 ++ [.lst ds]) else (.lst ds, m1)
def flatL (ks : List D) : Bool := ks.all isFlat
def eUpd (a b : EF) : EF := fun ρ m => bd (a ρ m) fun x m1 => match x with
  | .ref n => match m1[n]? with
    | some (.dic ks0 _) => if flatL ks0 then bd (b ρ m1) fun y m2 => match m2[n]?, y with
        | some (.dic ks vs), .dic ks2 vs2 => if flatL ks && flatL ks2 && decide (ks.length + ks2.length ≤ sizeLine) && decide (ks2.length = vs2.length) then some (.non, m2.set n (.dic (mergeD (ks2.zip vs2) (ks, vs)).1 (mergeD (ks2.zip vs2) (ks, vs)).2)) else none
        | _, _ => none
      else none
    | _ => none
  | _ => none
end
end L4
namespace L4
open PySem PySem.Spec PyProof.Rows L2
end L4
namespace L4
open PySem
def Wr {α : Type} (o : Option (α × M)) (Q : α → M → Prop) : Prop := ∃ d m, o = some (d, m) ∧ Q d m
def WE (f : EF) (ρ : Ss) (m : M) (Q : D → M → Prop) : Prop := Wr (f ρ m) Q
def WT (f : TF) (ρ : Ss) (m : M) (Q : Bool → M → Prop) : Prop := Wr (f ρ m) Q
def WA (f : AF) (ρ : Ss) (m : M) (Q : List D → M → Prop) : Prop := Wr (f ρ m) Q
def WO (f : OF) (ρ : Ss) (m : M) (Q : Option Int → M → Prop) : Prop := Wr (f ρ m) Q
def WG (f : GF) (d : D) (ρ : Ss) (m : M) (Q : Ss → M → Prop) : Prop := Wr (f d ρ m) Q
def WS (f : SF) (ρ : Ss) (m : M) (Q : Fl → M → Prop) : Prop := Wr (f ρ m) Q
/-- a value that is known -/
def Kn {α : Type} (o : Option α) (Q : α → Prop) : Prop := ∃ d, o = some d ∧ Q d
def sqk (b : SF) (Q : Fl → M → Prop) (r : Fl) (m : M) : Prop := match r with
  | .nx ρ => WS b ρ m Q
  | r => Q r m
section
variable {ρ : Ss} {m : M}
theorem Kn.mk {α : Type} {o : Option α} {Q : α → Prop} {d : α} (h : o = some d) (q : Q d) : Kn o Q := ⟨d, h, q⟩
theorem Wr.bd {α β : Type} {o : Option (α × M)} {k : α → M → Option (β × M)} {Q : β → M → Prop} (h : Wr o fun a m1 => Wr (k a m1) Q) : Wr (bd o k) Q := by
  obtain ⟨a, m1, e, b, m2, e2, q⟩ := h
  exact ⟨b, m2, by rw [e]; exact e2, q⟩
theorem Wr.pu {α : Type} {o : Option α} {Q : α → M → Prop} (h : Kn o fun d => Q d m) : Wr (pu o m) Q := by
  obtain ⟨d, rfl, q⟩ := h
  exact ⟨d, m, rfl, q⟩
theorem WE.var {i : Nat} {Q : D → M → Prop} {d : D} (h : ρ.getD i none = some d) (q : Q d m) : WE (eVar i) ρ m Q := ⟨d, m, by unfold eVar; rw [h]; rfl, q⟩
theorem WE.c {d : D} {Q : D → M → Prop} (q : Q d m) : WE (eC d) ρ m Q := ⟨d, m, rfl, q⟩
theorem WE.op {f : M → D → D → Option D} {a b : EF} {Q : D → M → Prop} (h : WE a ρ m fun x m1 => WE b ρ m1 fun y m2 => Kn (f m2 x y) fun d => Q d m2) : WE (eOp f a b) ρ m Q :=
  Wr.bd (by obtain ⟨x, m1, e, h⟩ := h; refine ⟨x, m1, e, Wr.bd ?_⟩; obtain ⟨y, m2, e2, h⟩ := h; exact ⟨y, m2, e2, Wr.pu h⟩)
theorem WE.un {f : M → D → Option D} {a : EF} {Q : D → M → Prop} (h : WE a ρ m fun x m1 => Kn (f m1 x) fun d => Q d m1) : WE (eUn f a) ρ m Q :=
  Wr.bd (by obtain ⟨x, m1, e, h⟩ := h; exact ⟨x, m1, e, Wr.pu h⟩)
theorem WE.call {f : M → List D → Option D} {a : AF} {Q : D → M → Prop} (h : WA a ρ m fun xs m1 => Kn (f m1 xs) fun d => Q d m1) : WE (eCall f a) ρ m Q :=
  Wr.bd (by obtain ⟨x, m1, e, h⟩ := h; exact ⟨x, m1, e, Wr.pu h⟩)
theorem WE.callM {F : List D → M → Option (D × M)} {a : AF} {Q : D → M → Prop} (h : WA a ρ m fun xs m1 => Wr (F xs m1) Q) : WE (eCallM F a) ρ m Q := Wr.bd h
theorem WA.nil {Q : List D → M → Prop} (q : Q [] m) : WA aNil ρ m Q := ⟨[], m, rfl, q⟩
theorem WA.cons {a : EF} {r : AF} {Q : List D → M → Prop} (h : WE a ρ m fun x m1 => WA r ρ m1 fun xs m2 => Q (x :: xs) m2) : WA (aCons a r) ρ m Q :=
  Wr.bd (by obtain ⟨x, m1, e, h⟩ := h; refine ⟨x, m1, e, Wr.bd ?_⟩; obtain ⟨y, m2, e2, h⟩ := h; exact ⟨y, m2, e2, x :: y, m2, rfl, h⟩)
theorem WA.star {a : EF} {r : AF} {Q : List D → M → Prop} (h : WE a ρ m fun x m1 => Kn (seqD m1 x) fun xs => WA r ρ m1 fun ys m2 => Q (xs ++ ys) m2) : WA (aStar a r) ρ m Q := by
  obtain ⟨x, m1, e, xs, e2, ys, m2, e3, q⟩ := h
  refine ⟨xs ++ ys, m2, ?_, q⟩
  unfold aStar
  rw [e]
  show (match seqD m1 x with
    | some xs => bd (r ρ m1) fun ys m2 => some (xs ++ ys, m2)
    | none => none) = _
  rw [e2]
  show bd (r ρ m1) _ = _
  rw [e3]
  rfl
theorem WE.tup {a : AF} {Q : D → M → Prop} (h : WA a ρ m fun xs m1 => xs.length ≤ sizeLine ∧ Q (.tup xs) m1) : WE (eTup a) ρ m Q :=
  Wr.bd (by obtain ⟨x, m1, e, h1, h2⟩ := h; exact ⟨x, m1, e, _, m1, if_pos h1, h2⟩)
theorem WE.lst {a : AF} {Q : D → M → Prop} (h : WA a ρ m fun xs m1 => xs.length ≤ sizeLine ∧ Q (.lst xs) m1) : WE (eLst a) ρ m Q :=
  Wr.bd (by obtain ⟨x, m1, e, h1, h2⟩ := h; exact ⟨x, m1, e, _, m1, if_pos h1, h2⟩)
theorem WE.newL {a : AF} {Q : D → M → Prop} (h : WA a ρ m fun xs m1 => xs.length ≤ sizeLine ∧ Q (.ref m1.length) (m1 ++ [.lst xs])) : WE (eNewL a) ρ m Q :=
  Wr.bd (by obtain ⟨x, m1, e, h1, h2⟩ := h; exact ⟨x, m1, e, _, _, if_pos h1, h2⟩)
theorem WE.eif {c : TF} {a b : EF} {Q : D → M → Prop} (h : WT c ρ m fun x m1 => WE (if x then a else b) ρ m1 Q) : WE (eIf c a b) ρ m Q :=
  Wr.bd (by obtain ⟨x, m1, e, h⟩ := h; refine ⟨x, m1, e, ?_⟩; cases x <;> exact h)
theorem WE.isN {a : EF} {Q : D → M → Prop} (h : WE a ρ m fun x m1 => Q (.bl (isNon x)) m1) : WE (eIsN a) ρ m Q :=
  Wr.bd (by obtain ⟨x, m1, e, h⟩ := h; exact ⟨x, m1, e, _, m1, rfl, h⟩)
theorem WE.notN {a : EF} {Q : D → M → Prop} (h : WE a ρ m fun x m1 => Q (.bl (!isNon x)) m1) : WE (eNotN a) ρ m Q :=
  Wr.bd (by obtain ⟨x, m1, e, h⟩ := h; exact ⟨x, m1, e, _, m1, rfl, h⟩)
theorem WE.not {a : EF} {Q : D → M → Prop} (h : WE a ρ m fun x m1 => ∃ b, x = .bl b ∧ Q (.bl (!b)) m1) : WE (eNot a) ρ m Q :=
  Wr.bd (by obtain ⟨x, m1, e, b, rfl, h⟩ := h; exact ⟨_, m1, e, _, m1, rfl, h⟩)
theorem WE.and {a b : EF} {Q : D → M → Prop} (h : WE a ρ m fun x m1 => ∃ c, x = .bl c ∧ (c = true → WE b ρ m1 Q) ∧ (c = false → Q (.bl false) m1)) : WE (eAnd a b) ρ m Q :=
  Wr.bd (by obtain ⟨x, m1, e, c, rfl, h1, h2⟩ := h; refine ⟨_, m1, e, ?_⟩; cases c <;> first | exact h1 rfl | exact ⟨_, m1, rfl, h2 rfl⟩)
theorem WE.or {a b : EF} {Q : D → M → Prop} (h : WE a ρ m fun x m1 => ∃ c, x = .bl c ∧ (c = false → WE b ρ m1 Q) ∧ (c = true → Q (.bl true) m1)) : WE (eOr a b) ρ m Q :=
  Wr.bd (by obtain ⟨x, m1, e, c, rfl, h1, h2⟩ := h; refine ⟨_, m1, e, ?_⟩; cases c <;> first | exact h1 rfl | exact ⟨_, m1, rfl, h2 rfl⟩)
theorem WO.no {Q : Option Int → M → Prop} (q : Q none m) : WO oNo ρ m Q := ⟨_, m, rfl, q⟩
theorem WO.yes {a : EF} {Q : Option Int → M → Prop} (h : WE a ρ m fun x m1 => ∃ i, x = .int i ∧ Q (some i) m1) : WO (oYes a) ρ m Q :=
  Wr.bd (by obtain ⟨x, m1, e, i, rfl, h⟩ := h; exact ⟨_, m1, e, _, m1, rfl, h⟩)
theorem WE.sl {a : EF} {lo hi : OF} {Q : D → M → Prop} (h : WE a ρ m fun x m1 => WO lo ρ m1 fun l m2 => WO hi ρ m2 fun u m3 => Kn (slD m3 x l u) fun d => Q d m3) : WE (eSl a lo hi) ρ m Q :=
  Wr.bd (by
    obtain ⟨x, m1, e, l, m2, e2, u, m3, e3, h⟩ := h
    exact ⟨x, m1, e, Wr.bd ⟨l, m2, e2, Wr.bd ⟨u, m3, e3, Wr.pu h⟩⟩⟩)
theorem WT.val {a : EF} {Q : Bool → M → Prop} (h : WE a ρ m fun x m1 => ∃ b, x = .bl b ∧ Q b m1) : WT (tVal a) ρ m Q :=
  Wr.bd (by obtain ⟨x, m1, e, b, rfl, h⟩ := h; exact ⟨_, m1, e, _, m1, rfl, h⟩)
theorem WT.and {a b : TF} {Q : Bool → M → Prop} (h : WT a ρ m fun x m1 => (x = true → WT b ρ m1 Q) ∧ (x = false → Q false m1)) : WT (tAnd a b) ρ m Q :=
  Wr.bd (by obtain ⟨x, m1, e, h1, h2⟩ := h; refine ⟨_, m1, e, ?_⟩; cases x <;> first | exact h1 rfl | exact ⟨_, m1, rfl, h2 rfl⟩)
theorem WT.or {a b : TF} {Q : Bool → M → Prop} (h : WT a ρ m fun x m1 => (x = false → WT b ρ m1 Q) ∧ (x = true → Q true m1)) : WT (tOr a b) ρ m Q :=
  Wr.bd (by obtain ⟨x, m1, e, h1, h2⟩ := h; refine ⟨_, m1, e, ?_⟩; cases x <;> first | exact h1 rfl | exact ⟨_, m1, rfl, h2 rfl⟩)
theorem WT.not {a : TF} {Q : Bool → M → Prop} (h : WT a ρ m fun x m1 => Q (!x) m1) : WT (tNot a) ρ m Q :=
  Wr.bd (by obtain ⟨x, m1, e, h⟩ := h; exact ⟨_, m1, e, _, m1, rfl, h⟩)
theorem WT.tt {Q : Bool → M → Prop} (q : Q true m) : WT tTrue ρ m Q := ⟨_, m, rfl, q⟩
theorem WG.nm {i : Nat} {d : D} {Q : Ss → M → Prop} (q : Q (ρ.set i (some d)) m) : WG (gNm i) d ρ m Q := ⟨_, m, rfl, q⟩
theorem WG.setA {o i : EF} {d : D} {Q : Ss → M → Prop} (h : WE o ρ m fun x m1 => WE i ρ m1 fun y m2 => Kn (setM m2 x y d) fun m3 => Q ρ m3) : WG (gSetA o i) d ρ m Q := by
  obtain ⟨x, m1, e1, y, m2, e2, m3, e3, q⟩ := h
  refine ⟨ρ, m3, ?_, q⟩
  unfold gSetA
  rw [e1]
  show bd (i ρ m1) _ = _
  rw [e2]
  show (setM m2 x y d).map _ = _
  rw [e3]
  rfl
theorem WS.asg {a : EF} {g : GF} {Q : Fl → M → Prop} (h : WE a ρ m fun d m1 => WG g d ρ m1 fun ρ1 m2 => Q (.nx ρ1) m2) : WS (sAsg a g) ρ m Q :=
  Wr.bd (by obtain ⟨x, m1, e, ρ1, m2, e2, h⟩ := h; exact ⟨x, m1, e, Wr.bd ⟨ρ1, m2, e2, _, m2, rfl, h⟩⟩)
theorem WS.drop {a : EF} {Q : Fl → M → Prop} (h : WE a ρ m fun d m1 => Q (.nx ρ) m1) : WS (sDrop a) ρ m Q :=
  Wr.bd (by obtain ⟨x, m1, e, h⟩ := h; exact ⟨x, m1, e, _, m1, rfl, h⟩)
theorem WS.ret {a : EF} {Q : Fl → M → Prop} (h : WE a ρ m fun d m1 => Q (.rt d) m1) : WS (sRet a) ρ m Q :=
  Wr.bd (by obtain ⟨x, m1, e, h⟩ := h; exact ⟨x, m1, e, _, m1, rfl, h⟩)
theorem WS.retN {Q : Fl → M → Prop} (h : Q (.rt .non) m) : WS sRetN ρ m Q := ⟨_, m, rfl, h⟩
theorem WS.nop {Q : Fl → M → Prop} (h : Q (.nx ρ) m) : WS sNop ρ m Q := ⟨_, m, rfl, h⟩
theorem WS.brk {Q : Fl → M → Prop} (h : Q (.bk ρ) m) : WS sBrk ρ m Q := ⟨_, m, rfl, h⟩
theorem WS.cont {Q : Fl → M → Prop} (h : Q (.ct ρ) m) : WS sCont ρ m Q := ⟨_, m, rfl, h⟩
theorem WS.sif {c : TF} {a b : SF} {Q : Fl → M → Prop} (h : WT c ρ m fun x m1 => WS (if x then a else b) ρ m1 Q) : WS (sIf c a b) ρ m Q :=
  Wr.bd (by obtain ⟨x, m1, e, h⟩ := h; refine ⟨x, m1, e, ?_⟩; cases x <;> exact h)
theorem WS.seq {a b : SF} {Q : Fl → M → Prop} (h : WS a ρ m (sqk b Q)) : WS (sSeq a b) ρ m Q := by
  obtain ⟨r, m1, e, h⟩ := h
  unfold WS Wr sSeq
  rw [e]
  cases r <;> first | exact h | exact ⟨_, m1, rfl, h⟩
theorem WS.nx {b : SF} {Q : Fl → M → Prop} (h : WS b ρ m Q) : sqk b Q (.nx ρ) m := h
theorem WS.rt {b : SF} {Q : Fl → M → Prop} {d : D} (h : Q (.rt d) m) : sqk b Q (.rt d) m := h
theorem WS.aug {i : Nat} {f : M → D → D → Option D} {a : EF} {Q : Fl → M → Prop} {x : D} (h0 : ρ.getD i none = some x) (h : WE a ρ m fun y m1 => Kn (f m1 x y) fun d => Q (.nx (ρ.set i (some d))) m1) : WS (sAug i f a) ρ m Q := by
  obtain ⟨y, m1, e, d, e2, q⟩ := h
  refine ⟨_, m1, ?_, q⟩
  unfold sAug
  rw [h0]
  show bd (a ρ m) _ = _
  rw [e]
  show bd (pu (f m1 x y) m1) _ = _
  rw [e2]
  rfl
theorem WS.par {is : List Nat} {a : AF} {Q : Fl → M → Prop} (h : WA a ρ m fun xs m1 => xs.length = is.length ∧ Q (.nx (setMany ρ is xs)) m1) : WS (sPar is a) ρ m Q :=
  Wr.bd (by obtain ⟨x, m1, e, h1, h2⟩ := h; exact ⟨x, m1, e, _, m1, if_pos h1, h2⟩)
/-- a walk over what is there at its start -/
def WI (f : AF) (ρ : Ss) (m : M) (Q : List D → M → Prop) : Prop := Wr (f ρ m) Q
theorem WI.it {a : EF} {Q : List D → M → Prop} (h : WE a ρ m fun x m1 => Kn (items x) fun ds => Q ds m1) : WI (iIt a) ρ m Q :=
  Wr.bd (by obtain ⟨x, m1, e, h⟩ := h; exact ⟨x, m1, e, Wr.pu h⟩)
theorem WI.r1 {a : AF} {Q : List D → M → Prop} (h : WA a ρ m fun xs m1 => ∃ j : Int, xs = [.int j] ∧ (-1000000 ≤ j ∧ j ≤ 1000000) ∧ Q (rngD 0 j.toNat) m1) : WI (iR1 a) ρ m Q :=
  Wr.bd (by obtain ⟨x, m1, e, j, rfl, hj, h⟩ := h; exact ⟨_, m1, e, _, m1, if_pos ⟨by omega, by omega⟩, h⟩)
/-- a loop whose turns keep to an invariant and leave it never -/
theorem WS.forI {it : AF} {g : GF} {b : SF} {Q : Fl → M → Prop} (I : Nat → Ss → M → Prop) (h : WI it ρ m fun xs m1 => I 0 ρ m1 ∧ (∀ i x ρ m, xs[i]? = some x → I i ρ m → WG g x ρ m fun ρ1 m1 => WS b ρ1 m1 fun r m2 => ∃ ρ2, (r = .nx ρ2 ∨ r = .ct ρ2) ∧ I (i + 1) ρ2 m2) ∧ ∀ ρ m, I xs.length ρ m → Q (.nx ρ) m) : WS (sFor it g b) ρ m Q :=
  Wr.bd (by
    obtain ⟨xs, m1, e, h1, h2, h3⟩ := h
    obtain ⟨ρ', m', e2, h4⟩ := forGo_inv (f := g) (b := b) I xs 0 ρ m1 h1 (by
      intro j x ρ m hx hI
      rw [Nat.zero_add] at hI
      obtain ⟨ρ1, m1, e1, r, m2, e2, ρ2, hr, h⟩ := h2 j x ρ m hx hI
      exact ⟨ρ1, m1, e1, r, m2, e2, ρ2, hr, by rw [Nat.zero_add]; exact h⟩)
    rw [Nat.zero_add] at h4
    exact ⟨xs, m1, e, _, m', e2, h3 _ _ h4⟩)
/-- the end: a function that is called -/
theorem WS.runP {a n : Nat} {b : SF} {ds : List D} {d : D} (h : WS b (startD n ds) [] fun r m => ∃ y, r = .rt y ∧ frz m y = some d) (hl : ds.length = a) : runP a n b ds = some d := by
  obtain ⟨r, m1, e, y, rfl, q⟩ := h
  unfold L4.runP
  rw [if_pos hl, e]
  exact q
theorem WS.runM {a n : Nat} {b : SF} {ds : List D} {Q : D → M → Prop} (h : WS b (startD n ds) m fun r m1 => (∃ y, r = .rt y ∧ Q y m1) ∨ ∃ ρ, r = .nx ρ ∧ Q .non m1) (hl : ds.length = a) : Wr (runM a n b ds m) Q := by
  obtain ⟨r, m1, e, h⟩ := h
  unfold L4.runM
  rw [if_pos hl, e]
  rcases h with ⟨y, rfl, q⟩ | ⟨ρ, rfl, q⟩
  · exact ⟨y, m1, rfl, q⟩
  · exact ⟨.non, m1, rfl, q⟩
end
end L4
namespace L4
open PySem
section
variable {ρ : Ss} {m : M} {Q : D → Prop}
theorem wsz {n : Nat} (h : n ≤ 1000) : n ≤ sizeLine := by rw [sizeLine_eq]; omega
theorem Kn.call {F : List D → Option D} {xs : List D} {d : D} (hp : pureL xs = true) (e : F xs = some d) (q : Q d) : Kn (callP F m xs) Q := ⟨d, by unfold callP; rw [if_pos hp]; exact e, q⟩
theorem Kn.pure {F : List D → Option D} {xs : List D} {d : D} (hp : pureL xs = true) (e : F xs = some d) (q : Q d) : Kn (pureC F m xs) Q := ⟨d, by unfold pureC; rw [if_pos hp]; exact e, q⟩
theorem Kn.add_i {i j : Int} (q : Q (.int (i + j))) : Kn (addD m (.int i) (.int j)) Q := ⟨_, rfl, q⟩
theorem add_lst {x y : D} {a b : List D} (hx : lstOf m x = some a) (hy : lstOf m y = some b) (h : a.length + b.length ≤ sizeLine) : addD m x y = some (.lst (a ++ b)) := by
  have key : (match lstOf m x, lstOf m y with
    | some a, some b => if a.length + b.length ≤ sizeLine then some (D.lst (a ++ b)) else none
    | _, _ => none) = some (.lst (a ++ b)) := by rw [hx, hy]; exact if_pos h
  cases x with
  | lst xs => cases y with
    | lst ys => exact key
    | ref n => exact key
    | _ => cases hy
  | ref n => cases y with
    | lst ys => exact key
    | ref n => exact key
    | _ => cases hy
  | _ => cases hx
theorem Kn.add_l {x y : D} {a b : List D} (hx : lstOf m x = some a) (hy : lstOf m y = some b) (h : a.length + b.length ≤ sizeLine) (q : Q (.lst (a ++ b))) : Kn (addD m x y) Q := ⟨_, add_lst hx hy h, q⟩
theorem Kn.add_s {a b : Str} (h : a.length + b.length ≤ sizeLine) (q : Q (.str (catS a b))) : Kn (addD m (.str a) (.str b)) Q := ⟨_, if_pos h, q⟩
theorem Kn.sub {i j : Int} (q : Q (.int (i - j))) : Kn (subD m (.int i) (.int j)) Q := ⟨_, rfl, q⟩
theorem Kn.fdiv {i j : Int} (h : 0 < j ∧ j < 1073741824) (q : Q (.int (i / j))) : Kn (fdivD m (.int i) (.int j)) Q := ⟨_, if_pos h, q⟩
theorem Kn.mod {i j : Int} (h : 0 < j) (q : Q (.int (i % j))) : Kn (modD m (.int i) (.int j)) Q := ⟨_, if_pos h, q⟩
theorem Kn.neg {i : Int} (q : Q (.int (-i))) : Kn (negD m (.int i)) Q := ⟨_, rfl, q⟩
theorem w_eq_int {i j : Int} : eqD m (.int i) (.int j) = some (.bl (i == j)) := by
  have hi : ∀ i : Int, pdM m (.int i) = some (.int i) := fun i => by
    have h1 : SeqAt.shaped (PyData.int i) = true := rfl
    simp [pdM, frz, pureD, pd, h1]
  simp [eqD, hi, PyData.eqv]
theorem w_ne_int {i j : Int} : neD m (.int i) (.int j) = some (.bl (!(i == j))) := by
  have hi : ∀ i : Int, pdM m (.int i) = some (.int i) := fun i => by
    have h1 : SeqAt.shaped (PyData.int i) = true := rfl
    simp [pdM, frz, pureD, pd, h1]
  simp [neD, hi, PyData.eqv]
theorem Kn.eq_i {i j : Int} (q : Q (.bl (i == j))) : Kn (eqD m (.int i) (.int j)) Q := ⟨_, w_eq_int, q⟩
theorem Kn.ne_i {i j : Int} (q : Q (.bl (!(i == j)))) : Kn (neD m (.int i) (.int j)) Q := ⟨_, w_ne_int, q⟩
theorem Kn.lt {i j : Int} (q : Q (.bl (decide (i < j)))) : Kn (ltD m (.int i) (.int j)) Q := ⟨_, rfl, q⟩
theorem Kn.le {i j : Int} (q : Q (.bl (decide (i ≤ j)))) : Kn (leD m (.int i) (.int j)) Q := ⟨_, rfl, q⟩
theorem Kn.gt {i j : Int} (q : Q (.bl (decide (j < i)))) : Kn (gtD m (.int i) (.int j)) Q := ⟨_, rfl, q⟩
theorem Kn.ge {i j : Int} (q : Q (.bl (decide (j ≤ i)))) : Kn (geD m (.int i) (.int j)) Q := ⟨_, rfl, q⟩
theorem Kn.int_i {i : Int} (q : Q (.int i)) : Kn (intD m [.int i]) Q := ⟨_, rfl, q⟩
theorem Kn.int_b {b : Bool} (q : Q (.int (if b then 1 else 0))) : Kn (intD m [.bl b]) Q := ⟨_, rfl, q⟩
theorem Kn.abs {i : Int} (q : Q (.int (if i < 0 then -i else i))) : Kn (absD m [.int i]) Q := ⟨_, rfl, q⟩
theorem Kn.min2 {i j : Int} (q : Q (.int (if j < i then j else i))) : Kn (min2D m [.int i, .int j]) Q := ⟨_, rfl, q⟩
theorem Kn.max2 {i j : Int} (q : Q (.int (if j > i then j else i))) : Kn (max2D m [.int i, .int j]) Q := ⟨_, rfl, q⟩
theorem Kn.len_t {ds : List D} (q : Q (.int ds.length)) : Kn (lenD m [.tup ds]) Q := ⟨_, rfl, q⟩
theorem Kn.len_l {ds : List D} (q : Q (.int ds.length)) : Kn (lenD m [.lst ds]) Q := ⟨_, rfl, q⟩
theorem Kn.len_s {ds : List D} (q : Q (.int ds.length)) : Kn (lenD m [.scr ds]) Q := ⟨_, rfl, q⟩
theorem Kn.len_r {n : Nat} {ds : List D} (h : m[n]? = some (.lst ds)) (q : Q (.int ds.length)) : Kn (lenD m [.ref n]) Q := ⟨.int ds.length, by
  show (lstR m (.ref n)).map _ = _
  have e : lstR m (.ref n) = some ds := by show (m[n]?).bind lstO = _; rw [h]; rfl
  rw [e]; rfl, q⟩
theorem Kn.tup_t {ds : List D} (q : Q (.tup ds)) : Kn (tupD m [.tup ds]) Q := ⟨_, rfl, q⟩
theorem Kn.tup_l {ds : List D} (q : Q (.tup ds)) : Kn (tupD m [.lst ds]) Q := ⟨_, rfl, q⟩
theorem Kn.lis_t {ds : List D} (q : Q (.lst ds)) : Kn (lisD m [.tup ds]) Q := ⟨_, rfl, q⟩
theorem Kn.lis_l {ds : List D} (q : Q (.lst ds)) : Kn (lisD m [.lst ds]) Q := ⟨_, rfl, q⟩
theorem Kn.seq_t {Q : List D → Prop} {ds : List D} (q : Q ds) : Kn (seqD m (.tup ds)) Q := ⟨_, rfl, q⟩
theorem Kn.seq_l {Q : List D → Prop} {ds : List D} (q : Q ds) : Kn (seqD m (.lst ds)) Q := ⟨_, rfl, q⟩
theorem Kn.it_t {Q : List D → Prop} {ds : List D} (q : Q ds) : Kn (items (.tup ds)) Q := ⟨_, rfl, q⟩
theorem Kn.it_l {Q : List D → Prop} {ds : List D} (q : Q ds) : Kn (items (.lst ds)) Q := ⟨_, rfl, q⟩
theorem Kn.it_s {Q : List D → Prop} {ds : List D} (q : Q ds) : Kn (items (.scr ds)) Q := ⟨_, rfl, q⟩
theorem Kn.ix_l {ds : List D} {i : Nat} {d : D} (h : ds[i]? = some d) (q : Q d) : Kn (ixA m (.lst ds) (.int (i : Nat))) Q := ⟨d, by rw [ixA_lst]; exact L2.atI_nat h, q⟩
theorem Kn.isi {x : D} {c : String} {b : Bool} (h : isiD m [x, .ty c] = some (.bl b)) (q : Q (.bl b)) : Kn (isiD m [x, .ty c]) Q := ⟨_, h, q⟩
theorem Kn.sl_t {ds : List D} {lo hi : Option Int} (q : Q (.tup (cutD ds lo hi))) : Kn (slD m (.tup ds) lo hi) Q := ⟨_, rfl, q⟩
theorem Kn.sl_l {ds : List D} {lo hi : Option Int} (q : Q (.lst (cutD ds lo hi))) : Kn (slD m (.lst ds) lo hi) Q := ⟨_, rfl, q⟩
theorem Kn.sl_r {n : Nat} {ds : List D} {lo hi : Option Int} (h : m[n]? = some (.lst ds)) (q : Q (.lst (cutD ds lo hi))) : Kn (slD m (.ref n) lo hi) Q := ⟨.lst (cutD ds lo hi), by
  show (lstR m (.ref n)).map _ = _
  have e : lstR m (.ref n) = some ds := by show (m[n]?).bind lstO = _; rw [h]; rfl
  rw [e]; rfl, q⟩
end
section
variable {ρ : Ss} {m : M} {Q : D → M → Prop}
theorem WG.one {i : Nat} {d : D} {Q : Ss → M → Prop} (q : Q (ρ.set i (some d)) m) : WG (gTgt (.one i)) d ρ m Q := ⟨_, m, rfl, q⟩
theorem WG.tup {is : List Nat} {ds : List D} {Q : Ss → M → Prop} (h : ds.length = is.length) (q : Q (setMany ρ is ds) m) : WG (gTgt (.many is)) (.tup ds) ρ m Q := ⟨setMany ρ is ds, m, by
  show (match (if ds.length = is.length then some ds else none) with | some ds => some (setMany ρ is ds, m) | none => none) = _
  rw [if_pos h], q⟩
/-- xs.append(e) -/
theorem WE.app {o e : EF} (h : WE o ρ m fun x m1 => ∃ n, x = .ref n ∧ (∃ ds0, m1[n]? = some (.lst ds0)) ∧ WE e ρ m1 fun y m2 => ∃ ds, m2[n]? = some (.lst ds) ∧ ds.length < sizeLine ∧ Q .non (m2.set n (.lst (ds ++ [y])))) : WE (eLm0 (fun _ => appL) o (aCons e aNil)) ρ m Q := by
  obtain ⟨x, m1, e1, n, rfl, ⟨ds0, h0⟩, y, m2, e2, ds, h1, h2, q⟩ := h
  refine ⟨.non, _, ?_, q⟩
  unfold eLm0
  rw [e1]
  show (match m1[n]? with
    | some (.lst _) => bd (aCons e aNil ρ m1) fun ys m2 => match m2[n]? with
      | some (.lst ds) => (appL ds ys).map fun (r : D × List D) => (r.1, m2.set n (.lst r.2))
      | _ => none
    | _ => none) = _
  rw [h0]
  have ea : aCons e aNil ρ m1 = some ([y], m2) := by unfold aCons; rw [e2]; rfl
  show bd (aCons e aNil ρ m1) _ = _
  rw [ea]
  show (match m2[n]? with
      | some (.lst ds) => (appL ds [y]).map fun (r : D × List D) => (r.1, m2.set n (.lst r.2))
      | _ => none) = _
  rw [h1]
  show (if ds.length < sizeLine then some (D.non, ds ++ [y]) else none).map _ = _
  rw [if_pos h2]
  rfl
/-- [e for .. in ..], over what is there at its start -/
theorem WE.lcK {nw : Bool} {it : AF} {t : Tgt} {c : TF} {e : EF} (h : WI it ρ m fun xs m1 => xs.length ≤ 1000000 ∧ Wr (compGo t c e ρ xs m1) fun ys m2 => Q (bif nw then .ref m2.length else .lst ys) (bif nw then m2 ++ [.lst ys] else m2)) : WE (eLcK nw it t c e) ρ m Q :=
  Wr.bd (by
    obtain ⟨xs, m1, e1, h1, ys, m2, e2, q⟩ := h
    refine ⟨xs, m1, e1, _, _, (if_pos h1).trans ?_, q⟩
    rw [e2]
    cases nw <;> rfl)
theorem WE.tupR {a : AF} (h : WA a ρ m fun xs m1 => Kn (rgA xs) fun ds => Q (.tup ds) m1) : WE (eTupR a) ρ m Q :=
  Wr.bd (by obtain ⟨xs, m1, e, ds, e2, q⟩ := h; exact ⟨xs, m1, e, _, m1, by rw [e2]; rfl, q⟩)
theorem WE.lisR {a : AF} {nw : Bool} (h : WA a ρ m fun xs m1 => Kn (rgA xs) fun ds => Q (bif nw then .ref m1.length else .lst ds) (bif nw then m1 ++ [.lst ds] else m1)) : WE (eLisR nw a) ρ m Q :=
  Wr.bd (by obtain ⟨xs, m1, e, ds, e2, q⟩ := h; exact ⟨xs, m1, e, _, _, by rw [e2]; cases nw <;> rfl, q⟩)
/-- a comprehension without draws -/
theorem comp_pure {t : Tgt} {c : TF} {e : EF} {α : Type} (enc : α → D) (b : α → Bool) (f : α → D) : ∀ xs : List α, (∀ x ∈ xs, ∃ ds, t.un (enc x) = some ds ∧ c (setMany ρ t.is ds) m = some (b x, m) ∧ (b x = true → e (setMany ρ t.is ds) m = some (f x, m))) → compGo t c e ρ (xs.map enc) m = some ((xs.filter b).map f, m)
  | [], _ => rfl
  | x :: xs, h => by
    obtain ⟨ds, h1, h2, h3⟩ := h x List.mem_cons_self
    have ih := comp_pure enc b f xs fun y hy => h y (List.mem_cons_of_mem _ hy)
    show compGo t c e ρ (enc x :: xs.map enc) m = _
    unfold compGo
    rw [h1]
    show bd (c (setMany ρ t.is ds) m) _ = _
    rw [h2]
    cases hb : b x
    · show compGo t c e ρ (xs.map enc) m = _
      rw [ih, List.filter_cons, hb]
      rfl
    · show bd (e (setMany ρ t.is ds) m) _ = _
      rw [h3 hb]
      show bd (compGo t c e ρ (xs.map enc) m) _ = _
      rw [ih, List.filter_cons, hb]
      rfl
end
end L4
namespace L4
section
variable {ρ : Ss} {m : M}
theorem WS.ite_t {x : Bool} {a b : SF} {Q : Fl → M → Prop} (h : x = true) (q : WS a ρ m Q) : WS (if x then a else b) ρ m Q := by rw [if_pos h]; exact q
theorem WS.ite_f {x : Bool} {a b : SF} {Q : Fl → M → Prop} (h : x = false) (q : WS b ρ m Q) : WS (if x then a else b) ρ m Q := by rw [h]; exact q
theorem WE.ite_t {x : Bool} {a b : EF} {Q : D → M → Prop} (h : x = true) (q : WE a ρ m Q) : WE (if x then a else b) ρ m Q := by rw [if_pos h]; exact q
theorem WE.ite_f {x : Bool} {a b : EF} {Q : D → M → Prop} (h : x = false) (q : WE b ρ m Q) : WE (if x then a else b) ρ m Q := by rw [h]; exact q
end
end L4
namespace L4
open PySem
section
variable {ρ : Ss} {m : M} {Q : D → M → Prop} {α : Type}
/-- [e for .. in xs], with draws: an invariant; what is found is told by P -/
theorem WE.lcI {it : AF} {t : Tgt} {e : EF} (I : M → List D → Prop) (h : WI it ρ m fun xs m1 => xs.length ≤ 1000000 ∧ I m1 [] ∧ (∀ i x m acc, xs[i]? = some x → acc.length = i → I m acc → ∃ ys, t.un x = some ys ∧ WE e (setMany ρ t.is ys) m fun d m1 => I m1 (acc ++ [d])) ∧ ∀ m acc, acc.length = xs.length → I m acc → Q (.lst acc) m) : WE (eLcK false it t tTrue e) ρ m Q := by
  refine WE.lcK ?_
  obtain ⟨xs, m1, e1, hz, h0, hs, hq⟩ := h
  refine ⟨xs, m1, e1, hz, ?_⟩
  have key : ∀ (rest pre : List D) (m2 : M) (acc : List D), xs = pre ++ rest → acc.length = pre.length → I m2 acc → ∃ ys m3, compGo t tTrue e ρ rest m2 = some (ys, m3) ∧ ys.length = rest.length ∧ I m3 (acc ++ ys) := by
    intro rest
    induction rest with
    | nil => intro pre m2 acc _ _ hI; exact ⟨[], m2, rfl, rfl, by simpa using hI⟩
    | cons x rest ih =>
      intro pre m2 acc ex hl hI
      have hx : xs[pre.length]? = some x := by simp [ex]
      obtain ⟨ys, q1, d, m3, q2, q3⟩ := hs pre.length x m2 acc hx hl hI
      obtain ⟨zs, m4, q4, q5, q6⟩ := ih (pre ++ [x]) m3 (acc ++ [d]) (by simp [ex]) (by simp [hl]) q3
      refine ⟨d :: zs, m4, ?_, by simp [q5], by simpa [List.append_assoc] using q6⟩
      unfold compGo
      rw [q1]
      show bd (e (setMany ρ t.is ys) m2) _ = _
      rw [q2]
      show bd (compGo t tTrue e ρ rest m3) _ = _
      rw [q4]
      rfl
  obtain ⟨ys, m3, k1, k2, k3⟩ := key xs [] m1 [] rfl rfl h0
  exact ⟨ys, m3, k1, hq m3 ys k2 (by simpa using k3)⟩
end
end L4
namespace L4
open PySem
section
variable {m : M}
theorem pdM_pure {x : D} {p : PyData} (hp : pureD x = true) (h : pd x = some p) (hs : SeqAt.shaped p = true) : pdM m x = some p := by
  unfold pdM frz
  rw [if_pos hp]
  show (match pd x with | some a => if SeqAt.shaped a then some a else none | none => none) = _
  rw [h]
  exact if_pos hs
theorem pdL_ints : ∀ is : List Int, pdL (is.map D.int) = some (is.map PyData.int)
  | [] => rfl
  | i :: is => by rw [List.map_cons, pdL, pd, pdL_ints is]; rfl
theorem pureL_ints : ∀ is : List Int, pureL (is.map D.int) = true
  | [] => rfl
  | i :: is => by rw [List.map_cons, pureL, pureD, pureL_ints is]; rfl
theorem lay_ints : ∀ is : List Int, PyData.canLayAll0 (is.map PyData.int) = true ∧ PyData.depthAll (is.map PyData.int) ≤ 1
  | [] => ⟨rfl, by simp [PyData.depthAll]⟩
  | i :: is => by
    obtain ⟨h1, h2⟩ := lay_ints is
    refine ⟨by simp [PyData.canLayAll0, PyData.canLay0, h1], ?_⟩
    simp only [List.map_cons, PyData.depthAll, PyData.depth]
    omega
theorem pdM_li {is : List Int} : pdM m (.lst (is.map .int)) = some (.list (is.map .int)) := by
  obtain ⟨h1, h2⟩ := lay_ints is
  have hd : (PyData.list (is.map .int)).depth ≤ 64 := by simp only [PyData.depth]; omega
  exact pdM_pure (pureL_ints is) (by rw [pd, pdL_ints]; rfl) (by simp [SeqAt.shaped, PyData.canLay0, h1, hd])
end
end L4
namespace L4
open PySem
section
variable {ρ : Ss} {m : M}
theorem w_and_t {x : Bool} {A B : Prop} (h : x = true) (a : A) : (x = true → A) ∧ (x = false → B) := ⟨fun _ => a, fun h' => (by rw [h] at h'; cases h')⟩
theorem w_and_f {x : Bool} {A B : Prop} (h : x = false) (b : B) : (x = true → A) ∧ (x = false → B) := ⟨fun h' => (by rw [h] at h'; cases h'), fun _ => b⟩
theorem w_or_f {x : Bool} {A B : Prop} (h : x = false) (a : A) : (x = false → A) ∧ (x = true → B) := ⟨fun _ => a, fun h' => (by rw [h] at h'; cases h')⟩
theorem w_or_t {x : Bool} {A B : Prop} (h : x = true) (b : B) : (x = false → A) ∧ (x = true → B) := ⟨fun h' => (by rw [h] at h'; cases h'), fun _ => b⟩
theorem WS.mono {f : SF} {P Q : Fl → M → Prop} (h : WS f ρ m P) (k : ∀ r m, P r m → Q r m) : WS f ρ m Q := by
  obtain ⟨r, m1, e, h⟩ := h
  exact ⟨r, m1, e, k r m1 h⟩
end
end L4
namespace L4
open PySem PySem.Spec PyProof.Rows L2
mutual
/-- no list, no dict, nothing tracked -/
def noLd : D → Bool
  | .tup ds => noLdL ds
  | .scr ds => noLdL ds
  | .obj _ _ vs => noLdL vs
  | .lst _ => false
  | .dic _ _ => false
  | .ref _ => false
  | .non => true
  | .bl _ => true
  | .int _ => true
  | .str _ => true
  | .glo _ => true
  | .ty _ => true
  | .tab _ => false
  | .ptp ds => noLdL ds
def noLdL : List D → Bool
  | [] => true
  | d :: ds => noLd d && noLdL ds
end
/-- a list or a dict that may change -/
def Ll : HO → Prop
  | .lst _ => True
  | .dK _ => True
  | .ext _ => True
  | _ => False
section
variable {X : Cx} {g : G} {T : Tk} {H H' : Hp} {m : M} {pos p : Pos} {e : Expr} {es : List Expr} {k n : Nat} {x c : Str}
structure LentLd (T : Tk) (H H' : Hp) (ν : List Addr) : Prop where
  sub : ∀ a ∈ ν, a ∈ T.ν
  ld : ∀ a ∈ T.ν, a ∉ ν → ∃ u, H' a = some u ∧ Ll u
theorem LentLd.out {ν : List Addr} (h : LentLd T H H' ν) {a : Addr} {v : HO} (n : a ∉ ν) (e : H' a = some v) (hv : ¬ Ll v) : a ∉ T.ν := fun z => by
  obtain ⟨u, h2, h3⟩ := h.ld a z n
  rw [e] at h2
  cases h2
  exact hv h3
/-- nothing tracked is an instance -/
def noIns (m : M) : Bool := m.all fun o => match o with
  | .ins _ _ _ => false
  | _ => true
def callK (F : List D → Option D) (m : M) (ds : List D) : Option D := if pureL ds then F ds else if noIns m then match mapO (frz m) ds with
    | some es => match F es with
      | some d => if noLd d then some d else none
      | none => none
    | none => none
  else none
end
end L4
namespace L4
open PySem
theorem str_ext {a b : Str} (h : a.cps.toList = b.cps.toList) : a = b := by
  cases a; cases b
  congr 1
  exact Array.ext' h
theorem catS_l (a b : Str) : (catS a b).cps.toList = a.cps.toList ++ b.cps.toList := rfl
theorem joinT_l (a : Str) (ys : List Str) : (joinT a ys).cps.toList = TL.joinL a.cps.toList (ys.map fun y => y.cps.toList) := rfl
theorem spl1_word (c : Nat) : ∀ w : List Nat, c ∉ w → spl1 c w = [w]
  | [], _ => rfl
  | x :: w, h => by
    have hx : ¬ x = c := fun e => h (by simp [e])
    have ih := spl1_word c w fun e => h (List.mem_cons_of_mem _ e)
    unfold spl1
    rw [if_neg hx, ih]
theorem spl1_cons (c : Nat) (r : List Nat) : ∀ w : List Nat, c ∉ w → spl1 c (w ++ c :: r) = w :: spl1 c r
  | [], _ => by rw [List.nil_append]; conv => lhs; unfold spl1; rw [if_pos rfl]
  | x :: w, h => by
    have hx : ¬ x = c := fun e => h (by simp [e])
    have ih := spl1_cons c r w fun e => h (List.mem_cons_of_mem _ e)
    rw [List.cons_append]
    conv => lhs; unfold spl1
    rw [if_neg hx, ih]
theorem spl1_join (c : Nat) : ∀ ws : List (List Nat), ws ≠ [] → (∀ w ∈ ws, c ∉ w) → spl1 c (TL.joinL [c] ws) = ws
  | [], h, _ => absurd rfl h
  | [w], _, h => spl1_word c w (h w List.mem_cons_self)
  | w :: v :: ws, _, h => by
    have ih := spl1_join c (v :: ws) (by simp) fun u hu => h u (List.mem_cons_of_mem _ hu)
    show spl1 c (w ++ ([c] ++ TL.joinL [c] (v :: ws))) = _
    rw [List.singleton_append, spl1_cons c _ w (h w List.mem_cons_self), ih]
theorem mk_toList (y : Str) : (⟨y.cps.toList.toArray⟩ : Str) = y := by cases y; simp
/-- a text joined of words without a sign is split at it into these words -/
theorem split_join {a : Str} {c : Nat} (ha : a.cps.toList = [c]) {ws : List Str} (hne : ws ≠ []) (h : ∀ w ∈ ws, c ∉ w.cps.toList) : splitS (joinT a ws) c = ws := by
  unfold splitS
  rw [joinT_l, ha, spl1_join c _ (by simpa using hne) (fun w hw => by
    obtain ⟨y, hy, rfl⟩ := List.mem_map.mp hw
    exact h y hy), List.map_map]
  conv => rhs; rw [← List.map_id ws]
  exact List.map_congr_left fun y _ => mk_toList y
theorem joinL_len (c : Nat) : ∀ ws : List (List Nat), (TL.joinL [c] ws).length ≤ (ws.map fun w => w.length + 1).sum
  | [] => by simp [TL.joinL]
  | [w] => by simp [TL.joinL]
  | w :: v :: ws => by
    have ih := joinL_len c (v :: ws)
    show (w ++ ([c] ++ TL.joinL [c] (v :: ws))).length ≤ _
    simp only [List.length_append, List.length_singleton, List.map_cons, List.sum_cons] at ih ⊢
    omega
theorem slen (x : Str) : x.length = x.cps.toList.length := by
  cases x
  simp [Str.length]
section
variable {m : M} {Q : D → Prop} {ρ : Ss}
theorem Kn.split {a b : Str} {c : Nat} {ws : List Str} (hb : b.cps.toList = [c]) (hc : c < 256) (ha : a.length + 2 ≤ sizeLine) (e : splitS a c = ws) (q : Q (.lst (ws.map D.str))) : Kn (splitD m (.str a) (.str b)) Q := ⟨_, by
  show (match b.cps.toList with
    | [c] => if c < 256 ∧ a.length + 2 ≤ sizeLine then some (D.lst ((splitS a c).map .str)) else none
    | _ => none) = _
  rw [hb]
  show (if c < 256 ∧ a.length + 2 ≤ sizeLine then some (D.lst ((splitS a c).map .str)) else none) = _
  rw [if_pos ⟨hc, ha⟩, e], q⟩
theorem WE.m1 {F : M → D → D → Option D} {a b : EF} {Q : D → M → Prop} (h : WE a ρ m fun x m1 => ∃ z, x = .str z ∧ WE b ρ m1 fun y m2 => Kn (F m2 (.str z) y) fun d => Q d m2) : WE (eM1 F a b) ρ m Q := by
  obtain ⟨x, m1, e1, z, rfl, y, m2, e2, d, e3, q⟩ := h
  refine ⟨d, m2, ?_, q⟩
  unfold eM1
  rw [e1]
  show bd (b ρ m1) _ = _
  rw [e2]
  show pu (F m2 (.str z) y) m2 = _
  rw [e3]
  rfl
theorem Kn.str_s {x : Str} (q : Q (.str x)) : Kn (strT m [.str x]) Q := ⟨_, rfl, q⟩
end
end L4
namespace L4
open PySem
section
variable {m : M} {ρ : Ss} {Q : D → M → Prop}
theorem WE.newPL {i : Nat} {c : Str} {F : List D → M → Option (D × M)} {a : AF} (h0 : ρ.getD i none = some (.glo c)) (h : WA a ρ m fun xs m1 => Kn (pureC (newP c F) m1 xs) fun d => Q d m1) : WE (eNewPL i c F a) ρ m Q := by
  obtain ⟨d, m1, e, q⟩ := WE.call h
  refine ⟨d, m1, ?_, q⟩
  unfold eNewPL
  rw [h0]
  show (if c = c then eCall (pureC (newP c F)) a ρ m else none) = _
  rw [if_pos rfl]
  exact e
theorem WE.tbl {tb : List (Str × D)} {a : EF} (h : WE a ρ m fun y m1 => Kn (tblGet tb y) fun d => Q d m1) : WE (eTbl tb a) ρ m Q :=
  Wr.bd (by obtain ⟨y, m1, e, h⟩ := h; exact ⟨y, m1, e, Wr.pu h⟩)
theorem WE.tblNin {tb : List (Str × D)} {a : EF} (h : WE a ρ m fun y m1 => ∃ z, y = .str z ∧ Q (.bl (!(tb.lookup z).isSome)) m1) : WE (eTblNin tb a) ρ m Q :=
  Wr.bd (by obtain ⟨y, m1, e, z, rfl, h⟩ := h; exact ⟨_, m1, e, _, m1, rfl, h⟩)
theorem in_non {is : List Int} : inA m .non (.lst (is.map .int)) = some (.bl false) := by
  have e : inAB m .non (.lst (is.map .int)) = some false := by
    show inB m .non (.lst (is.map .int)) = _
    have h0 : pdM m .non = some .none := pdM_pure rfl rfl rfl
    show (match pdM m .non, pdM m (.lst (is.map .int)) with
      | some a, some (.tuple ds) => some (ds.any fun z => PyData.eqv z a)
      | some a, some (.list ds) => some (ds.any fun z => PyData.eqv z a)
      | _, _ => none) = _
    rw [pdM_li, h0]
    show some ((is.map PyData.int).any fun z => PyData.eqv z .none) = _
    congr 1
    induction is with
    | nil => rfl
    | cons j is ih => rw [List.map_cons, List.any_cons, ih]; rfl
  unfold inA
  rw [e]
  rfl
end
end L4
namespace L4
open PySem
section
variable {m : M} {ρ : Ss} {Q : D → M → Prop}
/-- {k: e, ..} -/
def WP (ps : List (EF × EF)) (ρ : Ss) (m : M) (Q : List (D × D) → M → Prop) : Prop := Wr (pairsF ps ρ m) Q
theorem WP.nil {Q : List (D × D) → M → Prop} (q : Q [] m) : WP [] ρ m Q := ⟨[], m, rfl, q⟩
theorem WP.cons {a b : EF} {r : List (EF × EF)} {Q : List (D × D) → M → Prop} (h : WE a ρ m fun x m1 => WE b ρ m1 fun y m2 => WP r ρ m2 fun ps m3 => Q ((x, y) :: ps) m3) : WP ((a, b) :: r) ρ m Q := by
  obtain ⟨x, m1, e1, y, m2, e2, ps, m3, e3, q⟩ := h
  refine ⟨(x, y) :: ps, m3, ?_, q⟩
  unfold pairsF
  rw [e1]
  show bd (b ρ m1) _ = _
  rw [e2]
  show bd (pairsF r ρ m2) _ = _
  rw [e3]
  rfl
theorem WE.disp {nw : Bool} {ps : List (EF × EF)} (h : WP ps ρ m fun qs m1 => ((qs.all fun q => isFlat q.1) && decide (qs.length ≤ 15)) = true ∧ Q (bif nw then .ref m1.length else .dic (mergeD qs ([], [])).1 (mergeD qs ([], [])).2) (bif nw then m1 ++ [.dic (mergeD qs ([], [])).1 (mergeD qs ([], [])).2] else m1)) : WE (eDisp nw ps) ρ m Q :=
  Wr.bd (by obtain ⟨qs, m1, e, h1, q⟩ := h; exact ⟨qs, m1, e, _, _, (if_pos h1).trans (by cases nw <;> rfl), q⟩)
/-- d.update(e) -/
theorem WE.upd {a b : EF} (h : WE a ρ m fun x m1 => ∃ n, x = .ref n ∧ (∃ ks0 vs0, m1[n]? = some (.dic ks0 vs0) ∧ flatL ks0 = true) ∧ WE b ρ m1 fun y m2 => ∃ ks vs ks2 vs2, m2[n]? = some (.dic ks vs) ∧ y = .dic ks2 vs2 ∧ (flatL ks && flatL ks2 && decide (ks.length + ks2.length ≤ sizeLine) && decide (ks2.length = vs2.length)) = true ∧ Q .non (m2.set n (.dic (mergeD (ks2.zip vs2) (ks, vs)).1 (mergeD (ks2.zip vs2) (ks, vs)).2))) : WE (eUpd a b) ρ m Q := by
  obtain ⟨x, m1, e1, n, rfl, ⟨ks0, vs0, h0, hf0⟩, y, m2, e2, ks, vs, ks2, vs2, h1, rfl, h2, q⟩ := h
  refine ⟨.non, _, ?_, q⟩
  unfold eUpd
  rw [e1]
  show (match m1[n]? with
    | some (.dic ks0 _) => if flatL ks0 then bd (b ρ m1) fun y m2 => match m2[n]?, y with
        | some (.dic ks vs), .dic ks2 vs2 => if flatL ks && flatL ks2 && decide (ks.length + ks2.length ≤ sizeLine) && decide (ks2.length = vs2.length) then some (D.non, m2.set n (.dic (mergeD (ks2.zip vs2) (ks, vs)).1 (mergeD (ks2.zip vs2) (ks, vs)).2)) else none
        | _, _ => none
      else none
    | _ => none) = _
  rw [h0]
  show (if flatL ks0 then bd (b ρ m1) _ else none) = _
  rw [if_pos hf0, e2]
  show (match m2[n]?, D.dic ks2 vs2 with
        | some (.dic ks vs), .dic ks2 vs2 => if flatL ks && flatL ks2 && decide (ks.length + ks2.length ≤ sizeLine) && decide (ks2.length = vs2.length) then some (D.non, m2.set n (.dic (mergeD (ks2.zip vs2) (ks, vs)).1 (mergeD (ks2.zip vs2) (ks, vs)).2)) else none
        | _, _ => none) = _
  rw [h1]
  exact if_pos h2
theorem WE.chain {f h : M → D → D → Option D} {a b c : EF} (q : WE a ρ m fun x m1 => WE b ρ m1 fun y m2 => Kn (f m2 x y) fun d => ∃ v, d = .bl v ∧ (v = true → WE c ρ m2 fun z m3 => Kn (h m3 y z) fun d2 => Q d2 m3) ∧ (v = false → Q (.bl false) m2)) : WE (eChain f h a b c) ρ m Q := by
  obtain ⟨x, m1, e1, y, m2, e2, d, e3, v, rfl, q1, q2⟩ := q
  unfold eChain WE
  show Wr (bd (a ρ m) _) Q
  rw [e1]
  show Wr (bd (b ρ m1) _) Q
  rw [e2]
  show Wr (match f m2 x y with
    | some (.bl true) => bd (c ρ m2) fun z m3 => pu (h m3 y z) m3
    | some (.bl false) => some (.bl false, m2)
    | _ => none) Q
  rw [e3]
  cases v
  · exact ⟨_, m2, rfl, q2 rfl⟩
  · obtain ⟨z, m3, e4, d2, e5, q⟩ := q1 rfl
    refine ⟨d2, m3, ?_, q⟩
    show bd (c ρ m2) _ = _
    rw [e4]
    show pu (h m3 y z) m3 = _
    rw [e5]
    rfl
end
end L4
namespace L4
open PySem
end L4
namespace L4
open PySem
section
variable {m : M} {ρ : Ss}
/-- a loop that may be left -/
theorem WS.goX {g : GF} {b : SF} {Q : Fl → M → Prop} (I : Nat → Ss → M → Prop) : ∀ (xs : List D) (i : Nat) (ρ : Ss) (m : M), I i ρ m →
    (∀ j x ρ m, xs[j]? = some x → I (i + j) ρ m → WG g x ρ m fun ρ1 m1 => WS b ρ1 m1 fun r m2 => (∃ ρ2, (r = .nx ρ2 ∨ r = .ct ρ2) ∧ I (i + j + 1) ρ2 m2) ∨ (∃ d, r = .rt d ∧ Q (.rt d) m2) ∨ ∃ ρ2, r = .bk ρ2 ∧ Q (.nx ρ2) m2) →
    (∀ ρ m, I (i + xs.length) ρ m → Q (.nx ρ) m) → WS (forGo g b xs) ρ m Q
  | [], i, ρ, m, hI, _, hq => ⟨_, m, rfl, hq ρ m hI⟩
  | x :: xs, i, ρ, m, hI, hs, hq => by
    obtain ⟨ρ1, m1, e1, r, m2, e2, h⟩ := hs 0 x ρ m rfl hI
    unfold WS forGo
    show Wr (bd (g x ρ m) _) Q
    rw [e1]
    show Wr (bd (b ρ1 m1) _) Q
    rw [e2]
    rcases h with ⟨ρ2, hr, hI2⟩ | ⟨d, rfl, q⟩ | ⟨ρ2, rfl, q⟩
    · have ih := WS.goX (g := g) (b := b) I xs (i + 1) ρ2 m2 hI2 (fun j y ρ m hj hJ => by
        have := hs (j + 1) y ρ m (by simpa using hj) (by rw [show i + (j + 1) = i + 1 + j by omega]; exact hJ)
        rw [show i + (j + 1) + 1 = i + 1 + j + 1 by omega] at this
        exact this) fun ρ m hJ => hq ρ m (by rw [List.length_cons, show i + (xs.length + 1) = i + 1 + xs.length by omega]; exact hJ)
      rcases hr with rfl | rfl <;> exact ih
    · exact ⟨_, m2, rfl, q⟩
    · exact ⟨_, m2, rfl, q⟩
/-- a loop over a list that is plain data -/
theorem WS.forAX {fuel : Nat} {a : EF} {g : GF} {b : SF} {Q : Fl → M → Prop} (I : Nat → Ss → M → Prop) (h : WE a ρ m fun x m1 => ∃ xs, (x = .lst xs ∨ x = .tup xs) ∧ I 0 ρ m1 ∧ (∀ i x ρ m, xs[i]? = some x → I i ρ m → WG g x ρ m fun ρ1 m1 => WS b ρ1 m1 fun r m2 => (∃ ρ2, (r = .nx ρ2 ∨ r = .ct ρ2) ∧ I (i + 1) ρ2 m2) ∨ (∃ d, r = .rt d ∧ Q (.rt d) m2) ∨ ∃ ρ2, r = .bk ρ2 ∧ Q (.nx ρ2) m2) ∧ ∀ ρ m, I xs.length ρ m → Q (.nx ρ) m) : WS (sForA fuel a g b) ρ m Q := by
  obtain ⟨x, m1, e, xs, hx, h1, h2, h3⟩ := h
  have key : WS (forGo g b xs) ρ m1 Q := WS.goX I xs 0 ρ m1 h1 (fun j x ρ m hj hJ => by
    rw [Nat.zero_add] at hJ ⊢
    exact h2 j x ρ m hj hJ) fun ρ m hJ => h3 ρ m (by rwa [Nat.zero_add] at hJ)
  unfold WS sForA
  show Wr (bd (a ρ m) _) Q
  rw [e]
  rcases hx with rfl | rfl <;> exact key
end
end L4
namespace L4
open PySem
section
variable {m : M} {ρ : Ss} {Q : D → M → Prop}
/-- a field of an object -/
def Fld (m : M) (x : D) (cs : List Str) (f : Str) (Q : D → Prop) : Prop := ∃ c ns vs v, insOf m x = some (c, ns, vs) ∧ cs.contains c = true ∧ fldAt ns vs f = some v ∧ Q v
theorem WE.fldF {cs : List Str} {f : Str} {o : EF} (h : WE o ρ m fun x m1 => Fld m1 x cs f fun v => Q v m1) : WE (eFld cs f o) ρ m Q := by
  obtain ⟨x, m1, e, c, ns, vs, v, h1, h2, h3, q⟩ := h
  refine ⟨v, m1, ?_, q⟩
  unfold eFld
  rw [e]
  show (match insOf m1 x with
    | some (c, ns, vs) => if cs.contains c = true then pu (fldAt ns vs f) m1 else none
    | none => none) = _
  rw [h1]
  show (if cs.contains c = true then pu (fldAt ns vs f) m1 else none) = _
  rw [if_pos h2, h3]
  rfl
end
end L4
namespace L4
open PySem
section
variable {m : M} {ρ : Ss} {Q : D → M → Prop}
/-- o.m(..), an object's method on plain data -/
theorem WE.mth {c nm : Str} {F : M → List D → Option D} {o : EF} {a : AF} (h : WE o ρ m fun x m1 => ∃ ns vs, insOf m1 x = some (c, ns, vs) ∧ ns.contains nm = false ∧ WA a ρ m1 fun xs m2 => Kn (F m2 (x :: xs)) fun d => Q d m2) : WE (eMth c nm F o a) ρ m Q := by
  obtain ⟨x, m1, e, ns, vs, h1, h2, xs, m2, e2, d, e3, q⟩ := h
  refine ⟨d, m2, ?_, q⟩
  unfold eMth
  rw [e]
  show (match insOf m1 x with
    | some (c', ns, _) => if c' = c ∧ ns.contains nm = false then bd (a ρ m1) fun xs m2 => pu (F m2 (x :: xs)) m2 else none
    | none => none) = _
  rw [h1]
  show (if c = c ∧ ns.contains nm = false then bd (a ρ m1) fun xs m2 => pu (F m2 (x :: xs)) m2 else none) = _
  rw [if_pos ⟨rfl, h2⟩, e2]
  show pu (F m2 (x :: xs)) m2 = _
  rw [e3]
  rfl
end
end L4
namespace L4
open PySem
end L4
namespace L4
open PySem PySem.Spec PyProof.Rows L2
section
variable {X : Cx} {g : G} {T T' : Tk} {H : Hp} {m : M} {Q : VK} {pos p : Pos} {e : Expr} {ks vs : List D} {kvs : List (Key × V)}
def dicW (m : M) : D → Option (List D × List D)
  | .ref n => match m[n]? with
    | some (.dic ks vs) => if flatL ks then some (ks, vs) else none
    | _ => none
  | .dic ks vs => if flatL ks then some (ks, vs) else none
  | _ => none
/-- a new dict that stays as it is -/
theorem KV.dicF (k : KV g T H m (.dic ks vs) Q) (hm : RepH g T H m) (r1 : RepL g T H ks (kvs.map fun p => kV p.1)) (r2 : RepL g T H vs (kvs.map Prod.snd)) (p : Addr) (hp : H p = none) : Q (.ref p) (upd H p (.dK kvs)) := by
  obtain ⟨l, hm'⟩ := hm.fresh (u := .dK kvs) hp
  exact k _ T _ l hm' (.dicF (fun z => hm.nope hp z) (.inl upd_same) (r1.le l) (r2.le l))
def eDicC (nw : Bool) (a : EF) : EF := fun ρ m => bd (a ρ m) fun x m1 => match dicW m1 x with
  | some (ks, vs) => some (bif nw then (.ref m1.length, m1 ++ [.dic ks vs]) else (.dic ks vs, m1))
  | none => none
end
end L4
namespace L4
open PySem
section
variable {m : M} {ρ : Ss} {Q : D → M → Prop}
theorem WE.dicC {nw : Bool} {a : EF} (h : WE a ρ m fun x m1 => Kn (dicW m1 x) fun p => Q (bif nw then D.ref m1.length else D.dic p.1 p.2) (bif nw then m1 ++ [O.dic p.1 p.2] else m1)) : WE (eDicC nw a) ρ m Q := by
  obtain ⟨x, m1, e, ⟨ks, vs⟩, e2, q⟩ := h
  refine ⟨_, _, ?_, q⟩
  unfold eDicC
  rw [e]
  show (match dicW m1 x with
    | some (ks, vs) => some (bif nw then (D.ref m1.length, m1 ++ [O.dic ks vs]) else (D.dic ks vs, m1))
    | none => none) = _
  rw [e2]
  cases nw <;> rfl
end
end L4
namespace L4
open PySem PySem.Spec PyProof.Rows L2
section
variable {X : Cx} {g : G} {T T' : Tk} {H : Hp} {m : M} {Q : VK} {k n : Nat} {c : Str} {F : List D → Option D}
/-- x == y of two objects of the class c -/
def eqO (c : Str) (F : List D → Option D) (m : M) (x y : D) : Option Bool := match insOf m x, insOf m y with
  | some (c1, _, _), some (c2, _, _) => if c1 = c ∧ c2 = c then match callP F m [x, y] with
    | some (.bl b) => some b
    | _ => none
    else none
  | _, _ => none
end
end L4
namespace L4
open PySem PySem.Spec PyProof.Rows L2
end L4
namespace L4
open PySem PySem.Spec PyProof.Rows L2
section
variable {X : Cx} {g : G} {T : Tk} {H : Hp} {m : M} {Q : VK} {pos apos cpos : Pos}
/-- a tuple that is known to the object -/
def Kt (H : Hp) (a : Addr) (vs : List V) : Prop := ∃ ob : Obj, H a = some (.frz ob (.tup vs)) ∧ ob.dict = none
theorem Kt.new {H : Hp} {p : Addr} {ob : Obj} {vs : List V} (h : ob.dict = none) : Kt (upd H p (.frz ob (.tup vs))) p vs := ⟨ob, upd_same, h⟩
theorem Kt.rd {a : Addr} {vs : List V} (h : Kt H a vs) : Rd H a (.tup vs) := by obtain ⟨ob, h, _⟩ := h; exact .inr ⟨ob, h⟩
end
section
variable {X : Cx} {T T' : Tk} {H H' : Hp} {m : M} {g : G}
theorem Kt.le {a : Addr} {vs : List V} (k : Kt H a vs) (l : Le T H T' H') (n : a ∉ T.ν) : Kt H' a vs := by
  obtain ⟨ob, h, d⟩ := k
  exact ⟨ob, l.keep _ _ h (Tk.out n) (Tk.outτ n), d⟩
theorem SqT.fresh {K : PySem.W.Frag} {a c : Addr} {vs : List V} {u : HO} (h : SqT K H a vs) (hc : H c = none) : SqT K (upd H c u) a vs := by
  rcases h with (h | ⟨ob, h⟩) | h
  · exact .inl (.inl (by rw [upd_ne (ne_of_none h hc)]; exact h))
  · exact .inl (.inr ⟨ob, by rw [upd_ne (ne_of_none h hc)]; exact h⟩)
  · exact .inr h
end
end L4
namespace L4
end L4
namespace L4
open PySem PySem.Spec PyProof.Rows L2
end L4
namespace L4
open PySem PySem.Spec PyProof.Rows L2
end L4
namespace L4
open PySem PyProof.Rows PySem.W L2
end L4
namespace L4
open PySem PySem.Spec PyProof.Rows L2
end L4
namespace L4
open PySem PySem.Spec PyProof.Rows L2
section
variable {X : Cx} {pos : Pos} {o : Expr} {f : Str}
def gFldV (K : PySem.W.Frag) (to : TE) (f : Str) : TG := fun v σ H Q => to σ H fun x H1 => ∃ a C dx fs, x = .ref a ∧ H1 a = some (.ins C dx fs) ∧ Cls K C ∧ NoAttr K C f ∧ fs.length < 1000 ∧ Q σ (L2.upd H1 a (.ins C dx (putF f v fs)))
theorem pg_fld {to : TE} (ho : PE X o to) : PG X (.Attribute o f pos) (gFldV X.K to f) := by
  refine ⟨fun pins s σ H v u Q I r h => ?_⟩
  rw [arm_assign_Attribute]
  refine wpAny_bind (wpAny_holding (thn (ho.run pins s σ H _ I h) fun ov s1 ⟨x, H1, I1, r1, a, C, dx, fs, ex, ea, c, n, l, q1⟩ => ?_))
  subst ex
  obtain rfl : ov = Value.ref a := r1
  refine wpAny_bind (wpAny_standAt (wpAny_bind (wpAny_holding (setattr_ok I1 ea c n l r fun s3 I3 => ?_))))
  exact wpAny_release ⟨σ, _, I3, q1⟩
def gFldM (cs : List Str) (f : Str) (o : EF) : GF := fun d ρ m => bd (o ρ m) fun x m1 => match x with
  | .ref n => match m1[n]? with
    | some (.ins c ns vs) => if cs.contains c ∧ vs.length < 1000 then some (ρ, m1.set n (.ins c (putD f d ns vs).1 (putD f d ns vs).2)) else none
    | _ => none
  | _ => none
theorem dg_fld {cs : List Str} {fo : EF} (hn : NA X.K cs f) (ho : DE X o fo) : DG X (.Attribute o f pos) (gFldM cs f fo) := by
  obtain ⟨to, po, ro⟩ := ho.ex
  refine ⟨_, pg_fld po, fun T σ H ρ m d v ρ' m' hm hs r1 hf Q k => ?_⟩
  obtain ⟨x, m2, e2, hf2⟩ := bd_some hf
  refine ro T σ H ρ m x m2 hm hs e2 _ fun u T2 H2 l2 hm2 r2 => ?_
  clear hf
  split at hf2
  · next n =>
    split at hf2
    · next c ns vs hi =>
      obtain ⟨⟨hc, hl⟩, hf3⟩ := ite_some hf2
      cases hf3
      cases r2 with
      | ref ea =>
        cases hm2.at_ _ _ _ ea hi with
        | @ins dx fs _ _ _ h1 h2 r =>
          have hc' := hn c (by simpa using hc)
          refine ⟨_, _, dx, fs, rfl, h1, hc'.1, hc'.2, by have := r.length; simp at this; omega, ?_⟩
          obtain ⟨l3, hm3⟩ := hm2.put (u := .ins (He.ga X.K c) dx (putF f v fs)) (o := .ins c (putD f d ns vs).1 (putD f d ns vs).2) ea fun l => by
            obtain ⟨q1, q2⟩ := put_rep (f := f) ((r1.le l2).le l) (r.le l)
            rw [h2] at q1 q2
            exact .ins upd_same q1 q2
          exact k σ _ _ (l2.trans l3) hm3 (hs.le (l2.trans l3))
    · cases hf2
  · cases hf2
end
end L4
namespace L4
open PySem PySem.Spec PyProof.Rows L2
end L4
namespace L4
open PySem PySem.Spec PyProof.Rows L2
def upD : D → D
  | .ptp ds => .tup ds
  | d => d
section
variable {X : Cx} {g : G} {T T' : Tk} {H H' : Hp} {m : M} {Q : VK} {pos p apos cpos : Pos} {e o : Expr} {es : List Expr} {k n : Nat} {x c nm : Str}
def eUp (a : EF) : EF := fun ρ m => bd (a ρ m) fun x m1 => some (upD x, m1)
end
end L4
namespace L4
open PySem PySem.Spec PyProof.Rows L2
section
variable {X : Cx} {g : G} {T T' : Tk} {H H' : Hp} {m : M} {Q : VK} {pos p apos cpos : Pos} {e o : Expr} {es : List Expr} {k n : Nat} {x c nm : Str}
def pairD : D → Option (D × D)
  | .tup [k, v] => some (k, v)
  | _ => none
def pairsD : List D → Option (List (D × D))
  | [] => some []
  | d :: ds => match pairD d, pairsD ds with
    | some q, some qs => some (q :: qs)
    | _, _ => none
def srcD (m : M) : D → Option (List D)
  | .ptp ds => some ds
  | x => lstR m x
def mgD (qs : List (D × D)) : List D × List D := mergeD qs ([], [])
def eDicP (nw : Bool) (a : EF) : EF := fun ρ m => bd (a ρ m) fun x m1 => match (srcD m1 x).bind pairsD with
  | some qs => if ((qs.all fun q => isFlat q.1) || qs.all fun q => (nkT q.1).isSome) && decide (qs.length ≤ sizeLine) then some (bif nw then (.ref m1.length, m1 ++ [.dic (mgD qs).1 (mgD qs).2]) else (.dic (mgD qs).1 (mgD qs).2, m1)) else none
  | none => none
end
end L4
namespace L4
open PySem PySem.Spec PyProof.Rows L2
section
variable {X : Cx} {g : G} {T T' : Tk} {H H' : Hp} {m : M} {Q : VK} {pos p apos cpos : Pos} {e o : Expr} {es : List Expr} {k n : Nat} {x c nm : Str}
/-- a new tuple that is held as it is -/
theorem KV.ptp {ds : List D} {xs : List V} (k : KV g T H m (.ptp ds) Q) (hm : RepH g T H m) (rl : RepL g T H ds xs) (q : Addr) (hq : H q = none) (o : Obj) (ho : o.dict = none) : Q (.ref q) (upd H q (.frz o (.tup xs))) := by
  obtain ⟨l, hm'⟩ := hm.fresh (u := .frz o (.tup xs)) hq
  exact k _ T _ l hm' (.ptp ⟨hm.nope hq, o, upd_same, ho⟩ (rl.le l))
def eTupA (a : AF) : EF := fun ρ m => bd (a ρ m) fun xs m1 => if xs.length ≤ sizeLine then some (.ptp xs, m1) else none
def eTupL (a : EF) : EF := fun ρ m => bd (a ρ m) fun x m1 => match lstR m1 x with
  | some ds => some (.ptp ds, m1)
  | none => none
end
end L4
namespace L4
open PySem
section
variable {m : M} {ρ : Ss}
theorem WE.up {a : EF} {Q : D → M → Prop} (h : WE a ρ m fun x m1 => Q (upD x) m1) : WE (eUp a) ρ m Q :=
  Wr.bd (by obtain ⟨x, m1, e, h⟩ := h; exact ⟨x, m1, e, _, m1, rfl, h⟩)
theorem WE.upP {i : Nat} {ds : List D} {Q : D → M → Prop} (h : ρ.getD i none = some (.ptp ds)) (q : Q (.tup ds) m) : WE (eUp (eVar i)) ρ m Q := WE.up (WE.var h q)
theorem WE.upT {i : Nat} {ds : List D} {Q : D → M → Prop} (h : ρ.getD i none = some (.tup ds)) (q : Q (.tup ds) m) : WE (eUp (eVar i)) ρ m Q := WE.up (WE.var h q)
theorem WE.upL {i : Nat} {ds : List D} {Q : D → M → Prop} (h : ρ.getD i none = some (.lst ds)) (q : Q (.lst ds) m) : WE (eUp (eVar i)) ρ m Q := WE.up (WE.var h q)
theorem WE.upN {i : Nat} {Q : D → M → Prop} (h : ρ.getD i none = some .non) (q : Q .non m) : WE (eUp (eVar i)) ρ m Q := WE.up (WE.var h q)
theorem WE.tupA {a : AF} {Q : D → M → Prop} (h : WA a ρ m fun xs m1 => xs.length ≤ sizeLine ∧ Q (.ptp xs) m1) : WE (eTupA a) ρ m Q :=
  Wr.bd (by obtain ⟨x, m1, e, h1, h2⟩ := h; exact ⟨x, m1, e, _, m1, if_pos h1, h2⟩)
theorem WE.tupL {a : EF} {Q : D → M → Prop} (h : WE a ρ m fun x m1 => Kn (lstR m1 x) fun ds => Q (.ptp ds) m1) : WE (eTupL a) ρ m Q := by
  obtain ⟨x, m1, e, ds, e2, q⟩ := h
  refine ⟨_, m1, ?_, q⟩
  unfold eTupL
  rw [e]
  show (match lstR m1 x with
    | some ds => some (D.ptp ds, m1)
    | none => none) = _
  rw [e2]
theorem WE.dicP {a : EF} {Q : D → M → Prop} (h : WE a ρ m fun x m1 => Kn ((srcD m1 x).bind pairsD) fun qs => (((qs.all fun q => isFlat q.1) || qs.all fun q => (nkT q.1).isSome) && decide (qs.length ≤ sizeLine)) = true ∧ Q (.dic (mgD qs).1 (mgD qs).2) m1) : WE (eDicP false a) ρ m Q := by
  obtain ⟨x, m1, e, qs, e2, hg, q⟩ := h
  refine ⟨_, m1, ?_, q⟩
  unfold eDicP
  rw [e]
  show (match (srcD m1 x).bind pairsD with
    | some qs => if (((qs.all fun q => isFlat q.1) || qs.all fun q => (nkT q.1).isSome) && decide (qs.length ≤ sizeLine)) = true then some (bif false then (D.ref m1.length, m1 ++ [O.dic (mgD qs).1 (mgD qs).2]) else (D.dic (mgD qs).1 (mgD qs).2, m1)) else none
    | none => none) = _
  rw [e2]
  exact if_pos hg
end
end L4
namespace L4
open PySem PySem.Spec PyProof.Rows L2
end L4
namespace L4
open PySem PySem.Spec PyProof.Rows L2 HT
end L4
namespace L4
open PySem PySem.Spec PyProof.Rows L2
section
variable {X : Cx} {g : G} {T : Tk} {H : Hp} {m : M} {pos p apos : Pos} {e e2 o : Expr}
def insL (ds ys : List D) : Option (D × List D) := match ys with
  | [.int i, y] => if ds.length < sizeLine ∧ 0 ≤ i ∧ i < 2 ^ 63 then some (.non, ds.take i.toNat ++ [y] ++ ds.drop i.toNat) else none
  | _ => none
end
section
variable {m : M} {ρ : Ss}
theorem WE.ins {o e1 e2 : EF} {Q : D → M → Prop} (h : WE o ρ m fun x m1 => ∃ n, x = .ref n ∧ (∃ ds0, m1[n]? = some (.lst ds0)) ∧ WE e1 ρ m1 fun i m2 => WE e2 ρ m2 fun y m3 => ∃ (j : Nat) (ds : List D), i = .int (j : Nat) ∧ j < 1000000 ∧ m3[n]? = some (.lst ds) ∧ ds.length < sizeLine ∧ Q .non (m3.set n (.lst (ds.take j ++ [y] ++ ds.drop j)))) : WE (eLm0 (fun _ => insL) o (aCons e1 (aCons e2 aNil))) ρ m Q := by
  obtain ⟨x, m1, e1', n, rfl, ⟨ds0, h0⟩, i, m2, e2', y, m3, e3', j, ds, rfl, hj, h1, h2, q⟩ := h
  refine ⟨.non, _, ?_, q⟩
  unfold eLm0
  rw [e1']
  show (match m1[n]? with
    | some (.lst _) => bd (aCons e1 (aCons e2 aNil) ρ m1) fun ys m2 => match m2[n]? with
      | some (.lst ds) => (insL ds ys).map fun (r : D × List D) => (r.1, m2.set n (.lst r.2))
      | _ => none
    | _ => none) = _
  rw [h0]
  have ea : aCons e1 (aCons e2 aNil) ρ m1 = some ([.int (j : Nat), y], m3) := by
    unfold aCons
    rw [e2']
    show bd (bd (e2 ρ m2) _) _ = _
    rw [e3']
    rfl
  dsimp only
  rw [ea]
  show (match m3[n]? with
    | some (.lst ds) => (insL ds [.int (j : Nat), y]).map fun (r : D × List D) => (r.1, m3.set n (.lst r.2))
    | _ => none) = _
  rw [h1]
  have hi : insL ds [.int (j : Nat), y] = some (.non, ds.take j ++ [y] ++ ds.drop j) := by
    show (if ds.length < sizeLine ∧ 0 ≤ ((j : Nat) : Int) ∧ ((j : Nat) : Int) < 2 ^ 63 then some (D.non, ds.take ((j : Nat) : Int).toNat ++ [y] ++ ds.drop ((j : Nat) : Int).toNat) else none) = _
    rw [if_pos ⟨h2, by omega, by omega⟩, Int.toNat_natCast]
  dsimp only
  rw [hi]
  rfl
end
end L4
namespace L4
open PySem PySem.Spec PyProof.Rows PySem.W L2
section
variable {prog : Program} {w : World} {A : Around} {E : Value → Shared → Prop} {s : Shared} {z TI TO i1 i2 e : Addr} {fp1 fp2 : List Addr} {n1 n2 i : Nat} {P1 P2 : Nat → Value → Prop} {St1 St2 : Nat → Heap → Prop} {a1 a2 : Value}
/-- what is kept but for some cells -/
def Kp (L : List Addr) (h h' : Heap) : Prop := ∀ c o, c ∉ L → h.get? c = some o → h'.get? c = some o
theorem Kp.refl (L : List Addr) (h : Heap) : Kp L h h := fun _ _ _ e => e
theorem Kp.trans {L : List Addr} {h h1 h2 : Heap} (a : Kp L h h1) (b : Kp L h1 h2) : Kp L h h2 := fun c o n g => b c o n (a c o n g)
theorem Kp.push {L : List Addr} {h : Heap} {ob : Obj} : Kp L h (h.push ob) := fun _ _ _ g => Heap.get?_push_of_some _ g
theorem Kp.more {L M : List Addr} {h h' : Heap} (a : Kp L h h') (m : ∀ x ∈ L, x ∈ M) : Kp M h h' := fun c o n g => a c o (fun q => n (m c q)) g
end
end L4
namespace L4
open PySem PySem.Spec PyProof.Rows PySem.W L2
end L4
namespace L4
open PySem PySem.Spec PyProof.Rows L2
end L4
namespace L4
open PySem PySem.Spec PyProof.Rows L2
theorem Gd.any {k : Nat} {X Y : Cx} (h : Gd k X) (e : Y.A = X.A := by rfl) : Gd k Y := ⟨by rw [e]; exact h.g, by rw [e]; exact h.r⟩
def noM : List D → M → Option (D × M) := fun _ _ => none
theorem mfn_none {P : Program} {w : World} {K : PySem.W.Frag} {mg : Str → Option Value} {base : Heap} {k : Nat} {x : Str} {ps : List Str} {st : Stmt} (D : L3.Df K mg x st)
    (hb : ∀ (kV doc pm : Value) (an : Option Addr) (cdv ct : Value) (us : List Value), us.length = ps.length → bindArgs (PySem.W.fnOf x x (defArgs st) (defBody st) (defScope st) .none kV doc pm an cdv ct) ⟨us, []⟩ = pure (ps.zip us)) : MFn P w K mg base k x ps.length noM := by
  obtain ⟨f, fd, F, g⟩ := D.ex
  refine ⟨(fun ds m r h => nomatch h), f, fd, ps, ⟨fun vs H Q E h => h.1, fun A outer s H args us vs Q E _ _ _ _ _ h => ?_⟩, g, F.kp, F.binds hb⟩
  obtain ⟨_, _, _, _, _, _, _, _, h, _⟩ := h
  cases h
end L4
namespace L4
open PySem PySem.Spec PyProof.Rows L2
end L4
namespace L4
open PySem PySem.Spec PyProof.Rows L2
end L4
namespace L4
open PySem PySem.Spec PyProof.Rows L2
def ItA (K : PySem.W.Frag) (cs : List Str) : Prop := ∀ c ∈ cs, C8.InsC K (He.ga K c) ∧ ∀ t ∈ kinds, PySem.W.kitOne K (.ref (He.ga K c)) (.type t) = some false
theorem itA_nil {K : PySem.W.Frag} : ItA K [] := fun _ h => nomatch h
theorem itA_cons {K : PySem.W.Frag} {c : Str} {cs : List Str} (N : C8.InsC K (He.ga K c)) (h : itaB K c = true) (r : ItA K cs) : ItA K (c :: cs) := fun d hd => by
  rcases List.mem_cons.mp hd with rfl | hd
  · exact ⟨N, fun t ht => of_decide_eq_true (List.all_eq_true.mp h t ht)⟩
  · exact r d hd
end L4
namespace L4
open PySem PySem.Spec PyProof.Rows L2
end L4
namespace L4
open PySem PySem.Spec PyProof.Rows L2
end L4
namespace L4
open PySem PySem.Spec PyProof.Rows L2
theorem _root_.L2.PA.nox {X : Cx} {es : List Expr} {t : TA} (h : PA X.nox es t) : PA X es t := ⟨fun pos pins s σ H Q I hw =>
  wpAny_mono (h.run pos pins s σ H Q (I.wish _) hw) (fun _ _ ⟨v, H', I', r, q⟩ => ⟨v, H', I'.unwish, r, q⟩) fun _ _ z => False.elim z⟩
theorem _root_.L2.PS.nox {X : Cx} {st : Stmt} {t : TS} (h : PS X.nox st t) : PS X st t := ⟨fun pins s σ H D I hw =>
  wpAny_mono (h.run pins s σ H D (I.wish _) hw) (fun _ _ z => SP.unwish z) fun _ _ z => False.elim z⟩
/-- a raised thing: its class by name, its fields -/
structure Xn where
  c : Str
  ns : List Str
  vs : List D
inductive Rv where
  | ok (d : D) | ex (x : Xn)
inductive Rf where
  | fl (r : Fl) | ex (x : Xn) (ρ : Ss)
abbrev EX := Ss → M → Option (Rv × M)
abbrev SX := Ss → M → Option (Rf × M)
def XRep (g : G) (T : Tk) (H : Hp) (cls : Value) (dd : Option Addr) (x : Xn) : Prop :=
  cls = .ref (He.ga g.K x.c) ∧ ((dd = none ∧ x.ns = [] ∧ x.vs = []) ∨ ∃ a fs, dd = some a ∧ a ∉ T.ν ∧ H a = some (.xd fs) ∧ fs.map Prod.fst = x.ns ∧ RepL g T H x.vs (fs.map Prod.snd))
section
variable {g : G} {T T1 : Tk} {H H1 : Hp} {m : M}
theorem XRep.le {cls : Value} {dd : Option Addr} {x : Xn} (l : Le T H T1 H1) (h : XRep g T H cls dd x) : XRep g T1 H1 cls dd x := by
  obtain ⟨e, h⟩ := h
  refine ⟨e, ?_⟩
  rcases h with h | ⟨a, fs, e1, n, h, e2, r⟩
  · exact .inl h
  · exact .inr ⟨a, fs, e1, l.out h n, l.keep _ _ h (Tk.out n) (Tk.outτ n), e2, r.le l⟩
def KX (g : G) (T : Tk) (H : Hp) (m : M) (x : Xn) (E : XK) : Prop := ∀ cls dd T' H', Le T H T' H' → RepH g T' H' m → XRep g T' H' cls dd x → E cls dd H'
def KY (g : G) (T : Tk) (H : Hp) (m : M) (x : Xn) (ρ : Ss) (W : WX) : Prop := ∀ cls dd σ T' H', Le T H T' H' → RepH g T' H' m → RepS g T' H' σ ρ → XRep g T' H' cls dd x → W cls dd σ H'
def KR (g : G) (T : Tk) (H : Hp) (m : M) (r : Rv) (Q : VK) (E : XK) : Prop := match r with
  | .ok d => KV g T H m d Q
  | .ex x => KX g T H m x E
def KQ (g : G) (T : Tk) (H : Hp) (m : M) (r : Rf) (D : Ends) (W : WX) : Prop := match r with
  | .fl r => KF g T H m r D
  | .ex x ρ => KY g T H m x ρ W
theorem KX.le {x : Xn} {E : XK} (l : Le T H T1 H1) (k : KX g T H m x E) : KX g T1 H1 m x E := fun c d T' H' l' => k c d T' H' (l.trans l')
theorem KY.le {x : Xn} {ρ : Ss} {W : WX} (l : Le T H T1 H1) (k : KY g T H m x ρ W) : KY g T1 H1 m x ρ W := fun c d σ T' H' l' => k c d σ T' H' (l.trans l')
theorem KR.le {r : Rv} {Q : VK} {E : XK} (l : Le T H T1 H1) (k : KR g T H m r Q E) : KR g T1 H1 m r Q E := by
  cases r with
  | ok d => exact KV.le l k
  | ex x => exact KX.le l k
theorem KQ.le {r : Rf} {D : Ends} {W : WX} (l : Le T H T1 H1) (k : KQ g T H m r D W) : KQ g T1 H1 m r D W := by
  cases r with
  | fl r => exact KF.le l k
  | ex x ρ => exact KY.le l k
end
/-- readings from a function -/
def tX (g : G) (f : EX) (W : WX) : TE := fun σ H Q => ∃ T ρ m r m', RepH g T H m ∧ RepS g T H σ ρ ∧ f ρ m = some (r, m') ∧ KR g T H m' r Q (fun c d H' => W c d σ H')
def tY (g : G) (f : SX) (W : WX) : TS := fun D σ H => ∃ T ρ m r m', RepH g T H m ∧ RepS g T H σ ρ ∧ f ρ m = some (r, m') ∧ KQ g T H m' r D W
structure DX (X : Cx) (e : Expr) (f : EX) : Prop where
  go : ∀ W, Takes X W → PE X e (tX (gx X) f W)
structure DY (X : Cx) (s : Stmt) (f : SX) : Prop where
  go : ∀ W, Takes X W → PS X s (tY (gx X) f W)
structure DYs (X : Cx) (s : List Stmt) (f : SX) : Prop where
  go : ∀ W, Takes X W → PSs X s (tY (gx X) f W)
def bdX (r : Option (Rv × M)) (k : D → M → Option (Rv × M)) : Option (Rv × M) := match r with
  | some (.ok d, m) => k d m
  | some (.ex x, m) => some (.ex x, m)
  | none => none
def bdY (ρ : Ss) (r : Option (Rv × M)) (k : D → M → Option (Rf × M)) : Option (Rf × M) := match r with
  | some (.ok d, m) => k d m
  | some (.ex x, m) => some (.ex x ρ, m)
  | none => none
theorem bdY_some {ρ : Ss} {r : Option (Rv × M)} {k : D → M → Option (Rf × M)} {z : Rf × M} (h : bdY ρ r k = some z) : (∃ d m, r = some (.ok d, m) ∧ k d m = some z) ∨ ∃ x m, r = some (.ex x, m) ∧ z = (.ex x ρ, m) := by
  match r, h with
  | some (.ok d, m), h => exact .inl ⟨d, m, rfl, h⟩
  | some (.ex x, m), h => cases h; exact .inr ⟨x, m, rfl, rfl⟩
@[simp] theorem bdX_ok {d : D} {m : M} {k : D → M → Option (Rv × M)} : bdX (some (.ok d, m)) k = k d m := rfl
@[simp] theorem bdX_ex {x : Xn} {m : M} {k : D → M → Option (Rv × M)} : bdX (some (.ex x, m)) k = some (.ex x, m) := rfl
@[simp] theorem bdY_ok {ρ : Ss} {d : D} {m : M} {k : D → M → Option (Rf × M)} : bdY ρ (some (.ok d, m)) k = k d m := rfl
@[simp] theorem bdY_ex {ρ : Ss} {x : Xn} {m : M} {k : D → M → Option (Rf × M)} : bdY ρ (some (.ex x, m)) k = some (.ex x ρ, m) := rfl
def xOf (f : EF) : EX := fun ρ m => (f ρ m).map fun r => (.ok r.1, r.2)
def yOf (f : SF) : SX := fun ρ m => (f ρ m).map fun r => (.fl r.1, r.2)
def ySeq (a b : SX) : SX := fun ρ m => bd (a ρ m) fun x m1 => match x with
  | .fl (.nx ρ1) => b ρ1 m1
  | r => some (r, m1)
def yIf (c : TF) (a b : SX) : SX := fun ρ m => bd (c ρ m) fun x m1 => if x then a ρ m1 else b ρ m1
def yAsg (a : EX) (g : GF) : SX := fun ρ m => bdY ρ (a ρ m) fun x m1 => bd (g x ρ m1) fun ρ1 m2 => some (.fl (.nx ρ1), m2)
def yDrop (a : EX) : SX := fun ρ m => bdY ρ (a ρ m) fun _ m1 => some (.fl (.nx ρ), m1)
def yRet (a : EX) : SX := fun ρ m => bdY ρ (a ρ m) fun d m1 => some (.fl (.rt d), m1)
section
variable {X : Cx} {pos : Pos}
theorem _root_.L2.PE.imp {e : Expr} {t u : TE} (h : PE X e t) (i : ∀ σ H Q, u σ H Q → t σ H Q) : PE X e u := ⟨fun pins s σ H Q I q => h.run pins s σ H Q I (i _ _ _ q)⟩
theorem _root_.L2.PS.imp {e : Stmt} {t u : TS} (h : PS X e t) (i : ∀ D σ H, u D σ H → t D σ H) : PS X e u := ⟨fun pins s σ H Q I q => h.run pins s σ H Q I (i _ _ _ q)⟩
theorem _root_.L2.PSs.imp {e : List Stmt} {t u : TS} (h : PSs X e t) (i : ∀ D σ H, u D σ H → t D σ H) : PSs X e u := ⟨fun pins s σ H Q I q => h.run pins s σ H Q I (i _ _ _ q)⟩
theorem dy_of {e : Stmt} {f : SF} (h : DS X.nox e f) : DY X e (yOf f) := by
  obtain ⟨t, p, r⟩ := h.ex
  refine ⟨fun W tk => (PS.nox p).imp fun D σ H hw => ?_⟩
  obtain ⟨T, ρ, m, z, m', hm, hs, hf, k⟩ := hw
  obtain ⟨⟨d, m1⟩, e1, e2⟩ := Option.map_eq_some_iff.mp hf
  cases e2
  exact r T σ H ρ m d _ hm hs e1 D k
theorem dys_of {e : List Stmt} {f : SF} (h : DSs X.nox e f) : DYs X e (yOf f) := by
  obtain ⟨t, p, r⟩ := h.ex
  refine ⟨fun W tk => p.nox.imp fun D σ H hw => ?_⟩
  obtain ⟨T, ρ, m, z, m', hm, hs, hf, k⟩ := hw
  obtain ⟨⟨d, m1⟩, e1, e2⟩ := Option.map_eq_some_iff.mp hf
  cases e2
  exact r T σ H ρ m d _ hm hs e1 D k
theorem dys_one {s : Stmt} {f : SX} (h : DY X s f) : DYs X [s] f := ⟨fun W tk => pss_one (h.go W tk)⟩
theorem dys_cons {s : Stmt} {r : List Stmt} {a b : SX} (h : DY X s a) (hr : DYs X r b) : DYs X (s :: r) (ySeq a b) := by
  refine ⟨fun W tk => (pss_cons (h.go W tk) (hr.go W tk)).imp fun D σ H hw => ?_⟩
  obtain ⟨T, ρ, m, z, m', hm, hs, hf, k⟩ := hw
  obtain ⟨x, m1, e1, hf⟩ := bd_some hf
  refine ⟨T, ρ, m, x, m1, hm, hs, e1, ?_⟩
  cases x with
  | ex x ρ1 => cases hf; exact k
  | fl x => cases x with
    | nx ρ1 => exact fun σ1 T1 H1 l1 hm1 hs1 => ⟨T1, ρ1, m1, z, m', hm1, hs1, hf, k.le l1⟩
    | rt d => cases hf; exact k
    | bk ρ => cases hf; exact k
    | ct ρ => cases hf; exact k
theorem dy_if {c : Expr} {a b : List Stmt} {fc : TF} {fa fb : SX} (hc : DT X.nox c fc) (ha : DYs X a fa) (hb : DYs X b fb) : DY X (.If c a b pos) (yIf fc fa fb) := by
  obtain ⟨tc, pc, rc⟩ := hc.ex
  refine ⟨fun W tk => (ps_if pc.nox (ha.go W tk) (hb.go W tk)).imp fun D σ H hw => ?_⟩
  obtain ⟨T, ρ, m, z, m', hm, hs, hf, k⟩ := hw
  obtain ⟨x, m1, e1, hf⟩ := bd_some hf
  refine rc T σ H ρ m x m1 hm hs e1 _ fun T1 H1 l1 hm1 => ?_
  cases x with
  | true => exact ⟨T1, ρ, m1, z, m', hm1, hs.le l1, hf, k.le l1⟩
  | false => exact ⟨T1, ρ, m1, z, m', hm1, hs.le l1, hf, k.le l1⟩
theorem dy_asg {tg e : Expr} {a : EX} {f : GF} (ha : DX X e a) (hg : DG X tg f) (hs : swapsWithSole [tg] e pos.line X.env = pure false := by rfl) (hw : swappedStores [tg] e X.env = pure none := by rfl)
    (h1 : (assignEach [tg] X.env).map (·.2) = [assign tg X.env] := by rfl) : DY X (.Assign [tg] e pos) (yAsg a f) := by
  obtain ⟨tb, pb, rb⟩ := hg.ex
  refine ⟨fun W tk => (ps_asg (ha.go W tk) pb hs hw h1).imp fun D σ H hw => ?_⟩
  obtain ⟨T, ρ, m, z, m', hm, hs, hf, k⟩ := hw
  rcases bdY_some hf with ⟨d, m1, e1, hf⟩ | ⟨x, m1, e1, e2⟩
  · obtain ⟨ρ1, m2, e2, hf⟩ := bd_some hf
    cases hf
    exact ⟨T, ρ, m, _, m1, hm, hs, e1, fun v T1 H1 l1 hm1 r1 => rb T1 σ H1 ρ m1 d v ρ1 _ hm1 (hs.le l1) r1 e2 _ (KS.le l1 k)⟩
  · cases e2
    exact ⟨T, ρ, m, _, _, hm, hs, e1, fun c dd T' H' l hm' xr => k c dd σ T' H' l hm' (hs.le l) xr⟩
theorem dy_ret {e : Expr} {a : EX} (he : DX X e a) : DY X (.Return (some e) pos) (yRet a) := by
  refine ⟨fun W tk => (ps_ret (he.go W tk)).imp fun D σ H hw => ?_⟩
  obtain ⟨T, ρ, m, z, m', hm, hs, hf, k⟩ := hw
  rcases bdY_some hf with ⟨d, m1, e1, hf⟩ | ⟨x, m1, e1, e2⟩
  · cases hf
    exact ⟨T, ρ, m, _, _, hm, hs, e1, k⟩
  · cases e2
    exact ⟨T, ρ, m, _, _, hm, hs, e1, fun c dd T' H' l hm' xr => k c dd σ T' H' l hm' (hs.le l) xr⟩
end
end L4
namespace L4
open PySem PySem.Spec PyProof.Rows L2
/-- what a def on plain data promises: a value, or what is raised -/
def spPX (g : G) (n : Nat) (F : List D → Option Rv) : Sp := fun vs H Q E => vs.length = n ∧ ∃ (ν : List Addr) (ds : List D) (r : Rv), (∀ a ∈ ν, ∃ u, H a = some u ∧ Mu u) ∧ RepL g (T0 ν) H ds vs ∧ F ds = some r ∧
  match r with
  | .ok d => ∀ v H', (∀ a u, H a = some u → H' a = some u) → Rep g (T0 ν) H' d v → Q v H'
  | .ex x => ∀ c dd H', (∀ a u, H a = some u → H' a = some u) → XRep g (T0 ν) H' c dd x → E c dd H'
def spMX (g : G) (n : Nat) (F : List D → M → Option (Rv × M)) : Sp := fun vs H Q E => vs.length = n ∧ ∃ (T : Tk) (m : M) (ds : List D) (r : Rv) (m' : M), RepH g T H m ∧ RepL g T H ds vs ∧ F ds m = some (r, m') ∧ KR g T H m' r Q E
def xnF (m : M) (x : Xn) : Option Xn := (frzL m x.vs).map fun vs => ⟨x.c, x.ns, vs⟩
def endPX : Option (Rf × M) → Option Rv
  | some (.fl (.rt d), m) => (frz m d).map .ok
  | some (.fl (.nx _), _) => some (.ok .non)
  | some (.ex x _, m) => (xnF m x).map .ex
  | _ => none
def endMX : Option (Rf × M) → Option (Rv × M)
  | some (.fl (.rt d), m) => some (.ok d, m)
  | some (.fl (.nx _), m) => some (.ok .non, m)
  | some (.ex x _, m) => some (.ex x, m)
  | _ => none
def runPX (a n : Nat) (b : SX) (ds : List D) : Option Rv := if ds.length = a then endPX (b (startD n ds) []) else none
def runMX (a n : Nat) (b : SX) (ds : List D) (m : M) : Option (Rv × M) := if ds.length = a then endMX (b (startD n ds) m) else none
theorem runPX_len {a n : Nat} {b : SX} {ds : List D} {d : Rv} (h : runPX a n b ds = some d) : ds.length = a := (ite_some h).1
theorem runMX_len {a n : Nat} {b : SX} {ds : List D} {m : M} {r : Rv × M} (h : runMX a n b ds m = some r) : ds.length = a := (ite_some h).1
theorem frzL_nil {m : M} {vs : List D} (h : frzL m [] = some vs) : vs = [] := by
  unfold frzL at h
  split at h
  · cases h; rfl
  · next n => exact absurd rfl n
theorem xnF_ok {g : G} {T : Tk} {H : Hp} {m : M} {ν : List Addr} {cls : Value} {dd : Option Addr} {x y : Xn} (hm : RepH g T H m) (hν : ∀ a ∈ ν, a ∈ T.ν) (hμ : ∀ a ∈ T.μ, a ∉ ν) (h : xnF m x = some y) (r : XRep g T H cls dd x) : XRep g (T0 ν) H cls dd y := by
  obtain ⟨vs, h1, rfl⟩ := Option.map_eq_some_iff.mp h
  obtain ⟨e, r⟩ := r
  refine ⟨e, ?_⟩
  rcases r with ⟨e1, e2, e3⟩ | ⟨a, fs, e1, n, ha, e2, r⟩
  · rw [e3] at h1
    exact .inl ⟨e1, e2, frzL_nil h1⟩
  · exact .inr ⟨a, fs, e1, fun z => n (hν _ z), ha, e2, frzL_ok hm hν hμ h1 r⟩
abbrev endsX (Q : VK) : Ends := { nx := fun _ H' => Q .non H', rt := Q }
theorem spPX_run {g : G} {n a : Nat} {N : List Str} {b : SX} {vs : List V} {H : Hp} {Q : VK} {E : XK} (h : spPX g n (runPX a N.length b) vs H Q E) : tY g b (fun c d _ H' => E c d H') (endsX Q) (L2.start N vs) H := by
  obtain ⟨_, ν, ds, z, hν, r, hf, k⟩ := h
  have hm : RepH g (T0 ν) H [] := ⟨rfl, List.nodup_nil, hν, (fun n a o h _ => by cases h), fun p h => nomatch h⟩
  replace hf := (ite_some hf).2
  have far : ∀ {T' : Tk} {H' : Hp}, Le (T0 ν) H T' H' → ∀ a ∈ T'.μ, a ∉ ν := fun l a h z => by
    have := l.newμ a h fun z => nomatch z
    obtain ⟨u, q, _⟩ := hν a z
    rw [this] at q
    cases q
  have up : ∀ {T' : Tk} {H' : Hp}, Le (T0 ν) H T' H' → ∀ a u, H a = some u → H' a = some u := fun l a u h => l.keep a u h (fun z => nomatch z) (fun _ z => nomatch z)
  unfold endPX at hf
  split at hf
  · next d' m e =>
    obtain ⟨d, h1, rfl⟩ := Option.map_eq_some_iff.mp hf
    exact ⟨T0 ν, _, [], _, _, hm, repS_start r, e, fun v T' H' l hm' rv => k v H' (up l) (frz_ok hm' (fun a h => l.up a h) (far l) h1 rv)⟩
  · next e =>
    cases hf
    exact ⟨T0 ν, _, [], _, _, hm, repS_start r, e, fun σ T' H' l hm' rv => k _ H' (up l) .non⟩
  · next x ρ m e =>
    obtain ⟨y, h1, rfl⟩ := Option.map_eq_some_iff.mp hf
    exact ⟨T0 ν, _, [], _, _, hm, repS_start r, e, fun c dd σ T' H' l hm' _ xr => k c dd H' (up l) (xnF_ok hm' (fun a h => l.up a h) (far l) h1 xr)⟩
  · cases hf
theorem spMX_run {g : G} {n a : Nat} {N : List Str} {b : SX} {vs : List V} {H : Hp} {Q : VK} {E : XK} (h : spMX g n (runMX a N.length b) vs H Q E) : tY g b (fun c d _ H' => E c d H') (endsX Q) (L2.start N vs) H := by
  obtain ⟨_, T, m, ds, z, m', hm, r, hf, k⟩ := h
  replace hf := (ite_some hf).2
  unfold endMX at hf
  split at hf
  · next d' m1 e =>
    cases hf
    exact ⟨T, _, m, _, _, hm, repS_start r, e, k⟩
  · next e =>
    cases hf
    exact ⟨T, _, m, _, _, hm, repS_start r, e, fun σ T' H' l hm' rv => k _ T' H' l hm' .non⟩
  · next x ρ m1 e =>
    cases hf
    exact ⟨T, _, m, _, _, hm, repS_start r, e, fun c dd σ T' H' l hm' _ xr => k c dd T' H' l hm' xr⟩
  · cases hf
section
variable {P : Program} {w : World} {K : PySem.W.Frag} {mg : Str → Option Value} {base : Heap} {k : Nat} {x q m c p0 : Str} {ps N : List Str} {st : Stmt} {b : SX}
theorem fnX_body {f : Addr} {fd : FuncData} {sp : Sp} {oc cdv : Value} {od an : Option Addr} {dV kV doc pm ct : Value} {osl : Array (Option Value)} {name : Str} (lk : K.lookup f = some ⟨oc, od, .func fd, osl⟩) (efd : fd = PySem.W.fnOf name q (defArgs st) (defBody st) (defScope st) dV kV doc pm an cdv ct) (hcd : PySem.W.codeIn K cdv q = true) (S : FnScope N ps (defScope st)) (len : ∀ vs H Q E, sp vs H Q E → vs.length = ps.length)
    (hsp : ∀ vs H Q E, sp vs H Q E → tY ⟨P, w, K⟩ b (fun c d _ H' => E c d H') (endsX Q) (L2.start N vs) H)
    (hbody : ∀ (A : Around) (outer : List Env) (s : Shared) (H : Hp) (E : XK), Gd k (cxOf (L2.CX P w) P w K mg base N q (defScope st) f cdv A outer s H E) →
      DYs (cxOf (L2.CX P w) P w K mg base N q (defScope st) f cdv A outer s H E) (defBody st) b) : FnG P w K mg base (L2.CX P w) (k + 1) f fd ps sp := by
  subst efd
  refine ⟨len, fun A outer s H args us vs Q E hg hr e0 hb rv hs => ?_⟩
  have keep : ∀ b o, base.get? b = some o → s.heap.get? b = some o := fun b o e => (e0.bs b o e).1
  have KX := e0.mod.kin.keeps keep
  have par : ∀ y ∈ ps.zip us, (defScope st).names.lookup y.1 = some .local ∨ ((defScope st).names.lookup y.1 = some .cell ∧ ((cellsFrom (s.heap.objs.size + 1) (defScope st).names []).lookup y.1).isSome = true) := by
    rintro ⟨n, v⟩ hy
    cases S.par n (List.of_mem_zip hy).1 with
    | inl z => exact .inl z
    | inr z => exact .inr ⟨z, PySem.W.cellsFrom_some _ _ _ (.inl z)⟩
  refine codeAny_call_function hr.depth (KX _ _ lk) rfl S.co S.gen rfl (PySem.W.codeRec_of KX hcd) (hb _ _ _ _ ?_)
  refine wpAny_newFunctionEnv_cells S.kind par ?_
  rintro env rfl s1 x
  refine ⟨(e0.mod.nolimit.keeps keep).keeps x.toInCall.keep, codeAny_func ?_⟩
  have D := hbody A outer s H E ⟨hg, hr.deeper _⟩
  have I := inv_start (CX := L2.CX P w) (E := E) S hr.hd e0 (len _ _ _ _ hs) rv x
  have tk : Takes (cxOf (L2.CX P w) P w K mg base N q (defScope st) f cdv A outer s H E) (fun c d _ H' => E c d H') := takes_of rfl rfl rfl rfl
  refine wpAny_mono ((D.go _ tk).run [] s1 (start N vs) H _ I (hsp vs H Q E hs)) ?_ (fun _ _ z => z)
  intro fl s' z
  match fl, z with
  | .ret u, ⟨v, σ', H', J, rv, z⟩ => exact ⟨v, H', J.os, J.bare, J.base, J.hok, rv, z⟩
  | .next, ⟨σ', H', J, z⟩ => exact ⟨.non, H', J.os, J.bare, J.base, J.hok, rfl, z⟩
  | .brk, ⟨_, _, _, z⟩ => exact z.elim
  | .cont, ⟨_, _, _, z⟩ => exact z.elim
theorem fnX_of {f : Addr} {fd : FuncData} {sp : Sp} (F : Fun K x q st f fd) (S : FnScope N ps (defScope st)) (len : ∀ vs H Q E, sp vs H Q E → vs.length = ps.length)
    (hsp : ∀ vs H Q E, sp vs H Q E → tY ⟨P, w, K⟩ b (fun c d _ H' => E c d H') (endsX Q) (L2.start N vs) H)
    (hbody : ∀ (cdv : Value) (A : Around) (outer : List Env) (s : Shared) (H : Hp) (E : XK), Gd k (cxOf (L2.CX P w) P w K mg base N q (defScope st) f cdv A outer s H E) →
      DYs (cxOf (L2.CX P w) P w K mg base N q (defScope st) f cdv A outer s H E) (defBody st) b) : FnG P w K mg base (L2.CX P w) (k + 1) f fd ps sp := by
  obtain ⟨oc, od, kV, doc, pm, an, cdv, ct, osl, e, lk, hcd⟩ := F.ex
  exact fnX_body lk e hcd S len hsp (hbody cdv)
end
structure PFx (P : Program) (w : World) (K : PySem.W.Frag) (mg : Str → Option Value) (base : Heap) (k : Nat) (x : Str) (n : Nat) (F : List D → Option Rv) : Prop where
  len : ∀ ds d, F ds = some d → ds.length = n
  ex : ∃ f fd ps, FnG P w K mg base (L2.CX P w) k f fd ps (spPX ⟨P, w, K⟩ n F) ∧ mg x = some (.ref f) ∧ PySem.W.keepIn K (.ref f) = true ∧ Binds K fd ps []
structure PMx (P : Program) (w : World) (K : PySem.W.Frag) (mg : Str → Option Value) (base : Heap) (k : Nat) (c m : Str) (n : Nat) (F : List D → Option Rv) : Prop where
  len : ∀ ds d, F ds = some d → ds.length = n
  cl : Cls K (He.ga K c)
  ex : ∃ f fd ps, FnG P w K mg base (L2.CX P w) k f fd ps (spPX ⟨P, w, K⟩ n F) ∧ Meth K (He.ga K c) m f ∧ Binds K fd ps []
structure MNx (P : Program) (w : World) (K : PySem.W.Frag) (mg : Str → Option Value) (base : Heap) (k : Nat) (c : Str) (n : Nat) (F : List D → M → Option (Rv × M)) : Prop where
  len : ∀ ds m r, F ds m = some r → ds.length = n
  mgC : mg c = some (.ref (He.ga K c))
  ex : ∃ f fd ps, FnG P w K mg base (L2.CX P w) k f fd ps (spMX ⟨P, w, K⟩ n F) ∧ Mk K (He.ga K c) f ∧ Binds K fd ps []
section
variable {P : Program} {w : World} {K : PySem.W.Frag} {mg : Str → Option Value} {base : Heap} {k : Nat} {x q m c p0 : Str} {ps N : List Str} {st : Stmt} {b : SX}
abbrev BodyX (P : Program) (w : World) (K : PySem.W.Frag) (mg : Str → Option Value) (base : Heap) (k : Nat) (N : List Str) (q : Str) (st : Stmt) (b : SX) : Prop := ∀ (f : Addr) (cdv : Value) (A : Around) (outer : List Env) (s : Shared) (H : Hp) (E : XK),
  Gd k (cxOf (L2.CX P w) P w K mg base N q (defScope st) f cdv A outer s H E) → DYs (cxOf (L2.CX P w) P w K mg base N q (defScope st) f cdv A outer s H E) (defBody st) b
abbrev BindX (x q : Str) (st : Stmt) (ps : List Str) : Prop := ∀ (kV doc pm : Value) (an : Option Addr) (cdv ct : Value) (us : List Value), us.length = ps.length → bindArgs (PySem.W.fnOf x q (defArgs st) (defBody st) (defScope st) .none kV doc pm an cdv ct) ⟨us, []⟩ = pure (ps.zip us)
theorem pfx_df (D : L3.Df K mg x st) (S : FnScope N ps (defScope st)) (hb : BindX x x st ps) (h : BodyX P w K mg base k N x st b) : PFx P w K mg base (k + 1) x ps.length (runPX ps.length N.length b) := by
  obtain ⟨f, fd, F, g⟩ := D.ex
  exact ⟨fun ds d h => runPX_len h, f, fd, ps, fnX_of F S (fun vs H Q E h => h.1) (fun vs H Q E h => spPX_run h) (h f), g, F.kp, F.binds hb⟩
theorem pmx_md (D : L3.Md K (He.ga K c) m q st) (cl : Cls K (He.ga K c)) (S : FnScope N ps (defScope st)) (hb : BindX m q st ps) (h : BodyX P w K mg base k N q st b) : PMx P w K mg base (k + 1) c m ps.length (runPX ps.length N.length b) := by
  obtain ⟨f, fd, F, g⟩ := D.ex
  exact ⟨fun ds d h => runPX_len h, cl, f, fd, ps, fnX_of F S (fun vs H Q E h => h.1) (fun vs H Q E h => spPX_run h) (h f), g, F.binds hb⟩
end
def CallRX (X : Cx) (v : Value) (r : List V → Hp → VK → XK → Prop) : Prop := ∀ W, Takes X W → ∀ (pins : List (Addr × Obj)) (s : Shared) (σ : L2.St) (H : Hp) (vs : List V) (us : List Value) (Q : VK), Inv X pins σ H s → Vals vs us → r vs H Q (fun c d H' => W c d σ H') →
  wpAny (model X.prog X.w) X.A (call v us) (EP X pins σ Q) X.xe s
def RfCX (g : G) (r : List V → Hp → VK → XK → Prop) (f : M → List D → Option Rv) : Prop := ∀ T H m xs vs z, RepH g T H m → RepL g T H xs vs → f m xs = some z → ∀ (Q : VK) (E : XK), KR g T H m z Q E → r vs H Q E
def callPX (F : List D → Option Rv) (m : M) (ds : List D) : Option Rv := if pureL ds then F ds else match mapO (frz m) ds with
  | some es => match F es with
    | some (.ok d) => if groundD d then some (.ok d) else none
    | some (.ex x) => if groundL x.vs then some (.ex x) else none
    | none => none
  | none => none
theorem XRep.lift {g : G} {T : Tk} {H : Hp} {c : Value} {dd : Option Addr} {x : Xn} (r : XRep g (T0 T.ν) H c dd x) : XRep g T H c dd x := by
  obtain ⟨e, r⟩ := r
  refine ⟨e, ?_⟩
  rcases r with r | ⟨a, fs, e1, n, h, e2, r⟩
  · exact .inl r
  · exact .inr ⟨a, fs, e1, n, h, e2, RepL.lift _ r⟩
theorem rf_callPX {g : G} {n : Nat} {F : List D → Option Rv} (hn : ∀ ds d, F ds = some d → ds.length = n) : RfCX g (spPX g n F) (callPX F) := by
  intro T H m xs vs z hm r hf Q E k
  unfold callPX at hf
  split at hf
  · next hp =>
    refine ⟨by rw [← r.length]; exact hn _ _ hf, T.ν, xs, z, hm.has, RepL.pure (fun _ h => h) _ hp r, hf, ?_⟩
    cases z with
    | ok d =>
      intro v H' up rv
      obtain ⟨l, hm'⟩ := hm.grow up
      exact k v T H' l hm' (Rep.lift _ rv)
    | ex x =>
      intro c dd H' up rv
      obtain ⟨l, hm'⟩ := hm.grow up
      exact k c dd T H' l hm' rv.lift
  · split at hf
    · next es h1 =>
      have re : RepL g (T0 []) H es vs := r.mapO (fun d e v h q => frz_ok hm (fun a h => (List.not_mem_nil h).elim) (fun a _ h => (List.not_mem_nil h).elim) h q) h1
      split at hf
      · next d' h2 =>
        obtain ⟨hg, hf⟩ := ite_some hf
        cases hf
        refine ⟨by rw [← re.length]; exact hn _ _ h2, [], es, _, fun a h => (List.not_mem_nil h).elim, re, h2, fun v H' up rv => ?_⟩
        obtain ⟨l, hm'⟩ := hm.grow up
        exact k v T H' l hm' (Rep.ground hm'.has _ hg rv)
      · next x h2 =>
        obtain ⟨hg, hf⟩ := ite_some hf
        cases hf
        refine ⟨by rw [← re.length]; exact hn _ _ h2, [], es, _, fun a h => (List.not_mem_nil h).elim, re, h2, fun c dd H' up rv => ?_⟩
        obtain ⟨l, hm'⟩ := hm.grow up
        refine k c dd T H' l hm' ?_
        obtain ⟨e, rv⟩ := rv
        refine ⟨e, ?_⟩
        rcases rv with rv | ⟨a, fs, e1, n, h, e2, rv⟩
        · exact .inl rv
        · refine .inr ⟨a, fs, e1, fun z => ?_, h, e2, RepL.ground hm'.has _ hg rv⟩
          obtain ⟨u, q1, q2⟩ := hm'.has a z
          rw [h] at q1
          cases q1
          exact q2
      · cases hf
    · cases hf
def eCallX (F : M → List D → Option Rv) (a : AF) : EX := fun ρ m => bd (a ρ m) fun xs m1 => (F m1 xs).map (·, m1)
section
variable {X : Cx} {k : Nat} {f : Addr} {fd : FuncData} {ps : List Str} {sp : Sp} {ds : List Value} {dvs : List V}
theorem FnG.callX (F : FnG X.prog X.w X.K X.mg X.base (L2.CX X.prog X.w) k f fd ps sp) (hr : Gd k X) (hb : Binds X.K fd ps ds) (hd : Vals dvs ds) : CallRX X (.ref f) fun vs H Q E => sp (vs ++ dvs) H Q E := by
  intro W tk pins s σ H vs us Q I r h
  have r2 : Vals (vs ++ dvs) (us ++ ds) := r.append hd
  have hl : (us ++ ds).length = ps.length := by rw [← r2.length]; exact F.len _ _ _ _ h
  refine wpAny_call (codeAny_mono (F.run X.A X.stack s H ⟨us, []⟩ (us ++ ds) (vs ++ dvs) Q _ hr.g hr.r I.env0 (hb s us I.kIn hl) r2 h) fun r s' hq => ?_)
  match r, hq with
  | .error e, hq => exact tk e s' (XE.of_call I (fun _ _ _ z => z) hq)
  | .ok (.ret u), hq => exact I.after hq
theorem appX_nil {v : Value} {sp : Sp} (h : CallRX X v fun vs H Q E => sp (vs ++ []) H Q E) : CallRX X v sp := by
  intro W tk pins s σ H xs us Q I r q
  exact h W tk pins s σ H xs us Q I r (by show sp (xs ++ []) H Q _; rw [List.append_nil]; exact q)
variable {r : List V → Hp → VK → XK → Prop} {x : Str} {p pos apos : Pos} {e e' o : Expr} {es : List Expr}
abbrev tCX (r : List V → Hp → VK → XK → Prop) (W : WX) (t : TA) : TE := fun σ H Q => t σ H fun vs H1 => r vs H1 Q (fun c d H' => W c d σ H')
theorem pe_callX {W : WX} {t : TA} (hc : CallRX X (.ref f) r) (tk : Takes X W) (hg : Gl X x) (hm : X.mg x = some (.ref f)) (hk : PySem.W.keepIn X.K (.ref f) = true) (ha : PA X (e :: es) t) (hdb : (x == ("__debug__" : Str)) = false := by decide)
    (he : starEach (e :: es) X.env = (false, eval e X.env) :: starEach es X.env := by rfl) (hpl : (backTo pos (starEach es X.env)).any (·.1) = false := by rfl) : PE X (.Call (.Name x p) (e :: es) [] pos) (tCX r W t) := by
  refine ⟨fun pins s σ H Q I h => wpAny_Call_Name_kw (ld_glob I hg hm ?_ hdb)⟩
  exact PySem.W.callWith_K (h₀ := X.base) I.ok.mod.kin hk (thn (ha.run pos pins s σ H _ I h) fun us s1 ⟨vs, H1, I1, rv, q⟩ => ⟨I1.kIn, hc W tk pins s1 σ H1 vs us Q I1 rv q⟩) he hpl
theorem dx_callG {F : M → List D → Option Rv} {a : AF} (rf : RfCX (gx X) r F) (hp : ∀ W t, Takes X W → PA X es t → PE X e' (tCX r W t)) (ha : DA X.nox es a) : DX X e' (eCallX F a) := by
  obtain ⟨t, pa, ra⟩ := ha.ex
  refine ⟨fun W tk => (hp W t tk pa.nox).imp fun σ H Q hw => ?_⟩
  obtain ⟨T, ρ, m, z, m', hm, hs, hf, k⟩ := hw
  obtain ⟨xs, m1, e1, hf⟩ := bd_some hf
  obtain ⟨z1, e2, e3⟩ := Option.map_eq_some_iff.mp hf
  cases e3
  exact ra T σ H ρ m xs _ hm hs e1 _ fun vs T1 H1 l1 hm1 r1 => rf T1 H1 _ xs vs z hm1 r1 e2 Q _ (k.le l1)
theorem dx_pfx {n : Nat} {F : List D → Option Rv} {a : AF} (hF : PFx X.prog X.w X.K X.mg X.base k x n F) (gd : Gd k X) (hg : Gl X x) (ha : DA X.nox (e :: es) a) (hdb : (x == ("__debug__" : Str)) = false := by decide)
    (he : starEach (e :: es) X.env = (false, eval e X.env) :: starEach es X.env := by rfl) (hpl : (backTo pos (starEach es X.env)).any (·.1) = false := by rfl) : DX X (.Call (.Name x p) (e :: es) [] pos) (eCallX (callPX F) a) := by
  obtain ⟨fa, fd, ps, G, hm, kp, b⟩ := hF.ex
  exact dx_callG (rf_callPX hF.len) (fun W t tk pa => pe_callX (appX_nil (G.callX gd b .nil)) tk hg hm kp pa hdb he hpl) ha
inductive TabX (X : Cx) (k : Nat) : List (Str × (List D → Option Rv)) → Prop
  | nil : TabX X k []
  | cons {x n F tb} : PFx X.prog X.w X.K X.mg X.base k x n F → X.mg x = some (.ref (He.ga X.K x)) → TabX X k tb → TabX X k ((x, F) :: tb)
theorem TabX.get {tb : List (Str × (List D → Option Rv))} {F : List D → Option Rv} (h : TabX X k tb) (e : tb.lookup x = some F) : ∃ n, PFx X.prog X.w X.K X.mg X.base k x n F ∧ X.mg x = some (.ref (He.ga X.K x)) := by
  induction h with
  | nil => cases e
  | @cons y n G tb p q t ih =>
    rw [List.lookup_cons] at e
    split at e
    · next hb =>
      cases e
      have := eq_of_beq hb
      subst this
      exact ⟨n, p, q⟩
    · exact ih e
end
end L4
namespace L4
open PySem PySem.Spec PyProof.Rows L2
/-- a clause: its class, the slot of its name, what its suite does with what is caught -/
abbrev Cla := Value × Option Nat × (Addr → Value → Option Addr → TS)
def offD (i : Option Nat) (D : Ends) : Ends := match i with
  | none => D
  | some i => { nx := fun σ H => D.nx (σ.set i none) H, rt := D.rt, bk := fun σ H => D.bk (σ.set i none) H, ct := fun σ H => D.ct (σ.set i none) H }
def onS (i : Option Nat) (a : Addr) (σ : L2.St) : L2.St := match i with
  | none => σ
  | some i => σ.set i (some (.ref a))
def wCl (K : PySem.W.Frag) (Wout : WX) (D : Ends) : List Cla → WX
  | [] => Wout
  | (c, i, ts) :: r => fun cls d σ H => ∃ b, PySem.W.exmOne K cls c = some b ∧ (b = true → ∀ a, H a = none → ts a cls d (offD i D) (onS i a σ) H) ∧ (b = false → wCl K Wout D r cls d σ H)
inductive ClsOk (X : Cx) : List ExceptHandler → List Cla → Prop
  | nil : ClsOk X [] []
  | bare {x : Str} {c : Value} {ts : Addr → Value → Option Addr → TS} {b₀ : Stmt} {suite : List Stmt} {np q : Pos} {hds : List ExceptHandler} {l : List Cla} (hc : Names X x c)
      (hsu : ∀ (a : Addr) (oe : Obj) (cls : Value) (d : Option Addr) (pn : List (Addr × Obj)), Zc cls d oe → (∃ vs, oe.data = .fields vs) → PSs (X.suite a ((a, oe) :: pn)) (b₀ :: suite) (ts a cls d)) (r : ClsOk X hds l) :
      ClsOk X (.ExceptHandler (some (.Name x np)) none (b₀ :: suite) q :: hds) ((c, none, ts) :: l)
  | named {x n : Str} {c : Value} {i : Nat} {ts : Addr → Value → Option Addr → TS} {b₀ : Stmt} {suite : List Stmt} {np q : Pos} {hds : List ExceptHandler} {l : List Cla} (hc : Names X x c) (hi : X.N[i]? = some n) (hln : X.env.kindOf n = some .local)
      (hsu : ∀ (a : Addr) (oe : Obj) (cls : Value) (d : Option Addr) (pn : List (Addr × Obj)), Zc cls d oe → (∃ vs, oe.data = .fields vs) → PSs (X.suite a ((a, oe) :: pn)) (b₀ :: suite) (ts a cls d)) (r : ClsOk X hds l) :
      ClsOk X (.ExceptHandler (some (.Name x np)) (some n) (b₀ :: suite) q :: hds) ((c, some i, ts) :: l)
section
variable {X : Cx} {body : List Stmt} {h₀ : ExceptHandler} {hds : List ExceptHandler} {l : List Cla} {pos : Pos} {tb : WX → TS} {Wout : WX}
/-- what is caught, on the ground before one clause after another -/
theorem clauses (hs : X.stack = X.env :: X.outer) (hf : X.env.frame = some X.env.locals) (hN : X.N.Nodup) (ok : X.Ok) (tk : Takes X Wout) {a : Addr} {B : Heap} {sI s' : Shared} {pins pins' : List (Addr × Obj)} {σ' : L2.St} {H' : Hp} {cls : Value} {d : Option Addr} {D : Ends}
    (J : Inv X pins' σ' H' sI) (J0 : Inv X pins σ' H' sI) (nb : ∀ b o, sI.heap.get? b = some o → b ∉ frs X.stack → B.get? b = some o) (na : H' a = none) (os : s'.os = sI.os) (ag : AllBare s'.gens) {h3 : Heap} (fl : HandSPX.FlyingZ B (X.env :: X.outer) a (Zc cls d) h3) (up : sI.heap.UpToSlots h3)
    (hk : ClsOk X hds l) (w : wCl X.K Wout D l cls d σ' H') : wpAny (model X.prog X.w) X.A (handleBy (.ref a) X.env hds) (SP X pins D) X.xe { s' with heap := h3 } := by
  have far : ∀ {h : Heap} {o : Obj} {vs : Array Value}, h.FunFrames B (X.env :: X.outer) → h.get? a = some o → o.data = .fields vs → a ≠ X.env.locals ∧ a ∉ X.fs := fun {h o vs} ff e dd => by
    have nf : a ∉ frs (X.env :: X.outer) := fun hm => by
      obtain ⟨_, o2, e2, z⟩ := ff.mem hm
      rw [e] at e2
      cases e2
      exact z _ dd
    refine ⟨fun z => nf ?_, fun z => nf ?_⟩
    · rw [z]
      exact List.mem_filterMap.mpr ⟨X.env, List.mem_cons_self .., hf⟩
    · obtain ⟨e, z1, z2⟩ := List.mem_filterMap.mp z
      exact List.mem_filterMap.mpr ⟨e, List.mem_cons_of_mem _ z1, z2⟩
  -- the suite's state, whatever stands behind the flight
  have seat : ∀ {h4 : Heap}, HandSPX.FlyingZ B (X.env :: X.outer) a (Zc cls d) h4 → sI.heap.UpToSlots h4 → ∃ oe, Zc cls d oe ∧ (∃ vs, oe.data = .fields vs) ∧ h4.get? a = some oe ∧ Inv (X.suite a ((a, oe) :: (X.pn ++ pins))) [] σ' H' { s' with heap := h4 } ∧ Inv X pins σ' H' { s' with heap := h4 } := fun {h4} fl4 up4 => by
    obtain ⟨oe, vs, he, hz, hd⟩ := fl4.there
    obtain ⟨f1, f2⟩ := far fl4.2.2.1 he hd
    have L : Inv X pins σ' H' { s' with heap := h4 } := J0.landed nb fl4.1 up4 os ag
    exact ⟨oe, hz, ⟨vs, hd⟩, he, L.suite he hd na f1 f2, L⟩
  have ends : ∀ {oe : Obj} {i : Option Nat} {fl : Flow} {s6 : Shared}, SP (X.suite a ((a, oe) :: (X.pn ++ pins))) [] (offD i D) fl s6 → i = none → SP X pins D fl s6 := fun {oe i fl s6} z e => by
    subst e
    cases fl with
    | next => obtain ⟨σ6, H6, S6, q⟩ := z; exact ⟨_, _, S6.unsuite ok, q⟩
    | brk => obtain ⟨σ6, H6, S6, q⟩ := z; exact ⟨_, _, S6.unsuite ok, q⟩
    | cont => obtain ⟨σ6, H6, S6, q⟩ := z; exact ⟨_, _, S6.unsuite ok, q⟩
    | ret u => obtain ⟨v6, σ6, H6, S6, r6, q⟩ := z; exact ⟨_, _, _, S6.unsuite ok, r6, q⟩
  have look : ∀ {x : Str} {np : Pos} {c : Value} {b : Bool} {Q : Bool → Shared → Prop} {E : Value → Shared → Prop} {h4 : Heap}, Names X x c → PySem.W.exmOne X.K cls c = some b → HandSPX.FlyingZ B (X.env :: X.outer) a (Zc cls d) h4 → sI.heap.UpToSlots h4 → Q b { s' with heap := h4 } →
      wpAny (model X.prog X.w) (X.A.mark (some (.ref a))) (eval (.Name x np) X.env) (fun c s₁ => wpAny (model X.prog X.w) (X.A.mark (some (.ref a))) (excMatches (.ref a) c) Q E s₁) E { s' with heap := h4 } := fun {x np c b Q E h4} hc hb fl4 up4 q => by
    obtain ⟨oe, hz, _, he, S, L⟩ := seat fl4 up4
    have LT : PySem.W.Looks (model X.prog X.w) h4 (typeOf (.ref a)) cls := fun A Q E s k q => wpAny_typeOf_ref (k _ _ he) (by rw [hz.1]; exact q)
    have LM := PySem.W.exm_one (M := model X.prog X.w) L.kIn LT hb
    obtain ⟨g1, g2, g3⟩ := hc
    rcases g3 with hm | ⟨hm, hv, hn⟩
    · exact ld_glob (X := X.suite a ((a, oe) :: (X.pn ++ pins))) S g1 hm (LM.here q) g2
    · exact ld_blt (X := X.suite a ((a, oe) :: (X.pn ++ pins))) S g1 hm hv (LM.here q) hn g2
  induction hk generalizing h3 with
  | nil =>
    refine wpAny_handleBy_nil ?_
    obtain ⟨k1, k2, k3, oe, vs, T, oT, ts', he, hz, hd, h1, hr⟩ := id fl
    unfold PySem.passOn
    refine wpAny_bind (wpAny_field he hd h1 ?_)
    rw [if_neg (by simp)]
    have go : wpAny (model X.prog X.w) X.A (setFlight (.ref a) X.env.frame) (fun _ s4 => wpAny (model X.prog X.w) X.A (throw (.ref a) : Sem Flow) (SP X pins D) X.xe s4) X.xe { s' with heap := h3 } := by
      rw [hf]
      exact HandSPX.setFlight_upZ fl fun h4 hh up4 => wpAny_throw (tk _ _ ⟨a, B, sI, pins, σ', H', cls, d, rfl, J0, nb, up.trans up4, .inr (.inr (by rw [hs]; exact hh)), na, os, ag, w⟩)
    first
      | exact wpAny_bind (wpAny_pure (wpAny_bind go))
      | exact wpAny_bind go
  | @bare x c ts b₀ suite np q hds2 l2 hc hsu r ih =>
    obtain ⟨b, hb, hyes, hno⟩ := w
    refine wpAny_handleBy_cons (codeAny_handlers_test (look hc hb fl up ?_)) (by intro q; cases q)
    cases b with
    | false => exact ih fl up (hno rfl)
    | true =>
      refine codeAny_handlers_suite (HandSPX.lands_againZ fl fun h4 fl4 up4 => ?_)
      obtain ⟨oe, hz, hd, he, S, L⟩ := seat fl4 (up.trans up4)
      exact wpAny_mono ((hsu a oe cls d (X.pn ++ pins) hz hd).run [] _ _ H' _ S (hyes rfl a na)) (fun _ _ z => ends z rfl) fun _ _ z => z.elim
  | @named x n c i ts b₀ suite np q hds2 l2 hc hi hln hsu r ih =>
    obtain ⟨b, hb, hyes, hno⟩ := w
    refine wpAny_handleBy_cons (codeAny_handlers_test (look hc hb fl up ?_)) (by intro q; cases q)
    cases b with
    | false => exact ih fl up (hno rfl)
    | true =>
      refine codeAny_handlers_suite_as (HandSPX.lands_againZ fl fun h4 fl4 up4 => ?_)
      obtain ⟨oe, hz, hd, he, S, L⟩ := seat fl4 (up.trans up4)
      refine store_ok (X := X.suite a ((a, oe) :: (X.pn ++ pins))) (v := .ref a) S hN hi (.inl hln) rfl (fun s5 S5 => ?_) (.inr hln)
      refine wpAny_mono ((hsu a oe cls d (X.pn ++ pins) hz hd).run [] s5 _ H' _ S5 (hyes rfl a na)) (fun fl6 s6 z => ?_) fun _ _ z => z.elim
      have gone : ∀ {σ6 : L2.St} {H6 : Hp} {Q : Shared → Prop}, Inv (X.suite a ((a, oe) :: (X.pn ++ pins))) [] σ6 H6 s6 → (∀ s7, Inv X pins (σ6.set i none) H6 s7 → Q s7) →
          wpAny (model X.prog X.w) X.A (do bindName X.env n .none; unbindBehindTheSuite X.env n q) (fun _ s7 => Q s7) X.xe s6 := fun S6 hq => gone_ok (S6.unsuite ok) hN hi hln hq
      cases fl6 with
      | next => obtain ⟨σ6, H6, S6, y⟩ := z; exact gone S6 fun s7 J7 => ⟨_, _, J7, y⟩
      | brk => obtain ⟨σ6, H6, S6, y⟩ := z; exact gone S6 fun s7 J7 => ⟨_, _, J7, y⟩
      | cont => obtain ⟨σ6, H6, S6, y⟩ := z; exact gone S6 fun s7 J7 => ⟨_, _, J7, y⟩
      | ret u => obtain ⟨v6, σ6, H6, S6, r6, y⟩ := z; exact gone S6 fun s7 J7 => ⟨_, _, _, J7, r6, y⟩
theorem ps_tryC (hs : X.stack = X.env :: X.outer) (hf : X.env.frame = some X.env.locals) (hN : X.N.Nodup) (tk : Takes X Wout)
    (hb : ∀ (W : WX) (pn : List (Addr × Obj)) (xe : Value → Shared → Prop), Takes (X.tr pn xe) W → PassesOwn (model X.prog X.w) X.A X.env xe → PSs (X.tr pn xe) body (tb W))
    (hh : ClsOk X (h₀ :: hds) l) : PS X (.Try body (h₀ :: hds) [] [] pos) (fun D σ H => tb (wCl X.K Wout D l) D σ H) := by
  refine ⟨fun pins s σ H D I h => ?_⟩
  have ok := I.ok
  have hfr : X.A.frames = some (X.env :: X.outer) := by rw [ok.frames, hs]
  let xe : Value → Shared → Prop := fun e s₁ => wpAny (model X.prog X.w) X.A (noteFrame e X.env) (fun _ s₂ => wpAny (model X.prog X.w) X.A (setFlight e none) (fun _ s₃ => wpAny (model X.prog X.w) X.A (handleBy e X.env (h₀ :: hds)) (SP X pins D) X.xe s₃) X.xe s₂) X.xe s₁
  have tk2 : Takes (X.tr (X.pn ++ pins) xe) (wCl X.K Wout D l) := fun u s' xx => by
    obtain ⟨a, B, sI, pins', σ', H', cls, d, rfl, J', nb, up, sky, na, os, ag, w⟩ := xx
    have J := J'.ofTry ok
    have sky' : Sky B (X.env :: X.outer) a (Zc cls d) X.env.locals s'.heap := by rw [← hs]; exact sky
    exact Sky.land Zc.steady hfr hf sky' fun h3 fl3 up3 => clauses hs hf hN ok tk J J nb na os ag fl3 (up.trans up3) hh w
  refine wpAny_Try_except (wpAny_mono ((hb _ (X.pn ++ pins) xe tk2 PassesOwn.looking).run [] s σ H D (I.toTry _) h) (fun f s1 z => ?_) fun e s1 z => z)
  cases f with
  | next => obtain ⟨σ', H', J, q⟩ := z; exact wpAny_execs_nil ⟨σ', H', J.ofTry ok, q⟩
  | brk => obtain ⟨σ', H', J, q⟩ := z; exact ⟨σ', H', J.ofTry ok, q⟩
  | cont => obtain ⟨σ', H', J, q⟩ := z; exact ⟨σ', H', J.ofTry ok, q⟩
  | ret u => obtain ⟨v, σ', H', J, r, q⟩ := z; exact ⟨v, σ', H', J.ofTry ok, r, q⟩
end
end L4
namespace L4
open PySem PySem.Spec PyProof.Rows L2
def HeldS (i : Option Nat) (a : Addr) (σ : L2.St) : Prop := ∀ j, i = some j → σ[j]? = some (some (.ref a))
def tHs (g : G) (i : Option Nat) (a : Addr) (cls : Value) (d : Option Addr) (f : Xn → SF) : TS := fun D σ H => ∃ T ρ m x r m', RepH g T H m ∧ RepS g T H σ ρ ∧ XRep g T H cls d x ∧ HeldS i a σ ∧ f x ρ m = some (r, m') ∧ KF g T H m' r D
def tHe (g : G) (i : Option Nat) (a : Addr) (cls : Value) (d : Option Addr) (f : Xn → EF) : TE := fun σ H Q => ∃ T ρ m x r m', RepH g T H m ∧ RepS g T H σ ρ ∧ XRep g T H cls d x ∧ HeldS i a σ ∧ f x ρ m = some (r, m') ∧ KV g T H m' r Q
def tHt (g : G) (i : Option Nat) (a : Addr) (cls : Value) (d : Option Addr) (f : Xn → TF) : TT := fun σ H Q => ∃ T ρ m x r m', RepH g T H m ∧ RepS g T H σ ρ ∧ XRep g T H cls d x ∧ HeldS i a σ ∧ f x ρ m = some (r, m') ∧ KB g T H m' r Q
/-- in a suite that holds what is caught (slot i is its name's) -/
abbrev InSuite (X : Cx) (P : Cx → Addr → Value → Option Addr → Prop) : Prop := ∀ (a : Addr) (oe : Obj) (cls : Value) (d : Option Addr) (pn : List (Addr × Obj)), Zc cls d oe → (∃ vs, oe.data = .fields vs) → P (X.suite a ((a, oe) :: pn)) a cls d
structure HS (X : Cx) (i : Option Nat) (ss : List Stmt) (f : Xn → SF) : Prop where
  go : InSuite X fun Y a cls d => PSs Y ss (tHs (gx X) i a cls d f)
structure HE (X : Cx) (i : Option Nat) (e : Expr) (f : Xn → EF) : Prop where
  go : InSuite X fun Y a cls d => PE Y e (tHe (gx X) i a cls d f)
structure HT (X : Cx) (i : Option Nat) (e : Expr) (f : Xn → TF) : Prop where
  go : InSuite X fun Y a cls d => PT Y e (tHt (gx X) i a cls d f)
structure HW (X : Cx) (i : Option Nat) (e : Expr) (f : Xn → TF) : Prop where
  go : InSuite X fun Y a cls d => PW Y e (tHt (gx X) i a cls d f)
section
variable {X : Cx} {i : Option Nat} {pos : Pos}
theorem _root_.L2.PT.imp {e : Expr} {t u : TT} (h : PT X e t) (i : ∀ σ H Q, u σ H Q → t σ H Q) : PT X e u := ⟨fun pins s σ H Q I q => h.run pins s σ H Q I (i _ _ _ q)⟩
theorem _root_.L2.PW.imp {e : Expr} {t u : TT} (h : PW X e t) (i : ∀ σ H Q, u σ H Q → t σ H Q) : PW X e u := ⟨fun whole pins s σ H Q I q => h.run whole pins s σ H Q I (i _ _ _ q)⟩
theorem _root_.L2.PA.imp {e : List Expr} {t u : TA} (h : PA X e t) (i : ∀ σ H Q, u σ H Q → t σ H Q) : PA X e u := ⟨fun pos pins s σ H Q I q => h.run pos pins s σ H Q I (i _ _ _ q)⟩
theorem he_of {e : Expr} {f : EF} (h : ∀ (a : Addr) (pn : List (Addr × Obj)), DE (X.suite a pn) e f) : HE X i e (fun _ => f) := by
  refine ⟨fun a oe cls d pn hz hd => ?_⟩
  obtain ⟨t, p, r⟩ := (h a ((a, oe) :: pn)).ex
  exact p.imp fun σ H Q ⟨T, ρ, m, x, z, m', hm, hs, _, _, hf, k⟩ => r T σ H ρ m z m' hm hs hf Q k
theorem ht_val {e : Expr} {f : Xn → EF} (h : HE X i e f) (he : ∀ env whole, isTrue e env whole = (do let v ← whole; standAt e.pos; holding [v] (truthy v)) := by intro _ _; rfl) : HT X i e (fun x => tVal (f x)) := by
  refine ⟨fun a oe cls d pn hz hd => (pt_val (h.go a oe cls d pn hz hd) (fun whole => he _ whole)).imp fun σ H Q ⟨T, ρ, m, x, z, m', hm, hs, xr, hl, hf, k⟩ => ?_⟩
  obtain ⟨v, m1, e1, hf⟩ := bd_some hf
  cases v with
  | bl b =>
    cases hf
    exact ⟨T, ρ, m, x, _, _, hm, hs, xr, hl, e1, fun v T1 H1 l1 hm1 r1 => by cases r1; exact ⟨_, rfl, k T1 H1 l1 hm1⟩⟩
  | _ => cases hf
theorem ht_not {e : Expr} {f : Xn → TF} (h : HT X i e f) : HT X i (.UnaryOp .Not e pos) (fun x => tNot (f x)) := by
  refine ⟨fun a oe cls d pn hz hd => (pt_not (h.go a oe cls d pn hz hd)).imp fun σ H Q ⟨T, ρ, m, x, z, m', hm, hs, xr, hl, hf, k⟩ => ?_⟩
  obtain ⟨v, m1, e1, hf⟩ := bd_some hf
  cases hf
  exact ⟨T, ρ, m, x, v, _, hm, hs, xr, hl, e1, fun T1 H1 l1 hm1 => k T1 H1 l1 hm1⟩
theorem hw_and {e b : Expr} {rest : List Expr} {f h : Xn → TF} (ha : HT X i e f) (hb : HW X i (.BoolOp .And (b :: rest) pos) h) : HW X i (.BoolOp .And (e :: b :: rest) pos) (fun x => tAnd (f x) (h x)) := by
  refine ⟨fun a oe cls d pn hz hd => (pw_and (ha.go a oe cls d pn hz hd) (hb.go a oe cls d pn hz hd)).imp fun σ H Q ⟨T, ρ, m, x, z, m', hm, hs, xr, hl, hf, k⟩ => ?_⟩
  obtain ⟨v, m1, e1, hf⟩ := bd_some hf
  refine ⟨T, ρ, m, x, v, m1, hm, hs, xr, hl, e1, fun T1 H1 l1 hm1 => ?_⟩
  cases v with
  | true => exact ⟨T1, ρ, m1, x, z, m', hm1, hs.le l1, xr.le l1, hl, hf, k.le l1⟩
  | false => cases hf; exact k T1 H1 l1 hm1
theorem hw_and1 {e : Expr} {f : Xn → TF} (ha : HT X i e f) : HW X i (.BoolOp .And [e] pos) f := ⟨fun a oe cls d pn hz hd => pw_and1 (ha.go a oe cls d pn hz hd)⟩
theorem ht_w {e : Expr} {f : Xn → TF} (ha : HW X i e f) : HT X i e f := ⟨fun a oe cls d pn hz hd => (ha.go a oe cls d pn hz hd).pt⟩
theorem he_if {c a b : Expr} {fc : Xn → TF} {fa fb : Xn → EF} (hc : HT X i c fc) (ha : HE X i a fa) (hb : HE X i b fb) : HE X i (.IfExp c a b pos) (fun x => eIf (fc x) (fa x) (fb x)) := by
  refine ⟨fun p oe cls d pn hz hd => (pe_ifExp (hc.go p oe cls d pn hz hd) (ha.go p oe cls d pn hz hd) (hb.go p oe cls d pn hz hd)).imp fun σ H Q ⟨T, ρ, m, x, z, m', hm, hs, xr, hl, hf, k⟩ => ?_⟩
  obtain ⟨v, m1, e1, hf⟩ := bd_some hf
  refine ⟨T, ρ, m, x, v, m1, hm, hs, xr, hl, e1, fun T1 H1 l1 hm1 => ?_⟩
  cases v with
  | true => exact ⟨T1, ρ, m1, x, z, m', hm1, hs.le l1, xr.le l1, hl, hf, k.le l1⟩
  | false => exact ⟨T1, ρ, m1, x, z, m', hm1, hs.le l1, xr.le l1, hl, hf, k.le l1⟩
end
structure XcC (K : PySem.W.Frag) (C : Addr) : Prop where
  cl : (PySem.W.clsIn K C).isSome = true
  ga : PySem.W.findIn K (.ref C) "__getattribute__" = some (some (.builtin "BaseException.__getattribute__"))
  gg : PySem.W.findIn K (.ref C) "__getattr__" = some none
  ex : PySem.W.subIn K (.ref C) (.type "BaseException") = some true
  hd : PySem.W.hasDictIn K C = true
  co : PySem.W.findIn K (.ref C) "__class__" = some (some (.builtin "object.__class__"))
  cn : PySem.W.specialIn K (.builtin "object.__class__") "__get__" = some (some (.builtin "getset_descriptor.__get__"))
  ct : PySem.W.takesIn K (.builtin "object.__class__") = some true
  ob : PySem.W.mroIn K C (.type "object") = some true
  ty : PySem.W.typeIn K (.ref C) = some (.type "type")
  kp : PySem.W.keepIn K (.ref C) = true
theorem xcB_ok {K : PySem.W.Frag} {C : Addr} (h : xcB K C = true) : XcC K C := by
  unfold xcB at h
  simp only [Bool.and_eq_true, decide_eq_true_eq] at h
  obtain ⟨h1, h2, h3, h4, h5, h6, h7, h8, h9, h10, h11⟩ := h
  exact ⟨h1, He.eqO_ok h2, He.eqO_ok h3, h4, h5, He.eqO_ok h6, He.eqO_ok h7, h8, h9, h10, h11⟩
/-- of these classes (by name) the field n may be read -/
def XfN (K : PySem.W.Frag) (cs : List Str) (n : Str) : Prop := ∀ c ∈ cs, XcC K (He.ga K c) ∧ PySem.W.findIn K (.ref (He.ga K c)) n = some none
theorem xfN_nil {K : PySem.W.Frag} {n : Str} : XfN K [] n := fun _ h => nomatch h
theorem xfN_cons {K : PySem.W.Frag} {n c : Str} {cs : List Str} (h : XcC K (He.ga K c)) (hn : PySem.W.findIn K (.ref (He.ga K c)) n = some none) (r : XfN K cs n) : XfN K (c :: cs) n := fun d hd => by
  rcases List.mem_cons.mp hd with rfl | hd
  · exact ⟨h, hn⟩
  · exact r d hd
/-- for what is of these classes: whether it is of the class c -/
def XiN (K : PySem.W.Frag) (tb : List (Str × Bool)) (c : Str) : Prop := ∀ y b, tb.lookup y = some b → XcC K (He.ga K y) ∧ PySem.W.kitOne K (.ref (He.ga K y)) (.ref (He.ga K c)) = some b
theorem xiN_nil {K : PySem.W.Frag} {c : Str} : XiN K [] c := fun _ _ h => nomatch h
theorem xiN_cons {K : PySem.W.Frag} {y c : Str} {b : Bool} {tb : List (Str × Bool)} (h : XcC K (He.ga K y)) (hb : PySem.W.kitOne K (.ref (He.ga K y)) (.ref (He.ga K c)) = some b) (r : XiN K tb c) : XiN K ((y, b) :: tb) c := fun z d hz => by
  rw [List.lookup_cons] at hz
  split at hz
  · next e =>
    cases hz
    have := eq_of_beq e
    subst this
    exact ⟨h, hb⟩
  · exact r z d hz
/-- .. whether an except clause of the class c takes it -/
def XmN (K : PySem.W.Frag) (tb : List (Str × Bool)) (c : Str) : Prop := ∀ y b, tb.lookup y = some b → PySem.W.exmOne K (.ref (He.ga K y)) (.ref (He.ga K c)) = some b
theorem xmN_nil {K : PySem.W.Frag} {c : Str} : XmN K [] c := fun _ _ h => nomatch h
theorem xmN_cons {K : PySem.W.Frag} {y c : Str} {b : Bool} {tb : List (Str × Bool)} (hb : PySem.W.exmOne K (.ref (He.ga K y)) (.ref (He.ga K c)) = some b) (r : XmN K tb c) : XmN K ((y, b) :: tb) c := fun z d hz => by
  rw [List.lookup_cons] at hz
  split at hz
  · next e =>
    cases hz
    have := eq_of_beq e
    subst this
    exact hb
  · exact r z d hz
section
variable {X : Cx} {i : Nat} {pos p : Pos} {n nm c : Str}
def eXf (cs : List Str) (n : Str) (x : Xn) : EF := fun _ m => if cs.contains x.c then pu (fldAt x.ns x.vs n) m else none
theorem he_fld {cs : List Str} (hc : XfN X.K cs n) (hN : X.N[i]? = some nm) (hv : Vis X.env.scope nm) (hdb : (nm == ("__debug__" : Str)) = false := by decide) (hcd : (nm == ("__classdict__" : Str)) = false := by decide)
    (hb : attributeBase (.Name nm p) n X.env (eval (.Name nm p) X.env) = eval (.Name nm p) X.env := by rfl) : HE X (some i) (.Attribute (.Name nm p) n pos) (eXf cs n) := by
  refine ⟨fun a oe cls d pn hz hd => ⟨fun pins s σ H Q I ⟨T, ρ, m, x, z, m', hm, hs, xr, hl, hf, k⟩ => ?_⟩⟩
  obtain ⟨h1, hf⟩ := ite_some hf
  obtain ⟨e1, rfl⟩ := pu_some hf
  obtain ⟨T1, hno⟩ := hc x.c (by simpa using h1)
  obtain ⟨ec, xr⟩ := xr
  rcases xr with ⟨_, e2, e3⟩ | ⟨dd, fs, e2, nt, ha, e3, rl⟩
  · rw [e2, e3] at e1
    cases e1
  · obtain ⟨v, e4, rv⟩ := fld_rep e3 rl e1
    exact (pe_xf (X := X) (te := tVar i) ⟨T1.ga, T1.gg, T1.ex, T1.hd⟩ hno hz hd (pe_var (X := X.suite a ((a, oe) :: pn)) (pos := p) hN hv hdb hcd) hb).run pins s σ H Q I ⟨.ref a, hl i rfl, rfl, ec, dd, fs, v, e2, ha, e4, k v T H .refl hm rv⟩
def eXi (tb : List (Str × Bool)) (x : Xn) : EF := fun _ m => match tb.lookup x.c with
  | some b => some (.bl b, m)
  | none => none
theorem he_isi {tb : List (Str × Bool)} {p1 p2 p3 : Pos} (hc : XiN X.K tb c) (hg : Gl X "isinstance") (hm : X.mg "isinstance" = none) (hN : X.N[i]? = some nm) (hv : Vis X.env.scope nm) (hgc : Gl X c) (hmc : X.mg c = some (.ref (He.ga X.K c)))
    (hdb : (nm == ("__debug__" : Str)) = false := by decide) (hcd : (nm == ("__classdict__" : Str)) = false := by decide) (hdc : (c == ("__debug__" : Str)) = false := by decide)
    (hbt : bootBuiltins "isinstance" = some (.builtin "isinstance") := by decide +kernel)
    (hst : starEach [.Name nm p2, .Name c p3] X.env = (false, eval (.Name nm p2) X.env) :: starEach [.Name c p3] X.env := by rfl) (hst2 : starEach [.Name c p3] X.env = (false, eval (.Name c p3) X.env) :: starEach [] X.env := by rfl) (hpl : (backTo pos (starEach [.Name c p3] X.env)).any (·.1) = false := by rfl) :
    HE X (some i) (.Call (.Name "isinstance" p1) [.Name nm p2, .Name c p3] [] pos) (eXi tb) := by
  refine ⟨fun a oe cls d pn hz hd => ?_⟩
  have PAa : PA (X.suite a ((a, oe) :: pn)) [.Name nm p2, .Name c p3] (tCons (tVar i) (tCons (tC (.ref (He.ga X.K c))) tNil)) :=
    pa_cons (pe_var (X := X.suite a ((a, oe) :: pn)) hN hv hdb hcd) (pa_cons (pe_glob (X := X.suite a ((a, oe) :: pn)) (v := .ref (He.ga X.K c)) hgc hmc rfl hdc) pa_nil hst2) hst
  let r : List V → Hp → VK → Prop := fun xs H Q => ∃ (x : Str) (dd : Option Addr) (b : Bool), xs = [.ref a, .ref (He.ga X.K c)] ∧ cls = .ref (He.ga X.K x) ∧ d = dd ∧ (dd = none ∨ ∃ q fs, dd = some q ∧ H q = some (.xd fs)) ∧ XcC X.K (He.ga X.K x) ∧ PySem.W.kitOne X.K (.ref (He.ga X.K x)) (.ref (He.ga X.K c)) = some b ∧ Q (.bl b) H
  have hr : CallR (X.suite a ((a, oe) :: pn)) (.builtin "isinstance") r := by
    intro pins s σ H xs us Q I rv h
    obtain ⟨x, dd, b, rfl, ec, ed, hh, T, e, q⟩ := h
    subst ed
    cases rv with
    | cons r1 rr => cases rr with
      | cons r2 rr =>
        cases rr; cases r1; cases r2
        obtain ⟨hget, _⟩ := I.pin (a, oe) (List.mem_append.mpr (.inl (List.mem_cons_self ..)))
        obtain ⟨vs, hv⟩ := hd
        have J : ∃ od, PySem.W.InstAt s.heap a oe (He.ga X.K x) od := by
          rcases hh with hh | ⟨qa, fs, e2, hq⟩
          · exact ⟨none, hget, by rw [hz.1, ec], by unfold PySem.W.notCls; rw [hv] <;> rfl, by rw [hz.2, hh]; trivial⟩
          · have hx : ObjOk X.prog X.w H s.heap qa (.xd fs) := I.hok qa _ hq
            obtain ⟨mA, hns, _⟩ := hx
            obtain ⟨od, es, ep, ho, _⟩ := hns
            exact ⟨some od, hget, by rw [hz.1, ec], by unfold PySem.W.notCls; rw [hv] <;> rfl, by rw [hz.2, e2]; exact ho⟩
        obtain ⟨od, J⟩ := J
        exact PySem.W.kia_one (PySem.W.kitx_exc T.cl T.ga T.gg T.ex T.co T.cn T.ct T.ob) I.kIn J e (fun z => nomatch z) fun tk => ⟨.bl b, H, I.kept (t' := tk) fun _ _ z => z, rfl, q⟩
  refine (pe_callB (X := X.suite a ((a, oe) :: pn)) hr hg hm hbt PAa (by decide) (by decide) hst hpl).imp fun σ H Q ⟨T, ρ, m, x, z, m', hm, hs, xr, hl, hf, k⟩ => ?_
  unfold eXi at hf
  split at hf
  · next b hb =>
    cases hf
    obtain ⟨T1, e1⟩ := hc x.c b hb
    obtain ⟨ec, xr⟩ := xr
    refine ⟨.ref a, hl i rfl, x.c, d, b, rfl, ec, rfl, ?_, T1, e1, k _ T H .refl hm (.bl _)⟩
    rcases xr with ⟨e2, _⟩ | ⟨dd, fs, e2, _, ha, _⟩
    · exact .inl e2
    · exact .inr ⟨dd, fs, e2, ha⟩
  · cases hf
end
end L4
namespace L4
open PySem PySem.Spec PyProof.Rows L2
theorem Gd.nox {k : Nat} {X : Cx} (h : Gd k X) : Gd k X.nox := ⟨h.g, h.r⟩
theorem Gd.tr {k : Nat} {X : Cx} {pn : List (Addr × Obj)} {xe : Value → Shared → Prop} (h : Gd k X) : Gd k (X.tr pn xe) := ⟨h.g, h.r⟩
abbrev Clx := List (Str × Bool) × Option Nat × (Xn → SF)
def offR (i : Option Nat) (ρ : Ss) : Ss := match i with
  | none => ρ
  | some i => ρ.set i none
def offF (i : Option Nat) (r : Fl) : Fl := match r with
  | .nx ρ => .nx (offR i ρ)
  | .rt d => .rt d
  | .bk ρ => .bk (offR i ρ)
  | .ct ρ => .ct (offR i ρ)
def okI (i : Option Nat) (ρ : Ss) : Bool := match i with
  | none => true
  | some i => decide (i < ρ.length)
def handle : List Clx → Xn → SX
  | [], x => fun ρ m => some (.ex x ρ, m)
  | (mt, i, f) :: r, x => fun ρ m => match mt.lookup x.c with
    | some true => if okI i ρ then (f x (offR i ρ) m).map fun z => (.fl (offF i z.1), z.2) else none
    | some false => handle r x ρ m
    | none => none
section
variable {g : G} {T : Tk} {H : Hp} {m : M}
theorem RepS.off {σ : L2.St} {ρ : Ss} {i : Option Nat} {a : Addr} (r : RepS g T H σ ρ) : RepS g T H (onS i a σ) (offR i ρ) := by
  cases i with
  | none => exact r
  | some i =>
    refine ⟨by simp [onS, offR, r.len], fun j d h => ?_⟩
    by_cases hj : i = j
    · subst hj
      unfold offR at h
      by_cases hl : i < ρ.length
      · rw [List.getElem?_set_self hl] at h
        cases h
      · rw [List.getElem?_eq_none (by simpa using hl)] at h
        cases h
    · unfold offR at h
      rw [List.getElem?_set_ne hj] at h
      obtain ⟨v, e, q⟩ := r.at_ j d h
      exact ⟨v, by unfold onS; rw [List.getElem?_set_ne hj]; exact e, q⟩
theorem RepS.out {σ : L2.St} {ρ : Ss} {i : Nat} (r : RepS g T H σ ρ) : RepS g T H (σ.set i none) (offR (some i) ρ) := by
  refine ⟨by simp [offR, r.len], fun j d h => ?_⟩
  unfold offR at h
  by_cases hj : i = j
  · subst hj
    by_cases hl : i < ρ.length
    · rw [List.getElem?_set_self hl] at h
      cases h
    · rw [List.getElem?_eq_none (by simpa using hl)] at h
      cases h
  · rw [List.getElem?_set_ne hj] at h
    obtain ⟨v, e, q⟩ := r.at_ j d h
    exact ⟨v, by rw [List.getElem?_set_ne hj]; exact e, q⟩
theorem KF.off {r : Fl} {D : Ends} {i : Option Nat} (k : KF g T H m (offF i r) D) : KF g T H m r (offD i D) := by
  cases i with
  | none => cases r <;> exact k
  | some i =>
    cases r with
    | nx ρ => exact fun σ T' H' l hm hs => k _ T' H' l hm hs.out
    | rt d => exact k
    | bk ρ => exact fun σ T' H' l hm hs => k _ T' H' l hm hs.out
    | ct ρ => exact fun σ T' H' l hm hs => k _ T' H' l hm hs.out
theorem heldS_on {σ : L2.St} {ρ : Ss} {i : Option Nat} {a : Addr} (r : RepS g T H σ ρ) (h : okI i ρ = true) : HeldS i a (onS i a σ) := by
  intro j e
  subst e
  have hl : j < ρ.length := of_decide_eq_true h
  unfold onS
  rw [List.getElem?_set_self (by rw [r.len]; exact hl)]
end
inductive HdX (X : Cx) : List ExceptHandler → List Clx → Prop
  | nil : HdX X [] []
  | bare {c : Str} {mt : List (Str × Bool)} {f : Xn → SF} {b₀ : Stmt} {suite : List Stmt} {np q : Pos} {hds : List ExceptHandler} {l : List Clx} (hg : Gl X c) (hm : X.mg c = some (.ref (He.ga X.K c))) (hdb : (c == ("__debug__" : Str)) = false) (ht : XmN X.K mt c)
      (hsu : HS X none (b₀ :: suite) f) (r : HdX X hds l) : HdX X (.ExceptHandler (some (.Name c np)) none (b₀ :: suite) q :: hds) ((mt, none, f) :: l)
  | named {c n : Str} {i : Nat} {mt : List (Str × Bool)} {f : Xn → SF} {b₀ : Stmt} {suite : List Stmt} {np q : Pos} {hds : List ExceptHandler} {l : List Clx} (hg : Gl X c) (hm : X.mg c = some (.ref (He.ga X.K c))) (hdb : (c == ("__debug__" : Str)) = false) (ht : XmN X.K mt c)
      (hi : X.N[i]? = some n) (hln : X.env.kindOf n = some .local) (hsu : HS X (some i) (b₀ :: suite) f) (r : HdX X hds l) : HdX X (.ExceptHandler (some (.Name c np)) (some n) (b₀ :: suite) q :: hds) ((mt, some i, f) :: l)
section
variable {X : Cx} {pos : Pos}
theorem HdX.sound {hds : List ExceptHandler} {hs : List Clx} (h : HdX X hds hs) : ∃ l : List Cla, ClsOk X hds l ∧ ∀ T H m x ρ r m' D W, handle hs x ρ m = some (r, m') → KQ (gx X) T H m' r D W → KY (gx X) T H m x ρ (wCl X.K W D l) := by
  induction h with
  | nil =>
    refine ⟨[], .nil, fun T H m x ρ r m' D W e k => ?_⟩
    cases e
    exact k
  | @bare c mt f b₀ suite np q hds l hg hm hdb ht hsu r ih =>
    obtain ⟨l2, h2, ih⟩ := ih
    refine ⟨(.ref (He.ga X.K c), none, fun a cls d => tHs (gx X) none a cls d f) :: l2, .bare ⟨hg, hdb, .inl hm⟩ (fun a oe cls d pn hz hd => hsu.go a oe cls d pn hz hd) h2, fun T H m x ρ r m' D W e k cls dd σ T' H' l1 hm1 hs1 xr => ?_⟩
    unfold handle at e
    split at e
    · next hx =>
      obtain ⟨hk, e⟩ := ite_some e
      obtain ⟨⟨z, m2⟩, e1, e2⟩ := Option.map_eq_some_iff.mp e
      cases e2
      refine ⟨true, by rw [xr.1]; exact ht _ _ hx, fun _ a _ => ⟨T', offR none ρ, m, x, z, _, hm1, hs1.off (a := a), xr, heldS_on hs1 hk, e1, KF.off (i := none) (KF.le l1 k)⟩, fun z => nomatch z⟩
    · next hx => exact ⟨false, by rw [xr.1]; exact ht _ _ hx, (fun z => nomatch z), fun _ => ih T H m x ρ r m' D W e k cls dd σ T' H' l1 hm1 hs1 xr⟩
    · cases e
  | @named c n i mt f b₀ suite np q hds l hg hm hdb ht hi hln hsu r ih =>
    obtain ⟨l2, h2, ih⟩ := ih
    refine ⟨(.ref (He.ga X.K c), some i, fun a cls d => tHs (gx X) (some i) a cls d f) :: l2, .named ⟨hg, hdb, .inl hm⟩ hi hln (fun a oe cls d pn hz hd => hsu.go a oe cls d pn hz hd) h2, fun T H m x ρ r m' D W e k cls dd σ T' H' l1 hm1 hs1 xr => ?_⟩
    unfold handle at e
    split at e
    · next hx =>
      obtain ⟨hk, e⟩ := ite_some e
      obtain ⟨⟨z, m2⟩, e1, e2⟩ := Option.map_eq_some_iff.mp e
      cases e2
      refine ⟨true, by rw [xr.1]; exact ht _ _ hx, fun _ a _ => ⟨T', offR (some i) ρ, m, x, z, _, hm1, hs1.off (a := a), xr, heldS_on hs1 hk, e1, KF.off (i := some i) (KF.le l1 k)⟩, fun z => nomatch z⟩
    · next hx => exact ⟨false, by rw [xr.1]; exact ht _ _ hx, (fun z => nomatch z), fun _ => ih T H m x ρ r m' D W e k cls dd σ T' H' l1 hm1 hs1 xr⟩
    · cases e
theorem hs_set {i : Option Nat} {j : Nat} {y : Str} {e : Expr} {f : Xn → EF} {p' : Pos} (hN : X.N.Nodup) (hj : X.N[j]? = some y) (hy : Loc X.env.scope y) (he : HE X i e f) (hs : swapsWith e (some (.Name y p')) pos.line X.env = pure false := by rfl) (hf : X.fn y = true ∨ X.env.scope.names.lookup y = some .local := by first | exact .inl rfl | exact .inr rfl | assumption) :
    HS X i [.Assign [.Name y p'] e pos] (fun x => sAsg (f x) (gNm j)) := by
  refine ⟨fun a oe cls d pn hz hd => (pss_one (ps_set (X := X.suite a ((a, oe) :: pn)) hN hj hy (he.go a oe cls d pn hz hd) hs hf)).imp fun D σ H ⟨T, ρ, m, x, z, m', hm, hs, xr, hl, hf, k⟩ => ?_⟩
  obtain ⟨v, m1, e1, hf⟩ := bd_some hf
  cases hf
  exact ⟨T, ρ, m, x, v, _, hm, hs, xr, hl, e1, fun v1 T1 H1 l1 hm1 r1 => k _ T1 H1 l1 hm1 ((hs.le l1).set r1)⟩
end
end L4
namespace L4
open PySem PySem.Spec PyProof.Rows L2
theorem xmB_ok {K : PySem.W.Frag} {y c : Str} {b : Bool} (h : xmB K y c b = true) : PySem.W.exmOne K (.ref (He.ga K y)) (.ref (He.ga K c)) = some b := of_decide_eq_true h
theorem xiB_ok {K : PySem.W.Frag} {y c : Str} {b : Bool} (h : xiB K y c b = true) : PySem.W.kitOne K (.ref (He.ga K y)) (.ref (He.ga K c)) = some b := of_decide_eq_true h
theorem xfB_ok {K : PySem.W.Frag} {c n : Str} (h : xfB K c n = true) : PySem.W.findIn K (.ref (He.ga K c)) n = some none := He.eqO_ok h
section
variable {P : Program} {w : World} {K : PySem.W.Frag} {mg : Str → Option Value} {base : Heap} {k n : Nat} {x c m : Str} {f : Addr} {fd : FuncData} {ps : List Str}
theorem FnG.more {CX : CXT} {j : Nat} {sp : Sp} (h : FnG P w K mg base CX j f fd ps sp) (l : j ≤ k) : FnG P w K mg base CX k f fd ps sp :=
  ⟨h.len, fun A outer s H args us vs Q E hg hr e0 hb rv q => h.run A outer s H args us vs Q E hg (hr.mono l) e0 hb rv q⟩
theorem PFx.more {j : Nat} {F : List D → Option Rv} (h : PFx P w K mg base j x n F) (l : j ≤ k) : PFx P w K mg base k x n F := by
  obtain ⟨f, fd, ps, G, hm, kp, b⟩ := h.ex
  exact ⟨h.len, f, fd, ps, G.more l, hm, kp, b⟩
end
def RxE (f : EF) (y : EX) : Prop := ∀ ρ m d m', f ρ m = some (d, m') → y ρ m = some (.ok d, m')
def RxS (f : SF) (y : SX) : Prop := ∀ ρ m r m', f ρ m = some (r, m') → y ρ m = some (.fl r, m')
theorem rx_of {f : SF} : RxS f (yOf f) := fun ρ m d m' h => by unfold yOf; rw [h]; rfl
theorem rx_no {y : SX} : RxS sNo y := fun ρ m r m' h => nomatch h
theorem rx_seq {a b : SF} {ya yb : SX} (ha : RxS a ya) (hb : RxS b yb) : RxS (sSeq a b) (ySeq ya yb) := fun ρ m r m' h => by
  obtain ⟨x, m1, e1, h⟩ := bd_some h
  show bd (ya ρ m) _ = _
  rw [ha _ _ _ _ e1]
  cases x with
  | nx ρ1 => exact hb _ _ _ _ h
  | rt d => cases h; rfl
  | bk ρ => cases h; rfl
  | ct ρ => cases h; rfl
theorem rx_if {c : TF} {a b : SF} {ya yb : SX} (ha : RxS a ya) (hb : RxS b yb) : RxS (sIf c a b) (yIf c ya yb) := fun ρ m r m' h => by
  obtain ⟨x, m1, e1, h⟩ := bd_some h
  show bd (c ρ m) _ = _
  rw [e1]
  cases x with
  | true => exact ha _ _ _ _ h
  | false => exact hb _ _ _ _ h
def RxP (F : List D → Option D) (G : List D → Option Rv) : Prop := ∀ ds d, F ds = some d → G ds = some (.ok d)
def RxM (F : List D → M → Option (D × M)) (G : List D → M → Option (Rv × M)) : Prop := ∀ ds m d m', F ds m = some (d, m') → G ds m = some (.ok d, m')
theorem callP_rx {F : List D → Option D} {G : List D → Option Rv} (h : RxP F G) {m : M} {ds : List D} {d : D} (e : callP F m ds = some d) : callPX G m ds = some (.ok d) := by
  unfold callP at e
  unfold callPX
  split at e
  · next hp => rw [if_pos hp]; exact h _ _ e
  · next hp =>
    rw [if_neg hp]
    split at e
    · next es h1 =>
      split at e
      · next d2 h2 =>
        obtain ⟨hg, e⟩ := ite_some e
        cases e
        simp only [h1, h _ _ h2, hg, if_true]
      · cases e
    · cases e
theorem rx_call {F : List D → Option D} {G : List D → Option Rv} {a : AF} (h : RxP F G) : RxE (eCall (callP F) a) (eCallX (callPX G) a) := fun ρ m d m' e => by
  obtain ⟨xs, m1, e1, e⟩ := bd_some e
  obtain ⟨e2, rfl⟩ := pu_some e
  show bd (a ρ m) _ = _
  rw [e1]
  show (callPX G _ xs).map _ = _
  rw [callP_rx h e2]
  rfl
theorem rx_run {a n : Nat} {f : SF} {y : SX} (h : RxS f y) : RxP (runP a n f) (runPX a n y) := fun ds d e => by
  obtain ⟨hl, e⟩ := ite_some e
  unfold runPX
  rw [if_pos hl]
  unfold endP at e
  split at e
  · next x m h1 => rw [h _ _ _ _ h1]; show (frz m x).map _ = _; rw [e]; rfl
  · next ρ m h1 => rw [h _ _ _ _ h1]; cases e; rfl
  · cases e
theorem rx_runM {a n : Nat} {f : SF} {y : SX} (h : RxS f y) : RxM (runM a n f) (runMX a n y) := fun ds m0 d m' e => by
  obtain ⟨hl, e⟩ := ite_some e
  unfold runMX
  rw [if_pos hl]
  unfold endM at e
  split at e
  · next x m h1 => rw [h _ _ _ _ h1]; cases e; rfl
  · next ρ m h1 => rw [h _ _ _ _ h1]; cases e; rfl
  · cases e
end L4
namespace L4
open PySem PySem.Spec PyProof.Rows L2
/-- the def -/
structure OiF (P : Program) (K : PySem.W.Frag) (C f : Addr) (x w : Str) (fd : FuncData) : Prop where
  lk : ∃ oc od osl, K.lookup f = some ⟨oc, od, .func fd, osl⟩
  body : ∃ p0 p1 p2 p3 p4 p5 p6 p7 p8 p9, fd.body = .stmts [.Expr (.Call (.Attribute (.Call (.Name "super" p0) [] [] p1) "__init__" p2) [.Name x p3] [] p4) p5, .Assign [.Attribute (.Name "self" p6) w p7] (.Name x p8) p9] ∧ (p2.endLine == p4.line) = true
  head : ∃ ar, (fd.params.posonlyargs ++ fd.params.args).head? = some ar ∧ ar.arg = "self"
  clo : ∃ cc cl cld csl, fd.closure = [(("__class__" : Str), cc)] ∧ K.lookup cc = some ⟨cl, cld, .cell (some (.ref C)), csl⟩
  code : ∃ cda ccl cdd vs ccs file tf, fd.code = .ref cda ∧ K.lookup cda = some ⟨ccl, cdd, .fields vs, ccs⟩ ∧ vs[2]? = some (.str file tf) ∧ (P.main.file == file) = true
  cdi : PySem.W.codeIn K fd.code fd.qualname = true
  glo : fd.globals = mainGlobals
  blt : fd.builtins = builtinsNs
  ks : fd.scope.names.lookup ("super" : Str) = some NameKind.globalImplicit
  kc : fd.scope.names.lookup ("__class__" : Str) = some NameKind.free
  kself : fd.scope.names.lookup ("self" : Str) = some NameKind.local
  kx : fd.scope.names.lookup x = some NameKind.local
  kind : fd.scope.kind = .function
  co : fd.scope.isCoroutine = false
  gen : fd.scope.isGenerator = false
  nocell : ∀ z ∈ fd.scope.names, z.2 ≠ .cell
  xs : (x == ("self" : Str)) = false
  xd : (x == ("__debug__" : Str)) = false
/-- the class -/
structure OiK (P : Program) (K : PySem.W.Frag) (C : Addr) (w : Str) : Prop where
  ox : OexC K C
  no : PySem.W.findIn K (.ref C) w = some none
  sup : PySem.W.nsIn K mainGlobals "super" = some none
  op : PySem.W.nsIn K cStatics "thirdparty.any" = some none
  along : PySem.W.ks_superIn K C C "__init__" = some (some (.builtin "ValueError.__init__"))
  sub : PySem.W.subIn K (.ref C) (.type "ValueError") = some true
  mro : PySem.W.mroIn K C (.ref C) = some true
  ini : PySem.W.excInitIn K C He.veBase "ValueError.__new__" = true
  top : (P.main.scope.names.lookup ("super" : Str)).isSome = false
def spI (C : Addr) (w : Str) : Sp := fun vs H Q E => ∃ (a : Addr) (y : V), vs = [.ref a, y] ∧ H a = some (exo a C none) ∧ ∀ dx, H dx = none → dx ≠ a → Q .non (upd (upd H dx (exd dx [(w, y)])) a (exo a C (some dx)))
end L4
namespace L4
open PySem PySem.Spec PyProof.Rows L2 PySem.W
section
variable {P : Program} {w : World} {K : PySem.W.Frag} {mg : Str → Option Value} {base : Heap} {k : Nat} {C f : Addr} {x fld : Str} {fd : FuncData}
theorem oi_fn {CX : CXT} (FF : OiF P K C f x fld fd) (T : OiK P K C fld) : FnOk P w K mg base CX (k + 1) f fd ["self", x] (spI C fld) := by
  refine ⟨fun vs H Q E ⟨a, y, e, _⟩ => by rw [e]; rfl, fun A outer s H args us vs Q E hr e0 hb rv hs => ?_⟩
  obtain ⟨a, y, rfl, ha, q⟩ := hs
  obtain ⟨u1, u, rfl, r1, ry⟩ := vals2 rv
  obtain rfl : u1 = Value.ref a := r1
  obtain ⟨oc, od, osl, lk⟩ := FF.lk
  obtain ⟨p0, p1, p2, p3, p4, p5, p6, p7, p8, p9, hbody, hpos⟩ := FF.body
  obtain ⟨ar, hhd, har⟩ := FF.head
  obtain ⟨cc, cl, cld, csl, hclo, lcc⟩ := FF.clo
  obtain ⟨cda, ccl, cdd, cvs, ccs, file, tf, hcode, lcd, hvs, hfile⟩ := FF.code
  obtain ⟨nm, qn, N, bs, bm, sn, sub, ab, col, dd, k0, k1, k2, k3, k5, hC, hbm⟩ := T.ox.cls
  have hcl : PySem.W.clsIn K C = some { name := nm, bases := bs, mro := .ref C :: bm, ns := N, qualname := qn, hasDict := true, slotNames := sn, subclasses := sub, abstract := ab, collection := col, hasDel := false } := by unfold PySem.W.clsIn; rw [hC] <;> rfl
  have keep : ∀ b o, base.get? b = some o → s.heap.get? b = some o := fun b o e => (e0.bs b o e).1
  have KX := e0.mod.kin.keeps keep
  obtain ⟨t1, ho⟩ := exo_at e0.hok ha
  have aK : ∀ b o, K.lookup b = some o → b ≠ a := fun b o e z => by
    have := (e0.bs b o (e0.mod.kin b o e)).2
    rw [z, ha] at this
    cases this
  have kc' : (callEnv fd s.heap.objs.size f).kindOf "__class__" = some .free := FF.kc
  have ks' : (callEnv fd s.heap.objs.size f).kindOf "super" = some NameKind.globalImplicit := FF.ks
  have kself : (callEnv fd s.heap.objs.size f).kindOf "self" = some .local := FF.kself
  have kx : (callEnv fd s.heap.objs.size f).kindOf x = some .local := FF.kx
  have kf : (callEnv fd s.heap.objs.size f).scope.kind = .function := FF.kind
  refine ks_codeAny_call_defAt hr.depth (KX _ _ lk) rfl (e0.mod.nolimit.keeps keep) (PySem.W.codeRec_of KX FF.cdi) hbody hb FF.nocell (fun z hz => ?_) (fun h1 hns hk1 => ?_) FF.co FF.gen FF.kind
  · simp only [List.zip_cons_cons, List.zip_nil_right, List.mem_cons, List.not_mem_nil, or_false] at hz
    rcases hz with rfl | rfl
    · exact FF.kself
    · exact FF.kx
  have k1' : ∀ b o, base.get? b = some o → h1.get? b = some o := fun b o e => hk1 b o (keep b o e)
  have X1 : K.In h1 := e0.mod.kin.keeps k1'
  have vself : (fun z => ((["self", x] : List Str).zip [Value.ref a, u]).reverse.lookup z) ("self" : Str) = some (.ref a) := by
    show ([(x, u), (("self" : Str), Value.ref a)] : List (Str × Value)).lookup ("self" : Str) = _
    have e : (("self" : Str) == x) = false := by
      have := FF.xs
      rw [beq_eq_false_iff_ne] at this ⊢
      exact fun z => this z.symm
    simp only [List.lookup, e, beq_self_eq_true]
  have vx : (fun z => ((["self", x] : List Str).zip [Value.ref a, u]).reverse.lookup z) x = some u := by
    show ([(x, u), (("self" : Str), Value.ref a)] : List (Str × Value)).lookup x = _
    simp only [List.lookup, beq_self_eq_true]
  obtain ⟨sh, sg, sd, stk, sos⟩ := s
  have oa1 : h1.get? a = some _ := hk1 _ _ ho
  have hCl : h1.get? C = some _ := X1 _ _ hC
  refine ks_wpAt_execs_cons (ks_wpAt_Expr_any (ks_wpAt_MethodCall (pl := (do return (← importBound (.Call (.Name "super" p0) [] [] p1) (callEnv fd sh.objs.size f)).getD true)) ?hm ?he) ?hi ?hsw)
  case he =>
    have e : methodCallPos true (.Call (.Name "super" p0) [] [] p1) (callEnv fd sh.objs.size f) p2 p4 = pure p4 := by
      unfold methodCallPos
      rw [hpos]
      rfl
    show (do
      let ov ← attributeBase (.Call (.Name "super" p0) [] [] p1) "__init__" (callEnv fd sh.objs.size f) (eval (.Call (.Name "super" p0) [] [] p1) (callEnv fd sh.objs.size f))
      standAt p2.atName
      let (fn, first) ← holding [ov] (getMethod ov "__init__" (do return (← importBound (.Call (.Name "super" p0) [] [] p1) (callEnv fd sh.objs.size f)).getD true))
      let cp ← methodCallPos true (.Call (.Name "super" p0) [] [] p1) (callEnv fd sh.objs.size f) p2 p4
      callWith cp fn first (backTo p4 (starEach [.Name x p3] (callEnv fd sh.objs.size f))) []) = _
    rw [e]
    rfl
  case hi => show (fd.scope.kind == .module && _) = false; rw [FF.kind]; rfl
  case hsw => rfl
  refine ks_wpAt_super_base ks' kc' rfl rfl (hk1 _ _ (KX _ _ lk)) rfl hhd hcode (hk1 _ _ (KX _ _ lcd)) rfl hvs hfile T.top ?_
  obtain ⟨mb, m1, m2⟩ := e0.mod.blt
  refine ks_loadName_global kf ks' (PySem.Calls.loadGlobal_builtin (by show h1.Ns fd.globals _; rw [FF.glo]; exact e0.mod.glob.keeps k1') (mg_none_of e0.mod.kin e0.mod.glob T.sup) (by show h1.Ns fd.builtins _; rw [FF.blt]; exact m1.keeps k1') ((m2 _ (by decide +kernel)).trans (by decide +kernel)) ⟨rfl, ?_⟩)
  refine wpAny_loadName_free kf kc' (by show fd.closure.lookup _ = _; rw [hclo]; rfl) ⟨_, hk1 _ _ (KX _ _ lcc), rfl⟩ ?_
  rw [har]
  refine wpAny_loadName_local kf kself hns vself ?_
  refine ks_wpAny_isType_cls hCl rfl ⟨rfl, ?_⟩
  refine ks_wpAny_call_super hCl rfl oa1 rfl (fun c e => by cases e) (looks_mroIn X1 T.mro) (fun h2 e2 k2 => ?_)
  have X2 : K.In h2 := X1.keeps k2
  have a2 := k2 _ _ oa1
  have I2 : InstAt h2 a _ C none := ⟨a2, rfl, rfl, trivial⟩
  have aC : a ≠ C := fun z => aK _ _ hC z.symm
  refine kxs_getMethod kxs_ValueError e2 (looks_opaque X2 T.op) (l₀ := .ref C :: bm) ?_ rfl X2 ?_ (I2.type.andThen (looks_subIn X2 T.sub)) aC rfl ?_
  · exact fun A Q E s k q => wpAny_bind ((looks_clsIn X2 hcl) A _ E s k (wpAny_pure q))
  · have := T.along
    unfold ks_superIn at this
    rw [hcl] at this
    exact this
  have k3 : ∀ b o, h1.get? b = some o → (h2.push (kxs_mw "ValueError.__init__" a)).get? b = some o := fun b o e => Heap.get?_push_of_some _ (k2 b o e)
  have ns3 := hns.keeps k3
  have X3 : K.In (h2.push (kxs_mw "ValueError.__init__" a)) := X1.keeps k3
  have a3 := k3 _ _ oa1
  have w3 : (h2.push (kxs_mw "ValueError.__init__" a)).get? h2.objs.size = some (kxs_mw "ValueError.__init__" a) := Heap.get?_push_at rfl rfl
  refine kxs_callWith (i := "ValueError.__init__") (x := a) rfl (PySem.Calls.evalArgs_plain (x := eval (.Name x p3) (callEnv fd sh.objs.size f)) (rest := []) (PySem.Calls.spliced_cons (wpAny_Name (wpAny_loadName_local kf kx ns3 vx (PySem.Calls.spliced_nil ⟨w3, ?_⟩)) FF.xd)))
  generalize h2.push (kxs_mw "ValueError.__init__" a) = h3 at k3 ns3 X3 a3 w3 ⊢
  refine wpAny_call (codeAny_of_tree ?_)
  show wpAny _ (A.deeper (callEnv fd sh.objs.size f)).in1 (callAny (.ref h2.objs.size) ⟨[u], []⟩) _ _ _
  simp only [callAny]
  refine wpAny_bind (wpAny_load w3 ?_)
  simp only [kxs_mw, show (Value.type "method-wrapper" == Value.type "method" || Value.type "method-wrapper" == Value.type "builtin_function_or_method" || Value.type "method-wrapper" == Value.type "method-wrapper") = true by decide, if_true]
  refine KFB.if_so (by decide) ?_
  refine wpAny_bind (check_bound_init F.excBase_ValueError.toExcCallFacts (X3 _ _ hC) a3 rfl ?_)
  refine wpAny_bind (wpAny_pure (wpAny_pure ?_))
  refine ⟨plainId_quiet F.excBase_ValueError.init.plain _, codeAny_builtin F.excBase_ValueError.initEntry ?_⟩
  refine exc_init_tree (cls := .ref C) (t0 := t1) (dv := none) (c2 := .none) (c3 := .none) (b4 := .bool false) a3 (by show 1 ≤ sizeLine; rw [sizeLine_eq]; decide) fun h4 k4 a4 _ => ?_
  have alt : a < sh.objs.size := Heap.lt_size ho
  have ns4 : h4.Ns sh.objs.size (fun z => ((["self", x] : List Str).zip [Value.ref a, u]).reverse.lookup z) := by
    obtain ⟨oL, es, ep, hL, r⟩ := ns3
    exact ⟨oL, es, ep, k4 _ _ (Nat.ne_of_gt alt) hL, r⟩
  have X4 : K.In h4 := fun b o e => k4 b o (aK b o e) (X3 b o e)
  refine ks_wpAt_execs_cons (ks_wpAt_Assign_Attr (wpAt_of_wpAny (wpAny_Name (wpAny_loadName_local kf kx ns4 vx (wpAny_Name (wpAny_loadName_local kf kself ns4 vself ?_) (by decide))) FF.xd)) ?hsw)
  case hsw => rfl
  refine PySem.W.set_plain X4 (ox := excObj C h3.objs.size none .none) (od := none) ⟨a4, rfl, rfl, trivial⟩ T.ox.sa ?_
  refine PySem.HandSPX.exc_osa X4 a4 hcl (show PySem.HandSPX.refsVE (.ref C :: bm) = true from hbm) rfl T.no (fun h5 tk5 dx k5 dn dne hx hn => ?_)
  refine wpAt_of_wpAny (wpAny_execs_nil ?_)
  have up : ∀ b o, b ≠ a → sh.get? b = some o → h5.get? b = some o := fun b o hb e => k5 b o hb (k4 b o hb (k3 b o (hk1 b o e)))
  have le4 : sh.objs.size ≤ h4.objs.size := by
    obtain ⟨oL, _, _, hL, _⟩ := ns4
    exact Nat.le_of_lt (Heap.lt_size hL)
  have dn0 : sh.objs.size ≤ dx := Nat.le_trans le4 dn
  have hnd : H dx = none := e0.hok.fresh dn0
  have nd : ∀ {b : Addr} {o : Obj}, sh.get? b = some o → b ≠ dx := fun {b o} q => Nat.ne_of_lt (Nat.lt_of_lt_of_le (Heap.lt_size q) dn0)
  have na : ∀ {b : Addr}, H b = none → b ≠ a := fun {b} n z => by
    rw [z, ha] at n
    cases n
  refine ⟨.non, upd (upd H dx (exd dx [(fld, y)])) a (exo a C (some dx)), rfl, e0.bare, {
    keep := fun b o q n _ _ => up b o (na n) q
    slot := fun b o q n _ _ => ⟨o.slots, up b o (na n) q⟩
    free := fun b o q n _ => by rw [upd_ne (na n), upd_ne (nd q)]; exact n
    there := fun b o q _ => by
      by_cases hb : b = a
      · exact ⟨_, by rw [hb]; exact hx⟩
      · exact ⟨o, up b o hb q⟩
    tups := fun b xs q => by rw [upd_ne (at_ne ha q exo_tup), upd_ne (ne_of_none q hnd)]; exact q
    frzs := fun b o v q => by rw [upd_ne (at_ne ha q exo_frz), upd_ne (ne_of_none q hnd)]; exact q
    tbls := fun b ps q => ⟨#[], by rw [upd_ne (at_ne ha q exo_tbl), upd_ne (ne_of_none q hnd), q]; simp⟩ }, fun b o q => ?_, rfl, q dx hnd dne⟩
  by_cases hb : b = a
  · subst hb
    rw [upd_same] at q
    cases q
    exact exo_ok hx
  · rw [upd_ne hb] at q
    by_cases hd : b = dx
    · subst hd
      rw [upd_same] at q
      cases q
      exact exd_ok hn (relO_put (fs := []) ry fun g => True.intro)
    · rw [upd_ne hd] at q
      exact (e0.hok b o q).stay (fun c v hc z => up c v (by
          rcases hc with hc | hc
          · rw [hc]
            exact hb
          · exact at_ne ha hc exo_own) z)
        (fun c hc => by rw [upd_ne (at_ne ha hc exo_own), upd_ne (ne_of_none hc hnd)]; exact hc) (fun c xs hc => by rw [upd_ne (at_ne ha hc exo_tup), upd_ne (ne_of_none hc hnd)]; exact hc)
end
end L4
namespace L4
open PySem PySem.Spec PyProof.Rows L2
structure PSup (P : Program) (file : Str) : Prop where
  file : (P.main.file == file) = true
  top : (P.main.scope.names.lookup ("super" : Str)).isSome = false
def OiBind (x : Str) : Prop := ∀ (fd : FuncData) (p1 p2 : Pos), fd.params = ⟨[], [⟨("self" : Str), none, p1⟩, ⟨x, none, p2⟩], none, [], [], none, []⟩ → fd.defaults = .none → fd.kwdefaults = .none → ∀ us : List Value, us.length = 2 → bindArgs fd ⟨us, []⟩ = pure ((["self", x] : List Str).zip us)
theorem bind_word : OiBind "word" := fun fd p1 p2 h1 h2 h3 us hl => by
  obtain ⟨n1, n2, n3, n4, n5, n6, n7, n8, n9, n10, n11, n12, n13, n14, n15⟩ := fd
  dsimp only at h1 h2 h3
  subst h1 h2 h3
  match us, hl with
  | [a, b], _ => rfl
theorem bind_at : OiBind "at" := fun fd p1 p2 h1 h2 h3 us hl => by
  obtain ⟨n1, n2, n3, n4, n5, n6, n7, n8, n9, n10, n11, n12, n13, n14, n15⟩ := fd
  dsimp only at h1 h2 h3
  subst h1 h2 h3
  match us, hl with
  | [a, b], _ => rfl
structure OiC (P : Program) (K : PySem.W.Frag) (c w : Str) : Prop where
  k : OiK P K (He.ga K c) w
  x : XcC K (He.ga K c)
  ex : ∃ f fd x, OiF P K (He.ga K c) f x w fd ∧ PySem.W.findIn K (.ref (He.ga K c)) "__init__" = some (some (.ref f)) ∧ PySem.W.typeIn K (.ref f) = some (.type "function") ∧ Binds K fd ["self", x] []
theorem oiShape_ok {x w : Str} {b : List Stmt} (h : oiShape x w b = true) : ∃ p0 p1 p2 p3 p4 p5 p6 p7 p8 p9, b = [.Expr (.Call (.Attribute (.Call (.Name "super" p0) [] [] p1) "__init__" p2) [.Name x p3] [] p4) p5, .Assign [.Attribute (.Name "self" p6) w p7] (.Name x p8) p9] ∧ (p2.endLine == p4.line) = true := by
  unfold oiShape at h
  split at h
  · simp only [Bool.and_eq_true, beq_iff_eq] at h
    obtain ⟨rfl, rfl, rfl, rfl, rfl, h6, h7⟩ := h
    subst h6
    exact ⟨_, _, _, _, _, _, _, _, _, _, rfl, by rw [h7]; exact beq_self_eq_true _⟩
  · cases h
theorem oiParams_ok {x : Str} {a : Arguments} (h : oiParams x a = true) : ∃ p1 p2, a = ⟨[], [⟨("self" : Str), none, p1⟩, ⟨x, none, p2⟩], none, [], [], none, []⟩ := by
  unfold oiParams at h
  split at h
  · simp only [Bool.and_eq_true, beq_iff_eq] at h
    obtain ⟨rfl, rfl⟩ := h
    exact ⟨_, _, rfl⟩
  · cases h
theorem oiClo_ok {K : PySem.W.Frag} {C : Addr} {l : List (Str × Addr)} (h : oiClo K C l = true) : ∃ cc cl cld csl, l = [(("__class__" : Str), cc)] ∧ K.lookup cc = some ⟨cl, cld, .cell (some (.ref C)), csl⟩ := by
  unfold oiClo at h
  split at h
  · next n cc =>
    simp only [Bool.and_eq_true, beq_iff_eq] at h
    obtain ⟨rfl, h⟩ := h
    split at h
    · next e =>
      have h := eq_of_beq h
      subst h
      exact ⟨_, _, _, _, rfl, e⟩
    · cases h
  · cases h
theorem oiCode_ok {K : PySem.W.Frag} {file : Str} {v : Value} (h : oiCode K file v = true) : ∃ cda ccl cdd vs ccs tf, v = .ref cda ∧ K.lookup cda = some ⟨ccl, cdd, .fields vs, ccs⟩ ∧ vs[2]? = some (.str file tf) := by
  unfold oiCode at h
  split at h
  · split at h
    · next e =>
      split at h
      · next e2 =>
        have h := eq_of_beq h
        subst h
        exact ⟨_, _, _, _, _, _, rfl, e, e2⟩
      · cases h
    · cases h
  · cases h
theorem noneB_ok {v : Value} (h : noneB v = true) : v = .none := by
  unfold noneB at h
  split at h
  · rfl
  · cases h
theorem oiFd_ok {P : Program} {K : PySem.W.Frag} {C f : Addr} {x w file : Str} {fd : FuncData} (S : PSup P file) (B : OiBind x) (hl : ∃ oc od osl, K.lookup f = some ⟨oc, od, .func fd, osl⟩) (h : oiFd K C x w file fd = true) : OiF P K C f x w fd ∧ Binds K fd ["self", x] [] := by
  unfold oiFd at h
  simp only [Bool.and_eq_true, decide_eq_true_eq, Bool.not_eq_true', List.all_eq_true] at h
  obtain ⟨h1, h2, h3, h4, h5, h6, h7, h8, h9, h10, h11, h12, h13, h14, h15, h16, h17, h18, h19⟩ := h
  obtain ⟨p1, p2, hp⟩ := oiParams_ok h2
  split at h1
  · next b hb =>
    obtain ⟨q0, q1, q2, q3, q4, q5, q6, q7, q8, q9, e, eq⟩ := oiShape_ok h1
    obtain ⟨cda, ccl, cdd, vs, ccs, tf, e1, e2, e3⟩ := oiCode_ok h4
    exact ⟨⟨hl, ⟨q0, q1, q2, q3, q4, q5, q6, q7, q8, q9, by rw [hb, e], eq⟩, ⟨_, by rw [hp]; rfl, rfl⟩, oiClo_ok h3, ⟨cda, ccl, cdd, vs, ccs, file, tf, e1, e2, e3, S.file⟩, h5, h6, h7, h8, h9, h10, h11, h12, h13, h14, h15, h16, h17⟩,
      Binds.all fun us hu => B fd p1 p2 hp (noneB_ok h18) (noneB_ok h19) us hu⟩
  · cases h1
theorem oiCls_ok {K : PySem.W.Frag} {C : Addr} (q : oiCls K C = true) : ∃ nm q N bs bm sn sub ab col dd k0 k1 k2 k3 k5, K.lookup C = some (excClassObj nm q C N bs bm true sn sub ab col dd k0 k1 k2 k3 k5 "ValueError.__new__") ∧ PySem.HandSPX.refsVE bm = true := by
  unfold oiCls at q
  split at q
  · rename_i dd cd sl ho
    split at q
    · rename_i C' bm k0 k1 k2 k3 n k5 hm hs
      simp only [Bool.and_eq_true, beq_iff_eq, Bool.not_eq_true'] at q
      obtain ⟨⟨⟨⟨rfl, rfl⟩, hdel⟩, hdi⟩, ht⟩ := q
      obtain ⟨nm, bs, mro, ns, qn, hd, sn, sub, ab, col, del⟩ := cd
      dsimp only at hm hdel hdi
      subst hm hdel hdi
      have hsl : sl = #[k0, k1, k2, k3, some (.builtin "ValueError.__new__"), k5] := by
        obtain ⟨l⟩ := sl
        simp only at hs
        rw [hs]
      subst hsl
      exact ⟨nm, qn, ns, bs, bm, sn, sub, ab, col, dd, k0, k1, k2, k3, k5, ho, ht⟩
    · cases q
  · cases q
theorem oiC_ok {P : Program} {K : PySem.W.Frag} {c x w file : Str} (S : PSup P file) (B : OiBind x) (h : oiB K c x w file = true) : OiC P K c w := by
  unfold oiB at h
  split at h
  · next f hf =>
    simp only [Bool.and_eq_true, decide_eq_true_eq] at h
    obtain ⟨h1, h2, h3, h4, h5, h6, h7, h8, h9, h10, h11, h12⟩ := h
    have X := xcB_ok h12
    split at h2
    · next lk =>
      obtain ⟨g1, g2⟩ := oiFd_ok S B ⟨_, _, _, lk⟩ h2
      exact ⟨⟨⟨oiCls_ok h3, He.eqO_ok h4, X.ex, X.ty, X.kp⟩, He.eqO_ok h5, He.eqO_ok h6, He.eqO_ok h7, He.eqO_ok h8, h9, h10, h11, S.top⟩, X, f, _, x, g1, hf, h1, g2⟩
    · cases h2
  · cases h
end L4
namespace L4
open PySem PySem.Spec PyProof.Rows L2
def yRaise1 (c w : Str) (a : AF) : SX := fun ρ m => bd (a ρ m) fun xs m1 => match xs with
  | [d] => some (.ex ⟨c, [w], [d]⟩ ρ, m1)
  | _ => none
section
variable {X : Cx} {pos : Pos}
theorem dy_raise1 {c w : Str} {e : Expr} {a : AF} {p p' : Pos} (hc : X.calm = true) (h : OiC X.prog X.K c w) (gd : Gd 2 X) (hg : Gl X c) (hm : X.mg c = some (.ref (He.ga X.K c))) (ha : DA X.nox [e] a) (hdb : (c == ("__debug__" : Str)) = false := by decide)
    (he : starEach [e] X.env = (false, eval e X.env) :: starEach [] X.env := by rfl) (hpl : (backTo pos (starEach [] X.env)).any (·.1) = false := by rfl) : DY X (.Raise (some (.Call (.Name c p) [e] [] pos)) none p') (yRaise1 c w a) := by
  obtain ⟨ta, pa, ra⟩ := ha.ex
  obtain ⟨f, fd, x, FF, iC, tI, hb⟩ := h.ex
  have F1 : FnOk X.prog X.w X.K X.mg X.base CX0 (0 + 1) f fd ["self", x] (spI (He.ga X.K c) w) := oi_fn FF h.k
  refine ⟨fun W tk => (ps_raise hc tk (pmk_oex (CX := CX0) (k := 1) (ds := []) (dvs := []) h.k.ox iC tI F1 gd.r hb .nil (fun _ _ _ _ _ _ _ z => z.elim) hg hm pa.nox hdb he hpl)).imp fun D σ H hw => ?_⟩
  obtain ⟨T, ρ, m, z, m', hm', hs, hf, k⟩ := hw
  obtain ⟨xs, m1, e1, hf⟩ := bd_some hf
  split at hf
  · next d =>
    cases hf
    refine ra T σ H ρ m [d] _ hm' hs e1 _ fun vs T1 H1 l1 hm1 r1 => ?_
    obtain ⟨v, rfl, rv⟩ := r1.one
    refine ⟨by simp, fun a0 na => ⟨a0, v, rfl, upd_same, fun dx hdx hne => ⟨rfl, dx, [(w, v)], upd_same, by rw [upd_ne hne, upd_same], ?_, ?_⟩⟩⟩
    · rwa [upd_ne hne] at hdx
    · rw [upd_ne hne] at hdx
      have eq : upd (del (upd (upd (upd H1 a0 (exo a0 (He.ga X.K c) none)) dx (exd dx [(w, v)])) a0 (exo a0 (He.ga X.K c) (some dx))) a0) dx (.xd [(w, v)]) = upd H1 dx (.xd [(w, v)]) := by
        funext b
        by_cases hb : b = dx
        · rw [hb, upd_same, upd_same]
        · rw [upd_ne hb, upd_ne hb]
          by_cases ha : b = a0
          · rw [ha, del_same, na]
          · rw [del_ne ha, upd_ne ha, upd_ne hb, upd_ne ha]
      rw [eq]
      obtain ⟨l2, hm2⟩ := hm1.grow (H1 := upd H1 dx (.xd [(w, v)])) fun b u e => by
        rw [upd_ne (fun z => by rw [z, hdx] at e; cases e)]
        exact e
      exact k _ _ σ T1 _ (l1.trans l2) hm2 ((hs.le l1).le l2) ⟨rfl, .inr ⟨dx, [(w, v)], rfl, hm1.nope hdx, upd_same, rfl, .cons (rv.le l2) .nil⟩⟩
  · cases hf
end
end L4
namespace L4
open PySem PySem.Spec PyProof.Rows L2
section
variable {X : Cx} {g : G} {pos p : Pos} {e : Expr} {es : List Expr} {k n : Nat} {x c : Str}
theorem FnG.makeX {C f : Addr} {fd : FuncData} {ps : List Str} {sp : Sp} (Mk : Mk X.K C f) (F : FnG X.prog X.w X.K X.mg X.base (L2.CX X.prog X.w) k f fd ps sp) (gd : Gd (k + 1) X) (hb : Binds X.K fd ps []) :
    CallRX X (.ref C) fun vs H Q E => ∀ x dx, H x = none → H dx = none → dx ≠ x → sp (.ref x :: vs) (upd (upd H dx (.own x)) x (.ins C dx [])) (fun v H2 => v = .non ∧ Q (.ref x) H2) E := by
  intro W tk pins s σ H vs us Q I r h
  have hq := h (s.heap.objs.size + 1) s.heap.objs.size (I.hok.fresh (Nat.le_succ _)) (I.hok.fresh (Nat.le_refl _)) (Nat.ne_of_lt (Nat.lt_succ_self _))
  have I2 := Inv.made (C := C) I
  have r2 : Vals (V.ref (s.heap.objs.size + 1) :: vs) (Value.ref (s.heap.objs.size + 1) :: us) := .cons rfl r
  have hl : (Value.ref (s.heap.objs.size + 1) :: us ++ []).length = ps.length := by
    rw [List.append_nil, ← r2.length]
    exact F.len _ _ _ _ hq
  have hg : (X.A.under (.builtin "type.__call__" ⟨.ref C :: us, []⟩)).guards = some [] := by
    have := gd.g
    have e : (Code.builtin "type.__call__" ⟨.ref C :: us, []⟩).guards = [] := by simp [Code.guards, Code.isGuard, guardIds]
    simp [Around.under, e, pushGuards, this]
  have b := hb _ (Value.ref (s.heap.objs.size + 1) :: us) I2.kIn hl
  rw [List.append_nil] at b
  refine wpAny_call (make_map (f := f) I.kIn Mk.makes Mk.init (beq_iff_eq.mp Mk.fn) (codeAny_mono (F.run _ X.stack _ _ _ _ _ _ _ hg (gd.r.make C us []) (I2.env0.make C us []) b r2 hq) fun res s' hres => ?_))
  match res, hres with
  | .error e, z => exact tk e s' (XE.of_call I2 (fun _ _ _ z => z) z)
  | .ok (.ret u), z =>
    obtain ⟨v, H', I3, rv, ev, q3⟩ := I2.after z
    cases ev
    exact ⟨rv, V.ref (s.heap.objs.size + 1), H', I3, rfl, q3⟩
def newPX (c : Str) (F : List D → M → Option (Rv × M)) (ds : List D) : Option Rv := match F (.ref 0 :: ds) [.ins c [] []] with
  | some (.ok .non, m) => (frz m (.ref 0)).map .ok
  | some (.ex x, m) => (xnF m x).map .ex
  | _ => none
def pureCX (F : List D → Option Rv) (_ : M) (ds : List D) : Option Rv := if pureL ds then F ds else none
theorem rf_newPX {F : List D → M → Option (Rv × M)} (hn : ∀ ds m r, F ds m = some r → ds.length = n) :
    RfCX g (fun vs H Q E => ∀ x dx, H x = none → H dx = none → dx ≠ x → spMX g n F (.ref x :: vs) (upd (upd H dx (.own x)) x (.ins (He.ga g.K c) dx [])) (fun v H2 => v = .non ∧ Q (.ref x) H2) E) (pureCX (newPX c F)) := by
  intro T H m xs vs z hm r hf Q E k x dx hx hdx hne
  obtain ⟨hp, hf⟩ := ite_some hf
  have up : ∀ a u, H a = some u → upd (upd H dx (.own x)) x (.ins (He.ga g.K c) dx []) a = some u := fun a u e => by
    rw [upd_ne (ne_of_none e hx), upd_ne (ne_of_none e hdx)]; exact e
  have nx : x ∉ T.ν := hm.nope hx
  let Tc : Tk := ⟨[x], x :: T.ν, [], (fun a h => by rw [List.mem_singleton.mp h]; exact List.mem_cons_self ..), (fun _ h => nomatch h)⟩
  obtain ⟨l1, hm1⟩ := hm.grow up
  have hmc : RepH g Tc (upd (upd H dx (.own x)) x (.ins (He.ga g.K c) dx [])) [.ins c [] []] := by
    refine ⟨rfl, by simp [Tc], fun a ha => ?_, fun i a o h1 h2 => ?_, (fun p h => nomatch h)⟩
    · rcases List.mem_cons.mp ha with rfl | z
      · exact ⟨_, upd_same, trivial⟩
      · exact hm1.has a z
    · cases i with
      | zero => cases h1; cases h2; exact .ins upd_same rfl .nil
      | succ i => cases h2
  have rx : RepL g (T0 T.ν) H xs vs := RepL.pure (fun _ h => h) _ hp r
  have rc : RepL g Tc (upd (upd H dx (.own x)) x (.ins (He.ga g.K c) dx [])) xs vs := by
    have l0 : Le (T0 T.ν) H ⟨[], x :: T.ν, [], (fun a h => nomatch h), (fun _ h => nomatch h)⟩ (upd (upd H dx (.own x)) x (.ins (He.ga g.K c) dx [])) := ⟨List.prefix_rfl, fun a u e _ _ => up a u e, rfl, (fun p h => nomatch h), fun a ha n => by
      rcases List.mem_cons.mp ha with rfl | z
      · exact hx
      · exact absurd z n, fun a h n => (nomatch h), fun a h => List.mem_cons_of_mem _ h⟩
    exact RepL.lift (T := Tc) _ (rx.le l0)
  have far : ∀ {T2 : Tk} {H2 : Hp}, Le Tc (upd (upd H dx (.own x)) x (.ins (He.ga g.K c) dx [])) T2 H2 → ∀ a ∈ T2.μ, a ∉ T.ν := fun {T2 H2} l2 a h z => by
    by_cases ha : a ∈ Tc.μ
    · rw [List.mem_singleton.mp ha] at z; exact nx z
    · obtain ⟨u, e, _⟩ := hm1.has a z
      rw [l2.newμ a h ha] at e
      cases e
  have upH : ∀ {T2 : Tk} {H2 : Hp}, Le Tc (upd (upd H dx (.own x)) x (.ins (He.ga g.K c) dx [])) T2 H2 → ∀ a u, H a = some u → H2 a = some u := fun {T2 H2} l2 a u e => l2.keep a u (up a u e) (fun z => by
    rw [List.mem_singleton.mp z] at e
    rw [hx] at e
    cases e) (fun _ h => nomatch h)
  unfold newPX at hf
  split at hf
  · next m2 hF =>
    obtain ⟨d, h1, rfl⟩ := Option.map_eq_some_iff.mp hf
    refine ⟨by have := hn _ _ _ hF; rw [← this]; simp [r.length], Tc, _, .ref 0 :: xs, .ok .non, m2, hmc, .cons (.ref rfl) rc, hF, fun v T2 H2 l2 hm2 rv => ?_⟩
    cases rv
    refine ⟨rfl, ?_⟩
    obtain ⟨l3, hm3⟩ := hm.grow (upH l2)
    have rz : Rep g T2 H2 (.ref 0) (.ref x) := .ref (l2.get (n := 0) rfl)
    exact k _ T H2 l3 hm3 (Rep.lift _ (frz_ok hm2 (ν := T.ν) (fun a h => l2.up a (List.mem_cons_of_mem _ h)) (far l2) h1 rz))
  · next y m2 hF =>
    obtain ⟨d, h1, rfl⟩ := Option.map_eq_some_iff.mp hf
    refine ⟨by have := hn _ _ _ hF; rw [← this]; simp [r.length], Tc, _, .ref 0 :: xs, .ex y, m2, hmc, .cons (.ref rfl) rc, hF, fun cls dd T2 H2 l2 hm2 xr => ?_⟩
    obtain ⟨l3, hm3⟩ := hm.grow (upH l2)
    exact k cls dd T H2 l3 hm3 (XRep.lift (xnF_ok hm2 (ν := T.ν) (fun a h => l2.up a (List.mem_cons_of_mem _ h)) (far l2) h1 xr))
  · cases hf
theorem dx_newX {F : List D → M → Option (Rv × M)} {a : AF} (hF : MNx X.prog X.w X.K X.mg X.base k c n F) (gd : Gd (k + 1) X) (hg : Gl X c) (ha : DA X.nox (e :: es) a) (hdb : (c == ("__debug__" : Str)) = false := by decide)
    (he : starEach (e :: es) X.env = (false, eval e X.env) :: starEach es X.env := by rfl) (hpl : (backTo pos (starEach es X.env)).any (·.1) = false := by rfl) : DX X (.Call (.Name c p) (e :: es) [] pos) (eCallX (pureCX (newPX c F)) a) := by
  obtain ⟨fa, fd, ps, G, M, b⟩ := hF.ex
  exact dx_callG (rf_newPX hF.len) (fun W t tk pa => pe_callX (G.makeX M gd b) tk hg hF.mgC M.kp pa hdb he hpl) ha
end
end L4
namespace L4
open PySem PySem.Spec PyProof.Rows L2
theorem newP_rx {c : Str} {F : List D → M → Option (D × M)} {G : List D → M → Option (Rv × M)} (h : RxM F G) : RxP (newP c F) (newPX c G) := fun ds d e => by
  unfold newP at e
  unfold newPX
  split at e
  · next m hF =>
    rw [h _ _ _ _ hF]
    show (frz m (.ref 0)).map _ = _
    rw [e]
    rfl
  · cases e
end L4
namespace L4
open PySem PySem.Spec PyProof.Rows L2
structure EntX (X : Cx) (x : Str) (G : M → List D → Option Rv) : Prop where
  ex : ∃ r, X.mg x = some (.ref (He.ga X.K x)) ∧ PySem.W.keepIn X.K (.ref (He.ga X.K x)) = true ∧ CallRX X (.ref (He.ga X.K x)) r ∧ RfCX (gx X) r G
inductive TabY (X : Cx) : List (Str × (M → List D → Option Rv)) → Prop
  | nil : TabY X []
  | cons {x F tb} : EntX X x F → TabY X tb → TabY X ((x, F) :: tb)
theorem TabY.get {X : Cx} {y : Str} {tb : List (Str × (M → List D → Option Rv))} {F : M → List D → Option Rv} (h : TabY X tb) (e : tb.lookup y = some F) : EntX X y F := by
  induction h with
  | nil => cases e
  | @cons y G tb p t ih =>
    rw [List.lookup_cons] at e
    split at e
    · next hb =>
      cases e
      have := eq_of_beq hb
      subst this
      exact p
    · exact ih e
/-- a def with a default that may raise -/
structure PFxd (P : Program) (w : World) (K : PySem.W.Frag) (mg : Str → Option Value) (base : Heap) (k : Nat) (x : Str) (n : Nat) (F : List D → Option Rv) : Prop where
  fn : PFx P w K mg base k x n F
  df : ∃ f fd ps a ds, FnG P w K mg base (L2.CX P w) k f fd ps (spPX ⟨P, w, K⟩ n F) ∧ mg x = some (.ref f) ∧ PySem.W.keepIn K (.ref f) = true ∧ Vals [.ref a] ds ∧ Binds K fd ps ds ∧ ∀ H, SqT K H a []
section
variable {P : Program} {w : World} {K : PySem.W.Frag} {mg : Str → Option Value} {base : Heap} {k j : Nat} {x q : Str} {ps N : List Str} {st : Stmt} {b : SX}
theorem PFxd.more {n : Nat} {F : List D → Option Rv} (h : PFxd P w K mg base j x n F) (l : j ≤ k) : PFxd P w K mg base k x n F := by
  obtain ⟨f, fd, ps, a, ds, G, r⟩ := h.df
  exact ⟨h.fn.more l, f, fd, ps, a, ds, G.more l, r⟩
end
end L4
namespace L4
open PySem PySem.Spec PyProof.Rows L2
theorem _root_.L2.PI.nox {X : Cx} {tg iter : Expr} {wi : TI} (h : PI X.nox tg iter wi) : PI X tg iter wi := ⟨fun pins s σ H R I hw =>
  wpAny_mono (h.run pins s σ H R (I.wish _) hw) (fun v s1 q => wpAny_mono q (fun itv s2 ⟨it, fp, tn, J, H', e, I2, T, st, f, r⟩ => ⟨it, fp, tn, J, H', e, I2.unwish, T, st, f, r⟩) fun _ _ z => False.elim z) fun _ _ z => False.elim z⟩
section
variable {X : Cx} {g : G} {T T' : Tk} {H : Hp} {m : M} {Q : VK} {pos p apos : Pos} {e o : Expr}
def isiTA2 (cs : List Str) (m : M) (xs : List D) : Option D := match isiD m xs with
  | some d => some d
  | none => match xs with
    | [x, .tup [.ty t, .ty t']] => if kinds.contains t && kinds.contains t' then match insOf m x with
      | some (c, _, _) => if cs.contains c then some (.bl false) else none
      | none => none
      else none
    | _ => none
theorem call_isiTA2 {cs : List Str} (A : ItA X.K cs) : CallD X (.builtin "isinstance") (isiTA2 cs) := by
  obtain ⟨r0, c0, q0⟩ := (call_isi' (X := X)).ex
  refine ⟨_, orC c0 (orC call_isiR call_isiK), fun T H m xs vs d hm r hf Q k => ?_⟩
  unfold isiTA2 at hf
  split at hf
  · next d2 h2 =>
    cases hf
    exact .inl (q0 T H m xs vs d hm r h2 Q k)
  · split at hf
    · next z t t' _ =>
      obtain ⟨ht, hf⟩ := ite_some hf
      obtain ⟨ht1, ht2⟩ := and2 ht
      obtain ⟨v, w, rfl, q1, q2⟩ := r.two
      split at hf
      · next c1 n1 w1 h1 =>
        obtain ⟨hc, hf⟩ := ite_some hf
        cases hf
        obtain ⟨a, dx, fs, rfl, ea, _, _⟩ := ins_rep hm q1 h1
        obtain ⟨N, hk⟩ := A c1 (by simpa using hc)
        have ty : TyX X.K H (.ref a) (.ref (He.ga X.K c1)) := .base (.ins ea N.cl N.ha N.hn N.htk N.hm)
        have key : PySem.W.kitAny X.K (.ref (He.ga X.K c1)) [.type t, .type t'] = some false := by
          unfold PySem.W.kitAny
          rw [hk _ (by simpa using ht1)]
          show PySem.W.kitAny _ _ _ = _
          unfold PySem.W.kitAny
          rw [hk _ (by simpa using ht2)]
          rfl
        cases q2 with
        | tup f rl =>
          obtain ⟨v1, v2, rfl, z1, z2⟩ := rl.two
          cases z1; cases z2
          rcases f with ⟨_, f⟩ | f
          · exact .inr (.inl ⟨_, _, _, _, _, _, rfl, f, .cons (.ty _) (.cons (.ty _) .nil), ty, key, k.now hm (.bl false)⟩)
          · rcases f with (f | ⟨_, f⟩) | ⟨⟨cl, dd, dt, sl⟩, its, n, h5, h6, h7, _, h8⟩
            · cases f
            · cases f
            · simp only at h6 h7
              subst h6 h7
              have e : its = #[.type t, .type t'] := by
                cases hi : its.toList with
                | nil => rw [hi] at h8; cases h8
                | cons a b =>
                  rw [hi] at h8
                  cases h8 with
                  | cons y1 y2 =>
                    cases y2 with
                    | cons y3 y4 =>
                      cases y4
                      cases (show a = Value.type t from y1)
                      cases (show _ = Value.type t' from y3)
                      exact Array.ext' hi
              subst e
              exact .inr (.inr ⟨_, _, dd, [.type t, .type t'], n, sl, _, _, rfl, h5, ty, key, k.now hm (.bl false)⟩)
      · cases hf
    · cases hf
end
end L4
namespace L4
open PySem PySem.Spec PyProof.Rows L2
section
variable {X : Cx} {g : G} {T T' : Tk} {H : Hp} {m : M} {Q : VK} {pos p apos : Pos} {e o : Expr} {es : List Expr} {k n : Nat} {x c nm : Str} {f : Addr} {r : List V → Hp → VK → XK → Prop}
abbrev tMthX (C : Addr) (m : Str) (r : List V → Hp → VK → XK → Prop) (W : WX) (ta : TE) (t : TA) : TE := fun σ H Q => ta σ H fun x H1 => ∃ a dx fs, x = .ref a ∧ H1 a = some (.ins C dx fs) ∧ fs.lookup m = none ∧ t σ H1 fun vs H2 => r (x :: vs) H2 Q (fun c d H' => W c d σ H')
theorem pe_mthX {pl : Sem Bool} {C : Addr} {W : WX} {ta : TE} {t : TA} (hc : CallRX X (.ref f) r) (tk : Takes X W) (he : PE X o ta) (cl : Cls X.K C) (hm : Meth X.K C nm f) (ha : PA X (e :: es) t)
    (hst : starEach (e :: es) X.env = (false, eval e X.env) :: starEach es X.env := by rfl) (hpl : (backTo pos (starEach es X.env)).any (·.1) = false := by rfl)
    (ht : eval (.Call (.Attribute o nm apos) (e :: es) [] pos) X.env = (do
      let ov ← eval o X.env
      standAt apos.atName
      let (f, first) ← holding [ov] (getMethod ov nm pl)
      callWith pos f first (backTo pos (starEach (e :: es) X.env)) (backToKw pos (keywordEach [] X.env))) := by rfl) :
    PE X (.Call (.Attribute o nm apos) (e :: es) [] pos) (tMthX C nm r W ta t) := by
  refine ⟨fun pins s σ H Q I h => PySem.W.methodCall_KW (pl := pl) (thn (he.run pins s σ H _ I h) fun u s1 ⟨x, H1, I1, rx, a, dx, fs, ex, ea, l, q⟩ => ?_) ht⟩
  cases ex
  cases rx
  refine getmeth_ok I1 ea cl hm l (PySem.W.callWith_K (first := [.ref a]) (h₀ := X.base) I.ok.mod.kin hm.kp (thn (ha.run pos pins s1 σ H1 _ I1 q) fun us s2 ⟨vs, H2, I2, rv, q2⟩ => ⟨I2.kIn, ?_⟩) hst hpl)
  exact hc W tk pins s2 σ H2 (.ref a :: vs) (.ref a :: us) Q I2 (.cons rfl rv) q2
def eMthX (c nm : Str) (F : M → List D → Option Rv) (o : EF) (a : AF) : EX := fun ρ m => bd (o ρ m) fun x m1 => match insOf m1 x with
  | some (c', ns, _) => if c' = c ∧ ns.contains nm = false then bd (a ρ m1) fun xs m2 => (F m2 (x :: xs)).map (·, m2) else none
  | none => none
theorem dx_pmx {pl : Sem Bool} {F : List D → Option Rv} {fo : EF} {a : AF} (hF : PMx X.prog X.w X.K X.mg X.base k c nm n F) (gd : Gd k X) (ho : DE X.nox o fo) (ha : DA X.nox (e :: es) a)
    (hst : starEach (e :: es) X.env = (false, eval e X.env) :: starEach es X.env := by rfl) (hpl : (backTo pos (starEach es X.env)).any (·.1) = false := by rfl)
    (ht : eval (.Call (.Attribute o nm apos) (e :: es) [] pos) X.env = (do
      let ov ← eval o X.env
      standAt apos.atName
      let (f, first) ← holding [ov] (getMethod ov nm pl)
      callWith pos f first (backTo pos (starEach (e :: es) X.env)) (backToKw pos (keywordEach [] X.env))) := by rfl) :
    DX X (.Call (.Attribute o nm apos) (e :: es) [] pos) (eMthX c nm (callPX F) fo a) := by
  obtain ⟨fa, fd, ps, G, hm, b⟩ := hF.ex
  obtain ⟨t, pa, ra⟩ := ha.ex; obtain ⟨to, po, ro⟩ := ho.ex
  refine ⟨fun W tk => (pe_mthX (appX_nil (G.callX gd b .nil)) tk po.nox hF.cl hm pa.nox hst hpl ht).imp fun σ H Q hw => ?_⟩
  obtain ⟨T, ρ, m, z, m', hm, hs, hf, k⟩ := hw
  obtain ⟨x, m1, e1, hf⟩ := bd_some hf
  refine ro T σ H ρ m x m1 hm hs e1 _ fun v T1 H1 l1 hm1 r1 => ?_
  split at hf
  · next c' ns vs hi =>
    obtain ⟨⟨ec, hc⟩, hf2⟩ := ite_some hf
    subst ec
    obtain ⟨xs, m2, e2, hf⟩ := bd_some hf2
    obtain ⟨z1, e3, e4⟩ := Option.map_eq_some_iff.mp hf
    cases e4
    obtain ⟨a, dx, fs, rfl, ea, en, _⟩ := ins_rep hm1 r1 hi
    refine ⟨a, dx, fs, rfl, ea, lookup_none (by rw [en]; exact hc), ra T1 σ H1 ρ m1 xs _ hm1 (hs.le l1) e2 _ fun ws T2 H2 l2 hm2 r2 => ?_⟩
    exact rf_callPX hF.len T2 H2 _ (x :: xs) (.ref a :: ws) z hm2 (.cons (r1.le l2) r2) e3 Q _ (k.le (l1.trans l2))
  · cases hf
theorem rx_fldM {cs : List Str} {f : Str} {o v : EF} {y : EX} (h : RxE v y) : RxS (sFldM cs f o v) (yAsg y (gFldM cs f o)) := fun ρ m r m' e => by
  obtain ⟨d, m1, e1, e⟩ := bd_some e
  obtain ⟨x, m2, e2, e⟩ := bd_some e
  show bdY ρ (y ρ m) _ = _
  rw [h _ _ _ _ e1]
  show bd (gFldM cs f o d ρ m1) _ = _
  unfold gFldM
  rw [e2, bd_go]
  split at e
  · next n =>
    split at e
    · next c ns vs hi =>
      obtain ⟨hc, e⟩ := ite_some e
      cases e
      try dsimp only
      try rw [hi]
      try dsimp only
      rw [if_pos hc]
      rfl
    · cases e
  · cases e
end
end L4
namespace L4
open PySem PySem.Spec PyProof.Rows L2
end L4
namespace L4
open PySem PySem.Spec PyProof.Rows L2
end L4
namespace L4
open PySem PySem.Spec PyProof.Rows L2 PySem.W
end L4
namespace L4
open PySem PySem.Spec PyProof.Rows L2
end L4
namespace L4
open PySem PySem.Spec PyProof.Rows L2
structure MNxd (P : Program) (w : World) (K : PySem.W.Frag) (mg : Str → Option Value) (base : Heap) (k : Nat) (c : Str) (n : Nat) (F : List D → M → Option (Rv × M)) : Prop where
  fn : MNx P w K mg base k c n F
  df : ∃ f fd ps a ds, FnG P w K mg base (L2.CX P w) k f fd ps (spMX ⟨P, w, K⟩ n F) ∧ Mk K (He.ga K c) f ∧ Vals [.ref a] ds ∧ Binds K fd ps ds ∧ ∀ H, SqT K H a []
section
variable {P : Program} {w : World} {K : PySem.W.Frag} {mg : Str → Option Value} {base : Heap} {k : Nat} {g x q c : Str} {ps N : List Str} {st : Stmt} {b : SX}
theorem mnxd_ki (D : KiD K mg c (He.ga K c) q st) (S : FnScope N ps (defScope st)) (h1 : 1 ≤ ps.length) (hb : BindD "__init__" q st ps ps.length 1) (hb2 : BindD "__init__" q st ps (ps.length - 1) 0) (h : BodyX P w K mg base k N q st b) : MNxd P w K mg base (k + 1) c ps.length (runMX ps.length N.length b) := by
  obtain ⟨f, fd, a, F, mk, sq⟩ := D.ex
  have G : FnG P w K mg base (L2.CX P w) (k + 1) f fd ps (spMX ⟨P, w, K⟩ ps.length (runMX ps.length N.length b)) := by
    obtain ⟨oc, od, dV, kV, doc, pm, an, cdv, ct, osl, e, lk, hcd, _⟩ := F.ex
    exact fnX_body lk e hcd S (fun vs H Q E h => h.1) (fun vs H Q E h => spMX_run h) (h f cdv)
  obtain ⟨ds, r, B⟩ := F.binds1 (ps := ps) ps.length 1 (by intro z; cases z) rfl hb
  cases r
  obtain ⟨es, r2, B2⟩ := F.binds1 (ps := ps) (ps.length - 1) 0 (by intro z; cases z) (Nat.sub_add_cancel h1) hb2
  exact ⟨⟨fun ds m d h => runMX_len h, D.mgC, f, fd, ps, G, mk, B⟩, f, fd, ps, a, es, G, mk, r2, B2, sq⟩
end
end L4
namespace L4N
open PySem PySem.Spec PyProof.Rows L2 L4
structure PFx (P : Program) (w : World) (K : PySem.W.Frag) (mg : Str → Option Value) (base : Heap) (k : Nat) (x : Str) (n : Nat) (F : List D → Option Rv) : Prop where
  len : ∀ ds d, F ds = some d → ds.length = n
  ex : ∃ f fd ps, FnG P w K mg base (L2N.CX P w) k f fd ps (spPX ⟨P, w, K⟩ n F) ∧ mg x = some (.ref f) ∧ PySem.W.keepIn K (.ref f) = true ∧ Binds K fd ps []
def CallRX (X : Cx) (v : Value) (r : List V → Hp → VK → XK → Prop) : Prop := ∀ W, L2N.Takes X W → ∀ (pins : List (Addr × Obj)) (s : Shared) (σ : L2.St) (H : Hp) (vs : List V) (us : List Value) (Q : VK), Inv X pins σ H s → Vals vs us → r vs H Q (fun c d H' => W c d σ H') →
  wpAny (model X.prog X.w) X.A (call v us) (EP X pins σ Q) X.xe s
section
variable {X : Cx} {k : Nat} {f : Addr} {fd : FuncData} {ps : List Str} {sp : Sp} {ds : List Value} {dvs : List V}
theorem FnG.callX (F : FnG X.prog X.w X.K X.mg X.base (L2N.CX X.prog X.w) k f fd ps sp) (hr : Gd k X) (hb : Binds X.K fd ps ds) (hd : Vals dvs ds) : CallRX X (.ref f) fun vs H Q E => sp (vs ++ dvs) H Q E := by
  intro W tk pins s σ H vs us Q I r h
  have r2 : Vals (vs ++ dvs) (us ++ ds) := r.append hd
  have hl : (us ++ ds).length = ps.length := by rw [← r2.length]; exact F.len _ _ _ _ h
  refine wpAny_call (codeAny_mono (F.run X.A X.stack s H ⟨us, []⟩ (us ++ ds) (vs ++ dvs) Q _ hr.g hr.r I.env0 (hb s us I.kIn hl) r2 h) fun r s' hq => ?_)
  match r, hq with
  | .error e, hq => exact tk e s' (L2N.XE.of_call I (fun _ _ _ z => z) hq)
  | .ok (.ret u), hq => exact I.after hq
variable {r : List V → Hp → VK → XK → Prop} {x : Str} {p pos apos : Pos} {e e' o : Expr} {es : List Expr}
inductive TabX (X : Cx) (k : Nat) : List (Str × (List D → Option Rv)) → Prop
  | nil : TabX X k []
  | cons {x n F tb} : PFx X.prog X.w X.K X.mg X.base k x n F → X.mg x = some (.ref (He.ga X.K x)) → TabX X k tb → TabX X k ((x, F) :: tb)
theorem TabX.get {tb : List (Str × (List D → Option Rv))} {F : List D → Option Rv} (h : TabX X k tb) (e : tb.lookup x = some F) : ∃ n, PFx X.prog X.w X.K X.mg X.base k x n F ∧ X.mg x = some (.ref (He.ga X.K x)) := by
  induction h with
  | nil => cases e
  | @cons y n G tb p q t ih =>
    rw [List.lookup_cons] at e
    split at e
    · next hb =>
      cases e
      have := eq_of_beq hb
      subst this
      exact ⟨n, p, q⟩
    · exact ih e
end
section
variable {P : Program} {w : World} {K : PySem.W.Frag} {mg : Str → Option Value} {base : Heap} {k n : Nat} {x c m : Str} {f : Addr} {fd : FuncData} {ps : List Str}
theorem PFx.more {j : Nat} {F : List D → Option Rv} (h : PFx P w K mg base j x n F) (l : j ≤ k) : PFx P w K mg base k x n F := by
  obtain ⟨f, fd, ps, G, hm, kp, b⟩ := h.ex
  exact ⟨h.len, f, fd, ps, G.more l, hm, kp, b⟩
end
section
variable {X : Cx} {g : G} {pos p : Pos} {e : Expr} {es : List Expr} {k n : Nat} {x c : Str}
theorem FnG.makeX {C f : Addr} {fd : FuncData} {ps : List Str} {sp : Sp} (Mk : Mk X.K C f) (F : FnG X.prog X.w X.K X.mg X.base (L2N.CX X.prog X.w) k f fd ps sp) (gd : Gd (k + 1) X) (hb : Binds X.K fd ps []) :
    CallRX X (.ref C) fun vs H Q E => ∀ x dx, H x = none → H dx = none → dx ≠ x → sp (.ref x :: vs) (upd (upd H dx (.own x)) x (.ins C dx [])) (fun v H2 => v = .non ∧ Q (.ref x) H2) E := by
  intro W tk pins s σ H vs us Q I r h
  have hq := h (s.heap.objs.size + 1) s.heap.objs.size (I.hok.fresh (Nat.le_succ _)) (I.hok.fresh (Nat.le_refl _)) (Nat.ne_of_lt (Nat.lt_succ_self _))
  have I2 := Inv.made (C := C) I
  have r2 : Vals (V.ref (s.heap.objs.size + 1) :: vs) (Value.ref (s.heap.objs.size + 1) :: us) := .cons rfl r
  have hl : (Value.ref (s.heap.objs.size + 1) :: us ++ []).length = ps.length := by
    rw [List.append_nil, ← r2.length]
    exact F.len _ _ _ _ hq
  have hg : (X.A.under (.builtin "type.__call__" ⟨.ref C :: us, []⟩)).guards = some [] := by
    have := gd.g
    have e : (Code.builtin "type.__call__" ⟨.ref C :: us, []⟩).guards = [] := by simp [Code.guards, Code.isGuard, guardIds]
    simp [Around.under, e, pushGuards, this]
  have b := hb _ (Value.ref (s.heap.objs.size + 1) :: us) I2.kIn hl
  rw [List.append_nil] at b
  refine wpAny_call (make_map (f := f) I.kIn Mk.makes Mk.init (beq_iff_eq.mp Mk.fn) (codeAny_mono (F.run _ X.stack _ _ _ _ _ _ _ hg (gd.r.make C us []) (I2.env0.make C us []) b r2 hq) fun res s' hres => ?_))
  match res, hres with
  | .error e, z => exact tk e s' (L2N.XE.of_call I2 (fun _ _ _ z => z) z)
  | .ok (.ret u), z =>
    obtain ⟨v, H', I3, rv, ev, q3⟩ := I2.after z
    cases ev
    exact ⟨rv, V.ref (s.heap.objs.size + 1), H', I3, rfl, q3⟩
end
structure EntX (X : Cx) (x : Str) (G : M → List D → Option Rv) : Prop where
  ex : ∃ r, X.mg x = some (.ref (He.ga X.K x)) ∧ PySem.W.keepIn X.K (.ref (He.ga X.K x)) = true ∧ CallRX X (.ref (He.ga X.K x)) r ∧ RfCX (gx X) r G
inductive TabY (X : Cx) : List (Str × (M → List D → Option Rv)) → Prop
  | nil : TabY X []
  | cons {x F tb} : EntX X x F → TabY X tb → TabY X ((x, F) :: tb)
theorem TabY.get {X : Cx} {y : Str} {tb : List (Str × (M → List D → Option Rv))} {F : M → List D → Option Rv} (h : TabY X tb) (e : tb.lookup y = some F) : EntX X y F := by
  induction h with
  | nil => cases e
  | @cons y G tb p t ih =>
    rw [List.lookup_cons] at e
    split at e
    · next hb =>
      cases e
      have := eq_of_beq hb
      subst this
      exact p
    · exact ih e
structure PFxd (P : Program) (w : World) (K : PySem.W.Frag) (mg : Str → Option Value) (base : Heap) (k : Nat) (x : Str) (n : Nat) (F : List D → Option Rv) : Prop where
  fn : PFx P w K mg base k x n F
  df : ∃ f fd ps a ds, FnG P w K mg base (L2N.CX P w) k f fd ps (spPX ⟨P, w, K⟩ n F) ∧ mg x = some (.ref f) ∧ PySem.W.keepIn K (.ref f) = true ∧ Vals [.ref a] ds ∧ Binds K fd ps ds ∧ ∀ H, SqT K H a []
section
variable {P : Program} {w : World} {K : PySem.W.Frag} {mg : Str → Option Value} {base : Heap} {k j : Nat} {x q : Str} {ps N : List Str} {st : Stmt} {b : SX}
theorem PFxd.more {n : Nat} {F : List D → Option Rv} (h : PFxd P w K mg base j x n F) (l : j ≤ k) : PFxd P w K mg base k x n F := by
  obtain ⟨f, fd, ps, a, ds, G, r⟩ := h.df
  exact ⟨h.fn.more l, f, fd, ps, a, ds, G.more l, r⟩
end
end L4N
namespace L4N
open PySem PySem.Spec PyProof.Rows L2 L4
def offW (i : Nat) (W : WX) : WX := fun cls d σ H => W cls d (σ.set i none) H
end L4N
namespace L4N
open PySem PySem.Spec PyProof.Rows L2 L4
def offRf (i : Nat) (r : Rf) : Rf := match r with
  | .fl r => .fl (offF (some i) r)
  | .ex x ρ => .ex x (offR (some i) ρ)
theorem KQ.off {g : G} {T : Tk} {H : Hp} {m : M} {r : Rf} {D : Ends} {W : WX} {i : Nat} (k : KQ g T H m (offRf i r) D W) : KQ g T H m r (offD (some i) D) (offW i W) := by
  cases r with
  | fl r => exact KF.off (i := some i) k
  | ex x ρ => exact fun cls dd σ T' H' l hm hs xr => k cls dd _ T' H' l hm hs.out xr
end L4N
namespace L4
open PySem PySem.Spec PyProof.Rows L2
end L4
namespace L4
open PySem PySem.Spec PyProof.Rows L2
end L4
namespace L4
open PySem PySem.Spec PyProof.Rows L2 LamX
/-- what stands behind the making of a lambda -/
def LamH (H H1 : Hp) (P : Addr) (q : Str) (c' : Addr) : Prop := (H1 = H ∨ ∃ (ps more : Array Value), H P = some (.tbl ps) ∧ H c' = none ∧ (∃ pos : Pos, more = #[rawInt pos.line, rawInt pos.col, .ref c']) ∧ H1 = upd (upd H P (.tbl (ps ++ more))) c' (CodeO c' q)) ∧ TabS H1 P q ∧ H1 c' = some (CodeO c' q)
section
variable {X : Cx} {pins : List (Addr × Obj)} {σ : L2.St} {H : Hp} {s : Shared}
theorem lam_make3 {c P : Addr} {params : Arguments} {body : Expr} {scope : Scope} {pos : Pos} {E : Value → Shared → Prop} {Q : Value → Shared → Prop} (I : L2.Inv X pins σ H s) (TB : TabB X.base X.mg c P) (hcode : X.env.code = .ref c)
    (hT : TabS H P (X.env.qual ++ "<lambda>")) (hdef : defaultsOf params X.env = ([], [])) (hfree : ∀ y ∈ scope.names, y.2 = .free → ∃ c, X.env.cells.lookup y.1 = some c)
    (h : ∀ (f c' : Addr) (pm ctv : Value) (H1 : Hp) (s' : Shared), L2.Inv X pins σ H1 s' → LamH H H1 P (X.env.qual ++ "<lambda>") c' →
      s'.heap.get? f = some (PySem.W.kla_obj "<lambda>" (X.env.qual ++ "<lambda>") params body scope (cloFrom X.env.cells scope.names []) pm c' ctv) → H1 f = none → f ∉ frs X.stack → Q (.ref f) s') :
    wpAny (model X.prog X.w) X.A (eval (.Lambda params body scope pos) X.env) Q E s := by
  obtain ⟨ps, hP, ht, ha⟩ := id hT
  refine PySem.W.kla_eval hdef ?_
  have bP : s.heap.BuiltinsAt X.mg P := TB.bm.keeps I.bk
  have atP : s.heap.get? P = some { cls := .none, data := .fields ps } := I.hok P _ hP
  have nofr : ∀ f, s.heap.objs.size ≤ f → f ∉ frs X.stack := fun f hf z => by
    rcases List.mem_cons.mp (I.stkSub _ z) with e | e
    · have h1 := I.lt
      rw [← e] at h1
      exact Nat.lt_irrefl _ (Nat.lt_of_lt_of_le h1 hf)
    · exact I.nofs hf e
  cases hc : codeAmong pos ps.toList with
  | some cv =>
    obtain ⟨c', rfl, hco⟩ := ha pos cv hc
    refine PySem.W.kla_makeFunctionHit (mg := X.mg) (c := c) (P := P) (ps := ps) (closure_ok hfree) I.ok.glob (I.mod.glob.keeps I.bk) hcode (TB.code.keeps I.bk) atP ht hc bP fun ctv h' tk hx hsz => ?_
    exact h h'.objs.size c' ((X.mg "__name__").getD .none) ctv H _ (I.kept fun b o e => Heap.get?_push_of_some _ (hx b o e)) ⟨.inl rfl, hT, hco⟩ (Heap.get?_push_size _ rfl) (I.hok.fresh hsz) (nofr _ hsz)
  | none =>
    refine PySem.W.kla_makeFunction (mg := X.mg) (c := c) (P := P) (ps := ps) (closure_ok hfree) I.ok.glob (I.mod.glob.keeps I.bk) hcode (TB.code.keeps I.bk) atP ht hc TB.gP bP fun c' ctv h' tk hx hge hlt hrec htb => ?_
    obtain ⟨c2, oc, vs, t, e2, hoc, hd, hv⟩ := hrec
    cases e2
    have hsz : s.heap.objs.size ≤ h'.objs.size := Nat.le_trans hge (Nat.le_of_lt hlt)
    have nC : H c' = none := I.hok.fresh hge
    have I1 := inv_table (t' := tk) (q := X.env.qual ++ "<lambda>") (more := #[rawInt pos.line, rawInt pos.col, .ref c']) (h' := h'.push (PySem.W.kla_obj "<lambda>" (X.env.qual ++ "<lambda>") params body scope (cloFrom X.env.cells scope.names []) ((X.mg "__name__").getD .none) c' ctv)) I hP
      (fun b o hb e => Heap.get?_push_of_some _ (hx b o hb e)) (Heap.get?_push_of_some _ htb) hge ⟨oc, vs, t, Heap.get?_push_of_some _ hoc, hd, hv⟩
    have nPc : P ≠ c' := ne_of_none hP nC
    refine h h'.objs.size c' ((X.mg "__name__").getD .none) ctv _ _ I1 ⟨.inr ⟨ps, _, hP, nC, ⟨pos, rfl⟩, rfl⟩, ?_, upd_same⟩ (Heap.get?_push_size _ rfl) ?_ (nofr _ hsz)
    · have eL : (ps ++ #[rawInt pos.line, rawInt pos.col, .ref c']).toList = ps.toList ++ [rawInt pos.line, rawInt pos.col, .ref c'] := by simp
      refine ⟨_, by rw [upd_ne nPc, upd_same], by rw [eL]; exact PySem.TriplesOk_snoc _ _ _ _ ht, fun p' cv hcv => ?_⟩
      rw [eL] at hcv
      rcases among_app _ ht hcv with z | z
      · obtain ⟨c0, e1, e2⟩ := ha p' cv z
        have n1 : c0 ≠ c' := ne_of_none e2 nC
        have n2 : c0 ≠ P := fun z => by
          rw [z, hP] at e2
          exact codeO_ne ps (Option.some.inj e2).symm
        exact ⟨c0, e1, by rw [upd_ne n1, upd_ne n2]; exact e2⟩
      · exact ⟨c', z, upd_same⟩
    · have n1 : h'.objs.size ≠ c' := Nat.ne_of_gt hlt
      have n2 : h'.objs.size ≠ P := Nat.ne_of_gt (Nat.lt_of_lt_of_le (Heap.lt_size atP) hsz)
      rw [upd_ne n1, upd_ne n2]
      exact I.hok.fresh hsz
end
section
variable {g : G} {T : Tk} {H H1 : Hp} {m : M} {P c' : Addr} {q : Str}
theorem RepH.tabS (hm : RepH g T H m) (h : (P, q) ∈ T.τ) : TabS H P q := by
  obtain ⟨ps, h1, h2, h3⟩ := (hm.tabs _ h).2
  exact ⟨ps, h1, h2, fun pos cv hc => by obtain ⟨c, e1, _, e3⟩ := h3 pos cv hc; exact ⟨c, e1, e3⟩⟩
/-- behind the making of a lambda all that is tracked stands as it did -/
theorem RepH.lam (hm : RepH g T H m) (h : (P, q) ∈ T.τ) (hu : ∀ p ∈ T.τ, p.1 = P → p.2 = q) (l : LamH H H1 P q c') : Le T H T H1 ∧ RepH g T H1 m := by
  obtain ⟨rfl | ⟨ps, more, hP, nC, ⟨pos0, em⟩, rfl⟩, tb, hc⟩ := l
  · exact ⟨.refl, hm⟩
  have nPc : P ≠ c' := ne_of_none hP nC
  have keep : ∀ a u, H a = some u → a ≠ P → upd (upd H P (.tbl (ps ++ more))) c' (CodeO c' q) a = some u := fun a u e n => by
    rw [upd_ne (ne_of_none e nC), upd_ne n]
    exact e
  have l : Le T H T (upd (upd H P (.tbl (ps ++ more))) c' (CodeO c' q)) := ⟨List.prefix_rfl, fun a u e _ t => keep a u e (fun z => t _ h z.symm), rfl, fun p hp u e => by
    by_cases z : p.1 = P
    · exact ⟨_, by rw [z, upd_ne nPc, upd_same]⟩
    · exact ⟨u, keep _ _ e z⟩, fun a h n => absurd h n, fun a h n => absurd h n, fun _ h => h⟩
  have nμ : P ∉ T.μ := (hm.tabs _ h).1
  refine ⟨l, hm.len, hm.nd, fun a ha => ?_, fun n a o h1 h2 => (hm.at_ n a o h1 h2).le l ?_, fun p hp => ⟨(hm.tabs p hp).1, ?_⟩⟩
  · obtain ⟨u, e, mu⟩ := hm.has a ha
    by_cases z : a = P
    · exact ⟨.tbl (ps ++ more), by rw [z, upd_ne nPc, upd_same], trivial⟩
    · exact ⟨u, keep _ _ e z, mu⟩
  · obtain ⟨v, e, _⟩ := (hm.at_ n a o h1 h2).has
    rw [e, keep a v e fun z => nμ (by rw [← z]; exact List.mem_of_getElem? h1)]
  · by_cases z : p.1 = P
    · obtain ⟨ps', e1, e2, e3⟩ := tb
      obtain ⟨ps0, f1, f2, f3⟩ := (hm.tabs _ h).2
      rw [hP] at f1
      cases f1
      rw [upd_ne nPc, upd_same] at e1
      cases e1
      rw [z, hu p hp z]
      refine ⟨ps ++ more, by rw [upd_ne nPc, upd_same], e2, fun pos cv hcv => ?_⟩
      obtain ⟨c, g1, g2⟩ := e3 pos cv hcv
      refine ⟨c, g1, ?_, g2⟩
      rw [em, show (ps ++ #[rawInt pos0.line, rawInt pos0.col, .ref c']).toList = ps.toList ++ [rawInt pos0.line, rawInt pos0.col, .ref c'] by simp] at hcv
      rcases among_app _ f2 hcv with y | y
      · obtain ⟨c2, k1, k2, _⟩ := f3 pos cv y
        rw [g1] at k1
        cases k1
        exact k2
      · rw [g1] at y
        cases y
        exact hm.nope nC
    · exact (hm.tabs p hp).2.le (fun v e => keep _ _ e z) fun c v n e => ⟨n, keep c v e fun z => n (by rw [z]; exact T.subτ _ h)⟩
end
end L4
namespace L4
open PySem PySem.Spec PyProof.Rows L2 LamX
section
variable {X : Cx} {pins : List (Addr × Obj)} {σ : L2.St} {H HZ : Hp} {s s1 : Shared}
/-- x(), in the def that got the lambda; what is raised need only be wished for at the very state -/
theorem pe_act2 {CXg : CXT} {Eg : XK} {Ng : List Str} {qg : Str} {sg : Scope} {g f c' : Addr} {cdg pm ctv : Value} {params : Arguments} {body : Expr} {scope : Scope} {k i : Nat} {a : Str} {pn : List (Addr × Obj)} {xe : Value → Shared → Prop} {W : WX} {tb : XK → TE} {p1 p2 : Pos}
    (I : L2.Inv X pins σ H s) (L : LamS X.env.scope scope) (hf : s.heap.get? f = some (PySem.W.kla_obj "<lambda>" (X.env.qual ++ "<lambda>") params body scope (cloFrom X.env.cells scope.names []) pm c' ctv)) (hfn : H f = none) (hfr : f ∉ frs X.stack)
    (hbind : bindArgs (PySem.W.kla_fn "<lambda>" (X.env.qual ++ "<lambda>") params body scope (cloFrom X.env.cells scope.names []) pm (.ref c') ctv) ⟨[], []⟩ = pure [])
    (tk : Takes ((cxOf CXg X.prog X.w X.K X.mg X.base Ng qg sg g cdg X.A X.stack s H Eg).tr pn xe) W) (hr : Room (k + 1) (X.A.deeper (envOfC qg sg s.heap.objs.size g cdg)))
    (hbody : ∀ (A : Around) (outer : List Env) (s : Shared) (H : Hp) (E : XK), A.guards = X.A.guards → Room k (A.deeper (lamEnv X scope s.heap.objs.size f c')) → PE (lamCx X A outer s H E scope f c') body (tb E))
    (hN : Ng[i]? = some a) (hv : Vis sg a) (hd : (a == ("__debug__" : Str)) = false) (hcd : (a == ("__classdict__" : Str)) = false) :
    PE ((cxOf CXg X.prog X.w X.K X.mg X.base Ng qg sg g cdg X.A X.stack s H Eg).tr pn xe) (.Call (.Name a p1) [] [] p2)
      (fun σZ HZ Q => σZ[i]? = some (some (.ref f)) ∧ HZ c' = some (CodeO c' (X.env.qual ++ "<lambda>")) ∧ ∃ E : XK, (∀ cls d H', E cls d H' → W cls d σZ H') ∧ tb E σ HZ Q) := by
  refine ⟨fun pinsZ sZ σZ HZ Q IZ h => ?_⟩
  obtain ⟨hs, hc, E, hW, ht⟩ := h
  refine wpAny_Call_Name_kw (thn ((pe_var (pos := p1) (i := i) hN hv hd hcd).run pinsZ sZ σZ HZ (fun v H1 => v = .ref f ∧ H1 = HZ) IZ ⟨.ref f, hs, rfl, rfl⟩) fun u s1 ⟨v, H1, I1, r1, q1⟩ => ?_)
  obtain ⟨ev, eH⟩ := q1
  subst ev
  rw [eH] at I1
  obtain rfl : u = Value.ref f := r1
  have of1 : s1.heap.get? f = some (PySem.W.kla_obj "<lambda>" (X.env.qual ++ "<lambda>") params body scope (cloFrom X.env.cells scope.names []) pm c' ctv) := I1.base.keep f _ hf hfn hfr (fun z => nomatch (show f ∈ ([] : List Addr) from z))
  refine PySem.W.callWith_F0 ⟨_, _, _, _, of1⟩ ?_
  have un : Un (frs X.stack) [] H HZ s.heap s1.heap := I1.base
  obtain ⟨⟨oc, vs, t, hoc, hdc, hvc⟩, _, _⟩ := I1.hok c' _ hc
  have rc : codeAny (model X.prog X.w) (X.A.deeper (envOfC qg sg s.heap.objs.size g cdg)) (.call (.ref f) ⟨[], []⟩) (CR (L2.CX X.prog X.w) (envOfC qg sg s.heap.objs.size g cdg :: X.stack) X.prog X.w HZ s1 Q E) s1 := by
    refine PySem.W.kla_callFunE hr.depth of1 rfl L.co L.gen rfl ⟨c', oc, vs, t, rfl, hoc, hdc, hvc⟩ ?_
    rw [hbind]
    refine wpAny_pure (wpAny_newFunctionEnv (fun y hy => (L.own y hy).2) (fun y hy => absurd hy (by simp)) (fun h₁ hns hsb => ⟨I1.nolimit.fresh _ hsb, ?_⟩) L.kind)
    show codeAny _ _ (.expr body (lamEnv X scope s1.heap.objs.size f c')) _ _
    have kp : ∀ b o, s1.heap.get? b = some o → h₁.get? b = some o := fun b o e => hsb.extBut b o (Nat.ne_of_lt (Heap.lt_size e)) (Heap.get?_push_of_some _ e)
    have J : L2.Inv (lamCx X (X.A.deeper (envOfC qg sg s.heap.objs.size g cdg)) (envOfC qg sg s.heap.objs.size g cdg :: X.stack) s1 HZ E scope f c') [] σ HZ { s1 with heap := h₁, toks := s1.toks + ([] : List (Str × Value)).length } :=
      lam_start2 I L I1.env0 hr.hd un hns kp
    refine PySem.W.kla_codeExpr (wpAny_mono ((hbody (X.A.deeper (envOfC qg sg s.heap.objs.size g cdg)) _ s1 HZ E rfl (hr.deeper _)).run [] _ _ HZ Q J ht) (fun v s' hq => ?_) fun e s' hq => hq)
    obtain ⟨w', H', J', rv, q⟩ := hq
    exact ⟨w', H', J'.os, J'.bare, J'.base, J'.hok, rv, q⟩
  refine wpAny_call (codeAny_mono rc fun r s' hq => ?_)
  cases r with
  | error e => exact tk e s' (XE.of_call I1 (fun cls d H' h => hW cls d H' h) hq)
  | ok fl =>
    cases fl with
    | ret u => exact I1.after hq
    | next => exact False.elim hq
    | brk => exact False.elim hq
    | cont => exact False.elim hq
end
/-- the def that tries what it is handed, and tells what was raised -/
structure Td (P : Program) (w : World) (K : PySem.W.Frag) (mg : Str → Option Value) (base : Heap) (k : Nat) (x : Str) (n : Nat) (hs : List Clx) (fr : SF) : Prop where
  ex : ∃ (f : Addr) (fd : FuncData) (st : Stmt) (N : List Str) (a y : Str) (h₀ : ExceptHandler) (hds : List ExceptHandler) (rest : List Stmt) (p1 p2 p3 p4 p5 p6 p7 : Pos) (j : Nat),
    Fun K x x st f fd ∧ FnScope N [a] (defScope st) ∧ mg x = some (.ref f) ∧ PySem.W.keepIn K (.ref f) = true ∧ Binds K fd [a] [] ∧ N.length = n ∧ N.Nodup ∧ N[0]? = some a ∧ N[1]? = some y ∧ Vis (defScope st) a ∧ Loc (defScope st) y ∧ (a == ("__debug__" : Str)) = false ∧ (a == ("__classdict__" : Str)) = false ∧
    defBody st = .Assign [.Name y p1] (.Constant .none j p2) p3 :: .Try [.Expr (.Call (.Name a p4) [] [] p5) p6] (h₀ :: hds) [] [] p7 :: rest ∧
    ∀ (cdv : Value) (A : Around) (outer : List Env) (s : Shared) (H : Hp), Gd k (cxOf C8.CX0 P w K mg base N x (defScope st) f cdv A outer s H C8.E0).nox →
      HdX (cxOf C8.CX0 P w K mg base N x (defScope st) f cdv A outer s H C8.E0).nox (h₀ :: hds) hs ∧ DSs (cxOf C8.CX0 P w K mg base N x (defScope st) f cdv A outer s H C8.E0).nox rest fr
/-- the slots behind found = None -/
def toldS (n : Nat) : Ss := (List.replicate n none).set 1 (some .non)
def endT : Option (Fl × M) → Option (D × M)
  | some (.rt d, m) => some (d, m)
  | some (.nx _, m) => some (.non, m)
  | _ => none
def eTold (gi : Nat) (q : Str) (n : Nat) (E : EX) (hs : List Clx) (fr : SF) : EF := fun ρ m => match ρ[gi]? with
  | some (some (.tab q2)) => if q2 = q then bd (E ρ m) fun r m1 => match r with
    | .ok _ => endT (fr (toldS n) m1)
    | .ex x => match handle hs x (toldS n) m1 with
      | some (.fl (.nx ρ1), m2) => endT (fr ρ1 m2)
      | some (.fl (.rt d), m2) => some (d, m2)
      | _ => none else none
  | _ => none
theorem toldS_rep {g : G} {T : Tk} {H : Hp} {N : List Str} {f : Addr} (h2 : 2 ≤ N.length) : RepS g T H ((L2.start N [.ref f]).set 1 (some .non)) (toldS N.length) := by
  have hl : (L2.start N [V.ref f]).length = N.length := by
    unfold L2.start
    simp
    omega
  refine ⟨by unfold toldS; simp [hl], fun i d h => ?_⟩
  unfold toldS at h
  by_cases hi : 1 = i
  · subst hi
    rw [List.getElem?_set_self (by simp; omega)] at h
    cases h
    exact ⟨.non, by rw [List.getElem?_set_self (by rw [hl]; omega)], .non⟩
  · rw [List.getElem?_set_ne hi] at h
    have h := (List.getElem?_replicate ..).symm.trans h
    split at h <;> cases h
section
variable {X : Cx}
theorem de_told {k : Nat} {c P : Addr} {x q : Str} {n gi : Nat} {params : Arguments} {body : Expr} {scope : Scope} {p lpos pos : Pos} {fE : EX} {hs : List Clx} {fr : SF}
    (D : Td X.prog X.w X.K X.mg X.base k x n hs fr) (hg : Gl X x) (gd : Gd (k + 2) X) (TB : TabB X.base X.mg c P) (hP : P = tabP X.K q) (hq : X.env.qual ++ "<lambda>" = q) (hcode : X.env.code = .ref c) (L : LamS X.env.scope scope) (hdef : defaultsOf params X.env = ([], []))
    (hbind : ∀ (q : Str) (cl : List (Str × Addr)) (pm cv ctv : Value), bindArgs (PySem.W.kla_fn "<lambda>" q params body scope cl pm cv ctv) ⟨[], []⟩ = pure [])
    (hbody : ∀ (A : Around) (outer : List Env) (s : Shared) (H : Hp) (E : XK) (f c' : Addr), Gd k (lamCx X A outer s H E scope f c') → DX (lamCx X A outer s H E scope f c') body fE)
    (hdb : (x == ("__debug__" : Str)) = false := by decide) :
    DE X (.Call (.Name x p) [.Lambda params body scope lpos] [] pos) (eTold gi q n fE hs fr) := by
  subst hq
  obtain ⟨g, fd, st, N, a, y, h₀, hds, rest, p1, p2, p3, p4, p5, p6, p7, j, F, S, hm, hk, hb, hn, hN, h0, h1, hva, hLy, d1, d2, ebody, hrun⟩ := D.ex
  obtain ⟨oc, od, kV, doc, pm, an, cdv, ct, osl, rfl, lk, hcd⟩ := F.ex
  refine ⟨fun σ H Q => ∃ T ρ m d m', RepH (gx X) T H m ∧ RepS (gx X) T H σ ρ ∧ eTold gi (X.env.qual ++ "<lambda>") n fE hs fr ρ m = some (d, m') ∧ KV (gx X) T H m' d Q, ⟨fun pins s σ H Q I h => ?_⟩, fun T σ H ρ m d m' hm hs hf Q k => ⟨T, ρ, m, d, m', hm, hs, hf, k⟩⟩
  obtain ⟨T, ρ, m, d, m', hmH, hsS, hf, kq⟩ := h
  unfold eTold at hf
  split at hf
  case h_2 => cases hf
  next q2 hgh =>
  obtain ⟨eq2, hf2⟩ := ite_some hf
  clear hf
  subst eq2
  obtain ⟨v0, _, rv⟩ := hsS.at_ gi _ hgh
  have ht : T.τ = [(P, X.env.qual ++ "<lambda>")] := by
    cases rv with
    | tab ht => rw [hP]; exact ht
  have mem : (P, X.env.qual ++ "<lambda>") ∈ T.τ := by rw [ht]; exact List.mem_singleton.mpr rfl
  have hu : ∀ p ∈ T.τ, p.1 = P → p.2 = X.env.qual ++ "<lambda>" := fun p hp _ => by rw [ht] at hp; rw [List.mem_singleton.mp hp]
  obtain ⟨r, m1, e1, hf⟩ := bd_some hf2
  refine wpAny_Call_Name_kw (ld_glob I hg hm ?_ hdb)
  refine PySem.W.callWith_K (h₀ := X.base) I.ok.mod.kin hk ?_ (by rfl) (by rfl)
  show wpAny _ _ (spliced ((false, eval (.Lambda params body scope lpos) X.env) :: backTo pos (starEach [] X.env))) _ _ s
  refine Calls.spliced_cons (lam_make3 I TB hcode (hmH.tabS mem) hdef (L.has I.ok) fun f c' pm' ctv H1 s' I1 lH hf' hfn hfr => ?_)
  obtain ⟨l1, hm1⟩ := hmH.lam mem hu lH
  have hco : H1 c' = some (CodeO c' (X.env.qual ++ "<lambda>")) := lH.2.2
  refine Calls.spliced_nil ⟨I1.kIn, ?_⟩
  have h2 : 2 ≤ N.length := (List.getElem?_eq_some_iff.mp h1).1
  have rc : codeAny (model X.prog X.w) X.A (.call (.ref g) ⟨[.ref f], []⟩) (CR C8.CX0 X.stack X.prog X.w H1 s' Q C8.E0) s' := by
    refine run_ofS (N := N) (ps := [a]) (us := [.ref f]) (vs := [.ref f]) lk hcd S gd.r I1.env0 (hb s' [.ref f] I1.kIn rfl) (.cons rfl .nil) rfl fun hr' => ?_
    obtain ⟨hH, hR⟩ := hrun cdv X.A X.stack s' H1 ⟨gd.g, hr'.mono (Nat.le_succ k)⟩
    obtain ⟨l, hok, hl⟩ := hH.sound
    obtain ⟨tr, pr, rr⟩ := hR.ex
    have act := fun (W : WX) (pn : List (Addr × Obj)) (xe : Value → Shared → Prop) (tk : Takes ((cxOf C8.CX0 X.prog X.w X.K X.mg X.base N x (defScope st) g cdv X.A X.stack s' H1 C8.E0).tr pn xe) W) =>
      pe_act2 (k := k) (i := 0) (p1 := p4) (p2 := p5) (tb := fun E => tX (gx X) fE (fun c d _ H' => E c d H')) I1 L hf' hfn hfr (hbind _ _ _ _ _) tk hr' (fun A outer s H E hgA hr2 => (hbody A outer s H E f c' ⟨hgA.trans gd.g, hr2⟩).go _ (takes_of rfl rfl rfl rfl)) h0 hva d1 d2
    have tree := pss_cons (ps_set (X := (cxOf C8.CX0 X.prog X.w X.K X.mg X.base N x (defScope st) g cdv X.A X.stack s' H1 C8.E0).nox) (pos := p3) (pos' := p1) hN h1 hLy (pe_non (j := j) (pos := p2)) rfl (.inl rfl))
      (pss_cons (ps_tryC (X := (cxOf C8.CX0 X.prog X.w X.K X.mg X.base N x (defScope st) g cdv X.A X.stack s' H1 C8.E0).nox) (pos := p7) (Wout := fun _ _ _ _ => False) rfl rfl hN LamX.takes0 (fun W pn xe tk _ => pss_one (ps_expr (pos := p6) (act W pn xe tk) rfl)) hok) pr)
    refine ⟨_, ebody ▸ tree.nox, ?_⟩
    subst hn
    have hz : ((L2.start N [V.ref f]).set 1 (some V.non))[0]? = some (some (.ref f)) := by
      rw [List.getElem?_set_ne (by decide)]
      unfold L2.start
      simp
    have hS0 : RepS (gx X) T H1 ((L2.start N [V.ref f]).set 1 (some .non)) (toldS N.length) := toldS_rep h2
    have rest' : ∀ ρ1 m2 T' H', Le T H1 T' H' → RepH (gx X) T' H' m2 → ∀ σ', RepS (gx X) T' H' σ' ρ1 → endT (fr ρ1 m2) = some (d, m') → tr { nx := fun _ H' => Q .non H', rt := Q } σ' H' := by
      intro ρ1 m2 T' H' l' hm' σ' hs' e
      unfold endT at e
      split at e
      · next d0 m3 ee =>
        cases e
        exact rr T' σ' H' ρ1 m2 _ _ hm' hs' ee _ fun v T2 H2 l2 hm2 r2 => kq v T2 H2 (l1.trans (l'.trans l2)) hm2 r2
      · next ρ2 m3 ee =>
        cases e
        exact rr T' σ' H' ρ1 m2 _ _ hm' hs' ee _ fun σ2 T2 H2 l2 hm2 r2 => kq .non T2 H2 (l1.trans (l'.trans l2)) hm2 .non
      · cases e
    refine ⟨hz, hco, fun cls d H' => wCl X.K (fun _ _ _ _ => False) { nx := fun σ H => tr { nx := fun _ H' => Q .non H', rt := Q } σ H, rt := Q } l cls d ((L2.start N [V.ref f]).set 1 (some .non)) H', fun _ _ _ z => z, T, ρ, m, r, m1, hm1, hsS.le l1, e1, ?_⟩
    cases r with
    | ok d0 => exact fun v T2 H2 l2 hm2 rv2 => rest' _ _ T2 H2 l2 hm2 _ (hS0.le l2) hf
    | ex xx =>
      dsimp only at hf
      split at hf
      · next ρ1 m2 hh => exact fun cls dd T' H' l' hm' xr => hl T H1 m1 xx (toldS N.length) (.fl (.nx ρ1)) m2 _ (fun _ _ _ _ => False) hh (fun σ' T2 H2 l2 hm2 hs2 => rest' ρ1 m2 T2 H2 l2 hm2 σ' hs2 hf) cls dd _ T' H' l' hm' (hS0.le l') xr
      · next d1 m2 hh =>
        cases hf
        exact fun cls dd T' H' l' hm' xr => hl T H1 m1 xx (toldS N.length) (.fl (.rt d)) m' _ (fun _ _ _ _ => False) hh (fun v T2 H2 l2 hm2 r2 => kq v T2 H2 (l1.trans l2) hm2 r2) cls dd _ T' H' l' hm' (hS0.le l') xr
      · cases hf
  refine wpAny_call (codeAny_mono rc fun r s2 hq => ?_)
  cases r with
  | error e => exact (show False from hq).elim
  | ok fl =>
    cases fl with
    | ret u => exact I1.after hq
    | next => exact False.elim hq
    | brk => exact False.elim hq
    | cont => exact False.elim hq
end
end L4
namespace L4
open PySem PySem.Spec PyProof.Rows L2 LamX
theorem _root_.L2.Inv.ghost {X : Cx} {pins : List (Addr × Obj)} {σ : L2.St} {H : Hp} {s : Shared} (I : L2.Inv X pins σ H s) {gi : Nat} {y : Str} (v : V) (hN : X.N[gi]? = some y) (hv : ¬ Vis X.env.scope y) : L2.Inv X pins (σ.set gi (some v)) H s := by
  refine { I with loc := ?_, len := by rw [List.length_set]; exact I.len }
  obtain ⟨m, h1, h2⟩ := I.loc
  refine ⟨m, h1, fun i x u e1 e2 e3 => ?_⟩
  by_cases hi : gi = i
  · subst hi
    rw [hN] at e1
    cases e1
    exact absurd e3 hv
  · rw [List.getElem?_set_ne hi] at e2
    exact h2 i x u e1 e2 e3
def runG (a n gi : Nat) (q : Str) (b : SF) (ds : List D) : Option D := if ds.length = a then endP (b ((startD n ds).set gi (some (.tab q))) []) else none
theorem WS.runG {a n gi : Nat} {q : Str} {b : SF} {ds : List D} {d : D} (h : WS b ((startD n ds).set gi (some (.tab q))) [] fun r m => ∃ y, r = .rt y ∧ frz m y = some d) (hl : ds.length = a) : runG a n gi q b ds = some d := by
  obtain ⟨r, m1, e, y, rfl, q⟩ := h
  unfold L4.runG
  rw [if_pos hl, e]
  exact q
/-- what a law with a table promises -/
def spG (g : G) (gi : Nat) (q : Str) (a n : Nat) (b : SF) : Sp := fun vs H Q _ => vs.length = a ∧ ∃ T ds, RepH g T H [] ∧ T.τ = [(tabP g.K q, q)] ∧ RepL g T H ds vs ∧ runG a n gi q b ds = some (.bl true) ∧ ∀ H', Q (.bl true) H'
section
variable {P : Program} {w : World} {K : PySem.W.Frag} {mg : Str → Option Value} {base : Heap} {k : Nat}
theorem fnG_ofC {f : Addr} {x q : Str} {st : Stmt} {fd : FuncData} {N ps : List Str} {sp : Sp} (F : Fun K x q st f fd) (S : FnScope N ps (defScope st)) (len : ∀ vs H Q E, sp vs H Q E → vs.length = ps.length)
    (hbody : ∀ (cdv : Value) (A : Around) (outer : List Env) (s : Shared) (H : Hp) (E : XK), fd.code = cdv → A.guards = some [] → Room k (A.deeper (envOfC q (defScope st) s.heap.objs.size f cdv)) →
      ∃ t, PSs (cxOf CX0 P w K mg base N q (defScope st) f cdv A outer s H E).nox (defBody st) t ∧ ∀ vs Q, sp vs H Q E → t { nx := fun _ H' => Q .non H', rt := Q } (start N vs) H) : FnG P w K mg base CX0 (k + 1) f fd ps sp := by
  obtain ⟨oc, od, kV, doc, pm, an, cdv, ct, osl, rfl, lk, hcd⟩ := F.ex
  refine ⟨len, fun A outer s H args us vs Q E hg hr e0 hb r hsp => ?_⟩
  have keep : ∀ b o, base.get? b = some o → s.heap.get? b = some o := fun b o e => (e0.bs b o e).1
  have KX : K.In s.heap := e0.mod.kin.keeps keep
  have par : ∀ y ∈ ps.zip us, (defScope st).names.lookup y.1 = some .local ∨ ((defScope st).names.lookup y.1 = some .cell ∧ ((cellsFrom (s.heap.objs.size + 1) (defScope st).names []).lookup y.1).isSome = true) := by
    rintro ⟨n, v⟩ hy
    cases S.par n (List.of_mem_zip hy).1 with
    | inl z => exact .inl z
    | inr z => exact .inr ⟨z, PySem.W.cellsFrom_some _ _ _ (.inl z)⟩
  refine codeAny_call_function hr.depth (KX _ _ lk) rfl S.co S.gen rfl (PySem.W.codeRec_of KX hcd) ?_
  refine hb _ _ _ _ ?_
  refine wpAny_newFunctionEnv_cells S.kind par ?_
  rintro env rfl s1 x
  refine ⟨(e0.mod.nolimit.keeps keep).keeps x.toInCall.keep, codeAny_func ?_⟩
  obtain ⟨t, ht, hq⟩ := hbody cdv A outer s H E rfl hg (hr.deeper _)
  have I : L2.Inv (cxOf CX0 P w K mg base N q (defScope st) f cdv A outer s H E) [] (start N vs) H s1 := inv_start S hr.hd e0 (len _ _ _ _ hsp) r x
  refine wpAny_mono (ht.nox.run [] s1 (start N vs) H _ I (hq vs Q hsp)) ?_ (fun _ _ z => z)
  intro fl s' hs
  match fl, hs with
  | .ret u, ⟨v, σ', H', J, rv, z⟩ => exact ⟨v, H', J.os, J.bare, J.base, J.hok, rv, z⟩
  | .next, ⟨σ', H', J, z⟩ => exact ⟨.non, H', J.os, J.bare, J.base, J.hok, rfl, z⟩
  | .brk, ⟨_, _, _, z⟩ => exact z.elim
  | .cont, ⟨_, _, _, z⟩ => exact z.elim
theorem law_dfG {f : Addr} {fd : FuncData} {x qn y q : Str} {st : Stmt} {N ps : List Str} {b : SF} {gi : Nat} (F : Fun K x qn st f fd) (S : FnScope N ps (defScope st)) (hN : N[gi]? = some y) (hv : ¬ Vis (defScope st) y)
    (hbody : ∀ (cdv : Value) (A : Around) (outer : List Env) (s : Shared) (H : Hp) (E : XK), fd.code = cdv → Gd k (cxOf CX0 P w K mg base N qn (defScope st) f cdv A outer s H E).nox →
      DSs (cxOf CX0 P w K mg base N qn (defScope st) f cdv A outer s H E).nox (defBody st) b) : FnG P w K mg base CX0 (k + 1) f fd ps (spG ⟨P, w, K⟩ gi q ps.length N.length b) := by
  refine fnG_ofC F S (fun vs H Q E h => h.1) fun cdv A outer s H E hc hg hr => ?_
  obtain ⟨t, p, r⟩ := (hbody cdv A outer s H E hc ⟨hg, hr⟩).ex
  refine ⟨fun D σ H => t D (σ.set gi (some (.ref (tabP K q)))) H, ⟨fun pins s' σ H' D I h => p.run pins s' _ H' D (I.ghost (.ref (tabP K q)) hN hv) h⟩, fun vs Q h => ?_⟩
  obtain ⟨_, T, ds, hm, hτ, rl, hf, kq⟩ := h
  replace hf := (ite_some hf).2
  have hgl : gi < N.length := (List.getElem?_eq_some_iff.mp hN).1
  have hS : RepS ⟨P, w, K⟩ T H ((start N vs).set gi (some (.ref (tabP K q)))) ((startD N.length ds).set gi (some (.tab q))) := (repS_start rl).set (.tab hτ)
  unfold endP at hf
  split at hf
  · next d' m e =>
    refine r T _ H _ [] _ _ hm hS e _ fun v T' H' l hm' rv => ?_
    have := frz_ok (ν := []) hm' (fun a h => nomatch h) (fun a h z => nomatch z) hf rv
    cases this
    exact kq H'
  · next e =>
    cases hf
  · cases hf
end
end L4
namespace L4
open PySem PySem.Spec PyProof.Rows L2 LamX
section
variable {P : Program} {w : World} {K : PySem.W.Frag} {mg mb : Str → Option Value} {k : Nat} {fa a c Q : Addr} {fd : FuncData} {x : Str} {sp : Sp} {s₁ : Shared} {vs : List Value} {ns : List Int}
theorem callT_core {H : Hp} (KX : K.In s₁.heap) (hns : s₁.heap.Ns mainGlobals mg) (hb : s₁.heap.Ns builtinsNs mb) (hbb : ∀ x : Str, x ≠ "__name__" → mb x = bootBuiltins x) (hlim : s₁.heap.NoLimit) (hg : s₁.gens = #[])
    (isL : s₁.heap.get? a = some { cls := .type "list", data := .seq vs.toArray }) (hr : Room k callerA)
    (isT : s₁.heap.get? Q = some { cls := .none, data := .fields #[] }) (nT : K.lookup Q = none) (C : PySem.W.CodeHd s₁.heap c Q)
    (hbm : ∃ (bm : Addr) (ob : Obj), mg "__builtins__" = some (.ref bm) ∧ bm ≠ builtinsNs ∧ s₁.heap.get? bm = some ob ∧ ob.cls = .type "module" ∧ ob.dict = some builtinsNs ∧ ob.data = .plain)
    (F : ∀ base : Heap, K.In base → base.Ns mainGlobals mg → TabB base mg c Q → FnG P w K mg base CX0 k fa fd [x] sp) (hbind : ∀ (s : Shared) (u : Value), BindsTo s fd ⟨[u], []⟩ [(x, u)])
    (hsp : sp [.ref a] H (fun v _ => v = .bl true) fun _ _ _ => False) (hO : ∀ b, H b = none ∨ b = Q ∨ ∃ ob xs, H b = some (.frz ob (.lst xs))) (hQ : H Q = some (.tbl #[])) (hok : HOk P w H s₁.heap) (hA : ∀ b, H b ≠ none → b = a ∨ b = Q) (hK : H a ≠ none → K.lookup a = none) :
    codeAny (model P w) callerA (.call (.ref fa) ⟨[.ref a], []⟩) (fun r s' => r = .ok (.ret (.bool true)) ∧ OldK s₁.heap s'.heap ∧ s'.os = s₁.os ∧ AllBare s'.gens) s₁ := by
  have seen : ∀ {b : Addr} {o : Obj}, s₁.heap.get? b = some o → (∀ us n, o.data ≠ .seq us n) → o.data ≠ .fields #[] → (hidT s₁.heap H).get? b = some o := by
    intro b o e n1 n2
    refine hidT_get e ?_
    cases z : H b with
    | none => rfl
    | some u =>
      rcases hA b (by rw [z]; simp) with ea | ea <;> rw [ea] at e
      · rw [isL] at e
        cases e
        exact absurd rfl (n1 _ _)
      · rw [isT] at e
        cases e
        exact absurd rfl n2
  have stays : ∀ {b : Addr} {m : Str → Option Value}, s₁.heap.Ns b m → (hidT s₁.heap H).Ns b m := by
    rintro b m ⟨o, es, ep, e, d, rest⟩
    refine ⟨o, es, ep, seen e (fun us n z => ?_) (fun z => ?_), d, rest⟩ <;> rw [d] at z <;> exact Data.noConfusion z
  have inB : K.In (hidT s₁.heap H) := by
    intro b o e
    refine hidT_get (KX b o e) ?_
    cases z : H b with
    | none => rfl
    | some u =>
      have nz : H b ≠ none := by rw [z]; simp
      rcases hA b nz with ea | ea <;> rw [ea] at e nz
      · rw [hK nz] at e
        cases e
      · rw [nT] at e
        cases e
  obtain ⟨mc, lim1, lim2⟩ := hlim
  have md : Mod K mg (hidT s₁.heap H) := ⟨inB, stays hns, ⟨mb, stays hb, hbb⟩, ⟨mc, stays lim1, lim2⟩⟩
  have gQ : mainGlobals ≠ Q := by
    rintro rfl
    obtain ⟨o, es, ep, e, d, _⟩ := hns
    rw [isT] at e
    cases e
    cases d
  have TB : TabB (hidT s₁.heap H) mg c Q := by
    refine ⟨?_, ?_, gQ⟩
    · obtain ⟨o, us, file, tf, flags, tg, inF, text, tt, e1, r1, r2, r3, r⟩ := C
      refine ⟨o, us, file, tf, flags, tg, inF, text, tt, seen e1 (fun vs n z => ?_) (fun z => ?_), r1, r2, r3, r⟩ <;> rw [r2] at z
      · cases z
      · cases z
        simp at r3
    · obtain ⟨bm, ob, b1, b2, b3, b4, b5, b6⟩ := hbm
      refine ⟨bm, ob, b1, b2, ?_, ?_, seen b3 (fun vs n z => ?_) (fun z => ?_), b4, b5, b6⟩
      · rintro rfl
        obtain ⟨o, es, ep, e, d, _⟩ := hns
        rw [b3] at e
        cases e
        rw [b6] at d
        cases d
      · rintro rfl
        rw [isT] at b3
        cases b3
        cases b6
      · rw [b6] at z; cases z
      · rw [b6] at z; cases z
  have env : Env0 P w K mg (hidT s₁.heap H) callerA [] s₁ H := by
    refine ⟨rfl, md, fun b o e => of_hidT e, Nat.le_of_eq (hidT_size _ _), trivial, ?_, hok, .of_eq hg⟩
    intro b hb
    exact nomatch (show b ∈ ([] : List Addr) from hb)
  have go := (F _ inB (stays hns) TB).run callerA [] s₁ H ⟨[.ref a], []⟩ [.ref a] [.ref a] _ _ rfl hr env (hbind s₁ (.ref a)) (.cons rfl .nil) hsp
  refine codeAny_mono go ?_
  intro r s' h
  match r, h with
  | .ok (.ret u), ⟨v, H', os, bare, un, hok', ru, (ev : v = .bl true)⟩ =>
    subst ev
    cases (show u = Value.bool true from ru)
    obtain ⟨more, z⟩ := un.tbls Q #[] hQ
    have grown := hok' Q _ z
    have same : ∀ b o, b ≠ Q → s₁.heap.get? b = some o → s'.heap.get? b = some o := by
      intro b o nb e
      rcases hO b with z | z | ⟨ob, xs, z⟩
      · exact un.keep b o e z (fun w => nomatch (show b ∈ ([] : List Addr) from w)) (by simp)
      · exact absurd z nb
      · have e1 := (hok b _ z).1
        have e2 := (hok' b _ (un.frzs b ob _ z)).1
        rw [e] at e1
        cases e1
        exact e2
    refine ⟨rfl, ⟨fun b o e => ?_, fun b o e => ?_⟩, os, bare⟩
    · by_cases hq : b = Q
      · subst hq
        rw [isT] at e
        cases e
        exact .inr (.inl ⟨(C.tab isT).isCodeTable, rfl, #[], more, rfl, by rw [Array.empty_append]; rw [Array.empty_append] at grown; exact grown⟩)
      · exact .inl (same b o hq e)
    · by_cases hq : b = Q
      · subst hq
        exact ⟨_, grown⟩
      · exact ⟨o, same b o hq e⟩
theorem repH_tab {g : G} {H : Hp} {q : Str} (h : H Q = some (.tbl #[])) : RepH g ⟨[], [Q], [(Q, q)], (fun _ h => nomatch h), fun p hp => by rw [List.mem_singleton.mp hp]; exact List.mem_singleton.mpr rfl⟩ H [] := by
  refine ⟨rfl, List.nodup_nil, fun b hb => ?_, (fun n a o h _ => by cases h), fun p hp => ?_⟩
  · rw [List.mem_singleton.mp hb]
    exact ⟨_, h, trivial⟩
  · rw [List.mem_singleton.mp hp]
    refine ⟨(fun z => nomatch z), #[], h, True.intro, fun pos cv hc => ?_⟩
    have z : codeAmong pos [] = some cv := hc
    simp [codeAmong] at z
theorem walkLT {l : PySem.W.OpenLaw} {n k : Nat} {q : Program} {loose : List Str} {XP : (Str → Option Value) → Heap → Prop} {YP : World → Heap → Prop} {d : DefRec} {x : Str} {gi N : Nat} {qn : Str} {b : SF}
    (hn : l.most = some n) (hn2 : n ≤ sizeLine) (hdf : d.params.defaults = []) (hr : Room k callerA) (hF : ∀ ns : List Int, ns.length ≤ n → runG 1 N gi qn b [.scr (ns.map D.int)] = some (.bl true))
    (F : ∀ (w : World) (mg : Str → Option Value) (fa : Addr) (h : Heap), YP w h → h.Ns mainGlobals mg → mg d.name = some (.ref fa) →
      ∃ (K : PySem.W.Frag) (fd : FuncData) (c Q : Addr), K.In h ∧ Q = tabP K qn ∧ h.get? Q = some { cls := .none, data := .fields #[] } ∧ K.lookup Q = none ∧ PySem.W.CodeHd h c Q ∧ (∀ (s : Shared) (u : Value), BindsTo s fd ⟨[u], []⟩ [(x, u)]) ∧
        ∀ base : Heap, K.In base → base.Ns mainGlobals mg → TabB base mg c Q → FnG l.prog w K mg base CX0 k fa fd [x] (spG ⟨l.prog, w, K⟩ gi qn 1 N b)) :
    PySem.W.WalkO q loose XP YP l.row.toRowW d [] (fun f vs => PySem.call f vs) := by
  refine Att.attach_call hn hdf ?_
  intro w s₀ s₁ mg mb fa o pm cd doc a vs ns G Y ho hd hcd hmg hobj hi hlen hg
  obtain ⟨K, fd, c, Q, KX, eQ, isT, nT, C, hb, hX⟩ := F w mg fa _ Y G.T.g hmg
  have rv := vals_ints hi
  have lenV := hi.length
  have aQ : a ≠ Q := by
    rintro rfl
    rw [hobj] at isT
    cases isT
  have sp0 : ∀ H : Hp, H Q = some (.tbl #[]) → (∀ o, H a = some o → ∃ ob xs, o = .frz ob (.lst xs)) → SqL K H a (ns.map V.int) → spG ⟨l.prog, w, K⟩ gi qn 1 N b [.ref a] H (fun v _ => v = .bl true) fun _ _ _ => False := by
    intro H hQ hf hS
    refine ⟨rfl, _, [.scr (ns.map D.int)], repH_tab (q := qn) hQ, by show [(Q, qn)] = _; rw [eQ], .cons (.scr ?_ (repL_ints ns)) .nil, hF ns hlen, fun _ => rfl⟩
    rcases hS with h | h
    · rcases h with h | ⟨o, h⟩
      · obtain ⟨_, _, z⟩ := hf _ h
        cases z
      · exact .inl ⟨fun z => aQ (List.mem_singleton.mp z), o, h⟩
    · exact .inr (.inr h)
  have hl : ns.length ≤ sizeLine := Nat.le_trans hlen hn2
  cases own : K.lookup a with
  | some o =>
    have e := KX a o own
    rw [hobj] at e
    cases e
    let H0 : Hp := fun b => if b = Q then some (.tbl #[]) else none
    have at_Q : H0 Q = some (.tbl #[]) := if_pos rfl
    have off : ∀ b, b ≠ Q → H0 b = none := fun b z => if_neg z
    refine callT_core (H := H0) KX G.T.g G.T.b G.T.builtins G.T.nolimit hg hobj hr isT nT C G.T.bmain hX hb (sp0 H0 at_Q (fun o h => by rw [off a aQ] at h; cases h) (.inr ⟨_, vs.toArray, _, own, rfl, rfl, rfl, by rw [List.size_toArray, lenV]; exact hl, by simpa using rv⟩)) (fun b => ?_) at_Q (fun b u z => ?_) (fun b z => ?_) (fun z => absurd (off a aQ) z)
    · by_cases hq : b = Q
      · exact .inr (.inl hq)
      · exact .inl (off b hq)
    · by_cases hq : b = Q
      · subst hq
        rw [at_Q] at z
        cases z
        exact isT
      · rw [off b hq] at z
        cases z
    · by_cases hq : b = Q
      · exact .inr hq
      · exact absurd (off b hq) z
  | none =>
    let H0 : Hp := fun b => if b = a then some (.frz { cls := .type "list", data := .seq vs.toArray } (.lst (ns.map V.int))) else if b = Q then some (.tbl #[]) else none
    have at_a : H0 a = some (.frz { cls := .type "list", data := .seq vs.toArray } (.lst (ns.map V.int))) := if_pos rfl
    have at_Q : H0 Q = some (.tbl #[]) := (if_neg (Ne.symm aQ)).trans (if_pos rfl)
    have off : ∀ b, b ≠ a → b ≠ Q → H0 b = none := fun b z1 z2 => (if_neg z1).trans (if_neg z2)
    refine callT_core (H := H0) KX G.T.g G.T.b G.T.builtins G.T.nolimit hg hobj hr isT nT C G.T.bmain hX hb (sp0 H0 at_Q (fun o h => by rw [at_a] at h; cases h; exact ⟨_, _, rfl⟩) (.inl (.inr ⟨_, at_a⟩))) (fun b => ?_) at_Q (fun b u z => ?_) (fun b z => ?_) (fun _ => own)
    · by_cases ha : b = a
      · subst ha
        exact .inr (.inr ⟨_, _, at_a⟩)
      · by_cases hq : b = Q
        · exact .inr (.inl hq)
        · exact .inl (off b ha hq)
    · by_cases ha : b = a
      · subst ha
        rw [at_a] at z
        cases z
        exact ⟨hobj, by rw [List.length_map]; exact hl, vs, _, rv, hobj⟩
      · by_cases hq : b = Q
        · subst hq
          rw [at_Q] at z
          cases z
          exact isT
        · rw [off b ha hq] at z
          cases z
    · by_cases ha : b = a
      · exact .inl ha
      · by_cases hq : b = Q
        · exact .inr hq
        · exact absurd (off b ha hq) z
end
end L4
namespace L4
open PySem L2 TL
def f__law_deal_1 : SF := sAsg (eOp modD (eCall intD (aCons (eOp addD (eOp mulD (eVar 4) (eC (.int 16807))) (eVar 2)) (aNil))) (eC (.int 2147483647))) (gNm 4)
def f__law_deal_2 : SF := sRet (eDisp true [(eC (.str "great"), eRev true (eVar 5)), (eC (.str "now"), eC (.int 0)), (eC (.str "mixed"), eOp addD (eVar 4) (eC (.int 1))), (eC (.str "turn"), eC (.int 0))])
def f__law_deal_3 : SF := sSeq (sAsg (eLcK false (iIt (eVar 3)) (.one 2) (tVal (eOp geD (eVar 2) (eOp powD (eC (.int 10)) (eC (.int 18))))) (eVar 2)) (gNm 5)) (f__law_deal_2)
def f__law_deal_4 : SF := sSeq (sForA big (eVar 3) (gTgt (.one 2)) (f__law_deal_1)) (f__law_deal_3)
def f__law_deal_5 : SF := sSeq (sAsg (eOp addD (eC (.int 15485863)) (eVar 1)) (gNm 4)) (f__law_deal_4)
def f__law_deal : SF := sSeq (sAsg (eLcK false (iIt (eSl (eVar 0) (oYes (eVar 1)) (oYes (eC (.int 63))))) (.one 2) (tTrue) (eCall absD (aCons (eVar 2) (aNil)))) (gNm 3)) (f__law_deal_5)
def F__law_deal := runM 2 6 f__law_deal
def f__law_draw_1 : SF := sAsg (eLm0 (fun _ => popL) (eOp ixA (eVar 0) (eC (.str "great"))) aNil) (gSetA (eVar 0) (eC (.str "now")))
def f__law_draw_2 : SF := sSeq (sAsg (eOp fdivD (eOp ixA (eVar 0) (eC (.str "now"))) (eVar 1)) (gSetA (eVar 0) (eC (.str "now")))) (sRet (eVar 2))
def f__law_draw_3 : SF := sRet (eOp modD (eCall intD (aCons (eOp addD (eOp fdivD (eVar 4) (eC (.int 4096))) (eVar 3)) (aNil))) (eVar 1))
def f__law_draw_4 : SF := sSeq (sAsg (eOp addD (eOp modD (eCall intD (aCons (eOp addD (eOp mulD (eVar 4) (eC (.int 40692))) (eVar 3)) (aNil))) (eC (.int 2147483647))) (eC (.int 1))) (gSetA (eVar 0) (eC (.str "mixed")))) (f__law_draw_3)
def f__law_draw_5 : SF := sSeq (sAsg (eOp modD (eCall intD (aCons (eOp addD (eOp mulD (eVar 3) (eVar 3)) (eOp mulD (eOp ixA (eVar 0) (eC (.str "turn"))) (eC (.int 7919)))) (aNil))) (eC (.int 2147483563))) (gNm 4)) (f__law_draw_4)
def f__law_draw_6 : SF := sSeq (sAsg (eOp modD (eCall intD (aCons (eOp addD (eOp mulD (eOp ixA (eVar 0) (eC (.str "mixed"))) (eC (.int 48271))) (eOp mulD (eOp ixA (eVar 0) (eC (.str "turn"))) (eC (.int 69621)))) (aNil))) (eC (.int 2147483629))) (gNm 3)) (f__law_draw_5)
def f__law_draw_7 : SF := sSeq (sAsg (eOp addD (eOp ixA (eVar 0) (eC (.str "turn"))) (eC (.int 1))) (gSetA (eVar 0) (eC (.str "turn")))) (f__law_draw_6)
def f__law_draw_8 : SF := sSeq (sIf (tVal (eOp gtD (eOp ixA (eVar 0) (eC (.str "now"))) (eC (.int 0)))) (sSeq (sAsg (eOp modD (eCall intD (aCons (eOp ixA (eVar 0) (eC (.str "now"))) (aNil))) (eVar 1)) (gNm 2)) (f__law_draw_2)) (sNop)) (f__law_draw_7)
def f__law_draw : SF := sSeq (sWhile big (tAnd (tVal (eOp eqD (eOp ixA (eVar 0) (eC (.str "now"))) (eC (.int 0)))) (tVal (eOp gtD (eCall lenD (aCons (eOp ixA (eVar 0) (eC (.str "great"))) (aNil))) (eC (.int 0))))) (f__law_draw_1)) (f__law_draw_8)
def F__law_draw := runM 2 5 f__law_draw
abbrev f__law_pick : SF := sRet (eOp ixA (eVar 1) (eCallM F__law_draw (aCons (eVar 0) (aCons (eCall lenD (aCons (eVar 1) (aNil))) (aNil)))))
def F__law_pick := runM 2 2 f__law_pick
abbrev f__law_good_1 : SF := sRet (eOp addD (eOp addD (eOp addD (eOp addD (eOp addD (eC (.str "turn ")) (eCall strT (aCons (eVar 3) (aNil)))) (eC (.str " "))) (eCall strT (aCons (eVar 4) (aNil)))) (eC (.str " "))) (eCallM F__law_pick (aCons (eVar 0) (aCons (eLst (aCons (eC (.str "ok")) (aCons (eC (.str "fault")) (aNil)))) (aNil)))))
abbrev f__law_good : SF := sSeq (sPar [3, 4] (aCons (eCallM F__law_draw (aCons (eVar 0) (aCons (eVar 1) (aNil)))) (aCons (eCallM F__law_draw (aCons (eVar 0) (aCons (eVar 2) (aNil)))) (aNil)))) (f__law_good_1)
def F__law_good := runM 3 5 f__law_good
def h__law_told : List Clx := [([("InvalidEvent", false), ("InvalidRoad", true)], some 2, fun x => sAsg ((fun x => eIf ((fun x => tAnd ((fun x => tVal ((eXi [("InvalidRoad", true)]) x)) x) ((fun x => tNot ((fun x => tVal ((eXi [("InvalidRoad", false)]) x)) x)) x)) x) ((eXf ["InvalidRoad"] "word") x) ((fun _ => eC (.str "other")) x)) x) (gNm 1)), ([("InvalidEvent", true)], some 2, fun x => sAsg ((fun x => eIf ((fun x => tAnd ((fun x => tVal ((eXi [("InvalidEvent", true)]) x)) x) ((fun x => tNot ((fun x => tVal ((eXi [("InvalidEvent", false)]) x)) x)) x)) x) ((eXf ["InvalidEvent"] "at") x) ((fun _ => eC (.str "other")) x)) x) (gNm 1))]
def f__law_told_r : SF := sRet (eVar 1)
abbrev f_is_integer : SF := sRet (eAnd (eCall isiD (aCons (eVar 0) (aCons (eC (.ty "int")) (aNil)))) (eNot (eCall isiD (aCons (eVar 0) (aCons (eC (.ty "bool")) (aNil))))))
def F_is_integer := runP 1 1 f_is_integer
abbrev f_is_from : SF := sRet (eAnd (eCall (callP F_is_integer) (aCons (eVar 0) (aNil))) (eOp geD (eVar 0) (eVar 1)))
def F_is_from := runP 2 2 f_is_from
abbrev f_is_sequence : SF := sRet (eCall (isiTA2 ["Road"]) (aCons (eVar 0) (aCons (eTup (aCons (eC (.ty "list")) (aCons (eC (.ty "tuple")) (aNil)))) (aNil))))
def F_is_sequence := runP 1 1 f_is_sequence
def f_number_in_1 : SF := sRet (eIf (tOr (tVal (eOp eqD (eVar 0) (eC (.str "0")))) (tVal (eOp neD (eOp ixA (eVar 0) (eC (.int 0))) (eC (.str "0"))))) (eCall intD (aCons (eVar 0) (aNil))) (eC .non))
def f_number_in : SF := sSeq (sIf (tOr (tNot (tVal (eChain leD leD (eC (.int 1)) (eCall lenD (aCons (eVar 0) (aNil))) (eVar 1)))) (tNot (tVal (eCall allD (aCons (eLcK false (iIt (eVar 0)) (.one 2) (tTrue) (eOp inA (eVar 2) (eC (.str "0123456789")))) (aNil)))))) (sRet (eC .non)) (sNop)) (f_number_in_1)
def F_number_in := runP 2 3 f_number_in
def f_event_in_1 : SF := sSeq (sIf (tAnd (tVal (eOp eqD (eOp ixA (eVar 1) (eC (.int 0))) (eC (.str "told")))) (tAnd (tVal (eOp ninA (eC .non) (eVar 2))) (tVal (eOp neD (eOp ixA (eVar 2) (eC (.int 0))) (eOp ixA (eVar 2) (eC (.int 1))))))) (sRet (eTup (aCons (eC (.str "told")) (aStar (eVar 2) (aNil))))) (sNop)) (sRet (eC .non))
def f_event_in_2 : SF := sSeq (sIf (tAnd (tVal (eOp eqD (eOp ixA (eVar 1) (eC (.int 0))) (eC (.str "turn")))) (tAnd (tVal (eOp ninA (eC .non) (eSl (eVar 2) (oNo) (oYes (eC (.int 2)))))) (tVal (eOp inA (eOp ixA (eVar 1) (eC (.int 3))) (eC (.tup [.str "ok", .str "fault"])))))) (sRet (eTup (aCons (eC (.str "turn")) (aCons (eOp ixA (eVar 2) (eC (.int 0))) (aCons (eOp ixA (eVar 2) (eC (.int 1))) (aCons (eOp eqD (eOp ixA (eVar 1) (eC (.int 3))) (eC (.str "fault"))) (aNil))))))) (sNop)) (f_event_in_1)
abbrev f_event_in_3 : SF := sSeq (sAsg (eLcK false (iIt (eSl (eVar 1) (oYes (eC (.int 1))) (oNo))) (.one 3) (tTrue) (eCall (callP F_number_in) (aCons (eVar 3) (aCons (eC (.int 2)) (aNil))))) (gNm 2)) (f_event_in_2)
abbrev f_event_in_4 : SF := sSeq (sIf (tVal (eOp neD (eCall lenD (aCons (eVar 1) (aNil))) (eC (.int 4)))) (sRet (eC .non)) (sNop)) (f_event_in_3)
abbrev f_event_in : SF := sSeq (sAsg (eM1 splitD (eVar 0) (eC (.str " "))) (gNm 1)) (f_event_in_4)
def F_event_in := runP 1 4 f_event_in
abbrev f_event_of_1 : SF := sRet (eIf (tAnd (tVal (eOp ltD (eOp ixA (eVar 3) (eC (.int 1))) (eVar 1))) (tAnd (tVal (eOp ltD (eOp ixA (eVar 3) (eC (.int 2))) (eVar 1))) (tVal (eOp ltD (eOp ixA (eVar 3) (eC (.int 3))) (eVar 2))))) (eVar 3) (eC .non))
def f_event_of_2 : SF := sSeq (sIf (tVal (eOp eqD (eOp ixA (eVar 3) (eC (.int 0))) (eC (.str "turn")))) (sRet (eIf (tAnd (tVal (eOp ltD (eOp ixA (eVar 3) (eC (.int 1))) (eVar 1))) (tVal (eOp ltD (eOp ixA (eVar 3) (eC (.int 2))) (eVar 2)))) (eVar 3) (eC .non))) (sNop)) (f_event_of_1)
def f_event_of_3 : SF := sSeq (sIf (tVal (eIsN (eVar 3))) (sRet (eC .non)) (sNop)) (f_event_of_2)
abbrev f_event_of : SF := sSeq (sAsg (eIf (tVal (eCall isiD (aCons (eVar 0) (aCons (eC (.ty "str")) (aNil))))) (eCall (callP F_event_in) (aCons (eVar 0) (aNil))) (eC .non)) (gNm 3)) (f_event_of_3)
def F_event_of := runP 3 4 f_event_of
def f_events_of_1 : SF := sSeq (sIf (tVal (eOp inA (eC .non) (eVar 3))) (sNo) (sNop)) (sRet (eCall tupD (aCons (eVar 3) (aNil))))
abbrev f_events_of : SF := sSeq (sAsg (eLcK false (iIt (eVar 0)) (.one 4) (tTrue) (eCall (callP F_event_of) (aCons (eVar 4) (aCons (eVar 1) (aCons (eVar 2) (aNil)))))) (gNm 3)) (f_events_of_1)
def F_events_of := runP 3 5 f_events_of
def f_Road___init___1 : SF := sFldM ["Road"] "events" (eVar 0) (eCall tupD (aCons (eVar 3) (aNil)))
abbrev f_Road___init___2 : SF := sSeq (sFldM ["Road"] "servers" (eVar 0) (eVar 2)) (f_Road___init___1)
abbrev f_Road___init___3 : SF := sSeq (sFldM ["Road"] "callers" (eVar 0) (eVar 1)) (f_Road___init___2)
def f_Road___init___4 : SF := sSeq (sFldM ["Road"] "told_events" (eVar 0) (eCall (callP F_events_of) (aCons (eVar 3) (aCons (eVar 1) (aCons (eVar 2) (aNil)))))) (f_Road___init___3)
abbrev f_Road___init___5 : SF := sSeq (sIf (tNot (tVal (eCall (callP F_is_sequence) (aCons (eVar 3) (aNil))))) (sNo) (sNop)) (f_Road___init___4)
abbrev f_Road___init___6 : SF := sSeq (sIf (tNot (tVal (eCall (callP F_is_from) (aCons (eVar 2) (aCons (eC (.int 1)) (aNil)))))) (sNo) (sNop)) (f_Road___init___5)
abbrev f_Road___init__ : SF := sSeq (sIf (tNot (tVal (eCall (callP F_is_from) (aCons (eVar 1) (aCons (eC (.int 1)) (aNil)))))) (sNo) (sNop)) (f_Road___init___6)
def F_Road___init__ := runM 4 4 f_Road___init__
abbrev y_events_of_1 : SF := sAsg (eLcK false (iIt (eVar 0)) (.one 4) (tTrue) (eCall (callP F_event_of) (aCons (eVar 4) (aCons (eVar 1) (aCons (eVar 2) (aNil)))))) (gNm 3)
abbrev y_events_of_2 : SX := yRaise1 "InvalidEvent" "at" (aCons (eIdx (eVar 3) (eC .non)) (aNil))
abbrev y_events_of_3 : SX := ySeq (yIf (tVal (eOp inA (eC .non) (eVar 3))) (y_events_of_2) (yOf (sNop))) (yOf (sRet (eCall tupD (aCons (eVar 3) (aNil)))))
abbrev y_events_of : SX := ySeq (yOf (y_events_of_1)) (y_events_of_3)
def FX_events_of := runPX 3 5 y_events_of
theorem rx_events_of : RxP F_events_of FX_events_of := rx_run (rx_seq (rx_of) (rx_seq (rx_if (rx_no) (rx_of)) (rx_of)))
abbrev y_Road___init___1 : SX := yRaise1 "InvalidRoad" "word" (aCons (eC (.str "callers")) (aNil))
abbrev y_Road___init___2 : SX := yRaise1 "InvalidRoad" "word" (aCons (eC (.str "servers")) (aNil))
abbrev y_Road___init___3 : SX := yRaise1 "InvalidRoad" "word" (aCons (eC (.str "events")) (aNil))
abbrev y_Road___init___4 : SX := ySeq (yAsg (eCallX (callPX FX_events_of) (aCons (eVar 3) (aCons (eVar 1) (aCons (eVar 2) (aNil))))) (gFldM ["Road"] "told_events" (eVar 0))) (yOf (f_Road___init___3))
abbrev y_Road___init___5 : SX := ySeq (yIf (tNot (tVal (eCall (callP F_is_sequence) (aCons (eVar 3) (aNil))))) (y_Road___init___3) (yOf (sNop))) (y_Road___init___4)
abbrev y_Road___init___6 : SX := ySeq (yIf (tNot (tVal (eCall (callP F_is_from) (aCons (eVar 2) (aCons (eC (.int 1)) (aNil)))))) (y_Road___init___2) (yOf (sNop))) (y_Road___init___5)
abbrev y_Road___init__ : SX := ySeq (yIf (tNot (tVal (eCall (callP F_is_from) (aCons (eVar 1) (aCons (eC (.int 1)) (aNil)))))) (y_Road___init___1) (yOf (sNop))) (y_Road___init___6)
def FX_Road___init__ := runMX 4 4 y_Road___init__
theorem rx_Road___init__ : RxM F_Road___init__ FX_Road___init__ := rx_runM (rx_seq (rx_if (rx_no) (rx_of)) (rx_seq (rx_if (rx_no) (rx_of)) (rx_seq (rx_if (rx_no) (rx_of)) (rx_seq (rx_fldM (rx_call rx_events_of)) (rx_of)))))
abbrev f__law_value_1 (FR : List D → M → Option (D × M)) : SF := sRet (eIf (tVal (eOp eqD (eVar 2) (eC (.int 4)))) (eVar 3) (eCall tupD (aCons (eVar 3) (aNil))))
abbrev f__law_value_2 (FR : List D → M → Option (D × M)) : SF := sSeq (sAsg (eLcK false (iR1 (aCons (eCallM F__law_draw (aCons (eVar 0) (aCons (eC (.int 4)) (aNil)))) (aNil))) (.one 4) (tTrue) (eCallM FR (aCons (eVar 0) (aCons (eOp subD (eVar 1) (eC (.int 1))) (aNil))))) (gNm 3)) ((f__law_value_1 FR))
abbrev f__law_value_3 (FR : List D → M → Option (D × M)) : SF := sSeq (sIf (tVal (eOp ltD (eVar 2) (eC (.int 4)))) (sRet (eCallM F__law_pick (aCons (eVar 0) (aCons (eLst (aCons (eC (.str "")) (aCons (eC (.str "open")) (aCons (eC (.str "ok")) (aCons (eC (.str "fault")) (aCons (eC (.str "turn 0 0 ok")) (aCons (eC (.str "felt")) (aCons (eC (.str "all")) (aCons (eC (.str "x y")) (aNil)))))))))) (aNil))))) (sNop)) ((f__law_value_2 FR))
abbrev f__law_value_4 (FR : List D → M → Option (D × M)) : SF := sSeq (sIf (tVal (eOp eqD (eVar 2) (eC (.int 1)))) (sRet (eCallM F__law_pick (aCons (eVar 0) (aCons (eLst (aCons (eC .non) (aCons (eC (.bl true)) (aCons (eC (.bl false)) (aNil))))) (aNil))))) (sNop)) ((f__law_value_3 FR))
abbrev f__law_value_5 (FR : List D → M → Option (D × M)) : SF := sSeq (sIf (tVal (eOp eqD (eVar 2) (eC (.int 0)))) (sRet (eCallM F__law_pick (aCons (eVar 0) (aCons (eLst (aCons (eC (.int 0)) (aCons (eC (.int 1)) (aCons (eOp subD (eC (.int 0)) (eC (.int 7))) (aCons (eOp powD (eC (.int 10)) (eC (.int 20))) (aNil)))))) (aNil))))) (sNop)) ((f__law_value_4 FR))
abbrev f__law_value (FR : List D → M → Option (D × M)) : SF := sSeq (sAsg (eCallM F__law_draw (aCons (eVar 0) (aCons (eIf (tVal (eOp gtD (eVar 1) (eC (.int 0)))) (eC (.int 7)) (eC (.int 4))) (aNil)))) (gNm 2)) ((f__law_value_5 FR))
def F__law_value : Nat → List D → M → Option (D × M)
  | 0 => noM
  | n + 1 => runM 2 5 (f__law_value (F__law_value n))
abbrev y_Road_further_1 : SX := yRaise1 "InvalidRoad" "word" (aCons (eC (.str "events")) (aNil))
abbrev y_Road_further_2 : SX := yRet (eCallX (pureCX (newPX "Road" FX_Road___init__)) (aCons (eFld ["Road"] "callers" (eVar 0)) (aCons (eFld ["Road"] "servers" (eVar 0)) (aCons (eLst (aStar (eFld ["Road"] "events" (eVar 0)) (aStar (eVar 1) (aNil)))) (aNil)))))
abbrev y_Road_further : SX := ySeq (yIf (tNot (tVal (eCall (callP F_is_sequence) (aCons (eVar 1) (aNil))))) (y_Road_further_1) (yOf (sNop))) (y_Road_further_2)
def FX_Road_further := runPX 2 2 y_Road_further
def f__law_mixed_1 : SF := sDrop (eLm0 (fun _ => appL) (eVar 3) (aCons (eLm0 (fun _ => popAtL) (eVar 2) (aCons (eCallM F__law_draw (aCons (eVar 0) (aCons (eCall lenD (aCons (eVar 2) (aNil))) (aNil)))) (aNil))) (aNil)))
def f__law_mixed_2 : SF := sSeq (sWhile big (tVal (eOp neD (eVar 2) (eLst (aNil)))) (f__law_mixed_1)) (sRet (eVar 3))
def f__law_mixed : SF := sSeq (sPar [2, 3] (aCons (eLisN (eVar 1)) (aCons (eNewL (aNil)) (aNil)))) (f__law_mixed_2)
def F__law_mixed := runM 2 4 f__law_mixed
def f__law_bad_1 : SF := sRet (eOp addD (eVar 2) (eLst (aCons (eOp addD (eOp addD (eC (.str "told 0 ")) (eCall strT (aCons (eVar 0) (aNil)))) (eC (.str " 0"))) (aCons (eOp addD (eOp addD (eC (.str "told ")) (eCall strT (aCons (eVar 0) (aNil)))) (eC (.str " 0 0"))) (aCons (eOp addD (eC (.str "told 0 1 ")) (eCall strT (aCons (eVar 1) (aNil)))) (aNil))))))
def f__law_bad_2 : SF := sSeq (sAsg (eOp addD (eVar 2) (eLst (aCons (eTup (aCons (eC (.str "turn")) (aCons (eC (.int 0)) (aCons (eC (.int 0)) (aCons (eC (.str "ok")) (aNil)))))) (aCons (eLst (aCons (eC (.str "turn 0 0 ok")) (aNil))) (aNil))))) (gNm 2)) (f__law_bad_1)
def f__law_bad_3 : SF := sSeq (sAsg (eOp addD (eVar 2) (eLst (aCons (eOp addD (eOp addD (eC (.str "turn ")) (eCall strT (aCons (eVar 0) (aNil)))) (eC (.str " 0 ok"))) (aCons (eOp addD (eOp addD (eC (.str "turn 0 ")) (eCall strT (aCons (eVar 1) (aNil)))) (eC (.str " fault"))) (aNil))))) (gNm 2)) (f__law_bad_2)
def f__law_bad_4 : SF := sSeq (sAsg (eOp addD (eVar 2) (eLst (aCons (eC (.str "Turn 0 0 ok")) (aCons (eC (.str "turn  0 0 ok")) (aCons (eC (.str "turn 0 0\nok")) (aNil)))))) (gNm 2)) (f__law_bad_3)
def f__law_bad_5 : SF := sSeq (sAsg (eOp addD (eVar 2) (eLst (aCons (eC (.str "turn 0 -1 ok")) (aCons (eC (.str "turn 0 0 ok 0")) (aCons (eC (.str "told 0 0 0")) (aCons (eC (.str "told 0 1")) (aNil))))))) (gNm 2)) (f__law_bad_4)
def f__law_bad_6 : SF := sSeq (sAsg (eOp addD (eVar 2) (eLst (aCons (eC (.str "turn 0 0 ok ")) (aCons (eC (.str " turn 0 0 ok")) (aCons (eC (.str "turn 00 0 ok")) (aCons (eC (.str "late")) (aNil))))))) (gNm 2)) (f__law_bad_5)
def f__law_bad : SF := sSeq (sAsg (eLst (aCons (eC .non) (aCons (eC (.int 3)) (aCons (eC (.bl true)) (aCons (eC (.str "")) (aCons (eC (.str "turn")) (aCons (eC (.str "turn 0 0")) (aCons (eC (.str "turn 0 0 OK")) (aNil))))))))) (gNm 2)) (f__law_bad_6)
def F__law_bad := runP 2 3 f__law_bad
def f_law_1 : SF := sIf (tVal (eOp neD (eTold 13 "law.<locals>.<lambda>" 3 (eMthX "Road" "further" (callPX FX_Road_further) (eCall (pureC (newP "Road" F_Road___init__)) (aCons (eVar 6) (aCons (eVar 9) (aCons (eVar 11) (aNil))))) (aCons (eVar 10) (aNil))) h__law_told f__law_told_r) (eC (.str "events")))) (sRet (eC (.bl false))) (sNop)
def f_law_2 : SF := sSeq (sIf (tVal (eOp neD (eTold 13 "law.<locals>.<lambda>" 3 (eCallX (pureCX (newPX "Road" FX_Road___init__)) (aCons (eVar 6) (aCons (eVar 9) (aCons (eVar 10) (aNil))))) h__law_told f__law_told_r) (eC (.str "events")))) (sRet (eC (.bl false))) (sNop)) (f_law_1)
def f_law_3 : SF := sIf (tVal (eOp neD (eTold 13 "law.<locals>.<lambda>" 3 (eMthX "Road" "further" (callPX FX_Road_further) (eCall (pureC (newP "Road" F_Road___init__)) (aCons (eVar 6) (aCons (eVar 9) (aCons (eSl (eVar 5) (oNo) (oYes (eVar 8))) (aNil))))) (aCons (eCall tupD (aCons (eSl (eVar 5) (oYes (eVar 8)) (oNo)) (aNil))) (aNil))) h__law_told f__law_told_r) (eVar 4))) (sRet (eC (.bl false))) (sNop)
def f_law_4 : SF := sSeq (sAsg (eCallM F__law_draw (aCons (eVar 1) (aCons (eOp addD (eVar 4) (eC (.int 1))) (aNil)))) (gNm 8)) (f_law_3)
def f_law_5 : SF := sSeq (sIf (tVal (eOp neD (eTold 13 "law.<locals>.<lambda>" 3 (eCallX (pureCX (newPX "Road" FX_Road___init__)) (aCons (eVar 6) (aCons (eVar 9) (aCons (eVar 5) (aNil))))) h__law_told f__law_told_r) (eVar 4))) (sRet (eC (.bl false))) (sNop)) (f_law_4)
def f_law_6 : SF := sSeq (sAsg (eOp addD (eOp addD (eOp addD (eSl (eVar 11) (oNo) (oYes (eVar 4))) (eLst (aCons (eVar 3) (aNil)))) (eSl (eVar 11) (oYes (eVar 4)) (oNo))) (eLst (aCons (eC .non) (aNil)))) (gNm 5)) (f_law_5)
def f_law_7 : SF := sSeq (sAsg (eCallM F__law_draw (aCons (eVar 1) (aCons (eOp addD (eCall lenD (aCons (eVar 11) (aNil))) (eC (.int 1))) (aNil)))) (gNm 4)) (f_law_6)
def f_law_8 : SF := sForA big (eOp addD (eSl (eCallM F__law_mixed (aCons (eVar 1) (aCons (eCall (callP F__law_bad) (aCons (eVar 6) (aCons (eVar 9) (aNil)))) (aNil)))) (oNo) (oYes (eC (.int 9)))) (eLst (aCons (eLst (aCons (eCallM (F__law_value 10) (aCons (eVar 1) (aCons (eC (.int 7)) (aNil)))) (aNil))) (aNil)))) (gTgt (.one 3)) (f_law_7)
def f_law_9 : SF := sSeq (sFor (iIt (eTup (aCons (eC .non) (aCons (eC (.str "turn 0 0 ok")) (aCons (eC (.int 3)) (aCons (eC (.bl true)) (aCons (eCall (dflt (pureC (newP "Road" F_Road___init__))) (aCons (eC (.int 1)) (aCons (eC (.int 1)) (aNil)))) (aNil)))))))) (gTgt (.one 10)) (f_law_2)) (f_law_8)
def f_law_10 : SF := sSeq (sIf (tVal (eOp neD (eTold 13 "law.<locals>.<lambda>" 3 (eCallX (pureCX (newPX "Road" FX_Road___init__)) (aCons (eVar 6) (aCons (eVar 7) (aCons (eC (.int 3)) (aNil))))) h__law_told f__law_told_r) (eC (.str "servers")))) (sRet (eC (.bl false))) (sNop)) (f_law_9)
def f_law_11 : SF := sSeq (sIf (tVal (eOp neD (eTold 13 "law.<locals>.<lambda>" 3 (eCallX (pureCX (newPX "Road" FX_Road___init__)) (aCons (eVar 7) (aCons (eVar 7) (aCons (eC .non) (aNil))))) h__law_told f__law_told_r) (eC (.str "callers")))) (sRet (eC (.bl false))) (sNop)) (f_law_10)
def f_law_12 : SF := sSeq (sAsg (eCallM F__law_pick (aCons (eVar 1) (aCons (eLst (aCons (eC (.int 0)) (aCons (eOp subD (eC (.int 0)) (eC (.int 1))) (aCons (eC .non) (aCons (eC (.bl true)) (aCons (eC (.str "1")) (aCons (eLst (aCons (eC (.int 2)) (aNil))) (aCons (eLst (aCons (eCallM (F__law_value 10) (aCons (eVar 1) (aCons (eC (.int 2)) (aNil)))) (aNil))) (aNil))))))))) (aNil)))) (gNm 7)) (f_law_11)
def f_law_13 : SF := sSeq (sIf (tVal (eNotN (eTold 13 "law.<locals>.<lambda>" 3 (eCallX (pureCX (newPX "Road" FX_Road___init__)) (aCons (eVar 6) (aCons (eVar 9) (aCons (eVar 11) (aNil))))) h__law_told f__law_told_r))) (sRet (eC (.bl false))) (sNop)) (f_law_12)
def f_law_14 : SF := sSeq (sAsg (eLcK false (iR1 (aCons (eCallM F__law_draw (aCons (eVar 1) (aCons (eC (.int 9)) (aNil)))) (aNil))) (.one 12) (tTrue) (eCallM F__law_good (aCons (eVar 1) (aCons (eVar 6) (aCons (eVar 9) (aNil)))))) (gNm 11)) (f_law_13)
def f_law_15 : SF := sSeq (sAsg (eTup (aCons (eOp addD (eC (.int 1)) (eCallM F__law_draw (aCons (eVar 1) (aCons (eC (.int 4)) (aNil))))) (aCons (eOp addD (eC (.int 1)) (eCallM F__law_draw (aCons (eVar 1) (aCons (eC (.int 12)) (aNil))))) (aNil)))) (gTgt (.many [6, 9]))) (f_law_14)
def f_law_16 : SF := sRet (eIsN (eTold 13 "law.<locals>.<lambda>" 3 (eCallX (pureCX (newPX "Road" FX_Road___init__)) (aCons (eC (.int 4)) (aCons (eC (.int 12)) (aCons (eLst (aCons (eC (.str "told 3 2 11")) (aCons (eC (.str "turn 3 11 fault")) (aNil)))) (aNil))))) h__law_told f__law_told_r))
def f_law_17 : SF := sSeq (sFor (iR1 (aCons (eC (.int 8)) (aNil))) (gTgt (.one 2)) (f_law_15)) (f_law_16)
abbrev f_law : SF := sSeq (sAsg (eCallM F__law_deal (aCons (eVar 0) (aCons (eC (.int 0)) (aNil)))) (gNm 1)) (f_law_17)
def F_law := runG 1 14 13 "law.<locals>.<lambda>" f_law
end L4
namespace L4
open PySem
inductive Bk where | half | opn | trial
inductive Hr where | fault | no | out
structure Ru where
  need : Int
  of : Int
  base : Int
  more : Int
  most : Int
  calm : Int
  back : Bk
  top : Int
  under : Int
  up : Bool
  hears : Hr
  cap : Int
def Bk.s : Bk → Str
  | .half => "half"
  | .opn => "open"
  | .trial => "trial"
def Hr.s : Hr → Str
  | .fault => "fault"
  | .no => "no"
  | .out => "out"
def ruNames : List Str := ["need", "of", "base", "more", "most", "calm", "back", "top", "under", "up", "hears", "cap"]
def Ru.vals (r : Ru) : List D := [.int r.need, .int r.of, .int r.base, .int r.more, .int r.most, .int r.calm, .str r.back.s, .int r.top, .int r.under, .bl r.up, .str r.hears.s, .int r.cap]
def Ru.d (r : Ru) : D := .obj "Rule" ruNames r.vals
/-- small numbers -/
structure Ru.Ok (r : Ru) : Prop where
  n1 : 1 ≤ r.need
  n2 : r.need ≤ r.of
  n3 : r.of ≤ 100
  m1 : 0 ≤ r.more
  m2 : r.more ≤ 1000
  b1 : 1 ≤ r.base
  b2 : r.base ≤ r.most
  c0 : 0 ≤ r.calm
  k1 : 1 ≤ r.cap
inductive Sd where
  | inn (w : List Bool) (times calm : Int)
  | out (left times : Int)
  | trial (times : Int)
deriving DecidableEq
def Sd.d : Sd → D
  | .inn w t c => .tup [.str "in", .tup (w.map .bl), .int t, .int c]
  | .out l t => .tup [.str "out", .int l, .int t]
  | .trial t => .tup [.str "trial", .int t]
inductive Lt where | fault | faultFull | ok | told | toldFull
deriving DecidableEq
def Lt.s : Lt → Str
  | .fault => "fault"
  | .faultFull => "fault full"
  | .ok => "ok"
  | .told => "told"
  | .toldFull => "told full"
inductive Wh where | felt | missed | skip | ok | told
deriving DecidableEq
def Wh.s : Wh → Str
  | .felt => "felt"
  | .missed => "missed"
  | .skip => "skip"
  | .ok => "ok"
  | .told => "told"
section
variable {r : Ru} {m : M}
theorem ru_ins : insOf m r.d = some (("Rule" : Str), ruNames, r.vals) := rfl
theorem ru_c1 : (["Rule"] : List Str).contains "Rule" = true := by decide +kernel
theorem ru_need : fldAt ruNames r.vals "need" = some (.int r.need) := by kernel_rfl
theorem ru_of : fldAt ruNames r.vals "of" = some (.int r.of) := by kernel_rfl
theorem ru_base : fldAt ruNames r.vals "base" = some (.int r.base) := by kernel_rfl
theorem ru_more : fldAt ruNames r.vals "more" = some (.int r.more) := by kernel_rfl
theorem ru_most : fldAt ruNames r.vals "most" = some (.int r.most) := by kernel_rfl
theorem ru_calm : fldAt ruNames r.vals "calm" = some (.int r.calm) := by kernel_rfl
theorem ru_back : fldAt ruNames r.vals "back" = some (.str r.back.s) := by kernel_rfl
theorem ru_top : fldAt ruNames r.vals "top" = some (.int r.top) := by kernel_rfl
theorem ru_under : fldAt ruNames r.vals "under" = some (.int r.under) := by kernel_rfl
theorem ru_up : fldAt ruNames r.vals "up" = some (.bl r.up) := by kernel_rfl
theorem ru_hears : fldAt ruNames r.vals "hears" = some (.str r.hears.s) := by kernel_rfl
theorem ru_cap : fldAt ruNames r.vals "cap" = some (.int r.cap) := by kernel_rfl
theorem ru_ntime : ruNames.contains "time" = false := by kernel_rfl
theorem eqB {o : Option D} {b : Bool} (h : (match o with | some (.bl c) => c == b | _ => false) = true) : o = some (.bl b) := by
  split at h
  · rw [eq_of_beq h]
  · cases h
theorem eq_int {i j : Int} : eqD m (.int i) (.int j) = some (.bl (i == j)) := by
  have hi : ∀ i : Int, pdM m (.int i) = some (.int i) := fun i => by
    have h1 : SeqAt.shaped (PyData.int i) = true := rfl
    simp [pdM, frz, pureD, pd, h1]
  simp [eqD, hi, PyData.eqv]
theorem callP_pure {F : List D → Option D} {ds : List D} (h : pureL ds = true) : callP F m ds = F ds := by unfold callP; rw [if_pos h]
end
def Ru.time (r : Ru) (j : Int) : Int := if r.most < r.base + r.more * (j - 1) then r.most else r.base + r.more * (j - 1)
theorem runP_rt {a n : Nat} {b : SF} {ds : List D} {d : D} {m : M} (e : b (startD n ds) [] = some (.rt d, m)) (hl : ds.length = a) (hp : pureD d = true) : runP a n b ds = some d := by
  unfold runP
  rw [if_pos hl, e]
  show frz m d = some d
  unfold frz
  rw [if_pos hp]
def Ru.leftOut (r : Ru) (t : Int) : Sd := .out (r.time (if r.cap < t + 1 then r.cap else t + 1)) (if r.cap < t + 1 then r.cap else t + 1)
section
variable {r : Ru} {m : M}
def Ru.faults (r : Ru) : Int := if r.back matches .half then r.need - (r.need + 1) / 2 else 0
def Ru.comeBack (r : Ru) (t : Int) : Sd := if r.back matches .trial then .trial t else .inn (List.replicate r.faults.toNat true) t 0
def Ru.atTry (r : Ru) (s : Sd) (t : Int) (room : Bool) : Sd × Bool := if room then (r.leftOut t, false) else (s, true)
/-- the last answers -/
def Ru.cut (r : Ru) (w : List Bool) (b : Bool) : List Bool := cutD (w ++ [b]) (some (-r.of)) none
def Ru.afterOk (r : Ru) (w : List Bool) (t c : Int) : Sd := if (t == 0 || r.calm == 0) = true then .inn (r.cut w false) t 0 else if r.calm ≤ c + 1 then .inn (r.cut w false) 0 0 else .inn (r.cut w false) t (c + 1)
def nTrue (w : List Bool) : Int := ((w.filter id).length : Nat)
def Ru.afterFault (r : Ru) (w : List Bool) (t : Int) (room : Bool) : Sd × Bool := if nTrue (r.cut w true) < r.need then (.inn (r.cut w true) t 0, false) else r.atTry (.inn (r.cut w true) t 0) t room
def Ru.afterTurn (r : Ru) (s : Sd) (fault room : Bool) : Sd × Wh × Bool := match s with
  | .out l t => (if l == 1 then r.comeBack t else .out (l - 1) t, if fault then .skip else .missed, false)
  | .trial t => if fault then (r.leftOut t, .felt, false) else (.inn [] t 0, .ok, false)
  | .inn w t c => if fault then ((r.afterFault w t room).1, .felt, (r.afterFault w t room).2) else (r.afterOk w t c, .ok, false)
def Ru.afterWord (r : Ru) (s : Sd) (room : Bool) : Sd × Bool := match s with
  | .inn w t c => if r.hears matches .no then (.inn w t c, false) else if r.hears matches .out then r.atTry (.inn w t c) t room else r.afterFault w t room
  | s => (s, false)
def Ru.room (r : Ru) (full : Bool) : Bool := decide (0 < r.top) && (!full || r.top == r.under)
def Lt.full : Lt → Bool
  | .faultFull => true
  | .toldFull => true
  | _ => false
def Lt.isTold : Lt → Bool
  | .told => true
  | .toldFull => true
  | _ => false
def Lt.isFault : Lt → Bool
  | .fault => true
  | .faultFull => true
  | _ => false
def Ru.step (r : Ru) (s : Sd) (l : Lt) : Sd × Wh := if l.isTold then ((r.afterWord s (r.room l.full)).1, .told) else ((r.afterTurn s l.isFault (r.room l.full)).1, (r.afterTurn s l.isFault (r.room l.full)).2.1)
end
end L4
namespace L4
open PySem
def Sd.In (r : Ru) : Sd → Prop
  | .inn w t c => (w.length : Int) ≤ r.of ∧ 0 ≤ t ∧ t ≤ r.cap ∧ 0 ≤ c ∧ c ≤ r.calm
  | .out l t => 1 ≤ l ∧ l ≤ r.most ∧ 1 ≤ t ∧ t ≤ r.cap
  | .trial t => 1 ≤ t ∧ t ≤ r.cap
def begun : Sd := .inn [] 0 0
end L4
namespace L4
namespace Bf
variable {α β : Type} [DecidableEq α]
structure Gr (α β : Type) where
  ls : List β
  nx : α → β → α
  hit : α → β → Bool
  b0 : α
variable (g : Gr α β)
def run (x : α) : List β → α
  | [] => x
  | l :: w => run (g.nx x l) w
abbrev Vs (α β : Type) := List (Option (α × β))
/-- what is known: ws found so far (in turn), by vs, at depths ds -/
structure Known (ws : List α) (vs : Vs α β) (ds : List Nat) : Prop where
  lv : vs.length = ws.length
  ld : ds.length = ws.length
  nd : ws.Nodup
  h0 : ws[0]? = some g.b0 ∧ vs[0]? = some none ∧ ds[0]? = some 0
  by_ : ∀ (i : Nat) x, 0 < i → ws[i]? = some x → ∃ j y l d, j < i ∧ ws[j]? = some y ∧ vs[i]? = some (some (y, l)) ∧ x = g.nx y l ∧ l ∈ g.ls ∧ ds[j]? = some d ∧ ds[i]? = some (d + 1)
  up : ∀ (i j a b : Nat), i ≤ j → ds[i]? = some a → ds[j]? = some b → a ≤ b
/-- the letters of one place are dealt with -/
def Done (ws : List α) (ds : List Nat) (i : Nat) (ls : List β) : Prop := ∀ x d, ws[i]? = some x → ds[i]? = some d → ∀ l ∈ ls, g.hit x l = false ∧ ∃ (k : Nat) (e : Nat), ws[k]? = some (g.nx x l) ∧ ds[k]? = some e ∧ e ≤ d + 1
structure Inv (at_ : Nat) (pre : List β) (ws : List α) (vs : Vs α β) (ds : List Nat) : Prop extends Known g ws vs ds where
  low : ∀ i, i < at_ → Done g ws ds i g.ls
  cur : Done g ws ds at_ pre
  near : ∀ (j : Nat) a b, ds[at_]? = some a → ds[j]? = some b → b ≤ a + 1
variable {g}
theorem getq {γ : Type} {l : List γ} {x : γ} (k : Nat) : (l ++ [x])[k]? = if k < l.length then l[k]? else if k = l.length then some x else none := by
  by_cases h : k < l.length
  · rw [if_pos h, List.getElem?_append_left h]
  · rw [if_neg h, List.getElem?_append_right (by omega)]
    by_cases h2 : k = l.length
    · rw [if_pos h2, h2]; simp
    · rw [if_neg h2]
      rw [List.getElem?_eq_none (by simp; omega)]
theorem old {γ : Type} {l : List γ} {x y : γ} {k : Nat} (h : l[k]? = some y) : (l ++ [x])[k]? = some y := by
  rw [getq, if_pos (List.getElem?_eq_some_iff.mp h).1]; exact h
theorem new {γ : Type} {l : List γ} {x : γ} : (l ++ [x])[l.length]? = some x := by rw [getq, if_neg (Nat.lt_irrefl _), if_pos rfl]
theorem was {γ : Type} {l : List γ} {x y : γ} {k : Nat} (h : (l ++ [x])[k]? = some y) : l[k]? = some y ∨ (k = l.length ∧ y = x) := by
  rw [getq] at h
  split at h
  · exact .inl h
  · split at h
    · next e => cases h; exact .inr ⟨e, rfl⟩
    · cases h
theorem Done.more {ws : List α} {ds : List Nat} {i : Nat} {ls : List β} (h : Done g ws ds i ls) (hl : ds.length = ws.length) (hi : i < ws.length) (y : α) (e : Nat) : Done g (ws ++ [y]) (ds ++ [e]) i ls := by
  intro x d hx hd l hl2
  rw [List.getElem?_append_left hi] at hx
  rw [List.getElem?_append_left (by omega)] at hd
  obtain ⟨h1, k, f, h2, h3, h4⟩ := h x d hx hd l hl2
  exact ⟨h1, k, f, old h2, old h3, h4⟩
/-- one letter that hits nothing -/
theorem Inv.step {at_ : Nat} {pre : List β} {ws : List α} {vs : Vs α β} {ds : List Nat} {x : α} {l : β} {d : Nat} (I : Inv g at_ pre ws vs ds) (hx : ws[at_]? = some x) (hd : ds[at_]? = some d) (hl : l ∈ g.ls) (hh : g.hit x l = false) :
    (g.nx x l ∈ ws → Inv g at_ (pre ++ [l]) ws vs ds) ∧ (g.nx x l ∉ ws → Inv g at_ (pre ++ [l]) (ws ++ [g.nx x l]) (vs ++ [some (x, l)]) (ds ++ [d + 1])) := by
  have ha : at_ < ws.length := (List.getElem?_eq_some_iff.mp hx).1
  refine ⟨fun hm => ?_, fun hm => ?_⟩
  · refine ⟨I.toKnown, I.low, ?_, I.near⟩
    intro y e hy he l2 hl2
    rcases List.mem_append.mp hl2 with h | h
    · exact I.cur y e hy he l2 h
    · rw [List.mem_singleton.mp h]
      rw [hx] at hy; cases hy
      rw [hd] at he; cases he
      obtain ⟨k, hk, ek⟩ := List.getElem_of_mem hm
      have hk2 : k < ds.length := by rw [I.ld]; exact hk
      exact ⟨hh, k, ds[k], by rw [List.getElem?_eq_getElem hk, ek], List.getElem?_eq_getElem hk2, I.near k _ _ hd (List.getElem?_eq_getElem hk2)⟩
  · have lv := I.lv
    have ld := I.ld
    refine ⟨⟨by simp [lv], by simp [ld], ?_, ⟨old I.h0.1, old I.h0.2.1, old I.h0.2.2⟩, ?_, ?_⟩, fun i hi => (I.low i hi).more ld (by omega) _ _, ?_, ?_⟩
    · exact List.nodup_append.mpr ⟨I.nd, by simp, fun a ha b hb => by rw [List.mem_singleton.mp hb]; rintro rfl; exact hm ha⟩
    · intro i y hi hy
      rcases was hy with h | ⟨h, rfl⟩
      · obtain ⟨j, z, l2, e, q1, q2, q3, q4, q5, q6, q7⟩ := I.by_ i y hi h
        exact ⟨j, z, l2, e, q1, old q2, old q3, q4, q5, old q6, old q7⟩
      · refine ⟨at_, x, l, d, by omega, old hx, ?_, rfl, hl, old hd, ?_⟩
        · rw [h, ← lv]; exact new
        · rw [h, ← ld]; exact new
    · intro i j a b hij h1 h2
      rcases was h1 with h1 | ⟨e1, rfl⟩ <;> rcases was h2 with h2 | ⟨e2, rfl⟩
      · exact I.up i j a b hij h1 h2
      · exact I.near i _ _ hd h1
      · have := (List.getElem?_eq_some_iff.mp h2).1
        omega
      · exact Nat.le_refl _
    · intro y e hy he l2 hl2
      rw [List.getElem?_append_left ha] at hy
      rw [List.getElem?_append_left (by omega)] at he
      rcases List.mem_append.mp hl2 with h | h
      · obtain ⟨h1, k, f, h2, h3, h4⟩ := I.cur y e hy he l2 h
        exact ⟨h1, k, f, old h2, old h3, h4⟩
      · rw [List.mem_singleton.mp h]
        rw [hx] at hy; cases hy
        rw [hd] at he; cases he
        refine ⟨hh, ws.length, d + 1, new, ?_, Nat.le_refl _⟩
        rw [← ld]; exact new
    · intro j a b h1 h2
      rw [List.getElem?_append_left (by omega), hd] at h1
      cases h1
      rcases was h2 with h2 | ⟨_, rfl⟩
      · exact I.near j _ _ hd h2
      · exact Nat.le_refl _
/-- on to the next place -/
theorem Inv.next {at_ : Nat} {ws : List α} {vs : Vs α β} {ds : List Nat} (I : Inv g at_ g.ls ws vs ds) : Inv g (at_ + 1) [] ws vs ds := by
  refine ⟨I.toKnown, fun i hi => ?_, fun x d _ _ l hl => (nomatch hl), fun j a b h1 h2 => ?_⟩
  · rcases Nat.lt_or_ge i at_ with h | h
    · exact I.low i h
    · have : i = at_ := by omega
      subst this
      exact I.cur
  · have hl : at_ < ds.length := by have := (List.getElem?_eq_some_iff.mp h1).1; omega
    have h3 := I.up at_ (at_ + 1) _ _ (by omega) (List.getElem?_eq_getElem hl) h1
    have h4 := I.near j _ _ (List.getElem?_eq_getElem hl) h2
    omega
end Bf
end L4
namespace L4
open PySem
section
variable {m : M}
abbrev PP := Sd × Sd
def pdd (x : PP) : D := .tup [x.1.d, x.2.d]
def vdd : Option (PP × Lt) → D
  | none => .non
  | some (x, l) => .tup [pdd x, .str l.s]
theorem pureL_map {α : Type} {f : α → D} (h : ∀ a, pureD (f a) = true) : ∀ l : List α, pureL (l.map f) = true
  | [] => rfl
  | a :: l => by simp [pureL, h a, pureL_map h l]
theorem mapO_self {f : D → Option D} : ∀ {ds : List D}, (∀ d ∈ ds, f d = some d) → mapO f ds = some ds
  | [], _ => rfl
  | d :: ds, h => by
    unfold mapO
    rw [h d (List.mem_cons_self ..), mapO_self fun e he => h e (List.mem_cons_of_mem _ he)]
def hm (ws : List PP) (vs : Bf.Vs PP Lt) : M := [.dic (ws.map pdd) (vs.map vdd), .lst (ws.map pdd)]
end
end L4
namespace L4
open PySem
end L4
namespace L4
open PySem
/-- the arguments as a tuple -/
def Ru.args (r : Ru) : List D := [.int r.need, .int r.of, .int r.base, .int r.more, .int r.most, .int r.calm, .str r.back.s, .int r.top, .int r.under, .bl r.up, .str r.hears.s]
section
variable {r : Ru} {m : M}
theorem isi_int (i : Int) : isiD m [.int i, .ty "int"] = some (.bl true) := by kernel_rfl
theorem isi_intb (i : Int) : isiD m [.int i, .ty "bool"] = some (.bl false) := by kernel_rfl
theorem isint_ok (i : Int) : F_is_integer [.int i] = some (.bl true) := by
  refine runP_rt (b := f_is_integer) (m := []) ?_ rfl rfl
  show f_is_integer [some (.int i)] [] = _
  simp only [f_is_integer, sRet, eAnd, eNot, eCall, aCons, aNil, eVar, eC, List.getD_cons_zero, pu_go, bd_go, isi_int, isi_intb, Bool.not_false]
theorem isfrom_ok (i j : Int) : F_is_from [.int i, .int j] = some (.bl (decide (j ≤ i))) := by
  have hp : ∀ i : Int, pureL [.int i] = true := fun i => rfl
  refine runP_rt (b := f_is_from) (m := []) ?_ rfl rfl
  show f_is_from [some (.int i), some (.int j)] [] = _
  simp only [f_is_from, sRet, eAnd, eCall, eOp, aCons, aNil, eVar, eC, List.getD_cons_zero, List.getD_cons_succ, pu_go, bd_go, callP_pure (hp _), isint_ok, geD]
end
end L4
namespace L4
open PySem
section
variable {m : M} {n d : Nat}
theorem frz_p {x : D} (h : pureD x = true) : frz m x = some x := by unfold frz; rw [if_pos h]
end
end L4
namespace L4
open PySem
end L4
namespace L4
open PySem
def nS (i : Int) : Str := toString i
theorem w_str_i {m : M} {i : Int} (h0 : 0 ≤ i) (h1 : i < 100) : strT m [.int i] = some (.str (nS i)) := by
  have hz : i.natAbs.log2 < 1920 := by
    have : i.natAbs.log2 ≤ i.natAbs := Nat.log2_le_self _
    omega
  show (if i.natAbs.log2 < 1920 then some (D.str (toString i)) else none) = _
  rw [if_pos hz]
  rfl
def okN (o : Option D) (n : Nat) : Bool := match o with
  | some (.int i) => i == (n : Int)
  | _ => false
theorem okN_eq {o : Option D} {n : Nat} (h : okN o n = true) : o = some (.int n) := by
  unfold okN at h
  split at h
  · rw [eq_of_beq h]
  · cases h
theorem nin_tbl : ((List.range 100).all fun n => okN (F_number_in [.str (nS (n : Nat)), .int 2]) n) = true := by decide +kernel
theorem nsg_tbl : ((List.range 100).all fun n => !(nS (n : Nat)).cps.toList.contains 32 && !(nS (n : Nat)).cps.toList.contains 47 && decide ((nS (n : Nat)).cps.toList.length ≤ 2) && PyData.strOk (nS (n : Nat))) = true := by decide +kernel
theorem nin_ok {i : Int} (h0 : 0 ≤ i) (h1 : i < 100) : F_number_in [.str (nS i), .int 2] = some (.int i) := by
  obtain ⟨n, rfl⟩ := Int.eq_ofNat_of_zero_le h0
  have hn : n < 100 := by omega
  exact okN_eq (List.all_eq_true.mp nin_tbl n (List.mem_range.mpr hn))
structure NSg (i : Int) : Prop where
  b : 32 ∉ (nS i).cps.toList
  s : 47 ∉ (nS i).cps.toList
  l : (nS i).cps.toList.length ≤ 2
  ok : PyData.strOk (nS i) = true
theorem nsg_ok {i : Int} (h0 : 0 ≤ i) (h1 : i < 100) : NSg i := by
  obtain ⟨n, rfl⟩ := Int.eq_ofNat_of_zero_le h0
  have hn : n < 100 := by omega
  have h := List.all_eq_true.mp nsg_tbl n (List.mem_range.mpr hn)
  simp only [Bool.and_eq_true, Bool.not_eq_true', decide_eq_true_eq, List.contains_eq_mem, decide_eq_false_iff_not] at h
  obtain ⟨⟨⟨a, b⟩, c⟩, d⟩ := h
  exact ⟨a, b, c, d⟩
theorem one_blank : (" " : Str).cps.toList = [32] := by kernel_rfl
section
variable {r : Ru} {m : M}
theorem len_nS {i : Int} (h : 0 ≤ i ∧ i < 100) : (nS i).length ≤ 2 := by rw [slen]; exact (nsg_ok h.1 h.2).l
end
end L4
namespace L4
open PySem
def isT : Option D → Bool
  | some (.bl true) => true
  | _ => false
theorem cut_ints (ns : List Int) (lo hi : Option Int) : ∃ ms : List Int, cutD (ns.map D.int) lo hi = ms.map D.int ∧ ms.length ≤ ns.length := by
  refine ⟨(ns.drop (HT.sIx ns.length 0 lo)).take (HT.sIx ns.length ns.length hi - HT.sIx ns.length 0 lo), ?_, ?_⟩
  · unfold cutD
    rw [List.length_map, ← List.map_drop, ← List.map_take]
  · simp; omega
abbrev dKS : List D := [.str "great", .str "now", .str "mixed", .str "turn"]
abbrev dSt (gs : List Int) (a b c : Int) (rest : M) : M := .lst (gs.map D.int) :: .dic dKS [.ref 0, .int a, .int b, .int c] :: rest
section
variable {gs : List Int} {a b c k : Int} {rest : M} {d : D}
theorem dx_great : ixA (dSt gs a b c rest) (.ref 1) (.str "great") = some (.ref 0) := by kernel_rfl
theorem dx_now : ixA (dSt gs a b c rest) (.ref 1) (.str "now") = some (.int a) := by kernel_rfl
theorem dx_mixed : ixA (dSt gs a b c rest) (.ref 1) (.str "mixed") = some (.int b) := by kernel_rfl
theorem dx_turn : ixA (dSt gs a b c rest) (.ref 1) (.str "turn") = some (.int c) := by kernel_rfl
theorem ds_now : setM (dSt gs a b c rest) (.ref 1) (.str "now") (.int k) = some (dSt gs k b c rest) := by kernel_rfl
theorem ds_mixed : setM (dSt gs a b c rest) (.ref 1) (.str "mixed") (.int k) = some (dSt gs a k c rest) := by kernel_rfl
theorem ds_turn : setM (dSt gs a b c rest) (.ref 1) (.str "turn") (.int k) = some (dSt gs a b k rest) := by kernel_rfl
theorem dl_great {m : M} : lenD (.lst (gs.map D.int) :: m) [.ref 0] = some (.int gs.length) := by simp [lenD, lstR, lstOf, lstO]
theorem dr_while {k : Option D} {x y z : Option D} (ha : 0 ≤ a) (hg : ∀ g ∈ gs, 0 ≤ g) : ∀ n : Nat, gs.length < n → ∃ (gs' : List Int) (a' : Int), 0 ≤ a' ∧ (∀ g ∈ gs', 0 ≤ g) ∧ gs'.length ≤ gs.length ∧
    sWhile n (tAnd (tVal (eOp eqD (eOp ixA (eVar 0) (eC (.str "now"))) (eC (.int 0)))) (tVal (eOp gtD (eCall lenD (aCons (eOp ixA (eVar 0) (eC (.str "great"))) (aNil))) (eC (.int 0))))) f__law_draw_1 [some (.ref 1), k, x, y, z] (dSt gs a b c rest) = some (.nx [some (.ref 1), k, x, y, z], dSt gs' a' b c rest) := by
  intro n
  induction n generalizing gs a with
  | zero => intro h; omega
  | succ n ih =>
    intro hn
    by_cases h0 : a = 0
    · subst h0
      cases hgs : gs.reverse with
      | nil =>
        have : gs = [] := by simpa using hgs
        subst this
        refine ⟨[], 0, by omega, by simp, by simp, ?_⟩
        simp [sWhile, tAnd, tVal, eOp, eVar, eC, eCall, aCons, aNil, dx_now, dx_great, eq_int, dl_great, gtD]
      | cons g r =>
        have e : gs = r.reverse ++ [g] := by
          have := congrArg List.reverse hgs
          simpa using this
        subst e
        have h1 : ∀ g' ∈ r.reverse, 0 ≤ g' := fun g' h => hg g' (List.mem_append_left _ h)
        have h2 : 0 ≤ g := hg g (by simp)
        obtain ⟨gs', a', q1, q2, q3, q4⟩ := ih (gs := r.reverse) (a := g) h2 h1 (by simp at hn ⊢; omega)
        refine ⟨gs', a', q1, q2, by simp at q3 ⊢; omega, ?_⟩
        unfold sWhile
        have hc : (tAnd (tVal (eOp eqD (eOp ixA (eVar 0) (eC (.str "now"))) (eC (.int 0)))) (tVal (eOp gtD (eCall lenD (aCons (eOp ixA (eVar 0) (eC (.str "great"))) (aNil))) (eC (.int 0)))))
            [some (.ref 1), k, x, y, z] (dSt (r.reverse ++ [g]) 0 b c rest) = some (true, dSt (r.reverse ++ [g]) 0 b c rest) := by
          have hl : (0 : Int) < ((r.reverse ++ [g]).length : Int) := by
            rw [List.length_append, List.length_singleton]; omega
          simp only [tAnd, tVal, eOp, eVar, eC, eCall, aCons, aNil, List.getD_cons_zero, pu_go, bd_go, dx_now, dx_great, eq_int, dl_great, gtD]
          simp [hl]
        have hb : f__law_draw_1 [some (.ref 1), k, x, y, z] (dSt (r.reverse ++ [g]) 0 b c rest) = some (.nx [some (.ref 1), k, x, y, z], dSt r.reverse g b c rest) := by
          have hp : popL ((r.reverse ++ [g]).map D.int) [] = some (.int g, r.reverse.map D.int) := by simp [popL]
          simp only [f__law_draw_1, sAsg, eLm0, eOp, eVar, eC, aNil, List.getD_cons_zero, pu_go, bd_go, dx_great, List.getElem?_cons_zero, hp, List.set_cons_zero, gSetA, Option.map_some, Option.bind_some, lstO]
          rw [show (O.lst (List.map D.int r.reverse) :: O.dic dKS [.ref 0, .int 0, .int b, .int c] :: rest : M) = dSt r.reverse 0 b c rest from rfl, ds_now]
          rfl
        simp only [hc, bd_go, if_true, hb, q4]
    · refine ⟨gs, a, ha, hg, Nat.le_refl _, ?_⟩
      have : (a == 0) = false := by simpa using h0
      simp [sWhile, tAnd, tVal, eOp, eVar, eC, dx_now, eq_int, this]
theorem draw_ok (ha : 0 ≤ a) (hg : ∀ g ∈ gs, 0 ≤ g) (hl : gs.length < 1000) (h1 : 1 ≤ k) (h2 : k < 1073741824) : ∃ (r : Int) (gs' : List Int) (a' b' c' : Int), 0 ≤ r ∧ r < k ∧ 0 ≤ a' ∧ (∀ g ∈ gs', 0 ≤ g) ∧ gs'.length ≤ gs.length ∧
    F__law_draw [.ref 1, .int k] (dSt gs a b c rest) = some (.int r, dSt gs' a' b' c' rest) := by
  obtain ⟨gs1, a1, p1, p2, p3, p4⟩ := dr_while (b := b) (c := c) (rest := rest) (k := some (.int k)) (x := none) (y := none) (z := none) ha hg big (by unfold big; omega)
  have key : ∃ (r : Int) (a' b' c' : Int), 0 ≤ r ∧ r < k ∧ 0 ≤ a' ∧ f__law_draw_8 [some (.ref 1), some (.int k), none, none, none] (dSt gs1 a1 b c rest) = some (.rt (.int r), dSt gs1 a' b' c' rest) := by
    by_cases h : 0 < a1
    · refine ⟨a1 % k, a1 / k, b, c, Int.emod_nonneg _ (by omega), Int.emod_lt_of_pos _ (by omega), Int.ediv_nonneg p1 (by omega), ?_⟩
      have hk : 0 < k := by omega
      simp only [f__law_draw_8, f__law_draw_2, sSeq, sIf, tVal, sAsg, sRet, eOp, eVar, eC, eCall, aCons, aNil, gNm, gSetA, List.getD_cons_zero, List.getD_cons_succ, List.set_cons_succ, List.set_cons_zero, pu_go, bd_go, dx_now, gtD, h, decide_true, if_true, intD, modD, hk, fdivD, h2, and_self]
      rw [ds_now]
      rfl
    · have e0 : a1 = 0 := by omega
      subst e0
      let f : Int := (b * 48271 + (c + 1) * 69621) % 2147483629
      let s : Int := (f * f + (c + 1) * 7919) % 2147483563
      have f1 : 0 ≤ f := Int.emod_nonneg _ (by decide)
      have f2 : f < 2147483629 := Int.emod_lt_of_pos _ (by decide)
      refine ⟨(s / 4096 + f) % k, 0, (s * 40692 + f) % 2147483647 + 1, c + 1, Int.emod_nonneg _ (by omega), Int.emod_lt_of_pos _ (by omega), by omega, ?_⟩
      have hk : 0 < k := by omega
      have hm : ∀ i j : Int, (-(2 ^ 64) < j ∧ j < 2 ^ 64) → mulD (dSt gs1 0 b (c + 1) rest) (.int i) (.int j) = some (.int (i * j)) := fun i j h => by
        simp only [mulD]
        rw [if_pos (Or.inr h)]
      have hm0 : ∀ i j : Int, (-(2 ^ 64) < j ∧ j < 2 ^ 64) → mulD (dSt gs1 0 ((s * 40692 + f) % 2147483647 + 1) (c + 1) rest) (.int i) (.int j) = some (.int (i * j)) := fun i j h => by
        simp only [mulD]
        rw [if_pos (Or.inr h)]
      have st7 : f__law_draw_8 [some (.ref 1), some (.int k), none, none, none] (dSt gs1 0 b c rest) = f__law_draw_6 [some (.ref 1), some (.int k), none, none, none] (dSt gs1 0 b (c + 1) rest) := by
        simp only [f__law_draw_8, f__law_draw_7, sSeq, sIf, tVal, sAsg, sNop, eOp, eVar, eC, gSetA, List.getD_cons_zero, pu_go, bd_go, dx_now, gtD, Int.lt_irrefl, decide_false, Bool.false_eq_true, if_false, dx_turn, addD]
        rw [ds_turn]
        rfl
      have st6 : f__law_draw_6 [some (.ref 1), some (.int k), none, none, none] (dSt gs1 0 b (c + 1) rest) = f__law_draw_5 [some (.ref 1), some (.int k), none, some (.int f), none] (dSt gs1 0 b (c + 1) rest) := by
        simp only [f__law_draw_6, sSeq, sAsg, eOp, eVar, eC, eCall, aCons, aNil, gNm, List.getD_cons_zero, pu_go, bd_go, dx_mixed, dx_turn, hm _ 48271 (by decide), hm _ 69621 (by decide), addD, intD, modD]
        rw [if_pos (by decide)]
        rfl
      have st5 : f__law_draw_5 [some (.ref 1), some (.int k), none, some (.int f), none] (dSt gs1 0 b (c + 1) rest) = f__law_draw_4 [some (.ref 1), some (.int k), none, some (.int f), some (.int s)] (dSt gs1 0 b (c + 1) rest) := by
        simp only [f__law_draw_5, sSeq, sAsg, eOp, eVar, eC, eCall, aCons, aNil, gNm, List.getD_cons_zero, List.getD_cons_succ, pu_go, bd_go, dx_turn, hm _ f ⟨by omega, by omega⟩, hm _ 7919 (by decide), addD, intD, modD]
        rw [if_pos (by decide)]
        rfl
      have st4 : f__law_draw_4 [some (.ref 1), some (.int k), none, some (.int f), some (.int s)] (dSt gs1 0 b (c + 1) rest) = f__law_draw_3 [some (.ref 1), some (.int k), none, some (.int f), some (.int s)] (dSt gs1 0 ((s * 40692 + f) % 2147483647 + 1) (c + 1) rest) := by
        simp only [f__law_draw_4, sSeq, sAsg, eOp, eVar, eC, eCall, aCons, aNil, gSetA, List.getD_cons_zero, List.getD_cons_succ, pu_go, bd_go, hm _ 40692 (by decide), addD, intD, modD]
        rw [if_pos (by decide)]
        simp only [pu_go, bd_go]
        rw [ds_mixed]
        rfl
      rw [st7, st6, st5, st4]
      simp only [f__law_draw_3, sRet, eOp, eVar, eC, eCall, aCons, aNil, List.getD_cons_zero, List.getD_cons_succ, pu_go, bd_go, fdivD, addD, intD, modD, hk, if_true]
      rw [if_pos (by decide)]
      simp only [pu_go, bd_go, hk, if_true]
  obtain ⟨r, a', b', c', q1, q2, q3, q4⟩ := key
  refine ⟨r, gs1, a', b', c', q1, q2, q3, p2, p3, ?_⟩
  have e : f__law_draw (startD 5 [.ref 1, .int k]) (dSt gs a b c rest) = some (.rt (.int r), dSt gs1 a' b' c' rest) := by
    show bd (sWhile big _ f__law_draw_1 [some (.ref 1), some (.int k), none, none, none] (dSt gs a b c rest)) _ = _
    rw [p4]
    exact q4
  unfold F__law_draw runM
  rw [if_pos (by rfl), e]
  rfl
theorem deal_mix {xs : List Int} {s : D} {b e g : Option D} {m : M} : ∃ (r : Int) (c : Option D), forGo (gTgt (.one 2)) f__law_deal_1 (xs.map D.int) [some s, b, e, g, some (.int a), none] m = some (.nx [some s, b, c, g, some (.int r), none], m) := by
  obtain ⟨ρ', m', e', h1, r, c, h2⟩ := forGo_inv (f := gTgt (.one 2)) (b := f__law_deal_1) (fun _ ρ m' => m' = m ∧ ∃ (r : Int) (c : Option D), ρ = [some s, b, c, g, some (.int r), none]) (xs.map D.int) 0 [some s, b, e, g, some (.int a), none] m ⟨rfl, a, e, rfl⟩ (by
    rintro j x ρ m' hx ⟨rfl, r, c, rfl⟩
    rw [List.getElem?_map] at hx
    obtain ⟨i, hi, rfl⟩ := Option.map_eq_some_iff.mp hx
    refine ⟨_, _, rfl, ?_⟩
    refine ⟨.nx [some s, b, some (.int i), g, some (.int ((r * 16807 + i) % 2147483647)), none], m', ?_, _, .inl rfl, rfl, _, _, rfl⟩
    simp [f__law_deal_1, sAsg, gNm, eOp, eCall, eVar, eC, aCons, aNil, setMany, Tgt.is, modD, intD, addD, mulD, pu])
  subst h1 h2
  exact ⟨r, c, e'⟩
theorem deal_abs {ρ : Ss} {m : M} (hρ : 2 < ρ.length) : ∀ ms : List Int, compGo (.one 2) tTrue (eCall absD (aCons (eVar 2) (aNil))) ρ (ms.map D.int) m = some ((ms.map fun i => if i < 0 then -i else i).map D.int, m)
  | [] => rfl
  | i :: ms => by
    have e1 : (setMany ρ [2] [D.int i]).getD 2 none = some (.int i) := by simp [setMany, hρ]
    simp only [List.map_cons, compGo, Tgt.un, Tgt.is, tTrue, bd_go, if_true, eCall, aCons, aNil, eVar, e1, pu_go, absD, deal_abs hρ ms]
theorem deal_great {ρ : Ss} {m : M} (hρ : 2 < ρ.length) : ∀ ms : List Int, ∃ gs : List Int, (∀ g ∈ gs, 0 ≤ g) ∧ gs.length ≤ ms.length ∧ compGo (.one 2) (tVal (eOp geD (eVar 2) (eOp powD (eC (.int 10)) (eC (.int 18))))) (eVar 2) ρ (ms.map D.int) m = some (gs.map D.int, m)
  | [] => ⟨[], by simp, by simp, rfl⟩
  | i :: ms => by
    obtain ⟨gs, h1, h2, h3⟩ := deal_great (ρ := ρ) (m := m) hρ ms
    have e1 : (setMany ρ [2] [D.int i]).getD 2 none = some (.int i) := by simp [setMany, hρ]
    by_cases hi : i ≥ 1000000000000000000
    · refine ⟨i :: gs, fun g hg => ?_, by simp; omega, ?_⟩
      · rcases List.mem_cons.mp hg with rfl | hg
        · omega
        · exact h1 g hg
      · simp only [List.map_cons, compGo, Tgt.un, Tgt.is, tVal, eOp, eVar, eC, e1, pu_go, bd_go, pow18, geD, h3, if_true, decide_eq_true hi]
    · refine ⟨gs, h1, by simp; omega, ?_⟩
      simp only [List.map_cons, compGo, Tgt.un, Tgt.is, tVal, eOp, eVar, eC, e1, pu_go, bd_go, pow18, geD, h3, decide_eq_false hi, Bool.false_eq_true, if_false]
theorem deal_ok (ns : List Int) (hn : ns.length ≤ 63) (b0 : Int) : ∃ (gs : List Int) (b : Int), (∀ g ∈ gs, 0 ≤ g) ∧ gs.length < 1000 ∧ F__law_deal [.scr (ns.map D.int), .int b0] [] = some (.ref 1, dSt gs 0 b 0 []) := by
  obtain ⟨ms, hms, hml⟩ := cut_ints ns (some b0) (some 63)
  let xs := ms.map fun i => if i < 0 then -i else i
  obtain ⟨r, c, hmix⟩ := deal_mix (a := 15485863 + b0) (xs := xs) (s := .scr (ns.map D.int)) (b := some (.int b0)) (e := none) (g := some (.lst (xs.map D.int))) (m := [])
  obtain ⟨gs, g1, g2, g3⟩ := deal_great (ρ := [some (.scr (ns.map D.int)), some (.int b0), c, some (.lst (xs.map D.int)), some (.int r), none]) (m := []) (by simp) xs
  have hxl : xs.length = ms.length := by simp [xs]
  refine ⟨gs.reverse, r + 1, fun g hg => g1 g (by simpa using hg), by simp; omega, ?_⟩
  have e1 : f__law_deal (startD 6 [.scr (ns.map D.int), .int b0]) [] = f__law_deal_5 [some (.scr (ns.map D.int)), some (.int b0), none, some (.lst (xs.map D.int)), none, none] [] := by
    have hz : (ms.map D.int).length ≤ 1000000 := by simp; omega
    have ha := deal_abs (ρ := [some (.scr (ns.map D.int)), some (.int b0), none, none, none, none]) (m := []) (by simp) ms
    simp only [f__law_deal, sSeq, sAsg, eLcK, iIt, eSl, oYes, eVar, eC, startD, List.map, List.length_cons, List.length_nil, List.replicate, List.cons_append, List.nil_append, List.getD_cons_zero, List.getD_cons_succ, pu_go, bd_go, slD, lstR, Option.map_some, hms, items, hz, if_true, ha, cond_false, gNm, List.set_cons_succ, List.set_cons_zero]
    rfl
  have e2 : f__law_deal_5 [some (.scr (ns.map D.int)), some (.int b0), none, some (.lst (xs.map D.int)), none, none] [] = f__law_deal_3 [some (.scr (ns.map D.int)), some (.int b0), c, some (.lst (xs.map D.int)), some (.int r), none] [] := by
    simp only [f__law_deal_5, f__law_deal_4, sSeq, sAsg, sForA, eOp, eVar, eC, gNm, List.getD_cons_zero, List.getD_cons_succ, List.set_cons_succ, List.set_cons_zero, pu_go, bd_go, addD, items, hmix]
  have e3 : f__law_deal_3 [some (.scr (ns.map D.int)), some (.int b0), c, some (.lst (xs.map D.int)), some (.int r), none] [] = some (.rt (.ref 1), dSt gs.reverse 0 (r + 1) 0 []) := by
    have hz : (xs.map D.int).length ≤ 1000000 := by simp [hxl]; omega
    have hf : ∀ a b c d : D, (([(D.str "great", a), (D.str "now", b), (D.str "mixed", c), (D.str "turn", d)] : List (D × D)).all fun q => isFlat q.1) && decide (4 ≤ 15) = true := fun a b c d => rfl
    have hmg : ∀ a b c d : D, mergeD [(D.str "great", a), (D.str "now", b), (D.str "mixed", c), (D.str "turn", d)] ([], []) = (dKS, [a, b, c, d]) := fun a b c d => by kernel_rfl
    simp only [f__law_deal_3, f__law_deal_2, sSeq, sAsg, sRet, eLcK, iIt, eVar, eC, gNm, List.getD_cons_zero, List.getD_cons_succ, List.set_cons_succ, List.set_cons_zero, pu_go, bd_go, items, hz, if_true, g3, cond_false, eDisp, pairsF, eRev, lstR, lstOf, cond_true, eOp, addD, List.nil_append, List.length_nil, List.map_reverse, hmg]
    rw [if_pos (by rfl)]
    simp
  unfold F__law_deal runM
  rw [if_pos (by rfl), e1, e2, e3]
  rfl
end
end L4
namespace L4
open PySem
section
variable {m : M} {rest : M} {Q : D → M → Prop}
def AX (rest m : M) : Prop := ∃ gs a b c, m = dSt gs a b c rest ∧ 0 ≤ a ∧ (∀ g ∈ gs, 0 ≤ g) ∧ gs.length < 1000
theorem deal_a (ns : List Int) (hn : ns.length ≤ 63) (b0 : Int) (q : ∀ m', AX [] m' → Q (.ref 1) m') : Wr (F__law_deal [.scr (ns.map D.int), .int b0] []) Q := by
  obtain ⟨gs, b, h1, h2, e⟩ := deal_ok ns hn b0
  exact ⟨_, _, e, q _ ⟨gs, 0, b, 0, rfl, Int.le_refl 0, h1, h2⟩⟩
theorem draw_a (h : AX rest m) {k : Int} (h1 : 1 ≤ k) (h2 : k < 1073741824) (q : ∀ (r : Int) m', 0 ≤ r → r < k → AX rest m' → Q (.int r) m') : Wr (F__law_draw [.ref 1, .int k] m) Q := by
  obtain ⟨gs, a, b, c, rfl, ha, hg, hl⟩ := h
  obtain ⟨r, gs', a', b', c', k1, k2, k3, k4, k5, e⟩ := draw_ok (b := b) (c := c) (rest := rest) ha hg hl h1 h2
  exact ⟨_, _, e, q r _ k1 k2 ⟨gs', a', b', c', rfl, k3, k4, by omega⟩⟩
local macro_rules | `(tactic| fail) => `(tactic| (first | ((with_reducible refine w_and_t ?_ ?_); exact rfl) | ((with_reducible refine w_and_f ?_ ?_); exact rfl) | ((with_reducible refine w_or_t ?_ ?_); exact rfl) | ((with_reducible refine w_or_f ?_ ?_); exact rfl) | ((with_reducible refine Kn.fdiv ?_ ?_); exact ⟨by decide, by decide⟩) | ((with_reducible refine Kn.mod ?_ ?_); decide) | ((with_reducible refine And.intro (a := (_ && _) = true) ?_ ?_); exact rfl) | ((with_reducible refine And.intro (a := List.length _ = List.length _) ?_ ?_); exact rfl; dsimp only [setMany, List.set_cons_succ, List.set_cons_zero]) | ((with_reducible refine ⟨wsz ?_, ?_⟩); first | decide | (show (_ : Nat) ≤ 1000; simp only [List.length_cons, List.length_nil]; decide)) | with_reducible refine ⟨_, rfl, ?_⟩))
local macro_rules | `(tactic| fail) => `(tactic| (first | ((with_reducible refine WG.nm ?_); dsimp only [setMany, List.set_cons_succ, List.set_cons_zero]) | ((with_reducible refine WG.one ?_); dsimp only [setMany, List.set_cons_succ, List.set_cons_zero]) | ((with_reducible refine WG.tup ?_ ?_); exact rfl; dsimp only [setMany, List.set_cons_succ, List.set_cons_zero]) | ((with_reducible apply WE.var); exact rfl) | ((with_reducible apply WE.upP); exact rfl) | ((with_reducible apply WE.upT); exact rfl) | ((with_reducible apply WE.upL); exact rfl) | ((with_reducible apply WE.upN); exact rfl) | ((with_reducible apply WS.aug); exact rfl) | ((with_reducible apply WE.newPL); exact rfl) | ((with_reducible refine WS.ite_t ?_ ?_); exact rfl) | ((with_reducible refine WS.ite_f ?_ ?_); exact rfl) | ((with_reducible refine WE.ite_t ?_ ?_); exact rfl) | ((with_reducible refine WE.ite_f ?_ ?_); exact rfl)))
local macro_rules | `(tactic| fail) => `(tactic| with_reducible (first | refine Kn.it_l ?_ | refine Kn.it_s ?_ | refine Kn.str_s ?_ | refine Kn.sl_t ?_ | refine Kn.sl_l ?_ | refine Fld.need ?_ | refine Fld.of ?_ | refine Fld.base ?_ | refine Fld.more ?_ | refine Fld.most ?_ | refine Fld.calm ?_ | refine Fld.back ?_ | refine Fld.top ?_ | refine Fld.under ?_ | refine Fld.up ?_ | refine Fld.hears ?_ | refine Fld.cap ?_ | refine Mth.time ?_))
local macro_rules | `(tactic| fail) => `(tactic| with_reducible (first | refine WE.tupL ?_ | refine WE.dicP ?_ | refine WP.nil ?_ | refine WP.cons ?_ | refine WE.upd ?_ | refine WA.nil ?_ | refine WA.cons ?_ | refine WA.star ?_ | refine WO.no ?_ | refine WO.yes ?_ | refine WT.val ?_ | refine WT.and ?_ | refine WT.or ?_ | refine WT.not ?_ | refine WT.tt ?_ | refine WI.it ?_ | refine Kn.add_i ?_ | refine Kn.sub ?_ | refine Kn.neg ?_ | refine Kn.eq_i ?_ | refine Kn.ne_i ?_ | refine Kn.lt ?_ | refine Kn.le ?_ | refine Kn.gt ?_ | refine Kn.ge ?_ | refine Kn.int_i ?_ | refine Kn.int_b ?_ | refine Kn.abs ?_ | refine Kn.min2 ?_ | refine Kn.max2 ?_ | refine Kn.len_t ?_ | refine Kn.len_l ?_ | refine Kn.len_s ?_ | refine Kn.tup_t ?_ | refine Kn.tup_l ?_ | refine Kn.lis_t ?_ | refine Kn.lis_l ?_ | refine Kn.seq_t ?_ | refine Kn.seq_l ?_ | refine Kn.it_t ?_))
local macro_rules | `(tactic| fail) => `(tactic| with_reducible (first | refine WS.seq ?_ | refine WS.nx ?_ | refine WS.rt ?_ | refine WS.asg ?_ | refine WS.drop ?_ | refine WS.ret ?_ | refine WS.nop ?_ | refine WS.retN ?_ | refine WS.brk ?_ | refine WS.cont ?_ | refine WS.sif ?_ | refine WS.par ?_ | refine WG.setA ?_ | refine WE.c ?_ | refine WE.op ?_ | refine WE.call ?_ | refine WE.callM ?_ | refine WE.un ?_ | refine WE.tup ?_ | refine WE.lst ?_ | refine WE.newL ?_ | refine WE.eif ?_ | refine WE.sl ?_ | refine WE.isN ?_ | refine WE.notN ?_ | refine WE.not ?_ | refine WE.and ?_ | refine WE.or ?_ | refine WE.app ?_ | refine WE.tupR ?_ | refine WE.lisR ?_ | refine WE.m1 ?_ | refine WE.tbl ?_ | refine WE.tblNin ?_ | refine WE.chain ?_ | refine WE.fldF ?_ | refine WE.mth ?_ | refine WE.disp ?_ | refine WE.dicC ?_ | refine WE.tupA ?_))
local macro_rules | `(tactic| trivial) => `(tactic| (repeat fail))
theorem pick_a (h : AX rest m) {ds : List D} (h1 : 1 ≤ ds.length) (h2 : ds.length < 1000) (q : ∀ d m', d ∈ ds → AX rest m' → Q d m') : Wr (F__law_pick [.ref 1, .lst ds] m) Q := by
  refine WS.runM (b := f__law_pick) (n := 2) ?_ rfl
  show WS _ [some (.ref 1), some (.lst ds)] m _
  trivial
  refine draw_a h (by omega) (by omega) fun r m' r0 r1 h => ?_
  obtain ⟨j, rfl⟩ := Int.eq_ofNat_of_zero_le r0
  have hj : j < ds.length := by omega
  refine Kn.ix_l (i := j) (List.getElem?_eq_getElem hj) ?_
  trivial
  exact .inl ⟨_, rfl, q _ _ (List.getElem_mem hj) h⟩
end
end L4
namespace L4
open PySem
section
variable {m : M} {r : Ru} {Q : D → Prop}
theorem Fld.need (q : Q (.int r.need)) : Fld m r.d ["Rule"] "need" Q := ⟨_, _, _, _, ru_ins, ru_c1, ru_need, q⟩
theorem Fld.of (q : Q (.int r.of)) : Fld m r.d ["Rule"] "of" Q := ⟨_, _, _, _, ru_ins, ru_c1, ru_of, q⟩
theorem Fld.base (q : Q (.int r.base)) : Fld m r.d ["Rule"] "base" Q := ⟨_, _, _, _, ru_ins, ru_c1, ru_base, q⟩
theorem Fld.more (q : Q (.int r.more)) : Fld m r.d ["Rule"] "more" Q := ⟨_, _, _, _, ru_ins, ru_c1, ru_more, q⟩
theorem Fld.most (q : Q (.int r.most)) : Fld m r.d ["Rule"] "most" Q := ⟨_, _, _, _, ru_ins, ru_c1, ru_most, q⟩
theorem Fld.calm (q : Q (.int r.calm)) : Fld m r.d ["Rule"] "calm" Q := ⟨_, _, _, _, ru_ins, ru_c1, ru_calm, q⟩
theorem Fld.back (q : Q (.str r.back.s)) : Fld m r.d ["Rule"] "back" Q := ⟨_, _, _, _, ru_ins, ru_c1, ru_back, q⟩
theorem Fld.top (q : Q (.int r.top)) : Fld m r.d ["Rule"] "top" Q := ⟨_, _, _, _, ru_ins, ru_c1, ru_top, q⟩
theorem Fld.under (q : Q (.int r.under)) : Fld m r.d ["Rule"] "under" Q := ⟨_, _, _, _, ru_ins, ru_c1, ru_under, q⟩
theorem Fld.up (q : Q (.bl r.up)) : Fld m r.d ["Rule"] "up" Q := ⟨_, _, _, _, ru_ins, ru_c1, ru_up, q⟩
theorem Fld.hears (q : Q (.str r.hears.s)) : Fld m r.d ["Rule"] "hears" Q := ⟨_, _, _, _, ru_ins, ru_c1, ru_hears, q⟩
theorem Fld.cap (q : Q (.int r.cap)) : Fld m r.d ["Rule"] "cap" Q := ⟨_, _, _, _, ru_ins, ru_c1, ru_cap, q⟩
theorem Mth.time {P : List Str → List D → Prop} (q : P ruNames r.vals) : ∃ ns vs, insOf m r.d = some (("Rule" : Str), ns, vs) ∧ ns.contains "time" = false ∧ P ns vs := ⟨_, _, ru_ins, ru_ntime, q⟩
end
end L4
namespace L4
open PySem
section
variable {m : M} {ρ : Ss} {r q : Ru}
local macro_rules | `(tactic| fail) => `(tactic| (first | ((with_reducible refine w_and_t ?_ ?_); exact rfl) | ((with_reducible refine w_and_f ?_ ?_); exact rfl) | ((with_reducible refine w_or_t ?_ ?_); exact rfl) | ((with_reducible refine w_or_f ?_ ?_); exact rfl) | ((with_reducible refine Kn.fdiv ?_ ?_); exact ⟨by decide, by decide⟩) | ((with_reducible refine Kn.mod ?_ ?_); decide) | ((with_reducible refine And.intro (a := (_ && _) = true) ?_ ?_); exact rfl) | ((with_reducible refine And.intro (a := List.length _ = List.length _) ?_ ?_); exact rfl; dsimp only [setMany, List.set_cons_succ, List.set_cons_zero]) | ((with_reducible refine ⟨wsz ?_, ?_⟩); first | decide | (show (_ : Nat) ≤ 1000; simp only [List.length_cons, List.length_nil]; decide)) | with_reducible refine ⟨_, rfl, ?_⟩))
local macro_rules | `(tactic| fail) => `(tactic| (first | ((with_reducible refine WG.nm ?_); dsimp only [setMany, List.set_cons_succ, List.set_cons_zero]) | ((with_reducible refine WG.one ?_); dsimp only [setMany, List.set_cons_succ, List.set_cons_zero]) | ((with_reducible refine WG.tup ?_ ?_); exact rfl; dsimp only [setMany, List.set_cons_succ, List.set_cons_zero]) | ((with_reducible apply WE.var); exact rfl) | ((with_reducible apply WE.upP); exact rfl) | ((with_reducible apply WE.upT); exact rfl) | ((with_reducible apply WE.upL); exact rfl) | ((with_reducible apply WE.upN); exact rfl) | ((with_reducible apply WS.aug); exact rfl) | ((with_reducible apply WE.newPL); exact rfl) | ((with_reducible refine WS.ite_t ?_ ?_); exact rfl) | ((with_reducible refine WS.ite_f ?_ ?_); exact rfl) | ((with_reducible refine WE.ite_t ?_ ?_); exact rfl) | ((with_reducible refine WE.ite_f ?_ ?_); exact rfl)))
local macro_rules | `(tactic| fail) => `(tactic| with_reducible (first | refine Kn.it_l ?_ | refine Kn.it_s ?_ | refine Kn.str_s ?_ | refine Kn.sl_t ?_ | refine Kn.sl_l ?_ | refine Fld.need ?_ | refine Fld.of ?_ | refine Fld.base ?_ | refine Fld.more ?_ | refine Fld.most ?_ | refine Fld.calm ?_ | refine Fld.back ?_ | refine Fld.top ?_ | refine Fld.under ?_ | refine Fld.up ?_ | refine Fld.hears ?_ | refine Fld.cap ?_ | refine Mth.time ?_))
local macro_rules | `(tactic| fail) => `(tactic| with_reducible (first | refine WE.tupL ?_ | refine WE.dicP ?_ | refine WP.nil ?_ | refine WP.cons ?_ | refine WE.upd ?_ | refine WA.nil ?_ | refine WA.cons ?_ | refine WA.star ?_ | refine WO.no ?_ | refine WO.yes ?_ | refine WT.val ?_ | refine WT.and ?_ | refine WT.or ?_ | refine WT.not ?_ | refine WT.tt ?_ | refine WI.it ?_ | refine Kn.add_i ?_ | refine Kn.sub ?_ | refine Kn.neg ?_ | refine Kn.eq_i ?_ | refine Kn.ne_i ?_ | refine Kn.lt ?_ | refine Kn.le ?_ | refine Kn.gt ?_ | refine Kn.ge ?_ | refine Kn.int_i ?_ | refine Kn.int_b ?_ | refine Kn.abs ?_ | refine Kn.min2 ?_ | refine Kn.max2 ?_ | refine Kn.len_t ?_ | refine Kn.len_l ?_ | refine Kn.len_s ?_ | refine Kn.tup_t ?_ | refine Kn.tup_l ?_ | refine Kn.lis_t ?_ | refine Kn.lis_l ?_ | refine Kn.seq_t ?_ | refine Kn.seq_l ?_ | refine Kn.it_t ?_))
local macro_rules | `(tactic| fail) => `(tactic| with_reducible (first | refine WS.seq ?_ | refine WS.nx ?_ | refine WS.rt ?_ | refine WS.asg ?_ | refine WS.drop ?_ | refine WS.ret ?_ | refine WS.nop ?_ | refine WS.retN ?_ | refine WS.brk ?_ | refine WS.cont ?_ | refine WS.sif ?_ | refine WS.par ?_ | refine WG.setA ?_ | refine WE.c ?_ | refine WE.op ?_ | refine WE.call ?_ | refine WE.callM ?_ | refine WE.un ?_ | refine WE.tup ?_ | refine WE.lst ?_ | refine WE.newL ?_ | refine WE.eif ?_ | refine WE.sl ?_ | refine WE.isN ?_ | refine WE.notN ?_ | refine WE.not ?_ | refine WE.and ?_ | refine WE.or ?_ | refine WE.app ?_ | refine WE.tupR ?_ | refine WE.lisR ?_ | refine WE.m1 ?_ | refine WE.tbl ?_ | refine WE.tblNin ?_ | refine WE.chain ?_ | refine WE.fldF ?_ | refine WE.mth ?_ | refine WE.disp ?_ | refine WE.dicC ?_ | refine WE.tupA ?_))
local macro_rules | `(tactic| trivial) => `(tactic| (repeat fail))
end
section
variable {m : M} {r q : Ru}
local macro_rules | `(tactic| fail) => `(tactic| (first | ((with_reducible refine w_and_t ?_ ?_); exact rfl) | ((with_reducible refine w_and_f ?_ ?_); exact rfl) | ((with_reducible refine w_or_t ?_ ?_); exact rfl) | ((with_reducible refine w_or_f ?_ ?_); exact rfl) | ((with_reducible refine Kn.fdiv ?_ ?_); exact ⟨by decide, by decide⟩) | ((with_reducible refine Kn.mod ?_ ?_); decide) | ((with_reducible refine And.intro (a := (_ && _) = true) ?_ ?_); exact rfl) | ((with_reducible refine And.intro (a := List.length _ = List.length _) ?_ ?_); exact rfl; dsimp only [setMany, List.set_cons_succ, List.set_cons_zero]) | ((with_reducible refine ⟨wsz ?_, ?_⟩); first | decide | (show (_ : Nat) ≤ 1000; simp only [List.length_cons, List.length_nil]; decide)) | with_reducible refine ⟨_, rfl, ?_⟩))
local macro_rules | `(tactic| fail) => `(tactic| (first | ((with_reducible refine WG.nm ?_); dsimp only [setMany, List.set_cons_succ, List.set_cons_zero]) | ((with_reducible refine WG.one ?_); dsimp only [setMany, List.set_cons_succ, List.set_cons_zero]) | ((with_reducible refine WG.tup ?_ ?_); exact rfl; dsimp only [setMany, List.set_cons_succ, List.set_cons_zero]) | ((with_reducible apply WE.var); exact rfl) | ((with_reducible apply WE.upP); exact rfl) | ((with_reducible apply WE.upT); exact rfl) | ((with_reducible apply WE.upL); exact rfl) | ((with_reducible apply WE.upN); exact rfl) | ((with_reducible apply WS.aug); exact rfl) | ((with_reducible apply WE.newPL); exact rfl) | ((with_reducible refine WS.ite_t ?_ ?_); exact rfl) | ((with_reducible refine WS.ite_f ?_ ?_); exact rfl) | ((with_reducible refine WE.ite_t ?_ ?_); exact rfl) | ((with_reducible refine WE.ite_f ?_ ?_); exact rfl)))
local macro_rules | `(tactic| fail) => `(tactic| with_reducible (first | refine Kn.it_l ?_ | refine Kn.it_s ?_ | refine Kn.str_s ?_ | refine Kn.sl_t ?_ | refine Kn.sl_l ?_ | refine Fld.need ?_ | refine Fld.of ?_ | refine Fld.base ?_ | refine Fld.more ?_ | refine Fld.most ?_ | refine Fld.calm ?_ | refine Fld.back ?_ | refine Fld.top ?_ | refine Fld.under ?_ | refine Fld.up ?_ | refine Fld.hears ?_ | refine Fld.cap ?_ | refine Mth.time ?_))
local macro_rules | `(tactic| fail) => `(tactic| with_reducible (first | refine WE.tupL ?_ | refine WE.dicP ?_ | refine WP.nil ?_ | refine WP.cons ?_ | refine WE.upd ?_ | refine WA.nil ?_ | refine WA.cons ?_ | refine WA.star ?_ | refine WO.no ?_ | refine WO.yes ?_ | refine WT.val ?_ | refine WT.and ?_ | refine WT.or ?_ | refine WT.not ?_ | refine WT.tt ?_ | refine WI.it ?_ | refine Kn.add_i ?_ | refine Kn.sub ?_ | refine Kn.neg ?_ | refine Kn.eq_i ?_ | refine Kn.ne_i ?_ | refine Kn.lt ?_ | refine Kn.le ?_ | refine Kn.gt ?_ | refine Kn.ge ?_ | refine Kn.int_i ?_ | refine Kn.int_b ?_ | refine Kn.abs ?_ | refine Kn.min2 ?_ | refine Kn.max2 ?_ | refine Kn.len_t ?_ | refine Kn.len_l ?_ | refine Kn.len_s ?_ | refine Kn.tup_t ?_ | refine Kn.tup_l ?_ | refine Kn.lis_t ?_ | refine Kn.lis_l ?_ | refine Kn.seq_t ?_ | refine Kn.seq_l ?_ | refine Kn.it_t ?_))
local macro_rules | `(tactic| fail) => `(tactic| with_reducible (first | refine WS.seq ?_ | refine WS.nx ?_ | refine WS.rt ?_ | refine WS.asg ?_ | refine WS.drop ?_ | refine WS.ret ?_ | refine WS.nop ?_ | refine WS.retN ?_ | refine WS.brk ?_ | refine WS.cont ?_ | refine WS.sif ?_ | refine WS.par ?_ | refine WG.setA ?_ | refine WE.c ?_ | refine WE.op ?_ | refine WE.call ?_ | refine WE.callM ?_ | refine WE.un ?_ | refine WE.tup ?_ | refine WE.lst ?_ | refine WE.newL ?_ | refine WE.eif ?_ | refine WE.sl ?_ | refine WE.isN ?_ | refine WE.notN ?_ | refine WE.not ?_ | refine WE.and ?_ | refine WE.or ?_ | refine WE.app ?_ | refine WE.tupR ?_ | refine WE.lisR ?_ | refine WE.m1 ?_ | refine WE.tbl ?_ | refine WE.tblNin ?_ | refine WE.chain ?_ | refine WE.fldF ?_ | refine WE.mth ?_ | refine WE.disp ?_ | refine WE.dicC ?_ | refine WE.tupA ?_))
local macro_rules | `(tactic| trivial) => `(tactic| (repeat fail))
end
end L4
namespace L4
open PySem
section
variable {m : M} {rest : M} {Q : D → M → Prop} {r : Ru}
local macro_rules | `(tactic| fail) => `(tactic| (first | ((with_reducible refine w_and_t ?_ ?_); exact rfl) | ((with_reducible refine w_and_f ?_ ?_); exact rfl) | ((with_reducible refine w_or_t ?_ ?_); exact rfl) | ((with_reducible refine w_or_f ?_ ?_); exact rfl) | ((with_reducible refine Kn.fdiv ?_ ?_); exact ⟨by decide, by decide⟩) | ((with_reducible refine Kn.mod ?_ ?_); decide) | ((with_reducible refine And.intro (a := (_ && _) = true) ?_ ?_); exact rfl) | ((with_reducible refine And.intro (a := List.length _ = List.length _) ?_ ?_); exact rfl; dsimp only [setMany, List.set_cons_succ, List.set_cons_zero]) | ((with_reducible refine ⟨wsz ?_, ?_⟩); first | decide | (show (_ : Nat) ≤ 1000; simp only [List.length_cons, List.length_nil]; decide)) | with_reducible refine ⟨_, rfl, ?_⟩))
local macro_rules | `(tactic| fail) => `(tactic| (first | ((with_reducible refine WG.nm ?_); dsimp only [setMany, List.set_cons_succ, List.set_cons_zero]) | ((with_reducible refine WG.one ?_); dsimp only [setMany, List.set_cons_succ, List.set_cons_zero]) | ((with_reducible refine WG.tup ?_ ?_); exact rfl; dsimp only [setMany, List.set_cons_succ, List.set_cons_zero]) | ((with_reducible apply WE.var); exact rfl) | ((with_reducible apply WE.upP); exact rfl) | ((with_reducible apply WE.upT); exact rfl) | ((with_reducible apply WE.upL); exact rfl) | ((with_reducible apply WE.upN); exact rfl) | ((with_reducible apply WS.aug); exact rfl) | ((with_reducible apply WE.newPL); exact rfl) | ((with_reducible refine WS.ite_t ?_ ?_); exact rfl) | ((with_reducible refine WS.ite_f ?_ ?_); exact rfl) | ((with_reducible refine WE.ite_t ?_ ?_); exact rfl) | ((with_reducible refine WE.ite_f ?_ ?_); exact rfl)))
local macro_rules | `(tactic| fail) => `(tactic| with_reducible (first | refine Kn.it_l ?_ | refine Kn.it_s ?_ | refine Kn.str_s ?_ | refine Kn.sl_t ?_ | refine Kn.sl_l ?_ | refine Fld.need ?_ | refine Fld.of ?_ | refine Fld.base ?_ | refine Fld.more ?_ | refine Fld.most ?_ | refine Fld.calm ?_ | refine Fld.back ?_ | refine Fld.top ?_ | refine Fld.under ?_ | refine Fld.up ?_ | refine Fld.hears ?_ | refine Fld.cap ?_ | refine Mth.time ?_))
local macro_rules | `(tactic| fail) => `(tactic| with_reducible (first | refine WE.tupL ?_ | refine WE.dicP ?_ | refine WP.nil ?_ | refine WP.cons ?_ | refine WE.upd ?_ | refine WA.nil ?_ | refine WA.cons ?_ | refine WA.star ?_ | refine WO.no ?_ | refine WO.yes ?_ | refine WT.val ?_ | refine WT.and ?_ | refine WT.or ?_ | refine WT.not ?_ | refine WT.tt ?_ | refine WI.it ?_ | refine Kn.add_i ?_ | refine Kn.sub ?_ | refine Kn.neg ?_ | refine Kn.eq_i ?_ | refine Kn.ne_i ?_ | refine Kn.lt ?_ | refine Kn.le ?_ | refine Kn.gt ?_ | refine Kn.ge ?_ | refine Kn.int_i ?_ | refine Kn.int_b ?_ | refine Kn.abs ?_ | refine Kn.min2 ?_ | refine Kn.max2 ?_ | refine Kn.len_t ?_ | refine Kn.len_l ?_ | refine Kn.len_s ?_ | refine Kn.tup_t ?_ | refine Kn.tup_l ?_ | refine Kn.lis_t ?_ | refine Kn.lis_l ?_ | refine Kn.seq_t ?_ | refine Kn.seq_l ?_ | refine Kn.it_t ?_))
local macro_rules | `(tactic| fail) => `(tactic| with_reducible (first | refine WS.seq ?_ | refine WS.nx ?_ | refine WS.rt ?_ | refine WS.asg ?_ | refine WS.drop ?_ | refine WS.ret ?_ | refine WS.nop ?_ | refine WS.retN ?_ | refine WS.brk ?_ | refine WS.cont ?_ | refine WS.sif ?_ | refine WS.par ?_ | refine WG.setA ?_ | refine WE.c ?_ | refine WE.op ?_ | refine WE.call ?_ | refine WE.callM ?_ | refine WE.un ?_ | refine WE.tup ?_ | refine WE.lst ?_ | refine WE.newL ?_ | refine WE.eif ?_ | refine WE.sl ?_ | refine WE.isN ?_ | refine WE.notN ?_ | refine WE.not ?_ | refine WE.and ?_ | refine WE.or ?_ | refine WE.app ?_ | refine WE.tupR ?_ | refine WE.lisR ?_ | refine WE.m1 ?_ | refine WE.tbl ?_ | refine WE.tblNin ?_ | refine WE.chain ?_ | refine WE.fldF ?_ | refine WE.mth ?_ | refine WE.disp ?_ | refine WE.dicC ?_ | refine WE.tupA ?_))
local macro_rules | `(tactic| trivial) => `(tactic| (repeat fail))
end
end L4
namespace L4
open PySem
section
variable {m m0 : M} {ρ : Ss} {r : Ru}
/-- the box of draws at its places -/
def AY (m : M) : Prop := ∃ gs a b c rest, m = dSt gs a b c rest ∧ 0 ≤ a ∧ (∀ g ∈ gs, 0 ≤ g) ∧ gs.length < 1000
theorem AY.ax (h : AY m) : ∃ rest, AX rest m ∧ m.length = rest.length + 2 ∧ ∀ j, 2 ≤ j → m[j]? = rest[j - 2]? := by
  obtain ⟨gs, a, b, c, rest, rfl, h⟩ := h
  refine ⟨rest, ⟨gs, a, b, c, rfl, h⟩, rfl, fun j hj => ?_⟩
  obtain ⟨k, rfl⟩ : ∃ k, j = k + 2 := ⟨j - 2, by omega⟩
  rfl
theorem AX.ay {rest : M} (h : AX rest m) : AY m ∧ m.length = rest.length + 2 ∧ ∀ j, 2 ≤ j → m[j]? = rest[j - 2]? := by
  obtain ⟨gs, a, b, c, rfl, h⟩ := h
  refine ⟨⟨gs, a, b, c, rest, rfl, h⟩, rfl, fun j hj => ?_⟩
  obtain ⟨k, rfl⟩ : ∃ k, j = k + 2 := ⟨j - 2, by omega⟩
  rfl
theorem AY.le (h : AY m) : 2 ≤ m.length := by
  obtain ⟨rest, _, h, _⟩ := h.ax
  omega
theorem AY.off {m' : M} (h : AY m) (h0 : m'[0]? = m[0]?) (h1 : m'[1]? = m[1]?) : AY m' := by
  obtain ⟨gs, a, b, c, rest, rfl, h⟩ := h
  match m', h0, h1 with
  | [], h0, _ => cases h0
  | [_], _, h1 => cases h1
  | x :: y :: z, h0, h1 =>
    cases h0
    cases h1
    exact ⟨gs, a, b, c, z, rfl, h⟩
theorem draw_y (h : AY m) {k : Int} (h1 : 1 ≤ k) (h2 : k < 1073741824) {Q : D → M → Prop} (q : ∀ (x : Int) m', 0 ≤ x → x < k → AY m' → m'.length = m.length → (∀ j, 2 ≤ j → m'[j]? = m[j]?) → Q (.int x) m') : Wr (F__law_draw [.ref 1, .int k] m) Q := by
  obtain ⟨rest, ha, hl, ho⟩ := h.ax
  refine draw_a ha h1 h2 fun x m' x0 x1 ha' => ?_
  obtain ⟨h3, h4, h5⟩ := ha'.ay
  exact q x m' x0 x1 h3 (by omega) fun j hj => (h5 j hj).trans (ho j hj).symm
theorem pick_y (h : AY m) {ds : List D} (h1 : 1 ≤ ds.length) (h2 : ds.length < 1000) {Q : D → M → Prop} (q : ∀ d m', d ∈ ds → AY m' → m'.length = m.length → (∀ j, 2 ≤ j → m'[j]? = m[j]?) → Q d m') : Wr (F__law_pick [.ref 1, .lst ds] m) Q := by
  obtain ⟨rest, ha, hl, ho⟩ := h.ax
  refine pick_a ha h1 h2 fun d m' hd ha' => ?_
  obtain ⟨h3, h4, h5⟩ := ha'.ay
  exact q d m' hd h3 (by omega) fun j hj => (h5 j hj).trans (ho j hj).symm
end
end L4
namespace L4
open PySem
/-- what stands at the leaves of any value -/
def vaLeaves : List D := [.int 0, .int 1, .int (-7), .int 100000000000000000000, .non, .bl true, .bl false, .str "", .str "open", .str "ok", .str "fault", .str "turn 0 0 ok", .str "felt", .str "all", .str "x y"]
def VaN : Nat → D → Prop
  | 0, d => d ∈ vaLeaves
  | n + 1, d => d ∈ vaLeaves ∨ ∃ ds, (d = .lst ds ∨ d = .tup ds) ∧ ds.length ≤ 3 ∧ ∀ e ∈ ds, VaN n e
theorem VaN.leaf {n : Nat} {d : D} (h : d ∈ vaLeaves) : VaN n d := by
  cases n with
  | zero => exact h
  | succ n => exact .inl h
theorem VaN.cases {n : Nat} {d : D} (h : VaN n d) : d ∈ vaLeaves ∨ ∃ ds, d = .lst ds ∨ d = .tup ds := by
  cases n with
  | zero => exact .inl h
  | succ n =>
    rcases h with h | ⟨ds, h, _⟩
    · exact .inl h
    · exact .inr ⟨ds, h⟩
theorem va_leaf {d : D} (h : d ∈ vaLeaves) : d = .non ∨ (∃ b, d = .bl b) ∨ (∃ i, d = .int i) ∨ ∃ s, d = .str s := by
  simp only [vaLeaves, List.mem_cons, List.not_mem_nil, or_false] at h
  rcases h with rfl | rfl | rfl | rfl | rfl | rfl | rfl | rfl | rfl | rfl | rfl | rfl | rfl | rfl | rfl
  · exact .inr (.inr (.inl ⟨_, rfl⟩))
  · exact .inr (.inr (.inl ⟨_, rfl⟩))
  · exact .inr (.inr (.inl ⟨_, rfl⟩))
  · exact .inr (.inr (.inl ⟨_, rfl⟩))
  · exact .inl rfl
  · exact .inr (.inl ⟨_, rfl⟩)
  · exact .inr (.inl ⟨_, rfl⟩)
  all_goals exact .inr (.inr (.inr ⟨_, rfl⟩))
theorem va_pure {d : D} (h : d ∈ vaLeaves) : pureD d = true := by
  rcases va_leaf h with rfl | ⟨b, rfl⟩ | ⟨i, rfl⟩ | ⟨s, rfl⟩ <;> rfl
theorem va_pureL {ds : List D} : (∀ e ∈ ds, pureD e = true) → pureL ds = true := by
  induction ds with
  | nil => intro _; rfl
  | cons d ds ih => intro h; show (pureD d && pureL ds) = true; rw [h d (List.mem_cons_self ..), ih fun e he => h e (List.mem_cons_of_mem _ he)]; rfl
theorem VaN.pure : ∀ {n : Nat} {d : D}, VaN n d → pureD d = true
  | 0, _, h => va_pure h
  | n + 1, d, h => by
    rcases h with h | ⟨ds, h, _, hv⟩
    · exact va_pure h
    · have := va_pureL fun e he => VaN.pure (hv e he)
      rcases h with rfl | rfl <;> exact this
theorem pow20 (m : M) : powD m (.int 10) (.int 20) = some (.int 100000000000000000000) := by kernel_rfl
section
variable {m : M}
theorem va_1 : ∀ x ∈ ([.int 0, .int 1, .int (-7), .int 100000000000000000000] : List D), x ∈ vaLeaves := by
  intro x hx
  simp only [List.mem_cons, List.not_mem_nil, or_false] at hx
  rcases hx with rfl | rfl | rfl | rfl <;> simp [vaLeaves]
theorem va_2 : ∀ x ∈ ([.non, .bl true, .bl false] : List D), x ∈ vaLeaves := by
  intro x hx
  simp only [List.mem_cons, List.not_mem_nil, or_false] at hx
  rcases hx with rfl | rfl | rfl <;> simp [vaLeaves]
theorem va_3 : ∀ x ∈ ([.str "", .str "open", .str "ok", .str "fault", .str "turn 0 0 ok", .str "felt", .str "all", .str "x y"] : List D), x ∈ vaLeaves := by
  intro x hx
  simp only [List.mem_cons, List.not_mem_nil, or_false] at hx
  rcases hx with rfl | rfl | rfl | rfl | rfl | rfl | rfl | rfl <;> simp [vaLeaves]
local macro_rules | `(tactic| fail) => `(tactic| (first | ((with_reducible refine w_and_t ?_ ?_); exact rfl) | ((with_reducible refine w_and_f ?_ ?_); exact rfl) | ((with_reducible refine w_or_t ?_ ?_); exact rfl) | ((with_reducible refine w_or_f ?_ ?_); exact rfl) | ((with_reducible refine Kn.fdiv ?_ ?_); exact ⟨by decide, by decide⟩) | ((with_reducible refine Kn.mod ?_ ?_); decide) | ((with_reducible refine And.intro (a := (_ && _) = true) ?_ ?_); exact rfl) | ((with_reducible refine And.intro (a := List.length _ = List.length _) ?_ ?_); exact rfl; dsimp only [setMany, List.set_cons_succ, List.set_cons_zero]) | ((with_reducible refine ⟨wsz ?_, ?_⟩); first | decide | (show (_ : Nat) ≤ 1000; simp only [List.length_cons, List.length_nil]; decide)) | with_reducible refine ⟨_, rfl, ?_⟩))
local macro_rules | `(tactic| fail) => `(tactic| (first | ((with_reducible refine WG.nm ?_); dsimp only [setMany, List.set_cons_succ, List.set_cons_zero]) | ((with_reducible refine WG.one ?_); dsimp only [setMany, List.set_cons_succ, List.set_cons_zero]) | ((with_reducible refine WG.tup ?_ ?_); exact rfl; dsimp only [setMany, List.set_cons_succ, List.set_cons_zero]) | ((with_reducible apply WE.var); exact rfl) | ((with_reducible apply WE.upP); exact rfl) | ((with_reducible apply WE.upT); exact rfl) | ((with_reducible apply WE.upL); exact rfl) | ((with_reducible apply WE.upN); exact rfl) | ((with_reducible apply WS.aug); exact rfl) | ((with_reducible apply WE.newPL); exact rfl) | ((with_reducible refine WS.ite_t ?_ ?_); exact rfl) | ((with_reducible refine WS.ite_f ?_ ?_); exact rfl) | ((with_reducible refine WE.ite_t ?_ ?_); exact rfl) | ((with_reducible refine WE.ite_f ?_ ?_); exact rfl)))
local macro_rules | `(tactic| fail) => `(tactic| with_reducible (first | refine Kn.it_l ?_ | refine Kn.it_s ?_ | refine Kn.str_s ?_ | refine Kn.sl_t ?_ | refine Kn.sl_l ?_ | refine Fld.need ?_ | refine Fld.of ?_ | refine Fld.base ?_ | refine Fld.more ?_ | refine Fld.most ?_ | refine Fld.calm ?_ | refine Fld.back ?_ | refine Fld.top ?_ | refine Fld.under ?_ | refine Fld.up ?_ | refine Fld.hears ?_ | refine Fld.cap ?_ | refine Mth.time ?_))
local macro_rules | `(tactic| fail) => `(tactic| with_reducible (first | refine WE.tupL ?_ | refine WE.dicP ?_ | refine WP.nil ?_ | refine WP.cons ?_ | refine WE.upd ?_ | refine WA.nil ?_ | refine WA.cons ?_ | refine WA.star ?_ | refine WO.no ?_ | refine WO.yes ?_ | refine WT.val ?_ | refine WT.and ?_ | refine WT.or ?_ | refine WT.not ?_ | refine WT.tt ?_ | refine WI.it ?_ | refine Kn.add_i ?_ | refine Kn.sub ?_ | refine Kn.neg ?_ | refine Kn.eq_i ?_ | refine Kn.ne_i ?_ | refine Kn.lt ?_ | refine Kn.le ?_ | refine Kn.gt ?_ | refine Kn.ge ?_ | refine Kn.int_i ?_ | refine Kn.int_b ?_ | refine Kn.abs ?_ | refine Kn.min2 ?_ | refine Kn.max2 ?_ | refine Kn.len_t ?_ | refine Kn.len_l ?_ | refine Kn.len_s ?_ | refine Kn.tup_t ?_ | refine Kn.tup_l ?_ | refine Kn.lis_t ?_ | refine Kn.lis_l ?_ | refine Kn.seq_t ?_ | refine Kn.seq_l ?_ | refine Kn.it_t ?_))
local macro_rules | `(tactic| fail) => `(tactic| with_reducible (first | refine WS.seq ?_ | refine WS.nx ?_ | refine WS.rt ?_ | refine WS.asg ?_ | refine WS.drop ?_ | refine WS.ret ?_ | refine WS.nop ?_ | refine WS.retN ?_ | refine WS.brk ?_ | refine WS.cont ?_ | refine WS.sif ?_ | refine WS.par ?_ | refine WG.setA ?_ | refine WE.c ?_ | refine WE.op ?_ | refine WE.call ?_ | refine WE.callM ?_ | refine WE.un ?_ | refine WE.tup ?_ | refine WE.lst ?_ | refine WE.newL ?_ | refine WE.eif ?_ | refine WE.sl ?_ | refine WE.isN ?_ | refine WE.notN ?_ | refine WE.not ?_ | refine WE.and ?_ | refine WE.or ?_ | refine WE.app ?_ | refine WE.tupR ?_ | refine WE.lisR ?_ | refine WE.m1 ?_ | refine WE.tbl ?_ | refine WE.tblNin ?_ | refine WE.chain ?_ | refine WE.fldF ?_ | refine WE.mth ?_ | refine WE.disp ?_ | refine WE.dicC ?_ | refine WE.tupA ?_))
local macro_rules | `(tactic| trivial) => `(tactic| (repeat fail))
theorem value_y : ∀ (n deep : Nat) {m : M}, deep < n → deep < 100 → AY m → ∀ {Q : D → M → Prop}, (∀ d m', VaN deep d → AY m' → m'.length = m.length → (∀ j, 2 ≤ j → m'[j]? = m[j]?) → Q d m') → Wr (F__law_value n [.ref 1, .int (deep : Nat)] m) Q
  | 0, _, _, h, _, _, _, _ => absurd h (Nat.not_lt_zero _)
  | n + 1, deep, m, hd, h100, ay, Q, q => by
    show Wr (runM 2 5 (f__law_value (F__law_value n)) [.ref 1, .int (deep : Nat)] m) Q
    refine WS.runM (b := f__law_value (F__law_value n)) (n := 5) ?_ rfl
    show WS _ [some (.ref 1), some (.int (deep : Nat)), none, none, none] m _
    have fin : ∀ {d : D} {m' : M}, VaN deep d → AY m' → m'.length = m.length → (∀ j, 2 ≤ j → m'[j]? = m[j]?) → Q d m' := fun a b c d => q _ _ a b c d
    have body : ∀ (f : Int) (m1 : M), 0 ≤ f → f < 7 → (f < 4 ∨ 0 < deep) → AY m1 → m1.length = m.length → (∀ j, 2 ≤ j → m1[j]? = m[j]?) →
        WS (f__law_value_5 (F__law_value n)) [some (.ref 1), some (.int (deep : Nat)), some (.int f), none, none] m1 (fun r m1 => (∃ y, r = Fl.rt y ∧ Q y m1) ∨ ∃ ρ, r = Fl.nx ρ ∧ Q D.non m1) := by
      intro f m1 f0 f7 f4 ay l1 o1
      trivial
      cases h0 : (f == 0)
      · refine WS.ite_f rfl ?_
        trivial
        cases h1 : (f == 1)
        · refine WS.ite_f rfl ?_
          trivial
          cases h2 : decide (f < 4)
          · refine WS.ite_f rfl ?_
            have hp : 0 < deep := by
              have := of_decide_eq_false h2
              omega
            trivial
            obtain ⟨dp, rfl⟩ : ∃ k, deep = k + 1 := ⟨deep - 1, by omega⟩
            refine WE.lcI (fun m2 acc => AY m2 ∧ m2.length = m.length ∧ (∀ j, 2 ≤ j → m2[j]? = m[j]?) ∧ ∀ e ∈ acc, VaN dp e) ?_
            refine WI.r1 ?_
            trivial
            refine draw_y ay (by decide) (by decide) fun k m2 k0 k1 ay2 l2 o2 => ?_
            trivial
            have hlen : (rngD 0 k.toNat).length = k.toNat := by unfold rngD; rw [List.length_map, List.length_range]
            refine ⟨by omega, by omega, ⟨ay2, by omega, fun j hj => (o2 j hj).trans (o1 j hj), fun e h => nomatch h⟩, ?_, ?_⟩
            · rintro i x m3 acc hx rfl ⟨ay3, l3, o3, hv⟩
              refine ⟨[x], rfl, ?_⟩
              trivial
              have e1 : ((dp + 1 : Nat) : Int) - 1 = (dp : Nat) := by omega
              rw [e1]
              refine value_y n dp (by omega) (by omega) ay3 fun d m4 hd4 ay4 l4 o4 => ⟨ay4, by omega, fun j hj => (o4 j hj).trans (o3 j hj), fun e he => ?_⟩
              rcases List.mem_append.mp he with he | he
              · exact hv e he
              · rw [List.mem_singleton.mp he]; exact hd4
            · rintro m3 acc hl ⟨ay3, l3, o3, hv⟩
              have hl3 : acc.length ≤ 3 := by omega
              trivial
              cases h4 : (f == 4)
              · refine WE.ite_f rfl ?_
                trivial
                exact .inl ⟨_, rfl, fin (.inr ⟨acc, .inr rfl, hl3, hv⟩) ay3 l3 o3⟩
              · refine WE.ite_t rfl ?_
                trivial
                exact .inl ⟨_, rfl, fin (.inr ⟨acc, .inl rfl, hl3, hv⟩) ay3 l3 o3⟩
          · refine WS.ite_t rfl ?_
            trivial
            refine pick_y ay (by show 1 ≤ 8; decide) (by show 8 < 1000; decide) fun d m2 hd ay2 l2 o2 => ?_
            trivial
            exact .inl ⟨_, rfl, fin (VaN.leaf (va_3 _ hd)) ay2 (by omega) fun j hj => (o2 j hj).trans (o1 j hj)⟩
        · refine WS.ite_t rfl ?_
          trivial
          refine pick_y ay (by show 1 ≤ 3; decide) (by show 3 < 1000; decide) fun d m2 hd ay2 l2 o2 => ?_
          trivial
          exact .inl ⟨_, rfl, fin (VaN.leaf (va_2 _ hd)) ay2 (by omega) fun j hj => (o2 j hj).trans (o1 j hj)⟩
      · refine WS.ite_t rfl ?_
        trivial
        refine Kn.mk (pow20 _) ?_
        trivial
        refine pick_y ay (by show 1 ≤ 4; decide) (by show 4 < 1000; decide) fun d m2 hd ay2 l2 o2 => ?_
        trivial
        exact .inl ⟨_, rfl, fin (VaN.leaf (va_1 _ hd)) ay2 (by omega) fun j hj => (o2 j hj).trans (o1 j hj)⟩
    trivial
    cases hz : decide ((0 : Int) < (deep : Nat))
    · refine WE.ite_f rfl ?_
      trivial
      refine draw_y ay (by decide) (by decide) fun k m2 k0 k1 ay2 l2 o2 => ?_
      refine WG.nm ?_
      dsimp only [List.set_cons_succ, List.set_cons_zero]
      refine WS.nx ?_
      exact body k m2 k0 (by omega) (.inl k1) ay2 l2 o2
    · refine WE.ite_t rfl ?_
      trivial
      refine draw_y ay (by decide) (by decide) fun k m2 k0 k1 ay2 l2 o2 => ?_
      refine WG.nm ?_
      dsimp only [List.set_cons_succ, List.set_cons_zero]
      refine WS.nx ?_
      exact body k m2 k0 (by omega) (.inr (by have := of_decide_eq_true hz; omega)) ay2 l2 o2
end
end L4
namespace L4
open PySem
structure Ca where
  st : List Sd
  la : List Str
  fe : List Int
  mi : List Int
structure Wo where
  cs : List Ca
  lo : List (Nat × Nat)
inductive Ev where
  | turn (c s : Nat) (f : Bool)
  | told (c d s : Nat)
inductive Go where | all | kept | swap
deriving DecidableEq
def Go.s : Go → Str
  | .all => "all"
  | .kept => "kept"
  | .swap => "swap"
def Ev.c : Ev → Nat
  | .turn c _ _ => c
  | .told c _ _ => c
def Ev.s : Ev → Nat
  | .turn _ s _ => s
  | .told _ _ s => s
def Ev.d : Ev → D
  | .turn c s f => .tup [.str "turn", .int (c : Nat), .int (s : Nat), .bl f]
  | .told c d s => .tup [.str "told", .int (c : Nat), .int (d : Nat), .int (s : Nat)]
def Sd.isIn : Sd → Bool
  | .inn _ _ _ => true
  | _ => false
def Sd.isOut : Sd → Bool
  | .out _ _ => true
  | _ => false
def Ca.outs (c : Ca) : Nat := (c.st.filter fun s => !s.isIn).length
def caN : Ca := ⟨[], [], [], []⟩
def Wo.at_ (w : Wo) (i : Nat) : Ca := w.cs.getD i caN
section
variable (r : Ru) (most : Int) (w : Wo)
/-- the standing behind an event, what a turn was, whether the server is kept -/
def Ru.hap : Ev → Sd × Option Wh × Bool
  | .turn c s f => let x := r.afterTurn ((w.at_ c).st.getD s begun) f (decide (((w.at_ c).outs : Int) < most)); (x.1, some x.2.1, x.2.2)
  | .told c _ s => let x := r.afterWord ((w.at_ c).st.getD s begun) (decide (((w.at_ c).outs : Int) < most)); (x.1, none, x.2)
def Ca.put (c : Ca) (s : Nat) (x : Sd) : Option Wh → Ca
  | some v => ⟨c.st.set s x, c.la.set s v.s, c.fe.set s (c.fe.getD s 0 + if v = .felt then 1 else 0), c.mi.set s (c.mi.getD s 0 + if v = .missed then 1 else 0)⟩
  | none => ⟨c.st.set s x, c.la, c.fe, c.mi⟩
def addLo (lo : List (Nat × Nat)) (k : Nat × Nat) : List (Nat × Nat) := if k ∈ lo then lo else lo ++ [k]
def Ru.nxt (e : Ev) : Wo := ⟨w.cs.set e.c ((w.at_ e.c).put e.s (r.hap most w e).1 (r.hap most w e).2.1), if (r.hap most w e).1.isOut then addLo w.lo (e.c, e.s) else w.lo⟩
/-- other servers that are out or on trial -/
def spots (s : Nat) : Nat → List Sd → List Nat
  | _, [] => []
  | i, x :: xs => (bif !x.isIn && !(i == s) then [i] else []) ++ spots s (i + 1) xs
def Ca.better (c : Ca) (s : Nat) : Bool := (spots s 0 c.st).any fun i => decide (c.la.getD i Str.empty = "missed")
def Ca.goals (c : Ca) (s : Nat) (kept : Bool) : List Go := (bif c.st.all Sd.isOut then [.all] else []) ++ (bif kept then .kept :: (bif c.better s then [.swap] else []) else [])
def Ru.goals (e : Ev) : List Go := ((w.at_ e.c).put e.s (r.hap most w e).1 (r.hap most w e).2.1).goals e.s (r.hap most w e).2.2
def Wo.can : Ev → Prop
  | .turn _ _ _ => True
  | .told _ d s => (d, s) ∈ w.lo
end
instance (w : Wo) (e : Ev) : Decidable (w.can e) := by cases e <;> unfold Wo.can <;> infer_instance
/-- a row of events -/
def Ru.go (r : Ru) (most : Int) : Nat → Wo → List Ev → Wo × List (Nat × Go)
  | _, w, [] => (w, [])
  | i, w, e :: es => ((r.go most (i + 1) (r.nxt most w e) es).1, (r.goals most w e).map (fun g => (i, g)) ++ (r.go most (i + 1) (r.nxt most w e) es).2)
def Ev.In (nc ns : Nat) : Ev → Prop
  | .turn c s _ => c < nc ∧ s < ns
  | .told c d s => c < nc ∧ d < nc ∧ s < ns ∧ c ≠ d
structure Ca.Ok (r : Ru) (ns : Nat) (c : Ca) : Prop where
  st : c.st.length = ns
  la : c.la.length = ns
  fe : c.fe.length = ns
  mi : c.mi.length = ns
  sn : ∀ s ∈ c.st, s.In r
  lz : ∀ z ∈ c.la, PyData.strOk z = true
structure Wo.Ok (r : Ru) (nc ns : Nat) (w : Wo) : Prop where
  cs : w.cs.length = nc
  ca : ∀ c ∈ w.cs, c.Ok r ns
  lo : w.lo.Nodup
  lb : ∀ k ∈ w.lo, k.1 < nc ∧ k.2 < ns
section
variable {r : Ru} {most : Int} {w : Wo} {nc ns : Nat} {e : Ev}
theorem Ev.In.c (h : e.In nc ns) : e.c < nc := by cases e <;> exact h.1
theorem Ev.In.s (h : e.In nc ns) : e.s < ns := by
  cases e with
  | turn => exact h.2
  | told => exact h.2.2.1
theorem Wo.Ok.get (h : w.Ok r nc ns) {i : Nat} (hi : i < nc) : w.cs[i]? = some (w.at_ i) := by
  have := h.cs
  unfold Wo.at_
  rw [List.getD_eq_getElem?_getD, List.getElem?_eq_getElem (by omega)]
  rfl
theorem Wo.Ok.at_ (h : w.Ok r nc ns) {i : Nat} (hi : i < nc) : (w.at_ i).Ok r ns := h.ca _ (List.mem_of_getElem? (h.get hi))
end
end L4
namespace L4
open PySem
end L4
namespace L4
open PySem
section
variable {m : M} {ρ : Ss}
theorem Kn.callKw {F : List D → Option D} {xs : List D} {Q : D → Prop} {d : D} (hp : pureL xs = true) (e : F xs = some d) (k : Q d) : Kn (L4.callK F m xs) Q := ⟨d, by
  unfold L4.callK
  rw [if_pos hp]
  exact e, k⟩
theorem insOf_ref {n : Nat} {c : Str} {ns : List Str} {vs : List D} (h : m[n]? = some (.ins c ns vs)) : insOf m (.ref n) = some (c, ns, vs) := by
  show (m[n]?).bind insO = _
  rw [h]
  rfl
theorem Fld.ref {n : Nat} {c f : Str} {cs ns : List Str} {vs : List D} {v : D} {Q : D → Prop} (h : m[n]? = some (.ins c ns vs)) (hc : cs.contains c = true) (hv : fldAt ns vs f = some v) (q : Q v) : Fld m (.ref n) cs f Q := ⟨c, ns, vs, v, insOf_ref h, hc, hv, q⟩
theorem WE.ext {o e : EF} {Q : D → M → Prop} (h : WE o ρ m fun x m1 => ∃ n, x = .ref n ∧ (∃ ds0, m1[n]? = some (.lst ds0)) ∧ WE e ρ m1 fun y m2 => ∃ ds es, m2[n]? = some (.lst ds) ∧ lstOf m2 y = some es ∧ ds.length + es.length ≤ sizeLine ∧ Q .non (m2.set n (.lst (ds ++ es)))) : WE (eLm0 extL o (aCons e aNil)) ρ m Q := by
  obtain ⟨x, m1, e1, n, rfl, ⟨ds0, h0⟩, y, m2, e2, ds, es, h1, h2, h3, q⟩ := h
  refine ⟨.non, _, ?_, q⟩
  have ea : aCons e aNil ρ m1 = some ([y], m2) := by unfold aCons; rw [e2]; rfl
  unfold eLm0
  rw [e1]
  simp only [bd_go, h0, ea, h1, extL, h2, if_pos h3, Option.map_some]
end
end L4
namespace L4
open PySem
section
variable {m m0 : M} {ρ : Ss} {r : Ru} {most : Int} {w : Wo} {nc ns k : Nat} {c : Ca} {e : Ev} {es : List Ev} {ts : List D}
theorem eq_turn_turn : eqD m (.str "turn") (.str "turn") = some (.bl true) := eqB (by kernel_rfl)
theorem eq_told_turn : eqD m (.str "told") (.str "turn") = some (.bl false) := eqB (by kernel_rfl)
def ansS (f : Bool) : Str := if f then "fault" else "ok"
theorem eq_ansf (f : Bool) : eqD m (.str (ansS f)) (.str "fault") = some (.bl f) := by cases f <;> exact eqB (by kernel_rfl)
theorem WE.lcMw {nw : Bool} {it : AF} {i : Nat} {e : EF} {α : Type} {Q : D → M → Prop} (enc f : α → D) {xs : List α} (hi : WI it ρ m fun ys m1 => ys = xs.map enc ∧ m1 = m) (hl : xs.length ≤ 1000000) (h : ∀ x ∈ xs, WE e (ρ.set i (some (enc x))) m fun v m1 => v = f x ∧ m1 = m) (q : Q (bif nw then .ref m.length else .lst (xs.map f)) (bif nw then m ++ [.lst (xs.map f)] else m)) : WE (eLcK nw it (.one i) tTrue e) ρ m Q := by
  obtain ⟨ys, m1, e1, rfl, rfl⟩ := hi
  refine WE.lcK ⟨_, m1, e1, by simpa using hl, ?_⟩
  have := comp_pure (t := .one i) (c := tTrue) (e := e) (ρ := ρ) (m := m1) enc (fun _ => true) f xs fun x hx => by
    obtain ⟨v, m2, e2, rfl, rfl⟩ := h x hx
    exact ⟨[enc x], rfl, rfl, fun _ => e2⟩
  rw [List.filter_eq_self.mpr (fun _ _ => rfl)] at this
  exact ⟨_, m1, this, q⟩
end
end L4
namespace L4
open PySem
section
variable {m m0 : M} {ρ : Ss} {nc ns : Nat} {e : Ev} {es : List Ev}
theorem WS.fldMw {cs : List Str} {f : Str} {o v : EF} {Q : Fl → M → Prop} (h : WE v ρ m fun y m1 => WE o ρ m1 fun x m2 => ∃ n c ns vs ns2 vs2, x = .ref n ∧ m2[n]? = some (.ins c ns vs) ∧ cs.contains c = true ∧ vs.length < 1000 ∧ putD f y ns vs = (ns2, vs2) ∧ Q (.nx ρ) (m2.set n (.ins c ns2 vs2))) : WS (sFldM cs f o v) ρ m Q := by
  obtain ⟨y, m1, e1, x, m2, e2, n, c, ns, vs, ns2, vs2, rfl, h1, h2, h3, h4, q⟩ := h
  refine ⟨_, _, ?_, q⟩
  unfold sFldM
  rw [e1, bd_go, e2, bd_go]
  dsimp only
  rw [h1]
  dsimp only
  rw [if_pos ⟨h2, h3⟩, h4]
def rdNames : List Str := ["told_events", "callers", "servers", "events"]
def roadD (nc ns : Nat) (es : List Ev) (ts : List D) : D := .obj "Road" rdNames [.tup (es.map Ev.d), .int (nc : Nat), .int (ns : Nat), .tup ts]
theorem rd_c1 : (["Road"] : List Str).contains "Road" = true := by decide +kernel
theorem frz_tupE {n : Nat} {ds : List D} (h : ∀ e ∈ ds, frzGo m n e = some e) : frzGo m (n + 1) (.tup ds) = some (.tup ds) := by
  unfold frzGo
  rw [mapO_self h]
  rfl
theorem ev_ix0t {c s : Nat} {f : Bool} : ixA m (Ev.turn c s f).d (.int 0) = some (.str "turn") := rfl
theorem ev_ix0w {c d s : Nat} : ixA m (Ev.told c d s).d (.int 0) = some (.str "told") := rfl
theorem ev_ix1 (e : Ev) : ixA m e.d (.int 1) = some (.int (e.c : Nat)) := by cases e <;> rfl
theorem ev_ix2t {c s : Nat} {f : Bool} : ixA m (Ev.turn c s f).d (.int 2) = some (.int (s : Nat)) := rfl
theorem ev_ix2w {c d s : Nat} : ixA m (Ev.told c d s).d (.int 2) = some (.int (d : Nat)) := rfl
theorem ev_ix3w {c d s : Nat} : ixA m (Ev.told c d s).d (.int 3) = some (.int (s : Nat)) := rfl
end
end L4
namespace L4
open PySem
section
variable {m m0 : M} {ρ : Ss} {nc ns : Nat} {e : Ev} {es : List Ev}
def Ev.w : Ev → List Str
  | .turn c s f => ["turn", nS (c : Nat), nS (s : Nat), ansS f]
  | .told c d s => ["told", nS (c : Nat), nS (d : Nat), nS (s : Nat)]
def Ev.t (e : Ev) : Str := joinT " " e.w
theorem i100 {n : Nat} (h : n < 100) : (0 : Int) ≤ (n : Nat) ∧ ((n : Nat) : Int) < 100 := ⟨by omega, by omega⟩
theorem nob_n {n : Nat} (h : n < 100) : 32 ∉ (nS (n : Nat)).cps.toList := (nsg_ok (i100 h).1 (i100 h).2).b
theorem nob_ev : 32 ∉ ("turn" : Str).cps.toList ∧ 32 ∉ ("told" : Str).cps.toList ∧ 32 ∉ ("ok" : Str).cps.toList ∧ 32 ∉ ("fault" : Str).cps.toList := by decide +kernel
theorem nob_ans (f : Bool) : 32 ∉ (ansS f).cps.toList := by cases f <;> decide +kernel
theorem ev_nob (h : e.In nc ns) (hc : nc ≤ 100) (hs : ns ≤ 100) : ∀ w ∈ e.w, 32 ∉ w.cps.toList := by
  obtain ⟨n1, n2, n3, n4⟩ := nob_ev
  cases e with
  | turn c s f =>
    obtain ⟨h1, h2⟩ := h
    intro w hw
    simp only [Ev.w, List.mem_cons, List.not_mem_nil, or_false] at hw
    rcases hw with rfl | rfl | rfl | rfl
    · exact n1
    · exact nob_n (by omega)
    · exact nob_n (by omega)
    · exact nob_ans f
  | told c d s =>
    obtain ⟨h1, h2, h3, _⟩ := h
    intro w hw
    simp only [Ev.w, List.mem_cons, List.not_mem_nil, or_false] at hw
    rcases hw with rfl | rfl | rfl | rfl
    · exact n2
    · exact nob_n (by omega)
    · exact nob_n (by omega)
    · exact nob_n (by omega)
theorem ev_wlen : e.w.length = 4 := by cases e <;> rfl
theorem split_ev (h : e.In nc ns) (hc : nc ≤ 100) (hs : ns ≤ 100) : splitS e.t 32 = e.w := split_join one_blank (by cases e <;> simp [Ev.w]) (ev_nob h hc hs)
theorem len_n {n : Nat} (h : n < 100) : (nS (n : Nat)).length ≤ 2 := len_nS (i100 h)
theorem len_ev4 : ("turn" : Str).length = 4 ∧ ("told" : Str).length = 4 ∧ (" " : Str).length = 1 := by decide +kernel
theorem len_ans (f : Bool) : (ansS f).length ≤ 5 := by cases f <;> decide +kernel
theorem ev_sum (h : e.In nc ns) (hc : nc ≤ 100) (hs : ns ≤ 100) : (e.w.map (·.length)).sum ≤ 15 := by
  obtain ⟨l1, l2, _⟩ := len_ev4
  cases e with
  | turn c s f =>
    obtain ⟨h1, h2⟩ := h
    have a1 := len_n (show c < 100 by omega)
    have a2 := len_n (show s < 100 by omega)
    have a3 := len_ans f
    simp only [Ev.w, List.map_cons, List.map_nil, List.sum_cons, List.sum_nil, l1]
    omega
  | told c d s =>
    obtain ⟨h1, h2, h3, _⟩ := h
    have a1 := len_n (show c < 100 by omega)
    have a2 := len_n (show s < 100 by omega)
    have a3 := len_n (show d < 100 by omega)
    simp only [Ev.w, List.map_cons, List.map_nil, List.sum_cons, List.sum_nil, l2]
    omega
theorem ev_tlen (h : e.In nc ns) (hc : nc ≤ 100) (hs : ns ≤ 100) : e.t.length ≤ 100 := by
  have h1 := ev_sum h hc hs
  have h2 := joinL_len 32 (e.w.map fun y => y.cps.toList)
  unfold Ev.t
  rw [slen, joinT_l, one_blank]
  refine Nat.le_trans h2 ?_
  rw [List.map_map]
  have e1 : (e.w.map ((fun w : List Nat => w.length + 1) ∘ fun y : Str => y.cps.toList)).sum = (e.w.map (·.length)).sum + e.w.length := by
    have : ∀ l : List Str, (l.map ((fun w : List Nat => w.length + 1) ∘ fun y : Str => y.cps.toList)).sum = (l.map (·.length)).sum + l.length := fun l => by
      induction l with
      | nil => rfl
      | cons a l ih =>
        rw [List.map_cons, List.sum_cons, ih, List.map_cons, List.sum_cons, List.length_cons]
        show a.cps.toList.length + 1 + _ = _
        rw [slen a]
        omega
    exact this _
  rw [e1, ev_wlen]
  omega
theorem nin_ans (f : Bool) : F_number_in [.str (ansS f), .int 2] = some .non := by cases f <;> kernel_rfl
theorem eq_tt : eqD m (.str "turn") (.str "turn") = some (.bl true) ∧ eqD m (.str "told") (.str "turn") = some (.bl false) ∧ eqD m (.str "told") (.str "told") = some (.bl true) := ⟨eqB (by kernel_rfl), eqB (by kernel_rfl), eqB (by kernel_rfl)⟩
theorem in_ans (f : Bool) : inA m (.str (ansS f)) (.tup [.str "ok", .str "fault"]) = some (.bl true) := by cases f <;> exact eqB (by kernel_rfl)
theorem nin_non {is : List Int} : ninA m .non (.lst (is.map .int)) = some (.bl true) := by
  have h := in_non (m := m) (is := is)
  unfold inA at h
  unfold ninA
  obtain ⟨b, hb, e⟩ := Option.map_eq_some_iff.mp h
  rw [hb]
  cases e
  rfl
theorem pure2sa {x : Str} {i : Int} : pureL [.str x, .int i] = true := rfl
theorem ix4 {a b c d : D} : ixA m (.lst [a, b, c, d]) (.int 0) = some a ∧ ixA m (.lst [a, b, c, d]) (.int 3) = some d := ⟨by rw [ixA_lst]; rfl, by rw [ixA_lst]; rfl⟩
theorem ix3 {a b c : D} : ixA m (.lst [a, b, c]) (.int 0) = some a ∧ ixA m (.lst [a, b, c]) (.int 1) = some b := ⟨by rw [ixA_lst]; rfl, by rw [ixA_lst]; rfl⟩
theorem frz_pW {x : D} (h : pureD x = true) : frz m x = some x := by unfold frz; rw [if_pos h]
theorem frz_ev : frz m e.d = some e.d := frz_pW (by cases e <;> rfl)
local macro_rules | `(tactic| fail) => `(tactic| (first | ((with_reducible refine w_and_t ?_ ?_); exact rfl) | ((with_reducible refine w_and_f ?_ ?_); exact rfl) | ((with_reducible refine w_or_t ?_ ?_); exact rfl) | ((with_reducible refine w_or_f ?_ ?_); exact rfl) | ((with_reducible refine Kn.fdiv ?_ ?_); exact ⟨by decide, by decide⟩) | ((with_reducible refine Kn.mod ?_ ?_); decide) | ((with_reducible refine And.intro (a := (_ && _) = true) ?_ ?_); exact rfl) | ((with_reducible refine And.intro (a := List.length _ = List.length _) ?_ ?_); exact rfl; dsimp only [setMany, List.set_cons_succ, List.set_cons_zero]) | ((with_reducible refine ⟨wsz ?_, ?_⟩); first | decide | (show (_ : Nat) ≤ 1000; simp only [List.length_cons, List.length_nil]; decide)) | with_reducible refine ⟨_, rfl, ?_⟩))
local macro_rules | `(tactic| fail) => `(tactic| (first | ((with_reducible refine WG.nm ?_); dsimp only [setMany, List.set_cons_succ, List.set_cons_zero]) | ((with_reducible refine WG.one ?_); dsimp only [setMany, List.set_cons_succ, List.set_cons_zero]) | ((with_reducible refine WG.tup ?_ ?_); exact rfl; dsimp only [setMany, List.set_cons_succ, List.set_cons_zero]) | ((with_reducible apply WE.var); exact rfl) | ((with_reducible apply WE.upP); exact rfl) | ((with_reducible apply WE.upT); exact rfl) | ((with_reducible apply WE.upL); exact rfl) | ((with_reducible apply WE.upN); exact rfl) | ((with_reducible apply WS.aug); exact rfl) | ((with_reducible apply WE.newPL); exact rfl) | ((with_reducible refine WS.ite_t ?_ ?_); exact rfl) | ((with_reducible refine WS.ite_f ?_ ?_); exact rfl) | ((with_reducible refine WE.ite_t ?_ ?_); exact rfl) | ((with_reducible refine WE.ite_f ?_ ?_); exact rfl)))
local macro_rules | `(tactic| fail) => `(tactic| with_reducible (first | refine Kn.it_l ?_ | refine Kn.it_s ?_ | refine Kn.str_s ?_ | refine Kn.sl_t ?_ | refine Kn.sl_l ?_ | refine Fld.need ?_ | refine Fld.of ?_ | refine Fld.base ?_ | refine Fld.more ?_ | refine Fld.most ?_ | refine Fld.calm ?_ | refine Fld.back ?_ | refine Fld.top ?_ | refine Fld.under ?_ | refine Fld.up ?_ | refine Fld.hears ?_ | refine Fld.cap ?_ | refine Mth.time ?_))
local macro_rules | `(tactic| fail) => `(tactic| with_reducible (first | refine WE.tupL ?_ | refine WE.dicP ?_ | refine WP.nil ?_ | refine WP.cons ?_ | refine WE.upd ?_ | refine WA.nil ?_ | refine WA.cons ?_ | refine WA.star ?_ | refine WO.no ?_ | refine WO.yes ?_ | refine WT.val ?_ | refine WT.and ?_ | refine WT.or ?_ | refine WT.not ?_ | refine WT.tt ?_ | refine WI.it ?_ | refine Kn.add_i ?_ | refine Kn.sub ?_ | refine Kn.neg ?_ | refine Kn.eq_i ?_ | refine Kn.ne_i ?_ | refine Kn.lt ?_ | refine Kn.le ?_ | refine Kn.gt ?_ | refine Kn.ge ?_ | refine Kn.int_i ?_ | refine Kn.int_b ?_ | refine Kn.abs ?_ | refine Kn.min2 ?_ | refine Kn.max2 ?_ | refine Kn.len_t ?_ | refine Kn.len_l ?_ | refine Kn.len_s ?_ | refine Kn.tup_t ?_ | refine Kn.tup_l ?_ | refine Kn.lis_t ?_ | refine Kn.lis_l ?_ | refine Kn.seq_t ?_ | refine Kn.seq_l ?_ | refine Kn.it_t ?_))
local macro_rules | `(tactic| fail) => `(tactic| with_reducible (first | refine WS.seq ?_ | refine WS.nx ?_ | refine WS.rt ?_ | refine WS.asg ?_ | refine WS.drop ?_ | refine WS.ret ?_ | refine WS.nop ?_ | refine WS.retN ?_ | refine WS.brk ?_ | refine WS.cont ?_ | refine WS.sif ?_ | refine WS.par ?_ | refine WG.setA ?_ | refine WE.c ?_ | refine WE.op ?_ | refine WE.call ?_ | refine WE.callM ?_ | refine WE.un ?_ | refine WE.tup ?_ | refine WE.lst ?_ | refine WE.newL ?_ | refine WE.eif ?_ | refine WE.sl ?_ | refine WE.isN ?_ | refine WE.notN ?_ | refine WE.not ?_ | refine WE.and ?_ | refine WE.or ?_ | refine WE.app ?_ | refine WE.tupR ?_ | refine WE.lisR ?_ | refine WE.m1 ?_ | refine WE.tbl ?_ | refine WE.tblNin ?_ | refine WE.chain ?_ | refine WE.fldF ?_ | refine WE.mth ?_ | refine WE.disp ?_ | refine WE.dicC ?_ | refine WE.tupA ?_))
local macro_rules | `(tactic| trivial) => `(tactic| (repeat fail))
theorem evin_w (h : e.In nc ns) (hc : nc ≤ 100) (hs : ns ≤ 100) : F_event_in [.str e.t] = some e.d := by
  have hsp := split_ev h hc hs
  have htl := ev_tlen h hc hs
  refine WS.runP (n := 4) (b := f_event_in) ?_ rfl
  show WS _ [some (.str e.t), none, none, none] [] _
  trivial
  refine Kn.split one_blank (by decide) (by rw [sizeLine_eq]; omega) hsp ?_
  trivial
  have e4 : (e.w.map D.str).length = 4 := by rw [List.length_map]; exact ev_wlen
  rw [e4]
  trivial
  cases e with
  | turn c s f =>
    obtain ⟨h1, h2⟩ := h
    have n1 := nin_ok (i := ((c : Nat) : Int)) (by omega) (by omega)
    have n2 := nin_ok (i := ((s : Nat) : Int)) (by omega) (by omega)
    dsimp only [Ev.w, List.map_cons, List.map_nil]
    refine WE.lcMw (nw := false) (fun p : Str × D => .str p.1) (fun p => p.2) (xs := [(nS (c : Nat), .int (c : Nat)), (nS (s : Nat), .int (s : Nat)), (ansS f, .non)]) ?_ (by show 3 ≤ 1000000; decide) ?_ ?_
    · refine WI.it ?_
      trivial
      exact ⟨rfl, rfl⟩
    · intro p hp
      simp only [List.mem_cons, List.not_mem_nil, or_false] at hp
      rcases hp with rfl | rfl | rfl
      · trivial
        refine Kn.call pure2sa n1 ?_
        exact ⟨rfl, rfl⟩
      · trivial
        refine Kn.call pure2sa n2 ?_
        exact ⟨rfl, rfl⟩
      · trivial
        refine Kn.call pure2sa (nin_ans f) ?_
        exact ⟨rfl, rfl⟩
    dsimp only [cond_false, List.map_cons, List.map_nil]
    trivial
    unfold f_event_in_2
    trivial
    refine Kn.mk ix4.1 ?_
    trivial
    refine Kn.mk eq_tt.1 ?_
    trivial
    refine Kn.mk (nin_non (is := [(c : Nat), (s : Nat)])) ?_
    trivial
    refine Kn.mk ix4.2 ?_
    trivial
    refine Kn.mk (in_ans f) ?_
    trivial
    refine Kn.mk ix3.1 ?_
    trivial
    refine Kn.mk ix3.2 ?_
    trivial
    refine Kn.mk ix4.2 ?_
    trivial
    refine Kn.mk (eq_ansf f) ?_
    trivial
    exact frz_pW rfl
  | told c d s =>
    obtain ⟨h1, h2, h3, hne⟩ := h
    have n1 := nin_ok (i := ((c : Nat) : Int)) (by omega) (by omega)
    have n2 := nin_ok (i := ((s : Nat) : Int)) (by omega) (by omega)
    have n3 := nin_ok (i := ((d : Nat) : Int)) (by omega) (by omega)
    dsimp only [Ev.w, List.map_cons, List.map_nil]
    refine WE.lcMw (nw := false) (fun p : Str × D => .str p.1) (fun p => p.2) (xs := [(nS (c : Nat), .int (c : Nat)), (nS (d : Nat), .int (d : Nat)), (nS (s : Nat), .int (s : Nat))]) ?_ (by show 3 ≤ 1000000; decide) ?_ ?_
    · refine WI.it ?_
      trivial
      exact ⟨rfl, rfl⟩
    · intro p hp
      simp only [List.mem_cons, List.not_mem_nil, or_false] at hp
      rcases hp with rfl | rfl | rfl
      · trivial
        refine Kn.call pure2sa n1 ?_
        exact ⟨rfl, rfl⟩
      · trivial
        refine Kn.call pure2sa n3 ?_
        exact ⟨rfl, rfl⟩
      · trivial
        refine Kn.call pure2sa n2 ?_
        exact ⟨rfl, rfl⟩
    dsimp only [cond_false, List.map_cons, List.map_nil]
    trivial
    unfold f_event_in_2
    trivial
    refine Kn.mk ix4.1 ?_
    trivial
    refine Kn.mk eq_tt.2.1 ?_
    trivial
    unfold f_event_in_1
    trivial
    refine Kn.mk ix4.1 ?_
    trivial
    refine Kn.mk eq_tt.2.2 ?_
    trivial
    refine Kn.mk (nin_non (is := [(c : Nat), (d : Nat), (s : Nat)])) ?_
    trivial
    refine Kn.mk ix3.1 ?_
    trivial
    refine Kn.mk ix3.2 ?_
    trivial
    have hb : (((c : Nat) : Int) == ((d : Nat) : Int)) = false := beq_eq_false_iff_ne.mpr (by omega)
    rw [hb]
    trivial
    refine ⟨wsz (by show 4 ≤ 1000; decide), ?_⟩
    trivial
    exact frz_ev (e := Ev.told c d s)
theorem evof_w (h : e.In nc ns) (hc : nc ≤ 100) (hs : ns ≤ 100) : F_event_of [.str e.t, .int (nc : Nat), .int (ns : Nat)] = some e.d := by
  refine WS.runP (n := 4) (b := f_event_of) ?_ rfl
  show WS _ [some (.str e.t), some (.int (nc : Nat)), some (.int (ns : Nat)), none] [] _
  trivial
  refine Kn.isi (b := true) (by kernel_rfl) ?_
  trivial
  refine Kn.call rfl (evin_w h hc hs) ?_
  trivial
  unfold f_event_of_3
  trivial
  have hn : isNon e.d = false := by cases e <;> rfl
  rw [hn]
  trivial
  unfold f_event_of_2
  trivial
  cases e with
  | turn c s f =>
    obtain ⟨h1, h2⟩ := h
    refine Kn.mk ev_ix0t ?_
    trivial
    refine Kn.mk eq_turn_turn ?_
    trivial
    refine Kn.mk (ev_ix1 _) ?_
    trivial
    refine ⟨fun _ => ?_, fun hx => absurd (of_decide_eq_false hx) (by simp [Ev.c]; omega)⟩
    trivial
    refine Kn.mk ev_ix2t ?_
    trivial
    have hb : decide (((s : Nat) : Int) < (ns : Nat)) = true := decide_eq_true (by omega)
    rw [hb]
    trivial
    exact frz_ev
  | told c d s =>
    obtain ⟨h1, h2, h3, hne⟩ := h
    refine Kn.mk ev_ix0w ?_
    trivial
    refine Kn.mk eq_told_turn ?_
    trivial
    refine Kn.mk (ev_ix1 _) ?_
    trivial
    refine ⟨fun _ => ?_, fun hx => absurd (of_decide_eq_false hx) (by simp [Ev.c]; omega)⟩
    trivial
    refine Kn.mk ev_ix2w ?_
    trivial
    refine ⟨fun _ => ?_, fun hx => absurd (of_decide_eq_false hx) (by omega)⟩
    trivial
    refine Kn.mk ev_ix3w ?_
    trivial
    have hb : decide (((s : Nat) : Int) < (ns : Nat)) = true := decide_eq_true (by omega)
    rw [hb]
    trivial
    exact frz_ev
theorem in_nonEv (es : List Ev) : inA m .non (.lst (es.map Ev.d)) = some (.bl false) := by
  have pv : ∀ es : List Ev, ∃ ps : List PyData, pdL (es.map Ev.d) = some ps ∧ pureL (es.map Ev.d) = true ∧ PyData.canLayAll0 ps = true ∧ PyData.depthAll ps ≤ 3 ∧ ∀ p ∈ ps, PyData.eqv p .none = false := fun es => by
    induction es with
    | nil => exact ⟨[], rfl, rfl, rfl, by simp [PyData.depthAll], fun p h => nomatch h⟩
    | cons e es ih =>
      obtain ⟨ps, h1, h2, h3, h4, h5⟩ := ih
      obtain ⟨q, k1, k2, k3, k4, k5⟩ : ∃ q : PyData, pd e.d = some q ∧ pureD e.d = true ∧ q.canLay0 = true ∧ q.depth ≤ 2 ∧ PyData.eqv q .none = false := by
        cases e with
        | turn c s f => exact ⟨.tuple [.str "turn", .int (c : Nat), .int (s : Nat), .bool f], rfl, rfl, by simp [PyData.canLay0, PyData.canLayAll0]; decide +kernel, by simp [PyData.depth, PyData.depthAll], rfl⟩
        | told c d s => exact ⟨.tuple [.str "told", .int (c : Nat), .int (d : Nat), .int (s : Nat)], rfl, rfl, by simp [PyData.canLay0, PyData.canLayAll0]; decide +kernel, by simp [PyData.depth, PyData.depthAll], rfl⟩
      refine ⟨q :: ps, by rw [List.map_cons, pdL, k1, h1], by rw [List.map_cons, pureL, k2, h2]; rfl, by simp [PyData.canLayAll0, k3, h3], by simp only [PyData.depthAll]; omega, fun p hp => ?_⟩
      rcases List.mem_cons.mp hp with rfl | hp
      · exact k5
      · exact h5 p hp
  obtain ⟨ps, h1, h2, h3, h4, h5⟩ := pv es
  have h0 : pdM m .non = some .none := pdM_pure rfl rfl rfl
  have hl : pdM m (.lst (es.map Ev.d)) = some (.list ps) := by
    have hd : (PyData.list ps).depth ≤ 64 := by simp only [PyData.depth]; omega
    exact pdM_pure h2 (by rw [pd, h1]; rfl) (by simp [SeqAt.shaped, PyData.canLay0, h3, hd])
  have e : inAB m .non (.lst (es.map Ev.d)) = some false := by
    show inB m .non (.lst (es.map Ev.d)) = _
    show (match pdM m .non, pdM m (.lst (es.map Ev.d)) with
      | some a, some (.tuple ds) => some (ds.any fun z => PyData.eqv z a)
      | some a, some (.list ds) => some (ds.any fun z => PyData.eqv z a)
      | _, _ => none) = _
    rw [hl, h0]
    show some (ps.any fun z => PyData.eqv z .none) = _
    congr 1
    exact List.any_eq_false.mpr fun p hp => by rw [h5 p hp]; decide
  unfold inA
  rw [e]
  rfl
theorem evts_pure (es : List Ev) : pureL (es.map fun e => D.str e.t) = true := pureL_map (fun _ => rfl) es
def Sqe (x : D) (es : List Ev) : Prop := x = .lst (es.map fun e => D.str e.t) ∨ x = .tup (es.map fun e => D.str e.t)
theorem sqe_pure {x : D} (h : Sqe x es) : pureD x = true := by rcases h with rfl | rfl <;> exact evts_pure es
theorem isseq_ok {x : D} (h : Sqe x es) : F_is_sequence [x] = some (.bl true) := by rcases h with rfl | rfl <;> kernel_rfl
theorem pl_evof {x : Str} {a b : Int} : pureL [.str x, .int a, .int b] = true := rfl
theorem put_r1 {a : D} : putD "told_events" a ([] : List Str) [] = ((["told_events"] : List Str), [a]) := by kernel_rfl
theorem put_r2 {a b : D} : putD "callers" b (["told_events"] : List Str) [a] = ((["told_events", "callers"] : List Str), [a, b]) := by kernel_rfl
theorem put_r3 {a b c : D} : putD "servers" c (["told_events", "callers"] : List Str) [a, b] = ((["told_events", "callers", "servers"] : List Str), [a, b, c]) := by kernel_rfl
theorem put_r4 {a b c d : D} : putD "events" d (["told_events", "callers", "servers"] : List Str) [a, b, c] = (rdNames, [a, b, c, d]) := by kernel_rfl
theorem evd_pure (es : List Ev) : pureL (es.map Ev.d) = true := pureL_map (fun e => by cases e <;> rfl) es
theorem isfrom1 {n : Nat} (h : 1 ≤ n) : F_is_from [.int (n : Nat), .int 1] = some (.bl true) := by
  rw [isfrom_ok]
  rw [decide_eq_true (by omega)]
theorem evsof_w {x : D} (hx : Sqe x es) (hin : ∀ e ∈ es, e.In nc ns) (hc : nc ≤ 100) (hs : ns ≤ 100) (hl : es.length ≤ 100000) : F_events_of [x, .int (nc : Nat), .int (ns : Nat)] = some (.tup (es.map Ev.d)) := by
  refine WS.runP (n := 5) (b := f_events_of) ?_ rfl
  show WS _ [some x, some (.int (nc : Nat)), some (.int (ns : Nat)), none, none] [] _
  trivial
  refine WE.lcMw (nw := false) (fun e : Ev => .str e.t) Ev.d (xs := es) ?_ (by omega) (fun e he => ?_) ?_
  · refine WI.it ?_
    trivial
    rcases hx with rfl | rfl
    · trivial
      exact ⟨rfl, rfl⟩
    · trivial
      exact ⟨rfl, rfl⟩
  · trivial
    refine Kn.call pl_evof (evof_w (hin e he) hc hs) ?_
    exact ⟨rfl, rfl⟩
  dsimp only [cond_false]
  trivial
  unfold f_events_of_1
  trivial
  refine Kn.mk (in_nonEv es) ?_
  trivial
  exact frz_pW (evd_pure es)
theorem road_new {x : D} (hx : Sqe x es) (h1 : 1 ≤ nc) (h2 : 1 ≤ ns) (hin : ∀ e ∈ es, e.In nc ns) (hc : nc ≤ 100) (hs : ns ≤ 100) (hl : es.length ≤ 100000) : newP "Road" F_Road___init__ [.int (nc : Nat), .int (ns : Nat), x] = some (roadD nc ns es (es.map fun e => D.str e.t)) := by
  obtain ⟨d, m', e, rfl, em⟩ : Wr (F_Road___init__ [.ref 0, .int (nc : Nat), .int (ns : Nat), x] [.ins "Road" [] []]) fun d m' => d = .non ∧ m' = [.ins "Road" rdNames [.tup (es.map Ev.d), .int (nc : Nat), .int (ns : Nat), .tup (es.map fun e => D.str e.t)]] := by
    refine WS.runM (n := 4) (b := f_Road___init__) ?_ rfl
    show WS _ [some (.ref 0), some (.int (nc : Nat)), some (.int (ns : Nat)), some x] _ _
    have hp := sqe_pure hx
    have c1 := rd_c1
    trivial
    refine Kn.call rfl (isfrom1 h1) ?_
    trivial
    refine Kn.call rfl (isfrom1 h2) ?_
    trivial
    first | refine Kn.call (by simp [pureL, hp]) (isseq_ok hx) ?_ | refine Kn.callKw (by simp [pureL, hp]) (isseq_ok hx) ?_
    trivial
    unfold f_Road___init___4
    refine WS.seq (WS.fldMw ?_)
    trivial
    first | refine Kn.call (by simp [pureL, hp, pureD]) (evsof_w hx hin hc hs hl) ?_ | refine Kn.callKw (by simp [pureL, hp, pureD]) (evsof_w hx hin hc hs hl) ?_
    trivial
    refine ⟨0, "Road", [], [], _, _, rfl, rfl, c1, by decide, put_r1, ?_⟩
    refine WS.nx (WS.seq (WS.fldMw ?_))
    trivial
    refine ⟨0, "Road", _, _, _, _, rfl, rfl, c1, by show 1 < 1000; decide, put_r2, ?_⟩
    refine WS.nx (WS.seq (WS.fldMw ?_))
    trivial
    refine ⟨0, "Road", _, _, _, _, rfl, rfl, c1, by show 2 < 1000; decide, put_r3, ?_⟩
    refine WS.nx ?_
    unfold f_Road___init___1
    refine WS.fldMw ?_
    rcases hx with rfl | rfl
    · trivial
      refine ⟨0, "Road", _, _, _, _, rfl, rfl, c1, by show 3 < 1000; decide, put_r4, ?_⟩
      exact .inr ⟨_, rfl, rfl, rfl⟩
    · trivial
      refine ⟨0, "Road", _, _, _, _, rfl, rfl, c1, by show 3 < 1000; decide, put_r4, ?_⟩
      exact .inr ⟨_, rfl, rfl, rfl⟩
  unfold newP
  rw [e]
  subst em
  show frz _ (.ref 0) = _
  unfold frz
  rw [if_neg (by simp [pureD])]
  have e1 : mapO (frzGo [.ins "Road" rdNames [.tup (es.map Ev.d), .int (nc : Nat), .int (ns : Nat), .tup (es.map fun e => D.str e.t)]] 39) [.tup (es.map Ev.d), .int (nc : Nat), .int (ns : Nat), .tup (es.map fun e => D.str e.t)] = some [.tup (es.map Ev.d), .int (nc : Nat), .int (ns : Nat), .tup (es.map fun e => D.str e.t)] := by
    refine mapO_self fun d hd => ?_
    simp only [List.mem_cons, List.not_mem_nil, or_false] at hd
    rcases hd with rfl | rfl | rfl | rfl
    · refine frz_tupE fun x hx => ?_
      obtain ⟨e, _, rfl⟩ := List.mem_map.mp hx
      cases e <;> rfl
    · rfl
    · rfl
    · refine frz_tupE fun x hx => ?_
      obtain ⟨e, _, rfl⟩ := List.mem_map.mp hx
      rfl
  show (mapO (frzGo _ 39) _).map (D.obj "Road" rdNames) = _
  rw [e1]
  rfl
end
end L4
namespace L4
open PySem
end L4
namespace L4
open PySem
section
variable {m : M} {ρ : Ss} {nc ns : Nat} {e : Ev} {es es2 : List Ev}
def tsE (es : List Ev) : List D := es.map fun e => D.str e.t
abbrev rdE (nc ns : Nat) (es : List Ev) : D := roadD nc ns es (tsE es)
theorem fc1 {a b c d : D} : fldAt rdNames [a, b, c, d] "callers" = some b := by kernel_rfl
theorem fc2 {a b c d : D} : fldAt rdNames [a, b, c, d] "servers" = some c := by kernel_rfl
theorem fc3 {a b c d : D} : fldAt rdNames [a, b, c, d] "events" = some d := by kernel_rfl
theorem rd_pureE (es : List Ev) (ts : List D) (h : pureL ts = true) : pureD (roadD nc ns es ts) = true := by simp only [roadD, pureD, pureL, evd_pure, h, Bool.and_self]
theorem road_pureG (es : List Ev) : pureL [.int (nc : Nat), .int (ns : Nat), .lst (tsE es)] = true := by
  simp only [pureL, pureD, Bool.and_true, Bool.true_and]
  exact evts_pure es
theorem rd_insG : insOf m (rdE nc ns es) = some (("Road" : Str), rdNames, [.tup (es.map Ev.d), .int (nc : Nat), .int (ns : Nat), .tup (tsE es)]) := rfl
theorem pl_rdG : pureD (rdE nc ns es) = true := rd_pureE _ _ (evts_pure _)
theorem cut_takeD11 {ds : List D} {k : Nat} : cutD ds none (some ((k : Nat) : Int)) = ds.take k := by
  unfold cutD
  rw [HT.sIx_none, HT.sIx_nat]
  simp only [List.drop_zero, Nat.sub_zero]
  rw [List.take_eq_take_iff]
  omega
local macro_rules | `(tactic| fail) => `(tactic| (first | ((with_reducible refine w_and_t ?_ ?_); exact rfl) | ((with_reducible refine w_and_f ?_ ?_); exact rfl) | ((with_reducible refine w_or_t ?_ ?_); exact rfl) | ((with_reducible refine w_or_f ?_ ?_); exact rfl) | ((with_reducible refine Kn.fdiv ?_ ?_); exact ⟨by decide, by decide⟩) | ((with_reducible refine Kn.mod ?_ ?_); decide) | ((with_reducible refine And.intro (a := (_ && _) = true) ?_ ?_); exact rfl) | ((with_reducible refine And.intro (a := List.length _ = List.length _) ?_ ?_); exact rfl; dsimp only [setMany, List.set_cons_succ, List.set_cons_zero]) | ((with_reducible refine ⟨wsz ?_, ?_⟩); first | decide | (show (_ : Nat) ≤ 1000; simp only [List.length_cons, List.length_nil]; decide)) | with_reducible refine ⟨_, rfl, ?_⟩))
local macro_rules | `(tactic| fail) => `(tactic| (first | ((with_reducible refine WG.nm ?_); dsimp only [setMany, List.set_cons_succ, List.set_cons_zero]) | ((with_reducible refine WG.one ?_); dsimp only [setMany, List.set_cons_succ, List.set_cons_zero]) | ((with_reducible refine WG.tup ?_ ?_); exact rfl; dsimp only [setMany, List.set_cons_succ, List.set_cons_zero]) | ((with_reducible apply WE.var); exact rfl) | ((with_reducible apply WE.upP); exact rfl) | ((with_reducible apply WE.upT); exact rfl) | ((with_reducible apply WE.upL); exact rfl) | ((with_reducible apply WE.upN); exact rfl) | ((with_reducible apply WS.aug); exact rfl) | ((with_reducible apply WE.newPL); exact rfl) | ((with_reducible refine WS.ite_t ?_ ?_); exact rfl) | ((with_reducible refine WS.ite_f ?_ ?_); exact rfl) | ((with_reducible refine WE.ite_t ?_ ?_); exact rfl) | ((with_reducible refine WE.ite_f ?_ ?_); exact rfl)))
local macro_rules | `(tactic| fail) => `(tactic| with_reducible (first | refine Kn.it_l ?_ | refine Kn.it_s ?_ | refine Kn.str_s ?_ | refine Kn.sl_t ?_ | refine Kn.sl_l ?_ | refine Fld.need ?_ | refine Fld.of ?_ | refine Fld.base ?_ | refine Fld.more ?_ | refine Fld.most ?_ | refine Fld.calm ?_ | refine Fld.back ?_ | refine Fld.top ?_ | refine Fld.under ?_ | refine Fld.up ?_ | refine Fld.hears ?_ | refine Fld.cap ?_ | refine Mth.time ?_))
local macro_rules | `(tactic| fail) => `(tactic| with_reducible (first | refine WE.tupL ?_ | refine WE.dicP ?_ | refine WP.nil ?_ | refine WP.cons ?_ | refine WE.upd ?_ | refine WA.nil ?_ | refine WA.cons ?_ | refine WA.star ?_ | refine WO.no ?_ | refine WO.yes ?_ | refine WT.val ?_ | refine WT.and ?_ | refine WT.or ?_ | refine WT.not ?_ | refine WT.tt ?_ | refine WI.it ?_ | refine Kn.add_i ?_ | refine Kn.sub ?_ | refine Kn.neg ?_ | refine Kn.eq_i ?_ | refine Kn.ne_i ?_ | refine Kn.lt ?_ | refine Kn.le ?_ | refine Kn.gt ?_ | refine Kn.ge ?_ | refine Kn.int_i ?_ | refine Kn.int_b ?_ | refine Kn.abs ?_ | refine Kn.min2 ?_ | refine Kn.max2 ?_ | refine Kn.len_t ?_ | refine Kn.len_l ?_ | refine Kn.len_s ?_ | refine Kn.tup_t ?_ | refine Kn.tup_l ?_ | refine Kn.lis_t ?_ | refine Kn.lis_l ?_ | refine Kn.seq_t ?_ | refine Kn.seq_l ?_ | refine Kn.it_t ?_))
local macro_rules | `(tactic| fail) => `(tactic| with_reducible (first | refine WS.seq ?_ | refine WS.nx ?_ | refine WS.rt ?_ | refine WS.asg ?_ | refine WS.drop ?_ | refine WS.ret ?_ | refine WS.nop ?_ | refine WS.retN ?_ | refine WS.brk ?_ | refine WS.cont ?_ | refine WS.sif ?_ | refine WS.par ?_ | refine WG.setA ?_ | refine WE.c ?_ | refine WE.op ?_ | refine WE.call ?_ | refine WE.callM ?_ | refine WE.un ?_ | refine WE.tup ?_ | refine WE.lst ?_ | refine WE.newL ?_ | refine WE.eif ?_ | refine WE.sl ?_ | refine WE.isN ?_ | refine WE.notN ?_ | refine WE.not ?_ | refine WE.and ?_ | refine WE.or ?_ | refine WE.app ?_ | refine WE.tupR ?_ | refine WE.lisR ?_ | refine WE.m1 ?_ | refine WE.tbl ?_ | refine WE.tblNin ?_ | refine WE.chain ?_ | refine WE.fldF ?_ | refine WE.mth ?_ | refine WE.disp ?_ | refine WE.dicC ?_ | refine WE.tupA ?_))
local macro_rules | `(tactic| trivial) => `(tactic| (repeat fail))
end
end L4
namespace L4
open PySem
section
variable {m : M}
theorem callPX_p {F : List D → Option Rv} {xs : List D} {z : Rv} (hp : pureL xs = true) (e : F xs = some z) : callPX F m xs = some z := by
  unfold callPX
  rw [if_pos hp, e]
theorem runPX_go {a n : Nat} {b : SX} {ds : List D} {z : Option Rv} (h : ds.length = a) (e : endPX (b (startD n ds) []) = z) : runPX a n b ds = z := by
  unfold runPX
  rw [if_pos h, e]
end
end L4
namespace L4
open PySem
def WY (f : SX) (ρ : Ss) (m : M) (Q : Rf → M → Prop) : Prop := Wr (f ρ m) Q
def WX (f : EX) (ρ : Ss) (m : M) (Q : Rv → M → Prop) : Prop := Wr (f ρ m) Q
/-- what follows a step -/
def sqy (b : SX) (Q : Rf → M → Prop) (r : Rf) (m : M) : Prop := match r with
  | .fl (.nx ρ) => WY b ρ m Q
  | r => Q r m
section
variable {ρ : Ss} {m : M} {Q : Rf → M → Prop}
theorem WY.of {f : SF} (h : WS f ρ m fun r m' => Q (.fl r) m') : WY (yOf f) ρ m Q := by
  obtain ⟨r, m', e, q⟩ := h
  refine ⟨.fl r, m', ?_, q⟩
  unfold yOf
  rw [e]
  rfl
theorem WY.seq {a b : SX} (h : WY a ρ m (sqy b Q)) : WY (ySeq a b) ρ m Q := by
  obtain ⟨r, m', e, q⟩ := h
  unfold WY Wr ySeq
  rw [e, bd_go]
  match r, q with
  | .fl (.nx ρ1), q => exact q
  | .fl (.ct ρ1), q => exact ⟨_, _, rfl, q⟩
  | .fl (.bk ρ1), q => exact ⟨_, _, rfl, q⟩
  | .fl (.rt d), q => exact ⟨_, _, rfl, q⟩
  | .ex x ρ1, q => exact ⟨_, _, rfl, q⟩
theorem WY.nx {b : SX} {ρ1 : Ss} (h : WY b ρ1 m Q) : sqy b Q (.fl (.nx ρ1)) m := h
theorem WY.sif {c : TF} {a b : SX} (h : WT c ρ m fun x m1 => (x = true → WY a ρ m1 Q) ∧ (x = false → WY b ρ m1 Q)) : WY (yIf c a b) ρ m Q := by
  obtain ⟨x, m1, e, q1, q2⟩ := h
  unfold WY yIf
  rw [e, bd_go]
  cases x with
  | true => exact q1 rfl
  | false => exact q2 rfl
theorem WY.raise1 {c w : Str} {a : AF} (h : WA a ρ m fun xs m1 => ∃ d, xs = [d] ∧ Q (.ex ⟨c, [w], [d]⟩ ρ) m1) : WY (yRaise1 c w a) ρ m Q := by
  obtain ⟨xs, m1, e, d, rfl, q⟩ := h
  refine ⟨_, m1, ?_, q⟩
  unfold yRaise1
  rw [e, bd_go]
theorem WY.drop {a : EX} (h : WX a ρ m fun r m1 => (∀ d, r = .ok d → Q (.fl (.nx ρ)) m1) ∧ ∀ x, r = .ex x → Q (.ex x ρ) m1) : WY (yDrop a) ρ m Q := by
  obtain ⟨r, m1, e, q1, q2⟩ := h
  unfold WY yDrop
  rw [e]
  cases r with
  | ok d => exact ⟨_, _, rfl, q1 d rfl⟩
  | ex x => exact ⟨_, _, rfl, q2 x rfl⟩
theorem WY.ret {a : EX} (h : WX a ρ m fun r m1 => (∀ d, r = .ok d → Q (.fl (.rt d)) m1) ∧ ∀ x, r = .ex x → Q (.ex x ρ) m1) : WY (yRet a) ρ m Q := by
  obtain ⟨r, m1, e, q1, q2⟩ := h
  unfold WY yRet
  rw [e]
  cases r with
  | ok d => exact ⟨_, _, rfl, q1 d rfl⟩
  | ex x => exact ⟨_, _, rfl, q2 x rfl⟩
theorem WY.set {a : EX} {i : Nat} (h : WX a ρ m fun r m1 => (∀ d, r = .ok d → Q (.fl (.nx (ρ.set i (some d)))) m1) ∧ ∀ x, r = .ex x → Q (.ex x ρ) m1) : WY (yAsg a (gNm i)) ρ m Q := by
  obtain ⟨r, m1, e, q1, q2⟩ := h
  unfold WY yAsg
  rw [e]
  cases r with
  | ok d => exact ⟨_, _, rfl, q1 d rfl⟩
  | ex x => exact ⟨_, _, rfl, q2 x rfl⟩
theorem WX.of {f : EF} {Q : Rv → M → Prop} (h : WE f ρ m fun d m' => Q (.ok d) m') : WX (xOf f) ρ m Q := by
  obtain ⟨r, m', e, q⟩ := h
  refine ⟨.ok r, m', ?_, q⟩
  unfold xOf
  rw [e]
  rfl
theorem WX.call {F : M → List D → Option Rv} {a : AF} {Q : Rv → M → Prop} (h : WA a ρ m fun xs m1 => ∃ z, F m1 xs = some z ∧ Q z m1) : WX (eCallX F a) ρ m Q := by
  obtain ⟨xs, m1, e, z, e2, q⟩ := h
  refine ⟨z, m1, ?_, q⟩
  unfold eCallX
  rw [e, bd_go, e2]
  rfl
theorem WY.runX {a n : Nat} {b : SX} {ds : List D} {z : Rv} (h : WY b (startD n ds) [] fun r m => endPX (some (r, m)) = some z) (hl : ds.length = a) : runPX a n b ds = some z := by
  obtain ⟨r, m, e, q⟩ := h
  refine runPX_go hl ?_
  rw [e]
  exact q
end
end L4
namespace L4
open PySem
section
variable {α : Type} {F : α → D} {G : α → PyData} {m : M} {n r f : Nat} {s : Option D}
/-- what is asked of the things: they are laid alike everywhere -/
def GoodG (F : α → D) (G : α → PyData) (z : α) : Prop := PyData.canLay0 (G z) = true ∧ (G z).depth ≤ 9 ∧ pureD (F z) = true ∧ pd (F z) = some (G z) ∧ ∀ m : M, frzGo m 39 (F z) = some (F z)
theorem mapO_selfG {f : D → Option D} : ∀ {ds : List D}, (∀ d ∈ ds, f d = some d) → mapO f ds = some ds
  | [], _ => rfl
  | d :: ds, h => by
    unfold mapO
    rw [h d (List.mem_cons_self ..), mapO_selfG fun e he => h e (List.mem_cons_of_mem _ he)]
theorem sqiG {k : Int} {l : Nat} (h0 : 0 ≤ k) (h1 : k < l) : seqIndex? k l = some k.toNat := by
  unfold seqIndex?
  simp [h0, h1]
  try omega
theorem map_eraseG {α β : Type} (f : α → β) : ∀ (l : List α) (i : Nat), (l.map f).eraseIdx i = (l.eraseIdx i).map f
  | [], _ => by simp
  | a :: l, 0 => by simp
  | a :: l, i + 1 => by
    have := map_eraseG f l i
    simp [this]
theorem erase_permG : ∀ {l : List α} {i : Nat} {d : α}, l[i]? = some d → (d :: l.eraseIdx i).Perm l
  | [], _, _, h => by simp at h
  | x :: l, 0, d, h => by
    have : x = d := by simpa using h
    subst this
    exact List.Perm.refl _
  | x :: l, i + 1, d, h => by
    have := erase_permG (l := l) (i := i) (d := d) (by simpa using h)
    exact (List.Perm.swap x d _).trans (List.Perm.cons x this)
theorem gs_can : ∀ l : List α, (∀ z ∈ l, GoodG F G z) → PyData.canLayAll0 (l.map G) = true ∧ PyData.depthAll (l.map G) ≤ 9
  | [], _ => ⟨rfl, by simp [PyData.depthAll]⟩
  | i :: l, h => by
    obtain ⟨h1, h2⟩ := gs_can l fun z hz => h z (List.mem_cons_of_mem _ hz)
    obtain ⟨h3, h4, _⟩ := h i List.mem_cons_self
    exact ⟨by rw [List.map_cons, PyData.canLayAll0, h3, h1]; rfl, by rw [List.map_cons, PyData.depthAll]; omega⟩
theorem pdL_gs : ∀ l : List α, (∀ z ∈ l, GoodG F G z) → pdL (l.map F) = some (l.map G)
  | [], _ => rfl
  | i :: l, h => by
    obtain ⟨_, _, _, h5, _⟩ := h i List.mem_cons_self
    rw [List.map_cons, pdL, h5, pdL_gs l fun z hz => h z (List.mem_cons_of_mem _ hz)]
    rfl
theorem ne_gsR {l : List α} (hok : ∀ z ∈ l, GoodG F G z) (h : m[n]? = some (.lst (l.map F))) : neD m (.ref n) (.lst []) = some (.bl (!l.isEmpty)) := by
  obtain ⟨h2, h3⟩ := gs_can l hok
  have e0 : frz m (.ref n) = some (.lst (l.map F)) := by
    have q : mapO (frzGo m 39) (l.map F) = some (l.map F) := mapO_selfG fun d hd => by
      obtain ⟨s, hs, rfl⟩ := List.mem_map.mp hd
      exact (hok s hs).2.2.2.2 m
    have p : pureD (.ref n) = false := rfl
    unfold frz
    rw [p]
    show frzGo m (39 + 1) (.ref n) = _
    unfold frzGo
    rw [h]
    show (mapO (frzGo m 39) (l.map F)).map D.lst = _
    rw [q]
    rfl
  have e : pdM m (.ref n) = some (.list (l.map G)) := by
    have hs : SeqAt.shaped (.list (l.map G)) = true := by
      have : (PyData.list (l.map G)).depth ≤ 64 := by simp only [PyData.depth]; omega
      simp [SeqAt.shaped, PyData.canLay0, h2, this]
    simp [pdM, e0, pd, pdL_gs l hok, hs]
  have e2 : pdM m (.lst []) = some (.list []) := rfl
  unfold neD
  rw [e, e2]
  cases l <;> rfl
theorem mix_turnG {rest found : List α} (h : AY m) (hr : m[r]? = some (.lst (rest.map F))) (hf : m[f]? = some (.lst (found.map F))) (r2 : 2 ≤ r) (f2 : 2 ≤ f) (rf : r ≠ f) (hn : rest ≠ []) (hz : rest.length < 1000) (hz2 : found.length < 1000) :
    ∃ (i : Nat) (d : α) (m' : M), rest[i]? = some d ∧ AY m' ∧ m'.length = m.length ∧ m'[r]? = some (.lst ((rest.eraseIdx i).map F)) ∧ m'[f]? = some (.lst ((found ++ [d]).map F)) ∧ (∀ j, 2 ≤ j → j ≠ r → j ≠ f → m'[j]? = m[j]?) ∧
      f__law_mixed_1 [some (.ref 1), s, some (.ref r), some (.ref f)] m = some (.nx [some (.ref 1), s, some (.ref r), some (.ref f)], m') := by
  have hp : 0 < rest.length := List.length_pos_iff.mpr hn
  obtain ⟨_, m1, q5, k, rfl, k0, k1, a1, q3, q4⟩ := draw_y (Q := fun d m' => ∃ k : Int, d = .int k ∧ 0 ≤ k ∧ k < (rest.length : Int) ∧ AY m' ∧ m'.length = m.length ∧ ∀ j, 2 ≤ j → m'[j]? = m[j]?) h (k := (rest.length : Int)) (by omega) (by omega) fun x m' h1 h2 h3 h4 h5 => ⟨x, rfl, h1, h2, h3, h4, h5⟩
  have hkn : k.toNat < rest.length := by omega
  have e1 : m1[r]? = some (.lst (rest.map F)) := by rw [q4 r r2]; exact hr
  have e2 : (m1.set r (.lst ((rest.map F).eraseIdx k.toNat)))[f]? = some (.lst (found.map F)) := by rw [List.getElem?_set_ne rf, q4 f f2]; exact hf
  have l1 : r < m1.length := (List.getElem?_eq_some_iff.mp e1).1
  have l2 : f < m1.length := by have := (List.getElem?_eq_some_iff.mp e2).1; simpa using this
  have hsz : (found.map F).length < sizeLine := by rw [List.length_map, sizeLine_eq]; omega
  have hlen : lenD m [.ref r] = some (.int (rest.length : Nat)) := by
    have := Kn.len_r (Q := fun d => d = .int ((rest.map F).length : Nat)) hr rfl
    obtain ⟨d, e, rfl⟩ := this
    rw [e, List.length_map]
  have p1 : popAtL (rest.map F) [.int k] = some (F rest[k.toNat], (rest.map F).eraseIdx k.toNat) := by
    have c : -(2 ^ 63) ≤ k ∧ k < 2 ^ 63 := by omega
    have hk2 : (rest.map F)[k.toNat]? = some (F rest[k.toNat]) := by rw [List.getElem?_map, List.getElem?_eq_getElem hkn]; rfl
    simp only [popAtL, if_pos c, List.length_map, sqiG k0 k1, hk2]
  have em : (rest.map F).eraseIdx k.toNat = (rest.eraseIdx k.toNat).map F := map_eraseG F rest k.toNat
  refine ⟨k.toNat, rest[k.toNat], (m1.set r (.lst ((rest.map F).eraseIdx k.toNat))).set f (.lst (found.map F ++ [F rest[k.toNat]])), List.getElem?_eq_getElem hkn, ?_, by simpa using q3, ?_, ?_, fun j a1 a3 a4 => ?_, ?_⟩
  · exact a1.off (by rw [List.getElem?_set_ne (by omega), List.getElem?_set_ne (by omega)]) (by rw [List.getElem?_set_ne (by omega), List.getElem?_set_ne (by omega)])
  · rw [List.getElem?_set_ne (Ne.symm rf), List.getElem?_set_self l1, em]
  · rw [List.getElem?_set_self (by simpa using l2), List.map_append]
    rfl
  · rw [List.getElem?_set_ne (Ne.symm a4), List.getElem?_set_ne (Ne.symm a3), q4 j a1]
  · simp only [f__law_mixed_1, sDrop, eLm0, eVar, List.getD_cons_zero, List.getD_cons_succ, pu_go, bd_go, hf, hr, aCons, aNil, eCallM, eCall, hlen, q5, e1, p1, Option.map_some, e2, appL, if_pos hsz]
theorem mix_whileG : ∀ (w : Nat) {rest found : List α} {m : M}, rest.length < w → (∀ z ∈ rest, GoodG F G z) → AY m → m[r]? = some (.lst (rest.map F)) → m[f]? = some (.lst (found.map F)) → 2 ≤ r → 2 ≤ f → r ≠ f → rest.length + found.length < 1000 →
    ∃ (found' : List α) (m' : M), found'.Perm (found ++ rest) ∧ AY m' ∧ m'.length = m.length ∧ m'[f]? = some (.lst (found'.map F)) ∧ (∀ j, 2 ≤ j → j ≠ r → j ≠ f → m'[j]? = m[j]?) ∧ (∃ ds, m'[r]? = some (.lst ds)) ∧
      sWhile w (tVal (eOp neD (eVar 2) (eLst (aNil)))) f__law_mixed_1 [some (.ref 1), s, some (.ref r), some (.ref f)] m = some (.nx [some (.ref 1), s, some (.ref r), some (.ref f)], m')
  | 0, _, _, _, h, _, _, _, _, _, _, _, _ => by omega
  | w + 1, rest, found, m, hw, hok, h, hr, hf, r2, f2, rf, hz => by
    have hc : (tVal (eOp neD (eVar 2) (eLst (aNil)))) [some (.ref 1), s, some (.ref r), some (.ref f)] m = some (!rest.isEmpty, m) := by
      have l0 : eLst aNil [some (.ref 1), s, some (.ref r), some (.ref f)] m = some (.lst [], m) := rfl
      simp only [tVal, eOp, eVar, List.getD_cons_zero, List.getD_cons_succ, pu_go, bd_go, l0, ne_gsR hok hr]
    by_cases h0 : rest = []
    · subst h0
      refine ⟨found, m, by simp, h, rfl, hf, fun _ _ _ _ => rfl, ⟨_, hr⟩, ?_⟩
      unfold sWhile
      rw [hc]
      rfl
    · obtain ⟨i, d, m1, p1, p2, p4, p5, p6, p7, p8⟩ := mix_turnG (F := F) (s := s) h hr hf r2 f2 rf h0 (by omega) (by omega)
      have li : i < rest.length := (List.getElem?_eq_some_iff.mp p1).1
      have le := List.length_eraseIdx_of_lt li
      obtain ⟨found', m', q1, q2, q4, q5, q6, q8, q7⟩ := mix_whileG w (rest := rest.eraseIdx i) (found := found ++ [d]) (by omega) (fun z hz => hok z (List.mem_of_mem_eraseIdx hz)) p2 p5 p6 r2 f2 rf (by simp; omega)
      have perm : (found ++ [d] ++ rest.eraseIdx i).Perm (found ++ rest) := by
        rw [List.append_assoc]
        refine List.Perm.append_left _ ?_
        exact erase_permG p1
      refine ⟨found', m', q1.trans perm, q2, by omega, q5, fun j a1 a3 a4 => by rw [q6 j a1 a3 a4, p7 j a1 a3 a4], q8, ?_⟩
      have e : rest.isEmpty = false := by cases rest <;> simp_all
      unfold sWhile
      rw [hc, e]
      simp only [Bool.not_false, bd_go, if_true, p8, q7]
/-- a list of numbers in a drawn order: the new list lies behind the heap -/
theorem mixed_g {xs : List α} (hok : ∀ z ∈ xs, GoodG F G z) (h : AY m) (hz : xs.length < 1000) {Q : D → M → Prop} (q : ∀ (ys : List α) (m' : M), ys.Perm xs → AY m' → m'.length = m.length + 2 → m'[m.length + 1]? = some (.lst (ys.map F)) → (∃ ds, m'[m.length]? = some (.lst ds)) → (∀ j, 2 ≤ j → j < m.length → m'[j]? = m[j]?) → Q (.ref (m.length + 1)) m') : Wr (F__law_mixed [.ref 1, .lst (xs.map F)] m) Q := by
  have hm := h.le
  have e0 : f__law_mixed (startD 4 [.ref 1, .lst (xs.map F)]) m = f__law_mixed_2 [some (.ref 1), some (.lst (xs.map F)), some (.ref m.length), some (.ref (m.length + 1))] (m ++ [.lst (xs.map F)] ++ [.lst []]) := by
    have z : (0 : Nat) ≤ sizeLine := Nat.zero_le _
    simp [f__law_mixed, sSeq, sPar, startD, eLisN, lisD, lstR, lstOf, eNewL, eLst, aCons, aNil, eVar, z, setMany]
  have a0 : AY (m ++ [.lst (xs.map F)] ++ [.lst []]) := h.off (by rw [List.append_assoc, List.getElem?_append_left (by omega)]) (by rw [List.append_assoc, List.getElem?_append_left (by omega)])
  obtain ⟨ys, m', q1, q2, q4, q5, q6, q8, q7⟩ := mix_whileG (s := some (.lst (xs.map F))) (r := m.length) (f := m.length + 1) big (rest := xs) (found := []) (m := m ++ [.lst (xs.map F)] ++ [.lst []]) (by unfold big; omega) hok a0 (by simp) (by simp) (by omega) (by omega) (by omega) (by simpa using hz)
  refine ⟨_, m', ?_, q ys m' (by simpa using q1) q2 (by simpa using q4) q5 q8 fun j h1 h2 => ?_⟩
  · unfold F__law_mixed runM
    rw [if_pos (by rfl), e0]
    unfold f__law_mixed_2 sSeq
    rw [q7]
    rfl
  · rw [q6 j h1 (by omega) (by omega), List.append_assoc, List.getElem?_append_left h2]
end
end L4
namespace L4
open PySem
section
variable {m : M} {ρ : Ss} {nc ns : Nat} {e : Ev} {es : List Ev} {x : D}
def xE9 (k : Nat) : Xn := ⟨"InvalidEvent", ["at"], [.int (k : Nat)]⟩
def xR9 (w : Str) : Xn := ⟨"InvalidRoad", ["word"], [.str w]⟩
structure Fl9 (ds : List D) (bs : List Bool) : Prop where
  ex : ∃ ps, pdL ds = some ps ∧ pureL ds = true ∧ PyData.canLayAll0 ps = true ∧ PyData.depthAll ps ≤ 9 ∧ ps.map (fun p => PyData.eqv p .none) = bs
theorem Fl9.nil : Fl9 [] [] := ⟨[], rfl, rfl, rfl, by simp [PyData.depthAll], rfl⟩
theorem Fl9.cons {d : D} {b : Bool} {ds : List D} {bs : List Bool} (h : ∃ p, pd d = some p ∧ pureD d = true ∧ p.canLay0 = true ∧ p.depth ≤ 9 ∧ PyData.eqv p .none = b) (t : Fl9 ds bs) : Fl9 (d :: ds) (b :: bs) := by
  obtain ⟨p, h1, h2, h3, h4, h5⟩ := h
  obtain ⟨ps, t1, t2, t3, t4, t5⟩ := t.ex
  exact ⟨p :: ps, by rw [pdL, h1, t1], by rw [pureL, h2, t2]; rfl, by simp [PyData.canLayAll0, h3, t3], by simp only [PyData.depthAll]; omega, by rw [List.map_cons, h5, t5]⟩
theorem in_non9 {ds : List D} {bs : List Bool} (h : Fl9 ds bs) : inA m .non (.lst ds) = some (.bl (bs.any id)) := by
  obtain ⟨ps, h1, h2, h3, h4, h5⟩ := h.ex
  have h0 : pdM m .non = some .none := pdM_pure rfl rfl rfl
  have hl : pdM m (.lst ds) = some (.list ps) := by
    have hd : (PyData.list ps).depth ≤ 64 := by simp only [PyData.depth]; omega
    exact pdM_pure h2 (by rw [pd, h1]; rfl) (by simp [SeqAt.shaped, PyData.canLay0, h3, hd])
  have e : inAB m .non (.lst ds) = some (bs.any id) := by
    show (match pdM m .non, pdM m (.lst ds) with
      | some a, some (.tuple ds) => some (ds.any fun z => PyData.eqv z a)
      | some a, some (.list ds) => some (ds.any fun z => PyData.eqv z a)
      | _, _ => none) = _
    rw [hl, h0]
    show some (ps.any fun z => PyData.eqv z .none) = _
    rw [← h5, List.any_map]
    rfl
  unfold inA
  rw [e]
  rfl
theorem findP_bs9 : ∀ (ps : List PyData) (i : Nat), findP .none ps i = ((ps.map fun p => PyData.eqv p .none).findIdx? id).map fun k => i + k
  | [], _ => rfl
  | p :: ps, i => by
    unfold findP
    rw [List.map_cons, List.findIdx?_cons, findP_bs9 ps (i + 1)]
    cases PyData.eqv p .none
    · simp only [id, Bool.false_eq_true, if_false, Option.map_map]
      congr 1
      funext k
      simp only [Function.comp]
      omega
    · rfl
theorem index_non9 {ds : List D} {bs : List Bool} {k : Nat} (h : Fl9 ds bs) (hk : bs.findIdx? id = some k) : indexD m (.lst ds) .non = some (.int (k : Nat)) := by
  obtain ⟨ps, h1, h2, h3, h4, h5⟩ := h.ex
  have h0 : pdM m .non = some .none := pdM_pure rfl rfl rfl
  have hl : pdM m (.lst ds) = some (.list ps) := by
    have hd : (PyData.list ps).depth ≤ 64 := by simp only [PyData.depth]; omega
    exact pdM_pure h2 (by rw [pd, h1]; rfl) (by simp [SeqAt.shaped, PyData.canLay0, h3, hd])
  unfold indexD
  rw [hl, h0]
  show (findP .none ps 0).map _ = _
  rw [findP_bs9, h5, hk]
  simp
theorem WE.idx9 {a b : EF} {Q : D → M → Prop} (h : WE a ρ m fun x m1 => (lstR m1 x).isSome = true ∧ WE b ρ m1 fun y m2 => Kn (indexD m2 x y) fun d => Q d m2) : WE (eIdx a b) ρ m Q := by
  obtain ⟨x, m1, e1, h1, y, m2, e2, d, e3, q⟩ := h
  refine ⟨d, m2, ?_, q⟩
  unfold eIdx
  rw [e1, bd_go, if_pos h1, e2, bd_go, e3]
  rfl
theorem WY.asg9 {a : EX} {g : GF} {Q : Rf → M → Prop} (h : WX a ρ m fun r m1 => (∀ d, r = .ok d → WG g d ρ m1 fun ρ1 m2 => Q (.fl (.nx ρ1)) m2) ∧ ∀ x, r = .ex x → Q (.ex x ρ) m1) : WY (yAsg a g) ρ m Q := by
  obtain ⟨r, m1, e, q1, q2⟩ := h
  unfold WY yAsg
  rw [e]
  cases r with
  | ok d =>
    obtain ⟨ρ1, m2, e2, q⟩ := q1 d rfl
    refine ⟨_, m2, ?_, q⟩
    show bd (g d ρ m1) _ = _
    rw [e2]
    rfl
  | ex x => exact ⟨_, _, rfl, q2 x rfl⟩
/-- a thing of a row, the event that it tells, whether it is none -/
structure Vv (nc ns : Nat) (t : D × D × Bool) : Prop where
  ev : F_event_of [t.1, .int (nc : Nat), .int (ns : Nat)] = some t.2.1
  px : pureD t.1 = true
  pd : ∃ p, pd t.2.1 = some p ∧ pureD t.2.1 = true ∧ p.canLay0 = true ∧ p.depth ≤ 9 ∧ PyData.eqv p .none = t.2.2
theorem Vv.good (h : e.In nc ns) (hc : nc ≤ 100) (hs : ns ≤ 100) : Vv nc ns (.str e.t, e.d, false) := by
  refine ⟨evof_w h hc hs, rfl, ?_⟩
  obtain ⟨l1, l2⟩ : PyData.strOk "turn" = true ∧ PyData.strOk "told" = true := by decide +kernel
  cases e with
  | turn c s f => exact ⟨.tuple [.str "turn", .int c, .int s, .bool f], rfl, rfl, by simp [PyData.canLay0, PyData.canLayAll0, l1], by simp [PyData.depth, PyData.depthAll], rfl⟩
  | told c d s => exact ⟨.tuple [.str "told", .int c, .int d, .int s], rfl, rfl, by simp [PyData.canLay0, PyData.canLayAll0, l2], by simp [PyData.depth, PyData.depthAll], rfl⟩
theorem Vv.bad (h : F_event_of [x, .int (nc : Nat), .int (ns : Nat)] = some .non) (hp : pureD x = true) : Vv nc ns (x, .non, true) := ⟨h, hp, .none, rfl, rfl, rfl, by simp [PyData.depth], rfl⟩
theorem vv_fl : ∀ {vs : List (D × D × Bool)}, (∀ t ∈ vs, Vv nc ns t) → Fl9 (vs.map fun t => t.2.1) (vs.map fun t => t.2.2)
  | [], _ => .nil
  | t :: vs, h => .cons (h t (by simp)).pd (vv_fl fun u hu => h u (List.mem_cons_of_mem _ hu))
theorem vv_pure : ∀ {vs : List (D × D × Bool)}, (∀ t ∈ vs, Vv nc ns t) → pureL (vs.map fun t => t.1) = true
  | [], _ => rfl
  | t :: vs, h => by
    show (pureD t.1 && pureL (vs.map fun t => t.1)) = true
    rw [(h t (by simp)).px, vv_pure fun u hu => h u (List.mem_cons_of_mem _ hu)]
    rfl
theorem isseq9L {ds : List D} : F_is_sequence [.lst ds] = some (.bl true) := by kernel_rfl
theorem isseq9T {ds : List D} : F_is_sequence [.tup ds] = some (.bl true) := by kernel_rfl
theorem isfrom9 {n : Nat} (h : 1 ≤ n) : F_is_from [.int (n : Nat), .int 1] = some (.bl true) := by
  rw [isfrom_ok, decide_eq_true (by omega)]
theorem pl9 (hp : pureD x = true) {a b : Int} : pureL [x, .int a, .int b] = true := by show (pureD x && true) = true; rw [hp]; rfl
local macro_rules | `(tactic| fail) => `(tactic| (first | ((with_reducible refine w_and_t ?_ ?_); exact rfl) | ((with_reducible refine w_and_f ?_ ?_); exact rfl) | ((with_reducible refine w_or_t ?_ ?_); exact rfl) | ((with_reducible refine w_or_f ?_ ?_); exact rfl) | ((with_reducible refine Kn.fdiv ?_ ?_); exact ⟨by decide, by decide⟩) | ((with_reducible refine Kn.mod ?_ ?_); decide) | ((with_reducible refine And.intro (a := (_ && _) = true) ?_ ?_); exact rfl) | ((with_reducible refine And.intro (a := List.length _ = List.length _) ?_ ?_); exact rfl; dsimp only [setMany, List.set_cons_succ, List.set_cons_zero]) | ((with_reducible refine ⟨wsz ?_, ?_⟩); first | decide | (show (_ : Nat) ≤ 1000; simp only [List.length_cons, List.length_nil]; decide)) | with_reducible refine ⟨_, rfl, ?_⟩))
local macro_rules | `(tactic| fail) => `(tactic| (first | ((with_reducible refine WG.nm ?_); dsimp only [setMany, List.set_cons_succ, List.set_cons_zero]) | ((with_reducible refine WG.one ?_); dsimp only [setMany, List.set_cons_succ, List.set_cons_zero]) | ((with_reducible refine WG.tup ?_ ?_); exact rfl; dsimp only [setMany, List.set_cons_succ, List.set_cons_zero]) | ((with_reducible apply WE.var); exact rfl) | ((with_reducible apply WE.upP); exact rfl) | ((with_reducible apply WE.upT); exact rfl) | ((with_reducible apply WE.upL); exact rfl) | ((with_reducible apply WE.upN); exact rfl) | ((with_reducible apply WS.aug); exact rfl) | ((with_reducible apply WE.newPL); exact rfl) | ((with_reducible refine WS.ite_t ?_ ?_); exact rfl) | ((with_reducible refine WS.ite_f ?_ ?_); exact rfl) | ((with_reducible refine WE.ite_t ?_ ?_); exact rfl) | ((with_reducible refine WE.ite_f ?_ ?_); exact rfl)))
local macro_rules | `(tactic| fail) => `(tactic| with_reducible (first | refine Kn.it_l ?_ | refine Kn.it_s ?_ | refine Kn.str_s ?_ | refine Kn.sl_t ?_ | refine Kn.sl_l ?_ | refine Fld.need ?_ | refine Fld.of ?_ | refine Fld.base ?_ | refine Fld.more ?_ | refine Fld.most ?_ | refine Fld.calm ?_ | refine Fld.back ?_ | refine Fld.top ?_ | refine Fld.under ?_ | refine Fld.up ?_ | refine Fld.hears ?_ | refine Fld.cap ?_ | refine Mth.time ?_))
local macro_rules | `(tactic| fail) => `(tactic| with_reducible (first | refine WE.tupL ?_ | refine WE.dicP ?_ | refine WP.nil ?_ | refine WP.cons ?_ | refine WE.upd ?_ | refine WA.nil ?_ | refine WA.cons ?_ | refine WA.star ?_ | refine WO.no ?_ | refine WO.yes ?_ | refine WT.val ?_ | refine WT.and ?_ | refine WT.or ?_ | refine WT.not ?_ | refine WT.tt ?_ | refine WI.it ?_ | refine Kn.add_i ?_ | refine Kn.sub ?_ | refine Kn.neg ?_ | refine Kn.eq_i ?_ | refine Kn.ne_i ?_ | refine Kn.lt ?_ | refine Kn.le ?_ | refine Kn.gt ?_ | refine Kn.ge ?_ | refine Kn.int_i ?_ | refine Kn.int_b ?_ | refine Kn.abs ?_ | refine Kn.min2 ?_ | refine Kn.max2 ?_ | refine Kn.len_t ?_ | refine Kn.len_l ?_ | refine Kn.len_s ?_ | refine Kn.tup_t ?_ | refine Kn.tup_l ?_ | refine Kn.lis_t ?_ | refine Kn.lis_l ?_ | refine Kn.seq_t ?_ | refine Kn.seq_l ?_ | refine Kn.it_t ?_))
local macro_rules | `(tactic| fail) => `(tactic| with_reducible (first | refine WS.seq ?_ | refine WS.nx ?_ | refine WS.rt ?_ | refine WS.asg ?_ | refine WS.drop ?_ | refine WS.ret ?_ | refine WS.nop ?_ | refine WS.retN ?_ | refine WS.brk ?_ | refine WS.cont ?_ | refine WS.sif ?_ | refine WS.par ?_ | refine WG.setA ?_ | refine WE.c ?_ | refine WE.op ?_ | refine WE.call ?_ | refine WE.callM ?_ | refine WE.un ?_ | refine WE.tup ?_ | refine WE.lst ?_ | refine WE.newL ?_ | refine WE.eif ?_ | refine WE.sl ?_ | refine WE.isN ?_ | refine WE.notN ?_ | refine WE.not ?_ | refine WE.and ?_ | refine WE.or ?_ | refine WE.app ?_ | refine WE.tupR ?_ | refine WE.lisR ?_ | refine WE.m1 ?_ | refine WE.tbl ?_ | refine WE.tblNin ?_ | refine WE.chain ?_ | refine WE.fldF ?_ | refine WE.mth ?_ | refine WE.disp ?_ | refine WE.dicC ?_ | refine WE.tupA ?_))
local macro_rules | `(tactic| trivial) => `(tactic| (repeat fail))
/-- the first thing that tells no event -/
theorem evs9 {vs : List (D × D × Bool)} {k : Nat} (hn : vs.length ≤ 1000) (h : ∀ t ∈ vs, Vv nc ns t) (hk : (vs.map fun t => t.2.2).findIdx? id = some k) : FX_events_of [.lst (vs.map fun t => t.1), .int (nc : Nat), .int (ns : Nat)] = some (.ex (xE9 k)) := by
  refine WY.runX (b := y_events_of) ?_ rfl
  show WY y_events_of [some (.lst (vs.map fun t => t.1)), some (.int (nc : Nat)), some (.int (ns : Nat)), none, none] [] _
  unfold y_events_of
  refine WY.seq (WY.of ?_)
  unfold y_events_of_1
  trivial
  refine WE.lcMw (nw := false) (fun t : D × D × Bool => t.1) (fun t => t.2.1) (xs := vs) ?_ (by omega) (fun t ht => ?_) ?_
  · refine WI.it ?_
    trivial
    exact ⟨rfl, rfl⟩
  · trivial
    refine Kn.call (pl9 (h t ht).px) (h t ht).ev ?_
    exact ⟨rfl, rfl⟩
  dsimp only [cond_false]
  trivial
  refine WY.nx ?_
  unfold y_events_of_3
  refine WY.seq (WY.sif ?_)
  trivial
  refine Kn.mk (in_non9 (vv_fl h)) ?_
  trivial
  have ha : ((vs.map fun t => t.2.2).any id) = true := by
    rw [List.any_eq_true]
    obtain ⟨hl, h1, _⟩ := List.findIdx?_eq_some_iff_getElem.mp hk
    exact ⟨_, List.getElem_mem hl, h1⟩
  rw [ha]
  refine ⟨fun _ => ?_, (fun z => nomatch z)⟩
  unfold y_events_of_2
  refine WY.raise1 ?_
  refine WA.cons (WE.idx9 ?_)
  trivial
  refine ⟨rfl, ?_⟩
  trivial
  refine Kn.mk (index_non9 (vv_fl h) hk) ?_
  trivial
  exact rfl
theorem new_ex9 {a b c : D} {x : Xn} {m' : M} (e : FX_Road___init__ [.ref 0, a, b, c] [.ins "Road" [] []] = some (.ex x, m')) (hx : pureL x.vs = true) : newPX "Road" FX_Road___init__ [a, b, c] = some (.ex x) := by
  unfold newPX
  rw [e]
  show (xnF m' x).map Rv.ex = _
  unfold xnF frzL
  rw [if_pos hx]
  rfl
theorem WY.runE9 {a n : Nat} {b : SX} {ds : List D} {m0 m' : M} {x : Xn} (h : WY b (startD n ds) m0 fun r m => ∃ ρ, r = .ex x ρ ∧ m = m') (hl : ds.length = a) : runMX a n b ds m0 = some (.ex x, m') := by
  obtain ⟨r, m, e, ρ, rfl, rfl⟩ := h
  unfold runMX
  rw [if_pos hl, e]
  rfl
theorem new_c9 {x y z : D} (hx : F_is_from [x, .int 1] = some (.bl false)) (hp : pureD x = true) : newPX "Road" FX_Road___init__ [x, y, z] = some (.ex (xR9 "callers")) := by
  refine new_ex9 (m' := [.ins "Road" [] []]) ?_ rfl
  refine WY.runE9 (b := y_Road___init__) ?_ rfl
  show WY y_Road___init__ [some (.ref 0), some x, some y, some z] _ _
  unfold y_Road___init__
  refine WY.seq (WY.sif ?_)
  trivial
  refine Kn.call (by show (pureD x && true) = true; rw [hp]; rfl) hx ?_
  trivial
  unfold y_Road___init___1
  refine WY.raise1 ?_
  trivial
  exact ⟨_, rfl, rfl⟩
theorem new_s9 {y z : D} (hc : 1 ≤ nc) (hx : F_is_from [y, .int 1] = some (.bl false)) (hp : pureD y = true) : newPX "Road" FX_Road___init__ [.int (nc : Nat), y, z] = some (.ex (xR9 "servers")) := by
  refine new_ex9 (m' := [.ins "Road" [] []]) ?_ rfl
  refine WY.runE9 (b := y_Road___init__) ?_ rfl
  show WY y_Road___init__ [some (.ref 0), some (.int (nc : Nat)), some y, some z] _ _
  unfold y_Road___init__
  refine WY.seq (WY.sif ?_)
  trivial
  refine Kn.call rfl (isfrom9 hc) ?_
  trivial
  refine WY.of ?_
  trivial
  refine WY.nx ?_
  unfold y_Road___init___6
  refine WY.seq (WY.sif ?_)
  trivial
  refine Kn.call (by show (pureD y && true) = true; rw [hp]; rfl) hx ?_
  trivial
  unfold y_Road___init___2
  refine WY.raise1 ?_
  trivial
  exact ⟨_, rfl, rfl⟩
theorem new_e9 {z : D} (hc : 1 ≤ nc) (hs : 1 ≤ ns) (hx : F_is_sequence [z] = some (.bl false)) (hp : pureD z = true) : newPX "Road" FX_Road___init__ [.int (nc : Nat), .int (ns : Nat), z] = some (.ex (xR9 "events")) := by
  refine new_ex9 (m' := [.ins "Road" [] []]) ?_ rfl
  refine WY.runE9 (b := y_Road___init__) ?_ rfl
  show WY y_Road___init__ [some (.ref 0), some (.int (nc : Nat)), some (.int (ns : Nat)), some z] _ _
  unfold y_Road___init__
  refine WY.seq (WY.sif ?_)
  trivial
  refine Kn.call rfl (isfrom9 hc) ?_
  trivial
  refine WY.of ?_
  trivial
  refine WY.nx ?_
  unfold y_Road___init___6
  refine WY.seq (WY.sif ?_)
  trivial
  refine Kn.call rfl (isfrom9 hs) ?_
  trivial
  refine WY.of ?_
  trivial
  refine WY.nx ?_
  unfold y_Road___init___5
  refine WY.seq (WY.sif ?_)
  trivial
  refine Kn.call (by show (pureD z && true) = true; rw [hp]; rfl) hx ?_
  trivial
  unfold y_Road___init___3
  refine WY.raise1 ?_
  trivial
  exact ⟨_, rfl, rfl⟩
/-- a row with a thing that tells no event -/
theorem new_bad9 {vs : List (D × D × Bool)} {k : Nat} (hc : 1 ≤ nc) (hs : 1 ≤ ns) (hn : vs.length ≤ 1000) (h : ∀ t ∈ vs, Vv nc ns t) (hk : (vs.map fun t => t.2.2).findIdx? id = some k) : newPX "Road" FX_Road___init__ [.int (nc : Nat), .int (ns : Nat), .lst (vs.map fun t => t.1)] = some (.ex (xE9 k)) := by
  have hp := vv_pure h
  have hpl : pureD (D.lst (vs.map fun t => t.1)) = true := hp
  refine new_ex9 (m' := [.ins "Road" [] []]) ?_ rfl
  refine WY.runE9 (b := y_Road___init__) ?_ rfl
  show WY y_Road___init__ [some (.ref 0), some (.int (nc : Nat)), some (.int (ns : Nat)), some (.lst (vs.map fun t => t.1))] _ _
  unfold y_Road___init__
  refine WY.seq (WY.sif ?_)
  trivial
  refine Kn.call rfl (isfrom9 hc) ?_
  trivial
  refine WY.of ?_
  trivial
  refine WY.nx ?_
  unfold y_Road___init___6
  refine WY.seq (WY.sif ?_)
  trivial
  refine Kn.call rfl (isfrom9 hs) ?_
  trivial
  refine WY.of ?_
  trivial
  refine WY.nx ?_
  unfold y_Road___init___5
  refine WY.seq (WY.sif ?_)
  trivial
  refine Kn.call (by simp [pureL, hpl]) isseq9L ?_
  trivial
  refine WY.of ?_
  trivial
  refine WY.nx ?_
  unfold y_Road___init___4
  refine WY.seq (WY.asg9 (WX.call ?_))
  trivial
  refine ⟨_, callPX_p (by simp [pureL, hp, pureD]) (evs9 hn h hk), ?_⟩
  refine ⟨(fun d z => nomatch z), fun x z => ?_⟩
  cases z
  exact ⟨_, rfl, rfl⟩
/-- a good road -/
theorem new_ok9 {x : D} (hx : Sqe x es) (h1 : 1 ≤ nc) (h2 : 1 ≤ ns) (hin : ∀ e ∈ es, e.In nc ns) (hc : nc ≤ 100) (hs : ns ≤ 100) (hl : es.length ≤ 100000) : newPX "Road" FX_Road___init__ [.int (nc : Nat), .int (ns : Nat), x] = some (.ok (roadD nc ns es (es.map fun e => D.str e.t))) :=
  newP_rx rx_Road___init__ _ _ (road_new hx h1 h2 hin hc hs hl)
/-- further events of a road: no sequence -/
theorem fur_no9 {z : D} (hx : F_is_sequence [z] = some (.bl false)) (hp : pureD z = true) : FX_Road_further [rdE nc ns es, z] = some (.ex (xR9 "events")) := by
  refine WY.runX (b := y_Road_further) ?_ rfl
  show WY y_Road_further [some (rdE nc ns es), some z] [] _
  unfold y_Road_further
  refine WY.seq (WY.sif ?_)
  trivial
  refine Kn.call (by show (pureD z && true) = true; rw [hp]; rfl) hx ?_
  trivial
  unfold y_Road_further_1
  refine WY.raise1 ?_
  trivial
  exact rfl
/-- further things, one of which tells no event -/
theorem fur_bad9 {vs ws : List (D × D × Bool)} {k : Nat} (hc : 1 ≤ nc) (hs : 1 ≤ ns) (hn : (vs ++ ws).length ≤ 1000) (h : ∀ t ∈ vs ++ ws, Vv nc ns t) (hk : ((vs ++ ws).map fun t => t.2.2).findIdx? id = some k) (he : vs.map (fun t => t.1) = tsE es) : FX_Road_further [rdE nc ns es, .tup (ws.map fun t => t.1)] = some (.ex (xE9 k)) := by
  have hpw : pureL (ws.map fun t => t.1) = true := vv_pure fun t ht => h t (List.mem_append_right _ ht)
  have hnl := hn
  rw [List.length_append] at hnl
  have hel : (tsE es).length = vs.length := by rw [← he, List.length_map]
  refine WY.runX (b := y_Road_further) ?_ rfl
  show WY y_Road_further [some (rdE nc ns es), some (.tup (ws.map fun t => t.1))] [] _
  unfold y_Road_further
  refine WY.seq (WY.sif ?_)
  trivial
  refine Kn.call (by show (pureL (ws.map fun t => t.1) && true) = true; rw [hpw]; rfl) isseq9T ?_
  trivial
  refine WY.of ?_
  trivial
  refine WY.nx ?_
  unfold y_Road_further_2
  refine WY.ret (WX.call ?_)
  trivial
  refine ⟨_, _, _, _, rfl, rd_c1, fc1, ?_⟩
  trivial
  refine ⟨_, _, _, _, rfl, rd_c1, fc2, ?_⟩
  trivial
  refine ⟨_, _, _, _, rfl, rd_c1, fc3, ?_⟩
  trivial
  rw [List.append_nil, ← he, ← List.map_append]
  refine ⟨by rw [sizeLine_eq, List.length_map]; omega, ?_⟩
  trivial
  have hp : pureL ((vs ++ ws).map fun t => t.1) = true := vv_pure h
  refine ⟨_, (if_pos (show pureL [.int (nc : Nat), .int (ns : Nat), .lst ((vs ++ ws).map fun t => t.1)] = true from by show (pureL _ && true) = true; rw [hp]; rfl)).trans (new_bad9 hc hs hn h hk), ?_⟩
  refine ⟨(fun d z => nomatch z), fun x z => ?_⟩
  cases z
  exact rfl
end
end L4
namespace L4
open PySem
section
variable {m : M} {ρ : Ss} {nc ns : Nat} {e : Ev} {es : List Ev} {x : D}
abbrev LQ9 : Str := "law.<locals>.<lambda>"
theorem told_ok9 {E : EX} {m1 : M} {d : D} (hg : ρ[13]? = some (some (.tab LQ9))) (e : E ρ m = some (.ok d, m1)) : eTold 13 LQ9 3 E h__law_told f__law_told_r ρ m = some (.non, m1) := by
  unfold eTold
  rw [hg]
  dsimp only
  rw [if_pos rfl, e, bd_go]
  rfl
theorem told_r9 {E : EX} {m1 : M} {w : Str} (hg : ρ[13]? = some (some (.tab LQ9))) (e : E ρ m = some (.ex (xR9 w), m1)) : eTold 13 LQ9 3 E h__law_told f__law_told_r ρ m = some (.str w, m1) := by
  unfold eTold
  rw [hg]
  dsimp only
  rw [if_pos rfl, e, bd_go]
  dsimp only
  rw [show handle h__law_told (xR9 w) (toldS 3) m1 = some (.fl (.nx [none, some (.str w), none]), m1) by kernel_rfl]
  rfl
theorem told_e9 {E : EX} {m1 : M} {k : Nat} (hg : ρ[13]? = some (some (.tab LQ9))) (e : E ρ m = some (.ex (xE9 k), m1)) : eTold 13 LQ9 3 E h__law_told f__law_told_r ρ m = some (.int (k : Nat), m1) := by
  unfold eTold
  rw [hg]
  dsimp only
  rw [if_pos rfl, e, bd_go]
  dsimp only
  rw [show handle h__law_told (xE9 k) (toldS 3) m1 = some (.fl (.nx [none, some (.int (k : Nat)), none]), m1) by kernel_rfl]
  rfl
theorem WE.tok9 {E : EX} {Q : D → M → Prop} (hg : ρ[13]? = some (some (.tab LQ9))) (h : WX E ρ m fun r m1 => (∃ d, r = .ok d) ∧ Q .non m1) : WE (eTold 13 LQ9 3 E h__law_told f__law_told_r) ρ m Q := by
  obtain ⟨r, m1, e, ⟨d, rfl⟩, q⟩ := h
  exact ⟨_, m1, told_ok9 hg e, q⟩
theorem WE.tr9 {E : EX} {w : Str} {Q : D → M → Prop} (hg : ρ[13]? = some (some (.tab LQ9))) (h : WX E ρ m fun r m1 => r = .ex (xR9 w) ∧ Q (.str w) m1) : WE (eTold 13 LQ9 3 E h__law_told f__law_told_r) ρ m Q := by
  obtain ⟨r, m1, e, rfl, q⟩ := h
  exact ⟨_, m1, told_r9 hg e, q⟩
theorem WE.te9 {E : EX} {k : Nat} {Q : D → M → Prop} (hg : ρ[13]? = some (some (.tab LQ9))) (h : WX E ρ m fun r m1 => r = .ex (xE9 k) ∧ Q (.int (k : Nat)) m1) : WE (eTold 13 LQ9 3 E h__law_told f__law_told_r) ρ m Q := by
  obtain ⟨r, m1, e, rfl, q⟩ := h
  exact ⟨_, m1, told_e9 hg e, q⟩
theorem WX.mth9 {c nm : Str} {F : M → List D → Option Rv} {o : EF} {a : AF} {Q : Rv → M → Prop} (h : WE o ρ m fun x m1 => ∃ ns vs, insOf m1 x = some (c, ns, vs) ∧ ns.contains nm = false ∧ WA a ρ m1 fun xs m2 => ∃ z, F m2 (x :: xs) = some z ∧ Q z m2) : WX (eMthX c nm F o a) ρ m Q := by
  obtain ⟨x, m1, e1, ns, vs, h1, h2, xs, m2, e2, z, e3, q⟩ := h
  refine ⟨z, m2, ?_, q⟩
  unfold eMthX
  rw [e1, bd_go]
  try dsimp only
  rw [h1]
  try dsimp only
  rw [if_pos ⟨rfl, h2⟩, e2, bd_go, e3]
  rfl
def smpB : D → Bool
  | .non => true
  | .bl _ => true
  | .int _ => true
  | .str _ => true
  | _ => false
def smp2B : D → Bool
  | .tup ds => ds.all smpB
  | .lst ds => ds.all smpB
  | d => smpB d
theorem frz_smp {n : Nat} (h : smpB x = true) : frzGo m (n + 1) x = some x := by cases x <;> first | rfl | cases h
theorem mapO_smp {n : Nat} : ∀ {ds : List D}, ds.all smpB = true → mapO (frzGo m (n + 1)) ds = some ds
  | [], _ => rfl
  | d :: ds, h => by
    obtain ⟨h1, h2⟩ := and2 (show (smpB d && ds.all smpB) = true from h)
    unfold mapO
    rw [frz_smp h1, mapO_smp h2]
theorem frz_smp2 (h : smp2B x = true) : frzGo m 39 x = some x := by
  cases x with
  | tup ds =>
    show (mapO (frzGo m 38) ds).map D.tup = _
    rw [mapO_smp h]
    rfl
  | lst ds =>
    show (mapO (frzGo m 38) ds).map D.lst = _
    rw [mapO_smp h]
    rfl
  | non => rfl
  | bl b => rfl
  | int i => rfl
  | str s => rfl
  | _ => cases h
def isNonR : Option D → Bool
  | some .non => true
  | _ => false
theorem isNonR_ok {o : Option D} (h : isNonR o = true) : o = some .non := by
  unfold isNonR at h
  split at h
  · rfl
  · cases h
def okD9 (nc ns : Nat) (x : D) : Bool := isNonR (F_event_of [x, .int (nc : Nat), .int (ns : Nat)]) && (smp2B x && (pureD x && (match pd x with | some g => PyData.canLay0 g && decide (g.depth ≤ 9) | none => false)))
def ok9 (nc ns : Nat) : Bool := match F__law_bad [.int (nc : Nat), .int (ns : Nat)] with
  | some (.lst bs) => decide (bs.length ≤ 30) && bs.all (okD9 nc ns)
  | _ => false
theorem ok9_all : ((List.range 4).all fun a => (List.range 12).all fun b => ok9 (a + 1) (b + 1)) = true := by kernel_rfl
theorem bad_of9 (h1 : 1 ≤ nc ∧ nc ≤ 4) (h2 : 1 ≤ ns ∧ ns ≤ 12) : ∃ bs, F__law_bad [.int (nc : Nat), .int (ns : Nat)] = some (.lst bs) ∧ bs.length ≤ 30 ∧ ∀ x ∈ bs, okD9 nc ns x = true := by
  have k := List.all_eq_true.mp (List.all_eq_true.mp ok9_all (nc - 1) (List.mem_range.mpr (by omega))) (ns - 1) (List.mem_range.mpr (by omega))
  rw [show nc - 1 + 1 = nc by omega, show ns - 1 + 1 = ns by omega] at k
  unfold ok9 at k
  split at k
  · next bs e =>
    obtain ⟨k1, k2⟩ := and2 k
    exact ⟨bs, e, of_decide_eq_true k1, List.all_eq_true.mp k2⟩
  · cases k
theorem okD_vv (h : okD9 nc ns x = true) : Vv nc ns (x, .non, true) := by
  obtain ⟨h1, h2⟩ := and2 h
  obtain ⟨_, h3⟩ := and2 h2
  exact .bad (isNonR_ok h1) (and2 h3).1
theorem okD_gd (h : okD9 nc ns x = true) : GoodG (fun d : D => d) (fun d => (pd d).getD .none) x := by
  obtain ⟨h1, h2⟩ := and2 h
  obtain ⟨h2, h3⟩ := and2 h2
  obtain ⟨h3, h4⟩ := and2 h3
  cases e : pd x with
  | none => rw [e] at h4; cases h4
  | some g =>
    rw [e] at h4
    obtain ⟨h5, h6⟩ := and2 h4
    exact ⟨by show ((pd x).getD .none).canLay0 = true; rw [e]; exact h5, by show ((pd x).getD .none).depth ≤ 9; rw [e]; exact of_decide_eq_true h6, h3, by show pd x = some ((pd x).getD .none); rw [e]; rfl, fun m => frz_smp2 h2⟩
theorem evof_l9 {ds : List D} {a b : Int} : F_event_of [.lst ds, .int a, .int b] = some .non := by kernel_rfl
local macro_rules | `(tactic| fail) => `(tactic| (first | ((with_reducible refine w_and_t ?_ ?_); exact rfl) | ((with_reducible refine w_and_f ?_ ?_); exact rfl) | ((with_reducible refine w_or_t ?_ ?_); exact rfl) | ((with_reducible refine w_or_f ?_ ?_); exact rfl) | ((with_reducible refine Kn.fdiv ?_ ?_); exact ⟨by decide, by decide⟩) | ((with_reducible refine Kn.mod ?_ ?_); decide) | ((with_reducible refine And.intro (a := (_ && _) = true) ?_ ?_); exact rfl) | ((with_reducible refine And.intro (a := List.length _ = List.length _) ?_ ?_); exact rfl; dsimp only [setMany, List.set_cons_succ, List.set_cons_zero]) | ((with_reducible refine ⟨wsz ?_, ?_⟩); first | decide | (show (_ : Nat) ≤ 1000; simp only [List.length_cons, List.length_nil]; decide)) | with_reducible refine ⟨_, rfl, ?_⟩))
local macro_rules | `(tactic| fail) => `(tactic| (first | ((with_reducible refine WG.nm ?_); dsimp only [setMany, List.set_cons_succ, List.set_cons_zero]) | ((with_reducible refine WG.one ?_); dsimp only [setMany, List.set_cons_succ, List.set_cons_zero]) | ((with_reducible refine WG.tup ?_ ?_); exact rfl; dsimp only [setMany, List.set_cons_succ, List.set_cons_zero]) | ((with_reducible apply WE.var); exact rfl) | ((with_reducible apply WE.upP); exact rfl) | ((with_reducible apply WE.upT); exact rfl) | ((with_reducible apply WE.upL); exact rfl) | ((with_reducible apply WE.upN); exact rfl) | ((with_reducible apply WS.aug); exact rfl) | ((with_reducible apply WE.newPL); exact rfl) | ((with_reducible refine WS.ite_t ?_ ?_); exact rfl) | ((with_reducible refine WS.ite_f ?_ ?_); exact rfl) | ((with_reducible refine WE.ite_t ?_ ?_); exact rfl) | ((with_reducible refine WE.ite_f ?_ ?_); exact rfl)))
local macro_rules | `(tactic| fail) => `(tactic| with_reducible (first | refine Kn.it_l ?_ | refine Kn.it_s ?_ | refine Kn.str_s ?_ | refine Kn.sl_t ?_ | refine Kn.sl_l ?_ | refine Fld.need ?_ | refine Fld.of ?_ | refine Fld.base ?_ | refine Fld.more ?_ | refine Fld.most ?_ | refine Fld.calm ?_ | refine Fld.back ?_ | refine Fld.top ?_ | refine Fld.under ?_ | refine Fld.up ?_ | refine Fld.hears ?_ | refine Fld.cap ?_ | refine Mth.time ?_))
local macro_rules | `(tactic| fail) => `(tactic| with_reducible (first | refine WE.tupL ?_ | refine WE.dicP ?_ | refine WP.nil ?_ | refine WP.cons ?_ | refine WE.upd ?_ | refine WA.nil ?_ | refine WA.cons ?_ | refine WA.star ?_ | refine WO.no ?_ | refine WO.yes ?_ | refine WT.val ?_ | refine WT.and ?_ | refine WT.or ?_ | refine WT.not ?_ | refine WT.tt ?_ | refine WI.it ?_ | refine Kn.add_i ?_ | refine Kn.sub ?_ | refine Kn.neg ?_ | refine Kn.eq_i ?_ | refine Kn.ne_i ?_ | refine Kn.lt ?_ | refine Kn.le ?_ | refine Kn.gt ?_ | refine Kn.ge ?_ | refine Kn.int_i ?_ | refine Kn.int_b ?_ | refine Kn.abs ?_ | refine Kn.min2 ?_ | refine Kn.max2 ?_ | refine Kn.len_t ?_ | refine Kn.len_l ?_ | refine Kn.len_s ?_ | refine Kn.tup_t ?_ | refine Kn.tup_l ?_ | refine Kn.lis_t ?_ | refine Kn.lis_l ?_ | refine Kn.seq_t ?_ | refine Kn.seq_l ?_ | refine Kn.it_t ?_))
local macro_rules | `(tactic| fail) => `(tactic| with_reducible (first | refine WS.seq ?_ | refine WS.nx ?_ | refine WS.rt ?_ | refine WS.asg ?_ | refine WS.drop ?_ | refine WS.ret ?_ | refine WS.nop ?_ | refine WS.retN ?_ | refine WS.brk ?_ | refine WS.cont ?_ | refine WS.sif ?_ | refine WS.par ?_ | refine WG.setA ?_ | refine WE.c ?_ | refine WE.op ?_ | refine WE.call ?_ | refine WE.callM ?_ | refine WE.un ?_ | refine WE.tup ?_ | refine WE.lst ?_ | refine WE.newL ?_ | refine WE.eif ?_ | refine WE.sl ?_ | refine WE.isN ?_ | refine WE.notN ?_ | refine WE.not ?_ | refine WE.and ?_ | refine WE.or ?_ | refine WE.app ?_ | refine WE.tupR ?_ | refine WE.lisR ?_ | refine WE.m1 ?_ | refine WE.tbl ?_ | refine WE.tblNin ?_ | refine WE.chain ?_ | refine WE.fldF ?_ | refine WE.mth ?_ | refine WE.disp ?_ | refine WE.dicC ?_ | refine WE.tupA ?_))
local macro_rules | `(tactic| trivial) => `(tactic| (repeat fail))
theorem isfrom_l9 {ds : List D} (hp : pureL ds = true) : F_is_from [.lst ds, .int 1] = some (.bl false) := by
  have hi : F_is_integer [.lst ds] = some (.bl false) := by kernel_rfl
  refine WS.runP (n := 2) (b := f_is_from) ?_ rfl
  show WS _ [some (.lst ds), some (.int 1)] [] _
  trivial
  refine Kn.call (by show (pureL ds && true) = true; rw [hp]; rfl) hi ?_
  trivial
  exact frz_p rfl
theorem odd9 {z : D} (hz : pureD z = true) (h : x ∈ ([.int 0, .int (-1), .non, .bl true, .str "1", .lst [.int 2], .lst [z]] : List D)) : F_is_from [x, .int 1] = some (.bl false) ∧ pureD x = true := by
  simp only [List.mem_cons, List.not_mem_nil, or_false] at h
  rcases h with rfl | rfl | rfl | rfl | rfl | rfl | rfl
  · exact ⟨by kernel_rfl, rfl⟩
  · exact ⟨by kernel_rfl, rfl⟩
  · exact ⟨by kernel_rfl, rfl⟩
  · exact ⟨by kernel_rfl, rfl⟩
  · exact ⟨by kernel_rfl, rfl⟩
  · exact ⟨by kernel_rfl, rfl⟩
  · exact ⟨isfrom_l9 (by show (pureD z && true) = true; rw [hz]; rfl), by show (pureD z && true) = true; rw [hz]; rfl⟩
theorem road11_9 : dflt (pureC (newP "Road" F_Road___init__)) m [.int 1, .int 1] = some (rdE 1 1 []) := by kernel_rfl
theorem seqno9 (h : x ∈ ([.non, .str "turn 0 0 ok", .int 3, .bl true, rdE 1 1 []] : List D)) : F_is_sequence [x] = some (.bl false) ∧ pureD x = true := by
  simp only [List.mem_cons, List.not_mem_nil, or_false] at h
  rcases h with rfl | rfl | rfl | rfl | rfl
  · exact ⟨by kernel_rfl, rfl⟩
  · exact ⟨by kernel_rfl, rfl⟩
  · exact ⟨by kernel_rfl, rfl⟩
  · exact ⟨by kernel_rfl, rfl⟩
  · exact ⟨by kernel_rfl, pl_rdG⟩
end
end L4
namespace L4
open PySem
section
variable {m : M} {ρ : Ss} {nc ns : Nat} {e : Ev} {es : List Ev} {x s : D}
theorem lit9 : ("turn " : Str).cps.toList = ("turn" : Str).cps.toList ++ [32] ∧ (" " : Str).cps.toList = [32] ∧ ("turn " : Str).length = 5 ∧ (" " : Str).length = 1 := by decide +kernel
theorem turn_t9 (c s : Nat) (f : Bool) : catS (catS (catS (catS (catS "turn " (nS (c : Nat))) " ") (nS (s : Nat))) " ") (ansS f) = (Ev.turn c s f).t := str_ext (by
  obtain ⟨h1, h3, _⟩ := lit9
  unfold Ev.t Ev.w
  rw [joinT_l]
  simp only [catS_l, h1, h3, List.map_cons, List.map_nil, TL.joinL, List.append_assoc, List.cons_append, List.nil_append])
theorem pick9 {d : D} (h : d ∈ ([.str "ok", .str "fault"] : List D)) : ∃ f : Bool, d = .str (ansS f) := by
  simp only [List.mem_cons, List.not_mem_nil, or_false] at h
  rcases h with rfl | rfl
  · exact ⟨false, rfl⟩
  · exact ⟨true, rfl⟩
theorem cut_drop9 {ds : List D} (j : Nat) : cutD ds (some ((j : Nat) : Int)) none = ds.drop j := by
  unfold cutD
  rw [HT.sIx_none, HT.sIx_nat]
  by_cases h : j ≤ ds.length
  · rw [Nat.min_eq_left h, List.take_of_length_le (by rw [List.length_drop]; omega)]
  · rw [Nat.min_eq_right (by omega), List.drop_of_length_le (Nat.le_refl _), List.drop_of_length_le (by omega)]
    exact List.take_nil
theorem cat_len9 (a b : Str) : (catS a b).length = a.length + b.length := by
  rw [slen, slen, slen, catS_l, List.length_append]
theorem ne_ev9 : neD m (.str "events") (.str "events") = some (.bl false) := eqB (by kernel_rfl)
theorem ne_ca9 : neD m (.str "callers") (.str "callers") = some (.bl false) := eqB (by kernel_rfl)
theorem ne_se9 : neD m (.str "servers") (.str "servers") = some (.bl false) := eqB (by kernel_rfl)
theorem rd_n9 : rdNames.contains "further" = false := by kernel_rfl
/-- the things of good events -/
def gd9 (e : Ev) : D × D × Bool := (.str e.t, e.d, false)
theorem gd_fst : (es.map gd9).map (fun t => t.1) = tsE es := by
  unfold tsE
  rw [List.map_map]
  rfl
def bent9 (es : List Ev) (x : D) (k : Nat) : List (D × D × Bool) := (es.take k).map gd9 ++ (x, .non, true) :: ((es.drop k).map gd9 ++ [(.non, .non, true)])
theorem bent_fst (k : Nat) : (bent9 es x k).map (fun t => t.1) = (tsE es).take k ++ [x] ++ (tsE es).drop k ++ [.non] := by
  unfold bent9
  rw [List.map_append, List.map_cons, List.map_append, gd_fst, gd_fst]
  simp [tsE, List.map_take, List.map_drop]
theorem find9 : ∀ {a : List Bool} (b : List Bool), (∀ q ∈ a, q = false) → (a ++ true :: b).findIdx? id = some a.length
  | [], b, _ => by simp [List.findIdx?_cons]
  | q :: a, b, h => by
    have hq := h q (by simp)
    subst hq
    rw [List.cons_append, List.findIdx?_cons, find9 b fun q hq => h q (List.mem_cons_of_mem _ hq)]
    rfl
theorem bent_idx {k : Nat} (hk : k ≤ es.length) : ((bent9 es x k).map fun t => t.2.2).findIdx? id = some k := by
  unfold bent9
  rw [List.map_append, List.map_cons, find9]
  · rw [List.length_map, List.length_map, List.length_take, Nat.min_eq_left hk]
  · intro q hq
    rw [List.map_map] at hq
    obtain ⟨e, _, rfl⟩ := List.mem_map.mp hq
    rfl
theorem bent_vv {k : Nat} (hin : ∀ e ∈ es, e.In nc ns) (hc : nc ≤ 100) (hs : ns ≤ 100) (hx : Vv nc ns (x, .non, true)) : ∀ t ∈ bent9 es x k, Vv nc ns t := by
  have hg : ∀ e ∈ es, Vv nc ns (gd9 e) := fun e he => .good (hin e he) hc hs
  intro t ht
  rcases List.mem_append.mp ht with ht | ht
  · obtain ⟨e, he, rfl⟩ := List.mem_map.mp ht
    exact hg e (List.mem_of_mem_take he)
  rcases List.mem_cons.mp ht with rfl | ht
  · exact hx
  rcases List.mem_append.mp ht with ht | ht
  · obtain ⟨e, he, rfl⟩ := List.mem_map.mp ht
    exact hg e (List.mem_of_mem_drop he)
  · rw [List.mem_singleton.mp ht]
    exact .bad (by kernel_rfl) rfl
theorem bent_len {k : Nat} (hk : k ≤ es.length) : (bent9 es x k).length = es.length + 2 := by
  unfold bent9
  simp only [List.length_append, List.length_map, List.length_take, List.length_cons, List.length_drop, List.length_nil]
  omega
theorem bent_take {k p : Nat} (hk : k ≤ es.length) (hp : p ≤ k) : ((bent9 es x k).take p).map (fun t => t.1) = tsE (es.take p) := by
  unfold bent9
  rw [List.take_append_of_le_length (by simp; omega), ← List.map_take, List.take_take, Nat.min_eq_left hp, gd_fst]
abbrev st9 (s : D) (x2 x3 x4 x5 : Option D) (nc : Nat) (x7 x8 : Option D) (ns : Nat) (x10 : Option D) (es : List Ev) (x12 : Option D) : Ss := [some s, some (.ref 1), x2, x3, x4, x5, some (.int (nc : Nat)), x7, x8, some (.int (ns : Nat)), x10, some (.lst (tsE es)), x12, some (.tab LQ9)]
/-- what is known of a turn -/
structure R9 (nc ns : Nat) (es : List Ev) : Prop where
  h1 : 1 ≤ nc ∧ nc ≤ 4
  h2 : 1 ≤ ns ∧ ns ≤ 12
  mem : ∀ e ∈ es, e.In nc ns
  l : es.length ≤ 8
theorem p3x (hp : pureD x = true) {a b : Int} : pureL [.int a, .int b, x] = true := by show (pureD x && true) = true; rw [hp]; rfl
local macro_rules | `(tactic| fail) => `(tactic| (first | ((with_reducible refine w_and_t ?_ ?_); exact rfl) | ((with_reducible refine w_and_f ?_ ?_); exact rfl) | ((with_reducible refine w_or_t ?_ ?_); exact rfl) | ((with_reducible refine w_or_f ?_ ?_); exact rfl) | ((with_reducible refine Kn.fdiv ?_ ?_); exact ⟨by decide, by decide⟩) | ((with_reducible refine Kn.mod ?_ ?_); decide) | ((with_reducible refine And.intro (a := (_ && _) = true) ?_ ?_); exact rfl) | ((with_reducible refine And.intro (a := List.length _ = List.length _) ?_ ?_); exact rfl; dsimp only [setMany, List.set_cons_succ, List.set_cons_zero]) | ((with_reducible refine ⟨wsz ?_, ?_⟩); first | decide | (show (_ : Nat) ≤ 1000; simp only [List.length_cons, List.length_nil]; decide)) | with_reducible refine ⟨_, rfl, ?_⟩))
local macro_rules | `(tactic| fail) => `(tactic| (first | ((with_reducible refine WG.nm ?_); dsimp only [setMany, List.set_cons_succ, List.set_cons_zero]) | ((with_reducible refine WG.one ?_); dsimp only [setMany, List.set_cons_succ, List.set_cons_zero]) | ((with_reducible refine WG.tup ?_ ?_); exact rfl; dsimp only [setMany, List.set_cons_succ, List.set_cons_zero]) | ((with_reducible apply WE.var); exact rfl) | ((with_reducible apply WE.upP); exact rfl) | ((with_reducible apply WE.upT); exact rfl) | ((with_reducible apply WE.upL); exact rfl) | ((with_reducible apply WE.upN); exact rfl) | ((with_reducible apply WS.aug); exact rfl) | ((with_reducible apply WE.newPL); exact rfl) | ((with_reducible refine WS.ite_t ?_ ?_); exact rfl) | ((with_reducible refine WS.ite_f ?_ ?_); exact rfl) | ((with_reducible refine WE.ite_t ?_ ?_); exact rfl) | ((with_reducible refine WE.ite_f ?_ ?_); exact rfl)))
local macro_rules | `(tactic| fail) => `(tactic| with_reducible (first | refine Kn.it_l ?_ | refine Kn.it_s ?_ | refine Kn.str_s ?_ | refine Kn.sl_t ?_ | refine Kn.sl_l ?_ | refine Fld.need ?_ | refine Fld.of ?_ | refine Fld.base ?_ | refine Fld.more ?_ | refine Fld.most ?_ | refine Fld.calm ?_ | refine Fld.back ?_ | refine Fld.top ?_ | refine Fld.under ?_ | refine Fld.up ?_ | refine Fld.hears ?_ | refine Fld.cap ?_ | refine Mth.time ?_))
local macro_rules | `(tactic| fail) => `(tactic| with_reducible (first | refine WE.tupL ?_ | refine WE.dicP ?_ | refine WP.nil ?_ | refine WP.cons ?_ | refine WE.upd ?_ | refine WA.nil ?_ | refine WA.cons ?_ | refine WA.star ?_ | refine WO.no ?_ | refine WO.yes ?_ | refine WT.val ?_ | refine WT.and ?_ | refine WT.or ?_ | refine WT.not ?_ | refine WT.tt ?_ | refine WI.it ?_ | refine Kn.add_i ?_ | refine Kn.sub ?_ | refine Kn.neg ?_ | refine Kn.eq_i ?_ | refine Kn.ne_i ?_ | refine Kn.lt ?_ | refine Kn.le ?_ | refine Kn.gt ?_ | refine Kn.ge ?_ | refine Kn.int_i ?_ | refine Kn.int_b ?_ | refine Kn.abs ?_ | refine Kn.min2 ?_ | refine Kn.max2 ?_ | refine Kn.len_t ?_ | refine Kn.len_l ?_ | refine Kn.len_s ?_ | refine Kn.tup_t ?_ | refine Kn.tup_l ?_ | refine Kn.lis_t ?_ | refine Kn.lis_l ?_ | refine Kn.seq_t ?_ | refine Kn.seq_l ?_ | refine Kn.it_t ?_))
local macro_rules | `(tactic| fail) => `(tactic| with_reducible (first | refine WS.seq ?_ | refine WS.nx ?_ | refine WS.rt ?_ | refine WS.asg ?_ | refine WS.drop ?_ | refine WS.ret ?_ | refine WS.nop ?_ | refine WS.retN ?_ | refine WS.brk ?_ | refine WS.cont ?_ | refine WS.sif ?_ | refine WS.par ?_ | refine WG.setA ?_ | refine WE.c ?_ | refine WE.op ?_ | refine WE.call ?_ | refine WE.callM ?_ | refine WE.un ?_ | refine WE.tup ?_ | refine WE.lst ?_ | refine WE.newL ?_ | refine WE.eif ?_ | refine WE.sl ?_ | refine WE.isN ?_ | refine WE.notN ?_ | refine WE.not ?_ | refine WE.and ?_ | refine WE.or ?_ | refine WE.app ?_ | refine WE.tupR ?_ | refine WE.lisR ?_ | refine WE.m1 ?_ | refine WE.tbl ?_ | refine WE.tblNin ?_ | refine WE.chain ?_ | refine WE.fldF ?_ | refine WE.mth ?_ | refine WE.disp ?_ | refine WE.dicC ?_ | refine WE.tupA ?_))
local macro_rules | `(tactic| trivial) => `(tactic| (repeat fail))
theorem good9 (h : AY m) (h1 : 1 ≤ nc ∧ nc ≤ 20) (h2 : 1 ≤ ns ∧ ns ≤ 20) {Q : D → M → Prop} (q : ∀ (e : Ev) m', e.In nc ns → AY m' → m'.length = m.length → (∀ j, 2 ≤ j → m'[j]? = m[j]?) → Q (.str e.t) m') : Wr (F__law_good [.ref 1, .int (nc : Nat), .int (ns : Nat)] m) Q := by
  obtain ⟨_, _, l4, l6⟩ := lit9
  refine WS.runM (n := 5) (b := f__law_good) ?_ rfl
  show WS _ [some (.ref 1), some (.int (nc : Nat)), some (.int (ns : Nat)), none, none] m _
  trivial
  refine draw_y h (by omega) (by omega) fun c m1 c0 c1 a1 k1 o1 => ?_
  trivial
  refine draw_y a1 (by omega) (by omega) fun s m2 s0 s1 a2 k2 o2 => ?_
  trivial
  obtain ⟨c, rfl⟩ := Int.eq_ofNat_of_zero_le c0
  obtain ⟨s, rfl⟩ := Int.eq_ofNat_of_zero_le s0
  have lc := len_n (show c < 100 by omega)
  have ls := len_n (show s < 100 by omega)
  refine Kn.mk (w_str_i (by omega) (by omega)) ?_
  trivial
  refine Kn.add_s (wsz (by omega)) ?_
  trivial
  refine Kn.add_s (wsz (by rw [cat_len9]; omega)) ?_
  trivial
  refine Kn.mk (w_str_i (by omega) (by omega)) ?_
  trivial
  refine Kn.add_s (wsz (by rw [cat_len9, cat_len9]; omega)) ?_
  trivial
  refine Kn.add_s (wsz (by rw [cat_len9, cat_len9, cat_len9]; omega)) ?_
  trivial
  refine pick_y a2 (by show 1 ≤ 2; decide) (by show 2 < 1000; decide) fun d m4 hd a4 k4 o4 => ?_
  obtain ⟨f, rfl⟩ := pick9 hd
  have lf := len_ans f
  trivial
  refine Kn.add_s (wsz (by rw [cat_len9, cat_len9, cat_len9, cat_len9]; omega)) ?_
  rw [turn_t9]
  trivial
  exact .inl ⟨_, rfl, q (.turn c s f) m4 ⟨by omega, by omega⟩ a4 (by omega) fun j hj => (o4 j hj).trans ((o2 j hj).trans (o1 j hj))⟩
/-- no sequence of events -/
theorem thing9 (R : R9 nc ns es) (hx : F_is_sequence [x] = some (.bl false)) (hp : pureD x = true) (x2 x3 x4 x5 x7 x8 x12 : Option D) : WS f_law_2 (st9 s x2 x3 x4 x5 nc x7 x8 ns (some x) es x12) m fun rr m' => m' = m ∧ rr = .nx (st9 s x2 x3 x4 x5 nc x7 x8 ns (some x) es x12) := by
  obtain ⟨h1, h2, hin, hl⟩ := R
  unfold f_law_2
  trivial
  refine WE.tr9 (w := "events") rfl (WX.call ?_)
  trivial
  refine ⟨_, (if_pos (p3x hp)).trans (new_e9 h1.1 h2.1 hx hp), rfl, ?_⟩
  trivial
  refine Kn.mk ne_ev9 ?_
  trivial
  unfold f_law_1
  trivial
  refine WE.tr9 (w := "events") rfl (WX.mth9 ?_)
  trivial
  refine Kn.pure (road_pureG _) (road_new (.inl rfl) h1.1 h2.1 hin (by omega) (by omega) (by omega)) ?_
  refine ⟨_, _, rd_insG, rd_n9, ?_⟩
  trivial
  refine ⟨_, callPX_p (by show (pureD (rdE nc ns es) && (pureD x && true)) = true; rw [pl_rdG, hp]; rfl) (fur_no9 hx hp), rfl, ?_⟩
  trivial
  refine Kn.mk ne_ev9 ?_
  trivial
  exact ⟨rfl, rfl⟩
end
end L4
namespace L4
open PySem
section
variable {m : M} {ρ : Ss} {nc ns : Nat} {e : Ev} {es : List Ev} {x s : D}
local macro_rules | `(tactic| fail) => `(tactic| (first | ((with_reducible refine w_and_t ?_ ?_); exact rfl) | ((with_reducible refine w_and_f ?_ ?_); exact rfl) | ((with_reducible refine w_or_t ?_ ?_); exact rfl) | ((with_reducible refine w_or_f ?_ ?_); exact rfl) | ((with_reducible refine Kn.fdiv ?_ ?_); exact ⟨by decide, by decide⟩) | ((with_reducible refine Kn.mod ?_ ?_); decide) | ((with_reducible refine And.intro (a := (_ && _) = true) ?_ ?_); exact rfl) | ((with_reducible refine And.intro (a := List.length _ = List.length _) ?_ ?_); exact rfl; dsimp only [setMany, List.set_cons_succ, List.set_cons_zero]) | ((with_reducible refine ⟨wsz ?_, ?_⟩); first | decide | (show (_ : Nat) ≤ 1000; simp only [List.length_cons, List.length_nil]; decide)) | with_reducible refine ⟨_, rfl, ?_⟩))
local macro_rules | `(tactic| fail) => `(tactic| (first | ((with_reducible refine WG.nm ?_); dsimp only [setMany, List.set_cons_succ, List.set_cons_zero]) | ((with_reducible refine WG.one ?_); dsimp only [setMany, List.set_cons_succ, List.set_cons_zero]) | ((with_reducible refine WG.tup ?_ ?_); exact rfl; dsimp only [setMany, List.set_cons_succ, List.set_cons_zero]) | ((with_reducible apply WE.var); exact rfl) | ((with_reducible apply WE.upP); exact rfl) | ((with_reducible apply WE.upT); exact rfl) | ((with_reducible apply WE.upL); exact rfl) | ((with_reducible apply WE.upN); exact rfl) | ((with_reducible apply WS.aug); exact rfl) | ((with_reducible apply WE.newPL); exact rfl) | ((with_reducible refine WS.ite_t ?_ ?_); exact rfl) | ((with_reducible refine WS.ite_f ?_ ?_); exact rfl) | ((with_reducible refine WE.ite_t ?_ ?_); exact rfl) | ((with_reducible refine WE.ite_f ?_ ?_); exact rfl)))
local macro_rules | `(tactic| fail) => `(tactic| with_reducible (first | refine Kn.it_l ?_ | refine Kn.it_s ?_ | refine Kn.str_s ?_ | refine Kn.sl_t ?_ | refine Kn.sl_l ?_ | refine Fld.need ?_ | refine Fld.of ?_ | refine Fld.base ?_ | refine Fld.more ?_ | refine Fld.most ?_ | refine Fld.calm ?_ | refine Fld.back ?_ | refine Fld.top ?_ | refine Fld.under ?_ | refine Fld.up ?_ | refine Fld.hears ?_ | refine Fld.cap ?_ | refine Mth.time ?_))
local macro_rules | `(tactic| fail) => `(tactic| with_reducible (first | refine WE.tupL ?_ | refine WE.dicP ?_ | refine WP.nil ?_ | refine WP.cons ?_ | refine WE.upd ?_ | refine WA.nil ?_ | refine WA.cons ?_ | refine WA.star ?_ | refine WO.no ?_ | refine WO.yes ?_ | refine WT.val ?_ | refine WT.and ?_ | refine WT.or ?_ | refine WT.not ?_ | refine WT.tt ?_ | refine WI.it ?_ | refine Kn.add_i ?_ | refine Kn.sub ?_ | refine Kn.neg ?_ | refine Kn.eq_i ?_ | refine Kn.ne_i ?_ | refine Kn.lt ?_ | refine Kn.le ?_ | refine Kn.gt ?_ | refine Kn.ge ?_ | refine Kn.int_i ?_ | refine Kn.int_b ?_ | refine Kn.abs ?_ | refine Kn.min2 ?_ | refine Kn.max2 ?_ | refine Kn.len_t ?_ | refine Kn.len_l ?_ | refine Kn.len_s ?_ | refine Kn.tup_t ?_ | refine Kn.tup_l ?_ | refine Kn.lis_t ?_ | refine Kn.lis_l ?_ | refine Kn.seq_t ?_ | refine Kn.seq_l ?_ | refine Kn.it_t ?_))
local macro_rules | `(tactic| fail) => `(tactic| with_reducible (first | refine WS.seq ?_ | refine WS.nx ?_ | refine WS.rt ?_ | refine WS.asg ?_ | refine WS.drop ?_ | refine WS.ret ?_ | refine WS.nop ?_ | refine WS.retN ?_ | refine WS.brk ?_ | refine WS.cont ?_ | refine WS.sif ?_ | refine WS.par ?_ | refine WG.setA ?_ | refine WE.c ?_ | refine WE.op ?_ | refine WE.call ?_ | refine WE.callM ?_ | refine WE.un ?_ | refine WE.tup ?_ | refine WE.lst ?_ | refine WE.newL ?_ | refine WE.eif ?_ | refine WE.sl ?_ | refine WE.isN ?_ | refine WE.notN ?_ | refine WE.not ?_ | refine WE.and ?_ | refine WE.or ?_ | refine WE.app ?_ | refine WE.tupR ?_ | refine WE.lisR ?_ | refine WE.m1 ?_ | refine WE.tbl ?_ | refine WE.tblNin ?_ | refine WE.chain ?_ | refine WE.fldF ?_ | refine WE.mth ?_ | refine WE.disp ?_ | refine WE.dicC ?_ | refine WE.tupA ?_))
local macro_rules | `(tactic| trivial) => `(tactic| (repeat fail))
/-- a thing put in that tells no event -/
theorem bad9 (R : R9 nc ns es) (h : AY m) (hx : Vv nc ns (x, .non, true)) (x2 x4 x5 x7 x8 x10 x12 : Option D) : WS f_law_7 (st9 s x2 (some x) x4 x5 nc x7 x8 ns x10 es x12) m fun rr m' => AY m' ∧ m'.length = m.length ∧ (∀ j, 2 ≤ j → m'[j]? = m[j]?) ∧ ∃ y4 y5 y8, rr = .nx (st9 s x2 (some x) y4 y5 nc x7 y8 ns x10 es x12) := by
  obtain ⟨h1, h2, hin, hl⟩ := R
  have hel : (tsE es).length = es.length := List.length_map ..
  unfold f_law_7
  trivial
  rw [hel]
  refine draw_y h (by omega) (by omega) fun k m1 k0 k1 a1 l1 o1 => ?_
  obtain ⟨k, rfl⟩ := Int.eq_ofNat_of_zero_le k0
  have hk : k ≤ es.length := by omega
  trivial
  unfold f_law_6
  trivial
  rw [cut_takeD11]
  refine Kn.add_l rfl rfl (by rw [sizeLine_eq]; simp only [List.length_take, List.length_cons, List.length_nil]; omega) ?_
  trivial
  rw [cut_drop9]
  refine Kn.add_l rfl rfl (by rw [sizeLine_eq]; simp only [List.length_append, List.length_take, List.length_drop, List.length_cons, List.length_nil]; omega) ?_
  trivial
  refine Kn.add_l rfl rfl (by rw [sizeLine_eq]; simp only [List.length_append, List.length_take, List.length_drop, List.length_cons, List.length_nil]; omega) ?_
  trivial
  rw [← bent_fst (es := es) (x := x) k]
  have hv := bent_vv (k := k) hin (show nc ≤ 100 by omega) (show ns ≤ 100 by omega) hx
  have hi := bent_idx (x := x) hk
  have hbl := bent_len (x := x) hk
  have hp := vv_pure hv
  have hpl : pureD (D.lst ((bent9 es x k).map fun t => t.1)) = true := hp
  unfold f_law_5
  trivial
  refine WE.te9 (k := k) rfl (WX.call ?_)
  trivial
  refine ⟨_, (if_pos (p3x hpl)).trans (new_bad9 h1.1 h2.1 (by omega) hv hi), rfl, ?_⟩
  trivial
  rw [beq_self_eq_true]
  trivial
  unfold f_law_4
  trivial
  refine draw_y a1 (by omega) (by omega) fun p m2 p0 p1 a2 l2 o2 => ?_
  obtain ⟨p, rfl⟩ := Int.eq_ofNat_of_zero_le p0
  have hpk : p ≤ k := by omega
  trivial
  unfold f_law_3
  trivial
  refine WE.te9 (k := k) rfl (WX.mth9 ?_)
  trivial
  rw [cut_takeD11, ← List.map_take, bent_take hk hpk]
  trivial
  refine Kn.pure (road_pureG _) (road_new (.inl rfl) h1.1 h2.1 (fun e he => hin e (List.mem_of_mem_take he)) (by omega) (by omega) (by simp; omega)) ?_
  refine ⟨_, _, rd_insG, rd_n9, ?_⟩
  trivial
  rw [cut_drop9, ← List.map_drop]
  trivial
  have hvd : (bent9 es x k).take p ++ (bent9 es x k).drop p = bent9 es x k := List.take_append_drop ..
  have hpd : pureL (((bent9 es x k).drop p).map fun t => t.1) = true := vv_pure fun t ht => hv t (List.mem_of_mem_drop ht)
  refine ⟨_, callPX_p (by show (pureD (rdE nc ns (es.take p)) && (pureL (((bent9 es x k).drop p).map fun t => t.1) && true)) = true; rw [pl_rdG, hpd]; rfl) (fur_bad9 (es := es.take p) (vs := (bent9 es x k).take p) (ws := (bent9 es x k).drop p) (k := k) h1.1 h2.1 (by rw [hvd]; omega) (by rw [hvd]; exact hv) (by rw [hvd]; exact hi) (bent_take hk hpk)), rfl, ?_⟩
  trivial
  rw [beq_self_eq_true]
  trivial
  exact ⟨a2, by omega, fun j hj => (o2 j hj).trans (o1 j hj), _, _, _, rfl⟩
end
end L4
namespace L4
open PySem
section
variable {m : M} {ρ : Ss} {nc ns : Nat} {e : Ev} {es : List Ev} {x s : D}
def I09 (s : D) (m : M) (ρ : Ss) : Prop := AY m ∧ ∃ x2 x3 x4 x5 x6 x7 x8 x9 x10 x11 x12, ρ = [some s, some (.ref 1), x2, x3, x4, x5, x6, x7, x8, x9, x10, x11, x12, some (.tab LQ9)]
theorem ev_list9 {acc : List D} (h : ∃ es : List Ev, acc = tsE es ∧ ∀ e ∈ es, e.In nc ns) (he : e.In nc ns) : ∃ es : List Ev, acc ++ [.str e.t] = tsE es ∧ ∀ e ∈ es, e.In nc ns := by
  obtain ⟨es, rfl, h⟩ := h
  refine ⟨es ++ [e], by simp [tsE], fun x hx => ?_⟩
  rcases List.mem_append.mp hx with hx | hx
  · exact h x hx
  · rw [List.mem_singleton.mp hx]; exact he
local macro_rules | `(tactic| fail) => `(tactic| (first | ((with_reducible refine w_and_t ?_ ?_); exact rfl) | ((with_reducible refine w_and_f ?_ ?_); exact rfl) | ((with_reducible refine w_or_t ?_ ?_); exact rfl) | ((with_reducible refine w_or_f ?_ ?_); exact rfl) | ((with_reducible refine Kn.fdiv ?_ ?_); exact ⟨by decide, by decide⟩) | ((with_reducible refine Kn.mod ?_ ?_); decide) | ((with_reducible refine And.intro (a := (_ && _) = true) ?_ ?_); exact rfl) | ((with_reducible refine And.intro (a := List.length _ = List.length _) ?_ ?_); exact rfl; dsimp only [setMany, List.set_cons_succ, List.set_cons_zero]) | ((with_reducible refine ⟨wsz ?_, ?_⟩); first | decide | (show (_ : Nat) ≤ 1000; simp only [List.length_cons, List.length_nil]; decide)) | with_reducible refine ⟨_, rfl, ?_⟩))
local macro_rules | `(tactic| fail) => `(tactic| (first | ((with_reducible refine WG.nm ?_); dsimp only [setMany, List.set_cons_succ, List.set_cons_zero]) | ((with_reducible refine WG.one ?_); dsimp only [setMany, List.set_cons_succ, List.set_cons_zero]) | ((with_reducible refine WG.tup ?_ ?_); exact rfl; dsimp only [setMany, List.set_cons_succ, List.set_cons_zero]) | ((with_reducible apply WE.var); exact rfl) | ((with_reducible apply WE.upP); exact rfl) | ((with_reducible apply WE.upT); exact rfl) | ((with_reducible apply WE.upL); exact rfl) | ((with_reducible apply WE.upN); exact rfl) | ((with_reducible apply WS.aug); exact rfl) | ((with_reducible apply WE.newPL); exact rfl) | ((with_reducible refine WS.ite_t ?_ ?_); exact rfl) | ((with_reducible refine WS.ite_f ?_ ?_); exact rfl) | ((with_reducible refine WE.ite_t ?_ ?_); exact rfl) | ((with_reducible refine WE.ite_f ?_ ?_); exact rfl)))
local macro_rules | `(tactic| fail) => `(tactic| with_reducible (first | refine Kn.it_l ?_ | refine Kn.it_s ?_ | refine Kn.str_s ?_ | refine Kn.sl_t ?_ | refine Kn.sl_l ?_ | refine Fld.need ?_ | refine Fld.of ?_ | refine Fld.base ?_ | refine Fld.more ?_ | refine Fld.most ?_ | refine Fld.calm ?_ | refine Fld.back ?_ | refine Fld.top ?_ | refine Fld.under ?_ | refine Fld.up ?_ | refine Fld.hears ?_ | refine Fld.cap ?_ | refine Mth.time ?_))
local macro_rules | `(tactic| fail) => `(tactic| with_reducible (first | refine WE.tupL ?_ | refine WE.dicP ?_ | refine WP.nil ?_ | refine WP.cons ?_ | refine WE.upd ?_ | refine WA.nil ?_ | refine WA.cons ?_ | refine WA.star ?_ | refine WO.no ?_ | refine WO.yes ?_ | refine WT.val ?_ | refine WT.and ?_ | refine WT.or ?_ | refine WT.not ?_ | refine WT.tt ?_ | refine WI.it ?_ | refine Kn.add_i ?_ | refine Kn.sub ?_ | refine Kn.neg ?_ | refine Kn.eq_i ?_ | refine Kn.ne_i ?_ | refine Kn.lt ?_ | refine Kn.le ?_ | refine Kn.gt ?_ | refine Kn.ge ?_ | refine Kn.int_i ?_ | refine Kn.int_b ?_ | refine Kn.abs ?_ | refine Kn.min2 ?_ | refine Kn.max2 ?_ | refine Kn.len_t ?_ | refine Kn.len_l ?_ | refine Kn.len_s ?_ | refine Kn.tup_t ?_ | refine Kn.tup_l ?_ | refine Kn.lis_t ?_ | refine Kn.lis_l ?_ | refine Kn.seq_t ?_ | refine Kn.seq_l ?_ | refine Kn.it_t ?_))
local macro_rules | `(tactic| fail) => `(tactic| with_reducible (first | refine WS.seq ?_ | refine WS.nx ?_ | refine WS.rt ?_ | refine WS.asg ?_ | refine WS.drop ?_ | refine WS.ret ?_ | refine WS.nop ?_ | refine WS.retN ?_ | refine WS.brk ?_ | refine WS.cont ?_ | refine WS.sif ?_ | refine WS.par ?_ | refine WG.setA ?_ | refine WE.c ?_ | refine WE.op ?_ | refine WE.call ?_ | refine WE.callM ?_ | refine WE.un ?_ | refine WE.tup ?_ | refine WE.lst ?_ | refine WE.newL ?_ | refine WE.eif ?_ | refine WE.sl ?_ | refine WE.isN ?_ | refine WE.notN ?_ | refine WE.not ?_ | refine WE.and ?_ | refine WE.or ?_ | refine WE.app ?_ | refine WE.tupR ?_ | refine WE.lisR ?_ | refine WE.m1 ?_ | refine WE.tbl ?_ | refine WE.tblNin ?_ | refine WE.chain ?_ | refine WE.fldF ?_ | refine WE.mth ?_ | refine WE.disp ?_ | refine WE.dicC ?_ | refine WE.tupA ?_))
local macro_rules | `(tactic| trivial) => `(tactic| (repeat fail))
theorem bads9 (R : R9 nc ns es) (h : AY m) (x2 x3 x4 x5 x7 x8 x10 x12 : Option D) : WS f_law_8 (st9 s x2 x3 x4 x5 nc x7 x8 ns x10 es x12) m fun rr m' => ∃ ρ, rr = .nx ρ ∧ I09 s m' ρ := by
  obtain ⟨bs, hb, hbl, hbo⟩ := bad_of9 R.h1 R.h2
  unfold f_law_8
  refine WS.forAX (fun i ρ m' => AY m' ∧ ∃ y3 y4 y5 y8, ρ = st9 s x2 y3 y4 y5 nc x7 y8 ns x10 es x12) ?_
  trivial
  refine Kn.call rfl hb ?_
  trivial
  have hg : ∀ z ∈ bs, GoodG (fun d : D => d) (fun d => (pd d).getD .none) z := fun z hz => okD_gd (hbo z hz)
  rw [show bs = bs.map (fun d : D => d) by simp]
  refine mixed_g hg h (by omega) fun ys m1 hp a1 l1 k1 _ _ => ?_
  rw [List.map_id'] at k1
  trivial
  refine Kn.sl_r k1 ?_
  rw [show cutD ys none (some 9) = ys.take 9 from cut_takeD11 (k := 9)]
  trivial
  refine value_y 10 7 (by decide) (by decide) a1 fun v m2 hv a2 l2 o2 => ?_
  trivial
  have hl : ys.length ≤ 30 := by rw [hp.length_eq]; exact hbl
  refine Kn.add_l rfl rfl (by rw [sizeLine_eq]; simp only [List.length_take, List.length_cons, List.length_nil]; omega) ?_
  refine ⟨_, .inl rfl, ⟨a2, _, _, _, _, rfl⟩, ?_, ?_⟩
  · rintro i x ρ m3 hi ⟨a3, y3, y4, y5, y8, rfl⟩
    have hx : Vv nc ns (x, .non, true) := by
      rcases List.mem_append.mp (List.mem_of_getElem? hi) with hx | hx
      · exact okD_vv (hbo x (hp.mem_iff.mp (List.mem_of_mem_take hx)))
      · rw [List.mem_singleton.mp hx]
        exact .bad evof_l9 (by show (pureD v && true) = true; rw [hv.pure]; rfl)
    refine WG.one ?_
    dsimp only [setMany, List.set_cons_succ, List.set_cons_zero]
    refine WS.mono (bad9 R a3 hx _ _ _ _ _ _ _) ?_
    rintro _ m4 ⟨a4, l4, o4, z4, z5, z8, rfl⟩
    exact .inl ⟨_, .inl rfl, a4, _, _, _, _, rfl⟩
  · rintro ρ m3 ⟨a3, y3, y4, y5, y8, rfl⟩
    exact ⟨_, rfl, a3, _, _, _, _, _, _, _, _, _, _, _, rfl⟩
theorem odds9 (R : R9 nc ns es) (h : AY m) (x2 x3 x4 x5 x7 x8 x10 x12 : Option D) : WS f_law_12 (st9 s x2 x3 x4 x5 nc x7 x8 ns x10 es x12) m fun rr m' => ∃ ρ, rr = .nx ρ ∧ I09 s m' ρ := by
  unfold f_law_12
  trivial
  refine value_y 10 2 (by decide) (by decide) h fun v m1 hv a1 l1 o1 => ?_
  trivial
  refine pick_y a1 (by show 1 ≤ 7; decide) (by show 7 < 1000; decide) fun o m2 ho a2 l2 o2 => ?_
  obtain ⟨hf, hp⟩ := odd9 hv.pure ho
  trivial
  unfold f_law_11
  trivial
  refine WE.tr9 (w := "callers") rfl (WX.call ?_)
  trivial
  refine ⟨_, (if_pos (show pureL [o, o, .non] = true from by show (pureD o && (pureD o && true)) = true; rw [hp]; rfl)).trans (new_c9 hf hp), rfl, ?_⟩
  trivial
  refine Kn.mk ne_ca9 ?_
  trivial
  unfold f_law_10
  trivial
  refine WE.tr9 (w := "servers") rfl (WX.call ?_)
  trivial
  refine ⟨_, (if_pos (show pureL [.int (nc : Nat), o, .int 3] = true from by show (pureD o && true) = true; rw [hp]; rfl)).trans (new_s9 R.h1.1 hf hp), rfl, ?_⟩
  trivial
  refine Kn.mk ne_se9 ?_
  trivial
  unfold f_law_9
  refine WS.seq (WS.forI (fun i ρ m' => m' = m2 ∧ ∃ y10, ρ = st9 s x2 x3 x4 x5 nc (some o) x8 ns y10 es x12) ?_)
  trivial
  refine Kn.mk road11_9 ?_
  trivial
  refine ⟨⟨rfl, _, rfl⟩, ?_, ?_⟩
  · rintro i x ρ m3 hi ⟨rfl, y10, rfl⟩
    obtain ⟨hs, hp⟩ := seqno9 (List.mem_of_getElem? hi)
    refine WG.one ?_
    dsimp only [setMany, List.set_cons_succ, List.set_cons_zero]
    refine WS.mono (thing9 R hs hp _ _ _ _ _ _ _) ?_
    rintro _ m4 ⟨rfl, rfl⟩
    exact ⟨_, .inl rfl, rfl, _, rfl⟩
  · rintro ρ m3 ⟨rfl, y10, rfl⟩
    refine WS.nx ?_
    exact bads9 R a2 _ _ _ _ _ _ _ _
theorem turn9 (h : AY m) (x2 x3 x4 x5 x6 x7 x8 x9 x10 x11 x12 : Option D) : WS f_law_15 [some s, some (.ref 1), x2, x3, x4, x5, x6, x7, x8, x9, x10, x11, x12, some (.tab LQ9)] m fun rr m' => ∃ ρ, rr = .nx ρ ∧ I09 s m' ρ := by
  unfold f_law_15
  trivial
  refine draw_y h (by decide) (by decide) fun c m1 c0 c1 a1 l1 o1 => ?_
  trivial
  refine draw_y a1 (by decide) (by decide) fun d m2 d0 d1 a2 l2 o2 => ?_
  trivial
  obtain ⟨c, rfl⟩ := Int.eq_ofNat_of_zero_le c0
  obtain ⟨d, rfl⟩ := Int.eq_ofNat_of_zero_le d0
  rw [show (1 : Int) + ((c : Nat) : Int) = ((1 + c : Nat) : Int) by omega, show (1 : Int) + ((d : Nat) : Int) = ((1 + d : Nat) : Int) by omega]
  have h1 : 1 ≤ 1 + c ∧ 1 + c ≤ 4 := by omega
  have h2 : 1 ≤ 1 + d ∧ 1 + d ≤ 12 := by omega
  generalize 1 + c = nc at h1 ⊢
  generalize 1 + d = ns at h2 ⊢
  trivial
  unfold f_law_14
  refine WS.seq (WS.asg ?_)
  refine WE.lcI (fun m2 acc => AY m2 ∧ ∃ es : List Ev, acc = tsE es ∧ ∀ e ∈ es, e.In nc ns) ?_
  refine WI.r1 ?_
  trivial
  refine draw_y a2 (by decide) (by decide) fun k m3 k0 k1 a3 l3 o3 => ?_
  trivial
  have hlen : (rngD 0 k.toNat).length = k.toNat := by unfold rngD; rw [List.length_map, List.length_range]
  refine ⟨by omega, by omega, ⟨a3, [], rfl, fun e h => nomatch h⟩, ?_, ?_⟩
  · rintro i x m4 acc hx rfl ⟨a4, hac⟩
    refine ⟨[x], rfl, ?_⟩
    trivial
    refine good9 a4 (by omega) (by omega) fun e m5 he a5 l5 o5 => ⟨a5, ev_list9 hac he⟩
  · rintro m4 acc hl ⟨a4, es, rfl, hin⟩
    have R : R9 nc ns es := ⟨h1, h2, hin, by
      have : (tsE es).length = es.length := List.length_map ..
      omega⟩
    refine WG.nm ?_
    dsimp only [List.set_cons_succ, List.set_cons_zero]
    refine WS.nx ?_
    unfold f_law_13
    trivial
    refine WE.tok9 rfl (WX.call ?_)
    trivial
    refine ⟨_, (if_pos (road_pureG es)).trans (new_ok9 (.inl rfl) h1.1 h2.1 hin (by omega) (by omega) (by have := R.l; omega)), ⟨_, rfl⟩, ?_⟩
    trivial
    exact odds9 R a4 _ _ _ _ _ _ _ _
theorem last9 : newPX "Road" FX_Road___init__ [.int 4, .int 12, .lst [.str "told 3 2 11", .str "turn 3 11 fault"]] = some (.ok (rdE 4 12 [.told 3 2 11, .turn 3 11 true])) :=
  new_ok9 (nc := 4) (ns := 12) (es := [.told 3 2 11, .turn 3 11 true]) (.inl (by kernel_rfl)) (by decide) (by decide) (fun e he => by
    simp only [List.mem_cons, List.not_mem_nil, or_false] at he
    rcases he with rfl | rfl
    · exact ⟨by decide, by decide, by decide, by decide⟩
    · exact ⟨by decide, by decide⟩) (by decide) (by decide) (by decide)
theorem law_plain : ∀ ns : List Int, ns.length ≤ 63 → F_law [.scr (ns.map D.int)] = some (.bl true) := by
  intro ns hn
  refine WS.runG (n := 14) (b := f_law) ?_ rfl
  show WS _ [some (.scr (ns.map D.int)), none, none, none, none, none, none, none, none, none, none, none, none, some (.tab LQ9)] [] _
  unfold f_law
  trivial
  refine deal_a ns hn _ fun m h => ?_
  have ay := h.ay.1
  trivial
  unfold f_law_17
  refine WS.seq ?_
  refine WS.forI (fun i ρ m' => I09 (.scr (ns.map D.int)) m' ρ) ?_
  refine WI.r1 ?_
  trivial
  refine ⟨by omega, ⟨ay, _, _, _, _, _, _, _, _, _, _, _, rfl⟩, ?_, ?_⟩
  · rintro i x ρ m1 hi ⟨h, x2, x3, x4, x5, x6, x7, x8, x9, x10, x11, x12, rfl⟩
    refine WG.one ?_
    dsimp only [setMany, List.set_cons_succ, List.set_cons_zero]
    refine WS.mono (turn9 h _ _ _ _ _ _ _ _ _ _ _) ?_
    rintro _ m3 ⟨ρ, rfl, h1⟩
    exact ⟨ρ, .inl rfl, h1⟩
  · rintro ρ m1 ⟨h, x2, x3, x4, x5, x6, x7, x8, x9, x10, x11, x12, rfl⟩
    unfold f_law_16
    trivial
    refine WE.tok9 rfl (WX.call ?_)
    trivial
    refine ⟨_, (if_pos (by rfl)).trans last9, ⟨_, rfl⟩, ?_⟩
    trivial
    exact frz_pW rfl
end
end L4
namespace L4
open PySem L2 TL
open L3 (Df Md Ki Cmd)
structure Tx (w : World) (K : PySem.W.Frag) (mg : Str → Option Value) : Prop where
  b_abs : mg "abs" = none
  b_all : mg "all" = none
  b_bool : mg "bool" = none
  b_int : mg "int" = none
  b_isinstance : mg "isinstance" = none
  b_len : mg "len" = none
  b_list : mg "list" = none
  b_range : mg "range" = none
  b_str : mg "str" = none
  b_tuple : mg "tuple" = none
  c_Road : Cls K (He.ga K "Road")
  n_Road_callers : NoAttr K (He.ga K "Road") "callers"
  n_Road_events : NoAttr K (He.ga K "Road") "events"
  n_Road_servers : NoAttr K (He.ga K "Road") "servers"
  n_Road_told_events : NoAttr K (He.ga K "Road") "told_events"
  ic_Road : C8.InsC K (He.ga K "Road")
  ita_Road : itaB K "Road" = true
  g_InvalidEvent : mg "InvalidEvent" = some (.ref (He.ga K "InvalidEvent"))
  g_InvalidRoad : mg "InvalidRoad" = some (.ref (He.ga K "InvalidRoad"))
  g_InvalidText : mg "InvalidText" = some (.ref (He.ga K "InvalidText"))
  g_SitError : mg "SitError" = some (.ref (He.ga K "SitError"))
  g_law : mg "law" = some (.ref (He.ga K "law"))
  g_ANSWERS : mg "ANSWERS" = some (.ref (He.ga K "ANSWERS"))
  t_ANSWERS : ∀ H, SqT K H (He.ga K "ANSWERS") [.str "ok", .str "fault"]
  g_DIGITS : ∃ t, mg "DIGITS" = some (.str "0123456789" t)
  oib_InvalidEvent : oiB K "InvalidEvent" "at" "at" "/claim/cut.py" = true
  xc_InvalidEvent : XcC K (He.ga K "InvalidEvent")
  oib_InvalidRoad : oiB K "InvalidRoad" "word" "word" "/claim/cut.py" = true
  xc_InvalidRoad : XcC K (He.ga K "InvalidRoad")
  xf_InvalidEvent_at : PySem.W.findIn K (.ref (He.ga K "InvalidEvent")) "at" = some none
  xf_InvalidRoad_word : PySem.W.findIn K (.ref (He.ga K "InvalidRoad")) "word" = some none
  xi_InvalidEvent_InvalidText : PySem.W.kitOne K (.ref (He.ga K "InvalidEvent")) (.ref (He.ga K "InvalidText")) = some false
  xi_InvalidEvent_SitError : PySem.W.kitOne K (.ref (He.ga K "InvalidEvent")) (.ref (He.ga K "SitError")) = some true
  xi_InvalidRoad_InvalidEvent : PySem.W.kitOne K (.ref (He.ga K "InvalidRoad")) (.ref (He.ga K "InvalidEvent")) = some false
  xi_InvalidRoad_SitError : PySem.W.kitOne K (.ref (He.ga K "InvalidRoad")) (.ref (He.ga K "SitError")) = some true
  xm_InvalidEvent_InvalidEvent : PySem.W.exmOne K (.ref (He.ga K "InvalidEvent")) (.ref (He.ga K "InvalidEvent")) = some true
  xm_InvalidEvent_InvalidRoad : PySem.W.exmOne K (.ref (He.ga K "InvalidEvent")) (.ref (He.ga K "InvalidRoad")) = some false
  xm_InvalidRoad_InvalidRoad : PySem.W.exmOne K (.ref (He.ga K "InvalidRoad")) (.ref (He.ga K "InvalidRoad")) = some true
  d__law_deal : Df K mg "_law_deal" s__law_deal
  d__law_draw : Df K mg "_law_draw" s__law_draw
  d__law_pick : Df K mg "_law_pick" s__law_pick
  d__law_good : Df K mg "_law_good" s__law_good
  d__law_told : Df K mg "_law_told" s__law_told
  d_is_integer : Df K mg "is_integer" s_is_integer
  d_is_from : Df K mg "is_from" s_is_from
  d_is_sequence : Df K mg "is_sequence" s_is_sequence
  d_number_in : Df K mg "number_in" s_number_in
  d_event_in : Df K mg "event_in" s_event_in
  d_event_of : Df K mg "event_of" s_event_of
  d_events_of : Df K mg "events_of" s_events_of
  k_Road : L4.KiD K mg "Road" (He.ga K "Road") "Road.__init__" s_Road___init__
  d__law_value : Df K mg "_law_value" s__law_value
  d_Road_further : Md K (He.ga K "Road") "further" "Road.further" s_Road_further
  d__law_mixed : Df K mg "_law_mixed" s__law_mixed
  d__law_bad : Df K mg "_law_bad" s__law_bad
  d_law : Df K mg "law" s_law
abbrev P : Program := (PySem.Challenge.rw_sitout_k09_roads_refused).prog
theorem psup : PSup P "/claim/cut.py" := ⟨by kernel_rfl, by kernel_rfl⟩
section
variable {w : World} {K : PySem.W.Frag} {mg : Str → Option Value} {base : Heap}
theorem Tx.oi_InvalidEvent (T : Tx w K mg) : OiC P K "InvalidEvent" "at" := oiC_ok psup bind_at T.oib_InvalidEvent
theorem Tx.oi_InvalidRoad (T : Tx w K mg) : OiC P K "InvalidRoad" "word" := oiC_ok psup bind_word T.oib_InvalidRoad
theorem Tx.F__law_deal (T : Tx w K mg) : MFn P w K mg base 1 "_law_deal" 2 F__law_deal :=
  mfn_df T.d__law_deal (k := 0) (b := f__law_deal) sc__law_deal (fun _ _ _ _ _ _ us hl => match us, hl with | [_, _], _ => rfl) fun f cdv A outer s H E gd =>
    dss_cons (ds_setLc (i := 3) rfl sc__law_deal.nd rfl rfl (sw_true rfl rfl rfl (by decide +kernel)) (di_any (de_sl (dv 0) (dp_yes (dv 1)) (dp_yes (de_int)))) (blkOk_by (own := [("_law_cell", 2)]) (N := ["_law_script", "_law_base", "_law_cell", "_law_cells", "_law_mixed_here", "_law_great"]) (sc := defScope s__law_deal) (by decide +kernel)) (fun _ _ _ _ _ => dgn_name (i := 2) sc__law_deal.nd rfl (Or.inl rfl)) (fun _ _ _ _ _ => dts_nil) (fun _ _ _ _ _ => de_callB call_abs' (by rfl) T.b_abs (by decide +kernel) (da_cons (dv 2) (da_nil))))
    (dss_cons (ds_set (i := 4) sc__law_deal.nd rfl (Or.inl rfl) (de_op op_add' (de_int) (dv 1)))
    (dss_cons (ds_forA big PassesOwn.never rfl (dv 3) (dg_of (dgn_name (i := 2) sc__law_deal.nd rfl (Or.inl rfl))) (dss_one (ds_set (i := 4) sc__law_deal.nd rfl (Or.inl rfl) (de_op op_mod' (de_callT call_int' (by rfl) T.b_int (by decide +kernel) (da_cons (de_op op_add' (de_op op_mul' (dv 4) (de_int)) (dv 2)) (da_nil))) (de_int)))))
    (dss_cons (ds_setLc (i := 5) rfl sc__law_deal.nd rfl rfl (sw_true rfl rfl rfl (by decide +kernel)) (di_any (dv 3)) (blkOk_by (own := [("_law_cell", 2)]) (N := ["_law_script", "_law_base", "_law_cell", "_law_cells", "_law_mixed_here", "_law_great"]) (sc := defScope s__law_deal) (by decide +kernel)) (fun _ _ _ _ _ => dgn_name (i := 2) sc__law_deal.nd rfl (Or.inl rfl)) (fun _ _ _ _ _ => dts_one (dt_cmp op_ge' (dv 2) (de_op op_pow' (de_int) (de_int)) (nomark _))) (fun _ _ _ _ _ => dv 2))
    (dss_one (ds_ret (de_disp (dps_cons (de_str) (de_rev (dv 5)) (dps_cons (de_str) (de_int) (dps_cons (de_str) (de_op op_add' (dv 4) (de_int)) (dps_cons (de_str) (de_int) (dps_nil)))))))))))
theorem Tx.F__law_draw (T : Tx w K mg) : MFn P w K mg base 1 "_law_draw" 2 F__law_draw :=
  mfn_df T.d__law_draw (k := 0) (b := f__law_draw) sc__law_draw (fun _ _ _ _ _ _ us hl => match us, hl with | [_, _], _ => rfl) fun f cdv A outer s H E gd =>
    dss_cons (ds_while big PassesOwn.never (dt_w (dw_and (dt_cmp (op_eq' gd) (de_ixA gd (dv 0) (de_str)) (de_int) (nomark _)) (dw_and1 (dt_cmp op_gt' (de_callB call_len' (by rfl) T.b_len (by decide +kernel) (da_cons (de_ixA gd (dv 0) (de_str)) (da_nil))) (de_int) (nomark _))))) (dss_one (ds_asg (de_pop (de_ixA gd (dv 0) (de_str))) (dg_subA gd (dv 0) (de_str)))))
    (dss_cons (ds_if (dt_cmp op_gt' (de_ixA gd (dv 0) (de_str)) (de_int) (nomark _)) (dss_cons (ds_set (i := 2) sc__law_draw.nd rfl (Or.inl rfl) (de_op op_mod' (de_callT call_int' (by rfl) T.b_int (by decide +kernel) (da_cons (de_ixA gd (dv 0) (de_str)) (da_nil))) (dv 1)))
    (dss_cons (ds_asg (de_op op_fdiv' (de_ixA gd (dv 0) (de_str)) (dv 1)) (dg_subA gd (dv 0) (de_str)))
    (dss_one (ds_ret (dv 2))))) (dss_nil))
    (dss_cons (ds_asg (de_op op_add' (de_ixA gd (dv 0) (de_str)) (de_int)) (dg_subA gd (dv 0) (de_str)))
    (dss_cons (ds_set (i := 3) sc__law_draw.nd rfl (Or.inl rfl) (de_op op_mod' (de_callT call_int' (by rfl) T.b_int (by decide +kernel) (da_cons (de_op op_add' (de_op op_mul' (de_ixA gd (dv 0) (de_str)) (de_int)) (de_op op_mul' (de_ixA gd (dv 0) (de_str)) (de_int))) (da_nil))) (de_int)))
    (dss_cons (ds_set (i := 4) sc__law_draw.nd rfl (Or.inl rfl) (de_op op_mod' (de_callT call_int' (by rfl) T.b_int (by decide +kernel) (da_cons (de_op op_add' (de_op op_mul' (dv 3) (dv 3)) (de_op op_mul' (de_ixA gd (dv 0) (de_str)) (de_int))) (da_nil))) (de_int)))
    (dss_cons (ds_asg (de_op op_add' (de_op op_mod' (de_callT call_int' (by rfl) T.b_int (by decide +kernel) (da_cons (de_op op_add' (de_op op_mul' (dv 4) (de_int)) (dv 3)) (da_nil))) (de_int)) (de_int)) (dg_subA gd (dv 0) (de_str)))
    (dss_one (ds_ret (de_op op_mod' (de_callT call_int' (by rfl) T.b_int (by decide +kernel) (da_cons (de_op op_add' (de_op op_fdiv' (dv 4) (de_int)) (dv 3)) (da_nil))) (dv 1)))))))))
theorem Tx.F__law_pick (T : Tx w K mg) : MFn P w K mg base 2 "_law_pick" 2 F__law_pick :=
  mfn_df T.d__law_pick (k := 1) (b := f__law_pick) sc__law_pick (fun _ _ _ _ _ _ us hl => match us, hl with | [_, _], _ => rfl) fun f cdv A outer s H E gd =>
    dss_one (ds_ret (de_ixA gd (dv 1) (de_mfn T.F__law_draw (gd.mono (by decide)) (by rfl) (da_cons (dv 0) (da_cons (de_callB call_len' (by rfl) T.b_len (by decide +kernel) (da_cons (dv 1) (da_nil))) (da_nil))))))
theorem Tx.F__law_good (T : Tx w K mg) : MFn P w K mg base 3 "_law_good" 3 F__law_good :=
  mfn_df T.d__law_good (k := 2) (b := f__law_good) sc__law_good (fun _ _ _ _ _ _ us hl => match us, hl with | [_, _, _], _ => rfl) fun f cdv A outer s H E gd =>
    dss_cons (ds_par (by rfl) sc__law_good.nd (i := 3) (j := 4) rfl rfl (by decide) rfl rfl (da_cons (de_mfn T.F__law_draw (gd.mono (by decide)) (by rfl) (da_cons (dv 0) (da_cons (dv 1) (da_nil)))) (da_cons (de_mfn T.F__law_draw (gd.mono (by decide)) (by rfl) (da_cons (dv 0) (da_cons (dv 2) (da_nil)))) (da_nil))) (by rfl))
    (dss_one (ds_ret (de_op op_add' (de_op op_add' (de_op op_add' (de_op op_add' (de_op op_add' (de_str) (de_callT call_strT' (by rfl) T.b_str (by decide +kernel) (da_cons (dv 3) (da_nil)))) (de_str)) (de_callT call_strT' (by rfl) T.b_str (by decide +kernel) (da_cons (dv 4) (da_nil)))) (de_str)) (de_mfn T.F__law_pick (gd.mono (by decide)) (by rfl) (da_cons (dv 0) (da_cons (de_lst (da_cons (de_str) (da_cons (de_str) (da_nil)))) (da_nil)))))))
theorem Tx.td__law_told (T : Tx w K mg) : Td P w K mg base 14 "_law_told" 3 h__law_told f__law_told_r := by
  obtain ⟨f, fd, F, g⟩ := T.d__law_told.ex
  refine ⟨f, fd, s__law_told, ["_law_work", "_law_found", "e"], "_law_work", "_law_found", _, _, _, _, _, _, _, _, _, _, _, F, sc__law_told, g, F.kp, F.binds (fun _ _ _ _ _ _ us hl => match us, hl with | [_], _ => rfl), rfl, sc__law_told.nd, rfl, rfl, (by first | exact .inl rfl | exact .inr (.inl rfl) | exact .inr (.inr rfl)), Or.inl rfl, by decide, by decide, rfl, fun cdv A outer s H gd => ⟨?_, ?_⟩⟩
  · exact .named (by rfl) T.g_InvalidRoad (by decide) (xmN_cons T.xm_InvalidEvent_InvalidRoad (xmN_cons T.xm_InvalidRoad_InvalidRoad (xmN_nil))) rfl rfl (hs_set (j := 1) sc__law_told.nd rfl (Or.inl rfl) (he_if (ht_w (hw_and (ht_val (he_isi (i := 2) (xiN_cons T.xc_InvalidRoad T.xi_InvalidRoad_SitError (xiN_nil)) (by rfl) T.b_isinstance rfl (by first | exact .inl rfl | exact .inr (.inl rfl) | exact .inr (.inr rfl)) (by rfl) T.g_SitError)) (hw_and1 (ht_not (ht_val (he_isi (i := 2) (xiN_cons T.xc_InvalidRoad T.xi_InvalidRoad_InvalidEvent (xiN_nil)) (by rfl) T.b_isinstance rfl (by first | exact .inl rfl | exact .inr (.inl rfl) | exact .inr (.inr rfl)) (by rfl) T.g_InvalidEvent)))))) (he_fld (i := 2) (xfN_cons T.xc_InvalidRoad T.xf_InvalidRoad_word (xfN_nil)) rfl (by first | exact .inl rfl | exact .inr (.inl rfl) | exact .inr (.inr rfl))) (he_of (fun _ _ => de_str)))) (.named (by rfl) T.g_InvalidEvent (by decide) (xmN_cons T.xm_InvalidEvent_InvalidEvent (xmN_nil)) rfl rfl (hs_set (j := 1) sc__law_told.nd rfl (Or.inl rfl) (he_if (ht_w (hw_and (ht_val (he_isi (i := 2) (xiN_cons T.xc_InvalidEvent T.xi_InvalidEvent_SitError (xiN_nil)) (by rfl) T.b_isinstance rfl (by first | exact .inl rfl | exact .inr (.inl rfl) | exact .inr (.inr rfl)) (by rfl) T.g_SitError)) (hw_and1 (ht_not (ht_val (he_isi (i := 2) (xiN_cons T.xc_InvalidEvent T.xi_InvalidEvent_InvalidText (xiN_nil)) (by rfl) T.b_isinstance rfl (by first | exact .inl rfl | exact .inr (.inl rfl) | exact .inr (.inr rfl)) (by rfl) T.g_InvalidText)))))) (he_fld (i := 2) (xfN_cons T.xc_InvalidEvent T.xf_InvalidEvent_at (xfN_nil)) rfl (by first | exact .inl rfl | exact .inr (.inl rfl) | exact .inr (.inr rfl))) (he_of (fun _ _ => de_str)))) (HdX.nil))
  · exact dss_one (ds_ret (dv 1))
theorem Tx.F_is_integer (T : Tx w K mg) : PFn P w K mg base 1 "is_integer" 1 F_is_integer :=
  pfn_df T.d_is_integer (k := 0) (b := f_is_integer) sc_is_integer (fun _ _ _ _ _ _ us hl => match us, hl with | [_], _ => rfl) fun f cdv A outer s H E gd =>
    dss_one (ds_ret (de_and (de_callB call_isi' (by rfl) T.b_isinstance (by decide +kernel) (da_cons (dv 0) (da_cons (de_ty (t := "int") (by rfl) T.b_int (by decide +kernel)) (da_nil)))) (de_one (de_not (de_callB call_isi' (by rfl) T.b_isinstance (by decide +kernel) (da_cons (dv 0) (da_cons (de_ty (t := "bool") (by rfl) T.b_bool (by decide +kernel)) (da_nil))))))))
theorem Tx.F_is_from (T : Tx w K mg) : PFn P w K mg base 2 "is_from" 2 F_is_from :=
  pfn_df T.d_is_from (k := 1) (b := f_is_from) sc_is_from (fun _ _ _ _ _ _ us hl => match us, hl with | [_, _], _ => rfl) fun f cdv A outer s H E gd =>
    dss_one (ds_ret (de_and (de_pfn T.F_is_integer (gd.mono (by decide)) (by rfl) (da_cons (dv 0) (da_nil))) (de_one (de_cmp op_ge' (dv 0) (dv 1) (nomark _)))))
theorem Tx.F_is_sequence (T : Tx w K mg) : PFn P w K mg base 1 "is_sequence" 1 F_is_sequence :=
  pfn_df T.d_is_sequence (k := 0) (b := f_is_sequence) sc_is_sequence (fun _ _ _ _ _ _ us hl => match us, hl with | [_], _ => rfl) fun f cdv A outer s H E gd =>
    dss_one (ds_ret (de_callB (call_isiTA2 (itA_cons T.ic_Road T.ita_Road (itA_nil))) (by rfl) T.b_isinstance (by decide +kernel) (da_cons (dv 0) (da_cons (de_tup (da_cons (de_ty (t := "list") (by rfl) T.b_list (by decide +kernel)) (da_cons (de_ty (t := "tuple") (by rfl) T.b_tuple (by decide +kernel)) (da_nil)))) (da_nil)))))
theorem Tx.F_number_in (T : Tx w K mg) : PFn P w K mg base 1 "number_in" 2 F_number_in :=
  pfn_df T.d_number_in (k := 0) (b := f_number_in) sc_number_in (fun _ _ _ _ _ _ us hl => match us, hl with | [_, _], _ => rfl) fun f cdv A outer s H E gd =>
    dss_cons (ds_if (dt_w (dw_or (dt_not (dt_chain op_le' op_le' (de_int) (de_callB call_len' (by rfl) T.b_len (by decide +kernel) (da_cons (dv 0) (da_nil))) (dv 1))) (dw_or1 (dt_not (dt_val (de_callB (call_all' rfl) (by rfl) T.b_all (by decide +kernel) (da_cons (de_lc rfl sc_number_in.nd (di_any (dv 0)) (blkOk_by (own := [("sign", 2)]) (N := ["word", "most", "sign"]) (sc := defScope s_number_in) (by decide +kernel)) (fun _ _ _ _ _ => dgn_name (i := 2) sc_number_in.nd rfl (Or.inl rfl)) (fun _ _ _ _ _ => dts_nil) (fun _ _ _ _ _ => de_cmp (op_inA gd.blk) (dv 2) (de_gstr (by rfl) T.g_DIGITS) (by rfl))) (da_nil)))))))) (dss_one (ds_ret (de_non))) (dss_nil))
    (dss_one (ds_ret (de_if (dt_w (dw_or (dt_cmp (op_eq' gd) (dv 0) (de_str) (nomark _)) (dw_or1 (dt_cmp (op_ne' gd) (de_ixA gd (dv 0) (de_int)) (de_str) (nomark _))))) (de_callT call_int' (by rfl) T.b_int (by decide +kernel) (da_cons (dv 0) (da_nil))) (de_non))))
theorem Tx.F_event_in (T : Tx w K mg) : PFn P w K mg base 2 "event_in" 1 F_event_in :=
  pfn_df T.d_event_in (k := 1) (b := f_event_in) sc_event_in (fun _ _ _ _ _ _ us hl => match us, hl with | [_], _ => rfl) fun f cdv A outer s H E gd =>
    dss_cons (ds_set (i := 1) sc_event_in.nd rfl (Or.inl rfl) (de_split (dv 0) (de_str)))
    (dss_cons (ds_if (dt_cmp (op_ne' gd) (de_callB call_len' (by rfl) T.b_len (by decide +kernel) (da_cons (dv 1) (da_nil))) (de_int) (nomark _)) (dss_one (ds_ret (de_non))) (dss_nil))
    (dss_cons (ds_setLc (i := 2) rfl sc_event_in.nd rfl rfl (sw_true rfl rfl rfl (by decide +kernel)) (di_any (de_sl (dv 1) (dp_yes (de_int)) (dp_no))) (blkOk_by (own := [("word", 3)]) (N := ["text", "words", "numbers", "word"]) (sc := defScope s_event_in) (by decide +kernel)) (fun _ _ _ _ _ => dgn_name (i := 3) sc_event_in.nd rfl (Or.inl rfl)) (fun _ _ _ _ _ => dts_nil) (fun _ _ _ _ _ => de_pfn T.F_number_in (gd.blk.mono (by decide)) (by rfl) (da_cons (dv 3) (da_cons (de_int) (da_nil)))))
    (dss_cons (ds_if (dt_w (dw_and (dt_cmp (op_eq' gd) (de_ixA gd (dv 1) (de_int)) (de_str) (nomark _)) (dw_and (dt_cmp (op_ninA gd) (de_non) (de_sl (dv 2) (dp_no) (dp_yes (de_int))) (by rfl)) (dw_and1 (dt_cmp (op_inA gd) (de_ixA gd (dv 1) (de_int)) (de_gtup (ds := [.str "ok", .str "fault"]) (by rfl) T.g_ANSWERS T.t_ANSWERS (fun _ _ => .cons (.str _) (.cons (.str _) (.nil)))) (by rfl)))))) (dss_one (ds_ret (de_tup (da_cons (de_str) (da_cons (de_ixA gd (dv 2) (de_int)) (da_cons (de_ixA gd (dv 2) (de_int)) (da_cons (de_cmp (op_eq' gd) (de_ixA gd (dv 1) (de_int)) (de_str) (nomark _)) (da_nil)))))))) (dss_nil))
    (dss_cons (ds_if (dt_w (dw_and (dt_cmp (op_eq' gd) (de_ixA gd (dv 1) (de_int)) (de_str) (nomark _)) (dw_and (dt_cmp (op_ninA gd) (de_non) (dv 2) (by rfl)) (dw_and1 (dt_cmp (op_ne' gd) (de_ixA gd (dv 2) (de_int)) (de_ixA gd (dv 2) (de_int)) (nomark _)))))) (dss_one (ds_ret (de_tup (da_cons (de_str) (da_star (dv 2) (da_nil)))))) (dss_nil))
    (dss_one (ds_ret (de_non)))))))
theorem Tx.F_event_of (T : Tx w K mg) : PFn P w K mg base 3 "event_of" 3 F_event_of :=
  pfn_df T.d_event_of (k := 2) (b := f_event_of) sc_event_of (fun _ _ _ _ _ _ us hl => match us, hl with | [_, _, _], _ => rfl) fun f cdv A outer s H E gd =>
    dss_cons (ds_set (i := 3) sc_event_of.nd rfl (Or.inl rfl) (de_if (dt_val (de_callB call_isi' (by rfl) T.b_isinstance (by decide +kernel) (da_cons (dv 0) (da_cons (de_ty (t := "str") (by rfl) T.b_str (by decide +kernel)) (da_nil))))) (de_pfn T.F_event_in (gd.mono (by decide)) (by rfl) (da_cons (dv 0) (da_nil))) (de_non)))
    (dss_cons (ds_if (dt_isN (dv 3)) (dss_one (ds_ret (de_non))) (dss_nil))
    (dss_cons (ds_if (dt_cmp (op_eq' gd) (de_ixA gd (dv 3) (de_int)) (de_str) (nomark _)) (dss_one (ds_ret (de_if (dt_w (dw_and (dt_cmp op_lt' (de_ixA gd (dv 3) (de_int)) (dv 1) (nomark _)) (dw_and1 (dt_cmp op_lt' (de_ixA gd (dv 3) (de_int)) (dv 2) (nomark _))))) (dv 3) (de_non)))) (dss_nil))
    (dss_one (ds_ret (de_if (dt_w (dw_and (dt_cmp op_lt' (de_ixA gd (dv 3) (de_int)) (dv 1) (nomark _)) (dw_and (dt_cmp op_lt' (de_ixA gd (dv 3) (de_int)) (dv 1) (nomark _)) (dw_and1 (dt_cmp op_lt' (de_ixA gd (dv 3) (de_int)) (dv 2) (nomark _)))))) (dv 3) (de_non))))))
theorem Tx.F_events_of (T : Tx w K mg) : PFn P w K mg base 4 "events_of" 3 F_events_of :=
  pfn_df T.d_events_of (k := 3) (b := f_events_of) sc_events_of (fun _ _ _ _ _ _ us hl => match us, hl with | [_, _, _], _ => rfl) fun f cdv A outer s H E gd =>
    dss_cons (ds_setLc (i := 3) rfl sc_events_of.nd rfl rfl (sw_true rfl rfl rfl (by decide +kernel)) (di_any (dv 0)) (blkOk_by (own := [("value", 4)]) (N := ["values", "callers", "servers", "found", "value"]) (sc := defScope s_events_of) (by decide +kernel)) (fun _ _ _ _ _ => dgn_name (i := 4) sc_events_of.nd rfl (Or.inl rfl)) (fun _ _ _ _ _ => dts_nil) (fun _ _ _ _ _ => de_pfn T.F_event_of (gd.blk.mono (by decide)) (by rfl) (da_cons (dv 4) (da_cons (dv 1) (da_cons (dv 2) (da_nil))))))
    (dss_cons (ds_if (dt_cmp (op_inA gd) (de_non) (dv 3) (by rfl)) (dss_one (ds_never)) (dss_nil))
    (dss_one (ds_ret (de_callT call_tup' (by rfl) T.b_tuple (by decide +kernel) (da_cons (dv 3) (da_nil))))))
theorem Tx.F_Road___init__ (T : Tx w K mg) : MNd P w K mg base 5 "Road" 4 F_Road___init__ :=
  mnd_ki T.k_Road (k := 4) (b := f_Road___init__) sc_Road___init__ (by decide) (fun _ _ _ _ _ _ _ us its hl hi => match us, hl, its, hi with | [_, _, _, _], _, [_], _ => ⟨_, rfl, rfl⟩) (fun _ _ _ _ _ _ _ us its hl hi => match us, hl, its, hi with | [_, _, _], _, [_], _ => ⟨_, rfl, rfl⟩) fun f cdv A outer s H E gd =>
    dss_cons (ds_if (dt_not (dt_val (de_pfn T.F_is_from (gd.mono (by decide)) (by rfl) (da_cons (dv 1) (da_cons (de_int) (da_nil)))))) (dss_one (ds_never)) (dss_nil))
    (dss_cons (ds_if (dt_not (dt_val (de_pfn T.F_is_from (gd.mono (by decide)) (by rfl) (da_cons (dv 2) (da_cons (de_int) (da_nil)))))) (dss_one (ds_never)) (dss_nil))
    (dss_cons (ds_if (dt_not (dt_val (de_pfn T.F_is_sequence (gd.mono (by decide)) (by rfl) (da_cons (dv 3) (da_nil))))) (dss_one (ds_never)) (dss_nil))
    (dss_cons (ds_fld (na1 T.c_Road T.n_Road_told_events) (dv 0) (de_pfn T.F_events_of (gd.mono (by decide)) (by rfl) (da_cons (dv 3) (da_cons (dv 1) (da_cons (dv 2) (da_nil))))))
    (dss_cons (ds_fld (na1 T.c_Road T.n_Road_callers) (dv 0) (dv 1))
    (dss_cons (ds_fld (na1 T.c_Road T.n_Road_servers) (dv 0) (dv 2))
    (dss_one (ds_fld (na1 T.c_Road T.n_Road_events) (dv 0) (de_callT call_tup' (by rfl) T.b_tuple (by decide +kernel) (da_cons (dv 3) (da_nil))))))))))
theorem Tx.FX_events_of (T : Tx w K mg) : PFx P w K mg base 4 "events_of" 3 FX_events_of :=
  pfx_df T.d_events_of (k := 3) (b := y_events_of) sc_events_of (fun _ _ _ _ _ _ us hl => match us, hl with | [_, _, _], _ => rfl) fun f cdv A outer s H E gd =>
    dys_cons (dy_of (ds_setLc (i := 3) rfl sc_events_of.nd rfl rfl (sw_true rfl rfl rfl (by decide +kernel)) (di_any (dv 0)) (blkOk_by (own := [("value", 4)]) (N := ["values", "callers", "servers", "found", "value"]) (sc := defScope s_events_of) (by decide +kernel)) (fun _ _ _ _ _ => dgn_name (i := 4) sc_events_of.nd rfl (Or.inl rfl)) (fun _ _ _ _ _ => dts_nil) (fun _ _ _ _ _ => de_pfn T.F_event_of (gd.nox.blk.mono (by decide)) (by rfl) (da_cons (dv 4) (da_cons (dv 1) (da_cons (dv 2) (da_nil)))))))
    (dys_cons (dy_if (dt_cmp (op_inA gd.nox) (de_non) (dv 3) (by rfl)) (dys_one (dy_raise1 rfl T.oi_InvalidEvent (gd.mono (by decide)) (by rfl) T.g_InvalidEvent (da_cons (de_index gd.nox (dv 3) (de_non)) (da_nil)))) (dys_of (dss_nil)))
    (dys_of (dss_one (ds_ret (de_callT call_tup' (by rfl) T.b_tuple (by decide +kernel) (da_cons (dv 3) (da_nil)))))))
theorem Tx.FX_Road___init__ (T : Tx w K mg) : MNxd P w K mg base 5 "Road" 4 FX_Road___init__ :=
  mnxd_ki T.k_Road (k := 4) (b := y_Road___init__) sc_Road___init__ (by decide) (fun _ _ _ _ _ _ _ us its hl hi => match us, hl, its, hi with | [_, _, _, _], _, [_], _ => ⟨_, rfl, rfl⟩) (fun _ _ _ _ _ _ _ us its hl hi => match us, hl, its, hi with | [_, _, _], _, [_], _ => ⟨_, rfl, rfl⟩) fun f cdv A outer s H E gd =>
    dys_cons (dy_if (dt_not (dt_val (de_pfn T.F_is_from (gd.nox.mono (by decide)) (by rfl) (da_cons (dv 1) (da_cons (de_int) (da_nil)))))) (dys_one (dy_raise1 rfl T.oi_InvalidRoad (gd.mono (by decide)) (by rfl) T.g_InvalidRoad (da_cons (de_str) (da_nil)))) (dys_of (dss_nil)))
    (dys_cons (dy_if (dt_not (dt_val (de_pfn T.F_is_from (gd.nox.mono (by decide)) (by rfl) (da_cons (dv 2) (da_cons (de_int) (da_nil)))))) (dys_one (dy_raise1 rfl T.oi_InvalidRoad (gd.mono (by decide)) (by rfl) T.g_InvalidRoad (da_cons (de_str) (da_nil)))) (dys_of (dss_nil)))
    (dys_cons (dy_if (dt_not (dt_val (de_pfn T.F_is_sequence (gd.nox.mono (by decide)) (by rfl) (da_cons (dv 3) (da_nil))))) (dys_one (dy_raise1 rfl T.oi_InvalidRoad (gd.mono (by decide)) (by rfl) T.g_InvalidRoad (da_cons (de_str) (da_nil)))) (dys_of (dss_nil)))
    (dys_cons (dy_asg (dx_pfx T.FX_events_of (gd.mono (by decide)) (by rfl) (da_cons (dv 3) (da_cons (dv 1) (da_cons (dv 2) (da_nil))))) (dg_fld (na1 T.c_Road T.n_Road_told_events) (dv 0)))
    (dys_of (dss_cons (ds_fld (na1 T.c_Road T.n_Road_callers) (dv 0) (dv 1))
    (dss_cons (ds_fld (na1 T.c_Road T.n_Road_servers) (dv 0) (dv 2))
    (dss_one (ds_fld (na1 T.c_Road T.n_Road_events) (dv 0) (de_callT call_tup' (by rfl) T.b_tuple (by decide +kernel) (da_cons (dv 3) (da_nil)))))))))))
theorem Tx.F__law_value (T : Tx w K mg) : ∀ n, MFn P w K mg base (2 + n) "_law_value" 2 (L4.F__law_value n)
  | 0 => mfn_none (ps := ["_law_deal_here", "_law_deep"]) T.d__law_value (fun _ _ _ _ _ _ us hl => match us, hl with | [_, _], _ => rfl)
  | n + 1 => mfn_df T.d__law_value (k := 2 + n) (b := f__law_value (L4.F__law_value n)) sc__law_value (fun _ _ _ _ _ _ us hl => match us, hl with | [_, _], _ => rfl) fun f cdv A outer s H E gdR => have gd := gdR.mono (Nat.le_add_right 2 n); have ih := Tx.F__law_value T n;
    dss_cons (ds_set (i := 2) sc__law_value.nd rfl (Or.inl rfl) (de_mfn T.F__law_draw (gd.mono (by decide)) (by rfl) (da_cons (dv 0) (da_cons (de_if (dt_cmp op_gt' (dv 1) (de_int) (nomark _)) (de_int) (de_int)) (da_nil)))))
    (dss_cons (ds_if (dt_cmp (op_eq' gd) (dv 2) (de_int) (nomark _)) (dss_one (ds_ret (de_mfn T.F__law_pick (gd.mono (by decide)) (by rfl) (da_cons (dv 0) (da_cons (de_lst (da_cons (de_int) (da_cons (de_int) (da_cons (de_op op_sub' (de_int) (de_int)) (da_cons (de_op op_pow' (de_int) (de_int)) (da_nil)))))) (da_nil)))))) (dss_nil))
    (dss_cons (ds_if (dt_cmp (op_eq' gd) (dv 2) (de_int) (nomark _)) (dss_one (ds_ret (de_mfn T.F__law_pick (gd.mono (by decide)) (by rfl) (da_cons (dv 0) (da_cons (de_lst (da_cons (de_non) (da_cons (de_bl) (da_cons (de_bl) (da_nil))))) (da_nil)))))) (dss_nil))
    (dss_cons (ds_if (dt_cmp op_lt' (dv 2) (de_int) (nomark _)) (dss_one (ds_ret (de_mfn T.F__law_pick (gd.mono (by decide)) (by rfl) (da_cons (dv 0) (da_cons (de_lst (da_cons (de_str) (da_cons (de_str) (da_cons (de_str) (da_cons (de_str) (da_cons (de_str) (da_cons (de_str) (da_cons (de_str) (da_cons (de_str) (da_nil)))))))))) (da_nil)))))) (dss_nil))
    (dss_cons (ds_setLc (i := 3) rfl sc__law_value.nd rfl rfl (sw_true rfl rfl rfl (by decide +kernel)) (di_range1 (by rfl) T.b_range (da_cons (de_mfn T.F__law_draw (gd.mono (by decide)) (by rfl) (da_cons (dv 0) (da_cons (de_int) (da_nil)))) (da_nil))) (blkOk_by (own := [("_law_k", 4)]) (N := ["_law_deal_here", "_law_deep", "_law_form", "_law_some", "_law_k"]) (sc := defScope s__law_value) (by decide +kernel)) (fun _ _ _ _ _ => dgn_name (i := 4) sc__law_value.nd rfl (Or.inl rfl)) (fun _ _ _ _ _ => dts_nil) (fun _ _ _ _ _ => de_mfn ih gdR.blk (by rfl) (da_cons (dv 0) (da_cons (de_op op_sub' (dv 1) (de_int)) (da_nil)))))
    (dss_one (ds_ret (de_if (dt_cmp (op_eq' gd) (dv 2) (de_int) (nomark _)) (dv 3) (de_callT call_tup' (by rfl) T.b_tuple (by decide +kernel) (da_cons (dv 3) (da_nil))))))))))
theorem Tx.FX_Road_further (T : Tx w K mg) : PMx P w K mg base 7 "Road" "further" 2 FX_Road_further :=
  pmx_md T.d_Road_further T.c_Road (k := 6) (b := y_Road_further) sc_Road_further (fun _ _ _ _ _ _ us hl => match us, hl with | [_, _], _ => rfl) fun f cdv A outer s H E gd =>
    dys_cons (dy_if (dt_not (dt_val (de_pfn T.F_is_sequence (gd.nox.mono (by decide)) (by rfl) (da_cons (dv 1) (da_nil))))) (dys_one (dy_raise1 rfl T.oi_InvalidRoad (gd.mono (by decide)) (by rfl) T.g_InvalidRoad (da_cons (de_str) (da_nil)))) (dys_of (dss_nil)))
    (dys_one (dy_ret (dx_newX T.FX_Road___init__.fn (gd.mono (by decide)) (by rfl) (da_cons (de_fld (na1 T.c_Road T.n_Road_callers) (dv 0)) (da_cons (de_fld (na1 T.c_Road T.n_Road_servers) (dv 0)) (da_cons (de_lst (da_star (de_fld (na1 T.c_Road T.n_Road_events) (dv 0)) (da_star (dv 1) (da_nil)))) (da_nil)))))))
theorem Tx.F__law_mixed (T : Tx w K mg) : MFn P w K mg base 2 "_law_mixed" 2 F__law_mixed :=
  mfn_df T.d__law_mixed (k := 1) (b := f__law_mixed) sc__law_mixed (fun _ _ _ _ _ _ us hl => match us, hl with | [_, _], _ => rfl) fun f cdv A outer s H E gd =>
    dss_cons (ds_par (by rfl) sc__law_mixed.nd (i := 2) (j := 3) rfl rfl (by decide) rfl rfl (da_cons (de_lisN (by rfl) T.b_list (dv 1)) (da_cons (de_newL (da_nil)) (da_nil))) (by rfl))
    (dss_cons (ds_while big PassesOwn.never (dt_cmp (op_ne' gd) (dv 2) (de_lst (da_nil)) (nomark _)) (dss_one (ds_expr (de_append (dv 3) (da_cons (de_popAt (dv 2) (da_cons (de_mfn T.F__law_draw (gd.mono (by decide)) (by rfl) (da_cons (dv 0) (da_cons (de_callB call_len' (by rfl) T.b_len (by decide +kernel) (da_cons (dv 2) (da_nil))) (da_nil)))) (da_nil))) (da_nil))))))
    (dss_one (ds_ret (dv 3))))
theorem Tx.F__law_bad (T : Tx w K mg) : PFn P w K mg base 1 "_law_bad" 2 F__law_bad :=
  pfn_df T.d__law_bad (k := 0) (b := f__law_bad) sc__law_bad (fun _ _ _ _ _ _ us hl => match us, hl with | [_, _], _ => rfl) fun f cdv A outer s H E gd =>
    dss_cons (ds_set (i := 2) sc__law_bad.nd rfl (Or.inl rfl) (de_lst (da_cons (de_non) (da_cons (de_int) (da_cons (de_bl) (da_cons (de_str) (da_cons (de_str) (da_cons (de_str) (da_cons (de_str) (da_nil))))))))))
    (dss_cons (ds_set (i := 2) sc__law_bad.nd rfl (Or.inl rfl) (de_op op_add' (dv 2) (de_lst (da_cons (de_str) (da_cons (de_str) (da_cons (de_str) (da_cons (de_str) (da_nil))))))))
    (dss_cons (ds_set (i := 2) sc__law_bad.nd rfl (Or.inl rfl) (de_op op_add' (dv 2) (de_lst (da_cons (de_str) (da_cons (de_str) (da_cons (de_str) (da_cons (de_str) (da_nil))))))))
    (dss_cons (ds_set (i := 2) sc__law_bad.nd rfl (Or.inl rfl) (de_op op_add' (dv 2) (de_lst (da_cons (de_str) (da_cons (de_str) (da_cons (de_str) (da_nil)))))))
    (dss_cons (ds_set (i := 2) sc__law_bad.nd rfl (Or.inl rfl) (de_op op_add' (dv 2) (de_lst (da_cons (de_op op_add' (de_op op_add' (de_str) (de_callT call_strT' (by rfl) T.b_str (by decide +kernel) (da_cons (dv 0) (da_nil)))) (de_str)) (da_cons (de_op op_add' (de_op op_add' (de_str) (de_callT call_strT' (by rfl) T.b_str (by decide +kernel) (da_cons (dv 1) (da_nil)))) (de_str)) (da_nil))))))
    (dss_cons (ds_set (i := 2) sc__law_bad.nd rfl (Or.inl rfl) (de_op op_add' (dv 2) (de_lst (da_cons (de_tup (da_cons (de_str) (da_cons (de_int) (da_cons (de_int) (da_cons (de_str) (da_nil)))))) (da_cons (de_lst (da_cons (de_str) (da_nil))) (da_nil))))))
    (dss_one (ds_ret (de_op op_add' (dv 2) (de_lst (da_cons (de_op op_add' (de_op op_add' (de_str) (de_callT call_strT' (by rfl) T.b_str (by decide +kernel) (da_cons (dv 0) (da_nil)))) (de_str)) (da_cons (de_op op_add' (de_op op_add' (de_str) (de_callT call_strT' (by rfl) T.b_str (by decide +kernel) (da_cons (dv 0) (da_nil)))) (de_str)) (da_cons (de_op op_add' (de_str) (de_callT call_strT' (by rfl) T.b_str (by decide +kernel) (da_cons (dv 1) (da_nil)))) (da_nil)))))))))))))
theorem Tx.law_fn (T : Tx w K mg) {f c : Addr} {fd : FuncData} (F : Fun K "law" "law" s_law f fd) (hC : fd.code = .ref c) (TB : LamX.TabB base mg c (tabP K "law.<locals>.<lambda>")) : FnG P w K mg base CX0 17 f fd ["_law_script"] (spG ⟨P, w, K⟩ 13 "law.<locals>.<lambda>" 1 14 f_law) := by
  have h := law_dfG (k := 16) (b := f_law) (P := P) (w := w) (mg := mg) (base := base) (gi := 13) (q := "law.<locals>.<lambda>") F sc_law rfl (by unfold Vis; decide +kernel) fun cdv A outer s H E hc gd =>
    dss_cons (ds_set (i := 1) sc_law.nd rfl (Or.inr rfl) (de_mfn T.F__law_deal (gd.mono (by decide)) (by rfl) (da_cons (dv 0) (da_cons (de_int) (da_nil)))))
    (dss_cons (ds_for PassesOwn.never rfl (di_range1 (by rfl) T.b_range (da_cons (de_int) (da_nil))) (dg_of (dgn_name (i := 2) sc_law.nd rfl (Or.inl rfl))) (dss_cons (ds_asg (de_tup (da_cons (de_op op_add' (de_int) (de_mfn T.F__law_draw (gd.mono (by decide)) (by rfl) (da_cons (dv 1) (da_cons (de_int) (da_nil))))) (da_cons (de_op op_add' (de_int) (de_mfn T.F__law_draw (gd.mono (by decide)) (by rfl) (da_cons (dv 1) (da_cons (de_int) (da_nil))))) (da_nil)))) (dg_of (dgn_tup rfl (dgns_cons (i := 6) sc_law.nd rfl (Or.inr rfl) (dgns_cons (i := 9) sc_law.nd rfl (Or.inr rfl) (dgns_nil))))))
    (dss_cons (ds_set (i := 11) sc_law.nd rfl (Or.inr rfl) (de_lc rfl sc_law.nd (di_range1 (by rfl) T.b_range (da_cons (de_mfn T.F__law_draw (gd.mono (by decide)) (by rfl) (da_cons (dv 1) (da_cons (de_int) (da_nil)))) (da_nil))) (blkOk_by (own := [("_law_k", 12)]) (N := ["_law_script", "_law_deal_here", "_law_turn", "_law_bad_here", "_law_at", "_law_bent", "_law_callers", "_law_odd", "_law_part", "_law_servers", "_law_thing", "_law_words", "_law_k", "<table>"]) (sc := defScope s_law) (by decide +kernel)) (fun _ _ _ _ _ => dgn_name (i := 12) sc_law.nd rfl (Or.inl rfl)) (fun _ _ _ _ _ => dts_nil) (fun _ _ _ _ _ => de_mfn T.F__law_good (gd.blk.mono (by decide)) (by rfl) (da_cons (dv 1) (da_cons (dv 6) (da_cons (dv 9) (da_nil)))))))
    (dss_cons (ds_if (dt_notN (de_told T.td__law_told (by rfl) (gd.mono (by decide)) TB rfl rfl (hc.symm.trans hC) (LamX.lamS_by (by show LamX.lamSB (defScope s_law) _ = true; decide +kernel)) rfl (fun _ _ _ _ _ => rfl) (fun _ _ _ _ _ _ _ gd => dx_newX T.FX_Road___init__.fn (gd.mono (by decide)) (by rfl) (da_cons (dv 6) (da_cons (dv 9) (da_cons (dv 11) (da_nil))))))) (dss_one (ds_ret (de_bl))) (dss_nil))
    (dss_cons (ds_set (i := 7) sc_law.nd rfl (Or.inr rfl) (de_mfn T.F__law_pick (gd.mono (by decide)) (by rfl) (da_cons (dv 1) (da_cons (de_lst (da_cons (de_int) (da_cons (de_op op_sub' (de_int) (de_int)) (da_cons (de_non) (da_cons (de_bl) (da_cons (de_str) (da_cons (de_lst (da_cons (de_int) (da_nil))) (da_cons (de_lst (da_cons (de_mfn (T.F__law_value 10) (gd.mono (by decide)) (by rfl) (da_cons (dv 1) (da_cons (de_int) (da_nil)))) (da_nil))) (da_nil))))))))) (da_nil)))))
    (dss_cons (ds_if (dt_cmp (op_ne' gd) (de_told T.td__law_told (by rfl) (gd.mono (by decide)) TB rfl rfl (hc.symm.trans hC) (LamX.lamS_by (by show LamX.lamSB (defScope s_law) _ = true; decide +kernel)) rfl (fun _ _ _ _ _ => rfl) (fun _ _ _ _ _ _ _ gd => dx_newX T.FX_Road___init__.fn (gd.mono (by decide)) (by rfl) (da_cons (dv 7) (da_cons (dv 7) (da_cons (de_non) (da_nil)))))) (de_str) (nomark _)) (dss_one (ds_ret (de_bl))) (dss_nil))
    (dss_cons (ds_if (dt_cmp (op_ne' gd) (de_told T.td__law_told (by rfl) (gd.mono (by decide)) TB rfl rfl (hc.symm.trans hC) (LamX.lamS_by (by show LamX.lamSB (defScope s_law) _ = true; decide +kernel)) rfl (fun _ _ _ _ _ => rfl) (fun _ _ _ _ _ _ _ gd => dx_newX T.FX_Road___init__.fn (gd.mono (by decide)) (by rfl) (da_cons (dv 6) (da_cons (dv 7) (da_cons (de_int) (da_nil)))))) (de_str) (nomark _)) (dss_one (ds_ret (de_bl))) (dss_nil))
    (dss_cons (ds_for PassesOwn.never rfl (di_any (de_tup (da_cons (de_non) (da_cons (de_str) (da_cons (de_int) (da_cons (de_bl) (da_cons (de_newPD T.F_Road___init__ (gd.mono (by decide)) (by rfl) (da_cons (de_int) (da_cons (de_int) (da_nil)))) (da_nil)))))))) (dg_of (dgn_name (i := 10) sc_law.nd rfl (Or.inr rfl))) (dss_cons (ds_if (dt_cmp (op_ne' gd) (de_told T.td__law_told (by rfl) (gd.mono (by decide)) TB rfl rfl (hc.symm.trans hC) (LamX.lamS_by (by show LamX.lamSB (defScope s_law) _ = true; decide +kernel)) rfl (fun _ _ _ _ _ => rfl) (fun _ _ _ _ _ _ _ gd => dx_newX T.FX_Road___init__.fn (gd.mono (by decide)) (by rfl) (da_cons (dv 6) (da_cons (dv 9) (da_cons (dv 10) (da_nil)))))) (de_str) (nomark _)) (dss_one (ds_ret (de_bl))) (dss_nil))
    (dss_one (ds_if (dt_cmp (op_ne' gd) (de_told T.td__law_told (by rfl) (gd.mono (by decide)) TB rfl rfl (hc.symm.trans hC) (LamX.lamS_by (by show LamX.lamSB (defScope s_law) _ = true; decide +kernel)) rfl (fun _ _ _ _ _ => rfl) (fun _ _ _ _ _ _ _ gd => dx_pmx T.FX_Road_further (gd.mono (by decide)) (de_newP T.F_Road___init__.fn (gd.nox.mono (by decide)) (by rfl) (da_cons (dv 6) (da_cons (dv 9) (da_cons (dv 11) (da_nil))))) (da_cons (dv 10) (da_nil)))) (de_str) (nomark _)) (dss_one (ds_ret (de_bl))) (dss_nil)))))
    (dss_one (ds_forA big PassesOwn.never rfl (de_op op_add' (de_sl (de_mfn T.F__law_mixed (gd.mono (by decide)) (by rfl) (da_cons (dv 1) (da_cons (de_pfn T.F__law_bad (gd.mono (by decide)) (by rfl) (da_cons (dv 6) (da_cons (dv 9) (da_nil)))) (da_nil)))) (dp_no) (dp_yes (de_int))) (de_lst (da_cons (de_lst (da_cons (de_mfn (T.F__law_value 10) (gd.mono (by decide)) (by rfl) (da_cons (dv 1) (da_cons (de_int) (da_nil)))) (da_nil))) (da_nil)))) (dg_of (dgn_name (i := 3) sc_law.nd rfl (Or.inl rfl))) (dss_cons (ds_set (i := 4) sc_law.nd rfl (Or.inl rfl) (de_mfn T.F__law_draw (gd.mono (by decide)) (by rfl) (da_cons (dv 1) (da_cons (de_op op_add' (de_callB call_len' (by rfl) T.b_len (by decide +kernel) (da_cons (dv 11) (da_nil))) (de_int)) (da_nil)))))
    (dss_cons (ds_set (i := 5) sc_law.nd rfl (Or.inr rfl) (de_op op_add' (de_op op_add' (de_op op_add' (de_sl (dv 11) (dp_no) (dp_yes (dv 4))) (de_lst (da_cons (dv 3) (da_nil)))) (de_sl (dv 11) (dp_yes (dv 4)) (dp_no))) (de_lst (da_cons (de_non) (da_nil)))))
    (dss_cons (ds_if (dt_cmp (op_ne' gd) (de_told T.td__law_told (by rfl) (gd.mono (by decide)) TB rfl rfl (hc.symm.trans hC) (LamX.lamS_by (by show LamX.lamSB (defScope s_law) _ = true; decide +kernel)) rfl (fun _ _ _ _ _ => rfl) (fun _ _ _ _ _ _ _ gd => dx_newX T.FX_Road___init__.fn (gd.mono (by decide)) (by rfl) (da_cons (dv 6) (da_cons (dv 9) (da_cons (dv 5) (da_nil)))))) (dv 4) (nomark _)) (dss_one (ds_ret (de_bl))) (dss_nil))
    (dss_cons (ds_set (i := 8) sc_law.nd rfl (Or.inr rfl) (de_mfn T.F__law_draw (gd.mono (by decide)) (by rfl) (da_cons (dv 1) (da_cons (de_op op_add' (dv 4) (de_int)) (da_nil)))))
    (dss_one (ds_if (dt_cmp (op_ne' gd) (de_told T.td__law_told (by rfl) (gd.mono (by decide)) TB rfl rfl (hc.symm.trans hC) (LamX.lamS_by (by show LamX.lamSB (defScope s_law) _ = true; decide +kernel)) rfl (fun _ _ _ _ _ => rfl) (fun _ _ _ _ _ _ _ gd => dx_pmx T.FX_Road_further (gd.mono (by decide)) (de_newP T.F_Road___init__.fn (gd.nox.mono (by decide)) (by rfl) (da_cons (dv 6) (da_cons (dv 9) (da_cons (de_sl (dv 5) (dp_no) (dp_yes (dv 8))) (da_nil))))) (da_cons (de_callT call_tup' (by rfl) T.b_tuple (by decide +kernel) (da_cons (de_sl (dv 5) (dp_yes (dv 8)) (dp_no)) (da_nil))) (da_nil)))) (dv 4) (nomark _)) (dss_one (ds_ret (de_bl))) (dss_nil)))))))))))))))))
    (dss_one (ds_ret (de_isN (de_told T.td__law_told (by rfl) (gd.mono (by decide)) TB rfl rfl (hc.symm.trans hC) (LamX.lamS_by (by show LamX.lamSB (defScope s_law) _ = true; decide +kernel)) rfl (fun _ _ _ _ _ => rfl) (fun _ _ _ _ _ _ _ gd => dx_newX T.FX_Road___init__.fn (gd.mono (by decide)) (by rfl) (da_cons (de_int) (da_cons (de_int) (da_cons (de_lst (da_cons (de_str) (da_cons (de_str) (da_nil)))) (da_nil))))))))))
  exact h
end
end L4
namespace L4
open PySem PySem.Spec PyProof.Rows L2
open L3 (Fx fx_at SaysW hookW obsWG obsWG_eq Tabs gdef mdef cdef cmB df_of md_of ki_of cmd_of)
theorem tx_of {w : World} {K : PySem.W.Frag} {h : Heap} {mg : Str → Option Value} (X : K.In h) (G : h.Ns mainGlobals mg) (c : SaysW exs fns htabs w K) : Tx w K mg := by
  have s := c.b
  have hx : (fxs.all fun f => f.ok K) = true := s.fx
  exact ⟨He.free_ok X G (fx_at hx 0 (f := .fa (.free "abs"))),
    He.free_ok X G (fx_at hx 1 (f := .fa (.free "all"))),
    He.free_ok X G (fx_at hx 2 (f := .fa (.free "bool"))),
    He.free_ok X G (fx_at hx 3 (f := .fa (.free "int"))),
    He.free_ok X G (fx_at hx 4 (f := .fa (.free "isinstance"))),
    He.free_ok X G (fx_at hx 5 (f := .fa (.free "len"))),
    He.free_ok X G (fx_at hx 6 (f := .fa (.free "list"))),
    He.free_ok X G (fx_at hx 7 (f := .fa (.free "range"))),
    He.free_ok X G (fx_at hx 8 (f := .fa (.free "str"))),
    He.free_ok X G (fx_at hx 9 (f := .fa (.free "tuple"))),
    He.cls_ok (fx_at hx 10 (f := .fa (.cls "Road"))),
    He.noat_ok (fx_at hx 11 (f := .fa (.noat "Road" "callers"))),
    He.noat_ok (fx_at hx 12 (f := .fa (.noat "Road" "events"))),
    He.noat_ok (fx_at hx 13 (f := .fa (.noat "Road" "servers"))),
    He.noat_ok (fx_at hx 14 (f := .fa (.noat "Road" "told_events"))),
    L3.insc_ok (fx_at hx 15 (f := .insc "Road")),
    fx_at hx 16 (f := .bo (fun K => itaB K "Road")),
    He.glo_ok X G (fx_at hx 17 (f := .fa (.glo "InvalidEvent"))),
    He.glo_ok X G (fx_at hx 18 (f := .fa (.glo "InvalidRoad"))),
    He.glo_ok X G (fx_at hx 19 (f := .fa (.glo "InvalidText"))),
    He.glo_ok X G (fx_at hx 20 (f := .fa (.glo "SitError"))),
    He.glo_ok X G (fx_at hx 21 (f := .fa (.glo "law"))),
    He.glo_ok X G (fx_at hx 22 (f := .fa (.glo "ANSWERS"))),
    fun H => He.tupB_ok (fx_at hx 23 (f := .tup "ANSWERS" [.str "ok", .str "fault"])) H,
    He.str_ok X G (fx_at hx 24 (f := .fa (.str "DIGITS" "0123456789"))),
    fx_at hx 25 (f := .bo (fun K => oiB K "InvalidEvent" "at" "at" "/claim/cut.py")),
    xcB_ok (fx_at hx 26 (f := .bo (fun K => xcB K (He.ga K "InvalidEvent")))),
    fx_at hx 27 (f := .bo (fun K => oiB K "InvalidRoad" "word" "word" "/claim/cut.py")),
    xcB_ok (fx_at hx 28 (f := .bo (fun K => xcB K (He.ga K "InvalidRoad")))),
    xfB_ok (fx_at hx 29 (f := .bo (fun K => xfB K "InvalidEvent" "at"))),
    xfB_ok (fx_at hx 30 (f := .bo (fun K => xfB K "InvalidRoad" "word"))),
    xiB_ok (fx_at hx 31 (f := .bo (fun K => xiB K "InvalidEvent" "InvalidText" false))),
    xiB_ok (fx_at hx 32 (f := .bo (fun K => xiB K "InvalidEvent" "SitError" true))),
    xiB_ok (fx_at hx 33 (f := .bo (fun K => xiB K "InvalidRoad" "InvalidEvent" false))),
    xiB_ok (fx_at hx 34 (f := .bo (fun K => xiB K "InvalidRoad" "SitError" true))),
    xmB_ok (fx_at hx 35 (f := .bo (fun K => xmB K "InvalidEvent" "InvalidEvent" true))),
    xmB_ok (fx_at hx 36 (f := .bo (fun K => xmB K "InvalidEvent" "InvalidRoad" false))),
    xmB_ok (fx_at hx 37 (f := .bo (fun K => xmB K "InvalidRoad" "InvalidRoad" true))),
    df_of X G (fx_at hx 38 (f := .fa (.glo "_law_deal"))) s 0,
    df_of X G (fx_at hx 39 (f := .fa (.glo "_law_draw"))) s 1,
    df_of X G (fx_at hx 40 (f := .fa (.glo "_law_pick"))) s 2,
    df_of X G (fx_at hx 41 (f := .fa (.glo "_law_good"))) s 3,
    df_of X G (fx_at hx 42 (f := .fa (.glo "_law_told"))) s 4,
    df_of X G (fx_at hx 43 (f := .fa (.glo "is_integer"))) s 5,
    df_of X G (fx_at hx 44 (f := .fa (.glo "is_from"))) s 6,
    df_of X G (fx_at hx 45 (f := .fa (.glo "is_sequence"))) s 7,
    df_of X G (fx_at hx 46 (f := .fa (.glo "number_in"))) s 8,
    df_of X G (fx_at hx 47 (f := .fa (.glo "event_in"))) s 9,
    df_of X G (fx_at hx 48 (f := .fa (.glo "event_of"))) s 10,
    df_of X G (fx_at hx 49 (f := .fa (.glo "events_of"))) s 11,
    L4.kid_of X G (fx_at hx 50 (f := .fa (.glo "Road"))) (fx_at hx 10 (f := .fa (.cls "Road"))) (fx_at hx 51 (f := .fa (.mkr "Road"))) (fx_at hx 52 (f := .bo (fun K => L4.tup0B K (He.dflAt ("Road", some "__init__") 0 K)))) s 12,
    df_of X G (fx_at hx 53 (f := .fa (.glo "_law_value"))) s 13,
    md_of (fx_at hx 54 (f := .fa (.meth "Road" "further"))) s 14,
    df_of X G (fx_at hx 55 (f := .fa (.glo "_law_mixed"))) s 15,
    df_of X G (fx_at hx 56 (f := .fa (.glo "_law_bad"))) s 16,
    df_of X G (fx_at hx 21 (f := .fa (.glo "law"))) s 17⟩
theorem facts {w : World} {K : PySem.W.Frag} {h : Heap} {mg : Str → Option Value} {f : Addr} (X : K.In h) (G : h.Ns mainGlobals mg) (hfa : mg ("law" : Str) = some (.ref f)) (c : SaysW exs fns htabs w K) (LT : LawTab K h) :
    ∃ (fd : FuncData) (c0 : Addr), PySem.W.CodeHd h c0 (tabP K "law.<locals>.<lambda>") ∧ h.get? (tabP K "law.<locals>.<lambda>") = some { cls := .none, data := .fields #[] } ∧ K.lookup (tabP K "law.<locals>.<lambda>") = none ∧ (∀ (s : Shared) (v : Value), BindsTo s fd ⟨[v], []⟩ [("_law_script", v)]) ∧ ∀ base : Heap, K.In base → base.Ns mainGlobals mg → LamX.TabB base mg c0 (tabP K "law.<locals>.<lambda>") → FnG P w K mg base CX0 17 f fd ["_law_script"] (spG ⟨P, w, K⟩ 13 "law.<locals>.<lambda>" 1 14 f_law) := by
  have T := tx_of X G c
  obtain ⟨f1, fd, F, g⟩ := T.d_law.ex
  have e := hfa.symm.trans g
  cases e
  have e := T.g_law.symm.trans g
  cases e
  obtain ⟨oc2, od2, fd2, osl2, c0, l1, l2, l3, l4, l5⟩ := LT
  obtain ⟨oc, od, kV, doc, pm, an, cdv, ct, osl, rfl, lk, hcd⟩ := F.ex
  have e := lk.symm.trans l1
  cases e
  refine ⟨_, c0, l3, l4, l5, fun s v => .of_eq rfl, fun base _ _ TB => T.law_fn F l2 TB⟩
end L4
open PySem PySem.W PySem.Calls PyProof.Rows in
set_option maxRecDepth 100000 in
set_option maxHeartbeats 0 in
theorem PySem.Challenge.cw_sitout_k09_roads_refused_holds : PySem.Challenge.rw_sitout_k09_roads_refused.Holds := by
  refine L4.law_pre fun hs => L4.head_pre hs ?_
  refine L4.walkLT (l := PySem.Challenge.rw_sitout_k09_roads_refused) (n := 63) (k := 17) (x := "_law_script") (gi := 13) (N := 14) (qn := "law.<locals>.<lambda>") (b := L4.f_law) rfl (by decide) (by kernel_rfl) ⟨rfl, by decide, by decide⟩ (fun ns hn => L4.law_plain ns hn) ?F
  intro w mg fa h Y G hmg0
  obtain ⟨K, KX, c, LT⟩ := Y
  have hmg : mg ("law" : PySem.Str) = some (.ref fa) := by
    have e : (HandSHeadRun.topDef (OpenLaw.row PySem.Challenge.rw_sitout_k09_roads_refused).prog 28).name = ("law" : PySem.Str) := by kernel_rfl
    rw [← e]
    exact hmg0
  obtain ⟨fd, c0, h1, h2, h3, hb, hF⟩ := L4.facts (w := w) KX G hmg c LT
  exact ⟨K, fd, c0, _, KX, rfl, h2, h3, h1, hb, hF⟩
#print axioms PySem.Challenge.cw_sitout_k09_roads_refused_holds
