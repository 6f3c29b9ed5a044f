import PyProof.Rows.All
import Wide.All
import OpenK.AllK
import Wide.FinOn
import HandS.ForMost
import HandS.Evl
import HandS.Codes
import HandS.Defaults
import HandS.IsInst
import HandS.FStr
import KE.KStateDown
import Lean
import HandS.HeadEnd
import HandS.HeadNt
import HandS.HeadHook3
import HandS.Head0
import HandS.Head1
import HandS.Head2
import HandS.Style
import HandS.OwnEq
import KE.KCallOwn
import HandS.Star
import HandS.ClsMeth
import HandS.CallLocal
import KE.GoesNew
import KE.GoesEnum
import HandS.Walk
import HandS.Sort
import HandS.Conv
import HandS.RaiseMore
import HandS.WordsDict
import PyProof.ReprRoads
import KE.KDictKeyed
import KE.KDictPairs
import KE.KDictWalk
import KE.KDictDisplayH
import KE.KDictCopyH
import KE.KDictList
import HandS.Lambda
import HandS.ExcInit
import HandS.Deep
import HandS.TupAny
import HandS.TupMul
import HandS.Zip
import KE.KUnpackStar
import KE.SortData
import KE.KDictSum
import PyProof.TupleOfSeq
import HandS.Replace
import KE.GoesComp
import KE.GoesMore
import HandS.ReplaceLit
import HandS.More
import KE.DataFind
import KE.DataCmp
import HandS.Property
import PyProof.InstSpecial
import HandS.Exc
import HandS.TryOnly
import HandS.DictTup
import KE.KDictZip
import KE.KTupSum
import OpenK.KMeth
import HandS.ExcOwn
import HandS.WordsExc
import HandS.ExcField
import KE.KExcIs
import KE.KExcSuper
import KE.KExcInit
import PyProof.ExcBaseAll.IndexError
import HandS.SuiteRaise
import HandS.RaiseFrom
import HandS.ExcInitHot
import KE.KExcRaise
import HandS.EndTab
import HandS.ExcValue
import PySem.Challenge.RW_sitout_k01_errors_and_what_they_keep
set_option Elab.async false
set_option linter.all false
set_option maxRecDepth 100000
set_option maxHeartbeats 4000000
namespace L3
open PySem L2 Evl
def Flat : HO → Prop
  | .lst _ => True
  | .dK _ => True
  | _ => False
def anyO (P : Program) (w : World) (S : HO → Prop) (a : Addr) : HO := .ext fun h => ∃ u, S u ∧ ObjOk P w (fun _ => none) h a u
section
variable {P : Program} {w : World} {H H' : Hp} {h h' : Heap} {a : Addr} {u : HO}
theorem flat_any (f : Flat u) (o : ObjOk P w H h a u) : ObjOk P w H' h a u := by
  cases u with
  | lst xs => exact o
  | dK kvs => exact o
  | _ => exact f.elim
theorem any_of {S : HO → Prop} (f : Flat u) (s : S u) (hf : ∀ u, S u → Flat u) (o : ObjOk P w H h a u) : ObjOk P w H' h a (anyO P w S a) := by
  refine ⟨⟨u, s, flat_any f o⟩, ?_, ?_⟩
  · cases u with
    | lst xs => obtain ⟨_, its, n, _, e⟩ := o; exact ⟨_, e⟩
    | dK kvs => obtain ⟨_, _, _, _, ob, _, _, e, _⟩ := o; exact ⟨_, e⟩
    | _ => exact f.elim
  · rintro h1 h2 ⟨u', s', o'⟩ k
    refine ⟨u', s', o'.stay (fun b v hb e => ?_) (fun b e => nomatch e) fun b xs e => nomatch e⟩
    rcases hb with rfl | hb
    · exact k v e
    · cases hb
end
/-- the same heap told by less: some lists and dicts by an invariant alone -/
def Abs (P : Program) (w : World) (H H' : Hp) : Prop := ∀ a, H' a = H a ∨ ∃ u S, H a = some u ∧ (∀ u, S u → Flat u) ∧ S u ∧ H' a = some (anyO P w S a)
section
variable {P : Program} {w : World} {H H' H0 : Hp} {h h0 : Heap}
theorem Abs.hok (b : Abs P w H H') (o : HOk P w H h) : HOk P w H' h := fun a u e => by
  have ho : ∀ c y, H c = some (.own y) → H' c = some (.own y) := fun c y q => by
    rcases b c with z | ⟨u, S, e1, f, s, e2⟩
    · rw [z]; exact q
    · rw [q] at e1; cases e1; exact (f _ s).elim
  have ht : ∀ c xs, H c = some (.tup xs) → H' c = some (.tup xs) := fun c y q => by
    rcases b c with z | ⟨u, S, e1, f, s, e2⟩
    · rw [z]; exact q
    · rw [q] at e1; cases e1; exact (f _ s).elim
  rcases b a with z | ⟨u', S, e1, f, s, e2⟩
  · rw [z] at e
    exact (o a u e).stay (fun _ _ _ q => q) (fun c q => ho c a q) ht
  · rw [e2] at e
    cases e
    exact any_of (f _ s) s f (o a u' e1)
theorem Abs.un {fs ex : List Addr} (b : Abs P w H H') (u : Un fs ex H0 H h0 h) : Un fs ex H0 H' h0 h where
  keep := u.keep
  slot := u.slot
  free := fun c o q n hx => by
    have z := u.free c o q n hx
    rcases b c with r | ⟨_, _, e1, _⟩
    · rw [r]; exact z
    · rw [z] at e1; cases e1
  there := u.there
  tups := fun c xs q => by
    have z := u.tups c xs q
    rcases b c with r | ⟨_, _, e1, f, s, _⟩
    · rw [r]; exact z
    · rw [z] at e1; cases e1; exact (f _ s).elim
  frzs := fun c o v q => by
    have z := u.frzs c o v q
    rcases b c with r | ⟨_, _, e1, f, s, _⟩
    · rw [r]; exact z
    · rw [z] at e1; cases e1; exact (f _ s).elim
  tbls := fun c ps q => by
    obtain ⟨m, z⟩ := u.tbls c ps q
    rcases b c with r | ⟨_, _, e1, f, s, _⟩
    · exact ⟨m, by rw [r]; exact z⟩
    · rw [z] at e1; cases e1; exact (f _ s).elim
/-- an object told by its invariant is opened -/
theorem open_hok {a : Addr} {S : HO → Prop} (ha : H a = some (anyO P w S a)) (hf : ∀ u, S u → Flat u) (o : HOk P w H h) : ∃ u, S u ∧ HOk P w (upd H a u) h := by
  obtain ⟨⟨u, s, q⟩, _, _⟩ := o a _ ha
  have ne : ∀ b v, H b = some v → (∀ φ, v ≠ .ext φ) → b ≠ a := fun b v e n z => by
    rw [z, ha] at e; cases e; exact n _ rfl
  refine ⟨u, s, fun b v e => ?_⟩
  by_cases hb : b = a
  · subst hb
    rw [upd_same] at e
    cases e
    exact flat_any (hf _ s) q
  · rw [upd_ne hb] at e
    exact (o b v e).stay (fun _ _ _ q => q) (fun c q => by rw [upd_ne (ne c _ q (fun _ z => nomatch z))]; exact q) fun c xs q => by rw [upd_ne (ne c _ q (fun _ z => nomatch z))]; exact q
theorem open_un {fs ex : List Addr} {a : Addr} {S : HO → Prop} {u0 : HO} (ha : H0 a = some (anyO P w S a)) (x : Un fs ex (upd H0 a u0) H h0 h) : Un fs ex H0 H h0 h := by
  have ne : ∀ b v, H0 b = some v → (∀ φ, v ≠ .ext φ) → b ≠ a := fun b v e n z => by
    rw [z, ha] at e; cases e; exact n _ rfl
  have nn : ∀ b, H0 b = none → b ≠ a := fun b e z => by rw [z, ha] at e; cases e
  exact ⟨fun b o q n => x.keep b o q (by rw [upd_ne (nn b n)]; exact n), fun b o q n => x.slot b o q (by rw [upd_ne (nn b n)]; exact n), fun b o q n => x.free b o q (by rw [upd_ne (nn b n)]; exact n), x.there,
    fun b xs q => x.tups b xs (by rw [upd_ne (ne b _ q (fun _ z => nomatch z))]; exact q), fun b o v q => x.frzs b o v (by rw [upd_ne (ne b _ q (fun _ z => nomatch z))]; exact q), fun b ps q => x.tbls b ps (by rw [upd_ne (ne b _ q (fun _ z => nomatch z))]; exact q)⟩
end
section
variable {P : Program} {w : World} {K : PySem.W.Frag} {mg : Str → Option Value} {base : Heap} {k : Nat} {f : Addr} {fd : FuncData} {ps : List Str} {sp : Sp}
/-- an object told by an invariant is opened ahead of the call -/
def opened (P : Program) (w : World) (n : Nat) (sp : Sp) : Sp := fun vs H Q E => vs.length = n ∧ ∃ a S, H a = some (anyO P w S a) ∧ (∀ u, S u → Flat u) ∧ ∀ u, S u → sp vs (upd H a u) Q E
theorem pre (F : FnOk P w K mg base CX0 k f fd ps sp) : FnOk P w K mg base CX0 k f fd ps (opened P w ps.length sp) := by
  refine ⟨fun vs H Q E h => h.1, fun A outer s H args us vs Q E hr he hb hv hs => ?_⟩
  obtain ⟨_, a, S, ha, hf, hq⟩ := hs
  obtain ⟨u, su, ok⟩ := open_hok ha hf he.hok
  have nn : ∀ b, H b = none → b ≠ a := fun b e z => by rw [z, ha] at e; cases e
  have he' : Env0 P w K mg base A outer s (upd H a u) := ⟨he.frames, he.mod, fun b o q => ⟨(he.bs b o q).1, by rw [upd_ne (nn b (he.bs b o q).2)]; exact (he.bs b o q).2⟩, he.bsz, he.funs, fun b q => by rw [upd_ne (nn b (he.frf b q))]; exact he.frf b q, ok, he.bare⟩
  refine codeAny_mono (F.run A outer s (upd H a u) args us vs Q E hr he' hb hv (hq u su)) fun r s' z => ?_
  cases r with
  | error e => exact z.elim
  | ok fl =>
    cases fl with
    | ret u' =>
      obtain ⟨v, H', e1, e2, un, ok', rv, q⟩ := z
      exact ⟨v, H', e1, e2, open_un ha un, ok', rv, q⟩
    | _ => exact z
end
end L3
namespace L3
open PySem L2 Evl
end L3
namespace L3
open PySem L2 Evl
structure Df (K : PySem.W.Frag) (mg : Str → Option Value) (x : Str) (st : Stmt) : Prop where
  ex : ∃ f fd, Fun K x x st f fd ∧ mg x = some (.ref f)
structure Fn (P : Program) (w : World) (K : PySem.W.Frag) (mg : Str → Option Value) (base : Heap) (k : Nat) (x : Str) (ps : List Str) (sp : Sp) : Prop where
  ex : ∃ f fd, FnOk P w K mg base CX0 k f fd ps sp ∧ mg x = some (.ref f) ∧ PySem.W.keepIn K (.ref f) = true ∧ Binds K fd ps []
/-- a method -/
structure Md (K : PySem.W.Frag) (C : Addr) (m q : Str) (st : Stmt) : Prop where
  ex : ∃ f fd, Fun K m q st f fd ∧ Meth K C m f
/-- a class with its __init__ -/
structure Ki (K : PySem.W.Frag) (mg : Str → Option Value) (x : Str) (C : Addr) (q : Str) (st : Stmt) : Prop where
  cl : Cls K C
  mgC : mg x = some (.ref C)
  ex : ∃ f fd, Fun K "__init__" q st f fd ∧ Mk K C f
section
variable {P : Program} {w : World} {K : PySem.W.Frag} {mg : Str → Option Value} {base : Heap} {k : Nat} {x q m : Str} {C : Addr} {ps N : List Str} {sp sp' : Sp} {st : Stmt}
theorem Fn.pre (F : Fn P w K mg base k x ps sp) : Fn P w K mg base k x ps (opened P w ps.length sp) := by
  obtain ⟨f, fd, F, r⟩ := F.ex
  exact ⟨f, fd, L3.pre F, r⟩
end
def rAbs : List V → Hp → VK → Prop := fun xs H Q => ∃ i, xs = [.int i] ∧ Q (.int (if i < 0 then -i else i)) H
theorem call_abs' {X : Cx} : CallR X (.builtin "abs") rAbs := call_abs
end L3
namespace L3
end L3
namespace L3
open PySem PySem.W PyProof.Rows
def obsB (ex : Frag → Bool) (fn : List He5.DefA) (K : Frag) : He.AlD := (ex K && fn.all fun d => d.ok K, fn.map fun d => He5.fnA K (d.at_ K))
def SaysB (ex : Frag → Bool) (fn : List He5.DefA) (K : Frag) : Prop := obsB ex fn K = He5.valA fn
def obsBG (n : Nat) (ex : Frag → Bool) (fn : List He5.DefA) (g : Addr → Option Obj) : He.AlD := obsB ex fn (He.frG g (He5.asA g n))
section
variable {ex : Frag → Bool} {fn : List He5.DefA} {K : Frag}
theorem SaysB.fx (c : SaysB ex fn K) : ex K = true :=
  (He.ba (show (ex K && fn.all fun d => d.ok K) = true from congrArg (fun z : He.AlD => z.1) c)).1
theorem SaysB.def_ (c : SaysB ex fn K) (i : Nat) {d : He5.DefA} (h : fn[i]? = some d := by rfl) : ∃ fd, L2.FunD K d.name d.qual d.params d.body d.scope (d.dvs K) (d.kws K) (d.at_ K) fd := by
  have c2 := (He.ba (show (ex K && fn.all fun d => d.ok K) = true from congrArg (fun z : He.AlD => z.1) c)).2
  have e : fn.map (fun d => He5.fnA K (d.at_ K)) = fn.map He5.DefA.val := congrArg (fun z : He.AlD => z.2) c
  have e2 : (fn.map fun d => He5.fnA K (d.at_ K))[i]? = (fn.map He5.DefA.val)[i]? := by rw [e]
  rw [List.getElem?_map, List.getElem?_map, h] at e2
  exact He5.DefA.funD (Option.some.inj e2) (List.all_eq_true.mp c2 d (List.mem_of_getElem? h))
end
/-- one fact more, a tuple of the top among them -/
inductive Fx where
  | fa (f : He.Fa)
  | tup (x : PySem.Str) (vs : List He.Dv)
  | wrap (x m : PySem.Str)
  | dic (x : PySem.Str)
  | insc (x : PySem.Str)
  | bo (f : Frag → Bool)
def Fx.ok0 (K : Frag) : Fx → Bool
  | .fa f => f.ok K
  | _ => false
def Fx.ok (K : Frag) : Fx → Bool
  | .fa f => f.ok K
  | .tup x vs => He.tupB K x vs
  | .wrap x m => He5.wrapB K (He.ga K x) "classmethod" "classmethod.__get__" m
  | .dic x => (He.dicW K (He.ga K x)).isSome
  | .bo f => f K
  | .insc x => (Fx.fa (.cls x)).ok0 K && (He.eqO (findIn K (.ref (He.ga K x)) "__class__") (some (some (.builtin "object.__class__"))) && (He.eqO (specialIn K (.builtin "object.__class__") "__get__") (some (some (.builtin "getset_descriptor.__get__"))) &&
    (decide (takesIn K (.builtin "object.__class__") = some true) && (decide (mroIn K (He.ga K x) (.type "object") = some true) && decide (kitOne K (.ref (He.ga K x)) (.ref (He.ga K x)) = some true)))))
theorem fx_at {fx : List Fx} {K : Frag} (h : (fx.all fun f => f.ok K) = true) (i : Nat) {f : Fx} (e : fx[i]? = some f := by rfl) : f.ok K = true := List.all_eq_true.mp h f (List.mem_of_getElem? e)
def gdef (x : PySem.Str) (st : Stmt) : He5.DefA := ⟨fun K => He.ga K x, x, x, L2.defArgs st, L2.defBody st, L2.defScope st, [], []⟩
def mdef (c m q : PySem.Str) (st : Stmt) : He5.DefA := ⟨fun K => He.ma K (He.ga K c) m, m, q, L2.defArgs st, L2.defBody st, L2.defScope st, [], []⟩
section
variable {K : Frag} {h : Heap} {mg : PySem.Str → Option Value} {ex : Frag → Bool} {fn : List He5.DefA} {x c m q : PySem.Str} {st : Stmt}
theorem df_of (X : K.In h) (G : h.Ns mainGlobals mg) (f : (Fx.fa (.glo x)).ok K = true) (s : SaysB ex fn K) (i : Nat) (e : fn[i]? = some (gdef x st) := by rfl) : Df K mg x st := by
  obtain ⟨fd, F⟩ := s.def_ i e
  exact ⟨He.ga K x, fd, He5.fun_of F, He.glo_ok X G f⟩
theorem md_of (f : (Fx.fa (.meth c m)).ok K = true) (s : SaysB ex fn K) (i : Nat) (e : fn[i]? = some (mdef c m q st) := by rfl) : Md K (He.ga K c) m q st := by
  obtain ⟨fd, F⟩ := s.def_ i e
  exact ⟨He.ma K (He.ga K c) m, fd, He5.fun_of F, He.meth_ok f⟩
theorem ki_of (X : K.In h) (G : h.Ns mainGlobals mg) (f : (Fx.fa (.glo x)).ok K = true) (f1 : (Fx.fa (.cls x)).ok K = true) (f2 : (Fx.fa (.mkr x)).ok K = true) (s : SaysB ex fn K) (i : Nat) (e : fn[i]? = some (mdef x "__init__" q st) := by rfl) : Ki K mg x (He.ga K x) q st := by
  obtain ⟨fd, F⟩ := s.def_ i e
  exact ⟨He.cls_ok f1, He.glo_ok X G f, He.ma K (He.ga K x) "__init__", fd, He5.fun_of F, He.mkr_ok f2⟩
end
abbrev Tabs := List (PySem.Str × List PySem.Str)
def tabsOf (ts : Tabs) (K : Frag) : List (Option (List (Option (PySem.Str × Int)))) := ts.map fun t => He.dicW K (He.ga K t.1)
def tabsIn (ts : Tabs) (P : Params) : List (Option (List (Option (PySem.Str × Int)))) := ts.map fun t => some (He.keysIn P t.2)
def obsWG (n : Nat) (ex : Frag → Bool) (fn : List He5.DefA) (ts : Tabs) (g : Addr → Option Obj) : He.AlD × List (Option (List (Option (PySem.Str × Int)))) := (obsBG n ex fn g, tabsOf ts (He.frG g (He5.asA g n)))
structure SaysW (ex : Frag → Bool) (fn : List He5.DefA) (ts : Tabs) (w : World) (K : Frag) : Prop where
  b : SaysB ex fn K
  t : tabsOf ts K = tabsIn ts w.params
def hookW (n : Nat) (ex : Frag → Bool) (fn : List He5.DefA) (ts : Tabs) : PySem.W.Hook where
  α := He.AlD × List (Option (List (Option (PySem.Str × Int))))
  obs := fun s => obsWG n ex fn ts s.heap.get?
  val := fun w => (He5.valA fn, tabsIn ts w.params)
  says := fun w h => ∃ K : Frag, K.In h ∧ SaysW ex fn ts w K
  of := fun w s e => ⟨He.frG s.heap.get? (He5.asA s.heap.get? n), He.frG_in, ⟨congrArg Prod.fst e, congrArg Prod.snd e⟩⟩
  keeps := fun _ _ _ ⟨K, hK, c⟩ k => ⟨K, Frag.In.keeps hK k, c⟩
theorem obsWG_eq {n : Nat} {ex : Frag → Bool} {fn : List He5.DefA} {ts : Tabs} {g : Addr → Option Obj} {s : Shared} (h : ∀ a, g a = s.heap.get? a) : obsWG n ex fn ts g = (hookW n ex fn ts).obs s := by
  have e : g = s.heap.get? := funext h
  rw [e] <;> rfl
theorem SaysW.tab {ex : Frag → Bool} {fn : List He5.DefA} {ts : Tabs} {w : World} {K : Frag} (c : SaysW ex fn ts w K) (i : Nat) {t : PySem.Str × List PySem.Str} (h : ts[i]? = some t := by rfl) : ∃ es n, L2.KDict K w (He.ga K t.1) es n := by
  have e : (tabsOf ts K)[i]? = (tabsIn ts w.params)[i]? := by rw [c.t]
  unfold tabsOf tabsIn at e
  rw [List.getElem?_map, List.getElem?_map, h] at e
  exact He.dicW_ok (Option.some.inj e)
end L3
namespace L3
open PySem L2 Evl
end L3
namespace L3
open PySem L2 Evl
end L3
namespace L3
open PySem L2 Evl
end L3
namespace L3
open PySem L2 Evl TL
end L3
namespace L3
open PySem L2 Evl TL
end L3
namespace L3
open PySem L2 Evl TL
end L3
namespace L3
open PySem L2 Evl TL
end L3
namespace L3
open PySem L2 Evl TL
end L3
namespace L3
open PySem L2 Evl TL
structure Cmd (K : PySem.W.Frag) (C : Addr) (m q : Str) (st : Stmt) : Prop where
  ex : ∃ p g fd, Fun K m q st g fd ∧ ClX.CRead K C (.type "type") ∧ ClX.CMet K C (.type "type") m p g
def cmB (x m : Str) (K : PySem.W.Frag) : Bool := He5.wrapB K (He.ga K x) "classmethod" "classmethod.__get__" m && (PySem.W.fnIn K (He5.wf K (He.ga K x) "classmethod" m) && (PySem.W.readsIn K (He.ga K x) (.type "type") && He.eqO (PySem.W.specialIn K (.ref (He.ga K x)) "__getattribute__") (some (some (.builtin "type.__getattribute__")))))
def cdef (c m q : Str) (st : Stmt) : He5.DefA := ⟨fun K => He5.wf K (He.ga K c) "classmethod" m, m, q, L2.defArgs st, L2.defBody st, L2.defScope st, [], []⟩
theorem cmd_of {K : PySem.W.Frag} {x m q : Str} {st : Stmt} {ex : PySem.W.Frag → Bool} {fn : List He5.DefA} (f : cmB x m K = true) (s : SaysB ex fn K) (i : Nat) (e : fn[i]? = some (cdef x m q st) := by rfl) : Cmd K (He.ga K x) m q st := by
  obtain ⟨h1, h⟩ := He.ba f
  obtain ⟨h2, h⟩ := He.ba h
  obtain ⟨h3, h4⟩ := He.ba h
  obtain ⟨fd, F⟩ := s.def_ i e
  exact ⟨_, _, fd, He5.fun_of F, ⟨h3, He.eqO_ok h4⟩, He5.cmet_of h1 h2⟩
end L3
namespace L3
open PySem L2 Evl TL
end L3
namespace L3
open PySem L2 Evl TL
end L3
namespace L3
open PySem L2 Evl TL
end L3
namespace L3
open PySem L2 Evl TL
end L3
namespace L3
open PySem L2 Evl TL
end L3
namespace L3
open PySem PySem.Spec PyProof.Rows L2 Evl TL
end L3
namespace L3
open PySem PySem.Spec PyProof.Rows L2 Evl TL
def reprV : V → Str
  | .int i => toString i
  | .bl b => if b then "True" else "False"
  | _ => "None"
def rReprV : List V → Hp → VK → Prop := fun xs H Q => ∃ v, xs = [v] ∧ ((∃ i, v = .int i ∧ i.natAbs.log2 < 1920) ∨ (∃ b, v = .bl b) ∨ v = .non) ∧ Q (.str (reprV v)) H
theorem call_reprV {X : Cx} : CallR X (.builtin "repr") rReprV := by
  intro pins s σ H xs us Q I r h
  obtain ⟨v, rfl, hv, q⟩ := h
  obtain ⟨u, rfl, ru⟩ := vals1 r
  rcases hv with ⟨i, rfl, hz⟩ | ⟨b, rfl⟩ | rfl
  · obtain ⟨t, rfl⟩ := ru
    exact PySem.P.repr_of_int hz ⟨.str (toString i), H, I.tok _, ⟨_, rfl⟩, q⟩
  · cases (show u = Value.bool b from ru)
    refine PySem.P.repr_of_bool ⟨.str _, H, I.tok _, ⟨_, rfl⟩, ?_⟩
    exact q
  · cases (show u = Value.none from ru)
    refine PySem.P.repr_of_none ⟨.str _, H, I.tok _, ⟨_, rfl⟩, ?_⟩
    exact q
end L3
namespace L3
open PySem L2 Evl TL
end L3
namespace L3
open PySem PySem.Spec PyProof.Rows L2 Evl TL
end L3
namespace L3
open PySem PySem.Spec PyProof.Rows L2 Evl TL
/-- what is no list still stands -/
def Kt (H H' : Hp) : Prop := ∀ a u, H a = some u → (∀ ys, u ≠ .lst ys) → H' a = some u
end L3
namespace L3
open PySem PySem.Spec PyProof.Rows L2 Evl TL
structure FnG (P : Program) (w : World) (K : PySem.W.Frag) (mg : Str → Option Value) (base : Heap) (k : Nat) (f : Addr) (fd : FuncData) (ps : List Str) (sp : Sp) : Prop where
  len : ∀ vs H Q E, sp vs H Q E → vs.length = ps.length
  run : ∀ (A : Around) (outer : List Env) (s : Shared) (H : Hp) (args : Args) (us : List Value) (vs : List V) (Q : VK) (E : XK), A.guards = some [] → Room k A → Env0 P w K mg base A outer s H →
    BindsTo s fd args (ps.zip us) → Vals vs us → sp vs H Q E → codeAny (model P w) A (.call (.ref f) args) (CR CX0 outer P w H s Q E) s
section
variable {P : Program} {w : World} {K : PySem.W.Frag} {mg : Str → Option Value} {base : Heap} {k : Nat}
theorem fnG_of {f : Addr} {x q : Str} {st : Stmt} {fd : FuncData} {N ps : List Str} {sp : Sp} (F : Fun K x q st f fd) (S : FnScope N ps (defScope st)) (len : ∀ vs H Q E, sp vs H Q E → vs.length = ps.length)
    (hbody : ∀ (cdv : Value) (A : Around) (outer : List Env) (s : Shared) (H : Hp) (vs : List V) (Q : VK) (E : XK), A.guards = some [] → Room k (A.deeper (envOfC q (defScope st) s.heap.objs.size f cdv)) → sp vs H Q E →
      ∃ t, PSs (cxOf CX0 P w K mg base N q (defScope st) f cdv A outer s H E).nox (defBody st) t ∧ t { nx := fun _ H' => Q .non H', rt := Q } (start N vs) H) : FnG P w K mg base (k + 1) f fd ps sp := by
  obtain ⟨oc, od, kV, doc, pm, an, cdv, ct, osl, rfl, lk, hcd⟩ := F.ex
  refine ⟨len, ?_⟩
  intro A outer s H args us vs Q E hg hr e0 hb r hsp
  have keep : ∀ b o, base.get? b = some o → s.heap.get? b = some o := fun b o e => (e0.bs b o e).1
  have KX : K.In s.heap := e0.mod.kin.keeps keep
  have par : ∀ y ∈ ps.zip us, (defScope st).names.lookup y.1 = some .local ∨ ((defScope st).names.lookup y.1 = some .cell ∧ ((cellsFrom (s.heap.objs.size + 1) (defScope st).names []).lookup y.1).isSome = true) := by
    rintro ⟨n, v⟩ hy
    cases S.par n (List.of_mem_zip hy).1 with
    | inl z => exact .inl z
    | inr z => exact .inr ⟨z, PySem.W.cellsFrom_some _ _ _ (.inl z)⟩
  refine codeAny_call_function hr.depth (KX _ _ lk) rfl S.co S.gen rfl (PySem.W.codeRec_of KX hcd) ?_
  refine hb _ _ _ _ ?_
  refine wpAny_newFunctionEnv_cells S.kind par ?_
  rintro env rfl s1 x
  refine ⟨(e0.mod.nolimit.keeps keep).keeps x.toInCall.keep, ?_⟩
  refine codeAny_func ?_
  obtain ⟨t, ht, hq⟩ := hbody cdv A outer s H vs Q E hg (hr.deeper _) hsp
  have I : Inv (cxOf CX0 P w K mg base N q (defScope st) f cdv A outer s H E) [] (start N vs) H s1 := inv_start S hr.hd e0 (len _ _ _ _ hsp) r x
  refine wpAny_mono (ht.nox.run [] s1 (start N vs) H _ I hq) ?_ (fun _ _ z => z)
  intro fl s' hs
  match fl, hs with
  | .ret u, ⟨v, σ', H', J, rv, z⟩ => exact ⟨v, H', J.os, J.bare, J.base, J.hok, rv, z⟩
  | .next, ⟨σ', H', J, z⟩ => exact ⟨.non, H', J.os, J.bare, J.base, J.hok, rfl, z⟩
  | .brk, ⟨_, _, _, z⟩ => exact z.elim
  | .cont, ⟨_, _, _, z⟩ => exact z.elim
end
section
variable {P : Program} {w : World} {K : PySem.W.Frag} {mg mb : Str → Option Value} {k : Nat} {fa a : Addr} {fd : FuncData} {x : Str} {sp : Sp} {s₁ : Shared} {vs : List Value} {ns : List Int}
/-- the call of a law from an abstract heap that knows of the script at most -/
theorem callG_core {H : Hp} (KX : K.In s₁.heap) (hns : s₁.heap.Ns mainGlobals mg) (hb : s₁.heap.Ns builtinsNs mb) (hbb : ∀ x : Str, x ≠ "__name__" → mb x = bootBuiltins x) (hlim : s₁.heap.NoLimit) (hg : s₁.gens = #[])
    (isL : s₁.heap.get? a = some { cls := .type "list", data := .seq vs.toArray }) (hr : Room k callerA)
    (F : ∀ base : Heap, K.In base → base.Ns mainGlobals mg → FnG P w K mg base k fa fd [x] sp) (hbind : ∀ (s : Shared) (u : Value), BindsTo s fd ⟨[u], []⟩ [(x, u)])
    (hsp : sp [.ref a] H (fun v _ => v = .bl true) fun _ _ _ => False) (hO : Only H) (hok : HOk P w H s₁.heap) (hA : ∀ b, H b ≠ none → b = a) (hK : H a ≠ none → K.lookup a = none) :
    codeAny (model P w) callerA (.call (.ref fa) ⟨[.ref a], []⟩) (fun r s' => r = .ok (.ret (.bool true)) ∧ OldK s₁.heap s'.heap ∧ s'.os = s₁.os ∧ AllBare s'.gens) s₁ := by
  have free : ∀ b, b ≠ a → H b = none := fun b hne => by
    cases z : H b with
    | none => rfl
    | some u => exact absurd (hA b (by rw [z]; simp)) hne
  have stays : ∀ {b : Addr} {m : Str → Option Value}, s₁.heap.Ns b m → (hidT s₁.heap H).Ns b m := by
    rintro b m ⟨o, es, ep, e, d, rest⟩
    refine ⟨o, es, ep, hidT_get e (free b fun z => ?_), d, rest⟩
    rw [z, isL] at e
    cases e
    exact Data.noConfusion d
  have inB : K.In (hidT s₁.heap H) := by
    intro b o e
    refine hidT_get (KX b o e) ?_
    cases z : H b with
    | none => rfl
    | some u =>
      have nz : H b ≠ none := by rw [z]; simp
      have ea := hA b nz
      rw [ea] at e nz
      rw [hK nz] at e
      cases e
  obtain ⟨mc, lim1, lim2⟩ := hlim
  have md : Mod K mg (hidT s₁.heap H) := ⟨inB, stays hns, ⟨mb, stays hb, hbb⟩, ⟨mc, stays lim1, lim2⟩⟩
  have env : Env0 P w K mg (hidT s₁.heap H) callerA [] s₁ H := by
    refine ⟨rfl, md, fun b o e => of_hidT e, Nat.le_of_eq (hidT_size _ _), trivial, ?_, hok, .of_eq hg⟩
    intro b hb
    exact nomatch (show b ∈ ([] : List Addr) from hb)
  have go := (F _ inB (stays hns)).run callerA [] s₁ H ⟨[.ref a], []⟩ [.ref a] [.ref a] _ _ rfl hr env (hbind s₁ (.ref a)) (.cons rfl .nil) hsp
  refine codeAny_mono go ?_
  intro r s' h
  match r, h with
  | .ok (.ret u), ⟨v, H', os, bare, un, hok', ru, (ev : v = .bl true)⟩ =>
    subst ev
    cases (show u = Value.bool true from ru)
    refine ⟨rfl, OldK.of_keep ?_, os, bare⟩
    intro b o e
    rcases hO b with z | ⟨ob, xs, z⟩
    · exact un.keep b o e z (fun w => nomatch (show b ∈ ([] : List Addr) from w)) (by simp)
    · have e1 := (hok b _ z).1
      have e2 := (hok' b _ (un.frzs b ob _ z)).1
      rw [e] at e1
      cases e1
      exact e2
theorem callG {n : Nat} (KX : K.In s₁.heap) (hns : s₁.heap.Ns mainGlobals mg) (hb : s₁.heap.Ns builtinsNs mb) (hbb : ∀ x : Str, x ≠ "__name__" → mb x = bootBuiltins x) (hlim : s₁.heap.NoLimit) (hg : s₁.gens = #[])
    (isL : s₁.heap.get? a = some { cls := .type "list", data := .seq vs.toArray }) (hi : IntsAre vs ns) (hl : ns.length ≤ sizeLine) (hr : Room k callerA)
    (F : ∀ base : Heap, K.In base → base.Ns mainGlobals mg → FnG P w K mg base k fa fd [x] sp) (hbind : ∀ (s : Shared) (u : Value), BindsTo s fd ⟨[u], []⟩ [(x, u)])
    (hsp : ∀ H : Hp, Only H → SqL K H a (ns.map V.int) → sp [.ref a] H (fun v _ => v = .bl true) fun _ _ _ => False) :
    codeAny (model P w) callerA (.call (.ref fa) ⟨[.ref a], []⟩) (fun r s' => r = .ok (.ret (.bool true)) ∧ OldK s₁.heap s'.heap ∧ s'.os = s₁.os ∧ AllBare s'.gens) s₁ := by
  have rv := vals_ints hi
  have lenV := hi.length
  cases own : K.lookup a with
  | some o =>
    have e := KX a o own
    rw [isL] at e
    cases e
    have hO : Only (fun _ => none) := fun _ => .inl rfl
    have hS : SqL K (fun _ => none) a (ns.map V.int) := .inr ⟨_, vs.toArray, _, own, rfl, rfl, rfl, by rw [List.size_toArray, lenV]; exact hl, by simpa using rv⟩
    exact callG_core KX hns hb hbb hlim hg isL hr F hbind (hsp _ hO hS) hO (fun b u z => by cases z) (fun b z => absurd rfl z) (fun z => absurd rfl z)
  | none =>
    let H0 : Hp := fun b => if b = a then some (.frz { cls := .type "list", data := .seq vs.toArray } (.lst (ns.map V.int))) else none
    have at_a : H0 a = some (.frz { cls := .type "list", data := .seq vs.toArray } (.lst (ns.map V.int))) := if_pos rfl
    have off : ∀ b, b ≠ a → H0 b = none := fun b z => if_neg z
    have hO : Only H0 := fun b => by
      by_cases z : b = a
      · rw [z]; exact .inr ⟨_, _, at_a⟩
      · exact .inl (off b z)
    have hS : SqL K H0 a (ns.map V.int) := .inl (.inr ⟨{ cls := .type "list", data := .seq vs.toArray }, at_a⟩)
    refine callG_core KX hns hb hbb hlim hg isL hr F hbind (hsp _ hO hS) hO ?_ ?_ (fun _ => own)
    · intro b u hu
      by_cases z : b = a
      · subst z
        rw [at_a] at hu
        cases hu
        exact ⟨isL, by rw [List.length_map]; exact hl, vs, _, rv, isL⟩
      · rw [off b z] at hu
        cases hu
    · intro b hne
      by_cases z : b = a
      · exact z
      · exact absurd (off b z) hne
end
end L3
namespace L4
open PySem L2
inductive D where
  | non | bl (b : Bool) | int (i : Int) | str (x : Str) | tup (ds : List D) | lst (ds : List D) | scr (ds : List D) | dic (ks vs : List D) | obj (c : Str) (ns : List Str) (vs : List D) | ref (n : Nat) | glo (x : Str) | ty (n : String) | ptp (ds : List D) | tab (q : Str) | exn (c : Str) (ns : List Str) (vs : List D)
instance : Inhabited D := ⟨.non⟩
inductive O where
  | lst (ds : List D) | dic (ks vs : List D) | ins (c : Str) (ns : List Str) (vs : List D)
abbrev M := List O
structure G where
  P : Program
  w : World
  K : PySem.W.Frag
abbrev gx (X : Cx) : G := ⟨X.prog, X.w, X.K⟩
mutual
def nk : D → Option NestedKey
  | .non => some .none
  | .bl b => some (.num (if b then 1 else 0))
  | .int i => some (.num i)
  | .str x => some (.text x)
  | .tup ds => (nks ds).map .tup
  | .lst _ => none
  | .scr _ => none
  | .dic _ _ => none
  | .obj _ _ _ => none
  | .ref _ => none
  | .glo _ => none
  | .ty _ => none
  | .tab _ => none
  | .exn _ _ _ => none
  | .ptp _ => none
def nks : List D → Option (List NestedKey)
  | [] => some []
  | d :: ds => match nk d, nks ds with
    | some k, some ks => some (k :: ks)
    | _, _ => none
end
/-- a tuple that is a key -/
def nkT : D → Option NestedKey
  | .tup ds => match nks ds with
    | some ks => if (NestedKey.tup ks).depth ≤ 8 then some (.tup ks) else none
    | none => none
  | _ => none
/-- a dict with nested keys, by its own object -/
def dnO (g : G) (a : Addr) (kvs : List (NestedKey × Addr × V)) : HO := .ext fun h => kvs.length ≤ sizeLine ∧ (a == sysModules) = false ∧ ∃ xs : List (NestedKey × Addr × Value),
  Paired (fun (p : NestedKey × Addr × V) (q : NestedKey × Addr × Value) => p.1 = q.1 ∧ p.2.1 = q.2.1 ∧ RelV p.2.2 q.2.2) kvs xs ∧
  ∃ o es ep, h.get? a = some o ∧ o.ExactDict ∧ o.data = .dict es ep ∧ es.toList = xs.map (entryOfKey (nestedKind g.P g.w)) ∧ (xs.map (·.1)).Nodup
/-- the table of the code object of law -/
def tabP (K : PySem.W.Frag) (_ : Str) : Addr := match K.lookup (He.ga K "law") with
  | some ⟨_, _, .func fd, _⟩ => (match fd.code with
    | Value.ref c => (match K.lookup c with
      | some ⟨_, _, .fields vs, _⟩ => (match vs[11]? with
        | some (Value.ref P) => P
        | _ => 0)
      | _ => 0)
    | _ => 0)
  | _ => 0
/-- what is tracked, and what may not be held as plain data -/
structure Tk where
  μ : List Addr
  ν : List Addr
  τ : List (Addr × Str)
  sub : ∀ a ∈ μ, a ∈ ν
  subτ : ∀ p ∈ τ, p.1 ∈ ν
/-- a read list, tuple that is not tracked: in the heap, or of the top -/
def FL (T : Tk) (H : Hp) (a : Addr) (vs : List V) : Prop := a ∉ T.ν ∧ H a = some (.lst vs)
/-- the script -/
def FS (K : PySem.W.Frag) (T : Tk) (H : Hp) (a : Addr) (vs : List V) : Prop := (a ∉ T.ν ∧ ∃ o, H a = some (.frz o (.lst vs))) ∨ SqL K (fun _ => none) a vs
def FT (K : PySem.W.Frag) (T : Tk) (H : Hp) (a : Addr) (vs : List V) : Prop := (a ∉ T.ν ∧ Rd H a (.tup vs)) ∨ SqT K (fun _ => none) a vs
/-- a tuple without a dict of its own, held as it is -/
def FP (T : Tk) (H : Hp) (a : Addr) (vs : List V) : Prop := a ∉ T.ν ∧ ∃ o : Obj, H a = some (.frz o (.tup vs)) ∧ o.dict = none
mutual
inductive Rep (g : G) (T : Tk) (H : Hp) : D → V → Prop
  | non : Rep g T H .non .non
  | bl (b) : Rep g T H (.bl b) (.bl b)
  | int (i) : Rep g T H (.int i) (.int i)
  | str (x) : Rep g T H (.str x) (.str x)
  | tup {a vs ds} : FT g.K T H a vs → RepL g T H ds vs → Rep g T H (.tup ds) (.ref a)
  | lst {a vs ds} : FL T H a vs → RepL g T H ds vs → Rep g T H (.lst ds) (.ref a)
  | scr {a vs ds} : FS g.K T H a vs → RepL g T H ds vs → Rep g T H (.scr ds) (.ref a)
  | dicF {a kvs ks vs} : a ∉ T.ν → Rd H a (.dK kvs) → RepL g T H ks (kvs.map fun p => kV p.1) → RepL g T H vs (kvs.map Prod.snd) → Rep g T H (.dic ks vs) (.ref a)
  | dicN {a kvs ks vs} : a ∉ T.ν → Rd H a (dnO g a kvs) → (ks.map nkT = kvs.map (fun p => some p.1) ∧ kvs ≠ []) → RepL g T H ks (kvs.map fun p => .ref p.2.1) → RepL g T H vs (kvs.map fun p => p.2.2) → Rep g T H (.dic ks vs) (.ref a)
  | obj {a dx fs c ns vs} : a ∉ T.ν → H a = some (.ins (He.ga g.K c) dx fs) → fs.map Prod.fst = ns → RepL g T H vs (fs.map Prod.snd) → Rep g T H (.obj c ns vs) (.ref a)
  | ref {n a} : T.μ[n]? = some a → Rep g T H (.ref n) (.ref a)
  | glo (x) : Rep g T H (.glo x) (.ref (He.ga g.K x))
  | ty (n) : Rep g T H (.ty n) (.ty n)
  | tab {q : Str} : T.τ = [(tabP g.K q, q)] → Rep g T H (.tab q) (.ref (tabP g.K q))
  | exn0 {a c} : a ∉ T.ν → H a = some (exo a (He.ga g.K c) none) → Rep g T H (.exn c [] []) (.ref a)
  | exn1 {a dx fs c ns vs} : a ∉ T.ν → dx ∉ T.ν → H a = some (exo a (He.ga g.K c) (some dx)) → H dx = some (.xd fs) → fs.map Prod.fst = ns → RepL g T H vs (fs.map Prod.snd) → Rep g T H (.exn c ns vs) (.ref a)
  | ptp {a vs ds} : FP T H a vs → RepL g T H ds vs → Rep g T H (.ptp ds) (.ref a)
inductive RepL (g : G) (T : Tk) (H : Hp) : List D → List V → Prop
  | nil : RepL g T H [] []
  | cons {d v ds vs} : Rep g T H d v → RepL g T H ds vs → RepL g T H (d :: ds) (v :: vs)
end
/-- what came later: what isn't tracked stays, what is newly tracked was new -/
structure Le (T : Tk) (H : Hp) (T' : Tk) (H' : Hp) : Prop where
  pre : T.μ <+: T'.μ
  keep : ∀ a u, H a = some u → a ∉ T.μ → (∀ p ∈ T.τ, p.1 ≠ a) → H' a = some u
  tb : T'.τ = T.τ
  tk : ∀ p ∈ T.τ, ∀ u, H p.1 = some u → ∃ u', H' p.1 = some u'
  new : ∀ a ∈ T'.ν, a ∉ T.ν → H a = none
  newμ : ∀ a ∈ T'.μ, a ∉ T.μ → H a = none
  up : ∀ a ∈ T.ν, a ∈ T'.ν
section
variable {g : G} {T T1 T2 : Tk} {H H1 H2 : Hp}
theorem Tk.out {a : Addr} (h : a ∉ T.ν) : a ∉ T.μ := fun z => h (T.sub a z)
theorem Tk.outτ {a : Addr} (h : a ∉ T.ν) : ∀ p ∈ T.τ, p.1 ≠ a := fun p hp e => h (e ▸ T.subτ p hp)
theorem Le.refl : Le T H T H := ⟨List.prefix_rfl, fun _ _ h _ _ => h, rfl, fun _ _ u h => ⟨u, h⟩, fun _ h n => absurd h n, fun _ h n => absurd h n, fun _ h => h⟩
theorem Le.out (l : Le T H T1 H1) {a : Addr} {u : HO} (h : H a = some u) (n : a ∉ T.ν) : a ∉ T1.ν := fun z => by rw [l.new a z n] at h; cases h
theorem Le.rd (l : Le T H T1 H1) {a : Addr} {u : HO} (h : Rd H a u) (n : a ∉ T.ν) : Rd H1 a u ∧ a ∉ T1.ν := by
  rcases h with h | ⟨o, h⟩
  · exact ⟨.inl (l.keep _ _ h (Tk.out n) (Tk.outτ n)), l.out h n⟩
  · exact ⟨.inr ⟨o, l.keep _ _ h (Tk.out n) (Tk.outτ n)⟩, l.out h n⟩
theorem Le.get (l : Le T H T1 H1) {n : Nat} {a : Addr} (h : T.μ[n]? = some a) : T1.μ[n]? = some a := by
  obtain ⟨t, e⟩ := l.pre
  rw [← e, List.getElem?_append_left (List.getElem?_eq_some_iff.mp h).1]
  exact h
theorem FL.le {a : Addr} {vs : List V} (l : Le T H T1 H1) (h : FL T H a vs) : FL T1 H1 a vs := ⟨l.out h.2 h.1, l.keep _ _ h.2 (Tk.out h.1) (Tk.outτ h.1)⟩
theorem FS.le {K : PySem.W.Frag} {a : Addr} {vs : List V} (l : Le T H T1 H1) (h : FS K T H a vs) : FS K T1 H1 a vs := by
  rcases h with ⟨n, o, h⟩ | h
  · exact .inl ⟨l.out h n, o, l.keep _ _ h (Tk.out n) (Tk.outτ n)⟩
  · exact .inr h
theorem FT.le {K : PySem.W.Frag} {a : Addr} {vs : List V} (l : Le T H T1 H1) (h : FT K T H a vs) : FT K T1 H1 a vs := by
  rcases h with ⟨n, h⟩ | h
  · exact .inl ⟨(l.rd h n).2, (l.rd h n).1⟩
  · exact .inr h
theorem FP.le {a : Addr} {vs : List V} (l : Le T H T1 H1) (h : FP T H a vs) : FP T1 H1 a vs := by
  obtain ⟨n, o, h, e⟩ := h
  exact ⟨l.out h n, o, l.keep _ _ h (Tk.out n) (Tk.outτ n), e⟩
theorem FL.sq {K : PySem.W.Frag} {a : Addr} {vs : List V} (h : FL T H a vs) : SqL K H a vs := .of h.2
theorem FS.sq {K : PySem.W.Frag} {a : Addr} {vs : List V} (h : FS K T H a vs) : SqL K H a vs := by
  rcases h with ⟨n, o, h⟩ | h | h
  · exact .inl (.inr ⟨o, h⟩)
  · rcases h with h | ⟨_, h⟩ <;> cases h
  · exact .inr h
theorem FT.sq {K : PySem.W.Frag} {a : Addr} {vs : List V} (h : FT K T H a vs) : SqT K H a vs := by
  rcases h with ⟨n, h⟩ | h | h
  · exact .inl h
  · rcases h with h | ⟨_, h⟩ <;> cases h
  · exact .inr h
mutual
theorem Rep.le (l : Le T H T1 H1) : ∀ {d : D} {v : V}, Rep g T H d v → Rep g T1 H1 d v
  | _, _, .non => .non
  | _, _, .bl b => .bl b
  | _, _, .int i => .int i
  | _, _, .str x => .str x
  | _, _, .tup f r => .tup (f.le l) (RepL.le l r)
  | _, _, .lst f r => .lst (f.le l) (RepL.le l r)
  | _, _, .scr f r => .scr (f.le l) (RepL.le l r)
  | _, _, .dicF n h r q => .dicF (l.rd h n).2 (l.rd h n).1 (RepL.le l r) (RepL.le l q)
  | _, _, .dicN n h e r q => .dicN (l.rd h n).2 (l.rd h n).1 e (RepL.le l r) (RepL.le l q)
  | _, _, .obj n h e r => .obj (l.out h n) (l.keep _ _ h (Tk.out n) (Tk.outτ n)) e (RepL.le l r)
  | _, _, .ref h => .ref (l.get h)
  | _, _, .glo x => .glo x
  | _, _, .ty n => .ty n
  | _, _, .tab h => .tab (by rw [l.tb]; exact h)
  | _, _, .exn0 n h => .exn0 (l.out h n) (l.keep _ _ h (Tk.out n) (Tk.outτ n))
  | _, _, .exn1 n n2 h h2 e r => .exn1 (l.out h n) (l.out h2 n2) (l.keep _ _ h (Tk.out n) (Tk.outτ n)) (l.keep _ _ h2 (Tk.out n2) (Tk.outτ n2)) e (RepL.le l r)
  | _, _, .ptp f r => .ptp (f.le l) (RepL.le l r)
theorem RepL.le (l : Le T H T1 H1) : ∀ {ds : List D} {vs : List V}, RepL g T H ds vs → RepL g T1 H1 ds vs
  | _, _, .nil => .nil
  | _, _, .cons r s => .cons (Rep.le l r) (RepL.le l s)
end
theorem RepL.length : ∀ {ds : List D} {vs : List V}, RepL g T H ds vs → ds.length = vs.length
  | _, _, .nil => rfl
  | _, _, .cons _ s => by simp [RepL.length s]
theorem RepL.get : ∀ {ds : List D} {vs : List V} {i : Nat} {d : D}, RepL g T H ds vs → ds[i]? = some d → ∃ v, vs[i]? = some v ∧ Rep g T H d v
  | _, _, 0, _, .cons r _, h => by cases h; exact ⟨_, rfl, r⟩
  | _, _, i + 1, _, .cons _ s, h => by obtain ⟨v, e, q⟩ := RepL.get (i := i) s (by simpa using h); exact ⟨v, by simpa using e, q⟩
  | _, _, 0, _, .nil, h => by cases h
  | _, _, i + 1, _, .nil, h => by cases h
theorem RepL.back : ∀ {ds : List D} {vs : List V} {i : Nat} {v : V}, RepL g T H ds vs → vs[i]? = some v → ∃ d, ds[i]? = some d ∧ Rep g T H d v
  | _, _, 0, _, .cons r _, h => by cases h; exact ⟨_, rfl, r⟩
  | _, _, i + 1, _, .cons _ s, h => by obtain ⟨v, e, q⟩ := RepL.back (i := i) s (by simpa using h); exact ⟨v, by simpa using e, q⟩
  | _, _, 0, _, .nil, h => by cases h
  | _, _, i + 1, _, .nil, h => by cases h
theorem RepL.append : ∀ {ds es : List D} {vs us : List V}, RepL g T H ds vs → RepL g T H es us → RepL g T H (ds ++ es) (vs ++ us)
  | _, _, _, _, .nil, h => h
  | _, _, _, _, .cons r s, h => .cons r (RepL.append s h)
theorem RepL.of {ds : List D} {vs : List V} (hl : ds.length = vs.length) (h : ∀ (i : Nat) d v, ds[i]? = some d → vs[i]? = some v → Rep g T H d v) : RepL g T H ds vs := by
  induction ds generalizing vs with
  | nil => cases vs with
    | nil => exact .nil
    | cons _ _ => cases hl
  | cons d ds ih => cases vs with
    | nil => cases hl
    | cons v vs => exact .cons (h 0 d v rfl rfl) (ih (by simpa using hl) fun i e u p q => h (i + 1) e u (by simpa using p) (by simpa using q))
/-- a tracked object -/
inductive RepO (g : G) (T : Tk) (H : Hp) (a : Addr) : O → Prop
  | lst {ds vs} : H a = some (.lst vs) → RepL g T H ds vs → RepO g T H a (.lst ds)
  | dicF {kvs ks vs} : H a = some (.dK kvs) → RepL g T H ks (kvs.map fun p => kV p.1) → RepL g T H vs (kvs.map Prod.snd) → RepO g T H a (.dic ks vs)
  | dicN {kvs ks vs} : H a = some (dnO g a kvs) → (ks.map nkT = kvs.map (fun p => some p.1) ∧ kvs ≠ []) → RepL g T H ks (kvs.map fun p => .ref p.2.1) → RepL g T H vs (kvs.map fun p => p.2.2) → RepO g T H a (.dic ks vs)
  | ins {dx fs c ns vs} : H a = some (.ins (He.ga g.K c) dx fs) → fs.map Prod.fst = ns → RepL g T H vs (fs.map Prod.snd) → RepO g T H a (.ins c ns vs)
/-- an object that may change -/
def Mu : HO → Prop
  | .lst _ => True
  | .dK _ => True
  | .ext _ => True
  | .ins _ _ _ => True
  | .tbl _ => True
  | _ => False
/-- the table at P: each code object that it tells is known, bears the name q, and is not tracked -/
def TabC (T : Tk) (H : Hp) (P : Addr) (q : Str) : Prop := ∃ ps : Array Value, H P = some (.tbl ps) ∧ TriplesOk ps.toList ∧ ∀ (pos : Pos) (cv : Value), codeAmong pos ps.toList = some cv → ∃ c, cv = .ref c ∧ c ∉ T.ν ∧ H c = some (LamX.CodeO c q)
structure RepH (g : G) (T : Tk) (H : Hp) (m : M) : Prop where
  len : T.μ.length = m.length
  nd : T.μ.Nodup
  has : ∀ a ∈ T.ν, ∃ u, H a = some u ∧ Mu u
  at_ : ∀ (n : Nat) a o, T.μ[n]? = some a → m[n]? = some o → RepO g T H a o
  tabs : ∀ p ∈ T.τ, p.1 ∉ T.μ ∧ TabC T H p.1 p.2
/-- what a table tells stays told, if it and its code objects stay -/
theorem TabC.le {P : Addr} {q : Str} (x : TabC T H P q) (k : ∀ u, H P = some u → H1 P = some u) (l : ∀ c u, c ∉ T.ν → H c = some u → c ∉ T1.ν ∧ H1 c = some u) : TabC T1 H1 P q := by
  obtain ⟨ps, h1, h2, h3⟩ := x
  refine ⟨ps, k _ h1, h2, fun pos cv hc => ?_⟩
  obtain ⟨c, e1, e2, e3⟩ := h3 pos cv hc
  exact ⟨c, e1, (l c _ e2 e3).1, (l c _ e2 e3).2⟩
theorem RepO.le {a : Addr} {o : O} (l : Le T H T1 H1) (e : H1 a = H a) (r : RepO g T H a o) : RepO g T1 H1 a o := by
  cases r with
  | lst h r => exact .lst (e.trans h) (r.le l)
  | dicF h r q => exact .dicF (e.trans h) (r.le l) (q.le l)
  | dicN h k r q => exact .dicN (e.trans h) k (r.le l) (q.le l)
  | ins h k r => exact .ins (e.trans h) k (r.le l)
theorem RepO.has {a : Addr} {o : O} (r : RepO g T H a o) : ∃ u, H a = some u ∧ Mu u := by
  cases r with
  | lst h _ => exact ⟨_, h, trivial⟩
  | dicF h _ _ => exact ⟨_, h, trivial⟩
  | dicN h _ _ _ => exact ⟨_, h, trivial⟩
  | ins h _ _ => exact ⟨_, h, trivial⟩
variable {m : M}
theorem RepH.nope (r : RepH g T H m) {p : Addr} (h : H p = none) : p ∉ T.ν := fun z => by obtain ⟨u, e, _⟩ := r.has p z; rw [h] at e; cases e
/-- what isn't tracked may change as long as what there is stays -/
theorem RepH.grow (r : RepH g T H m) (k : ∀ a u, H a = some u → H1 a = some u) : Le T H T H1 ∧ RepH g T H1 m := by
  have l : Le T H T H1 := ⟨List.prefix_rfl, fun a u e _ _ => k a u e, rfl, fun p _ u e => ⟨u, k _ u e⟩, fun a h n => absurd h n, fun a h n => absurd h n, fun _ h => h⟩
  refine ⟨l, r.len, r.nd, fun a h => ?_, fun n a o h1 h2 => (r.at_ n a o h1 h2).le l ?_, fun p hp => ⟨(r.tabs p hp).1, (r.tabs p hp).2.le (k _) fun c u n e => ⟨n, k c u e⟩⟩⟩
  · obtain ⟨u, e, z⟩ := r.has a h
    exact ⟨u, k a u e, z⟩
  · obtain ⟨v, e, _⟩ := (r.at_ n a o h1 h2).has
    rw [e, k a v e]
/-- a new object that isn't tracked -/
theorem RepH.fresh (r : RepH g T H m) {p : Addr} {u : HO} (h : H p = none) : Le T H T (upd H p u) ∧ RepH g T (upd H p u) m :=
  r.grow fun a v e => by rw [upd_ne (ne_of_none e h)]; exact e
def Tk.push (T : Tk) (p : Addr) : Tk := ⟨T.μ ++ [p], T.ν ++ [p], T.τ, fun a h => by
  rcases List.mem_append.mp h with z | z
  · exact List.mem_append_left _ (T.sub a z)
  · exact List.mem_append_right _ z, fun p h => List.mem_append_left _ (T.subτ p h)⟩
/-- a new object that is tracked -/
theorem RepH.push (r : RepH g T H m) {p : Addr} {u : HO} {o : O} (h : H p = none) (q : Le T H (T.push p) (upd H p u) → RepO g (T.push p) (upd H p u) p o) : Le T H (T.push p) (upd H p u) ∧ RepH g (T.push p) (upd H p u) (m ++ [o]) := by
  have l : Le T H (T.push p) (upd H p u) := ⟨List.prefix_append _ _, fun a v e _ _ => by rw [upd_ne (ne_of_none e h)]; exact e, rfl, fun q _ v e => ⟨v, by rw [upd_ne (ne_of_none e h)]; exact e⟩, fun a ha n => by
    rcases List.mem_append.mp ha with z | z
    · exact absurd z n
    · rw [List.mem_singleton.mp z]; exact h, fun a ha n => by
    rcases List.mem_append.mp ha with z | z
    · exact absurd z n
    · rw [List.mem_singleton.mp z]; exact h, fun a ha => List.mem_append_left _ ha⟩
  have np : p ∉ T.μ := Tk.out (r.nope h)
  refine ⟨l, by simp [Tk.push, r.len], List.nodup_append.mpr ⟨r.nd, by simp, fun a ha b hb => by rw [List.mem_singleton.mp hb]; rintro rfl; exact np ha⟩, fun a ha => ?_, fun n a o' h1 h2 => ?_, fun q hq => ⟨fun z => ?_, ?_⟩⟩
  · rcases List.mem_append.mp ha with z | z
    · obtain ⟨v, e, q⟩ := r.has a z
      exact ⟨v, by rw [upd_ne (ne_of_none e h)]; exact e, q⟩
    · rw [List.mem_singleton.mp z]
      exact (q l).has
  · by_cases hn : n < T.μ.length
    · change (T.μ ++ [p])[n]? = _ at h1
      rw [List.getElem?_append_left hn] at h1
      rw [List.getElem?_append_left (by rw [← r.len]; exact hn)] at h2
      refine (r.at_ n a o' h1 h2).le l ?_
      obtain ⟨v, e, _⟩ := (r.at_ n a o' h1 h2).has
      rw [upd_ne (ne_of_none e h)]
    · change (T.μ ++ [p])[n]? = _ at h1
      rw [List.getElem?_append_right (by omega)] at h1
      rw [List.getElem?_append_right (by rw [← r.len]; omega), ← r.len] at h2
      generalize n - T.μ.length = k at h1 h2
      cases k with
      | zero => cases h1; cases h2; exact q l
      | succ k => cases h1
  · rcases List.mem_append.mp z with z | z
    · exact (r.tabs q hq).1 z
    · obtain ⟨ps, e, _⟩ := (r.tabs q hq).2
      rw [List.mem_singleton.mp z, h] at e
      cases e
  · refine (r.tabs q hq).2.le (fun v e => by rw [upd_ne (ne_of_none e h)]; exact e) fun c v n e => ⟨fun z => ?_, by rw [upd_ne (ne_of_none e h)]; exact e⟩
    rcases List.mem_append.mp z with z | z
    · exact n z
    · rw [List.mem_singleton.mp z, h] at e
      cases e
/-- a tracked object is changed -/
theorem RepH.put (r : RepH g T H m) {n : Nat} {a : Addr} {u : HO} {o : O} (h : T.μ[n]? = some a) (q : Le T H T (upd H a u) → RepO g T (upd H a u) a o) : Le T H T (upd H a u) ∧ RepH g T (upd H a u) (m.set n o) := by
  have ha : a ∈ T.μ := List.mem_of_getElem? h
  have l : Le T H T (upd H a u) := ⟨List.prefix_rfl, fun b v e nb _ => by rw [upd_ne (show b ≠ a by rintro rfl; exact nb ha)]; exact e, rfl, fun q _ v e => by
    by_cases z : q.1 = a
    · exact ⟨u, by rw [z, upd_same]⟩
    · exact ⟨v, by rw [upd_ne z]; exact e⟩, fun b h n => absurd h n, fun b h n => absurd h n, fun _ h => h⟩
  refine ⟨l, by simp [r.len], r.nd, fun b hb => ?_, fun k b o' h1 h2 => ?_, fun q hq => ⟨(r.tabs q hq).1, (r.tabs q hq).2.le (fun v e => ?_) fun c v n e => ⟨n, ?_⟩⟩⟩
  · by_cases z : b = a
    · rw [z]
      exact (q l).has
    · obtain ⟨v, e, w⟩ := r.has b hb
      exact ⟨v, by rw [upd_ne z]; exact e, w⟩
  · by_cases hk : n = k
    · subst hk
      rw [h] at h1
      cases h1
      have hl : n < m.length := by rw [← r.len]; exact (List.getElem?_eq_some_iff.mp h).1
      rw [List.getElem?_set_self hl] at h2
      cases h2
      exact q l
    rw [List.getElem?_set_ne hk] at h2
    refine (r.at_ k b o' h1 h2).le l ?_
    have : b ≠ a := by
      rintro rfl
      exact hk ((List.getElem?_inj (List.getElem?_eq_some_iff.mp h).1 r.nd).mp (h.trans h1.symm))
    rw [upd_ne this]
  · rw [upd_ne (fun z => (r.tabs q hq).1 (by rw [z]; exact ha))]
    exact e
  · rw [upd_ne (fun z => n (T.sub c (by rw [z]; exact ha)))]
    exact e
theorem Le.trans (l : Le T H T1 H1) (m : Le T1 H1 T2 H2) : Le T H T2 H2 := by
  have key : ∀ a u, H a = some u → a ∉ T.μ → a ∉ T1.μ := fun a u h n z => by rw [l.newμ a z n] at h; cases h
  refine ⟨l.pre.trans m.pre, fun a u h n t => m.keep a u (l.keep a u h n t) (key a u h n) (by rw [l.tb]; exact t), m.tb.trans l.tb, fun p hp u h => ?_, fun a h n => ?_, fun a h n => ?_, fun a h => m.up a (l.up a h)⟩
  · obtain ⟨v, e⟩ := l.tk p hp u h
    exact m.tk p (by rw [l.tb]; exact hp) v e
  · cases e : H a with
    | none => rfl
    | some u =>
      have := m.new a h (l.out e n)
      rw [l.keep a u e (Tk.out n) (Tk.outτ n)] at this
      cases this
  · cases e : H a with
    | none => rfl
    | some u =>
      have := m.newμ a h (key a u e n)
      by_cases t : ∃ p ∈ T.τ, p.1 = a
      · obtain ⟨p, hp, rfl⟩ := t
        obtain ⟨v, e2⟩ := l.tk p hp u e
        rw [e2] at this
        cases this
      · rw [l.keep a u e n fun p hp z => t ⟨p, hp, z⟩] at this
        cases this
end
end L4
namespace L4
open PySem PySem.Spec PyProof.Rows L2
def xcB (K : PySem.W.Frag) (C : Addr) : Bool := (PySem.W.clsIn K C).isSome && (He.eqO (PySem.W.findIn K (.ref C) "__getattribute__") (some (some (.builtin "BaseException.__getattribute__"))) && (He.eqO (PySem.W.findIn K (.ref C) "__getattr__") (some none) && (decide (PySem.W.subIn K (.ref C) (.type "BaseException") = some true) &&
  (PySem.W.hasDictIn K C && (He.eqO (PySem.W.findIn K (.ref C) "__class__") (some (some (.builtin "object.__class__"))) && (He.eqO (PySem.W.specialIn K (.builtin "object.__class__") "__get__") (some (some (.builtin "getset_descriptor.__get__"))) && (decide (PySem.W.takesIn K (.builtin "object.__class__") = some true) &&
  (decide (PySem.W.mroIn K C (.type "object") = some true) && (decide (PySem.W.typeIn K (.ref C) = some (.type "type")) && PySem.W.keepIn K (.ref C))))))))))
def xc0B (K : PySem.W.Frag) (c : Str) : Bool := PySem.W.excIn K (He.ga K c) He.veBase "ValueError.__new__"
def xfB (K : PySem.W.Frag) (c n : Str) : Bool := He.eqO (PySem.W.findIn K (.ref (He.ga K c)) n) (some none)
def oiShape (x w : Str) : List Stmt → Bool
  | [.Expr (.Call (.Attribute (.Call (.Name s _) [] [] _) i p2) [.Name x1 _] [] p4) _, .Assign [.Attribute (.Name s2 _) w1 _] (.Name x2 _) _] => s == ("super" : Str) && (i == ("__init__" : Str) && (x1 == x && (s2 == ("self" : Str) && (w1 == w && (x2 == x && p2.endLine == p4.line)))))
  | _ => false
def oiParams (x : Str) : Arguments → Bool
  | ⟨[], [⟨s, none, _⟩, ⟨y, none, _⟩], none, [], [], none, []⟩ => s == ("self" : Str) && y == x
  | _ => false
def oiClo (K : PySem.W.Frag) (C : Addr) : List (Str × Addr) → Bool
  | [(n, cc)] => n == ("__class__" : Str) && (match K.lookup cc with
    | some ⟨_, _, .cell (some (.ref D)), _⟩ => D == C
    | _ => false)
  | _ => false
def oiCode (K : PySem.W.Frag) (file : Str) : Value → Bool
  | .ref cda => (match K.lookup cda with
    | some ⟨_, _, .fields vs, _⟩ => (match (vs[2]? : Option Value) with
      | some (.str fl _) => fl == file
      | _ => false)
    | _ => false)
  | _ => false
def noneB : Value → Bool
  | .none => true
  | _ => false
def oiFd (K : PySem.W.Frag) (C : Addr) (x w file : Str) (fd : FuncData) : Bool :=
  (match fd.body with
    | .stmts b => oiShape x w b
    | _ => false) && (oiParams x fd.params && (oiClo K C fd.closure && (oiCode K file fd.code && (PySem.W.codeIn K fd.code fd.qualname && (decide (fd.globals = mainGlobals) && (decide (fd.builtins = builtinsNs) &&
  (decide (fd.scope.names.lookup ("super" : Str) = some .globalImplicit) && (decide (fd.scope.names.lookup ("__class__" : Str) = some .free) && (decide (fd.scope.names.lookup ("self" : Str) = some .local) && (decide (fd.scope.names.lookup x = some .local) &&
  (decide (fd.scope.kind = .function) && (!fd.scope.isCoroutine && (!fd.scope.isGenerator && ((fd.scope.names.all fun z => decide (z.2 ≠ .cell)) && (!(x == ("self" : Str)) && (!(x == ("__debug__" : Str)) && (noneB fd.defaults && noneB fd.kwdefaults)))))))))))))))))
def ogCls (K : PySem.W.Frag) (C : Addr) (bmB : List Value) (newId : String) : Bool := match K.lookup C with
  | some ⟨.type "type", _, .cls cd, sl⟩ => (match cd.mro, sl.toList with
    | .ref C' :: bm, [_, _, _, _, some (.builtin n), _] => (((C' == C && n == newId) && !cd.hasDel) && cd.hasDict) && PySem.W.excTail bmB bm
    | _, _ => false)
  | _ => false
def ogB (K : PySem.W.Frag) (c x w file : Str) (B newId initId : String) (bmB : List Value) : Bool := match PySem.W.findIn K (.ref (He.ga K c)) "__init__" with
  | some (some (.ref f)) => decide (PySem.W.typeIn K (.ref f) = some (.type "function")) && ((match K.lookup f with
      | some ⟨_, _, .func fd, _⟩ => oiFd K (He.ga K c) x w file fd
      | _ => false) && (ogCls K (He.ga K c) bmB newId && (He.eqO (PySem.W.findIn K (.ref (He.ga K c)) "__setattr__") (some (some (.builtin "object.__setattr__"))) && (He.eqO (PySem.W.findIn K (.ref (He.ga K c)) w) (some none) &&
      (He.eqO (PySem.W.nsIn K mainGlobals "super") (some none) && (He.eqO (PySem.W.nsIn K cStatics "thirdparty.any") (some none) && (He.eqO (PySem.W.ks_superIn K (He.ga K c) (He.ga K c) "__init__") (some (some (.builtin initId))) &&
      (decide (PySem.W.subIn K (.ref (He.ga K c)) (.type B) = some true) && (decide (PySem.W.mroIn K (He.ga K c) (.ref (He.ga K c)) = some true) && xcB K (He.ga K c))))))))))
  | _ => false
def isxB (K : PySem.W.Frag) (tg : List ((Str × Str) × Bool)) (tt : List ((Str × String) × Bool)) : Bool :=
  tg.all (fun p => xcB K (He.ga K p.1.1) && decide (PySem.W.kitOne K (.ref (He.ga K p.1.1)) (.ref (He.ga K p.1.2)) = some p.2)) && tt.all (fun p => xcB K (He.ga K p.1.1) && decide (PySem.W.kitOne K (.ref (He.ga K p.1.1)) (.type p.1.2) = some p.2))
end L4
namespace L4
open PySem L2 TL
open L3 (Df Md Ki Cmd)
def top (i : Nat) : Stmt := PySem.Challenge.pw_sitout_k01_errors_and_what_they_keep.main.body.getD i (.Pass ⟨0, 0, 0, 0⟩)
abbrev s__law_deal : Stmt := top 13
theorem sc__law_deal : FnScope ["_law_script", "_law_base", "_law_cell", "_law_cells", "_law_mixed", "_law_great"] ["_law_script", "_law_base"] (defScope s__law_deal) := ⟨rfl, rfl, rfl, by decide +kernel, rfl, by decide +kernel, by decide +kernel⟩
abbrev s__law_draw : Stmt := top 14
theorem sc__law_draw : FnScope ["_law_deal_here", "_law_many", "_law_digit", "_law_first", "_law_second"] ["_law_deal_here", "_law_many"] (defScope s__law_draw) := ⟨rfl, rfl, rfl, by decide +kernel, rfl, by decide +kernel, by decide +kernel⟩
abbrev s__law_pick : Stmt := top 15
theorem sc__law_pick : FnScope ["_law_deal_here", "_law_some"] ["_law_deal_here", "_law_some"] (defScope s__law_pick) := ⟨rfl, rfl, rfl, by decide +kernel, rfl, by decide +kernel, by decide +kernel⟩
abbrev s__law_value : Stmt := top 16
theorem sc__law_value : FnScope ["_law_deal_here", "_law_deep", "_law_form", "_law_some", "_law_k"] ["_law_deal_here", "_law_deep"] (defScope s__law_value) := ⟨rfl, rfl, rfl, by decide +kernel, rfl, by decide +kernel, by decide +kernel⟩
abbrev s__law_kept : Stmt := top 18
theorem sc__law_kept : FnScope ["_law_thing", "_law_one"] ["_law_thing"] (defScope s__law_kept) := ⟨rfl, rfl, rfl, by decide +kernel, rfl, by decide +kernel, by decide +kernel⟩
abbrev s__law_sorts : Stmt := top 17
theorem sc__law_sorts : FnScope ["_law_one", "_law_found", "_law_is_so"] ["_law_one"] (defScope s__law_sorts) := ⟨rfl, rfl, rfl, by decide +kernel, rfl, by decide +kernel, by decide +kernel⟩
abbrev s_law : Stmt := top 19
theorem sc_law : FnScope ["_law_script", "_law_deal_here", "_law_turn", "_law_thing", "_law_early", "_law_before", "_law_made", "_law_one", "_law_kept_here"] ["_law_script"] (defScope s_law) := ⟨rfl, rfl, rfl, by decide +kernel, rfl, by decide +kernel, by decide +kernel⟩
def tb_isxG : List ((Str × Str) × Bool) := [((("InvalidCommand" : Str), ("InvalidCommand" : Str)), true), ((("InvalidCommand" : Str), ("InvalidEvent" : Str)), false), ((("InvalidCommand" : Str), ("InvalidGoal" : Str)), false), ((("InvalidCommand" : Str), ("InvalidRoad" : Str)), false), ((("InvalidCommand" : Str), ("InvalidRule" : Str)), false), ((("InvalidCommand" : Str), ("InvalidSeen" : Str)), false), ((("InvalidCommand" : Str), ("InvalidText" : Str)), false), ((("InvalidCommand" : Str), ("InvalidWhat" : Str)), false), ((("InvalidCommand" : Str), ("Refused" : Str)), false), ((("InvalidCommand" : Str), ("SitError" : Str)), true), ((("InvalidEvent" : Str), ("InvalidCommand" : Str)), false), ((("InvalidEvent" : Str), ("InvalidEvent" : Str)), true), ((("InvalidEvent" : Str), ("InvalidGoal" : Str)), false), ((("InvalidEvent" : Str), ("InvalidRoad" : Str)), false), ((("InvalidEvent" : Str), ("InvalidRule" : Str)), false), ((("InvalidEvent" : Str), ("InvalidSeen" : Str)), false), ((("InvalidEvent" : Str), ("InvalidText" : Str)), false), ((("InvalidEvent" : Str), ("InvalidWhat" : Str)), false), ((("InvalidEvent" : Str), ("Refused" : Str)), false), ((("InvalidEvent" : Str), ("SitError" : Str)), true), ((("InvalidGoal" : Str), ("InvalidCommand" : Str)), false), ((("InvalidGoal" : Str), ("InvalidEvent" : Str)), false), ((("InvalidGoal" : Str), ("InvalidGoal" : Str)), true), ((("InvalidGoal" : Str), ("InvalidRoad" : Str)), false), ((("InvalidGoal" : Str), ("InvalidRule" : Str)), false), ((("InvalidGoal" : Str), ("InvalidSeen" : Str)), false), ((("InvalidGoal" : Str), ("InvalidText" : Str)), false), ((("InvalidGoal" : Str), ("InvalidWhat" : Str)), false), ((("InvalidGoal" : Str), ("Refused" : Str)), false), ((("InvalidGoal" : Str), ("SitError" : Str)), true), ((("InvalidRoad" : Str), ("InvalidCommand" : Str)), false), ((("InvalidRoad" : Str), ("InvalidEvent" : Str)), false), ((("InvalidRoad" : Str), ("InvalidGoal" : Str)), false), ((("InvalidRoad" : Str), ("InvalidRoad" : Str)), true), ((("InvalidRoad" : Str), ("InvalidRule" : Str)), false), ((("InvalidRoad" : Str), ("InvalidSeen" : Str)), false), ((("InvalidRoad" : Str), ("InvalidText" : Str)), false), ((("InvalidRoad" : Str), ("InvalidWhat" : Str)), false), ((("InvalidRoad" : Str), ("Refused" : Str)), false), ((("InvalidRoad" : Str), ("SitError" : Str)), true), ((("InvalidRule" : Str), ("InvalidCommand" : Str)), false), ((("InvalidRule" : Str), ("InvalidEvent" : Str)), false), ((("InvalidRule" : Str), ("InvalidGoal" : Str)), false), ((("InvalidRule" : Str), ("InvalidRoad" : Str)), false), ((("InvalidRule" : Str), ("InvalidRule" : Str)), true), ((("InvalidRule" : Str), ("InvalidSeen" : Str)), false), ((("InvalidRule" : Str), ("InvalidText" : Str)), false), ((("InvalidRule" : Str), ("InvalidWhat" : Str)), false), ((("InvalidRule" : Str), ("Refused" : Str)), false), ((("InvalidRule" : Str), ("SitError" : Str)), true), ((("InvalidSeen" : Str), ("InvalidCommand" : Str)), false), ((("InvalidSeen" : Str), ("InvalidEvent" : Str)), false), ((("InvalidSeen" : Str), ("InvalidGoal" : Str)), false), ((("InvalidSeen" : Str), ("InvalidRoad" : Str)), false), ((("InvalidSeen" : Str), ("InvalidRule" : Str)), false), ((("InvalidSeen" : Str), ("InvalidSeen" : Str)), true), ((("InvalidSeen" : Str), ("InvalidText" : Str)), false), ((("InvalidSeen" : Str), ("InvalidWhat" : Str)), false), ((("InvalidSeen" : Str), ("Refused" : Str)), false), ((("InvalidSeen" : Str), ("SitError" : Str)), true), ((("InvalidText" : Str), ("InvalidCommand" : Str)), false), ((("InvalidText" : Str), ("InvalidEvent" : Str)), false), ((("InvalidText" : Str), ("InvalidGoal" : Str)), false), ((("InvalidText" : Str), ("InvalidRoad" : Str)), false), ((("InvalidText" : Str), ("InvalidRule" : Str)), false), ((("InvalidText" : Str), ("InvalidSeen" : Str)), false), ((("InvalidText" : Str), ("InvalidText" : Str)), true), ((("InvalidText" : Str), ("InvalidWhat" : Str)), false), ((("InvalidText" : Str), ("Refused" : Str)), false), ((("InvalidText" : Str), ("SitError" : Str)), true), ((("InvalidWhat" : Str), ("InvalidCommand" : Str)), false), ((("InvalidWhat" : Str), ("InvalidEvent" : Str)), false), ((("InvalidWhat" : Str), ("InvalidGoal" : Str)), false), ((("InvalidWhat" : Str), ("InvalidRoad" : Str)), false), ((("InvalidWhat" : Str), ("InvalidRule" : Str)), false), ((("InvalidWhat" : Str), ("InvalidSeen" : Str)), false), ((("InvalidWhat" : Str), ("InvalidText" : Str)), false), ((("InvalidWhat" : Str), ("InvalidWhat" : Str)), true), ((("InvalidWhat" : Str), ("Refused" : Str)), false), ((("InvalidWhat" : Str), ("SitError" : Str)), true), ((("NoEvent" : Str), ("InvalidCommand" : Str)), false), ((("NoEvent" : Str), ("InvalidEvent" : Str)), false), ((("NoEvent" : Str), ("InvalidGoal" : Str)), false), ((("NoEvent" : Str), ("InvalidRoad" : Str)), false), ((("NoEvent" : Str), ("InvalidRule" : Str)), false), ((("NoEvent" : Str), ("InvalidSeen" : Str)), false), ((("NoEvent" : Str), ("InvalidText" : Str)), false), ((("NoEvent" : Str), ("InvalidWhat" : Str)), false), ((("NoEvent" : Str), ("Refused" : Str)), false), ((("NoEvent" : Str), ("SitError" : Str)), false), ((("Refused" : Str), ("InvalidCommand" : Str)), false), ((("Refused" : Str), ("InvalidEvent" : Str)), false), ((("Refused" : Str), ("InvalidGoal" : Str)), false), ((("Refused" : Str), ("InvalidRoad" : Str)), false), ((("Refused" : Str), ("InvalidRule" : Str)), false), ((("Refused" : Str), ("InvalidSeen" : Str)), false), ((("Refused" : Str), ("InvalidText" : Str)), false), ((("Refused" : Str), ("InvalidWhat" : Str)), false), ((("Refused" : Str), ("Refused" : Str)), true), ((("Refused" : Str), ("SitError" : Str)), true)]
def tb_isxT : List ((Str × String) × Bool) := [((("InvalidCommand" : Str), "IndexError"), false), ((("InvalidCommand" : Str), "KeyError"), false), ((("InvalidCommand" : Str), "ValueError"), true), ((("InvalidEvent" : Str), "IndexError"), false), ((("InvalidEvent" : Str), "KeyError"), false), ((("InvalidEvent" : Str), "ValueError"), true), ((("InvalidGoal" : Str), "IndexError"), false), ((("InvalidGoal" : Str), "KeyError"), false), ((("InvalidGoal" : Str), "ValueError"), true), ((("InvalidRoad" : Str), "IndexError"), false), ((("InvalidRoad" : Str), "KeyError"), false), ((("InvalidRoad" : Str), "ValueError"), true), ((("InvalidRule" : Str), "IndexError"), false), ((("InvalidRule" : Str), "KeyError"), false), ((("InvalidRule" : Str), "ValueError"), true), ((("InvalidSeen" : Str), "IndexError"), false), ((("InvalidSeen" : Str), "KeyError"), false), ((("InvalidSeen" : Str), "ValueError"), true), ((("InvalidText" : Str), "IndexError"), false), ((("InvalidText" : Str), "KeyError"), false), ((("InvalidText" : Str), "ValueError"), true), ((("InvalidWhat" : Str), "IndexError"), false), ((("InvalidWhat" : Str), "KeyError"), false), ((("InvalidWhat" : Str), "ValueError"), true), ((("NoEvent" : Str), "IndexError"), true), ((("NoEvent" : Str), "KeyError"), false), ((("NoEvent" : Str), "ValueError"), false), ((("Refused" : Str), "IndexError"), false), ((("Refused" : Str), "KeyError"), false), ((("Refused" : Str), "ValueError"), true)]
end L4
namespace L4
open PySem PySem.Spec PyProof.Rows L2
open L3 (Fx fx_at SaysW hookW obsWG obsWG_eq Tabs gdef mdef cdef cmB df_of md_of ki_of cmd_of)
def fxs : List Fx := [.fa (.free "IndexError"), .fa (.free "KeyError"), .fa (.free "ValueError"), .fa (.free "abs"), .fa (.free "int"), .fa (.free "isinstance"), .fa (.free "len"), .fa (.free "range"), .fa (.free "repr"), .fa (.free "tuple"), .fa (.glo "InvalidCommand"), .fa (.glo "InvalidEvent"), .fa (.glo "InvalidGoal"), .fa (.glo "InvalidRoad"), .fa (.glo "InvalidRule"), .fa (.glo "InvalidSeen"), .fa (.glo "InvalidText"), .fa (.glo "InvalidWhat"), .fa (.glo "NoEvent"), .fa (.glo "Refused"), .fa (.glo "SitError"), .bo (fun K => isxB K tb_isxG tb_isxT), .bo (fun K => ogB K "InvalidEvent" "at" "at" "/claim/cut.py" "ValueError" "ValueError.__new__" "ValueError.__init__" [.type "ValueError", .type "Exception", .type "BaseException", .type "object"]), .bo (fun K => xcB K (He.ga K "InvalidEvent")), .bo (fun K => ogB K "InvalidRoad" "word" "word" "/claim/cut.py" "ValueError" "ValueError.__new__" "ValueError.__init__" [.type "ValueError", .type "Exception", .type "BaseException", .type "object"]), .bo (fun K => xcB K (He.ga K "InvalidRoad")), .bo (fun K => ogB K "InvalidRule" "word" "word" "/claim/cut.py" "ValueError" "ValueError.__new__" "ValueError.__init__" [.type "ValueError", .type "Exception", .type "BaseException", .type "object"]), .bo (fun K => xcB K (He.ga K "InvalidRule")), .bo (fun K => ogB K "InvalidSeen" "at" "at" "/claim/cut.py" "ValueError" "ValueError.__new__" "ValueError.__init__" [.type "ValueError", .type "Exception", .type "BaseException", .type "object"]), .bo (fun K => xcB K (He.ga K "InvalidSeen")), .bo (fun K => ogB K "InvalidText" "at" "at" "/claim/cut.py" "ValueError" "ValueError.__new__" "ValueError.__init__" [.type "ValueError", .type "Exception", .type "BaseException", .type "object"]), .bo (fun K => xcB K (He.ga K "InvalidText")), .bo (fun K => ogB K "NoEvent" "at" "at" "/claim/cut.py" "IndexError" "IndexError.__new__" "IndexError.__init__" [.type "IndexError", .type "LookupError", .type "Exception", .type "BaseException", .type "object"]), .bo (fun K => xcB K (He.ga K "NoEvent")), .bo (fun K => ogB K "Refused" "at" "at" "/claim/cut.py" "ValueError" "ValueError.__new__" "ValueError.__init__" [.type "ValueError", .type "Exception", .type "BaseException", .type "object"]), .bo (fun K => xcB K (He.ga K "Refused")), .bo (fun K => xcB K (He.ga K "InvalidCommand")), .bo (fun K => xc0B K "InvalidCommand"), .bo (fun K => xcB K (He.ga K "InvalidGoal")), .bo (fun K => xc0B K "InvalidGoal"), .bo (fun K => xcB K (He.ga K "InvalidWhat")), .bo (fun K => xc0B K "InvalidWhat"), .bo (fun K => xfB K "InvalidEvent" "at"), .bo (fun K => xfB K "InvalidRoad" "word"), .bo (fun K => xfB K "InvalidRule" "word"), .bo (fun K => xfB K "InvalidSeen" "at"), .bo (fun K => xfB K "InvalidText" "at"), .bo (fun K => xfB K "NoEvent" "at"), .bo (fun K => xfB K "Refused" "at"), .fa (.glo "_law_deal"), .fa (.glo "_law_draw"), .fa (.glo "_law_pick"), .fa (.glo "_law_value"), .fa (.glo "_law_kept"), .fa (.glo "_law_sorts"), .fa (.glo "law")]
def fns : List He5.DefA := [gdef "_law_deal" s__law_deal, gdef "_law_draw" s__law_draw, gdef "_law_pick" s__law_pick, gdef "_law_value" s__law_value, gdef "_law_kept" s__law_kept, gdef "_law_sorts" s__law_sorts, gdef "law" s_law]
def exs (K : PySem.W.Frag) : Bool := fxs.all fun f => f.ok K
abbrev hR : PySem.W.OpenRow := PySem.W.OpenLaw.row PySem.Challenge.rw_sitout_k01_errors_and_what_they_keep
def htabs : Tabs := []
def kL : List Addr := [0, 2, 3, 4, 6, 22, 23, 24, 25, 31, 37, 38, 39, 40, 41, 42, 43, 44, 45, 46, 52, 58, 59, 60, 61, 62, 63, 64, 65, 66, 67, 73, 79, 80, 81, 82, 83, 84, 85, 86, 87, 88, 94, 100, 101, 102, 103, 104, 105, 106, 107, 108, 109, 119, 120, 121, 131, 132, 133, 139, 145, 146, 147, 148, 149, 150, 151, 152, 153, 154, 164, 165, 166, 172, 178, 179, 180, 181, 182, 183, 184, 185, 186, 187, 193, 199, 200, 201, 202, 203, 204, 205, 206, 207, 208, 209, 212, 213, 214, 215, 216, 217, 218, 219, 220, 221, 222, 223, 224, 225, 226, 227, 228, 229, 230, 231, 232, 233, 234, 235, 236, 237, 238, 239, 240, 241, 242, 243, 244, 245, 246, 247, 248, 249, 250, 251, 252]
abbrev hk : PySem.W.Hook where
  α := He.AlD × List (Option (List (Option (PySem.Str × Int))))
  obs := fun s => (L3.obsB exs fns (He.frG s.heap.get? kL), L3.tabsOf htabs (He.frG s.heap.get? kL))
  val := fun w => (He5.valA fns, L3.tabsIn htabs w.params)
  says := fun w h => ∃ K : PySem.W.Frag, K.In h ∧ SaysW exs fns htabs w K
  of := fun w s e => ⟨He.frG s.heap.get? kL, He.frG_in, ⟨congrArg Prod.fst e, congrArg Prod.snd e⟩⟩
  keeps := fun _ _ _ ⟨K, hK, c⟩ k => ⟨K, PySem.W.Frag.In.keeps hK k, c⟩
def hob (s : PySem.W.SharedT) : hk.α := (L3.obsB exs fns (He.frG (HandSHeadRun.getT s) kL), L3.tabsOf htabs (He.frG (HandSHeadRun.getT s) kL))
theorem hob_eq (s : PySem.W.SharedT) : hob s = hk.obs s.abs := by
  have e : HandSHeadRun.getT s = s.abs.heap.get? := funext (HandSHeadRun.getT_eq s)
  unfold hob
  rw [e]
def hnm0 : List PySem.Str := ["__name__", "SitError", "InvalidRule", "InvalidRoad", "InvalidEvent", "InvalidText", "InvalidGoal", "InvalidWhat", "InvalidSeen", "InvalidCommand", "Refused", "NoEvent", "_law_deal", "_law_draw", "_law_pick", "_law_value", "_law_sorts", "_law_kept"]
def hnames : List PySem.Str := hnm0
theorem hrunA (w : World) : HandSHeadRun.RunEq hR (PySem.W.view hR.prog [19]) hk hob 8000 hnames (w.withFollow "special-get-raises" false) := by
  intro os
  kernel_rfl
theorem hrunB (w : World) : HandSHeadRun.RunEq hR (PySem.W.view hR.prog [19]) hk hob 8000 hnames (w.withFollow "special-get-raises" true) := by
  intro os
  kernel_rfl
theorem hrun (w : World) : HandSHeadRun.RunEq hR (PySem.W.view hR.prog [19]) hk hob 8000 hnames w := PySem.W.byRow2 "special-get-raises" hrunA hrunB w
open PySem PySem.W PySem.Calls PyProof.Rows in
set_option maxHeartbeats 0 in
theorem law_pre (h : PySem.Challenge.rw_sitout_k01_errors_and_what_they_keep.row.wellSaid = true → PySem.Challenge.rw_sitout_k01_errors_and_what_they_keep.row.Holds) : PySem.Challenge.rw_sitout_k01_errors_and_what_they_keep.Holds := by
  w_on; o_law
  exact h (by assumption)
open PySem PySem.W PySem.Calls PyProof.Rows in
set_option maxHeartbeats 0 in
theorem head_pre (said : hR.wellSaid = true) (call : WalkO (view hR.prog [19]) hnames (XL (view hR.prog [19]) []) hk.says hR.toRowW (HandSHeadRun.topDef hR.prog 19) [] fun f vs => PySem.call f vs) : hR.Holds := by
  refine HandSHeadRun.head_any (r := hR) (q := view hR.prog [19]) (H := hk) (ob := hob) (M := 8000) (loose := hnames) (d := HandSHeadRun.topDef hR.prog 19) (kwd := []) hob_eq
    (by kernel_rfl) (fun s => by kernel_rfl) hrun (by kernel_rfl) (by kernel_rfl) (by kernel_rfl) (by rfl) said (by decide +kernel) ⟨rfl, rfl, rfl, rfl, rfl, by decide +kernel⟩ ?hw call
  case hw => w_witness2
end L4
namespace L4
open PySem L2
abbrev Ss := List (Option D)
abbrev EF := Ss → M → Option (D × M)
abbrev TF := Ss → M → Option (Bool × M)
abbrev AF := Ss → M → Option (List D × M)
abbrev GF := D → Ss → M → Option (Ss × M)
inductive Fl where
  | nx (ρ : Ss) | rt (d : D) | bk (ρ : Ss) | ct (ρ : Ss)
abbrev SF := Ss → M → Option (Fl × M)
structure RepS (g : G) (T : Tk) (H : Hp) (σ : L2.St) (ρ : Ss) : Prop where
  len : σ.length = ρ.length
  at_ : ∀ (i : Nat) d, ρ[i]? = some (some d) → ∃ v, σ[i]? = some (some v) ∧ Rep g T H d v
section
variable {g : G} {T T1 : Tk} {H H1 : Hp} {σ : L2.St} {ρ : Ss}
theorem RepS.le (l : Le T H T1 H1) (r : RepS g T H σ ρ) : RepS g T1 H1 σ ρ := ⟨r.len, fun i d h => by obtain ⟨v, e, q⟩ := r.at_ i d h; exact ⟨v, e, q.le l⟩⟩
theorem RepS.set {i : Nat} {d : D} {v : V} (r : RepS g T H σ ρ) (q : Rep g T H d v) : RepS g T H (σ.set i (some v)) (ρ.set i (some d)) := by
  refine ⟨by simp [r.len], fun j e h => ?_⟩
  by_cases hj : i = j
  · subst hj
    have hl : i < ρ.length := by
      have := (List.getElem?_eq_some_iff.mp h).1
      simpa using this
    rw [List.getElem?_set_self hl] at h
    cases h
    exact ⟨v, by rw [List.getElem?_set_self (by rw [r.len]; exact hl)], q⟩
  · rw [List.getElem?_set_ne hj] at h
    obtain ⟨u, e1, q1⟩ := r.at_ j e h
    exact ⟨u, by rw [List.getElem?_set_ne hj]; exact e1, q1⟩
end
/-- what follows a value -/
def KV (g : G) (T : Tk) (H : Hp) (m : M) (d : D) (Q : VK) : Prop := ∀ v T' H', Le T H T' H' → RepH g T' H' m → Rep g T' H' d v → Q v H'
def KB (g : G) (T : Tk) (H : Hp) (m : M) (b : Bool) (Q : Bool → Hp → Prop) : Prop := ∀ T' H', Le T H T' H' → RepH g T' H' m → Q b H'
def KA (g : G) (T : Tk) (H : Hp) (m : M) (ds : List D) (Q : List V → Hp → Prop) : Prop := ∀ vs T' H', Le T H T' H' → RepH g T' H' m → RepL g T' H' ds vs → Q vs H'
def KS (g : G) (T : Tk) (H : Hp) (m : M) (ρ : Ss) (Q : L2.St → Hp → Prop) : Prop := ∀ σ T' H', Le T H T' H' → RepH g T' H' m → RepS g T' H' σ ρ → Q σ H'
def KF (g : G) (T : Tk) (H : Hp) (m : M) (r : Fl) (D : Ends) : Prop := match r with
  | .nx ρ => KS g T H m ρ D.nx
  | .rt d => KV g T H m d D.rt
  | .bk ρ => KS g T H m ρ D.bk
  | .ct ρ => KS g T H m ρ D.ct
section
variable {g : G} {T T1 : Tk} {H H1 : Hp} {m : M}
theorem KV.le {d : D} {Q : VK} (l : Le T H T1 H1) (k : KV g T H m d Q) : KV g T1 H1 m d Q := fun v T' H' l' => k v T' H' (l.trans l')
theorem KB.le {d : Bool} {Q : Bool → Hp → Prop} (l : Le T H T1 H1) (k : KB g T H m d Q) : KB g T1 H1 m d Q := fun T' H' l' => k T' H' (l.trans l')
theorem KA.le {d : List D} {Q : List V → Hp → Prop} (l : Le T H T1 H1) (k : KA g T H m d Q) : KA g T1 H1 m d Q := fun v T' H' l' => k v T' H' (l.trans l')
theorem KS.le {ρ : Ss} {Q : L2.St → Hp → Prop} (l : Le T H T1 H1) (k : KS g T H m ρ Q) : KS g T1 H1 m ρ Q := fun v T' H' l' => k v T' H' (l.trans l')
theorem KF.le {r : Fl} {D : Ends} (l : Le T H T1 H1) (k : KF g T H m r D) : KF g T1 H1 m r D := by
  cases r with
  | nx ρ => exact KS.le l k
  | rt d => exact KV.le l k
  | bk ρ => exact KS.le l k
  | ct ρ => exact KS.le l k
end
def RfE (g : G) (t : TE) (f : EF) : Prop := ∀ T σ H ρ m d m', RepH g T H m → RepS g T H σ ρ → f ρ m = some (d, m') → ∀ Q : VK, KV g T H m' d Q → t σ H Q
def RfT (g : G) (t : TT) (f : TF) : Prop := ∀ T σ H ρ m b m', RepH g T H m → RepS g T H σ ρ → f ρ m = some (b, m') → ∀ Q, KB g T H m' b Q → t σ H Q
def RfA (g : G) (t : TA) (f : AF) : Prop := ∀ T σ H ρ m ds m', RepH g T H m → RepS g T H σ ρ → f ρ m = some (ds, m') → ∀ Q, KA g T H m' ds Q → t σ H Q
def RfG (g : G) (t : TG) (f : GF) : Prop := ∀ T σ H ρ m d v ρ' m', RepH g T H m → RepS g T H σ ρ → Rep g T H d v → f d ρ m = some (ρ', m') → ∀ Q, KS g T H m' ρ' Q → t v σ H Q
def RfS (g : G) (t : TS) (f : SF) : Prop := ∀ T σ H ρ m r m', RepH g T H m → RepS g T H σ ρ → f ρ m = some (r, m') → ∀ D : Ends, KF g T H m' r D → t D σ H
structure DE (X : Cx) (e : Expr) (f : EF) : Prop where
  ex : ∃ t, PE X e t ∧ RfE (gx X) t f
structure DT (X : Cx) (e : Expr) (f : TF) : Prop where
  ex : ∃ t, PT X e t ∧ RfT (gx X) t f
structure DW (X : Cx) (e : Expr) (f : TF) : Prop where
  ex : ∃ t, PW X e t ∧ RfT (gx X) t f
structure DA (X : Cx) (es : List Expr) (f : AF) : Prop where
  ex : ∃ t, PA X es t ∧ RfA (gx X) t f
structure DG (X : Cx) (e : Expr) (f : GF) : Prop where
  ex : ∃ t, PG X e t ∧ RfG (gx X) t f
structure DS (X : Cx) (s : Stmt) (f : SF) : Prop where
  ex : ∃ t, PS X s t ∧ RfS (gx X) t f
structure DSs (X : Cx) (s : List Stmt) (f : SF) : Prop where
  ex : ∃ t, PSs X s t ∧ RfS (gx X) t f
def bd {α β : Type} (r : Option (α × M)) (k : α → M → Option (β × M)) : Option (β × M) := match r with
  | some (d, m) => k d m
  | none => none
theorem bd_some {α β : Type} {r : Option (α × M)} {k : α → M → Option (β × M)} {b : β} {m' : M} (h : bd r k = some (b, m')) : ∃ d m, r = some (d, m) ∧ k d m = some (b, m') := by
  cases r with
  | none => cases h
  | some p => exact ⟨p.1, p.2, rfl, h⟩
@[simp] theorem bd_go {α β : Type} {d : α} {m : M} {k : α → M → Option (β × M)} : bd (some (d, m)) k = k d m := rfl
@[simp] theorem bd_no {α β : Type} {k : α → M → Option (β × M)} : bd none k = none := rfl
/-- a value that needs no heap -/
def pu {α : Type} (r : Option α) (m : M) : Option (α × M) := r.map (·, m)
theorem pu_some {α : Type} {r : Option α} {a : α} {m m' : M} (h : pu r m = some (a, m')) : r = some a ∧ m' = m := by
  cases r with
  | none => cases h
  | some b => cases h; exact ⟨rfl, rfl⟩
@[simp] theorem pu_go {α : Type} {a : α} {m : M} : pu (some a) m = some (a, m) := rfl
@[simp] theorem pu_no {α : Type} {m : M} : pu (none : Option α) m = none := rfl
def eVar (i : Nat) : EF := fun ρ m => pu (ρ.getD i none) m
def eC (d : D) : EF := fun _ m => some (d, m)
def eOp (f : M → D → D → Option D) (a b : EF) : EF := fun ρ m => bd (a ρ m) fun x m1 => bd (b ρ m1) fun y m2 => pu (f m2 x y) m2
def eUn (f : M → D → Option D) (a : EF) : EF := fun ρ m => bd (a ρ m) fun x m1 => pu (f m1 x) m1
def eCall (f : M → List D → Option D) (a : AF) : EF := fun ρ m => bd (a ρ m) fun xs m1 => pu (f m1 xs) m1
def aNil : AF := fun _ m => some ([], m)
def aCons (a : EF) (r : AF) : AF := fun ρ m => bd (a ρ m) fun x m1 => bd (r ρ m1) fun xs m2 => some (x :: xs, m2)
def tVal (a : EF) : TF := fun ρ m => bd (a ρ m) fun x m1 => match x with
  | .bl b => some (b, m1)
  | _ => none
def tAnd (a b : TF) : TF := fun ρ m => bd (a ρ m) fun x m1 => if x then b ρ m1 else some (false, m1)
def tOr (a b : TF) : TF := fun ρ m => bd (a ρ m) fun x m1 => if x then some (true, m1) else b ρ m1
def tNot (a : TF) : TF := fun ρ m => bd (a ρ m) fun x m1 => some (!x, m1)
def eAnd (a b : EF) : EF := fun ρ m => bd (a ρ m) fun x m1 => match x with
  | .bl true => b ρ m1
  | .bl false => some (.bl false, m1)
  | _ => none
def eOr (a b : EF) : EF := fun ρ m => bd (a ρ m) fun x m1 => match x with
  | .bl true => some (.bl true, m1)
  | .bl false => b ρ m1
  | _ => none
def eIf (c : TF) (a b : EF) : EF := fun ρ m => bd (c ρ m) fun x m1 => if x then a ρ m1 else b ρ m1
def gNm (i : Nat) : GF := fun d ρ m => some (ρ.set i (some d), m)
def sAsg (a : EF) (g : GF) : SF := fun ρ m => bd (a ρ m) fun x m1 => bd (g x ρ m1) fun ρ1 m2 => some (.nx ρ1, m2)
def sDrop (a : EF) : SF := fun ρ m => bd (a ρ m) fun _ m1 => some (.nx ρ, m1)
def sRet (a : EF) : SF := fun ρ m => bd (a ρ m) fun x m1 => some (.rt x, m1)
def sRetN : SF := fun _ m => some (.rt .non, m)
def sNop : SF := fun ρ m => some (.nx ρ, m)
def sBrk : SF := fun ρ m => some (.bk ρ, m)
def sCont : SF := fun ρ m => some (.ct ρ, m)
def sIf (c : TF) (a b : SF) : SF := fun ρ m => bd (c ρ m) fun x m1 => if x then a ρ m1 else b ρ m1
def sSeq (a b : SF) : SF := fun ρ m => bd (a ρ m) fun x m1 => match x with
  | .nx ρ1 => b ρ1 m1
  | r => some (r, m1)
section
variable {X : Cx} {pos : Pos}
theorem de_var {i : Nat} {x : Str} (hN : X.N[i]? = some x) (hv : Vis X.env.scope x) (hd : (x == ("__debug__" : Str)) = false := by decide) (hcd : (x == ("__classdict__" : Str)) = false := by decide) : DE X (.Name x pos) (eVar i) := by
  refine ⟨_, pe_var hN hv hd hcd, fun T σ H ρ m d m' hm hs hf Q k => ?_⟩
  obtain ⟨e, rfl⟩ := pu_some hf
  obtain ⟨v, e1, r⟩ := hs.at_ i d (by
    rw [List.getD_eq_getElem?_getD] at e
    cases h : ρ[i]? with
    | none => rw [h] at e; cases e
    | some o => rw [h] at e; cases e; rfl)
  exact ⟨v, e1, k v T H .refl hm r⟩
theorem rf_c {g : G} {v : V} {d : D} (h : ∀ T H, Rep g T H d v) : RfE g (tC v) (eC d) := by
  intro T σ H ρ m d m' hm hs hf Q k
  cases hf
  exact k v T H .refl hm (h T H)
theorem de_int {i j} : DE X (.Constant (.int i) j pos) (eC (.int i)) := ⟨_, pe_int, rf_c fun _ _ => .int i⟩
theorem de_bl {i j} : DE X (.Constant (.bool i) j pos) (eC (.bl i)) := ⟨_, pe_bl, rf_c fun _ _ => .bl i⟩
theorem de_str {i j} : DE X (.Constant (.str i) j pos) (eC (.str i)) := ⟨_, pe_str, rf_c fun _ _ => .str i⟩
theorem de_non {j} : DE X (.Constant .none j pos) (eC .non) := ⟨_, pe_non, rf_c fun _ _ => .non⟩
/-- an operation of two values -/
def RfO (g : G) (r : R2) (f : M → D → D → Option D) : Prop := ∀ T H m x y v u d, RepH g T H m → Rep g T H x v → Rep g T H y u → f m x y = some d → ∀ Q : VK, KV g T H m d Q → r v u H Q
def RfC (g : G) (r : List V → Hp → VK → Prop) (f : M → List D → Option D) : Prop := ∀ T H m xs vs d, RepH g T H m → RepL g T H xs vs → f m xs = some d → ∀ Q : VK, KV g T H m d Q → r vs H Q
theorem rf_op {g : G} {r : R2} {f : M → D → D → Option D} {ta tb : TE} {a b : EF} (hr : RfO g r f) (ha : RfE g ta a) (hb : RfE g tb b) : RfE g (tOp r ta tb) (eOp f a b) := by
  intro T σ H ρ m d m' hm hs hf Q k
  obtain ⟨x, m1, e1, hf⟩ := bd_some hf
  obtain ⟨y, m2, e2, hf⟩ := bd_some hf
  obtain ⟨e3, rfl⟩ := pu_some hf
  refine ha T σ H ρ m x m1 hm hs e1 _ fun v T1 H1 l1 hm1 r1 => ?_
  refine hb T1 σ H1 ρ m1 y _ hm1 (hs.le l1) e2 _ fun u T2 H2 l2 hm2 r2 => ?_
  exact hr T2 H2 _ x y v u d hm2 (r1.le l2) r2 e3 Q (k.le (l1.trans l2))
theorem rf_call {g : G} {r : List V → Hp → VK → Prop} {f : M → List D → Option D} {ta : TA} {a : AF} (hr : RfC g r f) (ha : RfA g ta a) : RfE g (tCB r ta) (eCall f a) := by
  intro T σ H ρ m d m' hm hs hf Q k
  obtain ⟨x, m1, e1, hf⟩ := bd_some hf
  obtain ⟨e3, rfl⟩ := pu_some hf
  refine ha T σ H ρ m x _ hm hs e1 _ fun v T1 H1 l1 hm1 r1 => ?_
  exact hr T1 H1 _ x v d hm1 r1 e3 Q (k.le l1)
/-- an operator that is known by a function on data -/
structure OpD (X : Cx) (F : Value → Value → Sem Value) (f : M → D → D → Option D) : Prop where
  ex : ∃ r, OpR X F r ∧ RfO (gx X) r f
structure CallD (X : Cx) (F : Value) (f : M → List D → Option D) : Prop where
  ex : ∃ r, CallR X F r ∧ RfC (gx X) r f
theorem de_op {a b : Expr} {fa fb : EF} {op : Operator} {f} (ho : OpD X (binaryOp op) f) (ha : DE X a fa) (hb : DE X b fb) : DE X (.BinOp a op b pos) (eOp f fa fb) := by
  obtain ⟨r, h, q⟩ := ho.ex; obtain ⟨ta, pa, ra⟩ := ha.ex; obtain ⟨tb, pb, rb⟩ := hb.ex
  exact ⟨_, pe_op h pa pb, rf_op q ra rb⟩
theorem rf_test {g : G} {t : TE} {f : EF} (h : RfE g t f) : RfT g (tTest t) (tVal f) := by
  intro T σ H ρ m b m' hm hs hf Q k
  obtain ⟨x, m1, e1, hf⟩ := bd_some hf
  cases x with
  | bl c =>
    cases hf
    refine h T σ H ρ m _ _ hm hs e1 _ fun v T1 H1 l1 hm1 r1 => ?_
    cases r1
    exact ⟨b, rfl, k T1 H1 l1 hm1⟩
  | _ => cases hf
theorem dt_cmp {a b : Expr} {fa fb : EF} {op : CmpOp} {f} (ho : OpD X (compareOp op) f) (ha : DE X a fa) (hb : DE X b fb) (hm : behindInMarks op b = false) : DT X (.Compare a [op] [b] pos) (tVal (eOp f fa fb)) := by
  obtain ⟨r, h, q⟩ := ho.ex; obtain ⟨ta, pa, ra⟩ := ha.ex; obtain ⟨tb, pb, rb⟩ := hb.ex
  exact ⟨_, pt_cmpR h pa pb hm, rf_test (rf_op q ra rb)⟩
theorem dt_val {a : Expr} {fa : EF} (ha : DE X a fa) (he : ∀ whole, isTrue a X.env whole = (do let v ← whole; standAt a.pos; holding [v] (truthy v)) := by intro _; rfl) : DT X a (tVal fa) := by
  obtain ⟨ta, pa, ra⟩ := ha.ex
  exact ⟨_, pt_val pa he, rf_test ra⟩
theorem da_nil : DA X [] aNil := ⟨_, pa_nil, fun T σ H ρ m ds m' hm hs hf Q k => by cases hf; exact k [] T H .refl hm .nil⟩
end
end L4
namespace L4
open PySem L2
section
variable {X : Cx} {pos : Pos} {g : G}
theorem rf_cons {te : TE} {ta : TA} {a : EF} {r : AF} (ha : RfE g te a) (hr : RfA g ta r) : RfA g (tCons te ta) (aCons a r) := by
  intro T σ H ρ m ds m' hm hs hf Q k
  obtain ⟨x, m1, e1, hf⟩ := bd_some hf
  obtain ⟨xs, m2, e2, hf⟩ := bd_some hf
  cases hf
  refine ha T σ H ρ m x m1 hm hs e1 _ fun v T1 H1 l1 hm1 r1 => ?_
  refine hr T1 σ H1 ρ m1 xs _ hm1 (hs.le l1) e2 _ fun vs T2 H2 l2 hm2 r2 => ?_
  exact k _ T2 H2 (l1.trans l2) hm2 (.cons (r1.le l2) r2)
theorem da_cons {e : Expr} {es : List Expr} {a : EF} {r : AF} (ha : DE X e a) (hr : DA X es r) (hs : starEach (e :: es) X.env = (false, eval e X.env) :: starEach es X.env := by rfl) : DA X (e :: es) (aCons a r) := by
  obtain ⟨ta, pa, ra⟩ := ha.ex; obtain ⟨tb, pb, rb⟩ := hr.ex
  exact ⟨_, pa_cons pa pb hs, rf_cons ra rb⟩
theorem rf_and {t u : TT} {a b : TF} (ha : RfT g t a) (hb : RfT g u b) : RfT g (L2.tAnd t u) (tAnd a b) := by
  intro T σ H ρ m d m' hm hs hf Q k
  obtain ⟨x, m1, e1, hf⟩ := bd_some hf
  refine ha T σ H ρ m x m1 hm hs e1 _ fun T1 H1 l1 hm1 => ?_
  cases x with
  | true => exact hb T1 σ H1 ρ m1 d m' hm1 (hs.le l1) hf Q (k.le l1)
  | false => cases hf; exact k T1 H1 l1 hm1
theorem rf_or {t u : TT} {a b : TF} (ha : RfT g t a) (hb : RfT g u b) : RfT g (L2.tOr t u) (tOr a b) := by
  intro T σ H ρ m d m' hm hs hf Q k
  obtain ⟨x, m1, e1, hf⟩ := bd_some hf
  refine ha T σ H ρ m x m1 hm hs e1 _ fun T1 H1 l1 hm1 => ?_
  cases x with
  | true => cases hf; exact k T1 H1 l1 hm1
  | false => exact hb T1 σ H1 ρ m1 d m' hm1 (hs.le l1) hf Q (k.le l1)
theorem rf_not {t : TT} {a : TF} (ha : RfT g t a) : RfT g (L2.tNot t) (tNot a) := by
  intro T σ H ρ m d m' hm hs hf Q k
  obtain ⟨x, m1, e1, hf⟩ := bd_some hf
  cases hf
  exact ha T σ H ρ m x _ hm hs e1 _ fun T1 H1 l1 hm1 => k T1 H1 l1 hm1
theorem dw_and {a b : Expr} {rest : List Expr} {f h : TF} (ha : DT X a f) (hb : DW X (.BoolOp .And (b :: rest) pos) h) : DW X (.BoolOp .And (a :: b :: rest) pos) (tAnd f h) := by
  obtain ⟨ta, pa, ra⟩ := ha.ex; obtain ⟨tb, pb, rb⟩ := hb.ex
  exact ⟨_, pw_and pa pb, rf_and ra rb⟩
theorem dw_and1 {a : Expr} {f : TF} (ha : DT X a f) : DW X (.BoolOp .And [a] pos) f := by
  obtain ⟨ta, pa, ra⟩ := ha.ex
  exact ⟨_, pw_and1 pa, ra⟩
theorem dw_or {a b : Expr} {rest : List Expr} {f h : TF} (ha : DT X a f) (hb : DW X (.BoolOp .Or (b :: rest) pos) h) : DW X (.BoolOp .Or (a :: b :: rest) pos) (tOr f h) := by
  obtain ⟨ta, pa, ra⟩ := ha.ex; obtain ⟨tb, pb, rb⟩ := hb.ex
  exact ⟨_, pw_or pa pb, rf_or ra rb⟩
theorem dw_or1 {a : Expr} {f : TF} (ha : DT X a f) : DW X (.BoolOp .Or [a] pos) f := by
  obtain ⟨ta, pa, ra⟩ := ha.ex
  exact ⟨_, pw_or1 pa, ra⟩
theorem dt_w {a : Expr} {f : TF} (ha : DW X a f) : DT X a f := by
  obtain ⟨ta, pa, ra⟩ := ha.ex
  exact ⟨_, pa.pt, ra⟩
theorem dt_not {a : Expr} {f : TF} (ha : DT X a f) : DT X (.UnaryOp .Not a pos) (tNot f) := by
  obtain ⟨ta, pa, ra⟩ := ha.ex
  exact ⟨_, pt_not pa, rf_not ra⟩
theorem de_one {a : Expr} {op} {f : EF} (ha : DE X a f) : DE X (.BoolOp op [a] pos) f := by
  obtain ⟨ta, pa, ra⟩ := ha.ex
  exact ⟨_, pe_one pa, ra⟩
theorem de_and {a b : Expr} {rest : List Expr} {f h : EF} (ha : DE X a f) (hb : DE X (.BoolOp .And (b :: rest) pos) h) : DE X (.BoolOp .And (a :: b :: rest) pos) (eAnd f h) := by
  obtain ⟨ta, pa, ra⟩ := ha.ex; obtain ⟨tb, pb, rb⟩ := hb.ex
  refine ⟨_, pe_and pa pb, fun T σ H ρ m d m' hm hs hf Q k => ?_⟩
  obtain ⟨x, m1, e1, hf⟩ := bd_some hf
  refine ra T σ H ρ m x m1 hm hs e1 _ fun v T1 H1 l1 hm1 r1 => ?_
  cases r1 with
  | bl c => cases c with
    | true => exact ⟨true, rfl, rb T1 σ H1 ρ m1 d m' hm1 (hs.le l1) hf Q (k.le l1)⟩
    | false => cases hf; exact ⟨false, rfl, k _ T1 H1 l1 hm1 (.bl _)⟩
  | _ => cases hf
def eNot (a : EF) : EF := fun ρ m => bd (a ρ m) fun x m1 => match x with
  | .bl b => some (.bl (!b), m1)
  | _ => none
theorem de_not {a : Expr} {f : EF} (ha : DE X a f) : DE X (.UnaryOp .Not a pos) (eNot f) := by
  obtain ⟨ta, pa, ra⟩ := ha.ex
  refine ⟨_, pe_not pa, fun T σ H ρ m d m' hm hs hf Q k => ?_⟩
  obtain ⟨x, m1, e1, hf⟩ := bd_some hf
  refine ra T σ H ρ m x m1 hm hs e1 _ fun v T1 H1 l1 hm1 r1 => ?_
  cases r1 with
  | bl c => cases hf; exact ⟨c, rfl, k _ T1 H1 l1 hm1 (.bl _)⟩
  | _ => cases hf
def isNon : D → Bool
  | .non => true
  | _ => false
def eIsN (a : EF) : EF := fun ρ m => bd (a ρ m) fun x m1 => some (.bl (isNon x), m1)
def eNotN (a : EF) : EF := fun ρ m => bd (a ρ m) fun x m1 => some (.bl (!isNon x), m1)
theorem de_if {c a b : Expr} {fc : TF} {fa fb : EF} (hc : DT X c fc) (ha : DE X a fa) (hb : DE X b fb) : DE X (.IfExp c a b pos) (eIf fc fa fb) := by
  obtain ⟨tc, pc, rc⟩ := hc.ex; obtain ⟨ta, pa, ra⟩ := ha.ex; obtain ⟨tb, pb, rb⟩ := hb.ex
  refine ⟨_, pe_ifExp pc pa pb, fun T σ H ρ m d m' hm hs hf Q k => ?_⟩
  obtain ⟨x, m1, e1, hf⟩ := bd_some hf
  refine rc T σ H ρ m x m1 hm hs e1 _ fun T1 H1 l1 hm1 => ?_
  cases x with
  | true => exact ra T1 σ H1 ρ m1 d m' hm1 (hs.le l1) hf Q (k.le l1)
  | false => exact rb T1 σ H1 ρ m1 d m' hm1 (hs.le l1) hf Q (k.le l1)
theorem rf_asg {te : TE} {tg : TG} {a : EF} {f : GF} (ha : RfE g te a) (hg : RfG g tg f) : RfS g (tAsg te tg) (sAsg a f) := by
  intro T σ H ρ m d m' hm hs hf D k
  obtain ⟨x, m1, e1, hf⟩ := bd_some hf
  obtain ⟨ρ1, m2, e2, hf⟩ := bd_some hf
  cases hf
  refine ha T σ H ρ m x m1 hm hs e1 _ fun v T1 H1 l1 hm1 r1 => ?_
  exact hg T1 σ H1 ρ m1 x v ρ1 _ hm1 (hs.le l1) r1 e2 _ (KS.le l1 k)
theorem ds_asg {tg e : Expr} {a : EF} {f : GF} (ha : DE X e a) (hg : DG X tg f) (hs : swapsWithSole [tg] e pos.line X.env = pure false := by rfl) (hw : swappedStores [tg] e X.env = pure none := by rfl)
    (h1 : (assignEach [tg] X.env).map (·.2) = [assign tg X.env] := by rfl) : DS X (.Assign [tg] e pos) (sAsg a f) := by
  obtain ⟨ta, pa, ra⟩ := ha.ex; obtain ⟨tb, pb, rb⟩ := hg.ex
  exact ⟨_, ps_asg pa pb hs hw h1, rf_asg ra rb⟩
theorem ds_set {i : Nat} {x : Str} {e : Expr} {a : EF} {pos' : Pos} (hN : X.N.Nodup) (hi : X.N[i]? = some x) (hx : Loc X.env.scope x) (he : DE X e a) (hs : swapsWith e (some (.Name x pos')) pos.line X.env = pure false := by rfl) (hf : X.fn x = true ∨ X.env.scope.names.lookup x = some .local := by first | exact .inl rfl | exact .inr rfl | assumption) :
    DS X (.Assign [.Name x pos'] e pos) (sAsg a (gNm i)) := by
  obtain ⟨ta, pa, ra⟩ := he.ex
  refine ⟨_, ps_set hN hi hx pa hs hf, rf_asg ra fun T σ H ρ m d v ρ' m' hm hs r hf Q k => ?_⟩
  cases hf
  exact k _ T H .refl hm (hs.set r)
theorem ds_expr {e : Expr} {a : EF} (he : DE X e a) (hs : swapsWith e none pos.line X.env = pure false := by rfl) : DS X (.Expr e pos) (sDrop a) := by
  obtain ⟨ta, pa, ra⟩ := he.ex
  refine ⟨_, ps_expr pa hs, fun T σ H ρ m d m' hm hs hf D k => ?_⟩
  obtain ⟨x, m1, e1, hf⟩ := bd_some hf
  cases hf
  exact ra T σ H ρ m x _ hm hs e1 _ fun v T1 H1 l1 hm1 r1 => k σ T1 H1 l1 hm1 (hs.le l1)
theorem ds_ret {e : Expr} {a : EF} (he : DE X e a) : DS X (.Return (some e) pos) (sRet a) := by
  obtain ⟨ta, pa, ra⟩ := he.ex
  refine ⟨_, ps_ret pa, fun T σ H ρ m d m' hm hs hf D k => ?_⟩
  obtain ⟨x, m1, e1, hf⟩ := bd_some hf
  cases hf
  exact ra T σ H ρ m x _ hm hs e1 _ k
theorem dss_nil : DSs X [] sNop := ⟨_, pss_nil, fun T σ H ρ m d m' hm hs hf D k => by cases hf; exact k _ T H .refl hm hs⟩
theorem dss_one {s : Stmt} {f : SF} (h : DS X s f) : DSs X [s] f := by
  obtain ⟨ta, pa, ra⟩ := h.ex
  exact ⟨_, pss_one pa, ra⟩
theorem dss_cons {s : Stmt} {r : List Stmt} {a b : SF} (h : DS X s a) (hr : DSs X r b) : DSs X (s :: r) (sSeq a b) := by
  obtain ⟨ta, pa, ra⟩ := h.ex; obtain ⟨tb, pb, rb⟩ := hr.ex
  refine ⟨_, pss_cons pa pb, fun T σ H ρ m d m' hm hs hf D k => ?_⟩
  obtain ⟨x, m1, e1, hf⟩ := bd_some hf
  refine ra T σ H ρ m x m1 hm hs e1 _ ?_
  cases x with
  | nx ρ1 => exact fun σ1 T1 H1 l1 hm1 hs1 => rb T1 σ1 H1 ρ1 m1 d m' hm1 hs1 hf D (KF.le l1 k)
  | rt d => cases hf; exact k
  | bk ρ => cases hf; exact k
  | ct ρ => cases hf; exact k
theorem ds_if {c : Expr} {a b : List Stmt} {fc : TF} {fa fb : SF} (hc : DT X c fc) (ha : DSs X a fa) (hb : DSs X b fb) : DS X (.If c a b pos) (sIf fc fa fb) := by
  obtain ⟨tc, pc, rc⟩ := hc.ex; obtain ⟨ta, pa, ra⟩ := ha.ex; obtain ⟨tb, pb, rb⟩ := hb.ex
  refine ⟨_, ps_if pc pa pb, fun T σ H ρ m d m' hm hs hf D k => ?_⟩
  obtain ⟨x, m1, e1, hf⟩ := bd_some hf
  refine rc T σ H ρ m x m1 hm hs e1 _ fun T1 H1 l1 hm1 => ?_
  cases x with
  | true => exact ra T1 σ H1 ρ m1 d m' hm1 (hs.le l1) hf D (KF.le l1 k)
  | false => exact rb T1 σ H1 ρ m1 d m' hm1 (hs.le l1) hf D (KF.le l1 k)
def sWhile (n : Nat) (c : TF) (b : SF) : SF := match n with
  | 0 => fun _ _ => none
  | n + 1 => fun ρ m => bd (c ρ m) fun x m1 => if x then bd (b ρ m1) fun r m2 => match r with
      | .nx ρ2 => sWhile n c b ρ2 m2
      | .ct ρ2 => sWhile n c b ρ2 m2
      | .bk ρ2 => some (.nx ρ2, m2)
      | .rt d => some (.rt d, m2)
    else some (.nx ρ, m1)
theorem ds_while {c : Expr} {body : List Stmt} {fc : TF} {fb : SF} (n : Nat) (hp : PassesOwn (model X.prog X.w) X.A X.env X.xe) (hc : DT X c fc) (hb : DSs X body fb) : DS X (.While c body [] pos) (sWhile n fc fb) := by
  obtain ⟨tc, pc, rc⟩ := hc.ex; obtain ⟨tb, pb, rb⟩ := hb.ex
  refine ⟨_, ps_while hp pc pb, fun T σ H ρ m r m' hm hs hf D k => ?_⟩
  refine ⟨fun j σ1 H1 => ∃ T1 ρ1 m1, Le T H T1 H1 ∧ RepH (gx X) T1 H1 m1 ∧ RepS (gx X) T1 H1 σ1 ρ1 ∧ sWhile j fc fb ρ1 m1 = some (r, m'), ⟨n, T, ρ, m, .refl, hm, hs, hf⟩, ?_⟩
  rintro j σ1 H1 ⟨T1, ρ1, m1, l1, hm1, hs1, hf1⟩
  cases j with
  | zero => cases hf1
  | succ j =>
    obtain ⟨x, m2, e2, hf2⟩ := bd_some hf1
    refine rc T1 σ1 H1 ρ1 m1 x m2 hm1 hs1 e2 _ fun T2 H2 l2 hm2 => ?_
    cases x with
    | false => cases hf2; exact k σ1 T2 H2 (l1.trans l2) hm2 (hs1.le l2)
    | true =>
      obtain ⟨y, m3, e3, hf3⟩ := bd_some hf2
      refine ⟨_, fun _ _ q => q, rb T2 σ1 H2 ρ1 m2 y m3 hm2 (hs1.le l2) e3 _ ?_⟩
      cases y with
      | nx ρ3 => exact fun σ3 T3 H3 l3 hm3 hs3 => ⟨j, Nat.lt_succ_self _, T3, ρ3, m3, l1.trans (l2.trans l3), hm3, hs3, hf3⟩
      | ct ρ3 => exact fun σ3 T3 H3 l3 hm3 hs3 => ⟨j, Nat.lt_succ_self _, T3, ρ3, m3, l1.trans (l2.trans l3), hm3, hs3, hf3⟩
      | bk ρ3 => cases hf3; exact KS.le (l1.trans l2) k
      | rt d => cases hf3; exact KV.le (l1.trans l2) k
def ItOk (g : G) (T : Tk) (H : Hp) (J : It) (ds : List D) : Prop := ∀ T1 H1, Le T H T1 H1 → ∀ m1, RepH g T1 H1 m1 → ∀ i : Nat,
  (∀ d, ds[i]? = some d → J.go i H1 ∧ ∀ x H2, J.yld i H1 x H2 → ∃ T2, Le T1 H1 T2 H2 ∧ RepH g T2 H2 m1 ∧ Rep g T2 H2 d x) ∧ (ds.length = i → J.stop i H1)
def RfI (g : G) (wi : TI) (f : AF) : Prop := ∀ T σ H ρ m ds m', RepH g T H m → RepS g T H σ ρ → f ρ m = some (ds, m') → ∀ R : It → Hp → Prop, (∀ J T' H', Le T H T' H' → RepH g T' H' m' → ItOk g T' H' J ds → R J H') → wi σ H R
structure DI (X : Cx) (tg iter : Expr) (f : AF) : Prop where
  ex : ∃ wi, PI X tg iter wi ∧ RfI (gx X) wi f
def forGo (f : GF) (b : SF) : List D → SF
  | [] => fun ρ m => some (.nx ρ, m)
  | x :: xs => fun ρ m => bd (f x ρ m) fun ρ1 m1 => bd (b ρ1 m1) fun r m2 => match r with
      | .nx ρ2 => forGo f b xs ρ2 m2
      | .ct ρ2 => forGo f b xs ρ2 m2
      | .bk ρ2 => some (.nx ρ2, m2)
      | .rt d => some (.rt d, m2)
def sFor (it : AF) (f : GF) (b : SF) : SF := fun ρ m => bd (it ρ m) fun xs m1 => forGo f b xs ρ m1
theorem ds_for {tg iter : Expr} {body : List Stmt} {fi : AF} {fg : GF} {fb : SF} (hp : PassesOwn (model X.prog X.w) X.A X.env X.xe) (hc : X.calm = true) (hi : DI X tg iter fi) (hg : DG X tg fg) (hb : DSs X body fb)
    (hs : ∀ x, foldedSetIterable iter X.env x = pure x := by intro _; rfl) : DS X (.For tg iter body [] pos) (sFor fi fg fb) := by
  obtain ⟨ti, pi, ri⟩ := hi.ex; obtain ⟨tg', pg, rg⟩ := hg.ex; obtain ⟨tb, pb, rb⟩ := hb.ex
  refine ⟨_, ps_for hp hc pi pg pb hs, fun T σ H ρ m r m' hm hs hf D k => ?_⟩
  obtain ⟨ds, m1, e1, hf⟩ := bd_some hf
  refine ri T σ H ρ m ds m1 hm hs e1 _ fun J T0 H0 l0 hm0 ok => ?_
  refine ⟨fun i j σ1 H1 => i + j = ds.length ∧ ∃ T1 ρ1 m1, Le T0 H0 T1 H1 ∧ RepH (gx X) T1 H1 m1 ∧ RepS (gx X) T1 H1 σ1 ρ1 ∧ forGo fg fb (ds.drop i) ρ1 m1 = some (r, m'), ⟨ds.length, by simp, T0, ρ, m1, .refl, hm0, hs.le l0, by simpa using hf⟩, ?_⟩
  rintro i j σ1 H1 ⟨hij, T1, ρ1, m1, l1, hm1, hs1, hf1⟩
  obtain ⟨okG, okS⟩ := ok T1 H1 l1 m1 hm1 i
  cases j with
  | zero =>
    left
    rw [List.drop_of_length_le (by omega)] at hf1
    cases hf1
    exact ⟨okS (by omega), k σ1 T1 H1 (l0.trans l1) hm1 hs1⟩
  | succ j =>
    right
    have hi : i < ds.length := by omega
    rw [List.drop_eq_getElem_cons hi] at hf1
    obtain ⟨go, yl⟩ := okG ds[i] (List.getElem?_eq_getElem hi)
    refine ⟨go, _, fun _ _ q => q, fun x H2 y2 => ?_⟩
    obtain ⟨T2, l2, hm2, r2⟩ := yl x H2 y2
    obtain ⟨ρ3, m3, e3, hf3⟩ := bd_some hf1
    refine rg T2 σ1 H2 ρ1 m1 ds[i] x ρ3 m3 hm2 (hs1.le l2) r2 e3 _ fun σ3 T3 H3 l3 hm3 hs3 => ?_
    obtain ⟨y, m4, e4, hf4⟩ := bd_some hf3
    refine rb T3 σ3 H3 ρ3 m3 y m4 hm3 hs3 e4 _ ?_
    have l13 := l1.trans (l2.trans l3)
    cases y with
    | nx ρ4 => exact fun σ4 T4 H4 l4 hm4 hs4 => ⟨j, Nat.lt_succ_self _, by omega, T4, ρ4, m4, l13.trans l4, hm4, hs4, hf4⟩
    | ct ρ4 => exact fun σ4 T4 H4 l4 hm4 hs4 => ⟨j, Nat.lt_succ_self _, by omega, T4, ρ4, m4, l13.trans l4, hm4, hs4, hf4⟩
    | bk ρ4 => cases hf4; exact KS.le (l0.trans l13) k
    | rt d => cases hf4; exact KV.le (l0.trans l13) k
end
end L4
namespace L4
open PySem L2
mutual
def pureD : D → Bool
  | .tup ds => pureL ds
  | .lst ds => pureL ds
  | .scr ds => pureL ds
  | .dic ks vs => pureL ks && pureL vs
  | .obj _ _ vs => pureL vs
  | .ref _ => false
  | .non => true
  | .bl _ => true
  | .int _ => true
  | .str _ => true
  | .glo _ => true
  | .ty _ => true
  | .tab _ => false
  | .exn _ _ _ => false
  | .ptp ds => pureL ds
def pureL : List D → Bool
  | [] => true
  | d :: ds => pureD d && pureL ds
end
mutual
def groundD : D → Bool
  | .tup ds => groundL ds
  | .lst _ => false
  | .scr _ => false
  | .dic _ _ => false
  | .obj _ _ _ => false
  | .ref _ => false
  | .non => true
  | .bl _ => true
  | .int _ => true
  | .str _ => true
  | .glo _ => true
  | .ty _ => true
  | .tab _ => false
  | .exn _ _ _ => false
  | .ptp ds => groundL ds
def groundL : List D → Bool
  | [] => true
  | d :: ds => groundD d && groundL ds
end
def T0 (ν : List Addr) : Tk := ⟨[], ν, [], (fun _ h => nomatch h), fun _ h => nomatch h⟩
section
variable {g : G} {T : Tk} {H : Hp}
theorem and2 {a b : Bool} (h : (a && b) = true) : a = true ∧ b = true := by cases a <;> cases b <;> first | exact ⟨rfl, rfl⟩ | cases h
theorem FT.less {K : PySem.W.Frag} {ν : List Addr} {a : Addr} {vs : List V} (hν : ∀ a ∈ ν, a ∈ T.ν) (f : FT K T H a vs) : FT K (T0 ν) H a vs := by
  rcases f with ⟨n, f⟩ | f
  · exact .inl ⟨fun z => n (hν _ z), f⟩
  · exact .inr f
theorem FL.less {ν : List Addr} {a : Addr} {vs : List V} (hν : ∀ a ∈ ν, a ∈ T.ν) (f : FL T H a vs) : FL (T0 ν) H a vs := ⟨fun z => f.1 (hν _ z), f.2⟩
theorem FS.less {K : PySem.W.Frag} {ν : List Addr} {a : Addr} {vs : List V} (hν : ∀ a ∈ ν, a ∈ T.ν) (f : FS K T H a vs) : FS K (T0 ν) H a vs := by
  rcases f with ⟨n, f⟩ | f
  · exact .inl ⟨fun z => n (hν _ z), f⟩
  · exact .inr f
theorem FP.less {ν : List Addr} {a : Addr} {vs : List V} (hν : ∀ a ∈ ν, a ∈ T.ν) (f : FP T H a vs) : FP (T0 ν) H a vs := ⟨fun z => f.1 (hν _ z), f.2⟩
mutual
theorem Rep.pure {ν : List Addr} (hν : ∀ a ∈ ν, a ∈ T.ν) : ∀ (d : D) {v : V}, pureD d = true → Rep g T H d v → Rep g (T0 ν) H d v
  | .non, _, _, r => by cases r; exact .non
  | .bl _, _, _, r => by cases r; exact .bl _
  | .int _, _, _, r => by cases r; exact .int _
  | .str _, _, _, r => by cases r; exact .str _
  | .glo _, _, _, r => by cases r; exact .glo _
  | .ty _, _, _, r => by cases r; exact .ty _
  | .tab _, _, h, _ => by rw [pureD] at h; cases h
  | .exn _ _ _, _, h, _ => by rw [pureD] at h; cases h
  | .ref _, _, h, _ => by rw [pureD] at h; cases h
  | .tup ds, _, h, r => by
    rw [pureD] at h
    cases r with
    | tup f r => exact .tup (f.less hν) (RepL.pure hν ds h r)
  | .lst ds, _, h, r => by
    rw [pureD] at h
    cases r with
    | lst f r => exact .lst (f.less hν) (RepL.pure hν ds h r)
  | .scr ds, _, h, r => by
    rw [pureD] at h
    cases r with
    | scr f r => exact .scr (f.less hν) (RepL.pure hν ds h r)
  | .dic ks vs, _, h, r => by
    rw [pureD] at h
    cases r with
    | dicF n f r q => exact .dicF (fun z => n (hν _ z)) f (RepL.pure hν ks (and2 h).1 r) (RepL.pure hν vs (and2 h).2 q)
    | dicN n f e r q => exact .dicN (fun z => n (hν _ z)) f e (RepL.pure hν ks (and2 h).1 r) (RepL.pure hν vs (and2 h).2 q)
  | .obj c ns vs, _, h, r => by
    rw [pureD] at h
    cases r with
    | obj n f e r => exact .obj (fun z => n (hν _ z)) f e (RepL.pure hν vs h r)
  | .ptp ds, _, h, r => by
    rw [pureD] at h
    cases r with
    | ptp f r => exact .ptp (f.less hν) (RepL.pure hν ds h r)
theorem RepL.pure {ν : List Addr} (hν : ∀ a ∈ ν, a ∈ T.ν) : ∀ (ds : List D) {vs : List V}, pureL ds = true → RepL g T H ds vs → RepL g (T0 ν) H ds vs
  | [], _, _, r => by cases r; exact .nil
  | d :: ds, _, h, r => by
    rw [pureL] at h
    cases r with
    | cons r s => exact .cons (Rep.pure hν d (and2 h).1 r) (RepL.pure hν ds (and2 h).2 s)
end
end
def mapO (f : D → Option D) : List D → Option (List D)
  | [] => some []
  | d :: ds => match f d, mapO f ds with
    | some e, some es => some (e :: es)
    | _, _ => none
def frzGo (m : M) : Nat → D → Option D
  | 0, _ => none
  | n + 1, .tup ds => (mapO (frzGo m n) ds).map .tup
  | n + 1, .lst ds => (mapO (frzGo m n) ds).map .lst
  | n + 1, .scr ds => (mapO (frzGo m n) ds).map .scr
  | n + 1, .ptp ds => (mapO (frzGo m n) ds).map .ptp
  | n + 1, .dic ks vs => match mapO (frzGo m n) ks, mapO (frzGo m n) vs with
    | some a, some b => if pureL ks then some (.dic ks b) else none
    | _, _ => none
  | n + 1, .obj c ns vs => (mapO (frzGo m n) vs).map (.obj c ns)
  | n + 1, .ref k => match m[k]? with
    | some (.lst ds) => (mapO (frzGo m n) ds).map .lst
    | some (.dic ks vs) => if pureL ks then (mapO (frzGo m n) vs).map (.dic ks) else none
    | some (.ins c ns vs) => (mapO (frzGo m n) vs).map (.obj c ns)
    | none => none
  | _ + 1, .tab _ => none
  | _ + 1, .exn _ _ _ => none
  | _ + 1, d => some d
def frz (m : M) (d : D) : Option D := if pureD d then some d else frzGo m 40 d
section
variable {g : G} {T : Tk} {H : Hp} {m : M}
theorem RepL.mapO {T' : Tk} {f : D → Option D} (hf : ∀ d e v, f d = some e → Rep g T H d v → Rep g T' H e v) : ∀ {ds es : List D} {vs : List V}, L4.mapO f ds = some es → RepL g T H ds vs → RepL g T' H es vs
  | [], _, _, h, .nil => by cases h; exact .nil
  | d :: ds, es, _, h, .cons r s => by
    unfold L4.mapO at h
    split at h
    · next e es' h1 h2 => cases h; exact .cons (hf _ _ _ h1 r) (RepL.mapO hf h2 s)
    · cases h
theorem frzGo_ok {ν : List Addr} (hm : RepH g T H m) (hν : ∀ a ∈ ν, a ∈ T.ν) (hμ : ∀ a ∈ T.μ, a ∉ ν) : ∀ (n : Nat) (d e : D) (v : V), frzGo m n d = some e → Rep g T H d v → Rep g (T0 ν) H e v
  | 0, _, _, _, h, _ => by cases h
  | n + 1, d, e, v, h, r => by
    have ih := frzGo_ok hm hν hμ n
    cases r with
    | non => cases h; exact .non
    | bl b => cases h; exact .bl b
    | int i => cases h; exact .int i
    | str x => cases h; exact .str x
    | glo x => cases h; exact .glo x
    | ty x => cases h; exact .ty x
    | tab _ => cases h
    | exn0 _ _ => cases h
    | exn1 _ _ _ _ _ _ => cases h
    | tup f r =>
      obtain ⟨es, h1, rfl⟩ := Option.map_eq_some_iff.mp h
      exact .tup (f.less hν) (r.mapO ih h1)
    | lst f r =>
      obtain ⟨es, h1, rfl⟩ := Option.map_eq_some_iff.mp h
      exact .lst (f.less hν) (r.mapO ih h1)
    | scr f r =>
      obtain ⟨es, h1, rfl⟩ := Option.map_eq_some_iff.mp h
      exact .scr (f.less hν) (r.mapO ih h1)
    | ptp f r =>
      obtain ⟨es, h1, rfl⟩ := Option.map_eq_some_iff.mp h
      exact .ptp (f.less hν) (r.mapO ih h1)
    | dicF k f r q =>
      unfold frzGo at h
      split at h
      · next a b h1 h2 =>
        split at h
        · next hp => cases h; exact .dicF (fun z => k (hν _ z)) f (RepL.pure hν _ hp r) (q.mapO ih h2)
        · cases h
      · cases h
    | dicN k f e r q =>
      unfold frzGo at h
      split at h
      · next a b h1 h2 =>
        split at h
        · next hp => cases h; exact .dicN (fun z => k (hν _ z)) f e (RepL.pure hν _ hp r) (q.mapO ih h2)
        · cases h
      · cases h
    | obj k f e r =>
      obtain ⟨es, h1, rfl⟩ := Option.map_eq_some_iff.mp h
      exact .obj (fun z => k (hν _ z)) f e (r.mapO ih h1)
    | @ref k a hk =>
      have na : a ∉ ν := hμ a (List.mem_of_getElem? hk)
      unfold frzGo at h
      split at h
      · next ds h1 =>
        obtain ⟨es, h2, rfl⟩ := Option.map_eq_some_iff.mp h
        cases hm.at_ _ _ _ hk h1 with
        | lst f r => exact .lst ⟨na, f⟩ (r.mapO ih h2)
      · next ks vs h1 =>
        split at h
        · next hp =>
          obtain ⟨es, h2, rfl⟩ := Option.map_eq_some_iff.mp h
          cases hm.at_ _ _ _ hk h1 with
          | dicF f r q => exact .dicF na (.inl f) (RepL.pure hν _ hp r) (q.mapO ih h2)
          | dicN f e r q => exact .dicN na (.inl f) e (RepL.pure hν _ hp r) (q.mapO ih h2)
        · cases h
      · next c ns vs h1 =>
        obtain ⟨es, h2, rfl⟩ := Option.map_eq_some_iff.mp h
        cases hm.at_ _ _ _ hk h1 with
        | ins f e r => exact .obj na f e (r.mapO ih h2)
      · cases h
theorem frz_ok {ν : List Addr} (hm : RepH g T H m) (hν : ∀ a ∈ ν, a ∈ T.ν) (hμ : ∀ a ∈ T.μ, a ∉ ν) {d e : D} {v : V} (h : frz m d = some e) (r : Rep g T H d v) : Rep g (T0 ν) H e v := by
  unfold frz at h
  split at h
  · next hp => cases h; exact Rep.pure hν _ hp r
  · exact frzGo_ok hm hν hμ _ _ _ _ h r
end
structure FnG (P : Program) (w : World) (K : PySem.W.Frag) (mg : Str → Option Value) (base : Heap) (CX : CXT) (k : Nat) (f : Addr) (fd : FuncData) (ps : List Str) (sp : Sp) : Prop where
  len : ∀ vs H Q E, sp vs H Q E → vs.length = ps.length
  run : ∀ (A : Around) (outer : List Env) (s : Shared) (H : Hp) (args : Args) (us : List Value) (vs : List V) (Q : VK) (E : XK), A.guards = some [] → Room k A → Env0 P w K mg base A outer s H →
    BindsTo s fd args (ps.zip us) → Vals vs us → sp vs H Q E → codeAny (model P w) A (.call (.ref f) args) (CR CX outer P w H s Q E) s
theorem FnG.old {P : Program} {w : World} {K : PySem.W.Frag} {mg : Str → Option Value} {base : Heap} {k : Nat} {f : Addr} {fd : FuncData} {ps : List Str} {sp : Sp} (F : L3.FnG P w K mg base k f fd ps sp) : FnG P w K mg base CX0 k f fd ps sp := ⟨F.len, F.run⟩
/-- where a call may be made -/
structure Gd (k : Nat) (X : Cx) : Prop where
  g : X.A.guards = some []
  r : Room k X.A
theorem Gd.mono {j k : Nat} {X : Cx} (h : Gd k X) (l : j ≤ k) : Gd j X := ⟨h.g, h.r.mono l⟩
section
variable {X : Cx} {k : Nat} {f : Addr} {fd : FuncData} {ps : List Str} {sp : Sp} {ds : List Value} {dvs : List V}
theorem FnG.call (F : FnG X.prog X.w X.K X.mg X.base CX0 k f fd ps sp) (hr : Gd k X) (hb : Binds X.K fd ps ds) (hd : Vals dvs ds) : CallR X (.ref f) fun vs H Q => sp (vs ++ dvs) H Q E0 := by
  intro pins s σ H vs us Q I r h
  have r2 : Vals (vs ++ dvs) (us ++ ds) := r.append hd
  have hl : (us ++ ds).length = ps.length := by rw [← r2.length]; exact F.len _ _ _ _ h
  refine wpAny_call (codeAny_mono (F.run X.A X.stack s H ⟨us, []⟩ (us ++ ds) (vs ++ dvs) Q E0 hr.g hr.r I.env0 (hb s us I.kIn hl) r2 h) fun r s' hq => ?_)
  cases r with
  | error e => exact hq.elim
  | ok fl =>
    cases fl with
    | ret u => exact I.after hq
    | next => exact False.elim hq
    | brk => exact False.elim hq
    | cont => exact False.elim hq
variable {r : List V → Hp → VK → Prop} {x : Str} {p pos : Pos} {e : Expr} {es : List Expr} {t : TA}
theorem pe_callR (hc : CallR X (.ref f) r) (hg : Gl X x) (hm : X.mg x = some (.ref f)) (hk : PySem.W.keepIn X.K (.ref f) = true) (ha : PA X (e :: es) t) (hdb : (x == ("__debug__" : Str)) = false := by decide)
    (he : starEach (e :: es) X.env = (false, eval e X.env) :: starEach es X.env := by rfl) (hpl : (backTo pos (starEach es X.env)).any (·.1) = false := by rfl) : PE X (.Call (.Name x p) (e :: es) [] pos) (tCB r t) := by
  refine ⟨fun pins s σ H Q I h => ?_⟩
  refine wpAny_Call_Name_kw (ld_glob I hg hm ?_ hdb)
  refine PySem.W.callWith_K (h₀ := X.base) I.ok.mod.kin hk (thn (ha.run pos pins s σ H _ I h) fun us s1 ⟨vs, H1, I1, r, q⟩ => ⟨I1.kIn, ?_⟩) he hpl
  exact hc pins s1 σ H1 vs us Q I1 r q
end
/-- what a def on plain data promises -/
def spP (g : G) (n : Nat) (F : List D → Option D) : Sp := fun vs H Q _ => vs.length = n ∧ ∃ (ν : List Addr) (ds : List D) (d : D), (∀ a ∈ ν, ∃ u, H a = some u ∧ Mu u) ∧ RepL g (T0 ν) H ds vs ∧ F ds = some d ∧
  ∀ v H', (∀ a u, H a = some u → H' a = some u) → Rep g (T0 ν) H' d v → Q v H'
/-- .. on tracked things too -/
def spM (g : G) (n : Nat) (F : List D → M → Option (D × M)) : Sp := fun vs H Q _ => vs.length = n ∧ ∃ (T : Tk) (m : M) (ds : List D) (d : D) (m' : M), RepH g T H m ∧ RepL g T H ds vs ∧ F ds m = some (d, m') ∧ KV g T H m' d Q
def startD (n : Nat) (ds : List D) : Ss := ds.map some ++ List.replicate (n - ds.length) none
theorem repS_start {g : G} {T : Tk} {H : Hp} {N : List Str} {ds : List D} {vs : List V} (r : RepL g T H ds vs) : RepS g T H (L2.start N vs) (startD N.length ds) := by
  refine ⟨by simp [L2.start, startD, r.length], fun i d h => ?_⟩
  unfold startD at h
  by_cases hi : i < ds.length
  · rw [List.getElem?_append_left (by simpa using hi), List.getElem?_map] at h
    obtain ⟨e, h1, h2⟩ := Option.map_eq_some_iff.mp h
    cases h2
    obtain ⟨v, h3, q⟩ := r.get h1
    exact ⟨v, by
      unfold L2.start
      rw [List.getElem?_append_left (by simpa [← r.length] using hi), List.getElem?_map, h3]
      rfl, q⟩
  · rw [List.getElem?_append_right (by simpa using hi)] at h
    have := List.mem_of_getElem? h
    simp at this
def endP : Option (Fl × M) → Option D
  | some (.rt d, m) => frz m d
  | some (.nx _, _) => some .non
  | _ => none
def endM : Option (Fl × M) → Option (D × M)
  | some (.rt d, m') => some (d, m')
  | some (.nx _, m') => some (.non, m')
  | _ => none
def runP (a n : Nat) (b : SF) (ds : List D) : Option D := if ds.length = a then endP (b (startD n ds) []) else none
def runM (a n : Nat) (b : SF) (ds : List D) (m : M) : Option (D × M) := if ds.length = a then endM (b (startD n ds) m) else none
theorem ite_some {α : Type} {c : Prop} [Decidable c] {a : Option α} {b : α} (h : (if c then a else none) = some b) : c ∧ a = some b := by
  split at h
  · next hc => exact ⟨hc, h⟩
  · cases h
theorem runM_len {a n : Nat} {b : SF} {ds : List D} {m : M} {r : D × M} (h : runM a n b ds m = some r) : ds.length = a := (ite_some h).1
theorem spP_run {g : G} {n a : Nat} {N : List Str} {t : TS} {b : SF} (ht : RfS g t b) {vs : List V} {H : Hp} {Q : VK} {E : XK} (h : spP g n (runP a N.length b) vs H Q E) : t { nx := fun _ H' => Q .non H', rt := Q } (L2.start N vs) H := by
  obtain ⟨_, ν, ds, d, hν, r, hf, k⟩ := h
  have hm : RepH g (T0 ν) H [] := ⟨rfl, List.nodup_nil, hν, (fun n a o h _ => by cases h), fun p h => nomatch h⟩
  replace hf := (ite_some hf).2
  unfold endP at hf
  split at hf
  · next d' m e =>
    refine ht (T0 ν) _ H _ [] _ _ hm (repS_start r) e _ fun v T' H' l hm' rv => ?_
    refine k v H' (fun a u h => l.keep a u h (fun z => nomatch z) (fun _ z => nomatch z)) (frz_ok hm' (fun a h => l.up a h) (fun a h z => ?_) hf rv)
    have := l.newμ a h fun z => nomatch z
    obtain ⟨u, q, _⟩ := hν a z
    rw [this] at q
    cases q
  · next e =>
    cases hf
    exact ht (T0 ν) _ H _ [] _ _ hm (repS_start r) e _ fun σ T' H' l hm' rv => k _ H' (fun a u h => l.keep a u h (fun z => nomatch z) (fun _ z => nomatch z)) .non
  · cases hf
theorem spM_run {g : G} {n a : Nat} {N : List Str} {t : TS} {b : SF} (ht : RfS g t b) {vs : List V} {H : Hp} {Q : VK} {E : XK} (h : spM g n (runM a N.length b) vs H Q E) : t { nx := fun _ H' => Q .non H', rt := Q } (L2.start N vs) H := by
  obtain ⟨_, T, m, ds, d, m', hm, r, hf, k⟩ := h
  replace hf := (ite_some hf).2
  unfold endM at hf
  split at hf
  · next d' m e =>
    cases hf
    exact ht T _ H _ m _ _ hm (repS_start r) e _ k
  · next e =>
    cases hf
    exact ht T _ H _ m _ _ hm (repS_start r) e _ fun σ T' H' l hm' rv => k _ T' H' l hm' .non
  · cases hf
/-- a call of a def on plain data: tracked things are lent where what comes back is plain -/
def callP (F : List D → Option D) (m : M) (ds : List D) : Option D := if pureL ds then F ds else match mapO (frz m) ds with
  | some es => match F es with
    | some d => if groundD d then some d else none
    | none => none
  | none => none
/-- a call of a def on tracked things -/
def eCallM (F : List D → M → Option (D × M)) (a : AF) : EF := fun ρ m => bd (a ρ m) fun xs m1 => F xs m1
theorem rf_callM {g : G} {n : Nat} {F : List D → M → Option (D × M)} {t : TA} {a : AF} (hn : ∀ ds m r, F ds m = some r → ds.length = n) (ha : RfA g t a) : RfE g (tCB (fun vs H Q => spM g n F vs H Q E0) t) (eCallM F a) := by
  intro T σ H ρ m d m' hm hs hf Q k
  obtain ⟨x, m1, e1, hf⟩ := bd_some hf
  refine ha T σ H ρ m x _ hm hs e1 _ fun v T1 H1 l1 hm1 r1 => ?_
  exact ⟨by rw [← r1.length]; exact hn _ _ _ hf, T1, m1, x, d, m', hm1, r1, hf, k.le l1⟩
end L4
namespace L4
open PySem L2
def subD : M → D → D → Option D
  | _, .int i, .int j => some (.int (i - j))
  | _, _, _ => none
def fdivD : M → D → D → Option D
  | _, .int i, .int j => if 0 < j ∧ j < 1073741824 then some (.int (i / j)) else none
  | _, _, _ => none
def modD : M → D → D → Option D
  | _, .int i, .int j => if 0 < j then some (.int (i % j)) else none
  | _, _, _ => none
def powD : M → D → D → Option D
  | _, .int i, .int j => if 0 ≤ j ∧ j ≤ 1000000 ∧ i.natAbs < 2 ^ 64 then some (.int (i ^ j.toNat)) else none
  | _, _, _ => none
def negD : M → D → Option D
  | _, .int i => some (.int (-i))
  | _, _ => none
section
variable {X : Cx} {g : G} {T : Tk} {H : Hp} {m : M} {Q : VK}
theorem KV.now {d : D} {v : V} (k : KV g T H m d Q) (hm : RepH g T H m) (r : Rep g T H d v) : Q v H := k v T H .refl hm r
theorem op_sub' : OpD X (binaryOp .Sub) subD := ⟨_, op_sub, fun T H m x y v u d hm rx ry hf Q k => by
  cases rx <;> cases ry <;> first | (cases hf; exact ⟨_, _, rfl, rfl, k.now hm (.int _)⟩) | (cases hf; done)⟩
theorem op_fdiv' : OpD X (binaryOp .FloorDiv) fdivD := ⟨_, op_fdiv, fun T H m x y v u d hm rx ry hf Q k => by
  cases rx <;> cases ry <;> first | (cases hf; done) | (obtain ⟨h, hf⟩ := ite_some hf; cases hf; exact ⟨_, _, rfl, rfl, h, k.now hm (.int _)⟩)⟩
theorem op_mod' : OpD X (binaryOp .Mod) modD := ⟨_, op_mod, fun T H m x y v u d hm rx ry hf Q k => by
  cases rx <;> cases ry <;> first | (cases hf; done) | (obtain ⟨h, hf⟩ := ite_some hf; cases hf; exact ⟨_, _, rfl, rfl, h, k.now hm (.int _)⟩)⟩
theorem op_pow' : OpD X (binaryOp .Pow) powD := ⟨_, op_pow, fun T H m x y v u d hm rx ry hf Q k => by
  cases rx <;> cases ry <;> first | (cases hf; done) | (obtain ⟨h, hf⟩ := ite_some hf; cases hf; exact ⟨_, _, rfl, rfl, h, k.now hm (.int _)⟩)⟩
def cmpI (p : Int → Int → Bool) (q : List Nat → List Nat → Bool) : M → D → D → Option D
  | _, .int i, .int j => some (.bl (p i j))
  | _, .str i, .str j => some (.bl (q i.cps.toList j.cps.toList))
  | _, _, _ => none
def ltD := cmpI (fun i j => decide (i < j)) (fun i j => decide (i < j))
def leD : M → D → D → Option D
  | _, .int i, .int j => some (.bl (decide (i ≤ j)))
  | _, _, _ => none
def gtD : M → D → D → Option D
  | _, .int i, .int j => some (.bl (decide (j < i)))
  | _, _, _ => none
def geD : M → D → D → Option D
  | _, .int i, .int j => some (.bl (decide (j ≤ i)))
  | _, _, _ => none
theorem orR {F : Value → Value → Sem Value} {r q : R2} (h1 : OpR X F r) (h2 : OpR X F q) : OpR X F (fun x y H Q => r x y H Q ∨ q x y H Q) := by
  intro pins s σ H x y v u Q I rx ry h
  rcases h with h | h
  · exact h1 pins s σ H x y v u Q I rx ry h
  · exact h2 pins s σ H x y v u Q I rx ry h
theorem op_lt' : OpD X (compareOp .Lt) ltD := ⟨_, orR op_lt op_lt_str, fun T H m x y v u d hm rx ry hf Q k => by
  cases rx <;> cases ry <;> first | (cases hf; exact .inl ⟨_, _, rfl, rfl, k.now hm (.bl _)⟩) | (cases hf; exact .inr ⟨_, _, rfl, rfl, k.now hm (.bl _)⟩) | (cases hf; done)⟩
theorem op_gt' : OpD X (compareOp .Gt) gtD := ⟨_, op_gt, fun T H m x y v u d hm rx ry hf Q k => by
  cases rx <;> cases ry <;> first | (cases hf; exact ⟨_, _, rfl, rfl, k.now hm (.bl _)⟩) | (cases hf; done)⟩
theorem op_ge' : OpD X (compareOp .GtE) geD := ⟨_, op_ge, fun T H m x y v u d hm rx ry hf Q k => by
  cases rx <;> cases ry <;> first | (cases hf; exact ⟨_, _, rfl, rfl, k.now hm (.bl _)⟩) | (cases hf; done)⟩
def lstO : O → Option (List D)
  | .lst ds => some ds
  | _ => none
def lstOf (m : M) : D → Option (List D)
  | .lst ds => some ds
  | .ref n => (m[n]?).bind lstO
  | _ => none
theorem lst_rep {x : D} {v : V} {ds : List D} (hm : RepH g T H m) (r : Rep g T H x v) (h : lstOf m x = some ds) : ∃ a vs, v = .ref a ∧ H a = some (.lst vs) ∧ RepL g T H ds vs := by
  cases r with
  | lst f r => cases h; exact ⟨_, _, rfl, f.2, r⟩
  | ref e =>
    obtain ⟨o, h1, h2⟩ := Option.bind_eq_some_iff.mp h
    cases hm.at_ _ _ _ e h1 with
    | lst f r => cases h2; exact ⟨_, _, rfl, f, r⟩
    | _ => cases h2
  | _ => cases h
/-- a list that is read, the script too -/
def lstR (m : M) : D → Option (List D)
  | .scr ds => some ds
  | d => lstOf m d
theorem lstR_rep {x : D} {v : V} {ds : List D} (hm : RepH g T H m) (r : Rep g T H x v) (h : lstR m x = some ds) : ∃ a vs, v = .ref a ∧ SqL g.K H a vs ∧ RepL g T H ds vs := by
  unfold lstR at h
  split at h
  · cases h
    cases r with
    | scr f r => exact ⟨_, _, rfl, f.sq, r⟩
  · obtain ⟨a, vs, e, q, r⟩ := lst_rep hm r h
    exact ⟨a, vs, e, .of q, r⟩
theorem tup_rep {v : V} {ds : List D} (r : Rep g T H (.tup ds) v) : ∃ a vs, v = .ref a ∧ SqT g.K H a vs ∧ RepL g T H ds vs := by
  cases r with
  | tup f r => exact ⟨_, _, rfl, f.sq, r⟩
/-- a new tuple -/
theorem KV.tup {ds : List D} {vs : List V} (k : KV g T H m (.tup ds) Q) (hm : RepH g T H m) (r : RepL g T H ds vs) (p : Addr) (hp : H p = none) : Q (.ref p) (upd H p (.tup vs)) := by
  obtain ⟨l, hm'⟩ := hm.fresh (u := .tup vs) hp
  exact k _ T _ l hm' (.tup (.inl ⟨fun z => hm.nope hp z, .inl upd_same⟩) (r.le l))
/-- a new list that stays as it is -/
theorem KV.lst {ds : List D} {vs : List V} (k : KV g T H m (.lst ds) Q) (hm : RepH g T H m) (r : RepL g T H ds vs) (p : Addr) (hp : H p = none) : Q (.ref p) (upd H p (.lst vs)) := by
  obtain ⟨l, hm'⟩ := hm.fresh (u := .lst vs) hp
  exact k _ T _ l hm' (.lst ⟨fun z => hm.nope hp z, upd_same⟩ (r.le l))
/-- a new list that is tracked -/
theorem KV.newL {ds : List D} {vs : List V} (k : KV g T H (m ++ [.lst ds]) (.ref m.length) Q) (hm : RepH g T H m) (r : RepL g T H ds vs) (p : Addr) (hp : H p = none) : Q (.ref p) (upd H p (.lst vs)) := by
  obtain ⟨l, hm'⟩ := hm.push (u := .lst vs) (o := .lst ds) hp fun l => .lst upd_same (r.le l)
  refine k _ (T.push p) _ l hm' (.ref ?_)
  show (T.μ ++ [p])[m.length]? = some p
  rw [← hm.len, List.getElem?_append_right (Nat.le_refl _)]
  simp
def eTup (a : AF) : EF := fun ρ m => bd (a ρ m) fun xs m1 => if xs.length ≤ sizeLine then some (.tup xs, m1) else none
def eLst (a : AF) : EF := fun ρ m => bd (a ρ m) fun xs m1 => if xs.length ≤ sizeLine then some (.lst xs, m1) else none
def eNewL (a : AF) : EF := fun ρ m => bd (a ρ m) fun xs m1 => if xs.length ≤ sizeLine then some (.ref m1.length, m1 ++ [.lst xs]) else none
variable {pos : Pos}
theorem de_tup {es : List Expr} {f : AF} {k} (ha : DA X es f) : DE X (.Tuple es k pos) (eTup f) := by
  obtain ⟨ta, pa, ra⟩ := ha.ex
  refine ⟨_, pe_tup pa, fun T σ H ρ m d m' hm hs hf Q k => ?_⟩
  obtain ⟨x, m1, e1, hf⟩ := bd_some hf
  obtain ⟨hz, hf⟩ := ite_some hf
  cases hf
  refine ra T σ H ρ m x _ hm hs e1 _ fun vs T1 H1 l1 hm1 r1 => ⟨by rw [← r1.length]; exact hz, fun p hp => ?_⟩
  exact (k.le l1).tup hm1 r1 p hp
theorem de_lst {es : List Expr} {f : AF} (ha : DA X es f) : DE X (.List es pos) (eLst f) := by
  obtain ⟨ta, pa, ra⟩ := ha.ex
  refine ⟨_, pe_lst pa, fun T σ H ρ m d m' hm hs hf Q k => ?_⟩
  obtain ⟨x, m1, e1, hf⟩ := bd_some hf
  obtain ⟨hz, hf⟩ := ite_some hf
  cases hf
  refine ra T σ H ρ m x _ hm hs e1 _ fun vs T1 H1 l1 hm1 r1 => ⟨by rw [← r1.length]; exact hz, fun p hp => ?_⟩
  exact (k.le l1).lst hm1 r1 p hp
theorem de_newL {es : List Expr} {f : AF} (ha : DA X es f) : DE X (.List es pos) (eNewL f) := by
  obtain ⟨ta, pa, ra⟩ := ha.ex
  refine ⟨_, pe_lst pa, fun T σ H ρ m d m' hm hs hf Q k => ?_⟩
  obtain ⟨x, m1, e1, hf⟩ := bd_some hf
  obtain ⟨hz, hf⟩ := ite_some hf
  cases hf
  refine ra T σ H ρ m x _ hm hs e1 _ fun vs T1 H1 l1 hm1 r1 => ⟨by rw [← r1.length]; exact hz, fun p hp => ?_⟩
  exact (k.le l1).newL hm1 r1 p hp
/-- two texts, one behind the other -/
def catS (i j : Str) : Str := ⟨(i.cps.toList ++ j.cps.toList).toArray⟩
theorem catS_eq (i j : Str) : i ++ j = catS i j := by
  cases i with
  | mk a => cases j with
    | mk b =>
      show (⟨a ++ b⟩ : Str) = ⟨(a.toList ++ b.toList).toArray⟩
      congr 1
      exact Array.ext' (by simp)
def addD (m : M) (x y : D) : Option D := match x, y with
  | .int i, .int j => some (.int (i + j))
  | .str i, .str j => if i.length + j.length ≤ sizeLine then some (.str (catS i j)) else none
  | .tup a, .tup b => if a.length + b.length ≤ sizeLine then some (.tup (a ++ b)) else none
  | x, y => match lstOf m x, lstOf m y with
    | some a, some b => if a.length + b.length ≤ sizeLine then some (.lst (a ++ b)) else none
    | _, _ => none
theorem addD_lst {m : M} {x y d : D} (h : addD m x y = some d) : (∃ i j, x = .int i ∧ y = .int j ∧ d = .int (i + j)) ∨ (∃ i j, x = .str i ∧ y = .str j ∧ i.length + j.length ≤ sizeLine ∧ d = .str (catS i j)) ∨
    (∃ a b, x = .tup a ∧ y = .tup b ∧ a.length + b.length ≤ sizeLine ∧ d = .tup (a ++ b)) ∨ (∃ a b, lstOf m x = some a ∧ lstOf m y = some b ∧ a.length + b.length ≤ sizeLine ∧ d = .lst (a ++ b)) := by
  unfold addD at h
  split at h
  · cases h; exact .inl ⟨_, _, rfl, rfl, rfl⟩
  · obtain ⟨hz, h⟩ := ite_some h; cases h; exact .inr (.inl ⟨_, _, rfl, rfl, hz, rfl⟩)
  · obtain ⟨hz, h⟩ := ite_some h; cases h; exact .inr (.inr (.inl ⟨_, _, rfl, rfl, hz, rfl⟩))
  · split at h
    · next h1 h2 => obtain ⟨hz, h⟩ := ite_some h; cases h; exact .inr (.inr (.inr ⟨_, _, h1, h2, hz, rfl⟩))
    · cases h
theorem op_add' : OpD X (binaryOp .Add) addD := ⟨_, orR op_add (orR op_add_str (orR op_catA op_cat)), fun T H m x y v u d hm rx ry hf Q k => by
  rcases addD_lst hf with ⟨i, j, rfl, rfl, rfl⟩ | ⟨i, j, rfl, rfl, hz, rfl⟩ | ⟨a, b, rfl, rfl, hz, rfl⟩ | ⟨a, b, h1, h2, hz, rfl⟩
  · cases rx; cases ry; exact .inl ⟨_, _, rfl, rfl, k.now hm (.int _)⟩
  · cases rx; cases ry; exact .inr (.inl ⟨_, _, rfl, rfl, hz, by rw [catS_eq]; exact k.now hm (.str _)⟩)
  · obtain ⟨p, xs, rfl, hx, r1⟩ := tup_rep rx
    obtain ⟨q, ys, rfl, hy, r2⟩ := tup_rep ry
    refine .inr (.inr (.inl ⟨p, q, xs, ys, rfl, rfl, hx, hy, by rw [← r1.length, ← r2.length]; exact hz, fun e => ?_, fun _ e => ?_, fun _ _ z hz => k.tup hm (r1.append r2) z hz⟩))
    · subst e; cases r1; exact k.now hm ry
    · subst e; cases r2; rw [List.append_nil] at k; exact k.now hm rx
  · obtain ⟨p, xs, rfl, hx, r1⟩ := lst_rep hm rx h1
    obtain ⟨q, ys, rfl, hy, r2⟩ := lst_rep hm ry h2
    exact .inr (.inr (.inr ⟨p, q, xs, ys, rfl, rfl, hx, hy, by rw [← r1.length, ← r2.length]; exact hz, fun z hz => k.lst hm (r1.append r2) z hz⟩))⟩
def mulD (m : M) (x y : D) : Option D := match x, y with
  | .int i, .int j => if (-(2 ^ 64) < i ∧ i < 2 ^ 64) ∨ (-(2 ^ 64) < j ∧ j < 2 ^ 64) then some (.int (i * j)) else none
  | .tup a, .int k => if a ≠ [] ∧ a.length ≤ 1000 ∧ 0 ≤ k ∧ k ≤ 1000 then some (.tup (List.replicate k.toNat a).flatten) else none
  | .lst a, .int k => if a.length ≤ 1000 ∧ 0 ≤ k ∧ k ≤ 1000 then some (.lst (List.replicate k.toNat a).flatten) else none
  | _, _ => none
theorem tuple_mul1 (l : Addr) (items : Array Value) (n : Nat) (dd : Option Addr) (sl : Array (Option Value)) (u : Tok) :
    Meets (Builtin.«tuple.__mul__» ⟨[.ref l, .int 1 u], []⟩) (fun _ R s => s.heap.get? l = some { cls := .type "tuple", dict := dd, data := .seq items n, slots := sl } ∧ R (.ok (.ret (Value.ref l))) s) :=
  .of_wp fun prog w A R s h => by
    obtain ⟨hp, g, d, tk, os⟩ := s
    obtain ⟨hl, h⟩ := h
    have f1 := AutoSeq1.idx_int
    wp_walk using wpAny_loadPart' hl
    exact ⟨_, rfl, h⟩
theorem tuple_mul0 (l : Addr) (items : Array Value) (n : Nat) (dd : Option Addr) (sl : Array (Option Value)) (u : Tok) (hi : items.isEmpty = false) :
    Meets (Builtin.«tuple.__mul__» ⟨[.ref l, .int 0 u], []⟩) (fun _ R s => s.heap.get? l = some { cls := .type "tuple", dict := dd, data := .seq items n, slots := sl } ∧ R (.ok (.ret (Value.ref s.heap.objs.size))) { s with heap := s.heap.push { cls := Value.type "tuple", data := Data.seq #[] } }) :=
  .of_wp fun prog w A R s h => by
    obtain ⟨hp, g, d, tk, os⟩ := s
    obtain ⟨hl, h⟩ := h
    have f1 := AutoSeq1.idx_int
    have c1 : (items.isEmpty || (0 : Int) == 1) = false := by rw [hi]; rfl
    wp_walk using wpAny_loadPart' hl
    repeat (first
      | (refine wpAny_ite_false (decide_eq_false (by rw [c1]; exact Bool.false_ne_true)) ?_; wp_walk using wpAny_loadPart' hl))
    exact ⟨_, rfl, h⟩
theorem repT_core {l : Addr} {k : Int} {t : Tok} {xs : List V} {pins : List (Addr × Obj)} {s : Shared} {σ : L2.St} {H : Hp} {Q : VK} (I : Inv X pins σ H s) (hT : SqT X.K H l xs) (h1 : k = 1 → Q (.ref l) H) (h0 : k = 0 → xs ≠ [] ∧ ∀ p, H p = none → Q (.ref p) (upd H p (.tup []))) (hk : k = 0 ∨ k = 1) :
    wpAny (model X.prog X.w) X.A (binaryOp .Mult (.ref l) (.int k t)) (EP X pins σ Q) X.xe s := by
  obtain ⟨its, r, ⟨⟨cls, dd, data, sl⟩, ho, hc, n, hd⟩, hs⟩ := I.tuple hT
  simp only at hc hd
  subst hc hd
  refine wpAny_binaryOp_repeat_ref (T := "tuple") (U := "int") (by decide) ⟨_, ho, rfl⟩ (fun s' => typeIs_int s' k t) noFill_tuple_mul F.fills_int_mul F.slot_int_rmul repeat_tuple F.slot_int_index.lookup
    (call_meets F.slot_int_rmul (typeIs_int s k t) F.entry_int_rmul (F.args_int_rmul_2 _ _) (int_rmul_tuple k t l its.toArray n dd sl)
      ⟨ho, rfl, ⟨_, ho, rfl⟩, ?_⟩)
  rcases hk with rfl | rfl
  · obtain ⟨hne, q⟩ := h0 rfl
    refine call_meets F.slot_tuple_mul ⟨_, ho, rfl⟩ F.entry_tuple_mul (F.args_tuple_mul_2 _ _) (tuple_mul0 l its.toArray n dd sl t ?_) ⟨ho, ?_⟩
    · cases its with
      | nil => cases r; exact absurd rfl hne
      | cons _ _ => rfl
    · exact ⟨.ref s.heap.objs.size, _, I.laid (t' := s.toks) (o := .tup []) (fun b ob q => Heap.get?_push_of_some _ q) (Nat.le_refl _) ⟨Nat.zero_le _, _, .nil, PyProof.Rows.IsTup.new _ _⟩, rfl, q _ (I.hok.fresh (Nat.le_refl _))⟩
  · refine call_meets F.slot_tuple_mul ⟨_, ho, rfl⟩ F.entry_tuple_mul (F.args_tuple_mul_2 _ _) (tuple_mul1 l its.toArray n dd sl t) ⟨ho, ?_⟩
    exact ⟨.ref l, H, I, rfl, h1 rfl⟩
def rRepS (K : PySem.W.Frag) : R2 := fun x y H Q => ∃ l k xs, x = .ref l ∧ y = .int k ∧ SqT K H l xs ∧ (k = 1 → Q (.ref l) H) ∧ (k = 0 → xs ≠ [] ∧ ∀ p, H p = none → Q (.ref p) (upd H p (.tup []))) ∧ (k = 0 ∨ k = 1)
theorem op_repS : OpR X (binaryOp .Mult) (rRepS X.K) := by
  intro pins s σ H x y v u Q I rx ry h
  obtain ⟨l, k, xs, rfl, rfl, hT, h1, h0, hk⟩ := h
  cases rx
  obtain ⟨t, rfl⟩ := ry
  exact repT_core I hT h1 h0 hk
theorem rep_nil {α : Type} (xs : List α) : (List.replicate 1 xs).flatten = xs := by simp
theorem RepL.rep {xs : List D} {vs : List V} (r : RepL g T H xs vs) : ∀ n : Nat, RepL g T H (List.replicate n xs).flatten (List.replicate n vs).flatten
  | 0 => .nil
  | n + 1 => by
    rw [List.replicate_succ, List.replicate_succ, List.flatten_cons, List.flatten_cons]
    exact r.append (RepL.rep r n)
theorem mulD_some {m : M} {x y d : D} (h : mulD m x y = some d) : (∃ i j, x = .int i ∧ y = .int j ∧ CMul i j ∧ d = .int (i * j)) ∨
    (∃ a k, x = .tup a ∧ y = .int k ∧ (a ≠ [] ∧ a.length ≤ 1000 ∧ 0 ≤ k ∧ k ≤ 1000) ∧ d = .tup (List.replicate k.toNat a).flatten) ∨ (∃ a k, x = .lst a ∧ y = .int k ∧ (a.length ≤ 1000 ∧ 0 ≤ k ∧ k ≤ 1000) ∧ d = .lst (List.replicate k.toNat a).flatten) := by
  unfold mulD at h
  split at h
  · obtain ⟨hz, h⟩ := ite_some h; cases h; exact .inl ⟨_, _, rfl, rfl, hz, rfl⟩
  · obtain ⟨hz, h⟩ := ite_some h; cases h; exact .inr (.inl ⟨_, _, rfl, rfl, hz, rfl⟩)
  · obtain ⟨hz, h⟩ := ite_some h; cases h; exact .inr (.inr ⟨_, _, rfl, rfl, hz, rfl⟩)
  · cases h
theorem op_mul' : OpD X (binaryOp .Mult) mulD := ⟨_, orR op_mul (orR op_repS (orR op_repT op_rep)), fun T H m x y v u d hm rx ry hf Q k => by
  rcases mulD_some hf with ⟨i, j, rfl, rfl, hc, rfl⟩ | ⟨a, n, rfl, rfl, ⟨h1, h2, h3, h4⟩, rfl⟩ | ⟨a, n, rfl, rfl, ⟨h2, h3, h4⟩, rfl⟩
  · cases rx; cases ry; exact .inl ⟨_, _, rfl, rfl, hc, k.now hm (.int _)⟩
  · obtain ⟨p, xs, rfl, hx, r1⟩ := tup_rep rx
    cases ry
    have hne : xs ≠ [] := fun e => by subst e; cases r1; exact h1 rfl
    by_cases hn : n = 0 ∨ n = 1
    · refine .inr (.inl ⟨p, n, xs, rfl, rfl, hx, fun e => ?_, fun e => ⟨hne, fun z hz => ?_⟩, hn⟩)
      · subst e; rw [show (List.replicate (1 : Int).toNat a).flatten = a from rep_nil a] at k; exact k.now hm rx
      · subst e; exact k.tup hm .nil z hz
    · refine .inr (.inr (.inl ⟨p, n, xs, rfl, rfl, hx, hne, by omega, h4, by rw [← r1.length]; exact h2, fun z hz => k.tup hm (r1.rep _) z hz⟩))
  · cases rx with
    | lst f r1 =>
      cases ry
      refine .inr (.inr (.inr ⟨_, n, _, rfl, rfl, f.2, by omega, by omega, ?_, fun z hz => k.lst hm (r1.rep _) z hz⟩))
      rw [← r1.length, sizeLine_eq]
      have : a.length * n.toNat ≤ 1000 * 1000 := Nat.mul_le_mul h2 (by omega)
      omega⟩
end
end L4
namespace L4
open PySem L2
section
variable {X : Cx} {g : G} {T : Tk} {H : Hp} {m : M} {Q : VK} {pos : Pos}
theorem RepL.atI {ds : List D} {vs : List V} {i : Int} {d : D} (r : RepL g T H ds vs) (h : L2.atI ds i = some d) : ∃ v, L2.atI vs i = some v ∧ Rep g T H d v := by
  unfold L2.atI at h ⊢
  obtain ⟨j, h1, h2⟩ := Option.bind_eq_some_iff.mp h
  obtain ⟨v, h3, q⟩ := r.get h2
  rw [← r.length, h1]
  exact ⟨v, h3, q⟩
def ixD (m : M) (x y : D) : Option D := match x, y with
  | .tup ds, .int i => L2.atI ds i
  | .str z, .int i => if z.length ≤ sizeLine then (L2.atI z.cps.toList i).map fun c => .str ⟨#[c]⟩ else none
  | x, .int i => (lstR m x).bind fun ds => L2.atI ds i
  | _, _ => none
theorem ixD_some {m : M} {x y d : D} (h : ixD m x y = some d) : (∃ ds i, x = .tup ds ∧ y = .int i ∧ L2.atI ds i = some d) ∨ (∃ z i c, x = .str z ∧ y = .int i ∧ z.length ≤ sizeLine ∧ L2.atI z.cps.toList i = some c ∧ d = .str ⟨#[c]⟩) ∨ (∃ ds i, lstR m x = some ds ∧ y = .int i ∧ L2.atI ds i = some d) := by
  unfold ixD at h
  split at h
  · exact .inl ⟨_, _, rfl, rfl, h⟩
  · obtain ⟨hz, h⟩ := ite_some h
    obtain ⟨c, h1, h2⟩ := Option.map_eq_some_iff.mp h
    exact .inr (.inl ⟨_, _, c, rfl, rfl, hz, h1, h2.symm⟩)
  · obtain ⟨ds, h1, h2⟩ := Option.bind_eq_some_iff.mp h
    exact .inr (.inr ⟨ds, _, h1, rfl, h2⟩)
  · cases h
theorem ixR_or {r q : R2} (h1 : IxR X r) (h2 : IxR X q) : IxR X (fun x y H Q => r x y H Q ∨ q x y H Q) := by
  intro value slice pins s σ H x y v u Q I rx ry h hs
  rcases h with h | h
  · exact h1 value slice pins s σ H x y v u Q I rx ry h hs
  · exact h2 value slice pins s σ H x y v u Q I rx ry h hs
abbrev OF := Ss → M → Option (Option Int × M)
def RfP (g : G) (t : TO) (f : OF) : Prop := ∀ T σ H ρ m d m', RepH g T H m → RepS g T H σ ρ → f ρ m = some (d, m') → ∀ Q : Option Int → Hp → Prop, (∀ T' H', Le T H T' H' → RepH g T' H' m' → Q d H') → t σ H Q
structure DP (X : Cx) (e : Option Expr) (f : OF) : Prop where
  ex : ∃ t, PO X e t ∧ RfP (gx X) t f
def oNo : OF := fun _ m => some (none, m)
def oYes (a : EF) : OF := fun ρ m => bd (a ρ m) fun x m1 => match x with
  | .int i => some (some i, m1)
  | _ => none
theorem dp_yes {e : Expr} {f : EF} (h : DE X e f) : DP X (some e) (oYes f) := by
  obtain ⟨t, p, r⟩ := h.ex
  refine ⟨_, po_some p, fun T σ H ρ m d m' hm hs hf Q k => ?_⟩
  obtain ⟨x, m1, e1, hf⟩ := bd_some hf
  refine r T σ H ρ m x m1 hm hs e1 _ fun v T1 H1 l1 hm1 r1 => ?_
  cases r1 with
  | int i => cases hf; exact ⟨i, rfl, k T1 H1 l1 hm1⟩
  | _ => cases hf
def cutD {α : Type} (xs : List α) (lo hi : Option Int) : List α := (xs.drop (HT.sIx xs.length 0 lo)).take (HT.sIx xs.length xs.length hi - HT.sIx xs.length 0 lo)
theorem RepL.drop {ds : List D} {vs : List V} (n : Nat) (r : RepL g T H ds vs) : RepL g T H (ds.drop n) (vs.drop n) := by
  induction n generalizing ds vs with
  | zero => exact r
  | succ n ih => cases r with
    | nil => exact .nil
    | cons _ s => exact ih s
theorem RepL.take {ds : List D} {vs : List V} (n : Nat) (r : RepL g T H ds vs) : RepL g T H (ds.take n) (vs.take n) := by
  induction n generalizing ds vs with
  | zero => exact .nil
  | succ n ih => cases r with
    | nil => exact .nil
    | cons q s => exact .cons q (ih s)
theorem RepL.cut {ds : List D} {vs : List V} (r : RepL g T H ds vs) (lo hi : Option Int) : RepL g T H (cutD ds lo hi) (L2.cutV vs lo hi) := by
  unfold cutD L2.cutV
  rw [r.length]
  exact (r.drop _).take _
def slD (m : M) (x : D) (lo hi : Option Int) : Option D := match x with
  | .tup ds => some (.tup (cutD ds lo hi))
  | .str z => if z.length ≤ sizeLine then some (.str (L2.cutS z lo hi)) else none
  | x => (lstR m x).map fun ds => .lst (cutD ds lo hi)
theorem slD_some {m : M} {x d : D} {lo hi : Option Int} (h : slD m x lo hi = some d) : (∃ ds, x = .tup ds ∧ d = .tup (cutD ds lo hi)) ∨ (∃ z, x = .str z ∧ z.length ≤ sizeLine ∧ d = .str (L2.cutS z lo hi)) ∨ (∃ ds, lstR m x = some ds ∧ d = .lst (cutD ds lo hi)) := by
  unfold slD at h
  split at h
  · cases h; exact .inl ⟨_, rfl, rfl⟩
  · obtain ⟨hz, h⟩ := ite_some h; cases h; exact .inr (.inl ⟨_, rfl, hz, rfl⟩)
  · obtain ⟨ds, h1, h2⟩ := Option.map_eq_some_iff.mp h
    exact .inr (.inr ⟨ds, h1, h2.symm⟩)
theorem slR_or {r q : V → Option Int → Option Int → Hp → VK → Prop} (h1 : SlR X r) (h2 : SlR X q) : SlR X (fun x lo hi H Q => r x lo hi H Q ∨ q x lo hi H Q) := by
  intro pins s σ H x v vl vu lo hi sl Q I rx hs pl pu h
  rcases h with h | h
  · exact h1 pins s σ H x v vl vu lo hi sl Q I rx hs pl pu h
  · exact h2 pins s σ H x v vl vu lo hi sl Q I rx hs pl pu h
def eSl (a : EF) (lo hi : OF) : EF := fun ρ m => bd (a ρ m) fun x m1 => bd (lo ρ m1) fun l m2 => bd (hi ρ m2) fun u m3 => pu (slD m3 x l u) m3
theorem whole_cut {α : Type} {xs : List α} {lo hi : Option Int} (h : HT.sIx xs.length 0 lo = 0 ∧ HT.sIx xs.length xs.length hi = xs.length) : cutD xs lo hi = xs := by
  unfold cutD
  rw [h.1, h.2]
  simp
theorem de_sl {e : Expr} {lo hi : Option Expr} {f : EF} {fl fh : OF} {p2 : Pos} (he : DE X e f) (hl : DP X lo fl) (hh : DP X hi fh) : DE X (.Subscript e (.Slice lo hi none p2) pos) (eSl f fl fh) := by
  obtain ⟨t, p, r⟩ := he.ex; obtain ⟨tl, pl, rl⟩ := hl.ex; obtain ⟨th, ph, rh⟩ := hh.ex
  refine ⟨_, pe_slice (slR_or sl_tupA (slR_or sl_str sl_list)) p pl ph, fun T σ H ρ m d m' hm hs hf Q k => ?_⟩
  obtain ⟨x, m1, e1, hf⟩ := bd_some hf
  obtain ⟨a, m2, e2, hf⟩ := bd_some hf
  obtain ⟨b, m3, e3, hf⟩ := bd_some hf
  obtain ⟨e4, rfl⟩ := pu_some hf
  refine r T σ H ρ m x m1 hm hs e1 _ fun v T1 H1 l1 hm1 r1 => ?_
  refine rl T1 σ H1 ρ m1 a m2 hm1 (hs.le l1) e2 _ fun T2 H2 l2 hm2 => ?_
  refine rh T2 σ H2 ρ m2 b _ hm2 (hs.le (l1.trans l2)) e3 _ fun T3 H3 l3 hm3 => ?_
  have k3 := k.le (l1.trans (l2.trans l3))
  have r3 := r1.le (l2.trans l3)
  rcases slD_some e4 with ⟨ds, rfl, rfl⟩ | ⟨z, rfl, hz, rfl⟩ | ⟨ds, h1, rfl⟩
  · obtain ⟨q, vs, rfl, hx, rr⟩ := tup_rep r3
    refine .inl ⟨q, vs, rfl, hx, fun hw => ?_, fun _ z hz => k3.tup hm3 (rr.cut _ _) z hz⟩
    rw [← rr.length] at hw
    rw [whole_cut hw] at k3
    exact k3.now hm3 r3
  · cases r3
    exact .inr (.inl ⟨z, rfl, hz, k3.now hm3 (.str _)⟩)
  · obtain ⟨q, vs, rfl, hx, rr⟩ := lstR_rep hm3 r3 h1
    exact .inr (.inr ⟨q, vs, rfl, hx, fun z hz => k3.lst hm3 (rr.cut _ _) z hz⟩)
mutual
def pd : D → Option PyData
  | .non => some .none
  | .bl b => some (.bool b)
  | .int i => some (.int i)
  | .str x => some (.str x)
  | .tup ds => (pdL ds).map .tuple
  | .lst ds => (pdL ds).map .list
  | .scr ds => (pdL ds).map .list
  | .dic _ _ => none
  | .obj _ _ _ => none
  | .ref _ => none
  | .glo _ => none
  | .ty _ => none
  | .tab _ => none
  | .exn _ _ _ => none
  | .ptp ds => (pdL ds).map .tuple
def pdL : List D → Option (List PyData)
  | [] => some []
  | d :: ds => match pd d, pdL ds with
    | some a, some b => some (a :: b)
    | _, _ => none
end
mutual
theorem pd_rep : ∀ (d : D) {v : V} {a : PyData}, pd d = some a → Rep g T H d v → Dp g.K H v a
  | .non, _, _, h, r => by rw [pd] at h; cases h; cases r; exact .non
  | .bl _, _, _, h, r => by rw [pd] at h; cases h; cases r; exact .bl _
  | .int _, _, _, h, r => by rw [pd] at h; cases h; cases r; exact .int _
  | .str _, _, _, h, r => by rw [pd] at h; cases h; cases r; exact .str _
  | .tup ds, _, _, h, r => by
    rw [pd] at h
    obtain ⟨as, h1, rfl⟩ := Option.map_eq_some_iff.mp h
    cases r with
    | tup f r => exact .tup f.sq (pdL_rep ds h1 r)
  | .lst ds, _, _, h, r => by
    rw [pd] at h
    obtain ⟨as, h1, rfl⟩ := Option.map_eq_some_iff.mp h
    cases r with
    | lst f r => exact .lst f.sq (pdL_rep ds h1 r)
  | .scr ds, _, _, h, r => by
    rw [pd] at h
    obtain ⟨as, h1, rfl⟩ := Option.map_eq_some_iff.mp h
    cases r with
    | scr f r => exact .lst f.sq (pdL_rep ds h1 r)
  | .dic _ _, _, _, h, _ => by rw [pd] at h; cases h
  | .obj _ _ _, _, _, h, _ => by rw [pd] at h; cases h
  | .ref _, _, _, h, _ => by rw [pd] at h; cases h
  | .glo _, _, _, h, _ => by rw [pd] at h; cases h
  | .ty _, _, _, h, _ => by rw [pd] at h; cases h
  | .tab _, _, _, h, _ => by rw [pd] at h; cases h
  | .exn _ _ _, _, _, h, _ => by rw [pd] at h; cases h
  | .ptp ds, _, _, h, r => by
    rw [pd] at h
    obtain ⟨as, h1, rfl⟩ := Option.map_eq_some_iff.mp h
    cases r with
    | ptp f r =>
      obtain ⟨_, o, f, _⟩ := f
      exact .tup (.inl (.inr ⟨o, f⟩)) (pdL_rep ds h1 r)
theorem pdL_rep : ∀ (ds : List D) {vs : List V} {as : List PyData}, pdL ds = some as → RepL g T H ds vs → DpAll g.K H vs as
  | [], _, _, h, r => by rw [pdL] at h; cases h; cases r; exact .nil
  | d :: ds, _, _, h, r => by
    rw [pdL] at h
    cases h1 : pd d with
    | none => rw [h1] at h; cases h
    | some a => cases h2 : pdL ds with
      | none => rw [h1, h2] at h; cases h
      | some b =>
        rw [h1, h2] at h
        cases h
        cases r with
        | cons r s => exact .cons (pd_rep d h1 r) (pdL_rep ds h2 s)
end
/-- the plain data of a value, of a tracked list too -/
def pdM (m : M) (d : D) : Option PyData := match (frz m d).bind pd with
  | some a => if SeqAt.shaped a then some a else none
  | none => none
theorem pdM_rep {d : D} {v : V} {a : PyData} (hm : RepH g T H m) (h : pdM m d = some a) (r : Rep g T H d v) : Dp g.K H v a ∧ SeqAt.shaped a = true := by
  unfold pdM at h
  split at h
  · next h1 =>
    obtain ⟨hz, h⟩ := ite_some h
    cases h
    obtain ⟨e, h2, h3⟩ := Option.bind_eq_some_iff.mp h1
    exact ⟨pd_rep e h3 (frz_ok hm (fun a h => (List.not_mem_nil h).elim) (fun a _ h => (List.not_mem_nil h).elim) h2 r), hz⟩
  · cases h
def eqD (m : M) (x y : D) : Option D := match pdM m x, pdM m y with
  | some a, some b => some (.bl (PyData.eqv a b))
  | _, _ => none
def neD (m : M) (x y : D) : Option D := match pdM m x, pdM m y with
  | some a, some b => some (.bl (!PyData.eqv a b))
  | _, _ => none
theorem Gd.u64 {k : Nat} (h : Gd k X) : X.A.units + 65 < cLine := by have := h.r.un; omega
theorem op_eq' {k : Nat} (gd : Gd k X) : OpD X (compareOp .Eq) eqD := ⟨_, op_eqD (by have := gd.u64; omega), fun T H m x y v u d hm rx ry hf Q k => by
  unfold eqD at hf
  split at hf
  · next h1 h2 => cases hf; obtain ⟨d1, s1⟩ := pdM_rep hm h1 rx; obtain ⟨d2, s2⟩ := pdM_rep hm h2 ry; exact ⟨_, _, d1, d2, s1, s2, k.now hm (.bl _)⟩
  · cases hf⟩
theorem op_ne' {k : Nat} (gd : Gd k X) : OpD X (compareOp .NotEq) neD := ⟨_, op_neD (by have := gd.u64; omega), fun T H m x y v u d hm rx ry hf Q k => by
  unfold neD at hf
  split at hf
  · next h1 h2 => cases hf; obtain ⟨d1, s1⟩ := pdM_rep hm h1 rx; obtain ⟨d2, s2⟩ := pdM_rep hm h2 ry; exact ⟨_, _, d1, d2, s1, s2, k.now hm (.bl _)⟩
  · cases hf⟩
/-- x in a text: one sign is looked up by itself -/
def inStr (i j : Str) : Bool := match i.cps.toList with
  | [c] => j.cps.toList.contains c
  | _ => !(Builtin.Str.occurrences j i 0 j.length 1).isEmpty
/-- x in a tuple, a list, a text -/
def inB (m : M) (x y : D) : Option Bool := match x, y with
  | .str i, .str j => some (inStr i j)
  | x, y => match pdM m x, pdM m y with
    | some a, some (.tuple ds) => some (ds.any fun z => PyData.eqv z a)
    | some a, some (.list ds) => some (ds.any fun z => PyData.eqv z a)
    | _, _ => none
end
end L4
namespace L4
open PySem L2
section
variable {X : Cx} {g : G} {T T' : Tk} {H : Hp} {m : M} {Q : VK} {pos : Pos}
mutual
theorem Rep.wk (hμ : T'.μ = T.μ ∧ T'.τ = T.τ) (hν : ∀ a ∈ T'.ν, a ∈ T.ν) : ∀ (d : D) {v : V}, Rep g T H d v → Rep g T' H d v
  | .non, _, r => by cases r; exact .non
  | .bl _, _, r => by cases r; exact .bl _
  | .int _, _, r => by cases r; exact .int _
  | .str _, _, r => by cases r; exact .str _
  | .glo _, _, r => by cases r; exact .glo _
  | .ty _, _, r => by cases r; exact .ty _
  | .tab _, _, r => by
    cases r with
    | tab h => exact .tab (by rw [hμ.2]; exact h)
  | .exn c ns vs, _, r => by
    cases r with
    | exn0 n f => exact .exn0 (fun z => n (hν _ z)) f
    | exn1 n n2 f f2 e r => exact .exn1 (fun z => n (hν _ z)) (fun z => n2 (hν _ z)) f f2 e (RepL.wk hμ hν vs r)
  | .ref _, _, r => by
    cases r with
    | ref h => exact .ref (by rw [hμ.1]; exact h)
  | .tup ds, _, r => by
    cases r with
    | tup f r =>
      refine .tup ?_ (RepL.wk hμ hν ds r)
      rcases f with ⟨n, f⟩ | f
      · exact .inl ⟨fun z => n (hν _ z), f⟩
      · exact .inr f
  | .lst ds, _, r => by
    cases r with
    | lst f r => exact .lst ⟨fun z => f.1 (hν _ z), f.2⟩ (RepL.wk hμ hν ds r)
  | .scr ds, _, r => by
    cases r with
    | scr f r =>
      refine .scr ?_ (RepL.wk hμ hν ds r)
      rcases f with ⟨n, f⟩ | f
      · exact .inl ⟨fun z => n (hν _ z), f⟩
      · exact .inr f
  | .dic ks vs, _, r => by
    cases r with
    | dicF n f r q => exact .dicF (fun z => n (hν _ z)) f (RepL.wk hμ hν ks r) (RepL.wk hμ hν vs q)
    | dicN n f e r q => exact .dicN (fun z => n (hν _ z)) f e (RepL.wk hμ hν ks r) (RepL.wk hμ hν vs q)
  | .obj c ns vs, _, r => by
    cases r with
    | obj n f e r => exact .obj (fun z => n (hν _ z)) f e (RepL.wk hμ hν vs r)
  | .ptp ds, _, r => by
    cases r with
    | ptp f r => exact .ptp ⟨fun z => f.1 (hν _ z), f.2⟩ (RepL.wk hμ hν ds r)
theorem RepL.wk (hμ : T'.μ = T.μ ∧ T'.τ = T.τ) (hν : ∀ a ∈ T'.ν, a ∈ T.ν) : ∀ (ds : List D) {vs : List V}, RepL g T H ds vs → RepL g T' H ds vs
  | [], _, r => by cases r; exact .nil
  | d :: ds, _, r => by
    cases r with
    | cons r s => exact .cons (Rep.wk hμ hν d r) (RepL.wk hμ hν ds s)
end
theorem pre_get {α : Type} {xs ys : List α} {n : Nat} {a : α} (h : xs <+: ys) (e : xs[n]? = some a) : ys[n]? = some a := by
  obtain ⟨t, rfl⟩ := h
  rw [List.getElem?_append_left (List.getElem?_eq_some_iff.mp e).1]
  exact e
mutual
theorem Rep.ext (hμ : T.μ <+: T'.μ) (hν : ∀ a ∈ T'.ν, a ∈ T.ν) (hτ : T'.τ = T.τ) : ∀ (d : D) {v : V}, Rep g T H d v → Rep g T' H d v
  | .non, _, r => by cases r; exact .non
  | .bl _, _, r => by cases r; exact .bl _
  | .int _, _, r => by cases r; exact .int _
  | .str _, _, r => by cases r; exact .str _
  | .glo _, _, r => by cases r; exact .glo _
  | .ty _, _, r => by cases r; exact .ty _
  | .tab _, _, r => by
    cases r with
    | tab h => exact .tab (by rw [hτ]; exact h)
  | .exn c ns vs, _, r => by
    cases r with
    | exn0 n f => exact .exn0 (fun z => n (hν _ z)) f
    | exn1 n n2 f f2 e r => exact .exn1 (fun z => n (hν _ z)) (fun z => n2 (hν _ z)) f f2 e (RepL.ext hμ hν hτ vs r)
  | .ref _, _, r => by
    cases r with
    | ref h => exact .ref (pre_get hμ h)
  | .tup ds, _, r => by
    cases r with
    | tup f r =>
      refine .tup ?_ (RepL.ext hμ hν hτ ds r)
      rcases f with ⟨n, f⟩ | f
      · exact .inl ⟨fun z => n (hν _ z), f⟩
      · exact .inr f
  | .lst ds, _, r => by
    cases r with
    | lst f r => exact .lst ⟨fun z => f.1 (hν _ z), f.2⟩ (RepL.ext hμ hν hτ ds r)
  | .scr ds, _, r => by
    cases r with
    | scr f r =>
      refine .scr ?_ (RepL.ext hμ hν hτ ds r)
      rcases f with ⟨n, f⟩ | f
      · exact .inl ⟨fun z => n (hν _ z), f⟩
      · exact .inr f
  | .dic ks vs, _, r => by
    cases r with
    | dicF n f r q => exact .dicF (fun z => n (hν _ z)) f (RepL.ext hμ hν hτ ks r) (RepL.ext hμ hν hτ vs q)
    | dicN n f e r q => exact .dicN (fun z => n (hν _ z)) f e (RepL.ext hμ hν hτ ks r) (RepL.ext hμ hν hτ vs q)
  | .obj c ns vs, _, r => by
    cases r with
    | obj n f e r => exact .obj (fun z => n (hν _ z)) f e (RepL.ext hμ hν hτ vs r)
  | .ptp ds, _, r => by
    cases r with
    | ptp f r => exact .ptp ⟨fun z => f.1 (hν _ z), f.2⟩ (RepL.ext hμ hν hτ ds r)
theorem RepL.ext (hμ : T.μ <+: T'.μ) (hν : ∀ a ∈ T'.ν, a ∈ T.ν) (hτ : T'.τ = T.τ) : ∀ (ds : List D) {vs : List V}, RepL g T H ds vs → RepL g T' H ds vs
  | [], _, r => by cases r; exact .nil
  | d :: ds, _, r => by
    cases r with
    | cons r s => exact .cons (Rep.ext hμ hν hτ d r) (RepL.ext hμ hν hτ ds s)
end
/-- a forbidden object changes -/
theorem rd_upd {a p : Addr} {u w : HO} (n : a ∉ T.ν) (hp : p ∈ T.ν) (h : Rd H a u) : Rd (upd H p w) a u := by
  have : a ≠ p := by rintro rfl; exact n hp
  unfold Rd
  rw [upd_ne this]
  exact h
mutual
theorem Rep.upF {p : Addr} {w : HO} (hp : p ∈ T.ν) : ∀ (d : D) {v : V}, Rep g T H d v → Rep g T (upd H p w) d v
  | .non, _, r => by cases r; exact .non
  | .bl _, _, r => by cases r; exact .bl _
  | .int _, _, r => by cases r; exact .int _
  | .str _, _, r => by cases r; exact .str _
  | .glo _, _, r => by cases r; exact .glo _
  | .ty _, _, r => by cases r; exact .ty _
  | .tab _, _, r => by
    cases r with
    | tab h => exact .tab h
  | .exn c ns vs, _, r => by
    cases r with
    | exn0 n f => exact .exn0 n (by rw [upd_ne (show _ ≠ p by rintro rfl; exact n hp)]; exact f)
    | exn1 n n2 f f2 e r => exact .exn1 n n2 (by rw [upd_ne (show _ ≠ p by rintro rfl; exact n hp)]; exact f) (by rw [upd_ne (show _ ≠ p by rintro rfl; exact n2 hp)]; exact f2) e (RepL.upF hp vs r)
  | .ref _, _, r => by
    cases r with
    | ref h => exact .ref h
  | .tup ds, _, r => by
    cases r with
    | tup f r =>
      refine .tup ?_ (RepL.upF hp ds r)
      rcases f with ⟨n, f⟩ | f
      · exact .inl ⟨n, by unfold Rd; rw [upd_ne (show _ ≠ p by rintro rfl; exact n hp)]; exact f⟩
      · exact .inr f
  | .lst ds, _, r => by
    cases r with
    | lst f r => exact .lst ⟨f.1, by rw [upd_ne (show _ ≠ p by rintro rfl; exact f.1 hp)]; exact f.2⟩ (RepL.upF hp ds r)
  | .scr ds, _, r => by
    cases r with
    | scr f r =>
      refine .scr ?_ (RepL.upF hp ds r)
      rcases f with ⟨n, o, f⟩ | f
      · exact .inl ⟨n, o, by rw [upd_ne (show _ ≠ p by rintro rfl; exact n hp)]; exact f⟩
      · exact .inr f
  | .dic ks vs, _, r => by
    cases r with
    | dicF n f r q => exact .dicF n (rd_upd n hp f) (RepL.upF hp ks r) (RepL.upF hp vs q)
    | dicN n f e r q => exact .dicN n (rd_upd n hp f) e (RepL.upF hp ks r) (RepL.upF hp vs q)
  | .obj c ns vs, _, r => by
    cases r with
    | obj n f e r => exact .obj n (by rw [upd_ne (show _ ≠ p by rintro rfl; exact n hp)]; exact f) e (RepL.upF hp vs r)
  | .ptp ds, _, r => by
    cases r with
    | ptp f r =>
      obtain ⟨n, o, f, e⟩ := f
      exact .ptp ⟨n, o, by rw [upd_ne (show _ ≠ p by rintro rfl; exact n hp)]; exact f, e⟩ (RepL.upF hp ds r)
theorem RepL.upF {p : Addr} {w : HO} (hp : p ∈ T.ν) : ∀ (ds : List D) {vs : List V}, RepL g T H ds vs → RepL g T (upd H p w) ds vs
  | [], _, r => by cases r; exact .nil
  | d :: ds, _, r => by
    cases r with
    | cons r s => exact .cons (Rep.upF hp d r) (RepL.upF hp ds s)
end
theorem RepO.wk (hμ : T'.μ = T.μ ∧ T'.τ = T.τ) (hν : ∀ a ∈ T'.ν, a ∈ T.ν) {a : Addr} {o : O} (r : RepO g T H a o) : RepO g T' H a o := by
  cases r with
  | lst h r => exact .lst h (RepL.wk hμ hν _ r)
  | dicF h r q => exact .dicF h (RepL.wk hμ hν _ r) (RepL.wk hμ hν _ q)
  | dicN h k r q => exact .dicN h k (RepL.wk hμ hν _ r) (RepL.wk hμ hν _ q)
  | ins h k r => exact .ins h k (RepL.wk hμ hν _ r)
theorem RepO.ext (hμ : T.μ <+: T'.μ) (hν : ∀ a ∈ T'.ν, a ∈ T.ν) (hτ : T'.τ = T.τ) {a : Addr} {o : O} (r : RepO g T H a o) : RepO g T' H a o := by
  cases r with
  | lst h r => exact .lst h (RepL.ext hμ hν hτ _ r)
  | dicF h r q => exact .dicF h (RepL.ext hμ hν hτ _ r) (RepL.ext hμ hν hτ _ q)
  | dicN h k r q => exact .dicN h k (RepL.ext hμ hν hτ _ r) (RepL.ext hμ hν hτ _ q)
  | ins h k r => exact .ins h k (RepL.ext hμ hν hτ _ r)
theorem RepO.upF {p : Addr} {w : HO} (hp : p ∈ T.ν) {a : Addr} {o : O} (ha : a ≠ p) (r : RepO g T H a o) : RepO g T (upd H p w) a o := by
  cases r with
  | lst h r => exact .lst (by rw [upd_ne ha]; exact h) (RepL.upF hp _ r)
  | dicF h r q => exact .dicF (by rw [upd_ne ha]; exact h) (RepL.upF hp _ r) (RepL.upF hp _ q)
  | dicN h k r q => exact .dicN (by rw [upd_ne ha]; exact h) k (RepL.upF hp _ r) (RepL.upF hp _ q)
  | ins h k r => exact .ins (by rw [upd_ne ha]; exact h) k (RepL.upF hp _ r)
def Tk.forb (T : Tk) (p : Addr) : Tk := ⟨T.μ, p :: T.ν, T.τ, fun a h => List.mem_cons_of_mem _ (T.sub a h), fun q h => List.mem_cons_of_mem _ (T.subτ q h)⟩
structure Made (g : G) (T : Tk) (H : Hp) (m : M) (p : Addr) (ds : List D) : Prop where
  np : p ∉ T.ν
  hm : RepH g (T.forb p) H m
  at_ : ∃ vs, H p = some (.lst vs) ∧ RepL g (T.forb p) H ds vs
theorem Made.new {p : Addr} (hm : RepH g T H m) (hp : H p = none) : Made g T (upd H p (.lst [])) m p [] ∧ Le T H (T.forb p) (upd H p (.lst [])) := by
  have np : p ∉ T.ν := hm.nope hp
  have l : Le T H (T.forb p) (upd H p (.lst [])) := ⟨List.prefix_rfl, fun a u e _ _ => by rw [upd_ne (ne_of_none e hp)]; exact e, rfl, fun q _ v e => ⟨v, by rw [upd_ne (ne_of_none e hp)]; exact e⟩, fun a ha n => by
    rcases List.mem_cons.mp ha with rfl | z
    · exact hp
    · exact absurd z n, fun a ha n => absurd ha n, fun a h => List.mem_cons_of_mem _ h⟩
  refine ⟨⟨np, ⟨hm.len, hm.nd, fun a ha => ?_, fun n a o h1 h2 => (hm.at_ n a o h1 h2).le l ?_, fun q hq => ⟨(hm.tabs q hq).1, (hm.tabs q hq).2.le (fun v e => by rw [upd_ne (ne_of_none e hp)]; exact e) fun c v n e => ⟨fun z => ?_, by rw [upd_ne (ne_of_none e hp)]; exact e⟩⟩⟩, [], upd_same, .nil⟩, l⟩
  · rcases List.mem_cons.mp ha with rfl | z
    · exact ⟨_, upd_same, trivial⟩
    · obtain ⟨u, e, q⟩ := hm.has a z
      exact ⟨u, by rw [upd_ne (ne_of_none e hp)]; exact e, q⟩
  · obtain ⟨v, e, _⟩ := (hm.at_ n a o h1 h2).has
    rw [upd_ne (ne_of_none e hp)]
  · rcases List.mem_cons.mp z with z | z
    · rw [z, hp] at e
      cases e
    · exact n z
/-- what came of an evaluation while the list was being made -/
theorem Le.unforb {p : Addr} {T0 T1 : Tk} {H0 H1 : Hp} (l0 : Le T0 H0 T H) (hp0 : H0 p = none) (np : p ∉ T.ν) (hH : ∃ u, H p = some u) (l : Le (T.forb p) H T1 H1) : ∃ T2 : Tk, T2.μ = T1.μ ∧ p ∉ T2.ν ∧ (∀ a, a ∈ (T2.forb p).ν ↔ a ∈ T1.ν) ∧ Le T0 H0 T2 H1 ∧ T2.τ = T1.τ := by
  obtain ⟨u, hu⟩ := hH
  have npμ : p ∉ T1.μ := fun z => by
    have := l.newμ p z (fun y => np (T.sub p y))
    rw [hu] at this
    cases this
  have etb : T1.τ = T.τ := l.tb
  refine ⟨⟨T1.μ, T1.ν.filter (· ≠ p), T1.τ, fun a h => List.mem_filter.mpr ⟨T1.sub a h, by simp; rintro rfl; exact npμ h⟩, fun q h => List.mem_filter.mpr ⟨T1.subτ q h, by
    have : q.1 ≠ p := fun e => np (e ▸ T.subτ q (by rw [← etb]; exact h))
    simpa using this⟩⟩, rfl, by simp, fun a => ?_, ?_, rfl⟩
  · show a ∈ p :: T1.ν.filter (· ≠ p) ↔ _
    by_cases ha : a = p
    · subst ha
      simp
      exact l.up _ (List.mem_cons_self ..)
    · simp [ha]
  · refine ⟨l0.pre.trans l.pre, fun a v h n t => ?_, etb.trans l0.tb, fun q hq v e => ?_, fun a ha n => ?_, fun a ha n => ?_, fun a h => ?_⟩
    · have h1 : a ∉ T.μ := fun z => by rw [l0.newμ a z n] at h; cases h
      exact l.keep a v (l0.keep a v h n t) h1 (fun q hq => t q (by rw [← l0.tb]; exact hq))
    · obtain ⟨v', e'⟩ := l0.tk q hq v e
      exact l.tk q (by show q ∈ T.τ; rw [l0.tb]; exact hq) v' e'
    · obtain ⟨ha, hne⟩ := List.mem_filter.mp ha
      cases e : H0 a with
      | none => rfl
      | some v =>
        have n1 : a ∉ T.ν := l0.out e n
        have := l.new a ha (fun z => by rcases List.mem_cons.mp z with z | z; simp [z] at hne; exact n1 z)
        rw [l0.keep a v e (Tk.out n) (Tk.outτ n)] at this
        cases this
    · cases e : H0 a with
      | none => rfl
      | some v =>
        have h1 : a ∉ T.μ := fun z => by rw [l0.newμ a z n] at e; cases e
        have := l.newμ a ha h1
        by_cases t : ∃ q ∈ T0.τ, q.1 = a
        · obtain ⟨q, hq, rfl⟩ := t
          obtain ⟨v', e'⟩ := l0.tk q hq v e
          rw [e'] at this
          cases this
        · rw [l0.keep a v e n fun q hq z => t ⟨q, hq, z⟩] at this
          cases this
    · refine List.mem_filter.mpr ⟨l.up a (List.mem_cons_of_mem _ (l0.up a h)), ?_⟩
      have : a ≠ p := by rintro rfl; exact np (l0.up _ h)
      simpa using this
/-- one element more -/
theorem Made.app {p : Addr} {T0 : Tk} {H0 : Hp} {ds : List D} {d : D} {v : V} (l0 : Le T0 H0 T H) (hp0 : H0 p = none) (k : Made g T H m p ds) (r : Rep g (T.forb p) H d v) {vs : List V} (hv : H p = some (.lst vs)) :
    Made g T (upd H p (.lst (vs ++ [v]))) m p (ds ++ [d]) ∧ Le T0 H0 T (upd H p (.lst (vs ++ [v]))) := by
  obtain ⟨np, hm, ws, hw, rl⟩ := k
  rw [hv] at hw
  cases hw
  have hp : p ∈ (T.forb p).ν := List.mem_cons_self ..
  refine ⟨⟨np, ⟨hm.len, hm.nd, fun a ha => ?_, fun n a o h1 h2 => (hm.at_ n a o h1 h2).upF hp ?_, fun q hq => ⟨(hm.tabs q hq).1, (hm.tabs q hq).2.le (fun v e => by rw [upd_ne (show q.1 ≠ p from fun z => np (z ▸ T.subτ q hq))]; exact e) fun c v n e => ⟨n, by rw [upd_ne (show c ≠ p from fun z => n (by rw [z]; exact hp))]; exact e⟩⟩⟩, _, upd_same, (RepL.upF hp _ rl).append (.cons (Rep.upF hp _ r) .nil)⟩, ⟨l0.pre, fun a u h n t => ?_, l0.tb, fun q hq v e => ?_, l0.new, l0.newμ, l0.up⟩⟩
  · by_cases z : a = p
    · rw [z]; exact ⟨_, upd_same, trivial⟩
    · obtain ⟨u, e, q⟩ := hm.has a ha
      exact ⟨u, by rw [upd_ne z]; exact e, q⟩
  · rintro rfl
    exact np (T.sub _ (List.mem_of_getElem? h1))
  · rw [upd_ne (ne_of_none h hp0)]
    exact l0.keep a u h n t
  · rw [upd_ne (ne_of_none e hp0)]
    exact l0.tk q hq v e
/-- the list is done -/
theorem Made.done {p : Addr} {T0 : Tk} {H0 : Hp} {ds : List D} (l0 : Le T0 H0 T H) (k : Made g T H m p ds) : RepH g T H m ∧ Rep g T H (.lst ds) (.ref p) := by
  obtain ⟨np, hm, ws, hw, rl⟩ := k
  have sub : ∀ a ∈ T.ν, a ∈ (T.forb p).ν := fun a h => List.mem_cons_of_mem _ h
  exact ⟨⟨hm.len, hm.nd, fun a h => hm.has a (sub a h), fun n a o h1 h2 => RepO.wk (T := T.forb p) (T' := T) ⟨rfl, rfl⟩ sub (hm.at_ n a o h1 h2), fun q hq => ⟨(hm.tabs q hq).1, (hm.tabs q hq).2.le (fun v e => e) fun c v n e => ⟨fun z => n (sub c z), e⟩⟩⟩, .lst ⟨np, hw⟩ (RepL.wk (T := T.forb p) (T' := T) ⟨rfl, rfl⟩ sub _ rl)⟩
theorem Made.step {p : Addr} {T0 T1 : Tk} {H0 H1 : Hp} {ds : List D} {m1 : M} (l0 : Le T0 H0 T H) (hp0 : H0 p = none) (k : Made g T H m p ds) (l : Le (T.forb p) H T1 H1) (hm : RepH g T1 H1 m1) :
    ∃ T2 : Tk, Le T0 H0 T2 H1 ∧ Made g T2 H1 m1 p ds ∧ (T2.μ = T1.μ ∧ T2.τ = T1.τ) ∧ ∀ a, a ∈ (T2.forb p).ν ↔ a ∈ T1.ν := by
  obtain ⟨np, _, ws, hw, rl⟩ := k
  obtain ⟨T2, e1, e2, e3, l2, e4⟩ := l0.unforb hp0 np ⟨_, hw⟩ l
  refine ⟨T2, l2, ⟨e2, ⟨by rw [← hm.len]; exact congrArg List.length e1, by show T2.μ.Nodup; rw [e1]; exact hm.nd, fun a h => hm.has a ((e3 a).mp h), fun n a o h1 h2 => ?_, fun q hq => ?_⟩, ws, l.keep _ _ hw (fun y => np (T.sub p y)) (fun q hq => Tk.outτ (T := T) np q hq), ?_⟩, ⟨e1, e4⟩, e3⟩
  · exact RepO.wk (T := T1) (T' := T2.forb p) ⟨e1, e4⟩ (fun a h => (e3 a).mp h) (hm.at_ n a o (by rw [← e1]; exact h1) h2)
  · have hq1 : q ∈ T1.τ := by rw [← e4]; exact hq
    exact ⟨by show q.1 ∉ T2.μ; rw [e1]; exact (hm.tabs q hq1).1, (hm.tabs q hq1).2.le (fun v e => e) fun c v n e => ⟨fun z => n ((e3 c).mp z), e⟩⟩
  · exact RepL.wk (T := T1) (T' := T2.forb p) ⟨e1, e4⟩ (fun a h => (e3 a).mp h) _ (rl.le l)
def setMany {α : Type} (σ : List (Option α)) : List Nat → List α → List (Option α)
  | i :: is, v :: vs => setMany (σ.set i (some v)) is vs
  | _, _ => σ
theorem wipe_set {i : Nat} {x : Option V} : ∀ {vs : List Nat} {σ : L2.St}, i ∈ vs → wipe (σ.set i x) vs = wipe σ vs := by
  intro vs
  induction vs with
  | nil => intro σ h; cases h
  | cons v vs ih =>
    intro σ h
    unfold wipe
    by_cases hi : i ∈ vs
    · rw [ih hi]
    · have e : i = v := by rcases List.mem_cons.mp h with z | z; exact z; exact absurd z hi
      subst e
      have key : ∀ (us : List Nat) (τ : L2.St), i ∉ us → wipe (τ.set i x) us = (wipe τ us).set i x := by
        intro us
        induction us with
        | nil => intro τ _; rfl
        | cons u us ih2 =>
          intro τ hu
          unfold wipe
          rw [ih2 τ (fun z => hu (List.mem_cons_of_mem _ z)), List.set_comm _ _ (fun z => hu (by rw [z]; exact List.mem_cons_self ..))]
      rw [key vs σ hi, List.set_set]
theorem wipe_wipe {vs : List Nat} {σ : L2.St} : ∀ us : List Nat, (∀ u ∈ us, u ∈ vs) → wipe (wipe σ us) vs = wipe σ vs
  | [], _ => rfl
  | u :: us, h => by
    show wipe ((wipe σ us).set u none) vs = _
    rw [wipe_set (h u (List.mem_cons_self ..)), wipe_wipe us fun w hw => h w (List.mem_cons_of_mem _ hw)]
theorem wipe_many {vs : List Nat} : ∀ (is : List Nat) (ws : List V) (σ : L2.St), (∀ u ∈ is, u ∈ vs) → wipe (setMany σ is ws) vs = wipe σ vs
  | [], _, _, _ => rfl
  | i :: is, [], _, _ => rfl
  | i :: is, w :: ws, σ, h => by
    show wipe (setMany (σ.set i (some w)) is ws) vs = _
    rw [wipe_many is ws _ fun u hu => h u (List.mem_cons_of_mem _ hu), wipe_set (h i (List.mem_cons_self ..))]
theorem many_len {α : Type} : ∀ (is : List Nat) (ws : List α) (σ : List (Option α)), (setMany σ is ws).length = σ.length
  | [], _, _ => rfl
  | i :: is, [], _ => rfl
  | i :: is, w :: ws, σ => by
    show (setMany (σ.set i (some w)) is ws).length = _
    rw [many_len]
    simp
theorem wipe_other {i : Nat} : ∀ {vs : List Nat} {σ : L2.St}, i ∉ vs → (wipe σ vs)[i]? = σ[i]?
  | [], _, _ => rfl
  | v :: vs, σ, h => by
    show ((wipe σ vs).set v none)[i]? = _
    rw [List.getElem?_set_ne (fun z => h (by rw [z]; exact List.mem_cons_self ..)), wipe_other fun z => h (List.mem_cons_of_mem _ z)]
theorem many_other {α : Type} {i : Nat} : ∀ {is : List Nat} {ws : List α} {σ : List (Option α)}, i ∉ is → (setMany σ is ws)[i]? = σ[i]?
  | [], _, _, _ => rfl
  | j :: is, [], _, _ => rfl
  | j :: is, w :: ws, σ, h => by
    show (setMany (σ.set j (some w)) is ws)[i]? = _
    rw [many_other fun z => h (List.mem_cons_of_mem _ z), List.getElem?_set_ne (fun z => h (by rw [z]; exact List.mem_cons_self ..))]
theorem RepS.many {σ : L2.St} {ρ : Ss} : ∀ {is : List Nat} {ds : List D} {vs : List V}, RepS g T H σ ρ → RepL g T H ds vs → RepS g T H (setMany σ is vs) (setMany ρ is ds)
  | [], _, _, h, _ => h
  | i :: is, _, _, h, .nil => h
  | i :: is, _, _, h, .cons r s => RepS.many (is := is) (RepS.set (i := i) h r) s
/-- the slots that are set are the ones that were wiped -/
theorem many_wiped {is : List Nat} {ds : List D} {vs : List V} {σ : L2.St} {ρ : Ss} (h : RepS g T H σ ρ) (r : RepL g T H ds vs) (hl : is.length = ds.length) : RepS g T H (setMany (wipe σ is) is vs) (setMany ρ is ds) := by
  have h0 : RepS g T H (setMany σ is vs) (setMany ρ is ds) := h.many r
  refine ⟨by rw [many_len, many_len, wipe_length]; exact h.len, fun i d e => ?_⟩
  obtain ⟨v, e1, q⟩ := h0.at_ i d e
  refine ⟨v, ?_, q⟩
  by_cases hi : i ∈ is
  · have key : ∀ (is : List Nat) (vs : List V) (σ τ : L2.St), σ.length = τ.length → is.length = vs.length → i ∈ is → (setMany σ is vs)[i]? = (setMany τ is vs)[i]? := by
      intro is
      induction is with
      | nil => intro vs σ τ _ _ hi; cases hi
      | cons j is ih =>
        intro vs σ τ hl hs hi
        cases vs with
        | nil => cases hs
        | cons w vs =>
          show (setMany (σ.set j (some w)) is vs)[i]? = (setMany (τ.set j (some w)) is vs)[i]?
          by_cases hj : i ∈ is
          · exact ih vs _ _ (by simpa using hl) (by simpa using hs) hj
          · rw [many_other hj, many_other hj]
            rcases List.mem_cons.mp hi with rfl | z
            · by_cases hb : i < σ.length
              · rw [List.getElem?_set_self hb, List.getElem?_set_self (by omega)]
              · rw [List.getElem?_eq_none (by simp; omega), List.getElem?_eq_none (by simp; omega)]
            · exact absurd z hj
    rw [key is vs (wipe σ is) σ (wipe_length _ _) (by rw [hl, r.length]) hi]
    exact e1
  · rw [many_other hi, wipe_other hi]
    rw [many_other hi] at e1
    exact e1
def unpk (n : Nat) (d : D) : Option (List D) := match d with
  | .tup ds => if ds.length = n then some ds else none
  | _ => none
inductive Tgt where
  | one (i : Nat) | many (is : List Nat)
def Tgt.is : Tgt → List Nat
  | .one i => [i]
  | .many is => is
def Tgt.un : Tgt → D → Option (List D)
  | .one _, d => some [d]
  | .many is, d => unpk is.length d
structure DGn (X : Cx) (e : Expr) (t : Tgt) : Prop where
  ex : ∃ tg, PG X e tg ∧ ∀ T σ H d v ds, Rep (gx X) T H d v → t.un d = some ds → ∀ Q, (∀ vs, RepL (gx X) T H ds vs → Q (setMany σ t.is vs) H) → tg v σ H Q
theorem dgn_name {i : Nat} {x : Str} (hN : X.N.Nodup) (hi : X.N[i]? = some x) (hx : Loc X.env.scope x) (hf : X.fn x = true ∨ X.env.scope.names.lookup x = some .local := by first | exact .inl rfl | exact .inr rfl | assumption) : DGn X (.Name x pos) (.one i) :=
  ⟨_, pg_name hN hi hx hf, fun T σ H d v ds r h Q k => by cases h; exact k [v] (.cons r .nil)⟩
/-- as the target of an assignment or a loop -/
def gTgt (t : Tgt) : GF := fun d ρ m => match t.un d with
  | some ds => some (setMany ρ t.is ds, m)
  | none => none
theorem dg_of {e : Expr} {t : Tgt} (h : DGn X e t) : DG X e (gTgt t) := by
  obtain ⟨tg, pg, rg⟩ := h.ex
  refine ⟨_, pg, fun T σ H ρ m d v ρ' m' hm hs r hf Q k => ?_⟩
  unfold gTgt at hf
  split at hf
  · next ds h1 =>
    cases hf
    exact rg T σ H d v ds r h1 Q fun vs rl => k _ T H .refl hm (hs.many rl)
  · cases hf
/-- an object that stood by itself is tracked from now on -/
theorem trackIt {p : Addr} {o : O} {T3 : Tk} (hm : RepH g T H m) (hp : p ∈ T.ν) (np : p ∉ T.μ) (e : T3.μ = T.μ ++ [p]) (e3 : ∀ a ∈ T3.ν, a ∈ T.ν) (ho : RepO g T3 H p o) (e4 : T3.τ = T.τ := by rfl) : RepH g T3 H (m ++ [o]) := by
  have pre : T.μ <+: T3.μ := by rw [e]; exact List.prefix_append _ _
  refine ⟨by rw [e]; simp [hm.len], ?_, fun a ha => hm.has a (e3 a ha), fun n a o' h1 h2 => ?_, fun q hq => ?_⟩
  · rw [e]
    exact List.nodup_append.mpr ⟨hm.nd, by simp, fun a ha b hb => by rw [List.mem_singleton.mp hb]; rintro rfl; exact np ha⟩
  · rw [e] at h1
    by_cases hn : n < T.μ.length
    · rw [List.getElem?_append_left hn] at h1
      rw [List.getElem?_append_left (by rw [← hm.len]; exact hn)] at h2
      exact (hm.at_ n a o' h1 h2).ext pre e3 e4
    · rw [List.getElem?_append_right (by omega)] at h1
      rw [List.getElem?_append_right (by rw [← hm.len]; omega), ← hm.len] at h2
      generalize n - T.μ.length = k at h1 h2
      cases k with
      | zero => cases h1; cases h2; exact ho
      | succ k => cases h1
  · rw [e4] at hq
    refine ⟨fun z => ?_, (hm.tabs q hq).2.le (fun v e => e) fun c v n e => ⟨fun z => n (e3 c z), e⟩⟩
    rw [e] at z
    rcases List.mem_append.mp z with z | z
    · exact (hm.tabs q hq).1 z
    · obtain ⟨ps, ep, _⟩ := (hm.tabs q hq).2
      rw [List.mem_singleton.mp z] at ep
      cases ho with
      | lst h _ => rw [h] at ep; cases ep
      | dicF h _ _ => rw [h] at ep; cases ep
      | dicN h _ _ _ => rw [h] at ep; unfold dnO at ep; cases ep
      | ins h _ _ => rw [h] at ep; cases ep
theorem Le.pushed {p : Addr} {T0 : Tk} {H0 : Hp} (l : Le T0 H0 T H) (hp0 : H0 p = none) : Le T0 H0 (T.push p) H := by
  refine ⟨l.pre.trans (List.prefix_append _ _), l.keep, l.tb, l.tk, fun a ha n => ?_, fun a ha n => ?_, fun a h => List.mem_append_left _ (l.up a h)⟩
  · rcases List.mem_append.mp ha with z | z
    · exact l.new a z n
    · rw [List.mem_singleton.mp z]; exact hp0
  · rcases List.mem_append.mp ha with z | z
    · exact l.newμ a z n
    · rw [List.mem_singleton.mp z]; exact hp0
theorem forb_push {p a : Addr} : a ∈ (T.push p).ν → a ∈ (T.forb p).ν := fun h => by
  rcases List.mem_append.mp h with z | z
  · exact List.mem_cons_of_mem _ z
  · rw [List.mem_singleton.mp z]; exact List.mem_cons_self ..
theorem Made.track {p : Addr} {T0 : Tk} {H0 : Hp} {ds : List D} (l0 : Le T0 H0 T H) (hp0 : H0 p = none) (k : Made g T H m p ds) : Le T0 H0 (T.push p) H ∧ RepH g (T.push p) H (m ++ [.lst ds]) ∧ Rep g (T.push p) H (.ref m.length) (.ref p) := by
  obtain ⟨np, hm, ws, hw, rl⟩ := k
  have sub : ∀ a ∈ (T.push p).ν, a ∈ (T.forb p).ν := fun a h => forb_push h
  have l : T.μ.length = m.length := hm.len
  refine ⟨l0.pushed hp0, trackIt (T := T.forb p) hm (List.mem_cons_self ..) (fun z => np (T.sub p z)) rfl sub (.lst hw (RepL.ext (T := T.forb p) (List.prefix_append _ _) sub rfl _ rl)), .ref ?_⟩
  show (T.μ ++ [p])[m.length]? = some p
  rw [← l, List.getElem?_append_right (Nat.le_refl _)]
  simp
def compGo (t : Tgt) (c : TF) (e : EF) (ρ : Ss) : List D → M → Option (List D × M)
  | [], m => some ([], m)
  | x :: xs, m => match t.un x with
    | some ds => bd (c (setMany ρ t.is ds) m) fun b m1 => if b then bd (e (setMany ρ t.is ds) m1) fun y m2 => bd (compGo t c e ρ xs m2) fun ys m3 => some (y :: ys, m3) else compGo t c e ρ xs m1
    | none => none
def eLcK (nw : Bool) (it : AF) (t : Tgt) (c : TF) (e : EF) : EF := fun ρ m => bd (it ρ m) fun xs m1 => if xs.length ≤ 1000000 then bd (compGo t c e ρ xs m1) fun ys m2 => some (bif nw then (.ref m2.length, m2 ++ [.lst ys]) else (.lst ys, m2)) else none
theorem Tgt.un_len {t : Tgt} {d : D} {ds : List D} (h : t.un d = some ds) : t.is.length = ds.length := by
  cases t with
  | one i => cases h; rfl
  | many is =>
    change unpk is.length d = some ds at h
    unfold unpk at h
    split at h
    · obtain ⟨hl, h⟩ := ite_some h; cases h; exact hl.symm
    · cases h
theorem rf_lc {wi : TI} {it : AF} {t : Tgt} {tg : TG} {tt : TT} {te : TE} {c : TF} {e : EF} (hi : RfI g wi it) (hg : ∀ T σ H d v ds, Rep g T H d v → t.un d = some ds → ∀ Q, (∀ vs, RepL g T H ds vs → Q (setMany σ t.is vs) H) → tg v σ H Q)
    (hc : RfT g tt c) (he : RfE g te e) {is : List Nat} (his : is = t.is) {nw : Bool} : RfE g (tLc wi tg tt te is) (eLcK nw it t c e) := by
  subst his
  intro T σ H ρ m d m' hm hs hf Q k
  obtain ⟨xs, m1, e1, hf⟩ := bd_some hf
  obtain ⟨hz, hf⟩ := ite_some hf
  obtain ⟨ys, mz, e2, hf⟩ := bd_some hf
  have hf := Option.some.inj hf
  refine hi T σ H ρ m xs m1 hm hs e1 _ fun J T0 H0 l0 hm0 ok p hp => ?_
  have hs0 := hs.le l0
  obtain ⟨md, lf⟩ := Made.new hm0 hp
  have start : Le T0 H0 T0 (upd H0 p (.lst [])) := ⟨List.prefix_rfl, fun a u e _ _ => by rw [upd_ne (ne_of_none e hp)]; exact e, rfl, fun q _ u e => ⟨u, by rw [upd_ne (ne_of_none e hp)]; exact e⟩, fun a h n => absurd h n, fun a h n => absurd h n, fun a h => h⟩
  refine ⟨fun i j H1 => i + j = xs.length ∧ ∃ T1 m1 ds rest, Le T0 H0 T1 H1 ∧ Made g T1 H1 m1 p ds ∧ ds.length ≤ i ∧ RepS g (T1.forb p) H1 σ ρ ∧ compGo t c e ρ (xs.drop i) m1 = some (rest, mz) ∧ ys = ds ++ rest, ⟨xs.length, by simp, T0, m1, [], ys, start, md, Nat.le_refl _, hs0.le lf, by simpa using e2, rfl⟩, ?_⟩
  rintro i j H1 ⟨hij, T1, m1', ds, rest, l1, md1, hdl, hs1, hf1, hy⟩
  obtain ⟨vs1, hv1, rl1⟩ := md1.at_
  have okT : ItOk g (T1.forb p) H1 J xs := fun T2 H2 l2 mm hmm => ok (⟨T2.μ, T2.ν, T2.τ, T2.sub, T2.subτ⟩) H2 (by
    have tb1 : (T1.forb p).τ = T0.τ := l1.tb
    refine ⟨l1.pre.trans l2.pre, fun a u h n t => l2.keep a u (l1.keep a u h n t) (fun z => ?_) (by rw [tb1]; exact t), l2.tb.trans l1.tb, fun q hq u e => ?_, fun a ha n => ?_, fun a ha n => ?_, fun a h => l2.up a (List.mem_cons_of_mem _ (l1.up a h))⟩
    · rw [l1.newμ a z n] at h; cases h
    · obtain ⟨u', e'⟩ := l1.tk q hq u e
      exact l2.tk q (by rw [tb1]; exact hq) u' e'
    · cases e : H0 a with
      | none => rfl
      | some u =>
        have n1 : a ∉ (T1.forb p).ν := fun z => by
          rcases List.mem_cons.mp z with rfl | z
          · rw [hp] at e; cases e
          · exact l1.out e n z
        have := l2.new a ha n1
        rw [l1.keep a u e (Tk.out n) (Tk.outτ n)] at this
        cases this
    · cases e : H0 a with
      | none => rfl
      | some u =>
        have n1 : a ∉ T1.μ := fun z => by rw [l1.newμ a z n] at e; cases e
        have := l2.newμ a ha n1
        by_cases t : ∃ q ∈ T0.τ, q.1 = a
        · obtain ⟨q, hq, rfl⟩ := t
          obtain ⟨v', e'⟩ := l1.tk q hq u e
          rw [e'] at this
          cases this
        · rw [l1.keep a u e n fun q hq z => t ⟨q, hq, z⟩] at this
          cases this) mm hmm
  obtain ⟨okG, okS⟩ := okT (T1.forb p) H1 .refl m1' md1.hm i
  cases j with
  | zero =>
    left
    rw [List.drop_of_length_le (by omega)] at hf1
    cases hf1
    rw [List.append_nil] at hy
    subst hy
    refine ⟨okS (by omega), ?_⟩
    cases nw with
    | false =>
      cases hf
      obtain ⟨hmd, rd⟩ := md1.done l1
      exact k _ T1 H1 (l0.trans l1) hmd rd
    | true =>
      cases hf
      obtain ⟨l3, hmd, rd⟩ := md1.track l1 hp
      exact k _ _ H1 (l0.trans l3) hmd rd
  | succ j =>
    right
    have hi' : i < xs.length := by omega
    rw [List.drop_eq_getElem_cons hi'] at hf1
    obtain ⟨go, yl⟩ := okG xs[i] (List.getElem?_eq_getElem hi')
    refine ⟨go, _, fun _ q => q, fun x H2 y2 => ?_⟩
    obtain ⟨T2, l2, hm2, r2⟩ := yl x H2 y2
    unfold compGo at hf1
    split at hf1
    · next es hes =>
      obtain ⟨b, m3, e3, hf3⟩ := bd_some hf1
      refine hg T2 (wipe σ t.is) H2 xs[i] x es r2 hes _ fun vs rv => ⟨?_, ?_⟩
      · rw [wipe_many t.is vs _ fun u hu => hu, wipe_wipe t.is fun u hu => hu]
      · have hs2 : RepS g T2 H2 (setMany (wipe σ t.is) t.is vs) (setMany ρ t.is es) := many_wiped (hs1.le l2) rv (Tgt.un_len hes)
        refine hc T2 _ H2 _ m1' b m3 hm2 hs2 e3 _ fun T3 H3 l3 hm3 => ?_
        cases b with
        | false =>
          obtain ⟨T4, l4, md4, e4, e5⟩ := md1.step l1 hp (l2.trans l3) hm3
          exact ⟨j, Nat.lt_succ_self _, by omega, T4, m3, ds, rest, l4, md4, by omega, ⟨hs1.len, fun q d hq => by
            obtain ⟨v, h1, h2⟩ := (hs1.le (l2.trans l3)).at_ q d hq
            exact ⟨v, h1, Rep.wk (T' := T4.forb p) e4 (fun a h => (e5 a).mp h) _ h2⟩⟩, hf3, hy⟩
        | true =>
          obtain ⟨y, m4, e6, hf4⟩ := bd_some hf3
          obtain ⟨ys', m5, e7, hf5⟩ := bd_some hf4
          cases hf5
          refine he T3 _ H3 _ m3 y m4 hm3 (hs2.le l3) e6 _ fun v T4 H4 l4 hm4 r4 => ?_
          obtain ⟨T5, l5, md5, e8, e9⟩ := md1.step l1 hp (l2.trans (l3.trans l4)) hm4
          obtain ⟨vs5, hv5, _⟩ := md5.at_
          have r5 : Rep g (T5.forb p) H4 y v := Rep.wk (T' := T5.forb p) e8 (fun a h => (e9 a).mp h) _ r4
          obtain ⟨md6, l6⟩ := md5.app l5 hp r5 hv5
          have hl5 : vs5.length = ds.length := by
            obtain ⟨w, hw, q⟩ := md5.at_
            rw [hv5] at hw
            cases hw
            exact q.length.symm
          refine ⟨vs5, hv5, ?_, j, Nat.lt_succ_self _, by omega, T5, m4, ds ++ [y], ys', l6, md6, by simp; omega, ⟨hs1.len, fun q d hq => ?_⟩, e7, by rw [hy]; simp⟩
          · rw [hl5, sizeLine_eq]; omega
          · obtain ⟨w, h1, h2⟩ := (hs1.le (l2.trans (l3.trans l4))).at_ q d hq
            exact ⟨w, h1, Rep.upF (List.mem_cons_self ..) _ (Rep.wk (T' := T5.forb p) e8 (fun a h => (e9 a).mp h) _ h2)⟩
    · cases hf1
end
end L4
namespace L4
open PySem L2
section
variable {X : Cx} {g : G} {T T' : Tk} {H : Hp} {m : M} {Q : VK} {pos : Pos}
structure DTs (X : Cx) (ifs : List Expr) (f : TF) : Prop where
  ex : ∃ t, PTs X ifs t ∧ RfT (gx X) t f
def tTrue : TF := fun _ m => some (true, m)
theorem dts_nil : DTs X [] tTrue := ⟨_, pts_nil, fun T σ H ρ m b m' hm hs hf Q k => by cases hf; exact k T H .refl hm⟩
theorem dts_one {c : Expr} {f : TF} (h : DT X c f) : DTs X [c] f := by
  obtain ⟨t, p, r⟩ := h.ex
  exact ⟨_, pts_one p, r⟩
theorem de_lc {nw : Bool} {elt tg iter : Expr} {ifs : List Expr} {scope : Scope} {own : List (Str × Nat)} {fi : AF} {t : Tgt} {fc : TF} {fe : EF} (hc : X.calm = true) (hN : X.N.Nodup) (hi : DI X tg iter fi) (ok : BlkOk X.N X.env.scope scope own)
    (hg : ∀ (s : Shared) (H : Hp) (C : Addr) (cl : List (Str × Addr)) (fp : List Addr), DGn (X.blk s H scope (compEnvC scope cl C X.env) fp) tg t) (ht : ∀ (s : Shared) (H : Hp) (C : Addr) (cl : List (Str × Addr)) (fp : List Addr), DTs (X.blk s H scope (compEnvC scope cl C X.env) fp) ifs fc)
    (he : ∀ (s : Shared) (H : Hp) (C : Addr) (cl : List (Str × Addr)) (fp : List Addr), DE (X.blk s H scope (compEnvC scope cl C X.env) fp) elt fe) (hq : own.map (·.2) = t.is := by rfl) (hs : ∀ x, foldedSetIterable iter X.env x = pure x := by intro _; rfl) :
    DE X (.ListComp elt [⟨tg, iter, ifs, 0⟩] scope pos) (eLcK nw fi t fc fe) := by
  obtain ⟨ti, pi, ri⟩ := hi.ex
  refine ⟨_, pe_lc (g := fun v σ H Q => ∀ s H' C cl fp, ∃ t, PG (X.blk s H' scope (compEnvC scope cl C X.env) fp) tg t ∧ t v σ H Q) (tt := fun σ H Q => ∀ s H' C cl fp, ∃ t, PTs (X.blk s H' scope (compEnvC scope cl C X.env) fp) ifs t ∧ t σ H Q)
    (te := fun σ H Q => ∀ s H' C cl fp, ∃ t, PE (X.blk s H' scope (compEnvC scope cl C X.env) fp) elt t ∧ t σ H Q) hc hN pi ok (fun s H C cl fp => ⟨fun pins s1 σ H1 v u Q I r h => ?_⟩) (fun s H C cl fp => ⟨fun pins s1 σ H1 Q I h => ?_⟩) (fun s H C cl fp => ⟨fun pins s1 σ H1 Q I h => ?_⟩) hs, ?_⟩
  · obtain ⟨t, p, q⟩ := h s H C cl fp
    exact p.run pins s1 σ H1 v u Q I r q
  · obtain ⟨t, p, q⟩ := h s H C cl fp
    exact p.run pins s1 σ H1 Q I q
  · obtain ⟨t, p, q⟩ := h s H C cl fp
    exact p.run pins s1 σ H1 Q I q
  · refine rf_lc ri ?_ ?_ ?_ hq
    · intro T σ H d v ds r hu Q k s H' C cl fp
      obtain ⟨t, p, q⟩ := (hg s H' C cl fp).ex
      exact ⟨t, p, q T σ H d v ds r hu Q k⟩
    · intro T σ H ρ m b m' hm hs hf Q k s H' C cl fp
      obtain ⟨t, p, q⟩ := (ht s H' C cl fp).ex
      exact ⟨t, p, q T σ H ρ m b m' hm hs hf Q k⟩
    · intro T σ H ρ m b m' hm hs hf Q k s H' C cl fp
      obtain ⟨t, p, q⟩ := (he s H' C cl fp).ex
      exact ⟨t, p, q T σ H ρ m b m' hm hs hf Q k⟩
theorem ds_setLc {nw : Bool} {i : Nat} {y : Str} {py : Pos} {elt tg iter : Expr} {ifs : List Expr} {scope : Scope} {own : List (Str × Nat)} {spos : Pos} {fi : AF} {t : Tgt} {fc : TF} {fe : EF} (hc : X.calm = true) (hN : X.N.Nodup) (hy : X.N[i]? = some y) (hyl : X.env.scope.names.lookup y = some .local)
    (hsw : swapsWith (.ListComp elt [⟨tg, iter, ifs, 0⟩] scope pos) (some (.Name y py)) spos.line X.env = pure true) (hi : DI X tg iter fi) (ok : BlkOk X.N X.env.scope scope own)
    (hg : ∀ (s : Shared) (H : Hp) (C : Addr) (cl : List (Str × Addr)) (fp : List Addr), DGn (X.blk s H scope (compEnvC scope cl C X.env) fp) tg t) (ht : ∀ (s : Shared) (H : Hp) (C : Addr) (cl : List (Str × Addr)) (fp : List Addr), DTs (X.blk s H scope (compEnvC scope cl C X.env) fp) ifs fc)
    (he : ∀ (s : Shared) (H : Hp) (C : Addr) (cl : List (Str × Addr)) (fp : List Addr), DE (X.blk s H scope (compEnvC scope cl C X.env) fp) elt fe) (hq : own.map (·.2) = t.is := by rfl) (hs : ∀ x, foldedSetIterable iter X.env x = pure x := by intro _; rfl) :
    DS X (.Assign [.Name y py] (.ListComp elt [⟨tg, iter, ifs, 0⟩] scope pos) spos) (sAsg (eLcK nw fi t fc fe) (gNm i)) := by
  obtain ⟨ti, pi, ri⟩ := hi.ex
  refine ⟨_, ps_setLc (g := fun v σ H Q => ∀ s H' C cl fp, ∃ t, PG (X.blk s H' scope (compEnvC scope cl C X.env) fp) tg t ∧ t v σ H Q) (tt := fun σ H Q => ∀ s H' C cl fp, ∃ t, PTs (X.blk s H' scope (compEnvC scope cl C X.env) fp) ifs t ∧ t σ H Q)
    (te := fun σ H Q => ∀ s H' C cl fp, ∃ t, PE (X.blk s H' scope (compEnvC scope cl C X.env) fp) elt t ∧ t σ H Q) hc hN hy hyl hsw pi ok (fun s H C cl fp => ⟨fun pins s1 σ H1 v u Q I r h => ?_⟩) (fun s H C cl fp => ⟨fun pins s1 σ H1 Q I h => ?_⟩) (fun s H C cl fp => ⟨fun pins s1 σ H1 Q I h => ?_⟩) hs, rf_asg ?_ ?_⟩
  · obtain ⟨t, p, q⟩ := h s H C cl fp
    exact p.run pins s1 σ H1 v u Q I r q
  · obtain ⟨t, p, q⟩ := h s H C cl fp
    exact p.run pins s1 σ H1 Q I q
  · obtain ⟨t, p, q⟩ := h s H C cl fp
    exact p.run pins s1 σ H1 Q I q
  · refine rf_lc ri ?_ ?_ ?_ hq
    · intro T σ H d v ds r hu Q k s H' C cl fp
      obtain ⟨t, p, q⟩ := (hg s H' C cl fp).ex
      exact ⟨t, p, q T σ H d v ds r hu Q k⟩
    · intro T σ H ρ m b m' hm hs hf Q k s H' C cl fp
      obtain ⟨t, p, q⟩ := (ht s H' C cl fp).ex
      exact ⟨t, p, q T σ H ρ m b m' hm hs hf Q k⟩
    · intro T σ H ρ m b m' hm hs hf Q k s H' C cl fp
      obtain ⟨t, p, q⟩ := (he s H' C cl fp).ex
      exact ⟨t, p, q T σ H ρ m b m' hm hs hf Q k⟩
  · exact fun T σ H ρ m d v ρ' m' hm hs r hf Q k => by cases hf; exact k _ T H .refl hm (hs.set r)
def iAny (K : PySem.W.Frag) (te : TE) : TI := fun σ H R => te σ H fun v H1 => (∃ a, v = .ref a ∧ (∃ xs, SqL K H1 a xs) ∧ R (Itl K a) H1) ∨ (∃ a, v = .ref a ∧ (∃ xs, SqT K H1 a xs) ∧ R (Itt K a) H1) ∨ ∃ x, v = .str x ∧ R (Its x) H1
theorem pi_any {tg e : Expr} {te : TE} (he : PE X e te) : PI X tg e (iAny X.K te) := by
  refine ⟨fun pins s σ H R I h => ?_⟩
  refine thn (he.run pins s σ H _ I h) fun v s1 ⟨y, H1, I1, r1, hq⟩ => ?_
  rcases hq with ⟨a, rfl, ⟨xs, hx⟩, q⟩ | ⟨a, rfl, ⟨xs, hx⟩, q⟩ | ⟨x, rfl, q⟩
  · cases r1
    obtain ⟨its, rv, p, hz⟩ := I1.list hx
    exact wpAny_pyIter_list p.isList (pi_one (tk := s1.toks) I1 _ (turn_list a _) ⟨_, Heap.get?_push_size _ rfl, rfl, rfl⟩ q)
  · cases r1
    obtain ⟨its, rv, p, hz⟩ := I1.tuple hx
    exact wpAny_pyIter_tuple (show s1.heap.IsTuple a its.toArray from p) (pi_one (tk := s1.toks) I1 _ (turn_tuple a _) ⟨_, Heap.get?_push_size _ rfl, rfl, rfl⟩ q)
  · obtain ⟨t, rfl⟩ := r1
    cases ha : x.cps.all (· < 128)
    · exact wpAny_pyIter_wide ha (pi_one (tk := s1.toks) I1 _ (turn_str _ x t "str_iterator" (.inr rfl)) ⟨_, Heap.get?_push_size _ rfl, rfl, rfl⟩ q)
    · exact wpAny_pyIter_ascii ha (pi_one (tk := s1.toks) I1 _ (turn_str _ x t "str_ascii_iterator" (.inl rfl)) ⟨_, Heap.get?_push_size _ rfl, rfl, rfl⟩ q)
theorem RepL.none {ds : List D} {vs : List V} {i : Nat} (r : RepL g T H ds vs) (h : ds.length ≤ i) : vs.length ≤ i := by rw [← r.length]; exact h
theorem itok_L {a : Addr} {ds : List D} (h : ∀ T1 H1, Le T H T1 H1 → ∃ vs, SqL g.K H1 a vs ∧ RepL g T1 H1 ds vs) : ItOk g T H (Itl g.K a) ds := by
  intro T1 H1 l m1 hm1 i
  obtain ⟨vs, hx, r⟩ := h T1 H1 l
  refine ⟨fun d hd => ?_, fun hl => ⟨vs, hx, r.none (Nat.le_of_eq hl)⟩⟩
  obtain ⟨v, hv, q⟩ := r.get hd
  refine ⟨⟨vs, v, hx, hv⟩, fun x H2 ⟨e, hy⟩ => ?_⟩
  subst e
  have := hy vs hx
  rw [hv] at this
  cases this
  exact ⟨T1, .refl, hm1, q⟩
theorem itok_T {a : Addr} {ds : List D} (h : ∀ T1 H1, Le T H T1 H1 → ∃ vs, SqT g.K H1 a vs ∧ RepL g T1 H1 ds vs) : ItOk g T H (Itt g.K a) ds := by
  intro T1 H1 l m1 hm1 i
  obtain ⟨vs, hx, r⟩ := h T1 H1 l
  refine ⟨fun d hd => ?_, fun hl => ⟨vs, hx, r.none (Nat.le_of_eq hl)⟩⟩
  obtain ⟨v, hv, q⟩ := r.get hd
  refine ⟨⟨vs, v, hx, hv⟩, fun x H2 ⟨e, hy⟩ => ?_⟩
  subst e
  have := hy vs hx
  rw [hv] at this
  cases this
  exact ⟨T1, .refl, hm1, q⟩
theorem itok_S {x : Str} : ItOk g T H (Its x) (x.cps.toList.map fun c => .str ⟨#[c]⟩) := by
  intro T1 H1 l m1 hm1 i
  refine ⟨fun d hd => ?_, fun hl => by show x.cps.size ≤ i; have := Nat.le_of_eq hl; simpa using this⟩
  rw [List.getElem?_map] at hd
  obtain ⟨c, hc, rfl⟩ := Option.map_eq_some_iff.mp hd
  have hc' : x.cps[i]? = some c := by simpa using hc
  refine ⟨(Array.getElem?_eq_some_iff.mp hc').1, fun y H2 ⟨e, c', h1, h2⟩ => ?_⟩
  subst e h2
  rw [hc'] at h1
  cases h1
  exact ⟨T1, .refl, hm1, .str _⟩
theorem itok_R {lo : Int} {n : Nat} : ItOk g T H (Itr lo n) ((List.range n).map fun (i : Nat) => .int (lo + i)) := by
  intro T1 H1 l m1 hm1 i
  refine ⟨fun d hd => ?_, fun hl => by show n ≤ i; have := Nat.le_of_eq hl; simpa using this⟩
  rw [List.getElem?_map] at hd
  obtain ⟨c, hc, rfl⟩ := Option.map_eq_some_iff.mp hd
  obtain ⟨h1, h2⟩ := List.getElem?_eq_some_iff.mp hc
  simp at h1 h2
  subst h2
  refine ⟨h1, fun y H2 ⟨e, h2⟩ => ?_⟩
  subst e h2
  exact ⟨T1, .refl, hm1, .int _⟩
/-- the items of what is walked: nothing that is tracked -/
def items : D → Option (List D)
  | .tup ds => some ds
  | .lst ds => some ds
  | .scr ds => some ds
  | .str x => some (x.cps.toList.map fun c => .str ⟨#[c]⟩)
  | _ => none
def iIt (a : EF) : AF := fun ρ m => bd (a ρ m) fun x m1 => pu (items x) m1
theorem di_any {tg e : Expr} {f : EF} (h : DE X e f) : DI X tg e (iIt f) := by
  obtain ⟨t, p, r⟩ := h.ex
  refine ⟨_, pi_any p, fun T σ H ρ m ds m' hm hs hf R k => ?_⟩
  obtain ⟨x, m1, e1, hf⟩ := bd_some hf
  obtain ⟨e2, rfl⟩ := pu_some hf
  refine r T σ H ρ m x _ hm hs e1 _ fun v T1 H1 l1 hm1 r1 => ?_
  cases r1 with
  | tup f q => cases e2; exact .inr (.inl ⟨_, rfl, ⟨_, f.sq⟩, k _ T1 H1 l1 hm1 (itok_T fun T2 H2 l => ⟨_, (f.le l).sq, q.le l⟩)⟩)
  | lst f q => cases e2; exact .inl ⟨_, rfl, ⟨_, f.sq⟩, k _ T1 H1 l1 hm1 (itok_L fun T2 H2 l => ⟨_, (f.le l).sq, q.le l⟩)⟩
  | scr f q => cases e2; exact .inl ⟨_, rfl, ⟨_, f.sq⟩, k _ T1 H1 l1 hm1 (itok_L fun T2 H2 l => ⟨_, (f.le l).sq, q.le l⟩)⟩
  | str x => cases e2; exact .inr (.inr ⟨_, rfl, k _ T1 H1 l1 hm1 itok_S⟩)
  | _ => cases e2
def rngD (lo : Int) (n : Nat) : List D := (List.range n).map fun (i : Nat) => .int (lo + i)
def iR1 (a : AF) : AF := fun ρ m => bd (a ρ m) fun xs m1 => match xs with
  | [.int j] => if -(2 ^ 62) ≤ j ∧ j < 2 ^ 62 then some (rngD 0 j.toNat, m1) else none
  | _ => none
theorem di_range1 {tg a : Expr} {f : AF} {p : Pos} (hg : Gl X "range") (hm : X.mg "range" = none) (ha : DA X [a] f) (hs : starEach [a] X.env = [(false, eval a X.env)] := by rfl) : DI X tg (.Call (.Name "range" p) [a] [] pos) (iR1 f) := by
  obtain ⟨t, pa, r⟩ := ha.ex
  refine ⟨_, pi_range1 hg hm pa hs, fun T σ H ρ m ds m' hm hs hf R k => ?_⟩
  obtain ⟨x, m1, e1, hf⟩ := bd_some hf
  refine r T σ H ρ m x _ hm hs e1 _ fun v T1 H1 l1 hm1 r1 => ?_
  split at hf
  · obtain ⟨⟨h1, h2⟩, hf⟩ := ite_some hf
    cases hf
    cases r1 with
    | cons a b => cases a; cases b; exact ⟨_, rfl, h1, h2, k _ T1 H1 l1 hm1 itok_R⟩
  · cases hf
end
end L4
namespace L4
open PySem L2
structure PFn (P : Program) (w : World) (K : PySem.W.Frag) (mg : Str → Option Value) (base : Heap) (k : Nat) (x : Str) (n : Nat) (F : List D → Option D) : Prop where
  len : ∀ ds d, F ds = some d → ds.length = n
  ex : ∃ f fd ps, FnG P w K mg base CX0 k f fd ps (spP ⟨P, w, K⟩ n F) ∧ mg x = some (.ref f) ∧ PySem.W.keepIn K (.ref f) = true ∧ Binds K fd ps []
structure MFn (P : Program) (w : World) (K : PySem.W.Frag) (mg : Str → Option Value) (base : Heap) (k : Nat) (x : Str) (n : Nat) (F : List D → M → Option (D × M)) : Prop where
  len : ∀ ds m r, F ds m = some r → ds.length = n
  ex : ∃ f fd ps, FnG P w K mg base CX0 k f fd ps (spM ⟨P, w, K⟩ n F) ∧ mg x = some (.ref f) ∧ PySem.W.keepIn K (.ref f) = true ∧ Binds K fd ps []
section
variable {P : Program} {w : World} {K : PySem.W.Frag} {mg : Str → Option Value} {base : Heap} {k : Nat} {x q m c : Str} {ps N : List Str} {st : Stmt} {b : SF}
theorem fnG_all {f : Addr} {fd : FuncData} {sp : Sp} (F : Fun K x q st f fd) (S : FnScope N ps (defScope st)) (len : ∀ vs H Q E, sp vs H Q E → vs.length = ps.length)
    (hrun : ∀ {t : TS}, RfS ⟨P, w, K⟩ t b → ∀ {vs : List V} {H : Hp} {Q : VK} {E : XK}, sp vs H Q E → t { nx := fun _ H' => Q .non H', rt := Q } (L2.start N vs) H)
    (hbody : ∀ (cdv : Value) (A : Around) (outer : List Env) (s : Shared) (H : Hp) (E : XK), Gd k (cxOf CX0 P w K mg base N q (defScope st) f cdv A outer s H E).nox →
      DSs (cxOf CX0 P w K mg base N q (defScope st) f cdv A outer s H E).nox (defBody st) b) : FnG P w K mg base CX0 (k + 1) f fd ps sp := by
  refine .old (L3.fnG_of F S len fun cdv A outer s H vs Q E hg hr hsp => ?_)
  obtain ⟨t, p, r⟩ := (hbody cdv A outer s H E ⟨hg, hr⟩).ex
  exact ⟨t, p, hrun r hsp⟩
theorem mfn_df (D : L3.Df K mg x st) (S : FnScope N ps (defScope st))
    (hb : ∀ (kV doc pm : Value) (an : Option Addr) (cdv ct : Value) (us : List Value), us.length = ps.length → bindArgs (PySem.W.fnOf x x (defArgs st) (defBody st) (defScope st) .none kV doc pm an cdv ct) ⟨us, []⟩ = pure (ps.zip us))
    (hbody : ∀ (f : Addr) (cdv : Value) (A : Around) (outer : List Env) (s : Shared) (H : Hp) (E : XK), Gd k (cxOf CX0 P w K mg base N x (defScope st) f cdv A outer s H E).nox →
      DSs (cxOf CX0 P w K mg base N x (defScope st) f cdv A outer s H E).nox (defBody st) b) : MFn P w K mg base (k + 1) x ps.length (runM ps.length N.length b) := by
  obtain ⟨f, fd, F, g⟩ := D.ex
  exact ⟨fun ds m d h => runM_len h, f, fd, ps, fnG_all F S (fun vs H Q E h => h.1) (fun r => spM_run r) (hbody f), g, F.kp, F.binds hb⟩
end
section
variable {X : Cx} {g : G} {T T' : Tk} {H : Hp} {m : M} {Q : VK} {pos p apos : Pos} {e o : Expr} {es : List Expr} {k n : Nat} {x c nm : Str}
theorem app_nil {r : List V → Hp → VK → Prop} {v : Value} {sp : Sp} (h : CallR X v fun vs H Q => sp (vs ++ []) H Q E0) : CallR X v fun vs H Q => sp vs H Q E0 := by
  intro pins s σ H xs us Q I r q
  exact h pins s σ H xs us Q I r (by show sp (xs ++ []) H Q E0; rw [List.append_nil]; exact q)
theorem de_mfn {F : List D → M → Option (D × M)} {f : AF} (hF : MFn X.prog X.w X.K X.mg X.base k x n F) (gd : Gd k X) (hg : Gl X x) (ha : DA X (e :: es) f) (hdb : (x == ("__debug__" : Str)) = false := by decide)
    (he : starEach (e :: es) X.env = (false, eval e X.env) :: starEach es X.env := by rfl) (hpl : (backTo pos (starEach es X.env)).any (·.1) = false := by rfl) : DE X (.Call (.Name x p) (e :: es) [] pos) (eCallM F f) := by
  obtain ⟨fa, fd, ps, G, hm, kp, b⟩ := hF.ex
  obtain ⟨t, pa, ra⟩ := ha.ex
  exact ⟨_, pe_callR (app_nil (r := fun _ _ _ => True) (G.call gd b .nil)) hg hm kp pa hdb he hpl, rf_callM hF.len ra⟩
/-- the class and the fields of an object -/
def insO : O → Option (Str × List Str × List D)
  | .ins c ns vs => some (c, ns, vs)
  | _ => none
def insOf (m : M) : D → Option (Str × List Str × List D)
  | .obj c ns vs => some (c, ns, vs)
  | .ref n => (m[n]?).bind insO
  | _ => none
/-- o.m(..): the object first, its class is asked -/
def eMth (c nm : Str) (F : M → List D → Option D) (o : EF) (a : AF) : EF := fun ρ m => bd (o ρ m) fun x m1 => match insOf m1 x with
  | some (c', ns, _) => if c' = c ∧ ns.contains nm = false then bd (a ρ m1) fun xs m2 => pu (F m2 (x :: xs)) m2 else none
  | none => none
theorem rf_nil : RfA g tNil aNil := fun T σ H ρ m ds m' hm hs hf Q k => by cases hf; exact k [] T H .refl hm .nil
def fldAt : List Str → List D → Str → Option D
  | n :: ns, v :: vs, f => if n = f then some v else fldAt ns vs f
  | _, _, _ => none
theorem fld_rep {f : Str} : ∀ {fs : List (Str × V)} {ns : List Str} {vs : List D} {d : D}, fs.map Prod.fst = ns → RepL g T H vs (fs.map Prod.snd) → fldAt ns vs f = some d → ∃ v, fs.lookup f = some v ∧ Rep g T H d v
  | [], _, _, _, e, r, h => by subst e; cases r; cases h
  | (n, w) :: fs, _, _, d, e, r, h => by
    subst e
    cases r with
    | cons r s =>
      change (if n = f then some _ else fldAt _ _ f) = some d at h
      by_cases hn : n = f
      · rw [if_pos hn] at h
        cases h
        subst hn
        exact ⟨w, by simp [List.lookup], r⟩
      · rw [if_neg hn] at h
        obtain ⟨v, e1, q⟩ := fld_rep (fs := fs) rfl s h
        refine ⟨v, ?_, q⟩
        have : (f == n) = false := by rw [beq_eq_false_iff_ne]; exact fun z => hn z.symm
        simp [List.lookup, this, e1]
def eFld (cs : List Str) (f : Str) (o : EF) : EF := fun ρ m => bd (o ρ m) fun x m1 => match insOf m1 x with
  | some (c, ns, vs) => if cs.contains c then pu (fldAt ns vs f) m1 else none
  | none => none
end
end L4
namespace L4
open PySem L2
section
variable {X : Cx} {g : G} {T T' : Tk} {H : Hp} {m : M} {Q : VK} {pos p apos : Pos} {e o : Expr} {es : List Expr} {k n : Nat} {x c nm : Str}
theorem FnG.make {C f : Addr} {fd : FuncData} {ps : List Str} {sp : Sp} (Mk : Mk X.K C f) (F : FnG X.prog X.w X.K X.mg X.base CX0 k f fd ps sp) (gd : Gd (k + 1) X) (hb : Binds X.K fd ps []) :
    CallR X (.ref C) fun vs H Q => ∀ x dx, H x = none → H dx = none → dx ≠ x → sp (.ref x :: vs) (upd (upd H dx (.own x)) x (.ins C dx [])) (fun v H2 => v = .non ∧ Q (.ref x) H2) E0 := by
  intro pins s σ H vs us Q I r h
  have hq := h (s.heap.objs.size + 1) s.heap.objs.size (I.hok.fresh (Nat.le_succ _)) (I.hok.fresh (Nat.le_refl _)) (Nat.ne_of_lt (Nat.lt_succ_self _))
  have I2 := Inv.made (C := C) I
  have r2 : Vals (V.ref (s.heap.objs.size + 1) :: vs) (Value.ref (s.heap.objs.size + 1) :: us) := .cons rfl r
  have hl : (Value.ref (s.heap.objs.size + 1) :: us ++ []).length = ps.length := by
    rw [List.append_nil, ← r2.length]
    exact F.len _ _ _ _ hq
  have hg : (X.A.under (.builtin "type.__call__" ⟨.ref C :: us, []⟩)).guards = some [] := by
    have := gd.g
    have e : (Code.builtin "type.__call__" ⟨.ref C :: us, []⟩).guards = [] := by simp [Code.guards, Code.isGuard, guardIds]
    simp [Around.under, e, pushGuards, this]
  have b := hb _ (Value.ref (s.heap.objs.size + 1) :: us) I2.kIn hl
  rw [List.append_nil] at b
  refine wpAny_call (make_map (f := f) I.kIn Mk.makes Mk.init (beq_iff_eq.mp Mk.fn) (codeAny_mono (F.run _ X.stack _ _ _ _ _ _ E0 hg (gd.r.make C us []) (I2.env0.make C us []) b r2 hq) fun res s' hres => ?_))
  match res, hres with
  | .error _, z => exact z.elim
  | .ok (.ret u), z =>
    obtain ⟨v, H', I3, rv, ev, q3⟩ := I2.after z
    cases ev
    exact ⟨rv, V.ref (s.heap.objs.size + 1), H', I3, rfl, q3⟩
/-- an object that is never changed behind its making: plain data -/
def newP (c : Str) (F : List D → M → Option (D × M)) (ds : List D) : Option D := match F (.ref 0 :: ds) [.ins c [] []] with
  | some (.non, m) => frz m (.ref 0)
  | _ => none
def pureC (F : List D → Option D) (_ : M) (ds : List D) : Option D := if pureL ds then F ds else none
end
end L4
namespace L4
open PySem L2
section
variable {X : Cx} {g : G} {T T' : Tk} {H : Hp} {m : M} {Q : VK} {pos p apos : Pos} {e o : Expr} {es : List Expr} {k n : Nat} {x c nm : Str}
theorem lst_tracked {n : Nat} {v : V} {ds : List D} (hm : RepH g T H m) (r : Rep g T H (.ref n) v) (h : m[n]? = some (.lst ds)) : ∃ a vs, v = .ref a ∧ T.μ[n]? = some a ∧ H a = some (.lst vs) ∧ RepL g T H ds vs := by
  cases r with
  | ref e =>
    cases hm.at_ _ _ _ e h with
    | lst f r => exact ⟨_, _, rfl, e, f, r⟩
theorem tyL_of {K : PySem.W.Frag} {a : Addr} {vs : List V} (h : H a = some (.lst vs)) : tyV K "list" (.ref a) H := .inl ⟨rfl, _, SqL.of h⟩
def RfLm (g : G) (r : V → List V → Hp → VK → Prop) (F : M → List D → List D → Option (D × List D)) : Prop := ∀ T H m l xs ds ys vs d es, RepH g T H m → H l = some (.lst xs) → RepL g T H ds xs → RepL g T H ys vs → F m ds ys = some (d, es) → ∀ Q : VK,
  (∀ v zs, RepL g T H es zs → Rep g T H d v → Q v (upd H l (.lst zs))) → r (.ref l) vs H Q
theorem rf_lm {r : V → List V → Hp → VK → Prop} {F : M → List D → List D → Option (D × List D)} {to : TE} {t : TA} {fo : EF} {fa : AF} (hr : RfLm g r F) (ho : RfE g to fo) (ha : RfA g t fa) {ff : EF}
    (hff : ∀ ρ m, ff ρ m = bd (fo ρ m) fun x m1 => match x with
      | .ref n => match m1[n]? with
        | some (.lst _) => bd (fa ρ m1) fun ys m2 => match m2[n]? with
          | some (.lst ds) => (F m2 ds ys).map fun r => (r.1, m2.set n (.lst r.2))
          | _ => none
        | _ => none
      | _ => none) : RfE g (tBM g.K "list" r to t) ff := by
  intro T σ H ρ m d m' hm hs hf Q k
  rw [hff] at hf
  obtain ⟨x, m1, e1, hf1⟩ := bd_some hf
  clear hf
  refine ho T σ H ρ m x m1 hm hs e1 _ fun v T1 H1 l1 hm1 r1 => ?_
  split at hf1
  · next n =>
    split at hf1
    · next ds0 hi0 =>
      obtain ⟨ys, m2, e2, hf2⟩ := bd_some hf1
      obtain ⟨a, vs0, rfl, ea, h0, _⟩ := lst_tracked hm1 r1 hi0
      refine ⟨tyL_of h0, ha T1 σ H1 ρ m1 ys m2 hm1 (hs.le l1) e2 _ fun vs T2 H2 l2 hm2 r2 => ?_⟩
      split at hf2
      · next ds hi =>
        obtain ⟨⟨d', es⟩, h3, h4⟩ := Option.map_eq_some_iff.mp hf2
        obtain ⟨rfl, rfl⟩ : d' = d ∧ _ = m' := by injection h4 with h5 h6; exact ⟨h5, h6⟩
        obtain ⟨a', xs, e, ea2, h5, r5⟩ := lst_tracked hm2 (r1.le l2) hi
        cases e
        refine hr T2 H2 m2 a xs ds ys vs d' es hm2 h5 r5 r2 h3 Q fun v zs rz rv => ?_
        obtain ⟨l3, hm3⟩ := hm2.put (u := .lst zs) (o := .lst es) ea2 fun l => .lst upd_same (rz.le l)
        exact k v T2 _ (l1.trans (l2.trans l3)) hm3 (rv.le l3)
      · cases hf2
    · cases hf1
  · cases hf1
def appL (ds ys : List D) : Option (D × List D) := match ys with
  | [y] => if ds.length < sizeLine then some (.non, ds ++ [y]) else none
  | _ => none
def popL (ds ys : List D) : Option (D × List D) := match ys with
  | [] => match ds.getLast? with
    | some d => some (d, ds.dropLast)
    | none => none
  | _ => none
def eLm0 (F : M → List D → List D → Option (D × List D)) (o : EF) (a : AF) : EF := fun ρ m => bd (o ρ m) fun x m1 => match x with
  | .ref n => match m1[n]? with
    | some (.lst _) => bd (a ρ m1) fun ys m2 => match m2[n]? with
      | some (.lst ds) => (F m2 ds ys).map fun r => (r.1, m2.set n (.lst r.2))
      | _ => none
    | _ => none
  | _ => none
theorem rfl_app : RfLm g rAppend (fun _ => appL) := by
  intro T H m l xs ds ys vs d es hm hl rd ry hf Q k
  change appL ds ys = some (d, es) at hf
  unfold appL at hf
  split at hf
  · obtain ⟨hz, hf⟩ := ite_some hf
    cases hf
    cases ry with
    | cons r1 r2 => cases r2; exact ⟨l, xs, _, rfl, rfl, hl, by rw [← rd.length]; exact hz, k _ _ (rd.append (.cons r1 .nil)) .non⟩
  · cases hf
theorem RepL.last {ds : List D} {vs : List V} {d : D} (r : RepL g T H ds vs) (h : ds.getLast? = some d) : ∃ v, vs[vs.length - 1]? = some v ∧ Rep g T H d v := by
  rw [List.getLast?_eq_getElem?] at h
  obtain ⟨v, e, q⟩ := r.get h
  rw [r.length] at e
  exact ⟨v, e, q⟩
theorem RepL.dropLast {ds : List D} {vs : List V} (r : RepL g T H ds vs) : RepL g T H ds.dropLast vs.dropLast := by
  rw [List.dropLast_eq_take, List.dropLast_eq_take, r.length]
  exact r.take _
theorem rfl_pop : RfLm g rPop (fun _ => popL) := by
  intro T H m l xs ds ys vs d es hm hl rd ry hf Q k
  change popL ds ys = some (d, es) at hf
  unfold popL at hf
  split at hf
  · split at hf
    · next h =>
      cases hf
      cases ry
      obtain ⟨v, e, q⟩ := rd.last h
      exact ⟨l, xs, v, rfl, rfl, hl, e, k _ _ rd.dropLast q⟩
    · cases hf
  · cases hf
theorem de_lm {name : Str} {id : String} {r : V → List V → Hp → VK → Prop} {F : M → List D → List D → Option (D × List D)} {fo : EF} {f : AF} (slot : Slot "list" name id) (hty : typeOf (.builtin id) = pure (.type "method_descriptor")) (hm : MtR X id r) (hr : RfLm (gx X) r F) (ho : DE X o fo) (ha : DA X (e :: es) f)
    (hbase : attributeBase o name X.env (eval o X.env) = eval o X.env := by rfl)
    (hfew : ((backTo pos (starEach (e :: es) X.env)).all (fun x => !x.1) && (backToKw pos (keywordEach [] X.env)).all (fun x => x.1.isSome)
      && decide ((e :: es).length + ([] : List Keyword).length + (if ([] : List Keyword).isEmpty then 0 else 1) < 30)) = true := by rfl)
    (hline : (apos.endLine == pos.line) = true := by rfl) (hs : starEach (e :: es) X.env = (false, eval e X.env) :: starEach es X.env := by rfl) (hplain : (backTo pos (starEach es X.env)).any (·.1) = false := by rfl) :
    DE X (.Call (.Attribute o name apos) (e :: es) [] pos) (eLm0 F fo f) := by
  obtain ⟨to, po, ro⟩ := ho.ex; obtain ⟨t, pa, ra⟩ := ha.ex
  exact ⟨_, pe_bm PySem.F.plainAttrs_list slot hty hm po pa hbase hfew hline hs hplain, rf_lm hr ro ra fun _ _ => rfl⟩
theorem de_lm0 {name : Str} {id : String} {r : V → List V → Hp → VK → Prop} {F : M → List D → List D → Option (D × List D)} {fo : EF} (slot : Slot "list" name id) (hty : typeOf (.builtin id) = pure (.type "method_descriptor")) (hm : MtR X id r) (hr : RfLm (gx X) r F) (ho : DE X o fo)
    (hbase : attributeBase o name X.env (eval o X.env) = eval o X.env := by rfl) (hline : (apos.endLine == pos.line) = true := by rfl) : DE X (.Call (.Attribute o name apos) [] [] pos) (eLm0 F fo aNil) := by
  obtain ⟨to, po, ro⟩ := ho.ex
  refine ⟨_, pe_bm0 PySem.F.plainAttrs_list slot hty hm po hbase hline, fun T σ H ρ m d m' hm hs hf Q k => ?_⟩
  exact rf_lm hr ro rf_nil (fun _ _ => rfl) T σ H ρ m d m' hm hs hf Q k
theorem de_append {fo : EF} {f : AF} (ho : DE X o fo) (ha : DA X [e] f) (hbase : attributeBase o "append" X.env (eval o X.env) = eval o X.env := by rfl) (hline : (apos.endLine == pos.line) = true := by rfl) (hs : starEach [e] X.env = [(false, eval e X.env)] := by rfl)
    (hfew : ((backTo pos (starEach [e] X.env)).all (fun x => !x.1) && (backToKw pos (keywordEach [] X.env)).all (fun x => x.1.isSome) && decide ([e].length + ([] : List Keyword).length + (if ([] : List Keyword).isEmpty then 0 else 1) < 30)) = true := by rfl) :
    DE X (.Call (.Attribute o "append" apos) [e] [] pos) (eLm0 (fun _ => appL) fo f) := de_lm PySem.F.slot_list_append PySem.F.type_list_append mt_append rfl_app ho ha hbase hfew hline hs rfl
theorem de_pop {fo : EF} (ho : DE X o fo) (hbase : attributeBase o "pop" X.env (eval o X.env) = eval o X.env := by rfl) (hline : (apos.endLine == pos.line) = true := by rfl) :
    DE X (.Call (.Attribute o "pop" apos) [] [] pos) (eLm0 (fun _ => popL) fo aNil) := de_lm0 PySem.F.slot_list_pop PySem.F.type_list_pop mt_pop rfl_pop ho hbase hline
theorem RepL.setAt {ds : List D} {vs : List V} {d : D} {v : V} {j : Nat} (r : RepL g T H ds vs) (q : Rep g T H d v) : RepL g T H (ds.set j d) (vs.set j v) := by
  induction j generalizing ds vs with
  | zero => cases r with
    | nil => exact .nil
    | cons _ s => exact .cons q s
  | succ j ih => cases r with
    | nil => exact .nil
    | cons a s => exact .cons a (ih s)
end
end L4
namespace L4
open PySem L2
section
variable {X : Cx} {g : G} {T T' : Tk} {H : Hp} {m : M} {Q : VK} {pos p apos : Pos} {e o : Expr} {es : List Expr} {k n : Nat} {x c nm : Str}
theorem Gd.blk {s : Shared} {H : Hp} {sc : Scope} {ev : Env} {fp : List Addr} (h : Gd k X) : Gd k (X.blk s H sc ev fp) := ⟨h.g, h.r⟩
theorem de_callB {id : String} {F : M → List D → Option D} {f : AF} (hc : CallD X (.builtin id) F) (hg : Gl X x) (hm : X.mg x = none) (hv : bootBuiltins x = some (.builtin id)) (ha : DA X (e :: es) f) (hn : x ≠ "__name__" := by decide) (hdb : (x == ("__debug__" : Str)) = false := by decide)
    (he : starEach (e :: es) X.env = (false, eval e X.env) :: starEach es X.env := by rfl) (hpl : (backTo pos (starEach es X.env)).any (·.1) = false := by rfl) : DE X (.Call (.Name x p) (e :: es) [] pos) (eCall F f) := by
  obtain ⟨r, h, q⟩ := hc.ex; obtain ⟨t, pa, ra⟩ := ha.ex
  exact ⟨_, pe_callB h hg hm hv pa hn hdb he hpl, rf_call q ra⟩
theorem de_callT {id : String} {F : M → List D → Option D} {f : AF} (hc : CallD X (.type id) F) (hg : Gl X x) (hm : X.mg x = none) (hv : bootBuiltins x = some (.type id)) (ha : DA X (e :: es) f) (hn : x ≠ "__name__" := by decide) (hdb : (x == ("__debug__" : Str)) = false := by decide)
    (he : starEach (e :: es) X.env = (false, eval e X.env) :: starEach es X.env := by rfl) (hpl : (backTo pos (starEach es X.env)).any (·.1) = false := by rfl) : DE X (.Call (.Name x p) (e :: es) [] pos) (eCall F f) := by
  obtain ⟨r, h, q⟩ := hc.ex; obtain ⟨t, pa, ra⟩ := ha.ex
  exact ⟨_, pe_callTy h hg hm hv pa hn hdb he hpl, rf_call q ra⟩
theorem orC {F : Value} {r q : List V → Hp → VK → Prop} (h1 : CallR X F r) (h2 : CallR X F q) : CallR X F (fun x H Q => r x H Q ∨ q x H Q) := by
  intro pins s σ H xs us Q I rx h
  rcases h with h | h
  · exact h1 pins s σ H xs us Q I rx h
  · exact h2 pins s σ H xs us Q I rx h
theorem RepL.one {d : D} {vs : List V} (r : RepL g T H [d] vs) : ∃ v, vs = [v] ∧ Rep g T H d v := by
  cases r with
  | cons r s => cases s; exact ⟨_, rfl, r⟩
theorem RepL.two {d e : D} {vs : List V} (r : RepL g T H [d, e] vs) : ∃ v w, vs = [v, w] ∧ Rep g T H d v ∧ Rep g T H e w := by
  cases r with
  | cons r s => obtain ⟨w, rfl, q⟩ := s.one; exact ⟨_, _, rfl, r, q⟩
def absD : M → List D → Option D
  | _, [.int i] => some (.int (if i < 0 then -i else i))
  | _, _ => none
theorem call_abs' : CallD X (.builtin "abs") absD := ⟨_, call_abs, fun T H m xs vs d hm r hf Q k => by
  unfold absD at hf; split at hf
  · cases hf; obtain ⟨v, rfl, q⟩ := r.one; cases q; exact ⟨_, rfl, k.now hm (.int _)⟩
  · cases hf⟩
def min2D : M → List D → Option D
  | _, [.int i, .int j] => some (.int (if j < i then j else i))
  | _, _ => none
def max2D : M → List D → Option D
  | _, [.int i, .int j] => some (.int (if j > i then j else i))
  | _, _ => none
def intD : M → List D → Option D
  | _, [.int i] => some (.int i)
  | _, [.bl b] => some (.int (if b then 1 else 0))
  | _, [.str a] => if a.length ≤ 640 then (PySem.intText? a).map .int else none
  | _, _ => none
theorem call_int' : CallD X (.type "int") intD := ⟨_, orC call_int1 call_int_str, fun T H m xs vs d hm r hf Q k => by
  unfold intD at hf; split at hf
  · cases hf; obtain ⟨v, rfl, q⟩ := r.one; cases q; exact .inl (.inl ⟨_, rfl, k.now hm (.int _)⟩)
  · cases hf; obtain ⟨v, rfl, q⟩ := r.one; cases q; exact .inl (.inr ⟨_, rfl, k.now hm (.int _)⟩)
  · obtain ⟨hz, hf⟩ := ite_some hf
    obtain ⟨n, hn, rfl⟩ := Option.map_eq_some_iff.mp hf
    obtain ⟨v, rfl, q⟩ := r.one; cases q; exact .inr ⟨_, n, rfl, hn, hz, k.now hm (.int _)⟩
  · cases hf⟩
def lenD : M → List D → Option D
  | _, [.tup ds] => some (.int ds.length)
  | _, [.str a] => if a.length ≤ sizeLine then some (.int a.length) else none
  | m, [x] => (lstR m x).map fun ds => .int ds.length
  | _, _ => none
theorem call_len' : CallD X (.builtin "len") lenD := ⟨_, call_len, fun T H m xs vs d hm r hf Q k => by
  unfold lenD at hf; split at hf
  · cases hf; obtain ⟨v, rfl, q⟩ := r.one
    obtain ⟨a, ws, rfl, hx, rl⟩ := tup_rep q
    exact ⟨_, _, rfl, .inr ⟨ws, hx, rl.length⟩, k.now hm (.int _)⟩
  · obtain ⟨hz, hf⟩ := ite_some hf
    cases hf; obtain ⟨v, rfl, q⟩ := r.one; cases q; exact ⟨_, _, rfl, ⟨hz, rfl⟩, k.now hm (.int _)⟩
  · obtain ⟨ds, h1, rfl⟩ := Option.map_eq_some_iff.mp hf
    obtain ⟨v, rfl, q⟩ := r.one
    obtain ⟨a, ws, rfl, hx, rl⟩ := lstR_rep hm q h1
    exact ⟨_, _, rfl, .inl ⟨ws, hx, rl.length⟩, k.now hm (.int _)⟩
  · cases hf⟩
def strD : M → List D → Option D
  | _, [.int i] => if i.natAbs.log2 < 1920 then some (.str (toString i)) else none
  | _, _ => none
def tupD : M → List D → Option D
  | _, [.tup ds] => some (.tup ds)
  | m, [x] => (lstR m x).map .tup
  | _, _ => none
theorem call_tup' : CallD X (.type "tuple") tupD := ⟨_, call_tuple_of, fun T H m xs vs d hm r hf Q k => by
  unfold tupD at hf; split at hf
  · cases hf; obtain ⟨v, rfl, q⟩ := r.one
    obtain ⟨a, ws, rfl, hx, rl⟩ := tup_rep q
    exact ⟨a, ws, rfl, .inr ⟨hx, k.now hm q⟩⟩
  · obtain ⟨ds, h1, rfl⟩ := Option.map_eq_some_iff.mp hf
    obtain ⟨v, rfl, q⟩ := r.one
    obtain ⟨a, ws, rfl, hx, rl⟩ := lstR_rep hm q h1
    exact ⟨a, ws, rfl, .inl ⟨hx, fun l hl => k.tup hm rl l hl⟩⟩
  · cases hf⟩
def lisD : M → List D → Option D
  | _, [.tup ds] => some (.lst ds)
  | m, [x] => (lstR m x).map .lst
  | _, _ => none
theorem de_ty {t : String} (hg : Gl X x) (hm : X.mg x = none) (hv : bootBuiltins x = some (.type t)) (hn : x ≠ "__name__" := by decide) (hd : (x == ("__debug__" : Str)) = false := by decide) : DE X (.Name x pos) (eC (.ty t)) :=
  ⟨_, pe_bltn (v := .ty t) hg hm hv rfl hn hd, rf_c fun _ _ => .ty t⟩
theorem de_glo (hg : Gl X x) (hm : X.mg x = some (.ref (He.ga X.K x))) (hd : (x == ("__debug__" : Str)) = false := by decide) : DE X (.Name x pos) (eC (.glo x)) :=
  ⟨_, pe_glob (v := .ref (He.ga X.K x)) hg hm rfl hd, rf_c fun _ _ => .glo x⟩
def eM1 (F : M → D → D → Option D) (a b : EF) : EF := fun ρ m => bd (a ρ m) fun x m1 => match x with
  | .str z => bd (b ρ m1) fun y m2 => pu (F m2 (.str z) y) m2
  | _ => none
def txts : List D → Option (List Str)
  | [] => some []
  | .str x :: ds => (txts ds).map (x :: ·)
  | _ => none
def seqD (m : M) : D → Option (List D)
  | .tup ds => some ds
  | y => lstR m y
def joinT (a : Str) (ys : List Str) : Str := ⟨(TL.joinL a.cps.toList (ys.map fun y => y.cps.toList)).toArray⟩
def joinS (a : Str) (ys : List Str) : Option D := if (ys.map (·.length)).sum + ys.length * a.length ≤ 16777216 then some (.str (joinT a ys)) else none
def joinD (m : M) (x y : D) : Option D := match x with
  | .str a => ((seqD m y).bind txts).bind (joinS a)
  | _ => none
def sPar (is : List Nat) (a : AF) : SF := fun ρ m => bd (a ρ m) fun xs m1 => if xs.length = is.length then some (.nx (setMany ρ is xs), m1) else none
theorem ds_par {i j : Nat} {x y : Str} {a b : Expr} {f : AF} {px py pt : Pos} {kt k2 pt2} (hc : X.calm = true) (hN : X.N.Nodup) (hi : X.N[i]? = some x) (hj : X.N[j]? = some y) (hij : i ≠ j)
    (hx : X.env.scope.names.lookup x = some .local) (hy : X.env.scope.names.lookup y = some .local) (ha : DA X [a, b] f)
    (hw : swappedStores [.Tuple [.Name x px, .Name y py] kt pt] (.Tuple [a, b] k2 pt2) X.env = pure (some [x, y]))
    (hs : swapsWithSole [.Tuple [.Name x px, .Name y py] kt pt] (.Tuple [a, b] k2 pt2) pos.line X.env = pure false := by rfl) : DS X (.Assign [.Tuple [.Name x px, .Name y py] kt pt] (.Tuple [a, b] k2 pt2) pos) (sPar [i, j] f) := by
  obtain ⟨t, pa, ra⟩ := ha.ex
  refine ⟨_, ps_par hc hN hi hj hij hx hy pa hw hs, fun T σ H ρ m d m' hm hs hf D k => ?_⟩
  obtain ⟨xs, m1, e1, hf⟩ := bd_some hf
  obtain ⟨hl, hf⟩ := ite_some hf
  cases hf
  refine ra T σ H ρ m xs _ hm hs e1 _ fun vs T1 H1 l1 hm1 r1 => ?_
  match xs, hl, r1 with
  | [d1, d2], _, r1 =>
    obtain ⟨v, w, rfl, q1, q2⟩ := r1.two
    exact ⟨v, w, rfl, k _ T1 H1 l1 hm1 (((hs.le l1).set q1).set q2)⟩
def eChain (f h : M → D → D → Option D) (a b c : EF) : EF := fun ρ m => bd (a ρ m) fun x m1 => bd (b ρ m1) fun y m2 => match f m2 x y with
  | some (.bl true) => bd (c ρ m2) fun z m3 => pu (h m3 y z) m3
  | some (.bl false) => some (.bl false, m2)
  | _ => none
def aStar (a : EF) (r : AF) : AF := fun ρ m => bd (a ρ m) fun x m1 => match seqD m1 x with
  | some ds => bd (r ρ m1) fun ys m2 => some (ds ++ ys, m2)
  | none => none
end
end L4
namespace L4
open PySem L2
section
variable {X : Cx} {g : G} {T T' : Tk} {H : Hp} {m : M} {Q : VK} {pos p apos : Pos} {e o : Expr} {es : List Expr} {k n : Nat} {x c nm : Str}
theorem dv (i : Nat) {x : Str} {pos : Pos} (hN : X.N[i]? = some x := by rfl) (hv : Vis X.env.scope x := by first | exact Or.inl rfl | exact Or.inr (Or.inl rfl) | exact Or.inr (Or.inr rfl)) (hd : (x == ("__debug__" : Str)) = false := by decide)
    (hcd : (x == ("__classdict__" : Str)) = false := by decide) : DE X (.Name x pos) (eVar i) := de_var hN hv hd hcd
def big : Nat := 1000000
def sAug (i : Nat) (f : M → D → D → Option D) (a : EF) : SF := fun ρ m => match ρ.getD i none with
  | some x => bd (a ρ m) fun y m1 => bd (pu (f m1 x y) m1) fun z m2 => some (.nx (ρ.set i (some z)), m2)
  | none => none
end
end L4
namespace L4
open PySem L2
mutual
def eqK : D → D → Bool
  | .non, .non => true
  | .bl a, .bl b => a == b
  | .bl a, .int i => (if a then 1 else 0) == i
  | .int i, .bl a => i == (if a then 1 else 0)
  | .int i, .int j => i == j
  | .str x, .str y => decide (x = y)
  | .tup a, .tup b => eqKs a b
  | _, _ => false
def eqKs : List D → List D → Bool
  | [], [] => true
  | a :: as, b :: bs => eqK a b && eqKs as bs
  | _, _ => false
end
theorem nks_cons {d : D} {ds : List D} {x : List NestedKey} (h : nks (d :: ds) = some x) : ∃ k ks, nk d = some k ∧ nks ds = some ks ∧ x = k :: ks := by
  rw [nks] at h
  cases h1 : nk d with
  | none => rw [h1] at h; cases h
  | some k => cases h2 : nks ds with
    | none => rw [h1, h2] at h; cases h
    | some ks => rw [h1, h2] at h; cases h; exact ⟨k, ks, rfl, rfl, rfl⟩
theorem dec_num {a b : Int} : decide (NestedKey.num a = .num b) = (a == b) := by
  by_cases h : a = b
  · subst h; simp
  · rw [decide_eq_false (fun z => h (by injection z)), beq_eq_false_iff_ne.mpr h]
mutual
theorem eqK_nk : ∀ (a b : D) (x y : NestedKey), nk a = some x → nk b = some y → eqK a b = decide (x = y)
  | .non, b, x, y, h, h2 => by rw [nk] at h; cases h; cases b <;> rw [nk] at h2 <;> first | (cases h2; done) | (cases h2; rfl) | (obtain ⟨z, _, rfl⟩ := Option.map_eq_some_iff.mp h2; rfl)
  | .bl p, b, x, y, h, h2 => by
    rw [nk] at h; cases h
    cases b with
    | bl q => rw [nk] at h2; cases h2; rw [dec_num, eqK]; cases p <;> cases q <;> rfl
    | int j => rw [nk] at h2; cases h2; rw [dec_num, eqK]
    | non => rw [nk] at h2; cases h2; rfl
    | str z => rw [nk] at h2; cases h2; rfl
    | tup z => rw [nk] at h2; obtain ⟨w, _, rfl⟩ := Option.map_eq_some_iff.mp h2; rfl
    | _ => rw [nk] at h2; cases h2
  | .int p, b, x, y, h, h2 => by
    rw [nk] at h; cases h
    cases b with
    | bl q => rw [nk] at h2; cases h2; rw [dec_num, eqK]
    | int j => rw [nk] at h2; cases h2; rw [dec_num, eqK]
    | non => rw [nk] at h2; cases h2; rfl
    | str z => rw [nk] at h2; cases h2; rfl
    | tup z => rw [nk] at h2; obtain ⟨w, _, rfl⟩ := Option.map_eq_some_iff.mp h2; rfl
    | _ => rw [nk] at h2; cases h2
  | .str p, b, x, y, h, h2 => by
    rw [nk] at h; cases h
    cases b with
    | bl q => rw [nk] at h2; cases h2; rfl
    | int j => rw [nk] at h2; cases h2; rfl
    | non => rw [nk] at h2; cases h2; rfl
    | str z =>
      rw [nk] at h2; cases h2; rw [eqK]
      by_cases e : p = z
      · subst e; simp
      · rw [decide_eq_false e, decide_eq_false (fun q => e (by injection q))]
    | tup z => rw [nk] at h2; obtain ⟨w, _, rfl⟩ := Option.map_eq_some_iff.mp h2; rfl
    | _ => rw [nk] at h2; cases h2
  | .tup p, b, x, y, h, h2 => by
    rw [nk] at h
    obtain ⟨w, hw, rfl⟩ := Option.map_eq_some_iff.mp h
    cases b with
    | bl q => rw [nk] at h2; cases h2; rfl
    | int j => rw [nk] at h2; cases h2; rfl
    | non => rw [nk] at h2; cases h2; rfl
    | str z => rw [nk] at h2; cases h2; rfl
    | tup z =>
      rw [nk] at h2
      obtain ⟨u, hu, rfl⟩ := Option.map_eq_some_iff.mp h2
      rw [eqK, eqKs_nk p z w u hw hu]
      by_cases e : w = u
      · subst e; simp
      · rw [decide_eq_false e, decide_eq_false (fun q => e (by injection q))]
    | _ => rw [nk] at h2; cases h2
  | .lst _, _, _, _, h, _ => by rw [nk] at h; cases h
  | .scr _, _, _, _, h, _ => by rw [nk] at h; cases h
  | .dic _ _, _, _, _, h, _ => by rw [nk] at h; cases h
  | .obj _ _ _, _, _, _, h, _ => by rw [nk] at h; cases h
  | .ref _, _, _, _, h, _ => by rw [nk] at h; cases h
  | .glo _, _, _, _, h, _ => by rw [nk] at h; cases h
  | .ty _, _, _, _, h, _ => by rw [nk] at h; cases h
  | .tab _, _, _, _, h, _ => by rw [nk] at h; cases h
  | .exn _ _ _, _, _, _, h, _ => by rw [nk] at h; cases h
  | .ptp _, _, _, _, h, _ => by rw [nk] at h; cases h
theorem eqKs_nk : ∀ (a b : List D) (x y : List NestedKey), nks a = some x → nks b = some y → eqKs a b = decide (x = y)
  | [], b, x, y, h, h2 => by
    rw [nks] at h; cases h
    cases b with
    | nil => rw [nks] at h2; cases h2; rfl
    | cons d ds => obtain ⟨k, ks, _, _, rfl⟩ := nks_cons h2; rfl
  | d :: ds, b, x, y, h, h2 => by
    obtain ⟨k, ks, h3, h4, rfl⟩ := nks_cons h
    cases b with
    | nil => rw [nks] at h2; cases h2; rfl
    | cons e es =>
      obtain ⟨l, lt, h5, h6, rfl⟩ := nks_cons h2
      rw [eqKs, eqK_nk d e k l h3 h5, eqKs_nk ds es ks lt h4 h6]
      by_cases e1 : k = l
      · by_cases e2 : ks = lt
        · rw [decide_eq_true e1, decide_eq_true e2, decide_eq_true (by rw [e1, e2])]; rfl
        · rw [decide_eq_false e2, decide_eq_false (fun q => e2 (List.cons.inj q).2)]; simp
      · rw [decide_eq_false e1, decide_eq_false (fun q => e1 (List.cons.inj q).1)]; simp
end
theorem nkT_nk {d : D} {k : NestedKey} (h : nkT d = some k) : nk d = some k ∧ k.depth ≤ 8 := by
  unfold nkT at h
  split at h
  · split at h
    · next h1 =>
      obtain ⟨hd, h⟩ := ite_some h
      cases h
      exact ⟨by rw [nk, h1]; rfl, hd⟩
    · cases h
  · cases h
def dHas (ks : List D) (k : D) : Bool := ks.any fun a => eqK a k
def dGet : List D → List D → D → Option D
  | a :: ks, b :: vs, k => if eqK a k then some b else dGet ks vs k
  | _, _, _ => none
def dRep : List D → List D → D → D → List D
  | a :: ks, b :: vs, k, v => (if eqK a k then v else b) :: dRep ks vs k v
  | _, _, _, _ => []
def dPutK (ks : List D) (k : D) : List D := if dHas ks k then ks else ks ++ [k]
def dPutV (ks vs : List D) (k v : D) : List D := if dHas ks k then dRep ks vs k v else vs ++ [v]
def isFlat : D → Bool
  | .int _ => true
  | .str _ => true
  | _ => false
section
variable {X : Cx} {g : G} {T T' : Tk} {H : Hp} {m : M} {Q : VK} {pos p apos : Pos} {e o : Expr} {es : List Expr} {k n : Nat} {x c nm : Str}
def keyD : Key → D
  | .inl i => .int i
  | .inr x => .str x
theorem rep_key {d : D} {κ : Key} (r : Rep g T H d (kV κ)) : d = keyD κ := by
  cases κ with
  | inl i => cases r; rfl
  | inr i => cases r; rfl
theorem repL_keys : ∀ {ks : List D} {kvs : List (Key × V)}, RepL g T H ks (kvs.map fun p => kV p.1) → ks = kvs.map fun p => keyD p.1
  | [], [], _ => rfl
  | _ :: _, [], r => by cases r
  | [], _ :: _, r => by cases r
  | d :: ks, p :: kvs, r => by
    cases r with
    | cons a s => rw [rep_key a, repL_keys s]; rfl
theorem keyD_rep {κ : Key} : Rep g T H (keyD κ) (kV κ) := by
  cases κ with
  | inl i => exact .int i
  | inr i => exact .str i
theorem eqK_key (a b : Key) : eqK (keyD a) (keyD b) = decide (a = b) := by
  cases a with
  | inl i => cases b with
    | inl j => show eqK (.int i) (.int j) = _; rw [eqK, key_ll]
    | inr j => show eqK (.int i) (.str j) = _; rw [key_lr]; rfl
  | inr i => cases b with
    | inl j => show eqK (.str i) (.int j) = _; rw [key_rl]; rfl
    | inr j => show eqK (.str i) (.str j) = _; rw [eqK, key_rr]
theorem flat_get {κ : Key} : ∀ {kvs : List (Key × V)} {vs : List D}, RepL g T H vs (kvs.map Prod.snd) → (∀ d, dGet (kvs.map fun p => keyD p.1) vs (keyD κ) = some d → ∃ v, valV kvs κ = some v ∧ Rep g T H d v) ∧ (valV kvs κ).isSome = dHas (kvs.map fun p => keyD p.1) (keyD κ)
  | [], _, r => by
    cases r
    exact ⟨fun d h => (by cases h), rfl⟩
  | p :: kvs, _, r => by
    cases r with
    | @cons d v ds vs a s =>
      obtain ⟨h1, h2⟩ := flat_get (κ := κ) s
      have ek := eqK_key p.1 κ
      by_cases e : p.1 = κ
      · rw [decide_eq_true e] at ek
        refine ⟨fun d' h => ?_, by rw [valV_pos e]; simp [dHas, ek]⟩
        simp only [List.map_cons, dGet, ek, if_true] at h
        cases h
        exact ⟨p.2, valV_pos e, a⟩
      · rw [decide_eq_false e] at ek
        refine ⟨fun d' h => ?_, by rw [valV_neg e, h2]; simp [dHas, ek]⟩
        simp only [List.map_cons, dGet, ek] at h
        rw [valV_neg e]
        exact h1 d' h
theorem flat_rep {κ : Key} {v : V} {d : D} (rv : Rep g T H d v) : ∀ {kvs : List (Key × V)} {vs : List D}, RepL g T H vs (kvs.map Prod.snd) → RepL g T H (dRep (kvs.map fun p => keyD p.1) vs (keyD κ) d) ((kvs.map fun kv => if kv.1 = κ then (kv.1, v) else kv).map Prod.snd) ∧ (kvs.map fun kv => if kv.1 = κ then (kv.1, v) else kv).map Prod.fst = kvs.map Prod.fst
  | [], _, r => by cases r; exact ⟨.nil, rfl⟩
  | p :: kvs, _, r => by
    cases r with
    | cons a s =>
      obtain ⟨h1, h2⟩ := flat_rep (κ := κ) rv s
      have ek := eqK_key p.1 κ
      by_cases e : p.1 = κ
      · rw [decide_eq_true e] at ek
        simp only [List.map_cons, dRep, ek, if_true, if_pos e, h2]
        exact ⟨.cons rv h1, trivial⟩
      · rw [decide_eq_false e] at ek
        simp only [List.map_cons, dRep, ek, if_neg e, h2]
        exact ⟨.cons a h1, trivial⟩
theorem flat_put {κ : Key} {v : V} {d : D} {kvs : List (Key × V)} {ks vs : List D} (rk : RepL g T H ks (kvs.map fun p => kV p.1)) (rs : RepL g T H vs (kvs.map Prod.snd)) (rv : Rep g T H d v) :
    RepL g T H (dPutK ks (keyD κ)) ((putK kvs κ v).map fun p => kV p.1) ∧ RepL g T H (dPutV ks vs (keyD κ) d) ((putK kvs κ v).map Prod.snd) := by
  have ek := repL_keys rk
  have hs := (flat_get (κ := κ) rs).2
  have hany := valV_any κ kvs
  unfold dPutK dPutV putK
  rw [hany, hs, ← ek]
  cases hh : dHas ks (keyD κ) with
  | true =>
    simp only [if_true]
    obtain ⟨h1, h2⟩ := flat_rep (κ := κ) rv rs
    rw [← ek] at h1
    refine ⟨?_, h1⟩
    have : (kvs.map fun kv => if kv.1 = κ then (kv.1, v) else kv).map (fun p => kV p.1) = kvs.map fun p => kV p.1 := by
      have := congrArg (List.map kV) h2
      simpa [List.map_map, Function.comp_def] using this
    rw [this]
    exact rk
  | false =>
    simp only [Bool.false_eq_true, if_false, List.map_append, List.map_cons, List.map_nil]
    exact ⟨rk.append (.cons keyD_rep .nil), rs.append (.cons rv .nil)⟩
end
end L4
namespace L4
open PySem PySem.Spec PyProof.Rows L2
abbrev NV := List (NestedKey × Addr × V)
/-- the tuple at b is the key k -/
def NkAt (X : Cx) (H : Hp) (b : Addr) (k : NestedKey) : Prop := ∀ pins σ s, Inv X pins σ H s → (nestedKind X.prog X.w).is s.heap k b
section
variable {X : Cx} {T T' : Tk} {H : Hp} {m : M} {Q : VK} {pos p apos : Pos} {e o : Expr} {es : List Expr} {n : Nat} {x c nm : Str}
mutual
theorem nested_is {pins : List (Addr × Obj)} {σ : L2.St} {s : Shared} (I : Inv X pins σ H s) : ∀ (d : D) {v : V} {u : Value} {k : NestedKey}, nk d = some k → Rep (gx X) T H d v → RelV v u → NestedIs s.heap k u
  | .non, _, _, _, h, r, q => by rw [nk] at h; cases h; cases r; cases q; exact .none
  | .bl b, _, _, _, h, r, q => by rw [nk] at h; cases h; cases r; cases q; exact .bool rfl
  | .int i, _, _, _, h, r, q => by rw [nk] at h; cases h; cases r; obtain ⟨t, rfl⟩ := q; exact .int i t
  | .str i, _, _, _, h, r, q => by rw [nk] at h; cases h; cases r; obtain ⟨t, rfl⟩ := q; exact .text i t
  | .tup ds, _, _, _, h, r, q => by
    rw [nk] at h
    obtain ⟨ks, h1, rfl⟩ := Option.map_eq_some_iff.mp h
    cases r with
    | tup f r =>
      cases q
      obtain ⟨its, rv, ⟨ob, h2, h3, n, h4⟩, _⟩ := I.tuple f.sq
      exact .tup h2 h3 h4 (by simpa using nested_all I ds h1 r rv)
  | .lst _, _, _, _, h, _, _ => by rw [nk] at h; cases h
  | .scr _, _, _, _, h, _, _ => by rw [nk] at h; cases h
  | .dic _ _, _, _, _, h, _, _ => by rw [nk] at h; cases h
  | .obj _ _ _, _, _, _, h, _, _ => by rw [nk] at h; cases h
  | .ref _, _, _, _, h, _, _ => by rw [nk] at h; cases h
  | .glo _, _, _, _, h, _, _ => by rw [nk] at h; cases h
  | .ty _, _, _, _, h, _, _ => by rw [nk] at h; cases h
  | .tab _, _, _, _, h, _, _ => by rw [nk] at h; cases h
  | .exn _ _ _, _, _, _, h, _, _ => by rw [nk] at h; cases h
  | .ptp _, _, _, _, h, _, _ => by rw [nk] at h; cases h
theorem nested_all {pins : List (Addr × Obj)} {σ : L2.St} {s : Shared} (I : Inv X pins σ H s) : ∀ (ds : List D) {vs : List V} {us : List Value} {ks : List NestedKey}, nks ds = some ks → RepL (gx X) T H ds vs → Vals vs us → NestedAll s.heap ks us
  | [], _, _, _, h, r, q => by rw [nks] at h; cases h; cases r; cases q; exact .nil
  | d :: ds, _, _, _, h, r, q => by
    obtain ⟨k, ks, h1, h2, rfl⟩ := nks_cons h
    cases r with
    | cons a s => cases q with
      | cons b t => exact .cons (nested_is I d h1 a b) (nested_all I ds h2 s t)
end
theorem nkAt {d : D} {b : Addr} {k : NestedKey} (h : nkT d = some k) (r : Rep (gx X) T H d (.ref b)) : NkAt X H b k := fun pins σ s I => by
  obtain ⟨h1, h2⟩ := nkT_nk h
  exact ⟨nested_is I d h1 r rfl, h2⟩
theorem nkAts : ∀ {ks : List D} {kvs : NV}, ks.map nkT = kvs.map (fun p => some p.1) → RepL (gx X) T H ks (kvs.map fun p => .ref p.2.1) → ∀ p ∈ kvs, NkAt X H p.2.1 p.1
  | [], [], _, _, p, hp => by cases hp
  | _ :: _, [], h, _, _, hp => by cases hp
  | [], _ :: _, h, _, _, _ => by cases h
  | d :: ks, q :: kvs, h, r, p, hp => by
    simp only [List.map_cons, List.cons.injEq] at h
    cases r with
    | cons a s =>
      rcases List.mem_cons.mp hp with rfl | hp
      · exact nkAt h.1 a
      · exact nkAts h.2 s p hp
def NDict (X : Cx) (H : Hp) (a : Addr) (kvs : NV) : Prop := Rd H a (dnO (gx X) a kvs) ∨ (kvs = [] ∧ Rd H a (.dK []))
/-- the dict in the heap -/
theorem dn_rd0 {pins : List (Addr × Obj)} {σ : L2.St} {s : Shared} {a : Addr} {kvs : NV} (I : Inv X pins σ H s) (h : Rd H a (dnO (gx X) a kvs)) (hk : ∀ p ∈ kvs, NkAt X H p.2.1 p.1) :
    kvs.length ≤ sizeLine ∧ (a == sysModules) = false ∧ ∃ xs : List (NestedKey × Addr × Value), Paired (fun (p : NestedKey × Addr × V) (q : NestedKey × Addr × Value) => p.1 = q.1 ∧ p.2.1 = q.2.1 ∧ RelV p.2.2 q.2.2) kvs xs ∧ s.heap.DictOfH (nestedKind X.prog X.w) a xs := by
  obtain ⟨⟨z, hd, xs, pr, ob, es, ep, h1, h2, h3, h4, h5⟩, _⟩ := h.ok I.hok
  refine ⟨z, hd, xs, pr, ob, es, ep, h1, h2, h3, h4, ?_, h5⟩
  have all : ∀ {l : NV} {r : List (NestedKey × Addr × Value)}, Paired (fun (p : NestedKey × Addr × V) (q : NestedKey × Addr × Value) => p.1 = q.1 ∧ p.2.1 = q.2.1 ∧ RelV p.2.2 q.2.2) l r → (∀ p ∈ l, NkAt X H p.2.1 p.1) → ∀ y ∈ r, (nestedKind X.prog X.w).is s.heap y.1 y.2.1 := by
    intro l r q
    induction q with
    | nil => intro _ y hy; cases hy
    | @cons p q ps qs hq t ih =>
      intro hl y hy
      rcases List.mem_cons.mp hy with rfl | hy
      · rw [← hq.1, ← hq.2.1]
        exact hl p (List.mem_cons_self ..) pins σ s I
      · exact ih (fun p hp => hl p (List.mem_cons_of_mem _ hp)) y hy
  exact all pr hk
theorem dn_rd {pins : List (Addr × Obj)} {σ : L2.St} {s : Shared} {a : Addr} {kvs : NV} (I : Inv X pins σ H s) (h : NDict X H a kvs) (hk : ∀ p ∈ kvs, NkAt X H p.2.1 p.1) :
    kvs.length ≤ sizeLine ∧ (a == sysModules) = false ∧ ∃ xs : List (NestedKey × Addr × Value), Paired (fun (p : NestedKey × Addr × V) (q : NestedKey × Addr × Value) => p.1 = q.1 ∧ p.2.1 = q.2.1 ∧ RelV p.2.2 q.2.2) kvs xs ∧ s.heap.DictOfH (nestedKind X.prog X.w) a xs := by
  rcases h with h | ⟨rfl, h⟩
  · exact dn_rd0 I h hk
  · obtain ⟨_, hd, vs, rel, dd⟩ := dk_rd I.hok h
    cases rel
    obtain ⟨ob, es, ep, h1, h2, h3, h4, h5, h6⟩ := dd
    have he : es.toList = [] := by
      cases hh : es.toList with
      | nil => rfl
      | cons a b => rw [hh] at h5; cases h5
    exact ⟨Nat.zero_le _, hd, [], .nil, ob, es, ep, h1, h2, h3, by rw [he]; rfl, fun x hx => (nomatch hx), by simp⟩
def nGet (kvs : NV) (k : NestedKey) : Option V := (kvs.find? fun p => decide (p.1 = k)).map fun p => p.2.2
def nHas (kvs : NV) (k : NestedKey) : Bool := kvs.any fun p => decide (p.1 = k)
def nPut (kvs : NV) (k : NestedKey) (b : Addr) (v : V) : NV := if nHas kvs k then kvs.map fun p => if p.1 = k then (p.1, p.2.1, v) else p else kvs ++ [(k, b, v)]
abbrev NP : NestedKey × Addr × V → NestedKey × Addr × Value → Prop := fun p q => p.1 = q.1 ∧ p.2.1 = q.2.1 ∧ RelV p.2.2 q.2.2
theorem np_at {k : NestedKey} : ∀ {kvs : NV} {xs : List (NestedKey × Addr × Value)}, Paired NP kvs xs → (atKey xs k).isSome = nHas kvs k ∧ ∀ v, nGet kvs k = some v → ∃ q, atKey xs k = some q ∧ RelV v q.2
  | _, _, .nil => ⟨rfl, fun v h => by cases h⟩
  | _, _, .cons (a := p) (b := q) hq t => by
    obtain ⟨h1, h2⟩ := np_at (k := k) t
    by_cases e : p.1 = k
    · have e2 : q.1 = k := by rw [← hq.1]; exact e
      refine ⟨by simp [atKey, nHas, List.find?_cons, e, e2], fun v h => ?_⟩
      simp only [nGet, List.find?_cons, e, decide_true, Option.map_some] at h
      cases h
      exact ⟨q.2, by simp [atKey, List.find?_cons, e2], hq.2.2⟩
    · have e2 : ¬ q.1 = k := by rw [← hq.1]; exact e
      refine ⟨?_, fun v h => ?_⟩
      · simp only [atKey, nHas, List.find?_cons, e2, decide_false, List.any_cons, e, Bool.false_or]
        exact h1
      · simp only [nGet, List.find?_cons, e, decide_false] at h
        obtain ⟨w, e3, r⟩ := h2 v h
        exact ⟨w, by simp only [atKey, List.find?_cons, e2, decide_false]; exact e3, r⟩
theorem np_old {k : NestedKey} {v : V} {u : Value} (rv : RelV v u) : ∀ {kvs : NV} {xs : List (NestedKey × Addr × Value)}, Paired NP kvs xs → Paired NP (kvs.map fun p => if p.1 = k then (p.1, p.2.1, v) else p) (xs.map (putAt k u))
  | _, _, .nil => .nil
  | _, _, .cons (a := p) (b := q) hq t => by
    refine .cons ?_ (np_old rv t)
    show NP (if p.1 = k then (p.1, p.2.1, v) else p) (if q.1 = k then (q.1, q.2.1, u) else q)
    by_cases e : p.1 = k
    · rw [if_pos e, if_pos (by rw [← hq.1]; exact e)]
      exact ⟨hq.1, hq.2.1, rv⟩
    · rw [if_neg e, if_neg (by rw [← hq.1]; exact e)]
      exact hq
theorem np_new {k : NestedKey} {b : Addr} {v : V} {u : Value} (rv : RelV v u) : ∀ {kvs : NV} {xs : List (NestedKey × Addr × Value)}, Paired NP kvs xs → Paired NP (kvs ++ [(k, b, v)]) (xs ++ [(k, b, u)])
  | _, _, .nil => .cons ⟨rfl, rfl, rv⟩ .nil
  | _, _, .cons hq t => .cons hq (np_new rv t)
theorem np_put {k : NestedKey} {b : Addr} {v : V} {u : Value} (rv : RelV v u) {kvs : NV} {xs : List (NestedKey × Addr × Value)} (h : Paired NP kvs xs) : Paired NP (nPut kvs k b v) (storedH xs k b u) := by
  unfold nPut storedH
  rw [(np_at (k := k) h).1]
  cases nHas kvs k with
  | true => exact np_old rv h
  | false => exact np_new rv h
theorem nPut_len {k : NestedKey} {b : Addr} {v : V} {kvs : NV} : (nPut kvs k b v).length ≤ kvs.length + 1 := by
  unfold nPut
  split <;> simp
theorem room8 {k : Nat} (gd : Gd k X) : (nestedKind X.prog X.w).room X.A.in1 := by
  have := gd.r.un
  show X.A.units + 1 + 8 < cLine
  omega
def rIxN (X : Cx) : R2 := fun x y H Q => ∃ a c kvs k v, x = .ref a ∧ y = .ref c ∧ NDict X H a kvs ∧ (∀ p ∈ kvs, NkAt X H p.2.1 p.1) ∧ NkAt X H c k ∧ nGet kvs k = some v ∧ Q v H
theorem ix_N {k : Nat} (gd : Gd k X) : IxR X (rIxN X) := by
  intro value slice pins s σ H x y v u Q I rx ry h hs
  obtain ⟨a, c, kvs, k, z, rfl, rfl, hr, hk, hc, hz, q⟩ := h
  cases rx
  cases ry
  obtain ⟨_, hd, xs, pr, hm⟩ := dn_rd I hr hk
  obtain ⟨w, hw, rw'⟩ := (np_at (k := k) pr).2 z hz
  exact PyProof.Rows.subscriptTail_builtinR (x := w.2) hm.typeIs PySem.F.slot_dict_getitem.lookup (wpAny_getItem_heap (room8 gd) (hc pins σ s I) hm hw ⟨rfl, z, H, I.tok _, rw', q⟩) hs
/-- d[k], flat keys -/
def rIxF : R2 := fun x y H Q => ∃ a kvs κ v, x = .ref a ∧ Rd H a (.dK kvs) ∧ y = kV κ ∧ valV kvs κ = some v ∧ Q v H
theorem ix_F : IxR X rIxF := by
  intro value slice pins s σ H x y v u Q I rx ry h hs
  obtain ⟨a, kvs, κ, z, rfl, hr, rfl, hz, q⟩ := h
  cases rx
  obtain ⟨_, hd, vs, rel, dd⟩ := dk_rd I.hok hr
  obtain ⟨w', hw, rw'⟩ := RelO.some_of (v := z) (o := valueAt vs κ) (by rw [← hz]; exact rel.val κ)
  exact subscriptTail_builtinR (x := w') dd.typeIs PySem.F.slot_dict_getitem.lookup (wpAny_getItem_of (kV_is ry) dd.mapOf hw ⟨rfl, z, H, I.tok _, rw', q⟩) hs
/-- d[k] = v -/
def rPutF : TSet := fun o i v H Q => ∃ a kvs κ, o = .ref a ∧ i = kV κ ∧ H a = some (.dK kvs) ∧ kvs.length < sizeLine ∧ Q (upd H a (.dK (putK kvs κ v)))
theorem set_F {k : Nat} (gd : Gd k X) : PSet X rPutF := by
  intro pins s σ H o i v ov iv u Q I ro ri rv h
  obtain ⟨a, kvs, κ, rfl, rfl, hr, hz, q⟩ := h
  cases ro
  have := gd.r.un
  exact d_setItem (by omega) I (DPut.k hr hz) ri rv fun s' I' => ⟨_, I', q⟩
def rPutN (X : Cx) : TSet := fun o i v H Q => ∃ a c kvs k, o = .ref a ∧ i = .ref c ∧ (H a = some (dnO (gx X) a kvs) ∨ (kvs = [] ∧ H a = some (.dK []))) ∧ (∀ p ∈ kvs, NkAt X H p.2.1 p.1) ∧ NkAt X H c k ∧ kvs.length < sizeLine ∧ Q (upd H a (dnO (gx X) a (nPut kvs k c v)))
theorem dn_ok {P : Program} {w : World} {K : PySem.W.Frag} {h : Heap} {a : Addr} {kvs : NV} {xs : List (NestedKey × Addr × Value)} {H' : Hp} (hz : kvs.length ≤ sizeLine) (hd : (a == sysModules) = false) (pr : Paired NP kvs xs) {ob : Obj} {es : Array DictEntry} {ep : Nat} (h1 : h.get? a = some ob) (h2 : ob.ExactDict) (h3 : ob.data = .dict es ep)
    (h4 : es.toList = xs.map (entryOfKey (nestedKind P w))) (h5 : (xs.map (·.1)).Nodup) : ObjOk P w H' h a (dnO ⟨P, w, K⟩ a kvs) := by
  refine ⟨⟨hz, hd, xs, pr, ob, es, ep, h1, h2, h3, h4, h5⟩, ⟨ob, h1⟩, ?_⟩
  rintro g1 g2 ⟨hz, hd, xs, pr, ob, es, ep, h1, h2, h3, h4, h5⟩ k
  exact ⟨hz, hd, xs, pr, ob, es, ep, k _ h1, h2, h3, h4, h5⟩
theorem set_N {k : Nat} (gd : Gd k X) : PSet X (rPutN X) := by
  intro pins s σ H o i v ov iv u Q I ro ri rv h
  obtain ⟨a, c, kvs, k, rfl, rfl, hr, hk, hc, hz, q⟩ := h
  cases ro
  cases ri
  have key : ∃ xs, (a == sysModules) = false ∧ Paired NP kvs xs ∧ s.heap.DictOfH (nestedKind X.prog X.w) a xs := by
    obtain ⟨_, hd, xs, pr, hm⟩ := dn_rd I (hr.elim (fun h => .inl (.inl h)) fun h => .inr ⟨h.1, .inl h.2⟩) hk
    exact ⟨xs, hd, pr, hm⟩
  obtain ⟨xs, hd, pr, hm⟩ := key
  have hl := Paired.length pr
  refine wpAny_setItem_heap (hsz := by omega) (room8 gd) (hc pins σ s I) hm fun h' dd' hs => ⟨_, ?_, q⟩
  obtain ⟨ob, es, ep, h1, h2, h3, h4, _, h5⟩ := dd'
  refine d_write I ?_ hs ⟨ob, h1⟩ (dn_ok (by have := nPut_len (k := k) (b := c) (v := v) (kvs := kvs); omega) hd (np_put rv pr) h1 h2 h3 h4 h5)
  rcases hr with hr | ⟨_, hr⟩ <;> rw [hr] <;> exact True.intro
end
end L4
namespace L4
open PySem PySem.Spec PyProof.Rows L2
section
variable {X : Cx} {g : G} {T T' : Tk} {H : Hp} {m : M} {Q : VK} {pos p apos : Pos} {e o : Expr} {es : List Expr} {n : Nat} {x c nm : Str}
def dicO : O → Option (List D × List D)
  | .dic ks vs => some (ks, vs)
  | _ => none
def dicOf (m : M) : D → Option (List D × List D)
  | .dic ks vs => some (ks, vs)
  | .ref n => (m[n]?).bind dicO
  | _ => none
/-- a dict, as it is read -/
inductive DicR (X : Cx) (T : Tk) (H : Hp) (a : Addr) (ks vs : List D) : Prop
  | flat {kvs} : Rd H a (.dK kvs) → RepL (gx X) T H ks (kvs.map fun p => kV p.1) → RepL (gx X) T H vs (kvs.map Prod.snd) → DicR X T H a ks vs
  | nest {kvs} : Rd H a (dnO (gx X) a kvs) → (ks.map nkT = kvs.map (fun p => some p.1) ∧ kvs ≠ []) → RepL (gx X) T H ks (kvs.map fun p => .ref p.2.1) → RepL (gx X) T H vs (kvs.map fun p => p.2.2) → DicR X T H a ks vs
theorem dic_rep {d : D} {v : V} {ks vs : List D} (hm : RepH (gx X) T H m) (r : Rep (gx X) T H d v) (h : dicOf m d = some (ks, vs)) : ∃ a, v = .ref a ∧ DicR X T H a ks vs := by
  cases r with
  | dicF n f r q => cases h; exact ⟨_, rfl, .flat f r q⟩
  | dicN n f e r q => cases h; exact ⟨_, rfl, .nest f e r q⟩
  | ref e =>
    obtain ⟨o, h1, h2⟩ := Option.bind_eq_some_iff.mp h
    cases hm.at_ _ _ _ e h1 with
    | dicF f r q => cases h2; exact ⟨_, rfl, .flat (.inl f) r q⟩
    | dicN f k r q => cases h2; exact ⟨_, rfl, .nest (.inl f) k r q⟩
    | _ => cases h2
  | _ => cases h
def headOk (ks : List D) (k : D) : Bool := match ks with
  | [] => isFlat k || (nkT k).isSome
  | a :: _ => if isFlat a then isFlat k else (nkT k).isSome
theorem flat_key {d : D} (h : isFlat d = true) : ∃ κ, d = keyD κ := by
  cases d with
  | int i => exact ⟨.inl i, rfl⟩
  | str i => exact ⟨.inr i, rfl⟩
  | _ => cases h
theorem flatOf_key (κ : Key) : isFlat (keyD κ) = true := by cases κ <;> rfl
theorem nk_notflat {d : D} {k : NestedKey} (h : nkT d = some k) : isFlat d = false := by
  cases d with
  | tup ds => rfl
  | _ => cases h
/-- a key and a dict: both flat, or both nested -/
theorem dic_cases {a : Addr} {ks vs : List D} {k : D} {v : V} (r : DicR X T H a ks vs) (hk : headOk ks k = true) (rk : Rep (gx X) T H k v) :
    (∃ kvs κ, Rd H a (.dK kvs) ∧ RepL (gx X) T H ks (kvs.map fun p => kV p.1) ∧ RepL (gx X) T H vs (kvs.map Prod.snd) ∧ k = keyD κ ∧ v = kV κ) ∨
    (∃ kvs b κ, NDict X H a kvs ∧ (ks.map nkT = kvs.map (fun p => some p.1)) ∧ RepL (gx X) T H ks (kvs.map fun p => .ref p.2.1) ∧ RepL (gx X) T H vs (kvs.map fun p => p.2.2) ∧ v = .ref b ∧ nkT k = some κ ∧ NkAt X H b κ ∧ (Rd H a (dnO (gx X) a kvs) ∨ kvs = [] ∧ Rd H a (.dK []))) := by
  have nested : ∀ κ, nkT k = some κ → ∃ b, v = .ref b ∧ NkAt X H b κ := by
    intro κ h
    cases k with
    | tup ds => cases rk with
      | tup f r => exact ⟨_, rfl, nkAt h (.tup f r)⟩
    | _ => cases h
  have flat : isFlat k = true → ∃ κ, k = keyD κ ∧ v = kV κ := by
    intro h
    obtain ⟨κ, rfl⟩ := flat_key h
    cases κ with
    | inl i => cases rk; exact ⟨.inl i, rfl, rfl⟩
    | inr i => cases rk; exact ⟨.inr i, rfl, rfl⟩
  cases r with
  | @flat kvs h r q =>
    by_cases hf : isFlat k = true
    · obtain ⟨κ, e1, e2⟩ := flat hf
      exact .inl ⟨kvs, κ, h, r, q, e1, e2⟩
    · cases kvs with
      | nil =>
        cases r
        cases q
        unfold headOk at hk
        simp only [Bool.not_eq_true] at hf
        rw [hf, Bool.false_or] at hk
        obtain ⟨κ, hκ⟩ := Option.isSome_iff_exists.mp hk
        obtain ⟨b, e1, e2⟩ := nested κ hκ
        exact .inr ⟨[], b, κ, .inr ⟨rfl, h⟩, rfl, .nil, .nil, e1, hκ, e2, .inr ⟨rfl, h⟩⟩
      | cons p kvs =>
        have := repL_keys r
        subst this
        unfold headOk at hk
        simp only [List.map_cons, flatOf_key, if_true] at hk
        exact absurd hk hf
  | @nest kvs h e r q =>
    cases kvs with
    | nil => exact absurd rfl e.2
    | cons p kvs =>
      cases r with
      | cons r1 r2 =>
        have e1 := e.1
        simp only [List.map_cons, List.cons.injEq] at e1
        simp only [headOk, nk_notflat e1.1, Bool.false_eq_true, if_false] at hk
        obtain ⟨κ, hκ⟩ := Option.isSome_iff_exists.mp hk
        obtain ⟨b, e2, e3⟩ := nested κ hκ
        exact .inr ⟨p :: kvs, b, κ, .inl h, e.1, .cons r1 r2, q, e2, hκ, e3, .inl h⟩
theorem nest_get {k : D} {κ : NestedKey} (hk : nkT k = some κ) : ∀ {kvs : NV} {ks vs : List D}, ks.map nkT = kvs.map (fun p => some p.1) → RepL g T H vs (kvs.map fun p => p.2.2) → (∀ d, dGet ks vs k = some d → ∃ v, nGet kvs κ = some v ∧ Rep g T H d v) ∧ nHas kvs κ = dHas ks k
  | [], [], _, _, r => by cases r; exact ⟨fun d h => (by cases h), rfl⟩
  | [], _ :: _, _, h, _ => by cases h
  | _ :: _, [], _, h, _ => by cases h
  | p :: kvs, a :: ks, _, h, r => by
    simp only [List.map_cons, List.cons.injEq] at h
    cases r with
    | cons r1 r2 =>
      obtain ⟨h1, h2⟩ := nest_get hk h.2 r2
      have ek : eqK a k = decide (p.1 = κ) := eqK_nk a k _ _ (nkT_nk h.1).1 (nkT_nk hk).1
      by_cases e : p.1 = κ
      · rw [decide_eq_true e] at ek
        refine ⟨fun d hd => ?_, by simp [nHas, dHas, ek, e]⟩
        simp only [dGet, ek, if_true] at hd
        cases hd
        exact ⟨p.2.2, by simp [nGet, List.find?_cons, e], r1⟩
      · rw [decide_eq_false e] at ek
        refine ⟨fun d hd => ?_, ?_⟩
        · simp only [dGet, ek] at hd
          obtain ⟨v, e1, q⟩ := h1 d hd
          exact ⟨v, by simp only [nGet, List.find?_cons, e, decide_false]; exact e1, q⟩
        · simp only [nHas, dHas, List.any_cons, ek, e, decide_false, Bool.false_or]
          exact h2
theorem nest_put {k d : D} {κ : NestedKey} {b : Addr} {v : V} (hk : nkT k = some κ) (rk : Rep g T H k (.ref b)) (rv : Rep g T H d v) {kvs : NV} {ks vs : List D} (h : ks.map nkT = kvs.map (fun p => some p.1)) (r : RepL g T H ks (kvs.map fun p => .ref p.2.1)) (q : RepL g T H vs (kvs.map fun p => p.2.2)) :
    (dPutK ks k).map nkT = (nPut kvs κ b v).map (fun p => some p.1) ∧ RepL g T H (dPutK ks k) ((nPut kvs κ b v).map fun p => .ref p.2.1) ∧ RepL g T H (dPutV ks vs k d) ((nPut kvs κ b v).map fun p => p.2.2) := by
  have hh := (nest_get hk h q).2
  unfold dPutK dPutV nPut
  rw [hh]
  cases dHas ks k with
  | false =>
    simp only [Bool.false_eq_true, if_false, List.map_append, List.map_cons, List.map_nil]
    exact ⟨by rw [h, hk], r.append (.cons rk .nil), q.append (.cons rv .nil)⟩
  | true =>
    simp only [if_true]
    have key : ∀ {kvs : NV} {ks vs : List D}, ks.map nkT = kvs.map (fun p => some p.1) → RepL g T H vs (kvs.map fun p => p.2.2) → (kvs.map fun p => if p.1 = κ then (p.1, p.2.1, v) else p).map (fun p => some p.1) = kvs.map (fun p => some p.1) ∧
        (kvs.map fun p => if p.1 = κ then (p.1, p.2.1, v) else p).map (fun p => V.ref p.2.1) = kvs.map (fun p => V.ref p.2.1) ∧ RepL g T H (dRep ks vs k d) ((kvs.map fun p => if p.1 = κ then (p.1, p.2.1, v) else p).map fun p => p.2.2) := by
      intro kvs
      induction kvs with
      | nil => intro ks vs h q; cases q; cases ks with
        | nil => exact ⟨rfl, rfl, .nil⟩
        | cons _ _ => cases h
      | cons p kvs ih =>
        intro ks vs h q
        cases ks with
        | nil => cases h
        | cons a ks =>
          simp only [List.map_cons, List.cons.injEq] at h
          cases q with
          | cons q1 q2 =>
            obtain ⟨h1, h2, h3⟩ := ih h.2 q2
            have ek : eqK a k = decide (p.1 = κ) := eqK_nk a k _ _ (nkT_nk h.1).1 (nkT_nk hk).1
            by_cases e : p.1 = κ
            · rw [decide_eq_true e] at ek
              simp only [List.map_cons, if_pos e, dRep, ek, if_true, h1, h2]
              exact ⟨trivial, trivial, .cons rv h3⟩
            · rw [decide_eq_false e] at ek
              simp only [List.map_cons, if_neg e, dRep, ek, h1, h2]
              exact ⟨trivial, trivial, .cons q1 h3⟩
    obtain ⟨h1, h2, h3⟩ := key h q
    exact ⟨by rw [h1]; exact h, by rw [h2]; exact r, h3⟩
def ixA (m : M) (x y : D) : Option D := match dicOf m x with
  | some (ks, vs) => if headOk ks y then dGet ks vs y else none
  | none => ixD m x y
theorem de_ixA {a b : Expr} {fa fb : EF} {k : Nat} (gd : Gd k X) (ha : DE X a fa) (hb : DE X b fb) (hs : PlainIx b := by exact fun _ _ => rfl) : DE X (.Subscript a b pos) (eOp ixA fa fb) := by
  obtain ⟨ta, pa, ra⟩ := ha.ex; obtain ⟨tb, pb, rb⟩ := hb.ex
  refine ⟨_, pe_ix (ixR_or (ixR_or ix_tup (ixR_or ix_str ix_list)) (ixR_or ix_F (ix_N gd))) pa pb hs, rf_op (fun T H m x y v u d hm rx ry hf Q k => ?_) ra rb⟩
  unfold ixA at hf
  split at hf
  · next ks vs hd =>
    obtain ⟨hk, hf⟩ := ite_some hf
    obtain ⟨a, rfl, dr⟩ := dic_rep hm rx hd
    rcases dic_cases dr hk ry with ⟨kvs, κ, h1, h2, h3, rfl, rfl⟩ | ⟨kvs, b, κ, h1, h2, h3, h4, rfl, h5, h6, _⟩
    · rw [repL_keys h2] at hf
      obtain ⟨w, e1, q⟩ := (flat_get h3).1 d hf
      exact .inr (.inl ⟨a, kvs, κ, w, rfl, h1, rfl, e1, k.now hm q⟩)
    · obtain ⟨w, e1, q⟩ := (nest_get h5 h2 h4).1 d hf
      exact .inr (.inr ⟨a, b, kvs, κ, w, rfl, rfl, h1, nkAts h2 h3, h6, e1, k.now hm q⟩)
  · left
    rcases ixD_some hf with ⟨ds, i, rfl, rfl, h⟩ | ⟨z, i, c, rfl, rfl, hz, h, rfl⟩ | ⟨ds, i, h1, rfl, h⟩
    · obtain ⟨p, vs, rfl, hx, r1⟩ := tup_rep rx
      cases ry
      obtain ⟨w, e, q⟩ := r1.atI h
      exact .inl ⟨p, vs, i, w, rfl, rfl, hx, e, k.now hm q⟩
    · cases rx; cases ry
      exact .inr (.inl ⟨z, i, c, rfl, rfl, hz, h, k.now hm (.str _)⟩)
    · obtain ⟨p, vs, rfl, hx, r1⟩ := lstR_rep hm rx h1
      cases ry
      obtain ⟨w, e, q⟩ := r1.atI h
      exact .inr (.inr ⟨p, vs, i, w, rfl, rfl, hx, e, k.now hm q⟩)
def orS (r q : TSet) : TSet := fun o i v H Q => r o i v H Q ∨ q o i v H Q
theorem set_or {r q : TSet} (h1 : PSet X r) (h2 : PSet X q) : PSet X (orS r q) := by
  intro pins s σ H o i v ov iv u Q I ro ri rv h
  rcases h with h | h
  · exact h1 pins s σ H o i v ov iv u Q I ro ri rv h
  · exact h2 pins s σ H o i v ov iv u Q I ro ri rv h
def setO (o : O) (y d : D) : Option O := match o, y with
  | .lst ds, .int k => (L2.ixN ds.length k).map fun j => .lst (ds.set j d)
  | .dic ks vs, y => if headOk ks y ∧ ks.length < sizeLine then some (.dic (dPutK ks y) (dPutV ks vs y d)) else none
  | _, _ => none
def setM (m : M) (x y d : D) : Option M := match x with
  | .ref n => ((m[n]?).bind fun o => setO o y d).map fun o => m.set n o
  | _ => none
def gSetA (o i : EF) : GF := fun d ρ m => bd (o ρ m) fun x m1 => bd (i ρ m1) fun y m2 => (setM m2 x y d).map fun m3 => (ρ, m3)
theorem dg_subA {i : Expr} {fo fi : EF} {k : Nat} (gd : Gd k X) (ho : DE X o fo) (hi : DE X i fi) (hx : ∀ v, assign (.Subscript o i pos) X.env v = (do
      let ov ← holding [v] (eval o X.env)
      let iv ← holding [v, ov] (eval i X.env)
      standAt pos
      holding [v, ov, iv] (setItem ov iv v)
      release [v, ov, iv] []) := by intro _; rfl) : DG X (.Subscript o i pos) (gSetA fo fi) := by
  obtain ⟨to, po, ro⟩ := ho.ex; obtain ⟨ti, pi, ri⟩ := hi.ex
  refine ⟨_, pg_sub po pi (set_or set_list (set_or (set_F gd) (set_N gd))) hx, fun T σ H ρ m d v ρ' m' hm hs r hf Q k => ?_⟩
  obtain ⟨x, m1, e1, hf1⟩ := bd_some hf
  obtain ⟨y, m2, e2, hf2⟩ := bd_some hf1
  clear hf hf1
  refine ro T σ H ρ m x m1 hm hs e1 _ fun u T1 H1 l1 hm1 r1 => ?_
  refine ri T1 σ H1 ρ m1 y m2 hm1 (hs.le l1) e2 _ fun w T2 H2 l2 hm2 r2 => ?_
  obtain ⟨m3, h3, h4⟩ := Option.map_eq_some_iff.mp hf2
  obtain ⟨rfl, rfl⟩ : ρ = ρ' ∧ m3 = m' := by injection h4 with a b; exact ⟨a, b⟩
  have r1' := r1.le l2
  have rd := r.le (l1.trans l2)
  have fin : ∀ H3, Le T2 H2 T2 H3 → RepH (gx X) T2 H3 m3 → Q σ H3 := fun H3 l hm3 => k σ T2 H3 (l1.trans (l2.trans l)) hm3 (hs.le (l1.trans (l2.trans l)))
  cases r1' with
  | @ref n a ea =>
    obtain ⟨ob', h5, h6⟩ := Option.map_eq_some_iff.mp h3
    obtain ⟨ob, h7, h8⟩ := Option.bind_eq_some_iff.mp h5
    subst h6
    have hrep := hm2.at_ _ _ _ ea h7
    cases ob with
    | lst ds =>
      cases hrep with
      | @lst _ vs hH rl =>
        cases r2 with
        | int kk =>
          obtain ⟨j, hj, rfl⟩ := Option.map_eq_some_iff.mp h8
          refine .inl ⟨a, vs, kk, j, rfl, rfl, hH, by rw [← rl.length]; exact hj, ?_⟩
          obtain ⟨l3, hm3⟩ := hm2.put (u := .lst (vs.set j v)) (o := .lst (ds.set j d)) ea fun l => .lst upd_same ((rl.le l).setAt (rd.le l))
          exact fin _ l3 hm3
        | _ => cases h8
    | dic ks vs =>
      have h8' : (if headOk ks y = true ∧ ks.length < sizeLine then some (O.dic (dPutK ks y) (dPutV ks vs y d)) else none) = some ob' := by
        cases y <;> exact h8
      obtain ⟨⟨hk, hz⟩, h9⟩ := ite_some h8'
      cases h9
      have dr : DicR X T2 H2 a ks vs := by
        cases hrep with
        | dicF f r q => exact .flat (.inl f) r q
        | dicN f k r q => exact .nest (.inl f) k r q
      have nofrz : ∀ u, Rd H2 a u → Mu u ∨ True → (∀ ob w, H2 a = some (.frz ob w) → False) → H2 a = some u := fun u h _ nf => by
        rcases h with h | ⟨ob, h⟩
        · exact h
        · exact (nf ob u h).elim
      have nf : ∀ ob w, H2 a = some (.frz ob w) → False := fun ob w h => by
        obtain ⟨u, e, q⟩ := hrep.has
        rw [h] at e
        cases e
        exact q
      clear h3
      rcases dic_cases dr hk r2 with ⟨kvs, κ, h1, h2, h3, rfl, rfl⟩ | ⟨kvs, b, κ, h1, h2, h3, h4, rfl, h5, h6, hor⟩
      · have hH := nofrz _ h1 (.inr trivial) nf
        refine .inr (.inl ⟨a, kvs, κ, rfl, rfl, hH, by have := h2.length; simp at this; omega, ?_⟩)
        obtain ⟨l3, hm3⟩ := hm2.put (u := .dK (putK kvs κ v)) (o := .dic (dPutK ks (keyD κ)) (dPutV ks vs (keyD κ) d)) ea fun l => by
          obtain ⟨z1, z2⟩ := flat_put (κ := κ) (h2.le l) (h3.le l) (rd.le l)
          exact .dicF upd_same z1 z2
        exact fin _ l3 hm3
      · refine .inr (.inr ⟨a, b, kvs, κ, rfl, rfl, hor.elim (fun h => .inl (nofrz _ h (.inr trivial) nf)) (fun h => .inr ⟨h.1, nofrz _ h.2 (.inr trivial) nf⟩), nkAts h2 h3, h6, by have := h3.length; simp at this; omega, ?_⟩)
        obtain ⟨l3, hm3⟩ := hm2.put (u := dnO (gx X) a (nPut kvs κ b v)) (o := .dic (dPutK ks y) (dPutV ks vs y d)) ea fun l => by
          obtain ⟨z1, z2, z3⟩ := nest_put h5 (r2.le l) (rd.le l) h2 (h3.le l) (h4.le l)
          refine .dicN upd_same ⟨z1, ?_⟩ z2 z3
          unfold nPut
          split
          · next hh => intro e; cases kvs with
            | nil => cases hh
            | cons _ _ => cases e
          · simp
        exact fin _ l3 hm3
    | ins c ns vs => cases y <;> cases h8
  | _ => cases h3
end
end L4
namespace L4
open PySem PySem.Spec PyProof.Rows L2
section
variable {X : Cx} {g : G} {T T' : Tk} {H : Hp} {m : M} {Q : VK} {pos p apos : Pos} {e o : Expr} {es : List Expr} {k n : Nat} {x c nm : Str}
theorem FnG.code {f : Addr} {fd : FuncData} {ps : List Str} {sp : Sp} {pins : List (Addr × Obj)} {σ : L2.St} {s : Shared} {us : List Value} {vs : List V} (F : FnG X.prog X.w X.K X.mg X.base CX0 k f fd ps sp) (hr : Gd k X) (hb : Binds X.K fd ps []) (I : Inv X pins σ H s) (r : Vals vs us) (h : sp vs H Q E0) :
    codeAny (model X.prog X.w) X.A (.call (.ref f) ⟨us, []⟩) (fun r s' => match r with | .ok (.ret v) => EP X pins σ Q v s' | .ok _ => False | .error e => X.xe e s') s := by
  have hl : us.length = ps.length := by rw [← r.length]; exact F.len _ _ _ _ h
  have b := hb s us I.kIn (by rw [List.append_nil]; exact hl)
  rw [List.append_nil] at b
  refine codeAny_mono (F.run X.A X.stack s H ⟨us, []⟩ us vs Q E0 hr.g hr.r I.env0 b r h) fun r s' hq => ?_
  match r, hq with
  | .error _, z => exact z.elim
  | .ok (.ret u), z => exact I.after z
/-- cls(*a, ..): a local that holds a class -/
def eNewPL (i : Nat) (c : Str) (F : List D → M → Option (D × M)) (a : AF) : EF := fun ρ m => match ρ.getD i none with
  | some (.glo c') => if c' = c then eCall (pureC (newP c F)) a ρ m else none
  | _ => none
def tblGet (tb : List (Str × D)) (y : D) : Option D := match y with
  | .str z => tb.lookup z
  | _ => none
structure Tbl (X : Cx) (x : Str) (tb : List (Str × D)) : Prop where
  ex : ∃ es n, KDict X.K X.w (He.ga X.K x) es n
  val : ∀ q ∈ tb, ∃ u v, PySem.W.nsIn X.K (He.ga X.K x) q.1 = some (some u) ∧ RelV v u ∧ ∀ T H, Rep (gx X) T H q.2 v
  no : ∀ z, tb.lookup z = none → PySem.W.nsIn X.K (He.ga X.K x) z = some none
theorem lookup_mem {tb : List (Str × D)} {z : Str} {d : D} (h : tb.lookup z = some d) : (z, d) ∈ tb := by
  induction tb with
  | nil => cases h
  | cons p tb ih =>
    simp only [List.lookup] at h
    split at h
    · next hz => cases h; rw [beq_iff_eq.mp hz]; exact List.mem_cons_self ..
    · exact List.mem_cons_of_mem _ (ih h)
def eTbl (tb : List (Str × D)) (a : EF) : EF := fun ρ m => bd (a ρ m) fun y m1 => pu (tblGet tb y) m1
def eTblNin (tb : List (Str × D)) (a : EF) : EF := fun ρ m => bd (a ρ m) fun y m1 => match y with
  | .str z => some (.bl (!(tb.lookup z).isSome), m1)
  | _ => none
theorem Tbl.ns {tb : List (Str × D)} (ht : Tbl X x tb) (z : Str) : ∃ r, PySem.W.nsIn X.K (He.ga X.K x) z = some r ∧ r.isSome = (tb.lookup z).isSome := by
  cases h : tb.lookup z with
  | none => exact ⟨none, ht.no z h, rfl⟩
  | some d =>
    obtain ⟨u, w, h1, _⟩ := ht.val (z, d) (lookup_mem h)
    exact ⟨some u, h1, rfl⟩
end
end L4
namespace L4
open PySem PySem.Spec PyProof.Rows L2
end L4
namespace L4
open PySem PySem.Spec PyProof.Rows L2
end L4
namespace L4
open PySem PySem.Spec PyProof.Rows L2
section
variable {X : Cx} {g : G} {T T' : Tk} {H : Hp} {m : M} {Q : VK} {pos p apos : Pos} {e o : Expr} {es : List Expr} {k n : Nat} {x c nm : Str}
def forRef (f : GF) (b : SF) (n : Nat) : Nat → Nat → SF
  | 0, _ => fun _ _ => none
  | k + 1, i => fun ρ m => match (m[n]?).bind lstO with
    | none => none
    | some ds => match ds[i]? with
      | none => some (.nx ρ, m)
      | some x => bd (f x ρ m) fun ρ1 m1 => bd (b ρ1 m1) fun r m2 => match r with
        | .nx ρ2 => forRef f b n k (i + 1) ρ2 m2
        | .ct ρ2 => forRef f b n k (i + 1) ρ2 m2
        | .bk ρ2 => some (.nx ρ2, m2)
        | .rt d => some (.rt d, m2)
def sForA (fuel : Nat) (a : EF) (f : GF) (b : SF) : SF := fun ρ m => bd (a ρ m) fun x m1 => match x with
  | .ref n => forRef f b n fuel 0 ρ m1
  | x => match items x with
    | some xs => forGo f b xs ρ m1
    | none => none
theorem ds_forA {tg : Expr} {body : List Stmt} {fi : EF} {fg : GF} {fb : SF} (fuel : Nat) (hp : PassesOwn (model X.prog X.w) X.A X.env X.xe) (hc : X.calm = true) (hi : DE X e fi) (hg : DG X tg fg) (hb : DSs X body fb)
    (hs : ∀ x, foldedSetIterable e X.env x = pure x := by intro _; rfl) : DS X (.For tg e body [] pos) (sForA fuel fi fg fb) := by
  obtain ⟨ti, pi, ri⟩ := hi.ex; obtain ⟨tg', pg, rg⟩ := hg.ex; obtain ⟨tb, pb, rb⟩ := hb.ex
  obtain ⟨_, _, rI⟩ := (di_any (tg := tg) hi).ex
  obtain ⟨t2, p2, r2⟩ := (ds_for (pos := pos) hp hc (di_any (tg := tg) hi) hg hb hs).ex
  refine ⟨fun D σ H => tFor (iAny X.K ti) tg' tb D σ H ∨ t2 D σ H, ⟨fun pins s σ H D I h => ?_⟩, fun T σ H ρ m r m' hm hs hf D k => ?_⟩
  · rcases h with h | h
    · exact (ps_for hp hc (pi_any pi) pg pb hs).run pins s σ H D I h
    · exact p2.run pins s σ H D I h
  · obtain ⟨x, m1, e1, hf1⟩ := bd_some hf
    clear hf
    by_cases hx : ∃ n, x = .ref n
    · obtain ⟨n, rfl⟩ := hx
      left
      refine ri T σ H ρ m _ m1 hm hs e1 _ fun v T0 H0 l0 hm0 r0 => ?_
      cases r0 with
      | @ref _ a ea =>
        cases fuel with
        | zero => cases hf1
        | succ fuel =>
          change forRef fg fb n (fuel + 1) 0 ρ m1 = some (r, m') at hf1
          have hf1' := hf1
          unfold forRef at hf1
          split at hf1
          · cases hf1
          · next ds hds =>
            obtain ⟨ob, h1, h2⟩ := Option.bind_eq_some_iff.mp hds
            have hro := hm0.at_ _ _ _ ea h1
            cases hro with
            | @lst _ vs hH rl =>
              cases h2
              refine .inl ⟨a, rfl, ⟨_, SqL.of hH⟩, ?_⟩
              refine ⟨fun i j σ1 H1 => ∃ T1 ρ1 m1, Le T0 H0 T1 H1 ∧ RepH (gx X) T1 H1 m1 ∧ RepS (gx X) T1 H1 σ1 ρ1 ∧ forRef fg fb n j i ρ1 m1 = some (r, m'), ⟨fuel + 1, T0, ρ, m1, .refl, hm0, hs.le l0, hf1'⟩, ?_⟩
              rintro i j σ1 H1 ⟨T1, ρ1, m2, l1, hm1, hs1, hfj⟩
              cases j with
              | zero => cases hfj
              | succ j =>
                unfold forRef at hfj
                split at hfj
                · cases hfj
                · next ds1 hd1 =>
                  obtain ⟨ob1, h3, h4⟩ := Option.bind_eq_some_iff.mp hd1
                  have ea1 := l1.get ea
                  cases hm1.at_ _ _ _ ea1 h3 with
                  | @lst _ vs1 hH1 rl1 =>
                    cases h4
                    split at hfj
                    · next hn =>
                      cases hfj
                      left
                      refine ⟨⟨vs1, SqL.of hH1, ?_⟩, k σ1 T1 H1 (l0.trans l1) hm1 hs1⟩
                      rw [← rl1.length]
                      exact List.getElem?_eq_none_iff.mp hn
                    · next y hy =>
                      right
                      obtain ⟨w, ew, qw⟩ := rl1.get hy
                      refine ⟨⟨vs1, w, SqL.of hH1, ew⟩, _, fun _ _ q => q, fun z H2 ⟨eH, hz⟩ => ?_⟩
                      subst eH
                      have : z = w := by
                        have := hz vs1 (SqL.of hH1)
                        rw [ew] at this
                        exact (Option.some.inj this).symm
                      subst this
                      obtain ⟨ρ3, m3, e3, hf3⟩ := bd_some hfj
                      refine rg T1 σ1 _ ρ1 m2 y z ρ3 m3 hm1 hs1 qw e3 _ fun σ3 T3 H3 l3 hm3 hs3 => ?_
                      obtain ⟨fl, m4, e4, hf4⟩ := bd_some hf3
                      refine rb T3 σ3 H3 ρ3 m3 fl m4 hm3 hs3 e4 _ ?_
                      have l13 := l1.trans l3
                      cases fl with
                      | nx ρ4 => exact fun σ4 T4 H4 l4 hm4 hs4 => ⟨j, Nat.lt_succ_self _, T4, ρ4, m4, l13.trans l4, hm4, hs4, hf4⟩
                      | ct ρ4 => exact fun σ4 T4 H4 l4 hm4 hs4 => ⟨j, Nat.lt_succ_self _, T4, ρ4, m4, l13.trans l4, hm4, hs4, hf4⟩
                      | bk ρ4 => cases hf4; exact KS.le (l0.trans l13) k
                      | rt d => cases hf4; exact KV.le (l0.trans l13) k
                  | _ => cases h4
            | _ => cases h2
    · right
      refine r2 T σ H ρ m r m' hm hs ?_ D k
      unfold sFor iIt
      rw [e1]
      simp only [bd_go]
      cases x with
      | ref n => exact absurd ⟨n, rfl⟩ hx
      | tup ds => exact hf1
      | lst ds => exact hf1
      | scr ds => exact hf1
      | str ds => exact hf1
      | _ => cases hf1
end
end L4
namespace L4
open PySem PySem.Spec PyProof.Rows L2
theorem fs_of {K : PySem.W.Frag} {H : Hp} {a : Addr} {xs : List V} {T : Tk} (hT : T.ν = []) (hO : Only H) (h : SqL K H a xs) : FS K T H a xs := by
  rcases h with h | h
  · rcases hO a with z | ⟨ob, ys, z⟩
    · rcases h with h | ⟨o, h⟩ <;> rw [z] at h <;> cases h
    · rcases h with h | ⟨o, h⟩
      · rw [z] at h; cases h
      · exact .inl ⟨by rw [hT]; exact List.not_mem_nil, o, h⟩
  · exact .inr (.inr h)
theorem repL_ints {g : G} {T : Tk} {H : Hp} (ns : List Int) : RepL g T H (ns.map D.int) (ns.map V.int) := by
  induction ns with
  | nil => exact .nil
  | cons n ns ih => exact .cons (.int n) ih
theorem law_sp {P : Program} {w : World} {K : PySem.W.Frag} {F : List D → Option D} {H : Hp} {a : Addr} {ns : List Int} (hF : F [.scr (ns.map D.int)] = some (.bl true)) (hO : Only H) (h : SqL K H a (ns.map V.int)) :
    spP ⟨P, w, K⟩ 1 F [.ref a] H (fun v _ => v = .bl true) fun _ _ _ => False :=
  ⟨rfl, [], [.scr (ns.map D.int)], .bl true, fun a h => (List.not_mem_nil h).elim, .cons (.scr (fs_of rfl hO h) (repL_ints ns)) .nil, hF, fun v H' _ r => by cases r; rfl⟩
theorem law_df {P : Program} {w : World} {K : PySem.W.Frag} {mg : Str → Option Value} {base : Heap} {k : Nat} {ps N : List Str} {st : Stmt} {b : SF} {x q : Str} {f : Addr} {fd : FuncData} (F : Fun K x q st f fd) (S : FnScope N ps (defScope st))
    (hbody : ∀ (f : Addr) (cdv : Value) (A : Around) (outer : List Env) (s : Shared) (H : Hp) (E : XK), Gd k (cxOf CX0 P w K mg base N q (defScope st) f cdv A outer s H E).nox →
      DSs (cxOf CX0 P w K mg base N q (defScope st) f cdv A outer s H E).nox (defBody st) b) : FnG P w K mg base CX0 (k + 1) f fd ps (spP ⟨P, w, K⟩ ps.length (runP ps.length N.length b)) :=
  fnG_all F S (fun vs H Q E h => h.1) (fun r => spP_run r) (hbody f)
theorem FnG.to3 {P : Program} {w : World} {K : PySem.W.Frag} {mg : Str → Option Value} {base : Heap} {k : Nat} {f : Addr} {fd : FuncData} {ps : List Str} {sp : Sp} (F : FnG P w K mg base CX0 k f fd ps sp) : L3.FnG P w K mg base k f fd ps sp := ⟨F.len, F.run⟩
theorem walkL {l : PySem.W.OpenLaw} {n k : Nat} {q : Program} {loose : List Str} {XP : (Str → Option Value) → Heap → Prop} {YP : World → Heap → Prop} {d : DefRec} {x : Str} {FL : List D → Option D}
    (hn : l.most = some n) (hn2 : n ≤ sizeLine) (hdf : d.params.defaults = []) (hr : Room k callerA) (hF : ∀ ns : List Int, ns.length ≤ n → FL [.scr (ns.map D.int)] = some (.bl true))
    (F : ∀ (w : World) (mg : Str → Option Value) (fa : Addr) (h : Heap), YP w h → h.Ns mainGlobals mg → mg d.name = some (.ref fa) →
      ∃ (K : PySem.W.Frag) (fd : FuncData), K.In h ∧ (∀ (s : Shared) (u : Value), BindsTo s fd ⟨[u], []⟩ [(x, u)]) ∧ ∀ base : Heap, K.In base → base.Ns mainGlobals mg → FnG l.prog w K mg base CX0 k fa fd [x] (spP ⟨l.prog, w, K⟩ 1 FL)) :
    PySem.W.WalkO q loose XP YP l.row.toRowW d [] (fun f vs => PySem.call f vs) := by
  refine Att.attach_call hn hdf ?_
  intro w s₀ s₁ mg mb fa o pm cd doc a vs ns G Y ho hd hcd hmg hobj hints hlen hg
  obtain ⟨K, fd, KX, hb, hX⟩ := F w mg fa _ Y G.T.g hmg
  exact L3.callG (n := n) KX G.T.g G.T.b G.T.builtins G.T.nolimit hg hobj hints (Nat.le_trans hlen hn2) hr (fun base h1 h2 => (hX base h1 h2).to3) hb fun H hO hS => law_sp (hF ns hlen) hO hS
end L4
namespace L4
open PySem
theorem ixA_lst {m : M} {ds : List D} {i : Int} : ixA m (.lst ds) (.int i) = L2.atI ds i := by
  simp [ixA, dicOf, ixD, lstR, lstOf]
theorem pow18 (m : M) : powD m (.int 10) (.int 18) = some (.int 1000000000000000000) := by
  have h : (match powD [] (.int 10) (.int 18) with | some (.int i) => decide (i = 1000000000000000000) | _ => false) = true := by decide +kernel
  have e : powD m (.int 10) (.int 18) = powD [] (.int 10) (.int 18) := rfl
  rw [e]
  revert h
  generalize powD [] (.int 10) (.int 18) = z
  intro h
  split at h
  · rw [of_decide_eq_true h]
  · cases h
/-- a loop by what holds at each turn -/
theorem forGo_inv {f : GF} {b : SF} (I : Nat → Ss → M → Prop) : ∀ (xs : List D) (i : Nat) (ρ : Ss) (m : M), I i ρ m →
    (∀ j x ρ m, xs[j]? = some x → I (i + j) ρ m → ∃ ρ1 m1, f x ρ m = some (ρ1, m1) ∧ ∃ r m2, b ρ1 m1 = some (r, m2) ∧ ∃ ρ2, (r = .nx ρ2 ∨ r = .ct ρ2) ∧ I (i + j + 1) ρ2 m2) →
    ∃ ρ' m', forGo f b xs ρ m = some (.nx ρ', m') ∧ I (i + xs.length) ρ' m'
  | [], i, ρ, m, h0, _ => ⟨ρ, m, rfl, h0⟩
  | x :: xs, i, ρ, m, h0, hs => by
    obtain ⟨ρ1, m1, e1, r, m2, e2, ρ2, hr, h2⟩ := hs 0 x ρ m rfl h0
    obtain ⟨ρ', m', e3, h3⟩ := forGo_inv I xs (i + 1) ρ2 m2 h2 fun j y ρ m hj hI => by
      have := hs (j + 1) y ρ m (by simpa using hj) (by rw [show i + (j + 1) = i + 1 + j by omega]; exact hI)
      rw [show i + (j + 1) + 1 = i + 1 + j + 1 by omega] at this
      exact this
    refine ⟨ρ', m', ?_, by rw [List.length_cons, show i + (xs.length + 1) = i + 1 + xs.length by omega]; exact h3⟩
    simp only [forGo, e1, bd_go, e2]
    rcases hr with rfl | rfl <;> exact e3
end L4
namespace L4
open PySem PySem.Spec PyProof.Rows L2
section
variable {X : Cx} {g : G} {T T' : Tk} {H : Hp} {m : M} {Q : VK} {pos p apos : Pos} {e o : Expr} {es : List Expr} {k n : Nat} {x c nm : Str}
/-- pairs, from the left -/
def pairsF : List (EF × EF) → Ss → M → Option (List (D × D) × M)
  | [], _, m => some ([], m)
  | (a, b) :: r, ρ, m => bd (a ρ m) fun x m1 => bd (b ρ m1) fun y m2 => bd (pairsF r ρ m2) fun ps m3 => some ((x, y) :: ps, m3)
def mergeD : List (D × D) → List D × List D → List D × List D
  | [], z => z
  | (x, y) :: ps, (ks, vs) => mergeD ps (dPutK ks x, dPutV ks vs x y)
def eDisp (nw : Bool) (ps : List (EF × EF)) : EF := fun ρ m => bd (pairsF ps ρ m) fun qs m1 =>
  if (qs.all fun q => isFlat q.1) && decide (qs.length ≤ 15) then some (bif nw then (.ref m1.length, m1 ++ [.dic (mergeD qs ([], [])).1 (mergeD qs ([], [])).2]) else (.dic (mergeD qs ([], [])).1 (mergeD qs ([], [])).2, m1)) else none
structure DPs (X : Cx) (pos : Pos) (keys : List (Option Expr)) (values : List Expr) (ps : List (EF × EF)) : Prop where
  ex : ∃ trs, PPs X pos keys values trs ∧ ∀ T σ H ρ m qs m', RepH (gx X) T H m → RepS (gx X) T H σ ρ → pairsF ps ρ m = some (qs, m') → ∀ Q : List (V × V) → Hp → Prop,
    (∀ vs T' H', Le T H T' H' → RepH (gx X) T' H' m' → RepL (gx X) T' H' (qs.map Prod.fst) (vs.map Prod.fst) → RepL (gx X) T' H' (qs.map Prod.snd) (vs.map Prod.snd) → Q vs H') → tPairs trs σ H Q
theorem dps_nil : DPs X pos [] [] [] := ⟨[], pps_nil, fun T σ H ρ m qs m' hm hs hf Q k => by cases hf; exact k [] T H .refl hm .nil .nil⟩
theorem dps_cons {a b : Expr} {ks : List (Option Expr)} {vs : List Expr} {fa fb : EF} {ps : List (EF × EF)} (ha : DE X a fa) (hb : DE X b fb) (hr : DPs X pos ks vs ps) : DPs X pos (some a :: ks) (b :: vs) ((fa, fb) :: ps) := by
  obtain ⟨ta, pa, ra⟩ := ha.ex; obtain ⟨tb, pb, rb⟩ := hb.ex; obtain ⟨tr, pr, rr⟩ := hr.ex
  refine ⟨_, pps_cons pa pb pr, fun T σ H ρ m qs m' hm hs hf Q k => ?_⟩
  obtain ⟨x, m1, e1, hf⟩ := bd_some hf
  obtain ⟨y, m2, e2, hf⟩ := bd_some hf
  obtain ⟨qs, m3, e3, hf⟩ := bd_some hf
  cases hf
  refine ra T σ H ρ m x m1 hm hs e1 _ fun v T1 H1 l1 hm1 r1 => ?_
  refine rb T1 σ H1 ρ m1 y m2 hm1 (hs.le l1) e2 _ fun u T2 H2 l2 hm2 r2 => ?_
  refine rr T2 σ H2 ρ m2 qs _ hm2 ((hs.le l1).le l2) e3 _ fun ws T3 H3 l3 hm3 r3 r4 => ?_
  exact k _ T3 H3 (l1.trans (l2.trans l3)) hm3 (.cons ((r1.le l2).le l3) r3) (.cons (r2.le l3) r4)
theorem flats {qs : List (D × D)} {vs : List (V × V)} (h : (qs.all fun q => isFlat q.1) = true) (r1 : RepL g T H (qs.map Prod.fst) (vs.map Prod.fst)) (r2 : RepL g T H (qs.map Prod.snd) (vs.map Prod.snd)) :
    ∃ kvs : List (Key × V), vs = kvs.map (fun kv => (kV kv.1, kv.2)) ∧ qs.map Prod.fst = kvs.map (fun kv => keyD kv.1) ∧ RepL g T H (qs.map Prod.snd) (kvs.map Prod.snd) := by
  induction qs generalizing vs with
  | nil => cases vs with
    | nil => exact ⟨[], rfl, rfl, .nil⟩
    | cons _ _ => cases r1
  | cons q qs ih => cases vs with
    | nil => cases r1
    | cons v vs =>
      obtain ⟨h1, h2⟩ := and2 h
      cases r1 with
      | cons a1 b1 =>
        cases r2 with
        | cons a2 b2 =>
          obtain ⟨kvs, rfl, e2, r3⟩ := ih h2 b1 b2
          obtain ⟨κ, hκ⟩ := flat_key h1
          rw [hκ] at a1
          have ev : v.1 = kV κ := by
            cases κ with
            | inl i => cases hv : v.1 <;> rw [hv] at a1 <;> cases a1; rfl
            | inr i => cases hv : v.1 <;> rw [hv] at a1 <;> cases a1; rfl
          refine ⟨(κ, v.2) :: kvs, ?_, ?_, .cons a2 r3⟩
          · rw [List.map_cons, ← ev]
          · rw [List.map_cons, List.map_cons, e2, hκ]
theorem merge_rep : ∀ {qs : List (D × D)} {kvs acc : List (Key × V)} {ks vs : List D}, qs.map Prod.fst = kvs.map (fun kv => keyD kv.1) → RepL g T H (qs.map Prod.snd) (kvs.map Prod.snd) → RepL g T H ks (acc.map fun p => kV p.1) → RepL g T H vs (acc.map Prod.snd) →
    RepL g T H (mergeD qs (ks, vs)).1 ((mergeK acc kvs).map fun p => kV p.1) ∧ RepL g T H (mergeD qs (ks, vs)).2 ((mergeK acc kvs).map Prod.snd)
  | [], [], _, _, _, _, _, r1, r2 => ⟨r1, r2⟩
  | [], _ :: _, _, _, _, e, _, _, _ => by cases e
  | _ :: _, [], _, _, _, e, _, _, _ => by cases e
  | (x, y) :: qs, (κ, v) :: kvs, acc, ks, vs, e, r, r1, r2 => by
    have e1 : x = keyD κ := (List.cons.inj e).1
    have e2 := (List.cons.inj e).2
    subst e1
    cases r with
    | cons ry rr =>
      obtain ⟨h1, h2⟩ := flat_put (κ := κ) r1 r2 ry
      exact merge_rep (qs := qs) (kvs := kvs) (acc := putK acc κ v) e2 rr h1 h2
theorem Made.newO {p : Addr} {u : HO} (hu : Mu u) (hm : RepH g T H m) (hp : H p = none) : RepH g (T.forb p) (upd H p u) m ∧ Le T H (T.forb p) (upd H p u) := by
  have l : Le T H (T.forb p) (upd H p u) := ⟨List.prefix_rfl, fun a v e _ _ => by rw [upd_ne (ne_of_none e hp)]; exact e, rfl, fun q _ v e => ⟨v, by rw [upd_ne (ne_of_none e hp)]; exact e⟩, fun a ha n => by
    rcases List.mem_cons.mp ha with rfl | z
    · exact hp
    · exact absurd z n, fun a ha n => absurd ha n, fun a h => List.mem_cons_of_mem _ h⟩
  refine ⟨⟨hm.len, hm.nd, fun a ha => ?_, fun n a o h1 h2 => (hm.at_ n a o h1 h2).le l ?_, fun q hq => ⟨(hm.tabs q hq).1, (hm.tabs q hq).2.le (fun v e => by rw [upd_ne (ne_of_none e hp)]; exact e) fun c v n e => ⟨fun z => ?_, by rw [upd_ne (ne_of_none e hp)]; exact e⟩⟩⟩, l⟩
  · rcases List.mem_cons.mp ha with rfl | z
    · exact ⟨_, upd_same, hu⟩
    · obtain ⟨v, e, q⟩ := hm.has a z
      exact ⟨v, by rw [upd_ne (ne_of_none e hp)]; exact e, q⟩
  · obtain ⟨v, e, _⟩ := (hm.at_ n a o h1 h2).has
    rw [upd_ne (ne_of_none e hp)]
  · rcases List.mem_cons.mp z with z | z
    · rw [z, hp] at e
      cases e
    · exact n z
/-- a new object that stood forbidden is done: as it is, or tracked -/
theorem forb_fin {p : Addr} {u0 u : HO} {H1 : Hp} {T1 : Tk} {m1 : M} (hp : H p = none) (hm : RepH g T H m) (l : Le (T.forb p) (upd H p u0) T1 H1) (hm1 : RepH g T1 H1 m1) (hu : Mu u) :
    ∃ T2 : Tk, Le T H T2 (upd H1 p u) ∧ RepH g T2 (upd H1 p u) m1 ∧ p ∉ T2.ν ∧ (∀ ds vs, RepL g T1 H1 ds vs → RepL g T2 (upd H1 p u) ds vs) ∧
      Le T H (T2.push p) (upd H1 p u) ∧ (∀ ds vs, RepL g T1 H1 ds vs → RepL g (T2.push p) (upd H1 p u) ds vs) ∧ ∀ o, RepO g (T2.push p) (upd H1 p u) p o → RepH g (T2.push p) (upd H1 p u) (m1 ++ [o]) := by
  have np : p ∉ T.ν := hm.nope hp
  have start : Le T H T (upd H p u0) := ⟨List.prefix_rfl, fun a v e _ _ => by rw [upd_ne (ne_of_none e hp)]; exact e, rfl, fun q _ v e => ⟨v, by rw [upd_ne (ne_of_none e hp)]; exact e⟩, fun a h n => absurd h n, fun a h n => absurd h n, fun a h => h⟩
  obtain ⟨T2, e1, e2, e3, l2, e4⟩ := start.unforb hp np ⟨_, upd_same⟩ l
  have etb : T1.τ = T.τ := l.tb
  have npτ : ∀ q ∈ T1.τ, q.1 ≠ p := fun q hq z => np (by rw [← z]; exact T.subτ q (by rw [← etb]; exact hq))
  have hpT1 : p ∈ T1.ν := (e3 p).mp (List.mem_cons_self ..)
  have npμ : p ∉ T1.μ := fun z => e2 (T2.sub p (by rw [e1]; exact z))
  have sub : ∀ a ∈ T2.ν, a ∈ T1.ν := fun a h => (e3 a).mp (List.mem_cons_of_mem _ h)
  have l3 : Le T H T2 (upd H1 p u) := ⟨l2.pre, fun a v e n t => by rw [upd_ne (ne_of_none e hp)]; exact l2.keep a v e n t, l2.tb, fun q hq v e => by rw [upd_ne (ne_of_none e hp)]; exact l2.tk q hq v e, l2.new, l2.newμ, l2.up⟩
  have hm2 : RepH g T1 (upd H1 p u) m1 := ⟨hm1.len, hm1.nd, fun a ha => by
    by_cases z : a = p
    · rw [z]; exact ⟨_, upd_same, hu⟩
    · obtain ⟨v, e, q⟩ := hm1.has a ha
      exact ⟨v, by rw [upd_ne z]; exact e, q⟩, fun n a o h1 h2 => (hm1.at_ n a o h1 h2).upF hpT1 (by rintro rfl; exact npμ (List.mem_of_getElem? h1)), fun q hq => ⟨(hm1.tabs q hq).1, (hm1.tabs q hq).2.le (fun v e => by rw [upd_ne (npτ q hq)]; exact e) fun c v n e => ⟨n, by rw [upd_ne (show c ≠ p from fun z => n (by rw [z]; exact hpT1))]; exact e⟩⟩⟩
  have sub3 : ∀ a ∈ (T2.push p).ν, a ∈ T1.ν := fun a h => (e3 a).mp (forb_push h)
  have pre3 : T1.μ <+: (T2.push p).μ := by
    show T1.μ <+: T2.μ ++ [p]
    rw [e1]; exact List.prefix_append _ _
  refine ⟨T2, l3, ⟨by rw [e1]; exact hm2.len, by rw [e1]; exact hm2.nd, fun a ha => hm2.has a (sub a ha), fun n a o h1 h2 => (hm2.at_ n a o (by rw [← e1]; exact h1) h2).wk ⟨e1, e4⟩ sub, fun q hq => by
    rw [e4] at hq
    exact ⟨by rw [e1]; exact (hm2.tabs q hq).1, (hm2.tabs q hq).2.le (fun v e => e) fun c v n e => ⟨fun z => n (sub c z), e⟩⟩⟩, e2, fun ds vs r => (r.upF hpT1 _).wk ⟨e1, e4⟩ sub _, l3.pushed hp, fun ds vs r => (r.upF hpT1 _).ext pre3 sub3 e4 _, fun o ho => ?_⟩
  exact trackIt hm2 hpT1 npμ (by show T2.μ ++ [p] = _; rw [e1]) sub3 ho e4
theorem push_ref {p : Addr} {T2 : Tk} {m1 : M} (hl : T2.μ.length = m1.length) : Rep g (T2.push p) H (.ref m1.length) (.ref p) := by
  refine .ref ?_
  show (T2.μ ++ [p])[m1.length]? = some p
  rw [← hl, List.getElem?_append_right (Nat.le_refl _)]
  simp
theorem de_disp {nw : Bool} {keys : List (Option Expr)} {values : List Expr} {ps : List (EF × EF)} (h : DPs X pos keys values ps) (hall : keys.all (·.isSome) = true := by rfl) (hl : keys.length = values.length := by rfl) (h0 : keys ≠ [] := by intro z; cases z)
    (h15 : keys.length ≤ 15 := by decide) : DE X (.Dict keys values pos) (eDisp nw ps) := by
  obtain ⟨trs, pp, rp⟩ := h.ex
  refine ⟨_, pe_disp pp hall hl h0 h15, fun T σ H ρ m d m' hm hs hf Q k p hp => ?_⟩
  obtain ⟨qs, m1, e1, hf⟩ := bd_some hf
  obtain ⟨hg, hf⟩ := ite_some hf
  have hf := Option.some.inj hf
  obtain ⟨hfl, hz⟩ := and2 hg
  have hz : qs.length ≤ 15 := of_decide_eq_true hz
  obtain ⟨hm0, l0⟩ := Made.newO (u := .dK []) trivial hm hp
  refine rp _ σ _ ρ m qs m1 hm0 (hs.le l0) e1 _ fun vs T1 H1 l1 hm1 r1 r2 => ?_
  obtain ⟨kvs, rfl, ek, r3⟩ := flats hfl r1 r2
  have hq : H1 p = some (.dK []) := l1.keep p _ upd_same (fun z => hm.nope hp (T.sub p z)) (fun q hq => Tk.outτ (hm.nope hp) q hq)
  refine ⟨hq, kvs, rfl, ?_, ?_⟩
  · have := congrArg List.length ek
    simp at this
    omega
  obtain ⟨T2, l2, hm2, np, rl, l3, rl3, hm3⟩ := forb_fin (u := .dK (mergeK [] kvs)) hp hm l1 hm1 trivial
  obtain ⟨a1, a2⟩ := merge_rep (ks := []) (vs := []) ek r3 (acc := []) .nil .nil
  cases nw with
  | false =>
    cases hf
    exact k _ _ _ l2 hm2 (.dicF np (.inl upd_same) (rl _ _ a1) (rl _ _ a2))
  | true =>
    cases hf
    exact k _ _ _ l3 (hm3 _ (.dicF upd_same (rl3 _ _ a1) (rl3 _ _ a2))) (push_ref hm2.len)
end
end L4
namespace L4
open PySem PySem.Spec PyProof.Rows PySem.W L2
end L4
namespace L4
open PySem PySem.Spec PyProof.Rows PySem.W L2
section
variable {X : Cx} {g : G} {T T' : Tk} {H : Hp} {m : M} {Q : VK} {pos p apos : Pos} {e o : Expr} {es : List Expr} {k n : Nat} {x c nm : Str}
abbrev NX := M → Nat → Option (Option D)
abbrev LF := Ss → M → Option (NX × M)
def ItLv (g : G) (T : Tk) (H : Hp) (J : It) (nx : NX) : Prop := ∀ T1 H1, Le T H T1 H1 → ∀ m1, RepH g T1 H1 m1 → ∀ i : Nat,
  (∀ d, nx m1 i = some (some d) → J.go i H1 ∧ ∀ x H2, J.yld i H1 x H2 → ∃ T2, Le T1 H1 T2 H2 ∧ RepH g T2 H2 m1 ∧ Rep g T2 H2 d x) ∧ (nx m1 i = some none → J.stop i H1)
def RfL (g : G) (wi : TI) (f : LF) : Prop := ∀ T σ H ρ m nx m', RepH g T H m → RepS g T H σ ρ → f ρ m = some (nx, m') → ∀ R : It → Hp → Prop, (∀ J T' H', Le T H T' H' → RepH g T' H' m' → ItLv g T' H' J nx → R J H') → wi σ H R
structure DL (X : Cx) (tg iter : Expr) (f : LF) : Prop where
  ex : ∃ wi, PI X tg iter wi ∧ RfL (gx X) wi f
theorem ItLv.le {T1 : Tk} {H1 : Hp} {J : It} {nx : NX} (l : Le T H T1 H1) (h : ItLv g T H J nx) : ItLv g T1 H1 J nx := fun T2 H2 l2 => h T2 H2 (l.trans l2)
def compLv (t : Tgt) (c : TF) (e : EF) (nx : NX) (ρ : Ss) : Nat → Nat → M → Option (List D × M)
  | 0, _, _ => none
  | k + 1, i, m => match nx m i with
    | none => none
    | some none => some ([], m)
    | some (some x) => match t.un x with
      | some ds => bd (c (setMany ρ t.is ds) m) fun b m1 => if b then bd (e (setMany ρ t.is ds) m1) fun y m2 => bd (compLv t c e nx ρ k (i + 1) m2) fun ys m3 => some (y :: ys, m3) else compLv t c e nx ρ k (i + 1) m1
      | none => none
def eLcV (nw : Bool) (it : LF) (t : Tgt) (c : TF) (e : EF) : EF := fun ρ m => bd (it ρ m) fun nx m1 => bd (compLv t c e nx ρ 1000001 0 m1) fun ys m2 => some (bif nw then (.ref m2.length, m2 ++ [.lst ys]) else (.lst ys, m2))
theorem rf_lcV {wi : TI} {it : LF} {t : Tgt} {tg : TG} {tt : TT} {te : TE} {c : TF} {e : EF} (hi : RfL g wi it) (hg : ∀ T σ H d v ds, Rep g T H d v → t.un d = some ds → ∀ Q, (∀ vs, RepL g T H ds vs → Q (setMany σ t.is vs) H) → tg v σ H Q)
    (hc : RfT g tt c) (he : RfE g te e) {is : List Nat} (his : is = t.is) {nw : Bool} : RfE g (tLc wi tg tt te is) (eLcV nw it t c e) := by
  subst his
  intro T σ H ρ m d m' hm hs hf Q k
  obtain ⟨nx, m1, e1, hf⟩ := bd_some hf
  obtain ⟨ys, mz, e2, hf⟩ := bd_some hf
  have hf := Option.some.inj hf
  refine hi T σ H ρ m nx m1 hm hs e1 _ fun J T0 H0 l0 hm0 ok p hp => ?_
  have hs0 := hs.le l0
  obtain ⟨md, lf⟩ := Made.new hm0 hp
  have start : Le T0 H0 T0 (upd H0 p (.lst [])) := ⟨List.prefix_rfl, fun a u e _ _ => by rw [upd_ne (ne_of_none e hp)]; exact e, rfl, fun q _ u e => ⟨u, by rw [upd_ne (ne_of_none e hp)]; exact e⟩, fun a h n => absurd h n, fun a h n => absurd h n, fun a h => h⟩
  refine ⟨fun i j H1 => i + j = 1000001 ∧ ∃ T1 m1 ds rest, Le T0 H0 T1 H1 ∧ Made g T1 H1 m1 p ds ∧ ds.length ≤ i ∧ RepS g (T1.forb p) H1 σ ρ ∧ compLv t c e nx ρ j i m1 = some (rest, mz) ∧ ys = ds ++ rest, ⟨1000001, by omega, T0, m1, [], ys, start, md, Nat.le_refl _, hs0.le lf, e2, rfl⟩, ?_⟩
  rintro i j H1 ⟨hij, T1, m1', ds, rest, l1, md1, hdl, hs1, hf1, hy⟩
  obtain ⟨vs1, hv1, rl1⟩ := md1.at_
  have okT : ItLv g (T1.forb p) H1 J nx := fun T2 H2 l2 mm hmm => ok (⟨T2.μ, T2.ν, T2.τ, T2.sub, T2.subτ⟩) H2 (by
    have tb1 : (T1.forb p).τ = T0.τ := l1.tb
    refine ⟨l1.pre.trans l2.pre, fun a u h n t => l2.keep a u (l1.keep a u h n t) (fun z => ?_) (by rw [tb1]; exact t), l2.tb.trans l1.tb, fun q hq u e => ?_, fun a ha n => ?_, fun a ha n => ?_, fun a h => l2.up a (List.mem_cons_of_mem _ (l1.up a h))⟩
    · rw [l1.newμ a z n] at h; cases h
    · obtain ⟨u', e'⟩ := l1.tk q hq u e
      exact l2.tk q (by rw [tb1]; exact hq) u' e'
    · cases e : H0 a with
      | none => rfl
      | some u =>
        have n1 : a ∉ (T1.forb p).ν := fun z => by
          rcases List.mem_cons.mp z with rfl | z
          · rw [hp] at e; cases e
          · exact l1.out e n z
        have := l2.new a ha n1
        rw [l1.keep a u e (Tk.out n) (Tk.outτ n)] at this
        cases this
    · cases e : H0 a with
      | none => rfl
      | some u =>
        have n1 : a ∉ T1.μ := fun z => by rw [l1.newμ a z n] at e; cases e
        have := l2.newμ a ha n1
        by_cases t : ∃ q ∈ T0.τ, q.1 = a
        · obtain ⟨q, hq, rfl⟩ := t
          obtain ⟨v', e'⟩ := l1.tk q hq u e
          rw [e'] at this
          cases this
        · rw [l1.keep a u e n fun q hq z => t ⟨q, hq, z⟩] at this
          cases this) mm hmm
  obtain ⟨okG, okS⟩ := okT (T1.forb p) H1 .refl m1' md1.hm i
  cases j with
  | zero => cases hf1
  | succ j =>
    unfold compLv at hf1
    split at hf1
    · cases hf1
    · next hn =>
      left
      cases hf1
      rw [List.append_nil] at hy
      subst hy
      refine ⟨okS hn, ?_⟩
      cases nw with
      | false =>
        cases hf
        obtain ⟨hmd, rd⟩ := md1.done l1
        exact k _ T1 H1 (l0.trans l1) hmd rd
      | true =>
        cases hf
        obtain ⟨l3, hmd, rd⟩ := md1.track l1 hp
        exact k _ _ H1 (l0.trans l3) hmd rd
    · next y0 hy0 =>
      right
      obtain ⟨go, yl⟩ := okG y0 hy0
      refine ⟨go, _, fun _ q => q, fun x H2 y2 => ?_⟩
      obtain ⟨T2, l2, hm2, r2⟩ := yl x H2 y2
      split at hf1
      · next es hes =>
        obtain ⟨b, m3, e3, hf3⟩ := bd_some hf1
        refine hg T2 (wipe σ t.is) H2 y0 x es r2 hes _ fun vs rv => ⟨?_, ?_⟩
        · rw [wipe_many t.is vs _ fun u hu => hu, wipe_wipe t.is fun u hu => hu]
        · have hs2 : RepS g T2 H2 (setMany (wipe σ t.is) t.is vs) (setMany ρ t.is es) := many_wiped (hs1.le l2) rv (Tgt.un_len hes)
          refine hc T2 _ H2 _ m1' b m3 hm2 hs2 e3 _ fun T3 H3 l3 hm3 => ?_
          cases b with
          | false =>
            obtain ⟨T4, l4, md4, e4, e5⟩ := md1.step l1 hp (l2.trans l3) hm3
            exact ⟨j, Nat.lt_succ_self _, by omega, T4, m3, ds, rest, l4, md4, by omega, ⟨hs1.len, fun q d hq => by
              obtain ⟨v, h1, h2⟩ := (hs1.le (l2.trans l3)).at_ q d hq
              exact ⟨v, h1, Rep.wk (T' := T4.forb p) e4 (fun a h => (e5 a).mp h) _ h2⟩⟩, hf3, hy⟩
          | true =>
            obtain ⟨y, m4, e6, hf4⟩ := bd_some hf3
            obtain ⟨ys', m5, e7, hf5⟩ := bd_some hf4
            cases hf5
            refine he T3 _ H3 _ m3 y m4 hm3 (hs2.le l3) e6 _ fun v T4 H4 l4 hm4 r4 => ?_
            obtain ⟨T5, l5, md5, e8, e9⟩ := md1.step l1 hp (l2.trans (l3.trans l4)) hm4
            obtain ⟨vs5, hv5, _⟩ := md5.at_
            have r5 : Rep g (T5.forb p) H4 y v := Rep.wk (T' := T5.forb p) e8 (fun a h => (e9 a).mp h) _ r4
            obtain ⟨md6, l6⟩ := md5.app l5 hp r5 hv5
            have hl5 : vs5.length = ds.length := by
              obtain ⟨w, hw, q⟩ := md5.at_
              rw [hv5] at hw
              cases hw
              exact q.length.symm
            refine ⟨vs5, hv5, ?_, j, Nat.lt_succ_self _, by omega, T5, m4, ds ++ [y], ys', l6, md6, by simp; omega, ⟨hs1.len, fun q d hq => ?_⟩, e7, by rw [hy]; simp⟩
            · rw [hl5, sizeLine_eq]; omega
            · obtain ⟨w, h1, h2⟩ := (hs1.le (l2.trans (l3.trans l4))).at_ q d hq
              exact ⟨w, h1, Rep.upF (List.mem_cons_self ..) _ (Rep.wk (T' := T5.forb p) e8 (fun a h => (e9 a).mp h) _ h2)⟩
      · cases hf1
theorem de_lcV {nw : Bool} {elt tg iter : Expr} {ifs : List Expr} {scope : Scope} {own : List (Str × Nat)} {fi : LF} {t : Tgt} {fc : TF} {fe : EF} (hc : X.calm = true) (hN : X.N.Nodup) (hi : DL X tg iter fi) (ok : BlkOk X.N X.env.scope scope own)
    (hg : ∀ (s : Shared) (H : Hp) (C : Addr) (cl : List (Str × Addr)) (fp : List Addr), DGn (X.blk s H scope (compEnvC scope cl C X.env) fp) tg t) (ht : ∀ (s : Shared) (H : Hp) (C : Addr) (cl : List (Str × Addr)) (fp : List Addr), DTs (X.blk s H scope (compEnvC scope cl C X.env) fp) ifs fc)
    (he : ∀ (s : Shared) (H : Hp) (C : Addr) (cl : List (Str × Addr)) (fp : List Addr), DE (X.blk s H scope (compEnvC scope cl C X.env) fp) elt fe) (hq : own.map (·.2) = t.is := by rfl) (hs : ∀ x, foldedSetIterable iter X.env x = pure x := by intro _; rfl) :
    DE X (.ListComp elt [⟨tg, iter, ifs, 0⟩] scope pos) (eLcV nw fi t fc fe) := by
  obtain ⟨ti, pi, ri⟩ := hi.ex
  refine ⟨_, pe_lc (g := fun v σ H Q => ∀ s H' C cl fp, ∃ t, PG (X.blk s H' scope (compEnvC scope cl C X.env) fp) tg t ∧ t v σ H Q) (tt := fun σ H Q => ∀ s H' C cl fp, ∃ t, PTs (X.blk s H' scope (compEnvC scope cl C X.env) fp) ifs t ∧ t σ H Q)
    (te := fun σ H Q => ∀ s H' C cl fp, ∃ t, PE (X.blk s H' scope (compEnvC scope cl C X.env) fp) elt t ∧ t σ H Q) hc hN pi ok (fun s H C cl fp => ⟨fun pins s1 σ H1 v u Q I r h => ?_⟩) (fun s H C cl fp => ⟨fun pins s1 σ H1 Q I h => ?_⟩) (fun s H C cl fp => ⟨fun pins s1 σ H1 Q I h => ?_⟩) hs, ?_⟩
  · obtain ⟨t, p, q⟩ := h s H C cl fp
    exact p.run pins s1 σ H1 v u Q I r q
  · obtain ⟨t, p, q⟩ := h s H C cl fp
    exact p.run pins s1 σ H1 Q I q
  · obtain ⟨t, p, q⟩ := h s H C cl fp
    exact p.run pins s1 σ H1 Q I q
  · refine rf_lcV ri ?_ ?_ ?_ hq
    · intro T σ H d v ds r hu Q k s H' C cl fp
      obtain ⟨t, p, q⟩ := (hg s H' C cl fp).ex
      exact ⟨t, p, q T σ H d v ds r hu Q k⟩
    · intro T σ H ρ m b m' hm hs hf Q k s H' C cl fp
      obtain ⟨t, p, q⟩ := (ht s H' C cl fp).ex
      exact ⟨t, p, q T σ H ρ m b m' hm hs hf Q k⟩
    · intro T σ H ρ m b m' hm hs hf Q k s H' C cl fp
      obtain ⟨t, p, q⟩ := (he s H' C cl fp).ex
      exact ⟨t, p, q T σ H ρ m b m' hm hs hf Q k⟩
def nxC (xs : List D) : NX := fun _ i => if i ≤ xs.length then some xs[i]? else none
def nxR (n : Nat) : NX := fun m i => (m[n]?).bind fun ob => (lstO ob).map fun ds => ds[i]?
theorem nxC_some {xs : List D} {m : M} {i : Nat} {d : D} (h : nxC xs m i = some (some d)) : xs[i]? = some d := by
  obtain ⟨_, h⟩ := ite_some h
  exact Option.some.inj h
theorem nxC_end {xs : List D} {m : M} {i : Nat} (h : nxC xs m i = some none) : xs.length = i := by
  obtain ⟨h1, h⟩ := ite_some h
  have := List.getElem?_eq_none_iff.mp (Option.some.inj h)
  omega
theorem itlv_of {J : It} {xs : List D} (h : ItOk g T H J xs) : ItLv g T H J (nxC xs) := fun T1 H1 l m1 hm1 i => ⟨fun d hd => (h T1 H1 l m1 hm1 i).1 d (nxC_some hd), fun hd => (h T1 H1 l m1 hm1 i).2 (nxC_end hd)⟩
theorem nxR_some {n i : Nat} {m : M} {r : Option D} (h : nxR n m i = some r) : ∃ ds, m[n]? = some (.lst ds) ∧ r = ds[i]? := by
  obtain ⟨ob, h1, h2⟩ := Option.bind_eq_some_iff.mp h
  obtain ⟨ds, h3, rfl⟩ := Option.map_eq_some_iff.mp h2
  cases ob with
  | lst ds' => cases h3; exact ⟨ds, h1, rfl⟩
  | _ => cases h3
theorem at_lst {n : Nat} {a : Addr} {ds : List D} (hm : RepH g T H m) (ea : T.μ[n]? = some a) (h : m[n]? = some (.lst ds)) : ∃ vs, H a = some (.lst vs) ∧ RepL g T H ds vs := by
  cases hm.at_ _ _ _ ea h with
  | lst h1 r => exact ⟨_, h1, r⟩
theorem itlv_ref {n : Nat} {a : Addr} (ea : T.μ[n]? = some a) : ItLv g T H (Itl g.K a) (nxR n) := by
  intro T1 H1 l m1 hm1 i
  refine ⟨fun d hd => ?_, fun hd => ?_⟩
  · obtain ⟨ds, h1, h2⟩ := nxR_some hd
    obtain ⟨vs, hv, r⟩ := at_lst hm1 (l.get ea) h1
    obtain ⟨v, ev, q⟩ := r.get h2.symm
    refine ⟨⟨vs, v, SqL.of hv, ev⟩, fun x H2 ⟨eq, hy⟩ => ?_⟩
    subst eq
    have := hy vs (SqL.of hv)
    rw [ev] at this
    cases this
    exact ⟨T1, .refl, hm1, q⟩
  · obtain ⟨ds, h1, h2⟩ := nxR_some hd
    obtain ⟨vs, hv, r⟩ := at_lst hm1 (l.get ea) h1
    exact ⟨vs, SqL.of hv, r.none (List.getElem?_eq_none_iff.mp h2.symm)⟩
def lIt (a : EF) : LF := fun ρ m => bd (a ρ m) fun x m1 => match x with
  | .ref n => ((m1[n]?).bind lstO).map fun _ => (nxR n, m1)
  | x => (items x).map fun xs => (nxC xs, m1)
theorem dl_any {tg e : Expr} {f : EF} (h : DE X e f) : DL X tg e (lIt f) := by
  obtain ⟨t, p, r⟩ := h.ex
  refine ⟨_, pi_any p, fun T σ H ρ m nx m' hm hs hf R k => ?_⟩
  obtain ⟨x, m1, e1, hf⟩ := bd_some hf
  refine r T σ H ρ m x _ hm hs e1 _ fun v T1 H1 l1 hm1 r1 => ?_
  cases r1 with
  | tup f q => cases hf; exact .inr (.inl ⟨_, rfl, ⟨_, f.sq⟩, k _ T1 H1 l1 hm1 (itlv_of (itok_T fun T2 H2 l => ⟨_, (f.le l).sq, q.le l⟩))⟩)
  | lst f q => cases hf; exact .inl ⟨_, rfl, ⟨_, f.sq⟩, k _ T1 H1 l1 hm1 (itlv_of (itok_L fun T2 H2 l => ⟨_, (f.le l).sq, q.le l⟩))⟩
  | scr f q => cases hf; exact .inl ⟨_, rfl, ⟨_, f.sq⟩, k _ T1 H1 l1 hm1 (itlv_of (itok_L fun T2 H2 l => ⟨_, (f.le l).sq, q.le l⟩))⟩
  | str x => cases hf; exact .inr (.inr ⟨_, rfl, k _ T1 H1 l1 hm1 (itlv_of itok_S)⟩)
  | @ref n a ea =>
    obtain ⟨ds, h1, h2⟩ := Option.map_eq_some_iff.mp hf
    cases h2
    obtain ⟨ob, h3, h4⟩ := Option.bind_eq_some_iff.mp h1
    cases ob with
    | lst ds' =>
      obtain ⟨vs, hv, _⟩ := at_lst hm1 ea h3
      exact .inl ⟨_, rfl, ⟨_, SqL.of hv⟩, k _ T1 H1 l1 hm1 (itlv_ref ea)⟩
    | _ => cases h4
  | _ => cases hf
end
end L4
namespace L4
open PySem PySem.Spec PyProof.Rows PySem.W L2
end L4
namespace L4
open PySem PySem.Spec PyProof.Rows L2
end L4
namespace L4
open PySem PyProof.Rows PySem.W
end L4
namespace L4
open PySem PySem.Spec PyProof.Rows PySem.W L2
end L4
namespace L4
open PySem PySem.Spec PyProof.Rows PySem.W L2
section
variable {X : Cx} {g : G} {T T' : Tk} {H : Hp} {m : M} {Q : VK} {pos p apos : Pos} {e o : Expr} {es : List Expr} {k n : Nat} {x c nm : Str}
def eRev (nw : Bool) (a : EF) : EF := fun ρ m => bd (a ρ m) fun x m1 => match lstR m1 x with
  | some ds => some (bif nw then (.ref m1.length, m1 ++ [.lst ds.reverse]) else (.lst ds.reverse, m1))
  | none => none
theorem RepL.rev {ds : List D} {vs : List V} (r : RepL g T H ds vs) : RepL g T H ds.reverse vs.reverse := by
  induction ds generalizing vs with
  | nil => cases r; exact .nil
  | cons d ds ih => cases r with
    | cons r1 r2 => rw [List.reverse_cons, List.reverse_cons]; exact (ih r2).append (.cons r1 .nil)
theorem de_rev {nw : Bool} {f : EF} {kk : Nat} {p1 p2 p3 : Pos} (h : DE X e f) : DE X (.Subscript e (.Slice none none (some (.UnaryOp .USub (.Constant (.int 1) kk p1) p2)) p3) pos) (eRev nw f) := by
  obtain ⟨t, pt, rt⟩ := h.ex
  refine ⟨_, pe_revL pt, fun T σ H ρ m d m' hm hs hf Q k => ?_⟩
  obtain ⟨x, m1, e1, hf⟩ := bd_some hf
  refine rt T σ H ρ m x m1 hm hs e1 _ fun v T1 H1 l1 hm1 r1 => ?_
  split at hf
  · next ds hl =>
    have hf := Option.some.inj hf
    obtain ⟨a, xs, rfl, hq, rl⟩ := lstR_rep hm1 r1 hl
    refine ⟨a, xs, rfl, hq, fun q hq => ?_⟩
    cases nw with
    | false =>
      cases hf
      exact KV.lst (k.le l1) hm1 rl.rev q hq
    | true =>
      cases hf
      exact KV.newL (k.le l1) hm1 rl.rev q hq
  · cases hf
inductive Tab (X : Cx) (k : Nat) : List (Str × (List D → Option D)) → Prop
  | nil : Tab X k []
  | cons {x n F tb} : PFn X.prog X.w X.K X.mg X.base k x n F → X.mg x = some (.ref (He.ga X.K x)) → Tab X k tb → Tab X k ((x, F) :: tb)
theorem Tab.get {k : Nat} {tb : List (Str × (List D → Option D))} {F : List D → Option D} (h : Tab X k tb) (e : tb.lookup x = some F) : ∃ n, PFn X.prog X.w X.K X.mg X.base k x n F ∧ X.mg x = some (.ref (He.ga X.K x)) := by
  induction h with
  | nil => cases e
  | @cons y n G tb p q t ih =>
    rw [List.lookup_cons] at e
    split at e
    · next hb =>
      cases e
      have := eq_of_beq hb
      subst this
      exact ⟨n, p, q⟩
    · exact ih e
end
end L4
namespace L4
open PySem PySem.Spec PyProof.Rows L2
end L4
namespace L4
open PySem PySem.Spec PyProof.Rows L2
end L4
namespace L4
open PySem PySem.Spec PyProof.Rows L2
abbrev NQ := List (NestedKey × Addr)
/-- the entries behind some items -/
inductive Ent (R : Value → Prop) : NQ → List (NestedKey × Addr × Value) → Prop
  | nil : Ent R [] []
  | snoc {l xs q u} : Ent R l xs → R u → Ent R (l ++ [q]) (storedH xs q.1 q.2 u)
theorem Ent.len {R : Value → Prop} {l : NQ} {xs : List (NestedKey × Addr × Value)} (h : Ent R l xs) : xs.length ≤ l.length := by
  induction h with
  | nil => exact Nat.le_refl _
  | @snoc l xs q u _ _ ih => have := storedH_length xs q.1 q.2 u; simp; omega
end L4
namespace L4
open PySem PySem.Spec PyProof.Rows L2
end L4
namespace L4
open PySem PySem.Spec PyProof.Rows L2
end L4
namespace L4
open PySem PySem.Spec PyProof.Rows L2
end L4
namespace L4
open PySem PySem.Spec PyProof.Rows L2
end L4
namespace L4
open PySem PySem.Spec PyProof.Rows L2
section
variable {X : Cx} {g : G} {T T' : Tk} {H H' : Hp} {m : M} {Q : VK} {pos p apos cpos tpos : Pos} {e o : Expr} {es : List Expr} {k n : Nat} {x c nm : Str}
def Dl : HO → Prop
  | .dK _ => True
  | .ext f => ∃ (g : G) (a : Addr) (kvs : List (NestedKey × Addr × V)), dnO g a kvs = .ext f
  | _ => False
/-- a dict is no code object -/
theorem dnO_ne {g : G} {a c : Addr} {kvs : List (NestedKey × Addr × V)} {q : Str} : dnO g a kvs ≠ LamX.CodeO c q := fun z => by
  unfold dnO LamX.CodeO at z
  have e := HO.ext.inj z
  let o : Obj := { cls := .none, data := .fields #[.none, .str q default] }
  let h : Heap := { objs := Array.replicate (c + 1) o }
  have at_ : ∀ b x, h.get? b = some x → x = o := fun b x hx => by
    have k : h.objs[b]? = if b < c + 1 then some o else none := Array.getElem?_replicate
    unfold Heap.get? at hx
    rw [k] at hx
    split at hx
    · cases hx
    · split at hx
      · exact (Option.some.inj hx).symm
      · cases hx
  have hc : ∃ (oc : Obj) (vs : Array Value) (t : Tok), h.get? c = some oc ∧ oc.data = .fields vs ∧ vs[1]? = some (.str q t) := ⟨o, _, default, by
    have k : h.objs[c]? = if c < c + 1 then some o else none := Array.getElem?_replicate
    unfold Heap.get?
    rw [k, if_pos (Nat.lt_succ_self c)], rfl, rfl⟩
  have := congrFun e h
  rw [← this] at hc
  obtain ⟨_, _, xs, _, ob, es, ep, h1, _, h2, _⟩ := hc
  rw [at_ _ _ h1] at h2
  cases h2
theorem code_nDl {c : Addr} {q : Str} : ¬ Dl (LamX.CodeO c q) := fun ⟨g, a, kvs, h⟩ => dnO_ne h
theorem dnO_nexo {g : G} {a c C : Addr} {dd : Option Addr} {kvs : List (NestedKey × Addr × V)} : dnO g a kvs ≠ exo c C dd := fun z => by
  unfold dnO exo at z
  have e := HO.ext.inj z
  let o : Obj := { cls := .ref C, dict := dd, data := .fields #[.ref 0, .none, .none, .none, .bool false, .none] }
  let h : Heap := { objs := Array.replicate (c + 1) o }
  have at_ : ∀ b x, h.get? b = some x → x = o := fun b x hx => by
    have k : h.objs[b]? = if b < c + 1 then some o else none := Array.getElem?_replicate
    unfold Heap.get? at hx
    rw [k] at hx
    split at hx
    · cases hx
    · split at hx
      · exact (Option.some.inj hx).symm
      · cases hx
  have hc : ∃ t1 : Addr, h.get? c = some ({ cls := .ref C, dict := dd, data := .fields #[.ref t1, .none, .none, .none, .bool false, .none] } : Obj) := ⟨0, by
    have k : h.objs[c]? = if c < c + 1 then some o else none := Array.getElem?_replicate
    unfold Heap.get?
    rw [k, if_pos (Nat.lt_succ_self c)]⟩
  have := congrFun e h
  rw [← this] at hc
  obtain ⟨_, _, xs, _, ob, es, ep, h1, _, h2, _⟩ := hc
  rw [at_ _ _ h1] at h2
  cases h2
theorem exo_nDl {e C : Addr} {d : Option Addr} : ¬ Dl (exo e C d) := fun ⟨g, a, kvs, h⟩ => dnO_nexo h
structure Lk (H H' : Hp) (d : Addr) (u : HO) : Prop where
  off : ∀ b, b ≠ d → H' b = H b
  dl : Dl u
  a : Rd H d u
  b : Rd H' d u
theorem Lk.ne {d b : Addr} {u v : HO} (l : Lk H H' d u) (h : H b = some v) (hv : ¬ Dl v) (hf : ∀ ob w, v = .frz ob w → ¬ Dl w) : b ≠ d := by
  rintro rfl
  rcases l.a with z | ⟨ob, z⟩
  · rw [h] at z; cases z; exact hv l.dl
  · rw [h] at z; cases z; exact hf _ _ rfl l.dl
theorem Lk.rd {d b : Addr} {u v : HO} (l : Lk H H' d u) (h : Rd H b v) (hv : Dl v) : Rd H' b v := by
  by_cases e : b = d
  · subst e
    have eu : u = v := by
      rcases h with h | ⟨ob, h⟩ <;> rcases l.a with z | ⟨oc, z⟩ <;> rw [h] at z <;> cases z
      · rfl
      · exact absurd hv (fun z => z)
      · exact absurd l.dl (fun z => z)
      · rfl
    rw [← eu]; exact l.b
  · rcases h with h | ⟨ob, h⟩
    · exact .inl ((l.off b e).trans h)
    · exact .inr ⟨ob, (l.off b e).trans h⟩
theorem Lk.st {d b : Addr} {u v : HO} (l : Lk H H' d u) (h : H b = some v) (hv : ¬ Dl v) (hf : ∀ ob w, v = .frz ob w → ¬ Dl w) : H' b = some v := (l.off b (l.ne h hv hf)).trans h
theorem FL.lk {d : Addr} {u : HO} (l : Lk H H' d u) {a : Addr} {vs : List V} (h : FL T H a vs) : FL T H' a vs := ⟨h.1, l.st h.2 (fun z => z) fun _ _ z => nomatch z⟩
theorem FS.lk {K : PySem.W.Frag} {d : Addr} {u : HO} (l : Lk H H' d u) {a : Addr} {vs : List V} (h : FS K T H a vs) : FS K T H' a vs := by
  rcases h with ⟨n, ob, h⟩ | h
  · exact .inl ⟨n, ob, l.st h (fun z => z) fun _ _ z => by cases z; exact fun z => z⟩
  · exact .inr h
theorem FT.lk {K : PySem.W.Frag} {d : Addr} {u : HO} (l : Lk H H' d u) {a : Addr} {vs : List V} (h : FT K T H a vs) : FT K T H' a vs := by
  rcases h with ⟨n, h⟩ | h
  · refine .inl ⟨n, ?_⟩
    rcases h with h | ⟨ob, h⟩
    · exact .inl (l.st h (fun z => z) fun _ _ z => nomatch z)
    · exact .inr ⟨ob, l.st h (fun z => z) fun _ _ z => by cases z; exact fun z => z⟩
  · exact .inr h
theorem FP.lk {d : Addr} {u : HO} (l : Lk H H' d u) {a : Addr} {vs : List V} (h : FP T H a vs) : FP T H' a vs := by
  obtain ⟨n, ob, h, e⟩ := h
  exact ⟨n, ob, l.st h (fun z => z) fun _ _ z => by cases z; exact fun z => z, e⟩
mutual
theorem Rep.lk {d : Addr} {u : HO} (l : Lk H H' d u) : ∀ {y : D} {v : V}, Rep g T H y v → Rep g T H' y v
  | _, _, .non => .non
  | _, _, .bl b => .bl b
  | _, _, .int i => .int i
  | _, _, .str x => .str x
  | _, _, .tup f r => .tup (f.lk l) (RepL.lk l r)
  | _, _, .lst f r => .lst (f.lk l) (RepL.lk l r)
  | _, _, .scr f r => .scr (f.lk l) (RepL.lk l r)
  | _, _, .dicF n h r q => .dicF n (l.rd h trivial) (RepL.lk l r) (RepL.lk l q)
  | _, _, .dicN n h e r q => .dicN n (l.rd h ⟨_, _, _, rfl⟩) e (RepL.lk l r) (RepL.lk l q)
  | _, _, .obj n h e r => .obj n (l.st h (fun z => z) fun _ _ z => nomatch z) e (RepL.lk l r)
  | _, _, .ref h => .ref h
  | _, _, .glo x => .glo x
  | _, _, .ty n => .ty n
  | _, _, .ptp f r => .ptp (f.lk l) (RepL.lk l r)
  | _, _, .tab h => .tab h
  | _, _, .exn0 n h => .exn0 n (l.st h exo_nDl fun _ _ z => nomatch z)
  | _, _, .exn1 n n2 h h2 e r => .exn1 n n2 (l.st h exo_nDl fun _ _ z => nomatch z) (l.st h2 (fun z => z) fun _ _ z => nomatch z) e (RepL.lk l r)
theorem RepL.lk {d : Addr} {u : HO} (l : Lk H H' d u) : ∀ {ys : List D} {vs : List V}, RepL g T H ys vs → RepL g T H' ys vs
  | _, _, .nil => .nil
  | _, _, .cons r s => .cons (Rep.lk l r) (RepL.lk l s)
end
theorem RepO.lk {d a : Addr} {u : HO} {ob : O} (l : Lk H H' d u) (hne : a ≠ d) (r : RepO g T H a ob) : RepO g T H' a ob := by
  cases r with
  | lst h r => exact .lst ((l.off a hne).trans h) (r.lk l)
  | dicF h r q => exact .dicF ((l.off a hne).trans h) (r.lk l) (q.lk l)
  | dicN h k r q => exact .dicN ((l.off a hne).trans h) k (r.lk l) (q.lk l)
  | ins h k r => exact .ins ((l.off a hne).trans h) k (r.lk l)
theorem RepH.lk {d : Addr} {u : HO} (l : Lk H H' d u) (hd : d ∉ T.ν) (r : RepH g T H m) : RepH g T H' m :=
  ⟨r.len, r.nd, fun a ha => by rw [l.off a (fun z => hd (by rw [← z]; exact ha))]; exact r.has a ha,
    fun n a ob h1 h2 => (r.at_ n a ob h1 h2).lk l fun z => hd (T.sub d (by rw [← z]; exact List.mem_of_getElem? h1)),
    fun p hp => ⟨(r.tabs p hp).1, by
      obtain ⟨ps, h1, h2, h3⟩ := (r.tabs p hp).2
      refine ⟨ps, by rw [l.off p.1 (fun z => hd (by rw [← z]; exact T.subτ p hp))]; exact h1, h2, fun pos cv hc => ?_⟩
      obtain ⟨c, e1, e2, e3⟩ := h3 pos cv hc
      exact ⟨c, e1, e2, l.st e3 code_nDl fun ob w z => by unfold LamX.CodeO at z; cases z⟩⟩⟩
theorem RepS.lk {d : Addr} {u : HO} {σ : L2.St} {ρ : Ss} (l : Lk H H' d u) (r : RepS g T H σ ρ) : RepS g T H' σ ρ := ⟨r.len, fun i y h => by obtain ⟨v, e, q⟩ := r.at_ i y h; exact ⟨v, e, q.lk l⟩⟩
/-- a dict is let go again -/
structure Let (H : Hp) (T : Tk) (d : Addr) (ob : Obj) (u : HO) : Prop where
  h : H d = some u
  dl : Dl u
  out : d ∉ T.ν
section
variable {d : Addr} {ob : Obj} {u : HO} {T1 : Tk} {H1 : Hp}
theorem Let.lk (l : Let H T d ob u) : Lk H (upd H d (.frz ob u)) d u := ⟨fun b hb => upd_ne hb, l.dl, .inl l.h, .inr ⟨ob, upd_same⟩⟩
theorem Let.at_ (l : Let H T d ob u) (q : Le T (upd H d (.frz ob u)) T1 H1) : H1 d = some (.frz ob u) := q.keep d _ upd_same (Tk.out l.out) (Tk.outτ l.out)
theorem Let.le (l : Let H T d ob u) (q : Le T (upd H d (.frz ob u)) T1 H1) : Le T H T1 (upd H1 d u) := by
  have gone : ∀ a, upd H d (.frz ob u) a = none → H a = none := fun a z => by
    by_cases e : a = d
    · subst e; rw [upd_same] at z; cases z
    · rw [upd_ne e] at z; exact z
  refine ⟨q.pre, fun a v h n t => ?_, q.tb, fun p hp v h => ?_, fun a h n => gone a (q.new a h n), fun a h n => gone a (q.newμ a h n), q.up⟩
  · by_cases e : a = d
    · subst e
      rw [upd_same]
      exact l.h.symm.trans h
    · rw [upd_ne e]
      exact q.keep a v (by rw [upd_ne e]; exact h) n t
  · have e : p.1 ≠ d := fun z => l.out (by rw [← z]; exact T.subτ p hp)
    rw [upd_ne e]
    exact q.tk p hp v (by rw [upd_ne e]; exact h)
end
end
end L4
namespace L4
open PySem PySem.Spec PyProof.Rows L2
end L4
namespace L4
open PySem PySem.Spec PyProof.Rows L2
section
variable {X : Cx} {g : G} {T T' : Tk} {H H' : Hp} {m : M} {Q : VK} {pos p apos cpos tpos : Pos} {e o : Expr} {es : List Expr} {k n : Nat} {x c nm : Str}
/-- what is not lent, but held back -/
def Held (T : Tk) (H H' : Hp) (ν : List Addr) : Prop := (∀ a ∈ ν, a ∈ T.ν) ∧ ∀ a ∈ T.ν, a ∉ ν → ∃ u, H a = some u ∧ H' a = some u ∧ Dl u
theorem Held.out {ν : List Addr} (h : Held T H H' ν) {a : Addr} {v : HO} (n : a ∉ ν) (e : H' a = some v) (hv : ¬ Dl v) : a ∉ T.ν := fun z => by
  obtain ⟨u, _, h2, h3⟩ := h.2 a z n
  rw [e] at h2
  cases h2
  exact hv h3
end
end L4
namespace L4
open PySem PySem.Spec PyProof.Rows L2
end L4
namespace L4
open PySem PySem.Spec PyProof.Rows L2
end L4
namespace L4
open PySem PySem.Spec PyProof.Rows L2
section
variable {X : Cx}
def strT (m : M) (xs : List D) : Option D := match xs with
  | [.str z] => some (.str z)
  | xs => strD m xs
end
end L4
namespace L4
open PySem PySem.Spec PyProof.Rows L2
section
variable {X : Cx}
def reprT (m : M) (xs : List D) : Option D := match xs with
  | [.int i] => if i.natAbs.log2 < 1920 then some (.str (toString i)) else none
  | [.bl b] => some (.str (if b then "True" else "False"))
  | [.non] => some (.str "None")
  | _ => none
end
end L4
namespace L4
open PySem PySem.Spec PyProof.Rows L2
section
variable {X : Cx} {g : G} {T T' : Tk} {H H' : Hp} {m : M} {Q : VK} {pos p p2 pos2 apos cpos : Pos} {e o a b : Expr} {n : Nat}
def rgOk (i j : Int) : Prop := 0 ≤ i ∧ i ≤ 16777216 ∧ 0 ≤ j ∧ j ≤ 16777216
instance (i j : Int) : Decidable (rgOk i j) := by unfold rgOk; infer_instance
theorem rgOk.ok {i j : Int} (h : rgOk i j) : RgOk i j := .of_le h.1 h.2.2.2 h.2.1 h.2.2.1
def rgA (xs : List D) : Option (List D) := match xs with
  | [.int j] => if rgOk 0 j then some (rngD 0 (j - 0).toNat) else none
  | [.int i, .int j] => if rgOk i j then some (rngD i (j - i).toNat) else none
  | _ => none
def eTupR (a : AF) : EF := fun ρ m => bd (a ρ m) fun xs m1 => (rgA xs).map fun ds => (.tup ds, m1)
def eLisR (nw : Bool) (a : AF) : EF := fun ρ m => bd (a ρ m) fun xs m1 => (rgA xs).map fun ds => bif nw then (.ref m1.length, m1 ++ [.lst ds]) else (.lst ds, m1)
def flatL (ks : List D) : Bool := ks.all isFlat
def eUpd (a b : EF) : EF := fun ρ m => bd (a ρ m) fun x m1 => match x with
  | .ref n => match m1[n]? with
    | some (.dic ks0 _) => if flatL ks0 then bd (b ρ m1) fun y m2 => match m2[n]?, y with
        | some (.dic ks vs), .dic ks2 vs2 => if flatL ks && flatL ks2 && decide (ks.length + ks2.length ≤ sizeLine) && decide (ks2.length = vs2.length) then some (.non, m2.set n (.dic (mergeD (ks2.zip vs2) (ks, vs)).1 (mergeD (ks2.zip vs2) (ks, vs)).2)) else none
        | _, _ => none
      else none
    | _ => none
  | _ => none
end
end L4
namespace L4
open PySem PySem.Spec PyProof.Rows L2
section
variable {X : Cx}
def isSeqP : PyData → Bool
  | .list _ => true
  | .tuple _ => true
  | _ => false
def reprP (p : PyData) : Option D := match p with
  | .str x => if (reprText x).length ≤ sizeLine then some (.str (reprText x)) else none
  | p => if isSeqP p && p.showable && decide (p.shown.length ≤ sizeLine) then some (.str p.shown) else none
def reprG (m : M) (xs : List D) : Option D := match reprT m xs with
  | some d => some d
  | none => match xs with
    | [x] => (pdM m x).bind reprP
    | _ => none
def rReprG (K : PySem.W.Frag) : List V → Hp → VK → Prop := fun xs H Q => L3.rReprV xs H Q ∨ ∃ v p, xs = [v] ∧ Dp K H v p ∧ SeqAt.shaped p = true ∧ ∃ z, reprP p = some (.str z) ∧ Q (.str z) H
theorem call_reprGr {k : Nat} (gd : Gd k X) : CallR X (.builtin "repr") (rReprG X.K) := by
  intro pins s σ H xs us Q I r h
  rcases h with h | ⟨v, p, rfl, dp, hs, z, hz, q⟩
  · exact L3.call_reprV pins s σ H xs us Q I r h
  · obtain ⟨u, rfl, ru⟩ := vals1 r
    obtain ⟨as, rd⟩ := Dp.reads I p v u dp ru
    have hl := PyData.hasDict_of_canLay p (SeqAt.canLay_of_shaped hs)
    have hdp := SeqAt.depth_of_shaped hs
    have hu := gd.u64
    have key : ∀ (a : Addr), u = .ref a → p.showable = true → p.shown.length ≤ sizeLine → z = p.shown → wpAny (model X.prog X.w) X.A (call (.builtin "repr") [u]) (EP X pins σ Q) X.xe s := by
      rintro a rfl h1 h2 rfl
      refine repr_of_reads' rd h1 (PyData.noDict_hsm hl) gd.g (by omega) (fun _ _ e => e) (fun h' t tk hk => ?_) h2
      exact ⟨.str p.shown, H, I.kept (t' := tk) hk, ⟨_, rfl⟩, q⟩
    unfold reprP at hz
    split at hz
    · next x =>
      obtain ⟨h1, hz⟩ := ite_some hz
      cases hz
      cases rd
      exact PySem.P.repr_of_str ⟨.str (reprText x), H, I.tok _, ⟨_, rfl⟩, q⟩ h1
    · obtain ⟨h1, hz⟩ := ite_some hz
      cases hz
      simp only [Bool.and_eq_true, decide_eq_true_eq] at h1
      obtain ⟨⟨h1, h2⟩, h3⟩ := h1
      cases p with
      | list ps => cases rd with
        | list => exact key _ rfl h2 h3 rfl
      | tuple ps => cases rd with
        | tuple => exact key _ rfl h2 h3 rfl
      | _ => cases h1
theorem call_reprG {k : Nat} (gd : Gd k X) : CallD X (.builtin "repr") reprG := ⟨_, call_reprGr gd, fun T H m xs vs d hm r hf Q k => by
  unfold reprG at hf
  split at hf
  · next e h1 =>
    cases hf
    refine .inl ?_
    unfold reprT at h1
    split at h1
    · obtain ⟨hz, h1⟩ := ite_some h1
      cases h1
      obtain ⟨v, rfl, q⟩ := r.one
      cases q
      exact ⟨_, rfl, .inl ⟨_, rfl, hz⟩, k.now hm (.str _)⟩
    · cases h1
      obtain ⟨v, rfl, q⟩ := r.one
      cases q
      exact ⟨_, rfl, .inr (.inl ⟨_, rfl⟩), k.now hm (.str _)⟩
    · cases h1
      obtain ⟨v, rfl, q⟩ := r.one
      cases q
      exact ⟨_, rfl, .inr (.inr rfl), k.now hm (.str _)⟩
    · cases h1
  · split at hf
    · next x =>
      obtain ⟨v, rfl, q⟩ := r.one
      obtain ⟨p, h2, h3⟩ := Option.bind_eq_some_iff.mp hf
      obtain ⟨dp, hs⟩ := pdM_rep hm h2 q
      have hz : ∃ z, d = .str z := by
        unfold reprP at h3
        split at h3
        · obtain ⟨_, h3⟩ := ite_some h3; cases h3; exact ⟨_, rfl⟩
        · obtain ⟨_, h3⟩ := ite_some h3; cases h3; exact ⟨_, rfl⟩
      obtain ⟨z, rfl⟩ := hz
      exact .inr ⟨v, p, rfl, dp, hs, z, h3, k.now hm (.str _)⟩
    · cases hf⟩
end
end L4
namespace L4
open PySem
def Wr {α : Type} (o : Option (α × M)) (Q : α → M → Prop) : Prop := ∃ d m, o = some (d, m) ∧ Q d m
def WE (f : EF) (ρ : Ss) (m : M) (Q : D → M → Prop) : Prop := Wr (f ρ m) Q
def WT (f : TF) (ρ : Ss) (m : M) (Q : Bool → M → Prop) : Prop := Wr (f ρ m) Q
def WA (f : AF) (ρ : Ss) (m : M) (Q : List D → M → Prop) : Prop := Wr (f ρ m) Q
def WO (f : OF) (ρ : Ss) (m : M) (Q : Option Int → M → Prop) : Prop := Wr (f ρ m) Q
def WG (f : GF) (d : D) (ρ : Ss) (m : M) (Q : Ss → M → Prop) : Prop := Wr (f d ρ m) Q
def WS (f : SF) (ρ : Ss) (m : M) (Q : Fl → M → Prop) : Prop := Wr (f ρ m) Q
/-- a value that is known -/
def Kn {α : Type} (o : Option α) (Q : α → Prop) : Prop := ∃ d, o = some d ∧ Q d
def sqk (b : SF) (Q : Fl → M → Prop) (r : Fl) (m : M) : Prop := match r with
  | .nx ρ => WS b ρ m Q
  | r => Q r m
section
variable {ρ : Ss} {m : M}
theorem Kn.mk {α : Type} {o : Option α} {Q : α → Prop} {d : α} (h : o = some d) (q : Q d) : Kn o Q := ⟨d, h, q⟩
theorem Wr.bd {α β : Type} {o : Option (α × M)} {k : α → M → Option (β × M)} {Q : β → M → Prop} (h : Wr o fun a m1 => Wr (k a m1) Q) : Wr (bd o k) Q := by
  obtain ⟨a, m1, e, b, m2, e2, q⟩ := h
  exact ⟨b, m2, by rw [e]; exact e2, q⟩
theorem Wr.pu {α : Type} {o : Option α} {Q : α → M → Prop} (h : Kn o fun d => Q d m) : Wr (pu o m) Q := by
  obtain ⟨d, rfl, q⟩ := h
  exact ⟨d, m, rfl, q⟩
theorem WE.var {i : Nat} {Q : D → M → Prop} {d : D} (h : ρ.getD i none = some d) (q : Q d m) : WE (eVar i) ρ m Q := ⟨d, m, by unfold eVar; rw [h]; rfl, q⟩
theorem WE.c {d : D} {Q : D → M → Prop} (q : Q d m) : WE (eC d) ρ m Q := ⟨d, m, rfl, q⟩
theorem WE.op {f : M → D → D → Option D} {a b : EF} {Q : D → M → Prop} (h : WE a ρ m fun x m1 => WE b ρ m1 fun y m2 => Kn (f m2 x y) fun d => Q d m2) : WE (eOp f a b) ρ m Q :=
  Wr.bd (by obtain ⟨x, m1, e, h⟩ := h; refine ⟨x, m1, e, Wr.bd ?_⟩; obtain ⟨y, m2, e2, h⟩ := h; exact ⟨y, m2, e2, Wr.pu h⟩)
theorem WE.un {f : M → D → Option D} {a : EF} {Q : D → M → Prop} (h : WE a ρ m fun x m1 => Kn (f m1 x) fun d => Q d m1) : WE (eUn f a) ρ m Q :=
  Wr.bd (by obtain ⟨x, m1, e, h⟩ := h; exact ⟨x, m1, e, Wr.pu h⟩)
theorem WE.call {f : M → List D → Option D} {a : AF} {Q : D → M → Prop} (h : WA a ρ m fun xs m1 => Kn (f m1 xs) fun d => Q d m1) : WE (eCall f a) ρ m Q :=
  Wr.bd (by obtain ⟨x, m1, e, h⟩ := h; exact ⟨x, m1, e, Wr.pu h⟩)
theorem WE.callM {F : List D → M → Option (D × M)} {a : AF} {Q : D → M → Prop} (h : WA a ρ m fun xs m1 => Wr (F xs m1) Q) : WE (eCallM F a) ρ m Q := Wr.bd h
theorem WA.nil {Q : List D → M → Prop} (q : Q [] m) : WA aNil ρ m Q := ⟨[], m, rfl, q⟩
theorem WA.cons {a : EF} {r : AF} {Q : List D → M → Prop} (h : WE a ρ m fun x m1 => WA r ρ m1 fun xs m2 => Q (x :: xs) m2) : WA (aCons a r) ρ m Q :=
  Wr.bd (by obtain ⟨x, m1, e, h⟩ := h; refine ⟨x, m1, e, Wr.bd ?_⟩; obtain ⟨y, m2, e2, h⟩ := h; exact ⟨y, m2, e2, x :: y, m2, rfl, h⟩)
theorem WA.star {a : EF} {r : AF} {Q : List D → M → Prop} (h : WE a ρ m fun x m1 => Kn (seqD m1 x) fun xs => WA r ρ m1 fun ys m2 => Q (xs ++ ys) m2) : WA (aStar a r) ρ m Q := by
  obtain ⟨x, m1, e, xs, e2, ys, m2, e3, q⟩ := h
  refine ⟨xs ++ ys, m2, ?_, q⟩
  unfold aStar
  rw [e]
  show (match seqD m1 x with
    | some xs => bd (r ρ m1) fun ys m2 => some (xs ++ ys, m2)
    | none => none) = _
  rw [e2]
  show bd (r ρ m1) _ = _
  rw [e3]
  rfl
theorem WE.tup {a : AF} {Q : D → M → Prop} (h : WA a ρ m fun xs m1 => xs.length ≤ sizeLine ∧ Q (.tup xs) m1) : WE (eTup a) ρ m Q :=
  Wr.bd (by obtain ⟨x, m1, e, h1, h2⟩ := h; exact ⟨x, m1, e, _, m1, if_pos h1, h2⟩)
theorem WE.lst {a : AF} {Q : D → M → Prop} (h : WA a ρ m fun xs m1 => xs.length ≤ sizeLine ∧ Q (.lst xs) m1) : WE (eLst a) ρ m Q :=
  Wr.bd (by obtain ⟨x, m1, e, h1, h2⟩ := h; exact ⟨x, m1, e, _, m1, if_pos h1, h2⟩)
theorem WE.newL {a : AF} {Q : D → M → Prop} (h : WA a ρ m fun xs m1 => xs.length ≤ sizeLine ∧ Q (.ref m1.length) (m1 ++ [.lst xs])) : WE (eNewL a) ρ m Q :=
  Wr.bd (by obtain ⟨x, m1, e, h1, h2⟩ := h; exact ⟨x, m1, e, _, _, if_pos h1, h2⟩)
theorem WE.eif {c : TF} {a b : EF} {Q : D → M → Prop} (h : WT c ρ m fun x m1 => WE (if x then a else b) ρ m1 Q) : WE (eIf c a b) ρ m Q :=
  Wr.bd (by obtain ⟨x, m1, e, h⟩ := h; refine ⟨x, m1, e, ?_⟩; cases x <;> exact h)
theorem WE.isN {a : EF} {Q : D → M → Prop} (h : WE a ρ m fun x m1 => Q (.bl (isNon x)) m1) : WE (eIsN a) ρ m Q :=
  Wr.bd (by obtain ⟨x, m1, e, h⟩ := h; exact ⟨x, m1, e, _, m1, rfl, h⟩)
theorem WE.notN {a : EF} {Q : D → M → Prop} (h : WE a ρ m fun x m1 => Q (.bl (!isNon x)) m1) : WE (eNotN a) ρ m Q :=
  Wr.bd (by obtain ⟨x, m1, e, h⟩ := h; exact ⟨x, m1, e, _, m1, rfl, h⟩)
theorem WE.not {a : EF} {Q : D → M → Prop} (h : WE a ρ m fun x m1 => ∃ b, x = .bl b ∧ Q (.bl (!b)) m1) : WE (eNot a) ρ m Q :=
  Wr.bd (by obtain ⟨x, m1, e, b, rfl, h⟩ := h; exact ⟨_, m1, e, _, m1, rfl, h⟩)
theorem WE.and {a b : EF} {Q : D → M → Prop} (h : WE a ρ m fun x m1 => ∃ c, x = .bl c ∧ (c = true → WE b ρ m1 Q) ∧ (c = false → Q (.bl false) m1)) : WE (eAnd a b) ρ m Q :=
  Wr.bd (by obtain ⟨x, m1, e, c, rfl, h1, h2⟩ := h; refine ⟨_, m1, e, ?_⟩; cases c <;> first | exact h1 rfl | exact ⟨_, m1, rfl, h2 rfl⟩)
theorem WE.or {a b : EF} {Q : D → M → Prop} (h : WE a ρ m fun x m1 => ∃ c, x = .bl c ∧ (c = false → WE b ρ m1 Q) ∧ (c = true → Q (.bl true) m1)) : WE (eOr a b) ρ m Q :=
  Wr.bd (by obtain ⟨x, m1, e, c, rfl, h1, h2⟩ := h; refine ⟨_, m1, e, ?_⟩; cases c <;> first | exact h1 rfl | exact ⟨_, m1, rfl, h2 rfl⟩)
theorem WO.no {Q : Option Int → M → Prop} (q : Q none m) : WO oNo ρ m Q := ⟨_, m, rfl, q⟩
theorem WO.yes {a : EF} {Q : Option Int → M → Prop} (h : WE a ρ m fun x m1 => ∃ i, x = .int i ∧ Q (some i) m1) : WO (oYes a) ρ m Q :=
  Wr.bd (by obtain ⟨x, m1, e, i, rfl, h⟩ := h; exact ⟨_, m1, e, _, m1, rfl, h⟩)
theorem WE.sl {a : EF} {lo hi : OF} {Q : D → M → Prop} (h : WE a ρ m fun x m1 => WO lo ρ m1 fun l m2 => WO hi ρ m2 fun u m3 => Kn (slD m3 x l u) fun d => Q d m3) : WE (eSl a lo hi) ρ m Q :=
  Wr.bd (by
    obtain ⟨x, m1, e, l, m2, e2, u, m3, e3, h⟩ := h
    exact ⟨x, m1, e, Wr.bd ⟨l, m2, e2, Wr.bd ⟨u, m3, e3, Wr.pu h⟩⟩⟩)
theorem WT.val {a : EF} {Q : Bool → M → Prop} (h : WE a ρ m fun x m1 => ∃ b, x = .bl b ∧ Q b m1) : WT (tVal a) ρ m Q :=
  Wr.bd (by obtain ⟨x, m1, e, b, rfl, h⟩ := h; exact ⟨_, m1, e, _, m1, rfl, h⟩)
theorem WT.and {a b : TF} {Q : Bool → M → Prop} (h : WT a ρ m fun x m1 => (x = true → WT b ρ m1 Q) ∧ (x = false → Q false m1)) : WT (tAnd a b) ρ m Q :=
  Wr.bd (by obtain ⟨x, m1, e, h1, h2⟩ := h; refine ⟨_, m1, e, ?_⟩; cases x <;> first | exact h1 rfl | exact ⟨_, m1, rfl, h2 rfl⟩)
theorem WT.or {a b : TF} {Q : Bool → M → Prop} (h : WT a ρ m fun x m1 => (x = false → WT b ρ m1 Q) ∧ (x = true → Q true m1)) : WT (tOr a b) ρ m Q :=
  Wr.bd (by obtain ⟨x, m1, e, h1, h2⟩ := h; refine ⟨_, m1, e, ?_⟩; cases x <;> first | exact h1 rfl | exact ⟨_, m1, rfl, h2 rfl⟩)
theorem WT.not {a : TF} {Q : Bool → M → Prop} (h : WT a ρ m fun x m1 => Q (!x) m1) : WT (tNot a) ρ m Q :=
  Wr.bd (by obtain ⟨x, m1, e, h⟩ := h; exact ⟨_, m1, e, _, m1, rfl, h⟩)
theorem WT.tt {Q : Bool → M → Prop} (q : Q true m) : WT tTrue ρ m Q := ⟨_, m, rfl, q⟩
theorem WG.nm {i : Nat} {d : D} {Q : Ss → M → Prop} (q : Q (ρ.set i (some d)) m) : WG (gNm i) d ρ m Q := ⟨_, m, rfl, q⟩
theorem WG.setA {o i : EF} {d : D} {Q : Ss → M → Prop} (h : WE o ρ m fun x m1 => WE i ρ m1 fun y m2 => Kn (setM m2 x y d) fun m3 => Q ρ m3) : WG (gSetA o i) d ρ m Q := by
  obtain ⟨x, m1, e1, y, m2, e2, m3, e3, q⟩ := h
  refine ⟨ρ, m3, ?_, q⟩
  unfold gSetA
  rw [e1]
  show bd (i ρ m1) _ = _
  rw [e2]
  show (setM m2 x y d).map _ = _
  rw [e3]
  rfl
theorem WS.asg {a : EF} {g : GF} {Q : Fl → M → Prop} (h : WE a ρ m fun d m1 => WG g d ρ m1 fun ρ1 m2 => Q (.nx ρ1) m2) : WS (sAsg a g) ρ m Q :=
  Wr.bd (by obtain ⟨x, m1, e, ρ1, m2, e2, h⟩ := h; exact ⟨x, m1, e, Wr.bd ⟨ρ1, m2, e2, _, m2, rfl, h⟩⟩)
theorem WS.drop {a : EF} {Q : Fl → M → Prop} (h : WE a ρ m fun d m1 => Q (.nx ρ) m1) : WS (sDrop a) ρ m Q :=
  Wr.bd (by obtain ⟨x, m1, e, h⟩ := h; exact ⟨x, m1, e, _, m1, rfl, h⟩)
theorem WS.ret {a : EF} {Q : Fl → M → Prop} (h : WE a ρ m fun d m1 => Q (.rt d) m1) : WS (sRet a) ρ m Q :=
  Wr.bd (by obtain ⟨x, m1, e, h⟩ := h; exact ⟨x, m1, e, _, m1, rfl, h⟩)
theorem WS.retN {Q : Fl → M → Prop} (h : Q (.rt .non) m) : WS sRetN ρ m Q := ⟨_, m, rfl, h⟩
theorem WS.nop {Q : Fl → M → Prop} (h : Q (.nx ρ) m) : WS sNop ρ m Q := ⟨_, m, rfl, h⟩
theorem WS.brk {Q : Fl → M → Prop} (h : Q (.bk ρ) m) : WS sBrk ρ m Q := ⟨_, m, rfl, h⟩
theorem WS.cont {Q : Fl → M → Prop} (h : Q (.ct ρ) m) : WS sCont ρ m Q := ⟨_, m, rfl, h⟩
theorem WS.sif {c : TF} {a b : SF} {Q : Fl → M → Prop} (h : WT c ρ m fun x m1 => WS (if x then a else b) ρ m1 Q) : WS (sIf c a b) ρ m Q :=
  Wr.bd (by obtain ⟨x, m1, e, h⟩ := h; refine ⟨x, m1, e, ?_⟩; cases x <;> exact h)
theorem WS.seq {a b : SF} {Q : Fl → M → Prop} (h : WS a ρ m (sqk b Q)) : WS (sSeq a b) ρ m Q := by
  obtain ⟨r, m1, e, h⟩ := h
  unfold WS Wr sSeq
  rw [e]
  cases r <;> first | exact h | exact ⟨_, m1, rfl, h⟩
theorem WS.nx {b : SF} {Q : Fl → M → Prop} (h : WS b ρ m Q) : sqk b Q (.nx ρ) m := h
theorem WS.rt {b : SF} {Q : Fl → M → Prop} {d : D} (h : Q (.rt d) m) : sqk b Q (.rt d) m := h
theorem WS.aug {i : Nat} {f : M → D → D → Option D} {a : EF} {Q : Fl → M → Prop} {x : D} (h0 : ρ.getD i none = some x) (h : WE a ρ m fun y m1 => Kn (f m1 x y) fun d => Q (.nx (ρ.set i (some d))) m1) : WS (sAug i f a) ρ m Q := by
  obtain ⟨y, m1, e, d, e2, q⟩ := h
  refine ⟨_, m1, ?_, q⟩
  unfold sAug
  rw [h0]
  show bd (a ρ m) _ = _
  rw [e]
  show bd (pu (f m1 x y) m1) _ = _
  rw [e2]
  rfl
theorem WS.par {is : List Nat} {a : AF} {Q : Fl → M → Prop} (h : WA a ρ m fun xs m1 => xs.length = is.length ∧ Q (.nx (setMany ρ is xs)) m1) : WS (sPar is a) ρ m Q :=
  Wr.bd (by obtain ⟨x, m1, e, h1, h2⟩ := h; exact ⟨x, m1, e, _, m1, if_pos h1, h2⟩)
/-- a walk over what is there at its start -/
def WI (f : AF) (ρ : Ss) (m : M) (Q : List D → M → Prop) : Prop := Wr (f ρ m) Q
theorem WI.it {a : EF} {Q : List D → M → Prop} (h : WE a ρ m fun x m1 => Kn (items x) fun ds => Q ds m1) : WI (iIt a) ρ m Q :=
  Wr.bd (by obtain ⟨x, m1, e, h⟩ := h; exact ⟨x, m1, e, Wr.pu h⟩)
theorem WI.r1 {a : AF} {Q : List D → M → Prop} (h : WA a ρ m fun xs m1 => ∃ j : Int, xs = [.int j] ∧ (-1000000 ≤ j ∧ j ≤ 1000000) ∧ Q (rngD 0 j.toNat) m1) : WI (iR1 a) ρ m Q :=
  Wr.bd (by obtain ⟨x, m1, e, j, rfl, hj, h⟩ := h; exact ⟨_, m1, e, _, m1, if_pos ⟨by omega, by omega⟩, h⟩)
/-- a loop whose turns keep to an invariant and leave it never -/
theorem WS.forI {it : AF} {g : GF} {b : SF} {Q : Fl → M → Prop} (I : Nat → Ss → M → Prop) (h : WI it ρ m fun xs m1 => I 0 ρ m1 ∧ (∀ i x ρ m, xs[i]? = some x → I i ρ m → WG g x ρ m fun ρ1 m1 => WS b ρ1 m1 fun r m2 => ∃ ρ2, (r = .nx ρ2 ∨ r = .ct ρ2) ∧ I (i + 1) ρ2 m2) ∧ ∀ ρ m, I xs.length ρ m → Q (.nx ρ) m) : WS (sFor it g b) ρ m Q :=
  Wr.bd (by
    obtain ⟨xs, m1, e, h1, h2, h3⟩ := h
    obtain ⟨ρ', m', e2, h4⟩ := forGo_inv (f := g) (b := b) I xs 0 ρ m1 h1 (by
      intro j x ρ m hx hI
      rw [Nat.zero_add] at hI
      obtain ⟨ρ1, m1, e1, r, m2, e2, ρ2, hr, h⟩ := h2 j x ρ m hx hI
      exact ⟨ρ1, m1, e1, r, m2, e2, ρ2, hr, by rw [Nat.zero_add]; exact h⟩)
    rw [Nat.zero_add] at h4
    exact ⟨xs, m1, e, _, m', e2, h3 _ _ h4⟩)
/-- the end: a function that is called -/
theorem WS.runP {a n : Nat} {b : SF} {ds : List D} {d : D} (h : WS b (startD n ds) [] fun r m => ∃ y, r = .rt y ∧ frz m y = some d) (hl : ds.length = a) : runP a n b ds = some d := by
  obtain ⟨r, m1, e, y, rfl, q⟩ := h
  unfold L4.runP
  rw [if_pos hl, e]
  exact q
theorem WS.runM {a n : Nat} {b : SF} {ds : List D} {Q : D → M → Prop} (h : WS b (startD n ds) m fun r m1 => (∃ y, r = .rt y ∧ Q y m1) ∨ ∃ ρ, r = .nx ρ ∧ Q .non m1) (hl : ds.length = a) : Wr (runM a n b ds m) Q := by
  obtain ⟨r, m1, e, h⟩ := h
  unfold L4.runM
  rw [if_pos hl, e]
  rcases h with ⟨y, rfl, q⟩ | ⟨ρ, rfl, q⟩
  · exact ⟨y, m1, rfl, q⟩
  · exact ⟨.non, m1, rfl, q⟩
end
end L4
namespace L4
open PySem
section
variable {ρ : Ss} {m : M} {Q : D → Prop}
theorem wsz {n : Nat} (h : n ≤ 1000) : n ≤ sizeLine := by rw [sizeLine_eq]; omega
theorem Kn.call {F : List D → Option D} {xs : List D} {d : D} (hp : pureL xs = true) (e : F xs = some d) (q : Q d) : Kn (callP F m xs) Q := ⟨d, by unfold callP; rw [if_pos hp]; exact e, q⟩
theorem Kn.add_i {i j : Int} (q : Q (.int (i + j))) : Kn (addD m (.int i) (.int j)) Q := ⟨_, rfl, q⟩
theorem Kn.sub {i j : Int} (q : Q (.int (i - j))) : Kn (subD m (.int i) (.int j)) Q := ⟨_, rfl, q⟩
theorem Kn.fdiv {i j : Int} (h : 0 < j ∧ j < 1073741824) (q : Q (.int (i / j))) : Kn (fdivD m (.int i) (.int j)) Q := ⟨_, if_pos h, q⟩
theorem Kn.mod {i j : Int} (h : 0 < j) (q : Q (.int (i % j))) : Kn (modD m (.int i) (.int j)) Q := ⟨_, if_pos h, q⟩
theorem Kn.neg {i : Int} (q : Q (.int (-i))) : Kn (negD m (.int i)) Q := ⟨_, rfl, q⟩
theorem w_eq_int {i j : Int} : eqD m (.int i) (.int j) = some (.bl (i == j)) := by
  have hi : ∀ i : Int, pdM m (.int i) = some (.int i) := fun i => by
    have h1 : SeqAt.shaped (PyData.int i) = true := rfl
    simp [pdM, frz, pureD, pd, h1]
  simp [eqD, hi, PyData.eqv]
theorem w_ne_int {i j : Int} : neD m (.int i) (.int j) = some (.bl (!(i == j))) := by
  have hi : ∀ i : Int, pdM m (.int i) = some (.int i) := fun i => by
    have h1 : SeqAt.shaped (PyData.int i) = true := rfl
    simp [pdM, frz, pureD, pd, h1]
  simp [neD, hi, PyData.eqv]
theorem Kn.eq_i {i j : Int} (q : Q (.bl (i == j))) : Kn (eqD m (.int i) (.int j)) Q := ⟨_, w_eq_int, q⟩
theorem Kn.ne_i {i j : Int} (q : Q (.bl (!(i == j)))) : Kn (neD m (.int i) (.int j)) Q := ⟨_, w_ne_int, q⟩
theorem Kn.lt {i j : Int} (q : Q (.bl (decide (i < j)))) : Kn (ltD m (.int i) (.int j)) Q := ⟨_, rfl, q⟩
theorem Kn.le {i j : Int} (q : Q (.bl (decide (i ≤ j)))) : Kn (leD m (.int i) (.int j)) Q := ⟨_, rfl, q⟩
theorem Kn.gt {i j : Int} (q : Q (.bl (decide (j < i)))) : Kn (gtD m (.int i) (.int j)) Q := ⟨_, rfl, q⟩
theorem Kn.ge {i j : Int} (q : Q (.bl (decide (j ≤ i)))) : Kn (geD m (.int i) (.int j)) Q := ⟨_, rfl, q⟩
theorem Kn.int_i {i : Int} (q : Q (.int i)) : Kn (intD m [.int i]) Q := ⟨_, rfl, q⟩
theorem Kn.int_b {b : Bool} (q : Q (.int (if b then 1 else 0))) : Kn (intD m [.bl b]) Q := ⟨_, rfl, q⟩
theorem Kn.abs {i : Int} (q : Q (.int (if i < 0 then -i else i))) : Kn (absD m [.int i]) Q := ⟨_, rfl, q⟩
theorem Kn.min2 {i j : Int} (q : Q (.int (if j < i then j else i))) : Kn (min2D m [.int i, .int j]) Q := ⟨_, rfl, q⟩
theorem Kn.max2 {i j : Int} (q : Q (.int (if j > i then j else i))) : Kn (max2D m [.int i, .int j]) Q := ⟨_, rfl, q⟩
theorem Kn.len_t {ds : List D} (q : Q (.int ds.length)) : Kn (lenD m [.tup ds]) Q := ⟨_, rfl, q⟩
theorem Kn.len_l {ds : List D} (q : Q (.int ds.length)) : Kn (lenD m [.lst ds]) Q := ⟨_, rfl, q⟩
theorem Kn.len_s {ds : List D} (q : Q (.int ds.length)) : Kn (lenD m [.scr ds]) Q := ⟨_, rfl, q⟩
theorem Kn.tup_t {ds : List D} (q : Q (.tup ds)) : Kn (tupD m [.tup ds]) Q := ⟨_, rfl, q⟩
theorem Kn.tup_l {ds : List D} (q : Q (.tup ds)) : Kn (tupD m [.lst ds]) Q := ⟨_, rfl, q⟩
theorem Kn.lis_t {ds : List D} (q : Q (.lst ds)) : Kn (lisD m [.tup ds]) Q := ⟨_, rfl, q⟩
theorem Kn.lis_l {ds : List D} (q : Q (.lst ds)) : Kn (lisD m [.lst ds]) Q := ⟨_, rfl, q⟩
theorem Kn.seq_t {Q : List D → Prop} {ds : List D} (q : Q ds) : Kn (seqD m (.tup ds)) Q := ⟨_, rfl, q⟩
theorem Kn.seq_l {Q : List D → Prop} {ds : List D} (q : Q ds) : Kn (seqD m (.lst ds)) Q := ⟨_, rfl, q⟩
theorem Kn.it_t {Q : List D → Prop} {ds : List D} (q : Q ds) : Kn (items (.tup ds)) Q := ⟨_, rfl, q⟩
theorem Kn.it_l {Q : List D → Prop} {ds : List D} (q : Q ds) : Kn (items (.lst ds)) Q := ⟨_, rfl, q⟩
theorem Kn.it_s {Q : List D → Prop} {ds : List D} (q : Q ds) : Kn (items (.scr ds)) Q := ⟨_, rfl, q⟩
theorem Kn.ix_l {ds : List D} {i : Nat} {d : D} (h : ds[i]? = some d) (q : Q d) : Kn (ixA m (.lst ds) (.int (i : Nat))) Q := ⟨d, by rw [ixA_lst]; exact L2.atI_nat h, q⟩
theorem Kn.sl_t {ds : List D} {lo hi : Option Int} (q : Q (.tup (cutD ds lo hi))) : Kn (slD m (.tup ds) lo hi) Q := ⟨_, rfl, q⟩
theorem Kn.sl_l {ds : List D} {lo hi : Option Int} (q : Q (.lst (cutD ds lo hi))) : Kn (slD m (.lst ds) lo hi) Q := ⟨_, rfl, q⟩
end
section
variable {ρ : Ss} {m : M} {Q : D → M → Prop}
theorem WG.one {i : Nat} {d : D} {Q : Ss → M → Prop} (q : Q (ρ.set i (some d)) m) : WG (gTgt (.one i)) d ρ m Q := ⟨_, m, rfl, q⟩
theorem WG.tup {is : List Nat} {ds : List D} {Q : Ss → M → Prop} (h : ds.length = is.length) (q : Q (setMany ρ is ds) m) : WG (gTgt (.many is)) (.tup ds) ρ m Q := ⟨setMany ρ is ds, m, by
  show (match (if ds.length = is.length then some ds else none) with | some ds => some (setMany ρ is ds, m) | none => none) = _
  rw [if_pos h], q⟩
/-- xs.append(e) -/
theorem WE.app {o e : EF} (h : WE o ρ m fun x m1 => ∃ n, x = .ref n ∧ (∃ ds0, m1[n]? = some (.lst ds0)) ∧ WE e ρ m1 fun y m2 => ∃ ds, m2[n]? = some (.lst ds) ∧ ds.length < sizeLine ∧ Q .non (m2.set n (.lst (ds ++ [y])))) : WE (eLm0 (fun _ => appL) o (aCons e aNil)) ρ m Q := by
  obtain ⟨x, m1, e1, n, rfl, ⟨ds0, h0⟩, y, m2, e2, ds, h1, h2, q⟩ := h
  refine ⟨.non, _, ?_, q⟩
  unfold eLm0
  rw [e1]
  show (match m1[n]? with
    | some (.lst _) => bd (aCons e aNil ρ m1) fun ys m2 => match m2[n]? with
      | some (.lst ds) => (appL ds ys).map fun (r : D × List D) => (r.1, m2.set n (.lst r.2))
      | _ => none
    | _ => none) = _
  rw [h0]
  have ea : aCons e aNil ρ m1 = some ([y], m2) := by unfold aCons; rw [e2]; rfl
  show bd (aCons e aNil ρ m1) _ = _
  rw [ea]
  show (match m2[n]? with
      | some (.lst ds) => (appL ds [y]).map fun (r : D × List D) => (r.1, m2.set n (.lst r.2))
      | _ => none) = _
  rw [h1]
  show (if ds.length < sizeLine then some (D.non, ds ++ [y]) else none).map _ = _
  rw [if_pos h2]
  rfl
/-- [e for .. in ..], over what is there at its start -/
theorem WE.lcK {nw : Bool} {it : AF} {t : Tgt} {c : TF} {e : EF} (h : WI it ρ m fun xs m1 => xs.length ≤ 1000000 ∧ Wr (compGo t c e ρ xs m1) fun ys m2 => Q (bif nw then .ref m2.length else .lst ys) (bif nw then m2 ++ [.lst ys] else m2)) : WE (eLcK nw it t c e) ρ m Q :=
  Wr.bd (by
    obtain ⟨xs, m1, e1, h1, ys, m2, e2, q⟩ := h
    refine ⟨xs, m1, e1, _, _, (if_pos h1).trans ?_, q⟩
    rw [e2]
    cases nw <;> rfl)
theorem WE.lcV {nw : Bool} {it : LF} {t : Tgt} {c : TF} {e : EF} (h : Wr (it ρ m) fun nx m1 => Wr (compLv t c e nx ρ 1000001 0 m1) fun ys m2 => Q (bif nw then .ref m2.length else .lst ys) (bif nw then m2 ++ [.lst ys] else m2)) : WE (eLcV nw it t c e) ρ m Q :=
  Wr.bd (by
    obtain ⟨nx, m1, e1, ys, m2, e2, q⟩ := h
    refine ⟨nx, m1, e1, _, _, ?_, q⟩
    rw [e2]
    cases nw <;> rfl)
theorem WE.tupR {a : AF} (h : WA a ρ m fun xs m1 => Kn (rgA xs) fun ds => Q (.tup ds) m1) : WE (eTupR a) ρ m Q :=
  Wr.bd (by obtain ⟨xs, m1, e, ds, e2, q⟩ := h; exact ⟨xs, m1, e, _, m1, by rw [e2]; rfl, q⟩)
theorem WE.lisR {a : AF} {nw : Bool} (h : WA a ρ m fun xs m1 => Kn (rgA xs) fun ds => Q (bif nw then .ref m1.length else .lst ds) (bif nw then m1 ++ [.lst ds] else m1)) : WE (eLisR nw a) ρ m Q :=
  Wr.bd (by obtain ⟨xs, m1, e, ds, e2, q⟩ := h; exact ⟨xs, m1, e, _, _, by rw [e2]; cases nw <;> rfl, q⟩)
end
end L4
namespace L4
section
variable {ρ : Ss} {m : M}
theorem WS.ite_t {x : Bool} {a b : SF} {Q : Fl → M → Prop} (h : x = true) (q : WS a ρ m Q) : WS (if x then a else b) ρ m Q := by rw [if_pos h]; exact q
theorem WS.ite_f {x : Bool} {a b : SF} {Q : Fl → M → Prop} (h : x = false) (q : WS b ρ m Q) : WS (if x then a else b) ρ m Q := by rw [h]; exact q
theorem WE.ite_t {x : Bool} {a b : EF} {Q : D → M → Prop} (h : x = true) (q : WE a ρ m Q) : WE (if x then a else b) ρ m Q := by rw [if_pos h]; exact q
theorem WE.ite_f {x : Bool} {a b : EF} {Q : D → M → Prop} (h : x = false) (q : WE b ρ m Q) : WE (if x then a else b) ρ m Q := by rw [h]; exact q
end
end L4
namespace L4
open PySem
section
variable {ρ : Ss} {m : M} {Q : D → M → Prop} {α : Type}
/-- a walk tells these things in turn -/
def Tells (nx : NX) (m : M) (g : Nat → α → D) (ds : List α) : Prop := ∀ i, i ≤ ds.length → nx m i = some ((ds[i]?).map (g i))
def pickF (b : Nat → α → Bool) (f : Nat → α → D) : Nat → List α → List D
  | _, [] => []
  | i, x :: xs => (bif b i x then [f i x] else []) ++ pickF b f (i + 1) xs
theorem compLv_go {t : Tgt} {c : TF} {el : EF} {nx : NX} {g : Nat → α → D} (b : Nat → α → Bool) (f : Nat → α → D) {ds : List α} (hn : Tells nx m g ds) : ∀ (rest pre : List α) (k : Nat), ds = pre ++ rest → rest.length < k →
    (∀ (i : Nat) x, ds[i]? = some x → ∃ ys, t.un (g i x) = some ys ∧ c (setMany ρ t.is ys) m = some (b i x, m) ∧ (b i x = true → el (setMany ρ t.is ys) m = some (f i x, m))) →
    compLv t c el nx ρ k pre.length m = some (pickF b f pre.length rest, m)
  | [], pre, 0, _, h, _ => by simp at h
  | _ :: _, pre, 0, _, h, _ => by simp at h
  | [], pre, k + 1, e, _, _ => by
    have h2 := hn pre.length (by simp [e])
    have h1 : ds[pre.length]? = none := by simp [e]
    rw [h1] at h2
    unfold compLv
    rw [h2]
    rfl
  | x :: rest, pre, k + 1, e, hk, h => by
    have hx : ds[pre.length]? = some x := by simp [e]
    have h2 := hn pre.length (by simp [e])
    rw [hx] at h2
    have ih := compLv_go (t := t) (c := c) (el := el) b f hn rest (pre ++ [x]) k (by simp [e]) (by simp at hk; omega) h
    have e3 : pre.length + 1 = (pre ++ [x]).length := by simp
    obtain ⟨ys, q1, q2, q3⟩ := h _ _ hx
    unfold compLv
    rw [h2]
    dsimp only [Option.map_some]
    rw [q1]
    dsimp only
    rw [q2]
    show (if b pre.length x = true then _ else _) = _
    cases hb : b pre.length x
    · rw [if_neg (by simp), e3, ih, pickF, hb, ← e3]
      rfl
    · rw [if_pos rfl, q3 hb, e3]
      show bd (compLv _ _ _ _ _ _ _ _) _ = _
      rw [ih, pickF, hb, ← e3]
      rfl
/-- [e for .. in xs if c], nothing drawn -/
theorem WE.lcT {it : LF} {t : Tgt} {c : TF} {e : EF} {nx : NX} {g : Nat → α → D} (b : Nat → α → Bool) (f : Nat → α → D) {ds : List α} (hi : it ρ m = some (nx, m)) (hn : Tells nx m g ds) (hl : ds.length < 1000000)
    (h : ∀ (i : Nat) x, ds[i]? = some x → ∃ ys, t.un (g i x) = some ys ∧ WT c (setMany ρ t.is ys) m (fun v m1 => v = b i x ∧ m1 = m) ∧ (b i x = true → WE e (setMany ρ t.is ys) m fun v m1 => v = f i x ∧ m1 = m))
    (q : Q (.lst (pickF b f 0 ds)) m) : WE (eLcV false it t c e) ρ m Q :=
  WE.lcV ⟨nx, m, hi, pickF b f 0 ds, m, compLv_go (t := t) (c := c) (el := e) b f hn ds [] 1000001 rfl (by omega) (fun i x hx => by
    obtain ⟨ys, h1, ⟨v, m1, e1, rfl, rfl⟩, h3⟩ := h i x hx
    exact ⟨ys, h1, e1, fun hb => by obtain ⟨v, m2, e2, rfl, rfl⟩ := h3 hb; exact e2⟩), q⟩
/-- [e for .. in xs], with draws: an invariant; what is found is told by P -/
theorem WE.lcI {it : AF} {t : Tgt} {e : EF} (I : M → List D → Prop) (h : WI it ρ m fun xs m1 => xs.length ≤ 1000000 ∧ I m1 [] ∧ (∀ i x m acc, xs[i]? = some x → acc.length = i → I m acc → ∃ ys, t.un x = some ys ∧ WE e (setMany ρ t.is ys) m fun d m1 => I m1 (acc ++ [d])) ∧ ∀ m acc, acc.length = xs.length → I m acc → Q (.lst acc) m) : WE (eLcK false it t tTrue e) ρ m Q := by
  refine WE.lcK ?_
  obtain ⟨xs, m1, e1, hz, h0, hs, hq⟩ := h
  refine ⟨xs, m1, e1, hz, ?_⟩
  have key : ∀ (rest pre : List D) (m2 : M) (acc : List D), xs = pre ++ rest → acc.length = pre.length → I m2 acc → ∃ ys m3, compGo t tTrue e ρ rest m2 = some (ys, m3) ∧ ys.length = rest.length ∧ I m3 (acc ++ ys) := by
    intro rest
    induction rest with
    | nil => intro pre m2 acc _ _ hI; exact ⟨[], m2, rfl, rfl, by simpa using hI⟩
    | cons x rest ih =>
      intro pre m2 acc ex hl hI
      have hx : xs[pre.length]? = some x := by simp [ex]
      obtain ⟨ys, q1, d, m3, q2, q3⟩ := hs pre.length x m2 acc hx hl hI
      obtain ⟨zs, m4, q4, q5, q6⟩ := ih (pre ++ [x]) m3 (acc ++ [d]) (by simp [ex]) (by simp [hl]) q3
      refine ⟨d :: zs, m4, ?_, by simp [q5], by simpa [List.append_assoc] using q6⟩
      unfold compGo
      rw [q1]
      show bd (e (setMany ρ t.is ys) m2) _ = _
      rw [q2]
      show bd (compGo t tTrue e ρ rest m3) _ = _
      rw [q4]
      rfl
  obtain ⟨ys, m3, k1, k2, k3⟩ := key xs [] m1 [] rfl rfl h0
  exact ⟨ys, m3, k1, hq m3 ys k2 (by simpa using k3)⟩
end
end L4
namespace L4
open PySem
section
variable {m : M}
theorem pdM_pure {x : D} {p : PyData} (hp : pureD x = true) (h : pd x = some p) (hs : SeqAt.shaped p = true) : pdM m x = some p := by
  unfold pdM frz
  rw [if_pos hp]
  show (match pd x with | some a => if SeqAt.shaped a then some a else none | none => none) = _
  rw [h]
  exact if_pos hs
theorem pdM_lay {x : D} {p : PyData} (h : pdM m x = some p) : p.canLay0 = true := by
  unfold pdM at h
  split at h
  · obtain ⟨hz, h⟩ := ite_some h
    cases h
    exact SeqAt.canLay_of_shaped hz
  · cases h
theorem ne_same {x : D} {p : PyData} (h : pdM m x = some p) : neD m x x = some (.bl false) := by
  unfold neD
  rw [h]
  show some (D.bl (!PyData.eqv p p)) = _
  rw [PySem.SeqAt.eqv_refl p (pdM_lay h)]
  rfl
end
end L4
namespace L4
open PySem
section
variable {ρ : Ss} {m : M}
theorem w_and_t {x : Bool} {A B : Prop} (h : x = true) (a : A) : (x = true → A) ∧ (x = false → B) := ⟨fun _ => a, fun h' => (by rw [h] at h'; cases h')⟩
theorem w_and_f {x : Bool} {A B : Prop} (h : x = false) (b : B) : (x = true → A) ∧ (x = false → B) := ⟨fun h' => (by rw [h] at h'; cases h'), fun _ => b⟩
theorem w_or_f {x : Bool} {A B : Prop} (h : x = false) (a : A) : (x = false → A) ∧ (x = true → B) := ⟨fun _ => a, fun h' => (by rw [h] at h'; cases h')⟩
theorem w_or_t {x : Bool} {A B : Prop} (h : x = true) (b : B) : (x = false → A) ∧ (x = true → B) := ⟨fun h' => (by rw [h] at h'; cases h'), fun _ => b⟩
theorem WS.mono {f : SF} {P Q : Fl → M → Prop} (h : WS f ρ m P) (k : ∀ r m, P r m → Q r m) : WS f ρ m Q := by
  obtain ⟨r, m1, e, h⟩ := h
  exact ⟨r, m1, e, k r m1 h⟩
end
end L4
namespace L4
open PySem PySem.Spec PyProof.Rows L2
/-- a list or a dict that may change -/
def Ll : HO → Prop
  | .lst _ => True
  | .dK _ => True
  | .ext _ => True
  | _ => False
section
variable {X : Cx} {g : G} {T : Tk} {H H' : Hp} {m : M} {pos p : Pos} {e : Expr} {es : List Expr} {k n : Nat} {x c : Str}
structure LentLd (T : Tk) (H H' : Hp) (ν : List Addr) : Prop where
  sub : ∀ a ∈ ν, a ∈ T.ν
  ld : ∀ a ∈ T.ν, a ∉ ν → ∃ u, H' a = some u ∧ Ll u
theorem LentLd.out {ν : List Addr} (h : LentLd T H H' ν) {a : Addr} {v : HO} (n : a ∉ ν) (e : H' a = some v) (hv : ¬ Ll v) : a ∉ T.ν := fun z => by
  obtain ⟨u, h2, h3⟩ := h.ld a z n
  rw [e] at h2
  cases h2
  exact hv h3
end
end L4
namespace L4
open PySem
theorem txts_map : ∀ ws : List Str, txts (ws.map D.str) = some ws
  | [] => rfl
  | w :: ws => by
    show (txts (ws.map D.str)).map (w :: ·) = _
    rw [txts_map ws]
    rfl
section
variable {m : M} {Q : D → Prop} {ρ : Ss}
/-- ' '.join of words -/
theorem Kn.join {a : Str} {y : D} {ws : List Str} (hy : seqD m y = some (ws.map D.str)) (hz : (ws.map (·.length)).sum + ws.length * a.length ≤ 16777216) (q : Q (.str (joinT a ws))) : Kn (joinD m (.str a) y) Q := ⟨_, by
  show ((seqD m y).bind txts).bind (joinS a) = _
  rw [hy]
  show (txts (ws.map D.str)).bind (joinS a) = _
  rw [txts_map]
  exact if_pos hz, q⟩
theorem WE.m1 {F : M → D → D → Option D} {a b : EF} {Q : D → M → Prop} (h : WE a ρ m fun x m1 => ∃ z, x = .str z ∧ WE b ρ m1 fun y m2 => Kn (F m2 (.str z) y) fun d => Q d m2) : WE (eM1 F a b) ρ m Q := by
  obtain ⟨x, m1, e1, z, rfl, y, m2, e2, d, e3, q⟩ := h
  refine ⟨d, m2, ?_, q⟩
  unfold eM1
  rw [e1]
  show bd (b ρ m1) _ = _
  rw [e2]
  show pu (F m2 (.str z) y) m2 = _
  rw [e3]
  rfl
theorem Kn.str_s {x : Str} (q : Q (.str x)) : Kn (strT m [.str x]) Q := ⟨_, rfl, q⟩
end
end L4
namespace L4
open PySem
section
variable {m : M} {ρ : Ss} {Q : D → M → Prop}
theorem WE.newPL {i : Nat} {c : Str} {F : List D → M → Option (D × M)} {a : AF} (h0 : ρ.getD i none = some (.glo c)) (h : WA a ρ m fun xs m1 => Kn (pureC (newP c F) m1 xs) fun d => Q d m1) : WE (eNewPL i c F a) ρ m Q := by
  obtain ⟨d, m1, e, q⟩ := WE.call h
  refine ⟨d, m1, ?_, q⟩
  unfold eNewPL
  rw [h0]
  show (if c = c then eCall (pureC (newP c F)) a ρ m else none) = _
  rw [if_pos rfl]
  exact e
theorem WE.tbl {tb : List (Str × D)} {a : EF} (h : WE a ρ m fun y m1 => Kn (tblGet tb y) fun d => Q d m1) : WE (eTbl tb a) ρ m Q :=
  Wr.bd (by obtain ⟨y, m1, e, h⟩ := h; exact ⟨y, m1, e, Wr.pu h⟩)
theorem WE.tblNin {tb : List (Str × D)} {a : EF} (h : WE a ρ m fun y m1 => ∃ z, y = .str z ∧ Q (.bl (!(tb.lookup z).isSome)) m1) : WE (eTblNin tb a) ρ m Q :=
  Wr.bd (by obtain ⟨y, m1, e, z, rfl, h⟩ := h; exact ⟨_, m1, e, _, m1, rfl, h⟩)
end
end L4
namespace L4
open PySem
section
variable {m : M} {ρ : Ss} {Q : D → M → Prop}
/-- {k: e, ..} -/
def WP (ps : List (EF × EF)) (ρ : Ss) (m : M) (Q : List (D × D) → M → Prop) : Prop := Wr (pairsF ps ρ m) Q
theorem WP.nil {Q : List (D × D) → M → Prop} (q : Q [] m) : WP [] ρ m Q := ⟨[], m, rfl, q⟩
theorem WP.cons {a b : EF} {r : List (EF × EF)} {Q : List (D × D) → M → Prop} (h : WE a ρ m fun x m1 => WE b ρ m1 fun y m2 => WP r ρ m2 fun ps m3 => Q ((x, y) :: ps) m3) : WP ((a, b) :: r) ρ m Q := by
  obtain ⟨x, m1, e1, y, m2, e2, ps, m3, e3, q⟩ := h
  refine ⟨(x, y) :: ps, m3, ?_, q⟩
  unfold pairsF
  rw [e1]
  show bd (b ρ m1) _ = _
  rw [e2]
  show bd (pairsF r ρ m2) _ = _
  rw [e3]
  rfl
theorem WE.disp {nw : Bool} {ps : List (EF × EF)} (h : WP ps ρ m fun qs m1 => ((qs.all fun q => isFlat q.1) && decide (qs.length ≤ 15)) = true ∧ Q (bif nw then .ref m1.length else .dic (mergeD qs ([], [])).1 (mergeD qs ([], [])).2) (bif nw then m1 ++ [.dic (mergeD qs ([], [])).1 (mergeD qs ([], [])).2] else m1)) : WE (eDisp nw ps) ρ m Q :=
  Wr.bd (by obtain ⟨qs, m1, e, h1, q⟩ := h; exact ⟨qs, m1, e, _, _, (if_pos h1).trans (by cases nw <;> rfl), q⟩)
/-- d.update(e) -/
theorem WE.upd {a b : EF} (h : WE a ρ m fun x m1 => ∃ n, x = .ref n ∧ (∃ ks0 vs0, m1[n]? = some (.dic ks0 vs0) ∧ flatL ks0 = true) ∧ WE b ρ m1 fun y m2 => ∃ ks vs ks2 vs2, m2[n]? = some (.dic ks vs) ∧ y = .dic ks2 vs2 ∧ (flatL ks && flatL ks2 && decide (ks.length + ks2.length ≤ sizeLine) && decide (ks2.length = vs2.length)) = true ∧ Q .non (m2.set n (.dic (mergeD (ks2.zip vs2) (ks, vs)).1 (mergeD (ks2.zip vs2) (ks, vs)).2))) : WE (eUpd a b) ρ m Q := by
  obtain ⟨x, m1, e1, n, rfl, ⟨ks0, vs0, h0, hf0⟩, y, m2, e2, ks, vs, ks2, vs2, h1, rfl, h2, q⟩ := h
  refine ⟨.non, _, ?_, q⟩
  unfold eUpd
  rw [e1]
  show (match m1[n]? with
    | some (.dic ks0 _) => if flatL ks0 then bd (b ρ m1) fun y m2 => match m2[n]?, y with
        | some (.dic ks vs), .dic ks2 vs2 => if flatL ks && flatL ks2 && decide (ks.length + ks2.length ≤ sizeLine) && decide (ks2.length = vs2.length) then some (D.non, m2.set n (.dic (mergeD (ks2.zip vs2) (ks, vs)).1 (mergeD (ks2.zip vs2) (ks, vs)).2)) else none
        | _, _ => none
      else none
    | _ => none) = _
  rw [h0]
  show (if flatL ks0 then bd (b ρ m1) _ else none) = _
  rw [if_pos hf0, e2]
  show (match m2[n]?, D.dic ks2 vs2 with
        | some (.dic ks vs), .dic ks2 vs2 => if flatL ks && flatL ks2 && decide (ks.length + ks2.length ≤ sizeLine) && decide (ks2.length = vs2.length) then some (D.non, m2.set n (.dic (mergeD (ks2.zip vs2) (ks, vs)).1 (mergeD (ks2.zip vs2) (ks, vs)).2)) else none
        | _, _ => none) = _
  rw [h1]
  exact if_pos h2
theorem WE.chain {f h : M → D → D → Option D} {a b c : EF} (q : WE a ρ m fun x m1 => WE b ρ m1 fun y m2 => Kn (f m2 x y) fun d => ∃ v, d = .bl v ∧ (v = true → WE c ρ m2 fun z m3 => Kn (h m3 y z) fun d2 => Q d2 m3) ∧ (v = false → Q (.bl false) m2)) : WE (eChain f h a b c) ρ m Q := by
  obtain ⟨x, m1, e1, y, m2, e2, d, e3, v, rfl, q1, q2⟩ := q
  unfold eChain WE
  show Wr (bd (a ρ m) _) Q
  rw [e1]
  show Wr (bd (b ρ m1) _) Q
  rw [e2]
  show Wr (match f m2 x y with
    | some (.bl true) => bd (c ρ m2) fun z m3 => pu (h m3 y z) m3
    | some (.bl false) => some (.bl false, m2)
    | _ => none) Q
  rw [e3]
  cases v
  · exact ⟨_, m2, rfl, q2 rfl⟩
  · obtain ⟨z, m3, e4, d2, e5, q⟩ := q1 rfl
    refine ⟨d2, m3, ?_, q⟩
    show bd (c ρ m2) _ = _
    rw [e4]
    show pu (h m3 y z) m3 = _
    rw [e5]
    rfl
end
end L4
namespace L4
open PySem
end L4
namespace L4
open PySem
end L4
namespace L4
open PySem
section
variable {m : M} {ρ : Ss} {Q : D → M → Prop}
/-- a field of an object -/
def Fld (m : M) (x : D) (cs : List Str) (f : Str) (Q : D → Prop) : Prop := ∃ c ns vs v, insOf m x = some (c, ns, vs) ∧ cs.contains c = true ∧ fldAt ns vs f = some v ∧ Q v
theorem WE.fldF {cs : List Str} {f : Str} {o : EF} (h : WE o ρ m fun x m1 => Fld m1 x cs f fun v => Q v m1) : WE (eFld cs f o) ρ m Q := by
  obtain ⟨x, m1, e, c, ns, vs, v, h1, h2, h3, q⟩ := h
  refine ⟨v, m1, ?_, q⟩
  unfold eFld
  rw [e]
  show (match insOf m1 x with
    | some (c, ns, vs) => if cs.contains c = true then pu (fldAt ns vs f) m1 else none
    | none => none) = _
  rw [h1]
  show (if cs.contains c = true then pu (fldAt ns vs f) m1 else none) = _
  rw [if_pos h2, h3]
  rfl
end
end L4
namespace L4
open PySem
section
variable {m : M} {ρ : Ss} {Q : D → M → Prop}
/-- o.m(..), an object's method on plain data -/
theorem WE.mth {c nm : Str} {F : M → List D → Option D} {o : EF} {a : AF} (h : WE o ρ m fun x m1 => ∃ ns vs, insOf m1 x = some (c, ns, vs) ∧ ns.contains nm = false ∧ WA a ρ m1 fun xs m2 => Kn (F m2 (x :: xs)) fun d => Q d m2) : WE (eMth c nm F o a) ρ m Q := by
  obtain ⟨x, m1, e, ns, vs, h1, h2, xs, m2, e2, d, e3, q⟩ := h
  refine ⟨d, m2, ?_, q⟩
  unfold eMth
  rw [e]
  show (match insOf m1 x with
    | some (c', ns, _) => if c' = c ∧ ns.contains nm = false then bd (a ρ m1) fun xs m2 => pu (F m2 (x :: xs)) m2 else none
    | none => none) = _
  rw [h1]
  show (if c = c ∧ ns.contains nm = false then bd (a ρ m1) fun xs m2 => pu (F m2 (x :: xs)) m2 else none) = _
  rw [if_pos ⟨rfl, h2⟩, e2]
  show pu (F m2 (x :: xs)) m2 = _
  rw [e3]
  rfl
end
end L4
namespace L4
open PySem
end L4
namespace L4
open PySem PySem.Spec PyProof.Rows L2
section
variable {X : Cx} {g : G} {T T' : Tk} {H : Hp} {m : M} {Q : VK} {pos p : Pos} {e : Expr} {ks vs : List D} {kvs : List (Key × V)}
def dicW (m : M) : D → Option (List D × List D)
  | .ref n => match m[n]? with
    | some (.dic ks vs) => if flatL ks then some (ks, vs) else none
    | _ => none
  | .dic ks vs => if flatL ks then some (ks, vs) else none
  | _ => none
/-- a new dict that stays as it is -/
theorem KV.dicF (k : KV g T H m (.dic ks vs) Q) (hm : RepH g T H m) (r1 : RepL g T H ks (kvs.map fun p => kV p.1)) (r2 : RepL g T H vs (kvs.map Prod.snd)) (p : Addr) (hp : H p = none) : Q (.ref p) (upd H p (.dK kvs)) := by
  obtain ⟨l, hm'⟩ := hm.fresh (u := .dK kvs) hp
  exact k _ T _ l hm' (.dicF (fun z => hm.nope hp z) (.inl upd_same) (r1.le l) (r2.le l))
def eDicC (nw : Bool) (a : EF) : EF := fun ρ m => bd (a ρ m) fun x m1 => match dicW m1 x with
  | some (ks, vs) => some (bif nw then (.ref m1.length, m1 ++ [.dic ks vs]) else (.dic ks vs, m1))
  | none => none
end
end L4
namespace L4
open PySem
section
variable {m : M} {ρ : Ss} {Q : D → M → Prop}
theorem WE.dicC {nw : Bool} {a : EF} (h : WE a ρ m fun x m1 => Kn (dicW m1 x) fun p => Q (bif nw then D.ref m1.length else D.dic p.1 p.2) (bif nw then m1 ++ [O.dic p.1 p.2] else m1)) : WE (eDicC nw a) ρ m Q := by
  obtain ⟨x, m1, e, ⟨ks, vs⟩, e2, q⟩ := h
  refine ⟨_, _, ?_, q⟩
  unfold eDicC
  rw [e]
  show (match dicW m1 x with
    | some (ks, vs) => some (bif nw then (D.ref m1.length, m1 ++ [O.dic ks vs]) else (D.dic ks vs, m1))
    | none => none) = _
  rw [e2]
  cases nw <;> rfl
end
end L4
namespace L4
open PySem PySem.Spec PyProof.Rows L2
section
variable {X : Cx} {g : G} {T T' : Tk} {H : Hp} {m : M} {Q : VK} {k n : Nat} {c : Str} {F : List D → Option D}
/-- x == y of two objects of the class c -/
def eqO (c : Str) (F : List D → Option D) (m : M) (x y : D) : Option Bool := match insOf m x, insOf m y with
  | some (c1, _, _), some (c2, _, _) => if c1 = c ∧ c2 = c then match callP F m [x, y] with
    | some (.bl b) => some b
    | _ => none
    else none
  | _, _ => none
end
end L4
namespace L4
open PySem PySem.Spec PyProof.Rows L2
end L4
namespace L4
open PySem PySem.Spec PyProof.Rows L2
section
variable {X : Cx} {g : G} {T : Tk} {H : Hp} {m : M} {Q : VK} {pos apos cpos : Pos}
/-- a tuple that is known to the object -/
def Kt (H : Hp) (a : Addr) (vs : List V) : Prop := ∃ ob : Obj, H a = some (.frz ob (.tup vs)) ∧ ob.dict = none
theorem Kt.new {H : Hp} {p : Addr} {ob : Obj} {vs : List V} (h : ob.dict = none) : Kt (upd H p (.frz ob (.tup vs))) p vs := ⟨ob, upd_same, h⟩
theorem Kt.rd {a : Addr} {vs : List V} (h : Kt H a vs) : Rd H a (.tup vs) := by obtain ⟨ob, h, _⟩ := h; exact .inr ⟨ob, h⟩
end
section
variable {X : Cx} {T T' : Tk} {H H' : Hp} {m : M} {g : G}
theorem Kt.le {a : Addr} {vs : List V} (k : Kt H a vs) (l : Le T H T' H') (n : a ∉ T.ν) : Kt H' a vs := by
  obtain ⟨ob, h, d⟩ := k
  exact ⟨ob, l.keep _ _ h (Tk.out n) (Tk.outτ n), d⟩
theorem SqT.fresh {K : PySem.W.Frag} {a c : Addr} {vs : List V} {u : HO} (h : SqT K H a vs) (hc : H c = none) : SqT K (upd H c u) a vs := by
  rcases h with (h | ⟨ob, h⟩) | h
  · exact .inl (.inl (by rw [upd_ne (ne_of_none h hc)]; exact h))
  · exact .inl (.inr ⟨ob, by rw [upd_ne (ne_of_none h hc)]; exact h⟩)
  · exact .inr h
end
end L4
namespace L4
end L4
namespace L4
open PySem PySem.Spec PyProof.Rows L2
end L4
namespace L4
open PySem PySem.Spec PyProof.Rows L2
end L4
namespace L4
open PySem PyProof.Rows PySem.W L2
end L4
namespace L4
open PySem PySem.Spec PyProof.Rows L2
end L4
namespace L4
open PySem PySem.Spec PyProof.Rows L2
end L4
namespace L4
open PySem PySem.Spec PyProof.Rows L2
end L4
namespace L4
open PySem PySem.Spec PyProof.Rows L2
def upD : D → D
  | .ptp ds => .tup ds
  | d => d
section
variable {X : Cx} {g : G} {T T' : Tk} {H H' : Hp} {m : M} {Q : VK} {pos p apos cpos : Pos} {e o : Expr} {es : List Expr} {k n : Nat} {x c nm : Str}
def eUp (a : EF) : EF := fun ρ m => bd (a ρ m) fun x m1 => some (upD x, m1)
end
end L4
namespace L4
open PySem PySem.Spec PyProof.Rows L2
section
variable {X : Cx} {g : G} {T T' : Tk} {H H' : Hp} {m : M} {Q : VK} {pos p apos cpos : Pos} {e o : Expr} {es : List Expr} {k n : Nat} {x c nm : Str}
def pairD : D → Option (D × D)
  | .tup [k, v] => some (k, v)
  | _ => none
def pairsD : List D → Option (List (D × D))
  | [] => some []
  | d :: ds => match pairD d, pairsD ds with
    | some q, some qs => some (q :: qs)
    | _, _ => none
def srcD (m : M) : D → Option (List D)
  | .ptp ds => some ds
  | x => lstR m x
def mgD (qs : List (D × D)) : List D × List D := mergeD qs ([], [])
def eDicP (nw : Bool) (a : EF) : EF := fun ρ m => bd (a ρ m) fun x m1 => match (srcD m1 x).bind pairsD with
  | some qs => if ((qs.all fun q => isFlat q.1) || qs.all fun q => (nkT q.1).isSome) && decide (qs.length ≤ sizeLine) then some (bif nw then (.ref m1.length, m1 ++ [.dic (mgD qs).1 (mgD qs).2]) else (.dic (mgD qs).1 (mgD qs).2, m1)) else none
  | none => none
end
end L4
namespace L4
open PySem PySem.Spec PyProof.Rows L2
section
variable {X : Cx} {g : G} {T T' : Tk} {H H' : Hp} {m : M} {Q : VK} {pos p apos cpos : Pos} {e o : Expr} {es : List Expr} {k n : Nat} {x c nm : Str}
/-- a new tuple that is held as it is -/
theorem KV.ptp {ds : List D} {xs : List V} (k : KV g T H m (.ptp ds) Q) (hm : RepH g T H m) (rl : RepL g T H ds xs) (q : Addr) (hq : H q = none) (o : Obj) (ho : o.dict = none) : Q (.ref q) (upd H q (.frz o (.tup xs))) := by
  obtain ⟨l, hm'⟩ := hm.fresh (u := .frz o (.tup xs)) hq
  exact k _ T _ l hm' (.ptp ⟨hm.nope hq, o, upd_same, ho⟩ (rl.le l))
def eTupA (a : AF) : EF := fun ρ m => bd (a ρ m) fun xs m1 => if xs.length ≤ sizeLine then some (.ptp xs, m1) else none
def eTupL (a : EF) : EF := fun ρ m => bd (a ρ m) fun x m1 => match lstR m1 x with
  | some ds => some (.ptp ds, m1)
  | none => none
end
end L4
namespace L4
open PySem
section
variable {m : M} {ρ : Ss}
theorem WE.up {a : EF} {Q : D → M → Prop} (h : WE a ρ m fun x m1 => Q (upD x) m1) : WE (eUp a) ρ m Q :=
  Wr.bd (by obtain ⟨x, m1, e, h⟩ := h; exact ⟨x, m1, e, _, m1, rfl, h⟩)
theorem WE.upP {i : Nat} {ds : List D} {Q : D → M → Prop} (h : ρ.getD i none = some (.ptp ds)) (q : Q (.tup ds) m) : WE (eUp (eVar i)) ρ m Q := WE.up (WE.var h q)
theorem WE.upT {i : Nat} {ds : List D} {Q : D → M → Prop} (h : ρ.getD i none = some (.tup ds)) (q : Q (.tup ds) m) : WE (eUp (eVar i)) ρ m Q := WE.up (WE.var h q)
theorem WE.upL {i : Nat} {ds : List D} {Q : D → M → Prop} (h : ρ.getD i none = some (.lst ds)) (q : Q (.lst ds) m) : WE (eUp (eVar i)) ρ m Q := WE.up (WE.var h q)
theorem WE.upN {i : Nat} {Q : D → M → Prop} (h : ρ.getD i none = some .non) (q : Q .non m) : WE (eUp (eVar i)) ρ m Q := WE.up (WE.var h q)
theorem WE.tupA {a : AF} {Q : D → M → Prop} (h : WA a ρ m fun xs m1 => xs.length ≤ sizeLine ∧ Q (.ptp xs) m1) : WE (eTupA a) ρ m Q :=
  Wr.bd (by obtain ⟨x, m1, e, h1, h2⟩ := h; exact ⟨x, m1, e, _, m1, if_pos h1, h2⟩)
theorem WE.tupL {a : EF} {Q : D → M → Prop} (h : WE a ρ m fun x m1 => Kn (lstR m1 x) fun ds => Q (.ptp ds) m1) : WE (eTupL a) ρ m Q := by
  obtain ⟨x, m1, e, ds, e2, q⟩ := h
  refine ⟨_, m1, ?_, q⟩
  unfold eTupL
  rw [e]
  show (match lstR m1 x with
    | some ds => some (D.ptp ds, m1)
    | none => none) = _
  rw [e2]
theorem WE.dicP {a : EF} {Q : D → M → Prop} (h : WE a ρ m fun x m1 => Kn ((srcD m1 x).bind pairsD) fun qs => (((qs.all fun q => isFlat q.1) || qs.all fun q => (nkT q.1).isSome) && decide (qs.length ≤ sizeLine)) = true ∧ Q (.dic (mgD qs).1 (mgD qs).2) m1) : WE (eDicP false a) ρ m Q := by
  obtain ⟨x, m1, e, qs, e2, hg, q⟩ := h
  refine ⟨_, m1, ?_, q⟩
  unfold eDicP
  rw [e]
  show (match (srcD m1 x).bind pairsD with
    | some qs => if (((qs.all fun q => isFlat q.1) || qs.all fun q => (nkT q.1).isSome) && decide (qs.length ≤ sizeLine)) = true then some (bif false then (D.ref m1.length, m1 ++ [O.dic (mgD qs).1 (mgD qs).2]) else (D.dic (mgD qs).1 (mgD qs).2, m1)) else none
    | none => none) = _
  rw [e2]
  exact if_pos hg
end
end L4
namespace L4
open PySem PySem.Spec PyProof.Rows L2
end L4
namespace L4
open PySem PySem.Spec PyProof.Rows L2 HT
end L4
namespace L4
open PySem PySem.Spec PyProof.Rows L2
section
variable {X : Cx} {g : G} {T : Tk} {H : Hp} {m : M} {pos p apos : Pos} {e e2 o : Expr}
def insL (ds ys : List D) : Option (D × List D) := match ys with
  | [.int i, y] => if ds.length < sizeLine ∧ 0 ≤ i ∧ i < 2 ^ 63 then some (.non, ds.take i.toNat ++ [y] ++ ds.drop i.toNat) else none
  | _ => none
end
section
variable {m : M} {ρ : Ss}
theorem WE.ins {o e1 e2 : EF} {Q : D → M → Prop} (h : WE o ρ m fun x m1 => ∃ n, x = .ref n ∧ (∃ ds0, m1[n]? = some (.lst ds0)) ∧ WE e1 ρ m1 fun i m2 => WE e2 ρ m2 fun y m3 => ∃ (j : Nat) (ds : List D), i = .int (j : Nat) ∧ j < 1000000 ∧ m3[n]? = some (.lst ds) ∧ ds.length < sizeLine ∧ Q .non (m3.set n (.lst (ds.take j ++ [y] ++ ds.drop j)))) : WE (eLm0 (fun _ => insL) o (aCons e1 (aCons e2 aNil))) ρ m Q := by
  obtain ⟨x, m1, e1', n, rfl, ⟨ds0, h0⟩, i, m2, e2', y, m3, e3', j, ds, rfl, hj, h1, h2, q⟩ := h
  refine ⟨.non, _, ?_, q⟩
  unfold eLm0
  rw [e1']
  show (match m1[n]? with
    | some (.lst _) => bd (aCons e1 (aCons e2 aNil) ρ m1) fun ys m2 => match m2[n]? with
      | some (.lst ds) => (insL ds ys).map fun (r : D × List D) => (r.1, m2.set n (.lst r.2))
      | _ => none
    | _ => none) = _
  rw [h0]
  have ea : aCons e1 (aCons e2 aNil) ρ m1 = some ([.int (j : Nat), y], m3) := by
    unfold aCons
    rw [e2']
    show bd (bd (e2 ρ m2) _) _ = _
    rw [e3']
    rfl
  dsimp only
  rw [ea]
  show (match m3[n]? with
    | some (.lst ds) => (insL ds [.int (j : Nat), y]).map fun (r : D × List D) => (r.1, m3.set n (.lst r.2))
    | _ => none) = _
  rw [h1]
  have hi : insL ds [.int (j : Nat), y] = some (.non, ds.take j ++ [y] ++ ds.drop j) := by
    show (if ds.length < sizeLine ∧ 0 ≤ ((j : Nat) : Int) ∧ ((j : Nat) : Int) < 2 ^ 63 then some (D.non, ds.take ((j : Nat) : Int).toNat ++ [y] ++ ds.drop ((j : Nat) : Int).toNat) else none) = _
    rw [if_pos ⟨h2, by omega, by omega⟩, Int.toNat_natCast]
  dsimp only
  rw [hi]
  rfl
end
end L4
namespace L4
open PySem PySem.Spec PyProof.Rows PySem.W L2
section
variable {prog : Program} {w : World} {A : Around} {E : Value → Shared → Prop} {s : Shared} {z TI TO i1 i2 e : Addr} {fp1 fp2 : List Addr} {n1 n2 i : Nat} {P1 P2 : Nat → Value → Prop} {St1 St2 : Nat → Heap → Prop} {a1 a2 : Value}
/-- what is kept but for some cells -/
def Kp (L : List Addr) (h h' : Heap) : Prop := ∀ c o, c ∉ L → h.get? c = some o → h'.get? c = some o
theorem Kp.refl (L : List Addr) (h : Heap) : Kp L h h := fun _ _ _ e => e
theorem Kp.trans {L : List Addr} {h h1 h2 : Heap} (a : Kp L h h1) (b : Kp L h1 h2) : Kp L h h2 := fun c o n g => b c o n (a c o n g)
theorem Kp.push {L : List Addr} {h : Heap} {ob : Obj} : Kp L h (h.push ob) := fun _ _ _ g => Heap.get?_push_of_some _ g
theorem Kp.more {L M : List Addr} {h h' : Heap} (a : Kp L h h') (m : ∀ x ∈ L, x ∈ M) : Kp M h h' := fun c o n g => a c o (fun q => n (m c q)) g
end
end L4
namespace L4
open PySem PySem.Spec PyProof.Rows PySem.W L2
end L4
namespace L4
open PySem PySem.Spec PyProof.Rows L2
end L4
namespace L4
open PySem PySem.Spec PyProof.Rows L2
theorem Gd.any {k : Nat} {X Y : Cx} (h : Gd k X) (e : Y.A = X.A := by rfl) : Gd k Y := ⟨by rw [e]; exact h.g, by rw [e]; exact h.r⟩
def noM : List D → M → Option (D × M) := fun _ _ => none
theorem mfn_none {P : Program} {w : World} {K : PySem.W.Frag} {mg : Str → Option Value} {base : Heap} {k : Nat} {x : Str} {ps : List Str} {st : Stmt} (D : L3.Df K mg x st)
    (hb : ∀ (kV doc pm : Value) (an : Option Addr) (cdv ct : Value) (us : List Value), us.length = ps.length → bindArgs (PySem.W.fnOf x x (defArgs st) (defBody st) (defScope st) .none kV doc pm an cdv ct) ⟨us, []⟩ = pure (ps.zip us)) : MFn P w K mg base k x ps.length noM := by
  obtain ⟨f, fd, F, g⟩ := D.ex
  refine ⟨(fun ds m r h => nomatch h), f, fd, ps, ⟨fun vs H Q E h => h.1, fun A outer s H args us vs Q E _ _ _ _ _ h => ?_⟩, g, F.kp, F.binds hb⟩
  obtain ⟨_, _, _, _, _, _, _, _, h, _⟩ := h
  cases h
end L4
namespace L4
open PySem PySem.Spec PyProof.Rows L2
end L4
namespace L4
open PySem PySem.Spec PyProof.Rows L2
end L4
namespace L4
open PySem PySem.Spec PyProof.Rows L2
end L4
namespace L4
open PySem PySem.Spec PyProof.Rows L2
end L4
namespace L4
open PySem PySem.Spec PyProof.Rows L2
end L4
namespace L4
open PySem PySem.Spec PyProof.Rows L2
theorem _root_.L2.PA.nox {X : Cx} {es : List Expr} {t : TA} (h : PA X.nox es t) : PA X es t := ⟨fun pos pins s σ H Q I hw =>
  wpAny_mono (h.run pos pins s σ H Q (I.wish _) hw) (fun _ _ ⟨v, H', I', r, q⟩ => ⟨v, H', I'.unwish, r, q⟩) fun _ _ z => False.elim z⟩
theorem _root_.L2.PS.nox {X : Cx} {st : Stmt} {t : TS} (h : PS X.nox st t) : PS X st t := ⟨fun pins s σ H D I hw =>
  wpAny_mono (h.run pins s σ H D (I.wish _) hw) (fun _ _ z => SP.unwish z) fun _ _ z => False.elim z⟩
/-- a raised thing: its class by name, its fields -/
structure Xn where
  c : Str
  ns : List Str
  vs : List D
inductive Rv where
  | ok (d : D) | ex (x : Xn)
inductive Rf where
  | fl (r : Fl) | ex (x : Xn) (ρ : Ss)
abbrev SX := Ss → M → Option (Rf × M)
def XRep (g : G) (T : Tk) (H : Hp) (cls : Value) (dd : Option Addr) (x : Xn) : Prop :=
  cls = .ref (He.ga g.K x.c) ∧ ((dd = none ∧ x.ns = [] ∧ x.vs = []) ∨ ∃ a fs, dd = some a ∧ a ∉ T.ν ∧ H a = some (.xd fs) ∧ fs.map Prod.fst = x.ns ∧ RepL g T H x.vs (fs.map Prod.snd))
section
variable {g : G} {T T1 : Tk} {H H1 : Hp} {m : M}
theorem XRep.le {cls : Value} {dd : Option Addr} {x : Xn} (l : Le T H T1 H1) (h : XRep g T H cls dd x) : XRep g T1 H1 cls dd x := by
  obtain ⟨e, h⟩ := h
  refine ⟨e, ?_⟩
  rcases h with h | ⟨a, fs, e1, n, h, e2, r⟩
  · exact .inl h
  · exact .inr ⟨a, fs, e1, l.out h n, l.keep _ _ h (Tk.out n) (Tk.outτ n), e2, r.le l⟩
def KX (g : G) (T : Tk) (H : Hp) (m : M) (x : Xn) (E : XK) : Prop := ∀ cls dd T' H', Le T H T' H' → RepH g T' H' m → XRep g T' H' cls dd x → E cls dd H'
def KY (g : G) (T : Tk) (H : Hp) (m : M) (x : Xn) (ρ : Ss) (W : WX) : Prop := ∀ cls dd σ T' H', Le T H T' H' → RepH g T' H' m → RepS g T' H' σ ρ → XRep g T' H' cls dd x → W cls dd σ H'
def KR (g : G) (T : Tk) (H : Hp) (m : M) (r : Rv) (Q : VK) (E : XK) : Prop := match r with
  | .ok d => KV g T H m d Q
  | .ex x => KX g T H m x E
def KQ (g : G) (T : Tk) (H : Hp) (m : M) (r : Rf) (D : Ends) (W : WX) : Prop := match r with
  | .fl r => KF g T H m r D
  | .ex x ρ => KY g T H m x ρ W
theorem KX.le {x : Xn} {E : XK} (l : Le T H T1 H1) (k : KX g T H m x E) : KX g T1 H1 m x E := fun c d T' H' l' => k c d T' H' (l.trans l')
theorem KY.le {x : Xn} {ρ : Ss} {W : WX} (l : Le T H T1 H1) (k : KY g T H m x ρ W) : KY g T1 H1 m x ρ W := fun c d σ T' H' l' => k c d σ T' H' (l.trans l')
theorem KR.le {r : Rv} {Q : VK} {E : XK} (l : Le T H T1 H1) (k : KR g T H m r Q E) : KR g T1 H1 m r Q E := by
  cases r with
  | ok d => exact KV.le l k
  | ex x => exact KX.le l k
theorem KQ.le {r : Rf} {D : Ends} {W : WX} (l : Le T H T1 H1) (k : KQ g T H m r D W) : KQ g T1 H1 m r D W := by
  cases r with
  | fl r => exact KF.le l k
  | ex x ρ => exact KY.le l k
end
def bdX (r : Option (Rv × M)) (k : D → M → Option (Rv × M)) : Option (Rv × M) := match r with
  | some (.ok d, m) => k d m
  | some (.ex x, m) => some (.ex x, m)
  | none => none
def bdY (ρ : Ss) (r : Option (Rv × M)) (k : D → M → Option (Rf × M)) : Option (Rf × M) := match r with
  | some (.ok d, m) => k d m
  | some (.ex x, m) => some (.ex x ρ, m)
  | none => none
@[simp] theorem bdX_ok {d : D} {m : M} {k : D → M → Option (Rv × M)} : bdX (some (.ok d, m)) k = k d m := rfl
@[simp] theorem bdX_ex {x : Xn} {m : M} {k : D → M → Option (Rv × M)} : bdX (some (.ex x, m)) k = some (.ex x, m) := rfl
@[simp] theorem bdY_ok {ρ : Ss} {d : D} {m : M} {k : D → M → Option (Rf × M)} : bdY ρ (some (.ok d, m)) k = k d m := rfl
@[simp] theorem bdY_ex {ρ : Ss} {x : Xn} {m : M} {k : D → M → Option (Rf × M)} : bdY ρ (some (.ex x, m)) k = some (.ex x ρ, m) := rfl
end L4
namespace L4
open PySem PySem.Spec PyProof.Rows L2
/-- what a def on plain data promises: a value, or what is raised -/
def spPX (g : G) (n : Nat) (F : List D → Option Rv) : Sp := fun vs H Q E => vs.length = n ∧ ∃ (ν : List Addr) (ds : List D) (r : Rv), (∀ a ∈ ν, ∃ u, H a = some u ∧ Mu u) ∧ RepL g (T0 ν) H ds vs ∧ F ds = some r ∧
  match r with
  | .ok d => ∀ v H', (∀ a u, H a = some u → H' a = some u) → Rep g (T0 ν) H' d v → Q v H'
  | .ex x => ∀ c dd H', (∀ a u, H a = some u → H' a = some u) → XRep g (T0 ν) H' c dd x → E c dd H'
structure PFx (P : Program) (w : World) (K : PySem.W.Frag) (mg : Str → Option Value) (base : Heap) (k : Nat) (x : Str) (n : Nat) (F : List D → Option Rv) : Prop where
  len : ∀ ds d, F ds = some d → ds.length = n
  ex : ∃ f fd ps, FnG P w K mg base (L2.CX P w) k f fd ps (spPX ⟨P, w, K⟩ n F) ∧ mg x = some (.ref f) ∧ PySem.W.keepIn K (.ref f) = true ∧ Binds K fd ps []
def CallRX (X : Cx) (v : Value) (r : List V → Hp → VK → XK → Prop) : Prop := ∀ W, Takes X W → ∀ (pins : List (Addr × Obj)) (s : Shared) (σ : L2.St) (H : Hp) (vs : List V) (us : List Value) (Q : VK), Inv X pins σ H s → Vals vs us → r vs H Q (fun c d H' => W c d σ H') →
  wpAny (model X.prog X.w) X.A (call v us) (EP X pins σ Q) X.xe s
def RfCX (g : G) (r : List V → Hp → VK → XK → Prop) (f : M → List D → Option Rv) : Prop := ∀ T H m xs vs z, RepH g T H m → RepL g T H xs vs → f m xs = some z → ∀ (Q : VK) (E : XK), KR g T H m z Q E → r vs H Q E
section
variable {X : Cx} {k : Nat} {f : Addr} {fd : FuncData} {ps : List Str} {sp : Sp} {ds : List Value} {dvs : List V}
variable {r : List V → Hp → VK → XK → Prop} {x : Str} {p pos apos : Pos} {e e' o : Expr} {es : List Expr}
inductive TabX (X : Cx) (k : Nat) : List (Str × (List D → Option Rv)) → Prop
  | nil : TabX X k []
  | cons {x n F tb} : PFx X.prog X.w X.K X.mg X.base k x n F → X.mg x = some (.ref (He.ga X.K x)) → TabX X k tb → TabX X k ((x, F) :: tb)
theorem TabX.get {tb : List (Str × (List D → Option Rv))} {F : List D → Option Rv} (h : TabX X k tb) (e : tb.lookup x = some F) : ∃ n, PFx X.prog X.w X.K X.mg X.base k x n F ∧ X.mg x = some (.ref (He.ga X.K x)) := by
  induction h with
  | nil => cases e
  | @cons y n G tb p q t ih =>
    rw [List.lookup_cons] at e
    split at e
    · next hb =>
      cases e
      have := eq_of_beq hb
      subst this
      exact ⟨n, p, q⟩
    · exact ih e
end
end L4
namespace L4
open PySem PySem.Spec PyProof.Rows L2
def offD (i : Option Nat) (D : Ends) : Ends := match i with
  | none => D
  | some i => { nx := fun σ H => D.nx (σ.set i none) H, rt := D.rt, bk := fun σ H => D.bk (σ.set i none) H, ct := fun σ H => D.ct (σ.set i none) H }
def onS (i : Option Nat) (a : Addr) (σ : L2.St) : L2.St := match i with
  | none => σ
  | some i => σ.set i (some (.ref a))
end L4
namespace L4
open PySem PySem.Spec PyProof.Rows L2
def HeldS (i : Option Nat) (a : Addr) (σ : L2.St) : Prop := ∀ j, i = some j → σ[j]? = some (some (.ref a))
def tHt (g : G) (i : Option Nat) (a : Addr) (cls : Value) (d : Option Addr) (f : Xn → TF) : TT := fun σ H Q => ∃ T ρ m x r m', RepH g T H m ∧ RepS g T H σ ρ ∧ XRep g T H cls d x ∧ HeldS i a σ ∧ f x ρ m = some (r, m') ∧ KB g T H m' r Q
/-- in a suite that holds what is caught (slot i is its name's) -/
abbrev InSuite (X : Cx) (P : Cx → Addr → Value → Option Addr → Prop) : Prop := ∀ (a : Addr) (oe : Obj) (cls : Value) (d : Option Addr) (pn : List (Addr × Obj)), Zc cls d oe → (∃ vs, oe.data = .fields vs) → P (X.suite a ((a, oe) :: pn)) a cls d
structure HT (X : Cx) (i : Option Nat) (e : Expr) (f : Xn → TF) : Prop where
  go : InSuite X fun Y a cls d => PT Y e (tHt (gx X) i a cls d f)
structure XcC (K : PySem.W.Frag) (C : Addr) : Prop where
  cl : (PySem.W.clsIn K C).isSome = true
  ga : PySem.W.findIn K (.ref C) "__getattribute__" = some (some (.builtin "BaseException.__getattribute__"))
  gg : PySem.W.findIn K (.ref C) "__getattr__" = some none
  ex : PySem.W.subIn K (.ref C) (.type "BaseException") = some true
  hd : PySem.W.hasDictIn K C = true
  co : PySem.W.findIn K (.ref C) "__class__" = some (some (.builtin "object.__class__"))
  cn : PySem.W.specialIn K (.builtin "object.__class__") "__get__" = some (some (.builtin "getset_descriptor.__get__"))
  ct : PySem.W.takesIn K (.builtin "object.__class__") = some true
  ob : PySem.W.mroIn K C (.type "object") = some true
  ty : PySem.W.typeIn K (.ref C) = some (.type "type")
  kp : PySem.W.keepIn K (.ref C) = true
theorem xcB_ok {K : PySem.W.Frag} {C : Addr} (h : xcB K C = true) : XcC K C := by
  unfold xcB at h
  simp only [Bool.and_eq_true, decide_eq_true_eq] at h
  obtain ⟨h1, h2, h3, h4, h5, h6, h7, h8, h9, h10, h11⟩ := h
  exact ⟨h1, He.eqO_ok h2, He.eqO_ok h3, h4, h5, He.eqO_ok h6, He.eqO_ok h7, h8, h9, h10, h11⟩
/-- of these classes (by name) the field n may be read -/
def XfN (K : PySem.W.Frag) (cs : List Str) (n : Str) : Prop := ∀ c ∈ cs, XcC K (He.ga K c) ∧ PySem.W.findIn K (.ref (He.ga K c)) n = some none
theorem xfN_nil {K : PySem.W.Frag} {n : Str} : XfN K [] n := fun _ h => nomatch h
theorem xfN_cons {K : PySem.W.Frag} {n c : Str} {cs : List Str} (h : XcC K (He.ga K c)) (hn : PySem.W.findIn K (.ref (He.ga K c)) n = some none) (r : XfN K cs n) : XfN K (c :: cs) n := fun d hd => by
  rcases List.mem_cons.mp hd with rfl | hd
  · exact ⟨h, hn⟩
  · exact r d hd
end L4
namespace L4
open PySem PySem.Spec PyProof.Rows L2
theorem Gd.nox {k : Nat} {X : Cx} (h : Gd k X) : Gd k X.nox := ⟨h.g, h.r⟩
def offR (i : Option Nat) (ρ : Ss) : Ss := match i with
  | none => ρ
  | some i => ρ.set i none
def offF (i : Option Nat) (r : Fl) : Fl := match r with
  | .nx ρ => .nx (offR i ρ)
  | .rt d => .rt d
  | .bk ρ => .bk (offR i ρ)
  | .ct ρ => .ct (offR i ρ)
section
variable {g : G} {T : Tk} {H : Hp} {m : M}
theorem RepS.off {σ : L2.St} {ρ : Ss} {i : Option Nat} {a : Addr} (r : RepS g T H σ ρ) : RepS g T H (onS i a σ) (offR i ρ) := by
  cases i with
  | none => exact r
  | some i =>
    refine ⟨by simp [onS, offR, r.len], fun j d h => ?_⟩
    by_cases hj : i = j
    · subst hj
      unfold offR at h
      by_cases hl : i < ρ.length
      · rw [List.getElem?_set_self hl] at h
        cases h
      · rw [List.getElem?_eq_none (by simpa using hl)] at h
        cases h
    · unfold offR at h
      rw [List.getElem?_set_ne hj] at h
      obtain ⟨v, e, q⟩ := r.at_ j d h
      exact ⟨v, by unfold onS; rw [List.getElem?_set_ne hj]; exact e, q⟩
theorem RepS.out {σ : L2.St} {ρ : Ss} {i : Nat} (r : RepS g T H σ ρ) : RepS g T H (σ.set i none) (offR (some i) ρ) := by
  refine ⟨by simp [offR, r.len], fun j d h => ?_⟩
  unfold offR at h
  by_cases hj : i = j
  · subst hj
    by_cases hl : i < ρ.length
    · rw [List.getElem?_set_self hl] at h
      cases h
    · rw [List.getElem?_eq_none (by simpa using hl)] at h
      cases h
  · rw [List.getElem?_set_ne hj] at h
    obtain ⟨v, e, q⟩ := r.at_ j d h
    exact ⟨v, by rw [List.getElem?_set_ne hj]; exact e, q⟩
theorem KF.off {r : Fl} {D : Ends} {i : Option Nat} (k : KF g T H m (offF i r) D) : KF g T H m r (offD i D) := by
  cases i with
  | none => cases r <;> exact k
  | some i =>
    cases r with
    | nx ρ => exact fun σ T' H' l hm hs => k _ T' H' l hm hs.out
    | rt d => exact k
    | bk ρ => exact fun σ T' H' l hm hs => k _ T' H' l hm hs.out
    | ct ρ => exact fun σ T' H' l hm hs => k _ T' H' l hm hs.out
end
section
variable {X : Cx} {pos : Pos}
structure Xc0 (K : PySem.W.Frag) (c : Str) : Prop where
  x : XcC K (He.ga K c)
  q : PySem.W.excIn K (He.ga K c) He.veBase "ValueError.__new__" = true
end
end L4
namespace L4
open PySem PySem.Spec PyProof.Rows L2
theorem xfB_ok {K : PySem.W.Frag} {c n : Str} (h : xfB K c n = true) : PySem.W.findIn K (.ref (He.ga K c)) n = some none := He.eqO_ok h
theorem xc0B_ok {K : PySem.W.Frag} {c : Str} (h : xcB K (He.ga K c) = true) (q : xc0B K c = true) : Xc0 K c := ⟨xcB_ok h, q⟩
section
variable {P : Program} {w : World} {K : PySem.W.Frag} {mg : Str → Option Value} {base : Heap} {k n : Nat} {x c m : Str} {f : Addr} {fd : FuncData} {ps : List Str}
theorem FnG.more {CX : CXT} {j : Nat} {sp : Sp} (h : FnG P w K mg base CX j f fd ps sp) (l : j ≤ k) : FnG P w K mg base CX k f fd ps sp :=
  ⟨h.len, fun A outer s H args us vs Q E hg hr e0 hb rv q => h.run A outer s H args us vs Q E hg (hr.mono l) e0 hb rv q⟩
theorem PFx.more {j : Nat} {F : List D → Option Rv} (h : PFx P w K mg base j x n F) (l : j ≤ k) : PFx P w K mg base k x n F := by
  obtain ⟨f, fd, ps, G, hm, kp, b⟩ := h.ex
  exact ⟨h.len, f, fd, ps, G.more l, hm, kp, b⟩
end
end L4
namespace L4
open PySem PySem.Spec PyProof.Rows L2
/-- the def -/
structure OiF (P : Program) (K : PySem.W.Frag) (C f : Addr) (x w : Str) (fd : FuncData) : Prop where
  lk : ∃ oc od osl, K.lookup f = some ⟨oc, od, .func fd, osl⟩
  body : ∃ p0 p1 p2 p3 p4 p5 p6 p7 p8 p9, fd.body = .stmts [.Expr (.Call (.Attribute (.Call (.Name "super" p0) [] [] p1) "__init__" p2) [.Name x p3] [] p4) p5, .Assign [.Attribute (.Name "self" p6) w p7] (.Name x p8) p9] ∧ (p2.endLine == p4.line) = true
  head : ∃ ar, (fd.params.posonlyargs ++ fd.params.args).head? = some ar ∧ ar.arg = "self"
  clo : ∃ cc cl cld csl, fd.closure = [(("__class__" : Str), cc)] ∧ K.lookup cc = some ⟨cl, cld, .cell (some (.ref C)), csl⟩
  code : ∃ cda ccl cdd vs ccs file tf, fd.code = .ref cda ∧ K.lookup cda = some ⟨ccl, cdd, .fields vs, ccs⟩ ∧ vs[2]? = some (.str file tf) ∧ (P.main.file == file) = true
  cdi : PySem.W.codeIn K fd.code fd.qualname = true
  glo : fd.globals = mainGlobals
  blt : fd.builtins = builtinsNs
  ks : fd.scope.names.lookup ("super" : Str) = some NameKind.globalImplicit
  kc : fd.scope.names.lookup ("__class__" : Str) = some NameKind.free
  kself : fd.scope.names.lookup ("self" : Str) = some NameKind.local
  kx : fd.scope.names.lookup x = some NameKind.local
  kind : fd.scope.kind = .function
  co : fd.scope.isCoroutine = false
  gen : fd.scope.isGenerator = false
  nocell : ∀ z ∈ fd.scope.names, z.2 ≠ .cell
  xs : (x == ("self" : Str)) = false
  xd : (x == ("__debug__" : Str)) = false
def spI (C : Addr) (w : Str) : Sp := fun vs H Q E => ∃ (a : Addr) (y : V), vs = [.ref a, y] ∧ H a = some (exo a C none) ∧ ∀ dx, H dx = none → dx ≠ a → Q .non (upd (upd H dx (exd dx [(w, y)])) a (exo a C (some dx)))
end L4
namespace L4
open PySem PySem.Spec PyProof.Rows L2 PySem.W
end L4
namespace L4
open PySem PySem.Spec PyProof.Rows L2
structure PSup (P : Program) (file : Str) : Prop where
  file : (P.main.file == file) = true
  top : (P.main.scope.names.lookup ("super" : Str)).isSome = false
def OiBind (x : Str) : Prop := ∀ (fd : FuncData) (p1 p2 : Pos), fd.params = ⟨[], [⟨("self" : Str), none, p1⟩, ⟨x, none, p2⟩], none, [], [], none, []⟩ → fd.defaults = .none → fd.kwdefaults = .none → ∀ us : List Value, us.length = 2 → bindArgs fd ⟨us, []⟩ = pure ((["self", x] : List Str).zip us)
theorem bind_word : OiBind "word" := fun fd p1 p2 h1 h2 h3 us hl => by
  obtain ⟨n1, n2, n3, n4, n5, n6, n7, n8, n9, n10, n11, n12, n13, n14, n15⟩ := fd
  dsimp only at h1 h2 h3
  subst h1 h2 h3
  match us, hl with
  | [a, b], _ => rfl
theorem bind_at : OiBind "at" := fun fd p1 p2 h1 h2 h3 us hl => by
  obtain ⟨n1, n2, n3, n4, n5, n6, n7, n8, n9, n10, n11, n12, n13, n14, n15⟩ := fd
  dsimp only at h1 h2 h3
  subst h1 h2 h3
  match us, hl with
  | [a, b], _ => rfl
theorem oiShape_ok {x w : Str} {b : List Stmt} (h : oiShape x w b = true) : ∃ p0 p1 p2 p3 p4 p5 p6 p7 p8 p9, b = [.Expr (.Call (.Attribute (.Call (.Name "super" p0) [] [] p1) "__init__" p2) [.Name x p3] [] p4) p5, .Assign [.Attribute (.Name "self" p6) w p7] (.Name x p8) p9] ∧ (p2.endLine == p4.line) = true := by
  unfold oiShape at h
  split at h
  · simp only [Bool.and_eq_true, beq_iff_eq] at h
    obtain ⟨rfl, rfl, rfl, rfl, rfl, h6, h7⟩ := h
    subst h6
    exact ⟨_, _, _, _, _, _, _, _, _, _, rfl, by rw [h7]; exact beq_self_eq_true _⟩
  · cases h
theorem oiParams_ok {x : Str} {a : Arguments} (h : oiParams x a = true) : ∃ p1 p2, a = ⟨[], [⟨("self" : Str), none, p1⟩, ⟨x, none, p2⟩], none, [], [], none, []⟩ := by
  unfold oiParams at h
  split at h
  · simp only [Bool.and_eq_true, beq_iff_eq] at h
    obtain ⟨rfl, rfl⟩ := h
    exact ⟨_, _, rfl⟩
  · cases h
theorem oiClo_ok {K : PySem.W.Frag} {C : Addr} {l : List (Str × Addr)} (h : oiClo K C l = true) : ∃ cc cl cld csl, l = [(("__class__" : Str), cc)] ∧ K.lookup cc = some ⟨cl, cld, .cell (some (.ref C)), csl⟩ := by
  unfold oiClo at h
  split at h
  · next n cc =>
    simp only [Bool.and_eq_true, beq_iff_eq] at h
    obtain ⟨rfl, h⟩ := h
    split at h
    · next e =>
      have h := eq_of_beq h
      subst h
      exact ⟨_, _, _, _, rfl, e⟩
    · cases h
  · cases h
theorem oiCode_ok {K : PySem.W.Frag} {file : Str} {v : Value} (h : oiCode K file v = true) : ∃ cda ccl cdd vs ccs tf, v = .ref cda ∧ K.lookup cda = some ⟨ccl, cdd, .fields vs, ccs⟩ ∧ vs[2]? = some (.str file tf) := by
  unfold oiCode at h
  split at h
  · split at h
    · next e =>
      split at h
      · next e2 =>
        have h := eq_of_beq h
        subst h
        exact ⟨_, _, _, _, _, _, rfl, e, e2⟩
      · cases h
    · cases h
  · cases h
theorem noneB_ok {v : Value} (h : noneB v = true) : v = .none := by
  unfold noneB at h
  split at h
  · rfl
  · cases h
theorem oiFd_ok {P : Program} {K : PySem.W.Frag} {C f : Addr} {x w file : Str} {fd : FuncData} (S : PSup P file) (B : OiBind x) (hl : ∃ oc od osl, K.lookup f = some ⟨oc, od, .func fd, osl⟩) (h : oiFd K C x w file fd = true) : OiF P K C f x w fd ∧ Binds K fd ["self", x] [] := by
  unfold oiFd at h
  simp only [Bool.and_eq_true, decide_eq_true_eq, Bool.not_eq_true', List.all_eq_true] at h
  obtain ⟨h1, h2, h3, h4, h5, h6, h7, h8, h9, h10, h11, h12, h13, h14, h15, h16, h17, h18, h19⟩ := h
  obtain ⟨p1, p2, hp⟩ := oiParams_ok h2
  split at h1
  · next b hb =>
    obtain ⟨q0, q1, q2, q3, q4, q5, q6, q7, q8, q9, e, eq⟩ := oiShape_ok h1
    obtain ⟨cda, ccl, cdd, vs, ccs, tf, e1, e2, e3⟩ := oiCode_ok h4
    exact ⟨⟨hl, ⟨q0, q1, q2, q3, q4, q5, q6, q7, q8, q9, by rw [hb, e], eq⟩, ⟨_, by rw [hp]; rfl, rfl⟩, oiClo_ok h3, ⟨cda, ccl, cdd, vs, ccs, file, tf, e1, e2, e3, S.file⟩, h5, h6, h7, h8, h9, h10, h11, h12, h13, h14, h15, h16, h17⟩,
      Binds.all fun us hu => B fd p1 p2 hp (noneB_ok h18) (noneB_ok h19) us hu⟩
  · cases h1
end L4
namespace L4
open PySem PySem.Spec PyProof.Rows L2
end L4
namespace L4
open PySem PySem.Spec PyProof.Rows L2
end L4
namespace L4
open PySem PySem.Spec PyProof.Rows L2
end L4
namespace L4
open PySem PySem.Spec PyProof.Rows L2
structure EntX (X : Cx) (x : Str) (G : M → List D → Option Rv) : Prop where
  ex : ∃ r, X.mg x = some (.ref (He.ga X.K x)) ∧ PySem.W.keepIn X.K (.ref (He.ga X.K x)) = true ∧ CallRX X (.ref (He.ga X.K x)) r ∧ RfCX (gx X) r G
inductive TabY (X : Cx) : List (Str × (M → List D → Option Rv)) → Prop
  | nil : TabY X []
  | cons {x F tb} : EntX X x F → TabY X tb → TabY X ((x, F) :: tb)
theorem TabY.get {X : Cx} {y : Str} {tb : List (Str × (M → List D → Option Rv))} {F : M → List D → Option Rv} (h : TabY X tb) (e : tb.lookup y = some F) : EntX X y F := by
  induction h with
  | nil => cases e
  | @cons y G tb p t ih =>
    rw [List.lookup_cons] at e
    split at e
    · next hb =>
      cases e
      have := eq_of_beq hb
      subst this
      exact p
    · exact ih e
/-- a def with a default that may raise -/
structure PFxd (P : Program) (w : World) (K : PySem.W.Frag) (mg : Str → Option Value) (base : Heap) (k : Nat) (x : Str) (n : Nat) (F : List D → Option Rv) : Prop where
  fn : PFx P w K mg base k x n F
  df : ∃ f fd ps a ds, FnG P w K mg base (L2.CX P w) k f fd ps (spPX ⟨P, w, K⟩ n F) ∧ mg x = some (.ref f) ∧ PySem.W.keepIn K (.ref f) = true ∧ Vals [.ref a] ds ∧ Binds K fd ps ds ∧ ∀ H, SqT K H a []
section
variable {P : Program} {w : World} {K : PySem.W.Frag} {mg : Str → Option Value} {base : Heap} {k j : Nat} {x q : Str} {ps N : List Str} {st : Stmt} {b : SX}
theorem PFxd.more {n : Nat} {F : List D → Option Rv} (h : PFxd P w K mg base j x n F) (l : j ≤ k) : PFxd P w K mg base k x n F := by
  obtain ⟨f, fd, ps, a, ds, G, r⟩ := h.df
  exact ⟨h.fn.more l, f, fd, ps, a, ds, G.more l, r⟩
end
end L4
namespace L4
open PySem PySem.Spec PyProof.Rows L2
theorem _root_.L2.PI.nox {X : Cx} {tg iter : Expr} {wi : TI} (h : PI X.nox tg iter wi) : PI X tg iter wi := ⟨fun pins s σ H R I hw =>
  wpAny_mono (h.run pins s σ H R (I.wish _) hw) (fun v s1 q => wpAny_mono q (fun itv s2 ⟨it, fp, tn, J, H', e, I2, T, st, f, r⟩ => ⟨it, fp, tn, J, H', e, I2.unwish, T, st, f, r⟩) fun _ _ z => False.elim z) fun _ _ z => False.elim z⟩
end L4
namespace L4
open PySem PySem.Spec PyProof.Rows L2
end L4
namespace L4
open PySem PySem.Spec PyProof.Rows L2
end L4
namespace L4
open PySem PySem.Spec PyProof.Rows L2
end L4
namespace L4
open PySem PySem.Spec PyProof.Rows L2 PySem.W
/-- what the base's rows tell -/
structure BaseX (B newId initId : String) (bmB : List Value) : Prop where
  b : ExcBaseFacts B newId initId bmB
  x : KxsFacts B initId
  s : StoreFacts B bmB "object.__setattr__" "object"
theorem base_IE : BaseX "IndexError" "IndexError.__new__" "IndexError.__init__" [.type "IndexError", .type "LookupError", .type "Exception", .type "BaseException", .type "object"] := ⟨PySem.F.excBase_IndexError, kxs_IndexError, PySem.F.store_IndexError⟩
section
open Builtin Builtin.ObjectAttr PySem.HandSPX
variable {prog : Program} {w : World} {A : Around} {E : Value → Shared → Prop} {R : PySem.Result → Shared → Prop} {hp : Heap} {g : Array GenState} {d : Drawn} {t : Nat} {os : OsState} {B newId initId : String} {bmB : List Value}
/-- the first field of such an error: its dict is made -/
theorem own_first {K : Frag} {fld : Str} {tk : Tok} {u : Value} {a C : Addr} {fv : Array Value} {cdt : ClassData} (SF : StoreFacts B bmB "object.__setattr__" "object") (X : K.In hp) (ha : hp.get? a = some { cls := .ref C, data := .fields fv }) (hcl : clsIn K C = some cdt) (ho : excOver K C bmB = true) (hd : cdt.hasDict = true) (hno : findIn K (.ref C) fld = some none)
    (k : ∀ h2 tk2 dx, (∀ b o, b ≠ a → hp.get? b = some o → h2.get? b = some o) → hp.objs.size ≤ dx → dx ≠ a → h2.get? a = some { cls := .ref C, dict := some dx, data := .fields fv } → h2.Ns1 dx (fun y => if y = fld then some u else none) → R (.ok (.ret .none)) ⟨h2, g, d, tk2, os⟩) :
    codeAny (model prog w) A (.call (.builtin "object.__setattr__") ⟨[.ref a, .str fld tk, u], []⟩) R ⟨hp, g, d, t, os⟩ := by
  have J : InstAt hp a { cls := .ref C, data := .fields fv } C none := ⟨ha, rfl, rfl, trivial⟩
  have tkr : takerIn K C fld = some none := by unfold takerIn; rw [hno]; rfl
  have las : a ≠ hp.objs.size := Nat.ne_of_lt (Heap.lt_size ha)
  have lc : Looks (model prog w) hp (classData C) cdt := looks_clsIn X hcl
  refine osa_openX SF X J ho tkr fun bb => ?_
  show wpAny _ _ (storeInOwnDict (.ref a) (.ref C) (.str fld tk) fld u bb) _ _ _
  obtain ⟨x1, x2, x3, x4, x5, x6, x7, x8, x9, x10, x11⟩ := cdt
  change x6 = true at hd
  subst hd
  unfold storeInOwnDict
  unfold ownDictForStores
  repeat (first | (with_reducible refine store_in_new ?_ ?_) | (with_reducible refine wpAny_loadPart_at ha ?_) | (with_reducible refine lc.at ?_) | wp_step)
  · exact ⟨_, #[], _, (Heap.get?_update_ne _ _ _ _ las.symm).trans (Heap.get?_push_at rfl rfl), rfl, fun e he => absurd he (by simp), fun _ => rfl⟩
  · intro h2 tk2 hn2 hs2
    have ha2 : (hp.push { cls := .type "dict", data := .dict #[] }).get? a = some { cls := .ref C, data := .fields fv } := Heap.get?_push_of_some _ ha
    refine k h2 tk2 hp.objs.size (fun b o hb e => ?_) (Nat.le_refl _) las.symm ?_ hn2
    · exact (hs2.2 b (Nat.ne_of_lt (Heap.lt_size e))).trans ((Heap.get?_update_ne _ _ _ _ hb).trans (Heap.get?_push_of_some _ e))
    · exact (hs2.2 a las).trans (Heap.get?_update_self _ ha2 rfl)
end
/-- the class -/
structure OgK (P : Program) (K : Frag) (C : Addr) (fld : Str) (B newId initId : String) (bmB : List Value) : Prop where
  cls : ∃ nm q N bs bm sn sub ab col dd k0 k1 k2 k3 k5, K.lookup C = some (excClassObj nm q C N bs bm true sn sub ab col dd k0 k1 k2 k3 k5 newId) ∧ excTail bmB bm = true
  sa : findIn K (.ref C) "__setattr__" = some (some (.builtin "object.__setattr__"))
  exC : subIn K (.ref C) (.type "BaseException") = some true
  tyC : typeIn K (.ref C) = some (.type "type")
  kC : keepIn K (.ref C) = true
  no : findIn K (.ref C) fld = some none
  sup : nsIn K mainGlobals "super" = some none
  op : nsIn K cStatics "thirdparty.any" = some none
  along : ks_superIn K C C "__init__" = some (some (.builtin initId))
  sub : subIn K (.ref C) (.type B) = some true
  mro : mroIn K C (.ref C) = some true
  top : (P.main.scope.names.lookup ("super" : Str)).isSome = false
section
variable {P : Program} {w : World} {K : Frag} {mg : Str → Option Value} {base : Heap} {k : Nat} {C f : Addr} {x fld : Str} {fd : FuncData} {B newId initId : String} {bmB : List Value}
theorem OgK.over (T : OgK P K C fld B newId initId bmB) : excOver K C bmB = true := by
  obtain ⟨nm, qn, N, bs, bm, sn, sub, ab, col, dd, k0, k1, k2, k3, k5, hC, hbm⟩ := T.cls
  have hcl : clsIn K C = some { name := nm, bases := bs, mro := .ref C :: bm, ns := N, qualname := qn, hasDict := true, slotNames := sn, subclasses := sub, abstract := ab, collection := col, hasDel := false } := by unfold clsIn; rw [hC] <;> rfl
  unfold excOver
  rw [hcl]
  show (C == C && excTail bmB bm) = true
  rw [hbm, beq_self_eq_true]
  rfl
theorem og_fn {CX : CXT} (BX : BaseX B newId initId bmB) (FF : OiF P K C f x fld fd) (T : OgK P K C fld B newId initId bmB) : FnOk P w K mg base CX (k + 1) f fd ["self", x] (spI C fld) := by
  refine ⟨fun vs H Q E ⟨a, y, e, _⟩ => by rw [e]; rfl, fun A outer s H args us vs Q E hr e0 hb rv hs => ?_⟩
  obtain ⟨a, y, rfl, ha, q⟩ := hs
  obtain ⟨u1, u, rfl, r1, ry⟩ := vals2 rv
  obtain rfl : u1 = Value.ref a := r1
  obtain ⟨oc, od, osl, lk⟩ := FF.lk
  obtain ⟨p0, p1, p2, p3, p4, p5, p6, p7, p8, p9, hbody, hpos⟩ := FF.body
  obtain ⟨ar, hhd, har⟩ := FF.head
  obtain ⟨cc, cl, cld, csl, hclo, lcc⟩ := FF.clo
  obtain ⟨cda, ccl, cdd, cvs, ccs, file, tf, hcode, lcd, hvs, hfile⟩ := FF.code
  obtain ⟨nm, qn, N, bs, bm, sn, sub, ab, col, dd, k0, k1, k2, k3, k5, hC, hbm⟩ := T.cls
  have hcl : clsIn K C = some { name := nm, bases := bs, mro := .ref C :: bm, ns := N, qualname := qn, hasDict := true, slotNames := sn, subclasses := sub, abstract := ab, collection := col, hasDel := false } := by unfold clsIn; rw [hC] <;> rfl
  have keep : ∀ b o, base.get? b = some o → s.heap.get? b = some o := fun b o e => (e0.bs b o e).1
  have KX := e0.mod.kin.keeps keep
  obtain ⟨t1, ho⟩ := exo_at e0.hok ha
  have aK : ∀ b o, K.lookup b = some o → b ≠ a := fun b o e z => by
    have := (e0.bs b o (e0.mod.kin b o e)).2
    rw [z, ha] at this
    cases this
  have kc' : (callEnv fd s.heap.objs.size f).kindOf "__class__" = some .free := FF.kc
  have ks' : (callEnv fd s.heap.objs.size f).kindOf "super" = some NameKind.globalImplicit := FF.ks
  have kself : (callEnv fd s.heap.objs.size f).kindOf "self" = some .local := FF.kself
  have kx : (callEnv fd s.heap.objs.size f).kindOf x = some .local := FF.kx
  have kf : (callEnv fd s.heap.objs.size f).scope.kind = .function := FF.kind
  refine ks_codeAny_call_defAt hr.depth (KX _ _ lk) rfl (e0.mod.nolimit.keeps keep) (codeRec_of KX FF.cdi) hbody hb FF.nocell (fun z hz => ?_) (fun h1 hns hk1 => ?_) FF.co FF.gen FF.kind
  · simp only [List.zip_cons_cons, List.zip_nil_right, List.mem_cons, List.not_mem_nil, or_false] at hz
    rcases hz with rfl | rfl
    · exact FF.kself
    · exact FF.kx
  have k1' : ∀ b o, base.get? b = some o → h1.get? b = some o := fun b o e => hk1 b o (keep b o e)
  have X1 : K.In h1 := e0.mod.kin.keeps k1'
  have vself : (fun z => ((["self", x] : List Str).zip [Value.ref a, u]).reverse.lookup z) ("self" : Str) = some (.ref a) := by
    show ([(x, u), (("self" : Str), Value.ref a)] : List (Str × Value)).lookup ("self" : Str) = _
    have e : (("self" : Str) == x) = false := by
      have := FF.xs
      rw [beq_eq_false_iff_ne] at this ⊢
      exact fun z => this z.symm
    simp only [List.lookup, e, beq_self_eq_true]
  have vx : (fun z => ((["self", x] : List Str).zip [Value.ref a, u]).reverse.lookup z) x = some u := by
    show ([(x, u), (("self" : Str), Value.ref a)] : List (Str × Value)).lookup x = _
    simp only [List.lookup, beq_self_eq_true]
  obtain ⟨sh, sg, sd, stk, sos⟩ := s
  have oa1 : h1.get? a = some _ := hk1 _ _ ho
  have hCl : h1.get? C = some _ := X1 _ _ hC
  refine ks_wpAt_execs_cons (ks_wpAt_Expr_any (ks_wpAt_MethodCall (pl := do return (← importBound (.Call (.Name "super" p0) [] [] p1) (callEnv fd sh.objs.size f)).getD true) ?hm ?he) ?hi ?hsw)
  case he =>
    have e : methodCallPos true (.Call (.Name "super" p0) [] [] p1) (callEnv fd sh.objs.size f) p2 p4 = pure p4 := by
      unfold methodCallPos
      rw [hpos]
      rfl
    show (do
      let ov ← attributeBase (.Call (.Name "super" p0) [] [] p1) "__init__" (callEnv fd sh.objs.size f) (eval (.Call (.Name "super" p0) [] [] p1) (callEnv fd sh.objs.size f))
      standAt p2.atName
      let (fn, first) ← holding [ov] (getMethod ov "__init__" (do return (← importBound (.Call (.Name "super" p0) [] [] p1) (callEnv fd sh.objs.size f)).getD true))
      let cp ← methodCallPos true (.Call (.Name "super" p0) [] [] p1) (callEnv fd sh.objs.size f) p2 p4
      callWith cp fn first (backTo p4 (starEach [.Name x p3] (callEnv fd sh.objs.size f))) []) = _
    rw [e]
    rfl
  case hi => show (fd.scope.kind == .module && _) = false; rw [FF.kind]; rfl
  case hsw => rfl
  refine ks_wpAt_super_base ks' kc' rfl rfl (hk1 _ _ (KX _ _ lk)) rfl hhd hcode (hk1 _ _ (KX _ _ lcd)) rfl hvs hfile T.top ?_
  obtain ⟨mb, m1, m2⟩ := e0.mod.blt
  refine ks_loadName_global kf ks' (PySem.Calls.loadGlobal_builtin (by show h1.Ns fd.globals _; rw [FF.glo]; exact e0.mod.glob.keeps k1') (mg_none_of e0.mod.kin e0.mod.glob T.sup) (by show h1.Ns fd.builtins _; rw [FF.blt]; exact m1.keeps k1') ((m2 _ (by decide +kernel)).trans (by decide +kernel)) ⟨rfl, ?_⟩)
  refine wpAny_loadName_free kf kc' (by show fd.closure.lookup _ = _; rw [hclo]; rfl) ⟨_, hk1 _ _ (KX _ _ lcc), rfl⟩ ?_
  rw [har]
  refine wpAny_loadName_local kf kself hns vself ?_
  refine ks_wpAny_isType_cls hCl rfl ⟨rfl, ?_⟩
  refine ks_wpAny_call_super hCl rfl oa1 rfl (fun c e => by cases e) (looks_mroIn X1 T.mro) (fun h2 e2 k2 => ?_)
  have X2 : K.In h2 := X1.keeps k2
  have a2 := k2 _ _ oa1
  have I2 : InstAt h2 a _ C none := ⟨a2, rfl, rfl, trivial⟩
  have aC : a ≠ C := fun z => aK _ _ hC z.symm
  refine kxs_getMethod BX.x e2 (looks_opaque X2 T.op) (l₀ := .ref C :: bm) ?_ rfl X2 ?_ (I2.type.andThen (looks_subIn X2 T.sub)) aC rfl ?_
  · exact fun A Q E s k q => wpAny_bind ((looks_clsIn X2 hcl) A _ E s k (wpAny_pure q))
  · have := T.along
    unfold ks_superIn at this
    rw [hcl] at this
    exact this
  have k3 : ∀ b o, h1.get? b = some o → (h2.push (kxs_mw initId a)).get? b = some o := fun b o e => Heap.get?_push_of_some _ (k2 b o e)
  have ns3 := hns.keeps k3
  have X3 : K.In (h2.push (kxs_mw initId a)) := X1.keeps k3
  have a3 := k3 _ _ oa1
  have w3 : (h2.push (kxs_mw initId a)).get? h2.objs.size = some (kxs_mw initId a) := Heap.get?_push_at rfl rfl
  refine kxs_callWith (i := initId) (x := a) rfl (PySem.Calls.evalArgs_plain (x := eval (.Name x p3) (callEnv fd sh.objs.size f)) (rest := []) (PySem.Calls.spliced_cons (wpAny_Name (wpAny_loadName_local kf kx ns3 vx (PySem.Calls.spliced_nil ⟨w3, ?_⟩)) FF.xd)))
  generalize h2.push (kxs_mw initId a) = h3 at k3 ns3 X3 a3 w3 ⊢
  refine wpAny_call (codeAny_of_tree ?_)
  show wpAny _ (A.deeper (callEnv fd sh.objs.size f)).in1 (callAny (.ref h2.objs.size) ⟨[u], []⟩) _ _ _
  simp only [callAny]
  refine wpAny_bind (wpAny_load w3 ?_)
  simp only [kxs_mw, show (Value.type "method-wrapper" == Value.type "method" || Value.type "method-wrapper" == Value.type "builtin_function_or_method" || Value.type "method-wrapper" == Value.type "method-wrapper") = true by decide, if_true]
  refine KFB.if_so (by decide) ?_
  refine wpAny_bind (check_bound_init BX.b.toExcCallFacts (X3 _ _ hC) a3 rfl ?_)
  refine wpAny_bind (wpAny_pure (wpAny_pure ?_))
  refine ⟨plainId_quiet BX.b.init.plain _, codeAny_builtin BX.b.initEntry ?_⟩
  refine exc_init_tree (cls := .ref C) (t0 := t1) (dv := none) (c2 := .none) (c3 := .none) (b4 := .bool false) a3 (by show 1 ≤ sizeLine; rw [sizeLine_eq]; decide) fun h4 k4 a4 _ => ?_
  have alt : a < sh.objs.size := Heap.lt_size ho
  have ns4 : h4.Ns sh.objs.size (fun z => ((["self", x] : List Str).zip [Value.ref a, u]).reverse.lookup z) := by
    obtain ⟨oL, es, ep, hL, r⟩ := ns3
    exact ⟨oL, es, ep, k4 _ _ (Nat.ne_of_gt alt) hL, r⟩
  have X4 : K.In h4 := fun b o e => k4 b o (aK b o e) (X3 b o e)
  refine ks_wpAt_execs_cons (ks_wpAt_Assign_Attr (wpAt_of_wpAny (wpAny_Name (wpAny_loadName_local kf kx ns4 vx (wpAny_Name (wpAny_loadName_local kf kself ns4 vself ?_) (by decide))) FF.xd)) ?hsw)
  case hsw => rfl
  refine set_plain X4 (ox := excObj C h3.objs.size none .none) (od := none) ⟨a4, rfl, rfl, trivial⟩ T.sa ?_
  refine own_first BX.s X4 a4 hcl T.over rfl T.no (fun h5 tk5 dx k5 dn dne hx hn => ?_)
  refine wpAt_of_wpAny (wpAny_execs_nil ?_)
  have up : ∀ b o, b ≠ a → sh.get? b = some o → h5.get? b = some o := fun b o hb e => k5 b o hb (k4 b o hb (k3 b o (hk1 b o e)))
  have le4 : sh.objs.size ≤ h4.objs.size := by
    obtain ⟨oL, _, _, hL, _⟩ := ns4
    exact Nat.le_of_lt (Heap.lt_size hL)
  have dn0 : sh.objs.size ≤ dx := Nat.le_trans le4 dn
  have hnd : H dx = none := e0.hok.fresh dn0
  have nd : ∀ {b : Addr} {o : Obj}, sh.get? b = some o → b ≠ dx := fun {b o} q => Nat.ne_of_lt (Nat.lt_of_lt_of_le (Heap.lt_size q) dn0)
  have na : ∀ {b : Addr}, H b = none → b ≠ a := fun {b} n z => by
    rw [z, ha] at n
    cases n
  refine ⟨.non, upd (upd H dx (exd dx [(fld, y)])) a (exo a C (some dx)), rfl, e0.bare, {
    keep := fun b o q n _ _ => up b o (na n) q
    slot := fun b o q n _ _ => ⟨o.slots, up b o (na n) q⟩
    free := fun b o q n _ => by rw [upd_ne (na n), upd_ne (nd q)]; exact n
    there := fun b o q _ => by
      by_cases hb : b = a
      · exact ⟨_, by rw [hb]; exact hx⟩
      · exact ⟨o, up b o hb q⟩
    tups := fun b xs q => by rw [upd_ne (at_ne ha q exo_tup), upd_ne (ne_of_none q hnd)]; exact q
    frzs := fun b o v q => by rw [upd_ne (at_ne ha q exo_frz), upd_ne (ne_of_none q hnd)]; exact q
    tbls := fun b ps q => ⟨#[], by rw [upd_ne (at_ne ha q exo_tbl), upd_ne (ne_of_none q hnd), q]; simp⟩ }, fun b o q => ?_, rfl, q dx hnd dne⟩
  by_cases hb : b = a
  · subst hb
    rw [upd_same] at q
    cases q
    exact exo_ok hx
  · rw [upd_ne hb] at q
    by_cases hd : b = dx
    · subst hd
      rw [upd_same] at q
      cases q
      exact exd_ok hn (relO_put (fs := []) ry fun g => True.intro)
    · rw [upd_ne hd] at q
      exact (e0.hok b o q).stay (fun c v hc z => up c v (by
          rcases hc with hc | hc
          · rw [hc]
            exact hb
          · exact at_ne ha hc exo_own) z)
        (fun c hc => by rw [upd_ne (at_ne ha hc exo_own), upd_ne (ne_of_none hc hnd)]; exact hc) (fun c xs hc => by rw [upd_ne (at_ne ha hc exo_tup), upd_ne (ne_of_none hc hnd)]; exact hc)
end
end L4
namespace L4
open PySem PySem.Spec PyProof.Rows L2
structure OgC (P : Program) (K : PySem.W.Frag) (c w : Str) (B newId initId : String) (bmB : List Value) : Prop where
  k : OgK P K (He.ga K c) w B newId initId bmB
  x : XcC K (He.ga K c)
  ex : ∃ f fd x, OiF P K (He.ga K c) f x w fd ∧ PySem.W.findIn K (.ref (He.ga K c)) "__init__" = some (some (.ref f)) ∧ PySem.W.typeIn K (.ref f) = some (.type "function") ∧ Binds K fd ["self", x] []
theorem ogCls_ok {K : PySem.W.Frag} {C : Addr} {bmB : List Value} {newId : String} (q : ogCls K C bmB newId = true) : ∃ nm q N bs bm sn sub ab col dd k0 k1 k2 k3 k5, K.lookup C = some (excClassObj nm q C N bs bm true sn sub ab col dd k0 k1 k2 k3 k5 newId) ∧ PySem.W.excTail bmB bm = true := by
  unfold ogCls at q
  split at q
  · rename_i dd cd sl ho
    split at q
    · rename_i C' bm k0 k1 k2 k3 n k5 hm hs
      simp only [Bool.and_eq_true, beq_iff_eq, Bool.not_eq_true'] at q
      obtain ⟨⟨⟨⟨rfl, rfl⟩, hdel⟩, hdi⟩, ht⟩ := q
      obtain ⟨nm, bs, mro, ns, qn, hd, sn, sub, ab, col, del⟩ := cd
      dsimp only at hm hdel hdi
      subst hm hdel hdi
      have hsl : sl = #[k0, k1, k2, k3, some (.builtin n), k5] := by
        obtain ⟨l⟩ := sl
        simp only at hs
        rw [hs]
      subst hsl
      exact ⟨nm, qn, ns, bs, bm, sn, sub, ab, col, dd, k0, k1, k2, k3, k5, ho, ht⟩
    · cases q
  · cases q
theorem ogC_ok {P : Program} {K : PySem.W.Frag} {c x w file : Str} {B newId initId : String} {bmB : List Value} (S : PSup P file) (Bd : OiBind x) (h : ogB K c x w file B newId initId bmB = true) : OgC P K c w B newId initId bmB := by
  unfold ogB at h
  split at h
  · next f hf =>
    simp only [Bool.and_eq_true, decide_eq_true_eq] at h
    obtain ⟨h1, h2, h3, h4, h5, h6, h7, h8, h9, h10, h12⟩ := h
    have X := xcB_ok h12
    split at h2
    · next lk =>
      obtain ⟨g1, g2⟩ := oiFd_ok S Bd ⟨_, _, _, lk⟩ h2
      exact ⟨⟨ogCls_ok h3, He.eqO_ok h4, X.ex, X.ty, X.kp, He.eqO_ok h5, He.eqO_ok h6, He.eqO_ok h7, He.eqO_ok h8, h9, h10, S.top⟩, X, f, _, x, g1, hf, h1, g2⟩
    · cases h2
  · cases h
end L4
namespace L4
open PySem PySem.Spec PyProof.Rows L2
end L4
namespace L4N
open PySem PySem.Spec PyProof.Rows L2 L4
structure PFx (P : Program) (w : World) (K : PySem.W.Frag) (mg : Str → Option Value) (base : Heap) (k : Nat) (x : Str) (n : Nat) (F : List D → Option Rv) : Prop where
  len : ∀ ds d, F ds = some d → ds.length = n
  ex : ∃ f fd ps, FnG P w K mg base (L2N.CX P w) k f fd ps (spPX ⟨P, w, K⟩ n F) ∧ mg x = some (.ref f) ∧ PySem.W.keepIn K (.ref f) = true ∧ Binds K fd ps []
def CallRX (X : Cx) (v : Value) (r : List V → Hp → VK → XK → Prop) : Prop := ∀ W, L2N.Takes X W → ∀ (pins : List (Addr × Obj)) (s : Shared) (σ : L2.St) (H : Hp) (vs : List V) (us : List Value) (Q : VK), Inv X pins σ H s → Vals vs us → r vs H Q (fun c d H' => W c d σ H') →
  wpAny (model X.prog X.w) X.A (call v us) (EP X pins σ Q) X.xe s
section
variable {X : Cx} {k : Nat} {f : Addr} {fd : FuncData} {ps : List Str} {sp : Sp} {ds : List Value} {dvs : List V}
variable {r : List V → Hp → VK → XK → Prop} {x : Str} {p pos apos : Pos} {e e' o : Expr} {es : List Expr}
inductive TabX (X : Cx) (k : Nat) : List (Str × (List D → Option Rv)) → Prop
  | nil : TabX X k []
  | cons {x n F tb} : PFx X.prog X.w X.K X.mg X.base k x n F → X.mg x = some (.ref (He.ga X.K x)) → TabX X k tb → TabX X k ((x, F) :: tb)
theorem TabX.get {tb : List (Str × (List D → Option Rv))} {F : List D → Option Rv} (h : TabX X k tb) (e : tb.lookup x = some F) : ∃ n, PFx X.prog X.w X.K X.mg X.base k x n F ∧ X.mg x = some (.ref (He.ga X.K x)) := by
  induction h with
  | nil => cases e
  | @cons y n G tb p q t ih =>
    rw [List.lookup_cons] at e
    split at e
    · next hb =>
      cases e
      have := eq_of_beq hb
      subst this
      exact ⟨n, p, q⟩
    · exact ih e
end
section
variable {P : Program} {w : World} {K : PySem.W.Frag} {mg : Str → Option Value} {base : Heap} {k n : Nat} {x c m : Str} {f : Addr} {fd : FuncData} {ps : List Str}
theorem PFx.more {j : Nat} {F : List D → Option Rv} (h : PFx P w K mg base j x n F) (l : j ≤ k) : PFx P w K mg base k x n F := by
  obtain ⟨f, fd, ps, G, hm, kp, b⟩ := h.ex
  exact ⟨h.len, f, fd, ps, G.more l, hm, kp, b⟩
end
structure EntX (X : Cx) (x : Str) (G : M → List D → Option Rv) : Prop where
  ex : ∃ r, X.mg x = some (.ref (He.ga X.K x)) ∧ PySem.W.keepIn X.K (.ref (He.ga X.K x)) = true ∧ CallRX X (.ref (He.ga X.K x)) r ∧ RfCX (gx X) r G
inductive TabY (X : Cx) : List (Str × (M → List D → Option Rv)) → Prop
  | nil : TabY X []
  | cons {x F tb} : EntX X x F → TabY X tb → TabY X ((x, F) :: tb)
theorem TabY.get {X : Cx} {y : Str} {tb : List (Str × (M → List D → Option Rv))} {F : M → List D → Option Rv} (h : TabY X tb) (e : tb.lookup y = some F) : EntX X y F := by
  induction h with
  | nil => cases e
  | @cons y G tb p t ih =>
    rw [List.lookup_cons] at e
    split at e
    · next hb =>
      cases e
      have := eq_of_beq hb
      subst this
      exact p
    · exact ih e
structure PFxd (P : Program) (w : World) (K : PySem.W.Frag) (mg : Str → Option Value) (base : Heap) (k : Nat) (x : Str) (n : Nat) (F : List D → Option Rv) : Prop where
  fn : PFx P w K mg base k x n F
  df : ∃ f fd ps a ds, FnG P w K mg base (L2N.CX P w) k f fd ps (spPX ⟨P, w, K⟩ n F) ∧ mg x = some (.ref f) ∧ PySem.W.keepIn K (.ref f) = true ∧ Vals [.ref a] ds ∧ Binds K fd ps ds ∧ ∀ H, SqT K H a []
section
variable {P : Program} {w : World} {K : PySem.W.Frag} {mg : Str → Option Value} {base : Heap} {k j : Nat} {x q : Str} {ps N : List Str} {st : Stmt} {b : SX}
theorem PFxd.more {n : Nat} {F : List D → Option Rv} (h : PFxd P w K mg base j x n F) (l : j ≤ k) : PFxd P w K mg base k x n F := by
  obtain ⟨f, fd, ps, a, ds, G, r⟩ := h.df
  exact ⟨h.fn.more l, f, fd, ps, a, ds, G.more l, r⟩
end
end L4N
namespace L4N
open PySem PySem.Spec PyProof.Rows L2 L4
def offW (i : Nat) (W : WX) : WX := fun cls d σ H => W cls d (σ.set i none) H
end L4N
namespace L4N
open PySem PySem.Spec PyProof.Rows L2 L4
def offRf (i : Nat) (r : Rf) : Rf := match r with
  | .fl r => .fl (offF (some i) r)
  | .ex x ρ => .ex x (offR (some i) ρ)
theorem KQ.off {g : G} {T : Tk} {H : Hp} {m : M} {r : Rf} {D : Ends} {W : WX} {i : Nat} (k : KQ g T H m (offRf i r) D W) : KQ g T H m r (offD (some i) D) (offW i W) := by
  cases r with
  | fl r => exact KF.off (i := some i) k
  | ex x ρ => exact fun cls dd σ T' H' l hm hs xr => k cls dd _ T' H' l hm hs.out xr
end L4N
namespace L4
open PySem PySem.Spec PyProof.Rows L2
end L4
namespace L4
open PySem PySem.Spec PyProof.Rows L2
end L4
namespace L4
open PySem PySem.Spec PyProof.Rows L2 LamX
end L4
namespace L4
open PySem PySem.Spec PyProof.Rows L2 LamX
end L4
namespace L4
open PySem PySem.Spec PyProof.Rows L2 LamX
end L4
namespace L4
open PySem PySem.Spec PyProof.Rows L2 LamX
end L4
namespace L4
open PySem PySem.Spec PyProof.Rows L2 LamX
/-- the law's own code object, its table -/
def LawTab (K : PySem.W.Frag) (h : Heap) : Prop := ∃ oc od fd osl c, K.lookup (He.ga K "law") = some ⟨oc, od, .func fd, osl⟩ ∧ fd.code = Value.ref c ∧ PySem.W.CodeHd h c (tabP K "") ∧ h.get? (tabP K "") = some { cls := .none, data := .fields #[] } ∧ K.lookup (tabP K "") = none
theorem LawTab.keeps {K : PySem.W.Frag} {h h' : Heap} (x : LawTab K h) (k : ∀ b o, h.get? b = some o → h'.get? b = some o) : LawTab K h' := by
  obtain ⟨oc, od, fd, osl, c, h1, h2, h3, h4, h5⟩ := x
  refine ⟨oc, od, fd, osl, c, h1, h2, ?_, k _ _ h4, h5⟩
  obtain ⟨o, vs, file, tf, flags, tg, inF, text, tt, e1, r⟩ := h3
  exact ⟨o, vs, file, tf, flags, tg, inF, text, tt, k _ _ e1, r⟩
end L4
namespace L4
open PySem PySem.Spec PyProof.Rows L2
end L4
namespace L4
open PySem PySem.Spec PyProof.Rows L2
end L4
namespace L4
open PySem PySem.Spec PyProof.Rows L2
theorem base_VE : BaseX "ValueError" "ValueError.__new__" "ValueError.__init__" [.type "ValueError", .type "Exception", .type "BaseException", .type "object"] := ⟨PySem.F.excBase_ValueError, PySem.W.kxs_ValueError, PySem.F.store_ValueError⟩
section
variable {X : Cx} {pins : List (Addr × Obj)} {σ : L2.St} {H : Hp} {s : Shared} {d : Addr} {fs : List (Str × V)}
theorem inv_xd (I : Inv X pins σ H s) (ed : H d = some (exd d fs)) : Inv X pins σ (upd H d (.xd fs)) s := by
  obtain ⟨hp, g, dr, t, os⟩ := s
  have nd : ∀ {b : Addr}, H b = none → b ≠ d := fun {b} n z => by
    rw [z, ed] at n
    cases n
  have Un1 : Un X.fs [] H (upd H d (.xd fs)) hp hp := {
    keep := fun b o q n _ _ => q
    slot := fun b o q n _ _ => ⟨o.slots, q⟩
    free := fun b o q n _ => by rw [upd_ne (nd n)]; exact n
    there := fun b o q _ => ⟨o, q⟩
    tups := fun b xs q => by rw [upd_ne (at_ne ed q exd_tup)]; exact q
    frzs := fun b o v q => by rw [upd_ne (at_ne ed q (fun z => nomatch z))]; exact q
    tbls := fun b ps q => ⟨#[], by rw [upd_ne (at_ne ed q (fun z => nomatch z)), q]; simp⟩ }
  refine I.un (t' := t) Un1 fun b o q => ?_
  by_cases hb : b = d
  · subst hb
    rw [upd_same] at q
    cases q
    obtain ⟨mA, hns, rel⟩ := exd_at I.hok ed
    exact ⟨mA, hns, rel⟩
  · rw [upd_ne hb] at q
    exact (I.hok b o q).stay (fun c v _ z => z) (fun c hc => by rw [upd_ne (at_ne ed hc exd_own)]; exact hc) (fun c xs hc => by rw [upd_ne (at_ne ed hc exd_tup)]; exact hc)
end
/-- C(e), a new error -/
def tMkV (C : Addr) (sp : Sp) (ta : TA) : TE := fun σ H Q => ta σ H fun vs H1 => vs.length ≤ 1000 ∧ ∀ a, H1 a = none → sp (.ref a :: vs) (upd H1 a (exo a C none)) (fun v H2 => v = .non ∧ ∃ d fs, H2 d = some (exd d fs) ∧ Q (.ref a) (upd H2 d (.xd fs))) (fun _ _ _ => False)
section
variable {X : Cx} {pos p : Pos} {e : Expr} {ta : TA} {B newId initId : String} {bmB : List Value}
theorem pe_ogV {CX : CXT} {c w : Str} {fI : Addr} {k : Nat} {fd : FuncData} {x : Str} (BX : BaseX B newId initId bmB) (T : OgK X.prog X.K (He.ga X.K c) w B newId initId bmB) (iC : PySem.W.findIn X.K (.ref (He.ga X.K c)) "__init__" = some (some (.ref fI))) (tI : PySem.W.typeIn X.K (.ref fI) = some (.type "function"))
    (F1 : FnOk X.prog X.w X.K X.mg X.base CX k fI fd ["self", x] (spI (He.ga X.K c) w)) (hr : Room (k + 1) X.A) (hb : Binds X.K fd ["self", x] []) (hx : Passes CX X (fun _ _ _ => False)) (hg : Gl X c) (hm : X.mg c = some (.ref (He.ga X.K c))) (ha : PA X [e] ta)
    (hdb : (c == ("__debug__" : Str)) = false) (he : starEach [e] X.env = (false, eval e X.env) :: starEach [] X.env) (hpl : (backTo pos (starEach [] X.env)).any (·.1) = false) :
    PE X (.Call (.Name c p) [e] [] pos) (tMkV (He.ga X.K c) (spI (He.ga X.K c) w) ta) := by
  refine ⟨fun pins s σ H Q I h => ?_⟩
  obtain ⟨nm, qn, N, bs, bm, sn, sub, ab, col, dd, k0, k1, k2, k3, k5, hC, hbm⟩ := T.cls
  refine wpAny_Call_Name_kw (ld_glob I hg hm ?_ hdb)
  refine PySem.W.callWith_K (h₀ := X.base) I.ok.mod.kin T.kC (thn (ha.run pos pins s σ H _ I h) fun us s1 ⟨vs, H1, I1, rv, hlen, hsp⟩ => ⟨I1.kIn, ?_⟩) he hpl
  obtain ⟨hp, gs, dw, tk, os⟩ := s1
  have lt1 : hp.objs.size ≤ hp.objs.size + 1 := Nat.le_add_right _ 1
  have free1 : H1 (hp.objs.size + 1) = none := I1.hok.fresh lt1
  have sp1 := hsp (hp.objs.size + 1) free1
  have grow : ∀ b o, hp.get? b = some o → ((hp.push (PySem.W.kdv_tup us)).push (PySem.HandSPX.excO (He.ga X.K c) hp.objs.size)).get? b = some o := fun b o q => Heap.get?_push_of_some _ (Heap.get?_push_of_some _ q)
  have at1 : ((hp.push (PySem.W.kdv_tup us)).push (PySem.HandSPX.excO (He.ga X.K c) hp.objs.size)).get? (hp.objs.size + 1) = some (PySem.HandSPX.excO (He.ga X.K c) hp.objs.size) := by heap_get
  have I2 : Inv X pins σ (upd H1 (hp.objs.size + 1) (exo (hp.objs.size + 1) (He.ga X.K c) none)) ⟨(hp.push (PySem.W.kdv_tup us)).push (PySem.HandSPX.excO (He.ga X.K c) hp.objs.size), gs, dw, tk, os⟩ :=
    I1.laid (t' := tk) (o := exo (hp.objs.size + 1) (He.ga X.K c) none) grow lt1 (exo_ok at1)
  have rv2 : Vals (V.ref (hp.objs.size + 1) :: vs) (Value.ref (hp.objs.size + 1) :: us) := .cons rfl rv
  have len2 : (Value.ref (hp.objs.size + 1) :: us ++ []).length = (["self", x] : List Str).length := by
    rw [List.append_nil, ← rv2.length]
    exact F1.len _ _ _ _ sp1
  have short : us.length ≤ sizeLine := by
    rw [← Paired.length rv, sizeLine_eq]
    omega
  have b2 := hb ⟨(hp.push (PySem.W.kdv_tup us)).push (PySem.HandSPX.excO (He.ga X.K c) hp.objs.size), gs, dw, tk, os⟩ (Value.ref (hp.objs.size + 1) :: us) I2.kIn len2
  rw [List.append_nil] at b2
  have run1 := F1.run (X.A.under (.builtin "type.__call__" ⟨.ref (He.ga X.K c) :: us, []⟩)) X.stack _ _ ⟨Value.ref (hp.objs.size + 1) :: us, []⟩ (Value.ref (hp.objs.size + 1) :: us) _ _ (fun _ _ _ => False) (hr.make (He.ga X.K c) us []) (I2.env0.make (He.ga X.K c) us []) b2 rv2 sp1
  show wpAny _ _ (call (.ref (He.ga X.K c)) us) _ _ _
  refine wpAny_call (PySem.HandSPX.call_own BX.b (fun Y => PySem.W.excTail_contains Y bm hbm) (I1.kIn _ _ hC) (PySem.W.looks_findIn I1.kIn iC) (fun me => PySem.W.bind_fn I1.kIn me tI) short (codeAny_mono run1 fun r s' z => ?_))
  match r, z with
  | .error er, z => exact hx pins σ _ _ er s' I2 z
  | .ok (.ret u), z =>
    obtain ⟨v, H2, J, rz, ev, d, fs, ed, q2⟩ := I2.after z
    subst ev
    exact ⟨rz, .ref (hp.objs.size + 1), _, inv_xd J ed, rfl, q2⟩
/-- C(), a new error without fields -/
theorem pe_exn0 {C : Addr} {x : Str} (F : ExcBaseFacts B newId initId bmB) (q : PySem.W.excIn X.K C bmB newId = true) (gC : X.mg x = some (.ref C)) (kC : PySem.W.keepIn X.K (.ref C) = true) (hg : Gl X x) (hdb : (x == ("__debug__" : Str)) = false) :
    PE X (.Call (.Name x p) [] [] pos) (fun _ H Q => ∀ a, H a = none → Q (.ref a) (upd H a (exo a C none))) := by
  refine ⟨fun pins s σ H Q I h => ?_⟩
  refine wpAny_Call_Name_kw (ld_glob I hg gC (PySem.W.callWith_K0 I.kIn kC ?_) hdb)
  obtain ⟨bm, N, nm, qn, bs, hdct, sn, sub, ab, col, dd, k0, k1, k2, k3, k5, mN, hC, hN, hni, T⟩ := exc_obj I.kIn q
  refine wpAny_call_exc_subT F T hC hN hni (fun h' a hm => ?_) (Nat.zero_le _)
  have hn : H a = none := I.hok.gone hm.new
  obtain ⟨t, ht, _, _⟩ := hm.there
  exact ⟨.ref a, _, I.laidN hm.keeps hm.new hn (exo_ok ht), rfl, h a hn⟩
/-- o.n, o an error -/
def tXfV (K : PySem.W.Frag) (n : Str) (te : TE) : TE := fun σ H Q => te σ H fun x H1 => ∃ (a C dd : Addr) (fs : List (Str × V)) (v : V), x = .ref a ∧ H1 a = some (exo a C (some dd)) ∧ H1 dd = some (.xd fs) ∧ XcC K C ∧ PySem.W.findIn K (.ref C) n = some none ∧ fs.lookup n = some v ∧ Q v H1
theorem pe_xfV {te : TE} {n : Str} (he : PE X e te) (hb : attributeBase e n X.env (eval e X.env) = eval e X.env) : PE X (.Attribute e n pos) (tXfV X.K n te) := by
  refine ⟨fun pins s σ H Q I h => ?_⟩
  refine attr_of hb (thn (he.run pins s σ H _ I h) fun u s1 hh => ?_)
  obtain ⟨x, H1, I1, rx, a, C, dd, fs, v, ex, ea, ed, T, hno, l, q⟩ := hh
  subst ex
  obtain rfl : u = Value.ref a := rx
  obtain ⟨t1, ha⟩ := exo_at I1.hok ea
  have hx : ObjOk X.prog X.w H1 s1.heap dd (.xd fs) := I1.hok dd _ ed
  obtain ⟨mA, hns, hr⟩ := hx
  obtain ⟨od, ho, hl⟩ := lookIn_ns hns
  obtain ⟨u, hu, ru⟩ := RelO.some_of (v := v) (o := mA n) (by rw [← l]; exact hr n)
  have J : PySem.W.InstAt s1.heap a { cls := .ref C, dict := some dd, data := .fields #[.ref t1, .none, .none, .none, .bool false, .none] } C (some od) := ⟨ha, rfl, rfl, ho⟩
  exact HandSPX.exc_get I1.kIn J T.ga T.gg T.ex (PySem.W.findObj_own T.hd hno rfl (by rw [hl, hu])) (handed_of ru) ⟨v, H1, I1.tok _, ru, q⟩
/-- isinstance(e, c), e an error -/
def rIsV (K : PySem.W.Frag) : List V → Hp → VK → Prop := fun xs H Q => ∃ (a C : Addr) (d : Option Addr) (c : V) (b : Bool), xs = [.ref a, c] ∧ H a = some (exo a C d) ∧ (d = none ∨ ∃ q fs, d = some q ∧ H q = some (.xd fs)) ∧ XcC K C ∧
  ((∃ cv, (∀ u, RelV c u → u = cv) ∧ PySem.W.kitOne K (.ref C) cv = some b) ∨ ∃ (tp : Addr) (t1 t2 : String), c = .ref tp ∧ SqT K H tp [.ty t1, .ty t2] ∧ PySem.W.kitAny K (.ref C) [.type t1, .type t2] = some b) ∧ Q (.bl b) H
theorem call_isV : CallR X (.builtin "isinstance") (rIsV X.K) := by
  intro pins s σ H xs us Q I r h
  obtain ⟨a, C, d, c, b, rfl, ea, hd, T, hc, q⟩ := h
  cases r with
  | cons r1 rr => cases rr with
    | @cons _ u2 _ _ r2 rr =>
      cases rr
      cases r1
      obtain ⟨t1, ha⟩ := exo_at I.hok ea
      have J : ∃ od, PySem.W.InstAt s.heap a { cls := .ref C, dict := d, data := .fields #[.ref t1, .none, .none, .none, .bool false, .none] } C od := by
        rcases hd with rfl | ⟨qa, fs, rfl, hq⟩
        · exact ⟨none, ha, rfl, rfl, trivial⟩
        · have hx : ObjOk X.prog X.w H s.heap qa (.xd fs) := I.hok qa _ hq
          obtain ⟨mA, hns, _⟩ := hx
          obtain ⟨od, es, ep, ho, _⟩ := hns
          exact ⟨some od, ha, rfl, rfl, ho⟩
      obtain ⟨od, J⟩ := J
      rcases hc with ⟨cv, hcv, e⟩ | ⟨tp, x1, x2, rfl, hq, e⟩
      · have ec := hcv _ r2
        subst ec
        exact PySem.W.kia_one (PySem.W.kitx_exc T.cl T.ga T.gg T.ex T.co T.cn T.ct T.ob) I.kIn J e (fun z => nomatch z) fun tk => ⟨.bl b, H, I.kept (t' := tk) fun _ _ z => z, rfl, q⟩
      · obtain rfl : u2 = Value.ref tp := r2
        obtain ⟨its, rv, ⟨ob, ho, hcl, n, hdt⟩, _⟩ := I.tuple hq
        obtain ⟨oc, odc, od2, osl⟩ := ob
        dsimp only at hcl hdt
        subst hcl hdt
        have ei : its = [Value.type x1, Value.type x2] := by
          cases rv with
          | cons q1 q2 => cases q2 with
            | cons q2 q3 => cases q3; cases q1; cases q2; rfl
        subst ei
        exact PySem.W.kia_tup (its := [Value.type x1, Value.type x2]) (PySem.W.kitx_exc T.cl T.ga T.gg T.ex T.co T.cn T.ct T.ob) I.kIn J ho e (fun z => nomatch z) fun tk => ⟨.bl b, H, I.kept (t' := tk) fun _ _ z => z, rfl, q⟩
end
def eExn1 (c w : Str) (a : AF) : EF := fun ρ m => bd (a ρ m) fun xs m1 => match xs with
  | [d] => some (.exn c [w] [d], m1)
  | _ => none
def eExn0 (c : Str) : EF := fun _ m => some (.exn c [] [], m)
def eXfV (cs : List Str) (n : Str) (o : EF) : EF := fun ρ m => bd (o ρ m) fun x m1 => match x with
  | .exn c ns vs => if cs.contains c then (fldAt ns vs n).map fun d => (d, m1) else none
  | _ => none
/-- by tables: which errors are of which classes, which of which built-in types -/
def isXD (tg : List ((Str × Str) × Bool)) (tt : List ((Str × String) × Bool)) (_ : M) (xs : List D) : Option D := match xs with
  | [.exn c _ _, .glo y] => (tg.lookup (c, y)).map D.bl
  | [.exn c _ _, .ty y] => (tt.lookup (c, y)).map D.bl
  | [.exn c _ _, .tup [.ty y, .ty z]] => match tt.lookup (c, y), tt.lookup (c, z) with
    | some a, some b => some (.bl (a || b))
    | _, _ => none
  | _ => none
theorem lookup_memX {α β : Type} [BEq α] [LawfulBEq α] {a : α} {b : β} : ∀ {l : List (α × β)}, l.lookup a = some b → (a, b) ∈ l
  | [], h => nomatch h
  | (x, y) :: l, h => by
    rw [List.lookup_cons] at h
    split at h
    · next e =>
      cases h
      rw [eq_of_beq e]
      exact List.mem_cons_self ..
    · exact List.mem_cons_of_mem _ (lookup_memX h)
section
variable {X : Cx} {pos p : Pos} {e : Expr} {B newId initId : String} {bmB : List Value}
theorem de_exn1 {c w : Str} {a : AF} (BX : BaseX B newId initId bmB) (h : OgC X.prog X.K c w B newId initId bmB) (gd : Gd 2 X) (hg : Gl X c) (hm : X.mg c = some (.ref (He.ga X.K c))) (ha : DA X [e] a) (hdb : (c == ("__debug__" : Str)) = false := by decide)
    (he : starEach [e] X.env = (false, eval e X.env) :: starEach [] X.env := by rfl) (hpl : (backTo pos (starEach [] X.env)).any (·.1) = false := by rfl) : DE X (.Call (.Name c p) [e] [] pos) (eExn1 c w a) := by
  obtain ⟨ta, pa, ra⟩ := ha.ex
  obtain ⟨f, fd, x, FF, iC, tI, hb⟩ := h.ex
  have F1 : FnOk X.prog X.w X.K X.mg X.base CX0 (0 + 1) f fd ["self", x] (spI (He.ga X.K c) w) := og_fn BX FF h.k
  refine ⟨_, pe_ogV BX h.k iC tI F1 gd.r hb (fun _ _ _ _ _ _ _ z => z.elim) hg hm pa hdb he hpl, fun T σ H ρ m d m' hm' hs hf Q k => ?_⟩
  obtain ⟨xs, m1, e1, hf⟩ := bd_some hf
  split at hf
  · next d =>
    cases hf
    refine ra T σ H ρ m [d] _ hm' hs e1 _ fun vs T1 H1 l1 hm1 r1 => ?_
    obtain ⟨v, rfl, rv⟩ := r1.one
    refine ⟨by simp, fun a0 na => ⟨a0, v, rfl, upd_same, fun dx hdx hne => ⟨rfl, dx, [(w, v)], by rw [upd_ne hne, upd_same], ?_⟩⟩⟩
    rw [upd_ne hne] at hdx
    have eq : upd (upd (upd (upd H1 a0 (exo a0 (He.ga X.K c) none)) dx (exd dx [(w, v)])) a0 (exo a0 (He.ga X.K c) (some dx))) dx (.xd [(w, v)]) = upd (upd H1 a0 (exo a0 (He.ga X.K c) (some dx))) dx (.xd [(w, v)]) := by
      funext b
      by_cases hb : b = dx
      · rw [hb, upd_same, upd_same]
      · rw [upd_ne hb, upd_ne hb]
        by_cases ha : b = a0
        · rw [ha, upd_same, upd_same]
        · rw [upd_ne ha, upd_ne hb, upd_ne ha, upd_ne ha]
    rw [eq]
    obtain ⟨l2, hm2⟩ := hm1.grow (H1 := upd (upd H1 a0 (exo a0 (He.ga X.K c) (some dx))) dx (.xd [(w, v)])) fun b u e => by
      rw [upd_ne (fun z => by rw [z, hdx] at e; cases e), upd_ne (fun z => by rw [z, na] at e; cases e)]
      exact e
    exact k _ T1 _ (l1.trans l2) hm2 (.exn1 (dx := dx) (fs := [(w, v)]) (hm1.nope na) (hm1.nope hdx) (by rw [upd_ne (Ne.symm hne), upd_same]) upd_same rfl (.cons (rv.le l2) .nil))
  · cases hf
theorem de_exn0 {c : Str} (h : Xc0 X.K c) (hg : Gl X c) (hm : X.mg c = some (.ref (He.ga X.K c))) (hdb : (c == ("__debug__" : Str)) = false := by decide) : DE X (.Call (.Name c p) [] [] pos) (eExn0 c) := by
  refine ⟨_, pe_exn0 PySem.F.excBase_ValueError h.q hm h.x.kp hg hdb, fun T σ H ρ m d m' hm' hs hf Q k => ?_⟩
  cases hf
  intro a na
  obtain ⟨l, hm1⟩ := hm'.fresh (u := exo a (He.ga X.K c) none) na
  exact k _ T _ l hm1 (.exn0 (hm'.nope na) upd_same)
theorem de_xfV {cs : List Str} {n : Str} {fo : EF} (hc : XfN X.K cs n) (ho : DE X e fo) (hb : attributeBase e n X.env (eval e X.env) = eval e X.env := by rfl) : DE X (.Attribute e n pos) (eXfV cs n fo) := by
  obtain ⟨t, pt, rt⟩ := ho.ex
  refine ⟨_, pe_xfV pt hb, fun T σ H ρ m d m' hm hs hf Q k => ?_⟩
  obtain ⟨x, m1, e1, hf⟩ := bd_some hf
  refine rt T σ H ρ m x m1 hm hs e1 _ fun v T1 H1 l1 hm1 r1 => ?_
  split at hf
  · next c ns vs =>
    obtain ⟨h1, hf⟩ := ite_some hf
    obtain ⟨y, e2, e3⟩ := Option.map_eq_some_iff.mp hf
    cases e3
    obtain ⟨T2, hno⟩ := hc c (by simpa using h1)
    cases r1 with
    | exn0 _ _ => cases e2
    | @exn1 a dx fs _ _ _ n1 n2 f1 f2 e3 rl =>
      obtain ⟨v, e4, rv⟩ := fld_rep e3 rl e2
      exact ⟨a, _, dx, fs, v, rfl, f1, f2, T2, hno, e4, k _ T1 H1 l1 hm1 rv⟩
  · cases hf
theorem exn_rep {g : G} {T : Tk} {H : Hp} {c : Str} {ns : List Str} {vs : List D} {v : V} (r : Rep g T H (.exn c ns vs) v) : ∃ a d, v = .ref a ∧ H a = some (exo a (He.ga g.K c) d) ∧ (d = none ∨ ∃ q fs, d = some q ∧ H q = some (.xd fs)) := by
  cases r with
  | exn0 _ f => exact ⟨_, none, rfl, f, .inl rfl⟩
  | exn1 _ _ f1 f2 _ _ => exact ⟨_, _, rfl, f1, .inr ⟨_, _, rfl, f2⟩⟩
theorem call_isX {tg : List ((Str × Str) × Bool)} {tt : List ((Str × String) × Bool)} (h : isxB X.K tg tt = true) : CallD X (.builtin "isinstance") (isXD tg tt) := ⟨_, call_isV, fun T H m xs vs d hm r hf Q k => by
  obtain ⟨h1, h2⟩ := Bool.and_eq_true_iff.mp h
  have gt : ∀ c y b, tg.lookup (c, y) = some b → XcC X.K (He.ga X.K c) ∧ PySem.W.kitOne X.K (.ref (He.ga X.K c)) (.ref (He.ga X.K y)) = some b := fun c y b e => by
    obtain ⟨q1, q2⟩ := Bool.and_eq_true_iff.mp (List.all_eq_true.mp h1 _ (lookup_memX e))
    exact ⟨xcB_ok q1, of_decide_eq_true q2⟩
  have tt' : ∀ c y b, tt.lookup (c, y) = some b → XcC X.K (He.ga X.K c) ∧ PySem.W.kitOne X.K (.ref (He.ga X.K c)) (.type y) = some b := fun c y b e => by
    obtain ⟨q1, q2⟩ := Bool.and_eq_true_iff.mp (List.all_eq_true.mp h2 _ (lookup_memX e))
    exact ⟨xcB_ok q1, of_decide_eq_true q2⟩
  unfold isXD at hf
  split at hf
  · next c ns ws y =>
    obtain ⟨b, e1, e2⟩ := Option.map_eq_some_iff.mp hf
    cases e2
    obtain ⟨v, w, rfl, q1, q2⟩ := r.two
    obtain ⟨a, dd, rfl, f1, f2⟩ := exn_rep q1
    cases q2
    obtain ⟨x1, x2⟩ := gt _ _ _ e1
    exact ⟨a, _, dd, _, b, rfl, f1, f2, x1, .inl ⟨_, (fun u hu => hu), x2⟩, k.now hm (.bl b)⟩
  · next c ns ws y =>
    obtain ⟨b, e1, e2⟩ := Option.map_eq_some_iff.mp hf
    cases e2
    obtain ⟨v, w, rfl, q1, q2⟩ := r.two
    obtain ⟨a, dd, rfl, f1, f2⟩ := exn_rep q1
    cases q2
    obtain ⟨x1, x2⟩ := tt' _ _ _ e1
    exact ⟨a, _, dd, _, b, rfl, f1, f2, x1, .inl ⟨_, (fun u hu => hu), x2⟩, k.now hm (.bl b)⟩
  · next c ns ws y z =>
    split at hf
    · next b1 b2 e1 e2 =>
      cases hf
      obtain ⟨v, w, rfl, q1, q2⟩ := r.two
      obtain ⟨a, dd, rfl, f1, f2⟩ := exn_rep q1
      obtain ⟨tp, us, rfl, hx, rl⟩ := tup_rep q2
      obtain ⟨v1, v2, rfl, s1, s2⟩ := rl.two
      cases s1
      cases s2
      obtain ⟨x1, x2⟩ := tt' _ _ _ e1
      obtain ⟨x3, x4⟩ := tt' _ _ _ e2
      have ek : PySem.W.kitAny X.K (.ref (He.ga X.K c)) [.type y, .type z] = some (b1 || b2) := by
        unfold PySem.W.kitAny
        rw [x2]
        cases b1
        · unfold PySem.W.kitAny
          rw [x4]
          cases b2 <;> rfl
        · rfl
      exact ⟨a, _, dd, _, _, rfl, f1, f2, x1, .inr ⟨tp, y, z, rfl, hx, ek⟩, k.now hm (.bl _)⟩
    · cases hf
  · cases hf⟩
end
end L4
namespace L4
open PySem L2 TL
def f__law_deal_1 : SF := sAsg (eOp modD (eCall intD (aCons (eOp addD (eOp mulD (eVar 4) (eC (.int 16807))) (eVar 2)) (aNil))) (eC (.int 2147483647))) (gNm 4)
def f__law_deal_2 : SF := sRet (eDisp true [(eC (.str "great"), eRev true (eVar 5)), (eC (.str "now"), eC (.int 0)), (eC (.str "mixed"), eOp addD (eVar 4) (eC (.int 1))), (eC (.str "turn"), eC (.int 0))])
def f__law_deal_3 : SF := sSeq (sAsg (eLcK false (iIt (eVar 3)) (.one 2) (tVal (eOp geD (eVar 2) (eOp powD (eC (.int 10)) (eC (.int 18))))) (eVar 2)) (gNm 5)) (f__law_deal_2)
def f__law_deal_4 : SF := sSeq (sForA big (eVar 3) (gTgt (.one 2)) (f__law_deal_1)) (f__law_deal_3)
def f__law_deal_5 : SF := sSeq (sAsg (eOp addD (eC (.int 15485863)) (eVar 1)) (gNm 4)) (f__law_deal_4)
def f__law_deal : SF := sSeq (sAsg (eLcK false (iIt (eSl (eVar 0) (oYes (eVar 1)) (oYes (eC (.int 63))))) (.one 2) (tTrue) (eCall absD (aCons (eVar 2) (aNil)))) (gNm 3)) (f__law_deal_5)
def F__law_deal := runM 2 6 f__law_deal
def f__law_draw_1 : SF := sAsg (eLm0 (fun _ => popL) (eOp ixA (eVar 0) (eC (.str "great"))) aNil) (gSetA (eVar 0) (eC (.str "now")))
def f__law_draw_2 : SF := sSeq (sAsg (eOp fdivD (eOp ixA (eVar 0) (eC (.str "now"))) (eVar 1)) (gSetA (eVar 0) (eC (.str "now")))) (sRet (eVar 2))
def f__law_draw_3 : SF := sRet (eOp modD (eCall intD (aCons (eOp addD (eOp fdivD (eVar 4) (eC (.int 4096))) (eVar 3)) (aNil))) (eVar 1))
def f__law_draw_4 : SF := sSeq (sAsg (eOp addD (eOp modD (eCall intD (aCons (eOp addD (eOp mulD (eVar 4) (eC (.int 40692))) (eVar 3)) (aNil))) (eC (.int 2147483647))) (eC (.int 1))) (gSetA (eVar 0) (eC (.str "mixed")))) (f__law_draw_3)
def f__law_draw_5 : SF := sSeq (sAsg (eOp modD (eCall intD (aCons (eOp addD (eOp mulD (eVar 3) (eVar 3)) (eOp mulD (eOp ixA (eVar 0) (eC (.str "turn"))) (eC (.int 7919)))) (aNil))) (eC (.int 2147483563))) (gNm 4)) (f__law_draw_4)
def f__law_draw_6 : SF := sSeq (sAsg (eOp modD (eCall intD (aCons (eOp addD (eOp mulD (eOp ixA (eVar 0) (eC (.str "mixed"))) (eC (.int 48271))) (eOp mulD (eOp ixA (eVar 0) (eC (.str "turn"))) (eC (.int 69621)))) (aNil))) (eC (.int 2147483629))) (gNm 3)) (f__law_draw_5)
def f__law_draw_7 : SF := sSeq (sAsg (eOp addD (eOp ixA (eVar 0) (eC (.str "turn"))) (eC (.int 1))) (gSetA (eVar 0) (eC (.str "turn")))) (f__law_draw_6)
def f__law_draw_8 : SF := sSeq (sIf (tVal (eOp gtD (eOp ixA (eVar 0) (eC (.str "now"))) (eC (.int 0)))) (sSeq (sAsg (eOp modD (eCall intD (aCons (eOp ixA (eVar 0) (eC (.str "now"))) (aNil))) (eVar 1)) (gNm 2)) (f__law_draw_2)) (sNop)) (f__law_draw_7)
def f__law_draw : SF := sSeq (sWhile big (tAnd (tVal (eOp eqD (eOp ixA (eVar 0) (eC (.str "now"))) (eC (.int 0)))) (tVal (eOp gtD (eCall lenD (aCons (eOp ixA (eVar 0) (eC (.str "great"))) (aNil))) (eC (.int 0))))) (f__law_draw_1)) (f__law_draw_8)
def F__law_draw := runM 2 5 f__law_draw
abbrev f__law_pick : SF := sRet (eOp ixA (eVar 1) (eCallM F__law_draw (aCons (eVar 0) (aCons (eCall lenD (aCons (eVar 1) (aNil))) (aNil)))))
def F__law_pick := runM 2 2 f__law_pick
abbrev f__law_value_1 (FR : List D → M → Option (D × M)) : SF := sRet (eIf (tVal (eOp eqD (eVar 2) (eC (.int 4)))) (eVar 3) (eCall tupD (aCons (eVar 3) (aNil))))
abbrev f__law_value_2 (FR : List D → M → Option (D × M)) : SF := sSeq (sAsg (eLcK false (iR1 (aCons (eCallM F__law_draw (aCons (eVar 0) (aCons (eC (.int 4)) (aNil)))) (aNil))) (.one 4) (tTrue) (eCallM FR (aCons (eVar 0) (aCons (eOp subD (eVar 1) (eC (.int 1))) (aNil))))) (gNm 3)) ((f__law_value_1 FR))
abbrev f__law_value_3 (FR : List D → M → Option (D × M)) : SF := sSeq (sIf (tVal (eOp ltD (eVar 2) (eC (.int 4)))) (sRet (eCallM F__law_pick (aCons (eVar 0) (aCons (eLst (aCons (eC (.str "")) (aCons (eC (.str "open")) (aCons (eC (.str "ok")) (aCons (eC (.str "fault")) (aCons (eC (.str "turn 0 0 ok")) (aCons (eC (.str "felt")) (aCons (eC (.str "all")) (aCons (eC (.str "x y")) (aNil)))))))))) (aNil))))) (sNop)) ((f__law_value_2 FR))
abbrev f__law_value_4 (FR : List D → M → Option (D × M)) : SF := sSeq (sIf (tVal (eOp eqD (eVar 2) (eC (.int 1)))) (sRet (eCallM F__law_pick (aCons (eVar 0) (aCons (eLst (aCons (eC .non) (aCons (eC (.bl true)) (aCons (eC (.bl false)) (aNil))))) (aNil))))) (sNop)) ((f__law_value_3 FR))
abbrev f__law_value_5 (FR : List D → M → Option (D × M)) : SF := sSeq (sIf (tVal (eOp eqD (eVar 2) (eC (.int 0)))) (sRet (eCallM F__law_pick (aCons (eVar 0) (aCons (eLst (aCons (eC (.int 0)) (aCons (eC (.int 1)) (aCons (eOp subD (eC (.int 0)) (eC (.int 7))) (aCons (eOp powD (eC (.int 10)) (eC (.int 20))) (aNil)))))) (aNil))))) (sNop)) ((f__law_value_4 FR))
abbrev f__law_value (FR : List D → M → Option (D × M)) : SF := sSeq (sAsg (eCallM F__law_draw (aCons (eVar 0) (aCons (eIf (tVal (eOp gtD (eVar 1) (eC (.int 0)))) (eC (.int 7)) (eC (.int 4))) (aNil)))) (gNm 2)) ((f__law_value_5 FR))
def F__law_value : Nat → List D → M → Option (D × M)
  | 0 => noM
  | n + 1 => runM 2 5 (f__law_value (F__law_value n))
def f__law_kept_1 : SF := sRet (eOp addD (eVar 1) (eLst (aCons (eXfV ["InvalidSeen"] "at" (eExn1 "InvalidSeen" "at" (aCons (eVar 0) (aNil)))) (aCons (eXfV ["Refused"] "at" (eExn1 "Refused" "at" (aCons (eVar 0) (aNil)))) (aCons (eXfV ["NoEvent"] "at" (eExn1 "NoEvent" "at" (aCons (eVar 0) (aNil)))) (aNil))))))
abbrev f__law_kept : SF := sSeq (sAsg (eLst (aCons (eXfV ["InvalidRule"] "word" (eExn1 "InvalidRule" "word" (aCons (eVar 0) (aNil)))) (aCons (eXfV ["InvalidRoad"] "word" (eExn1 "InvalidRoad" "word" (aCons (eVar 0) (aNil)))) (aCons (eXfV ["InvalidText"] "at" (eExn1 "InvalidText" "at" (aCons (eVar 0) (aNil)))) (aCons (eXfV ["InvalidEvent"] "at" (eExn1 "InvalidEvent" "at" (aCons (eVar 0) (aNil)))) (aNil)))))) (gNm 1)) (f__law_kept_1)
def F__law_kept := runM 1 2 f__law_kept
abbrev f__law_sorts_1 : SF := sRet (eCall lenD (aCons (eLcK false (iIt (eVar 1)) (.one 2) (tVal (eVar 2)) (eC (.int 1))) (aNil)))
abbrev f__law_sorts_2 : SF := sSeq (sAsg (eOp addD (eVar 1) (eLst (aCons (eCall (isXD tb_isxG tb_isxT) (aCons (eVar 0) (aCons (eC (.glo "InvalidWhat")) (aNil)))) (aCons (eCall (isXD tb_isxG tb_isxT) (aCons (eVar 0) (aCons (eC (.glo "InvalidSeen")) (aNil)))) (aCons (eCall (isXD tb_isxG tb_isxT) (aCons (eVar 0) (aCons (eC (.glo "InvalidCommand")) (aNil)))) (aNil)))))) (gNm 1)) (f__law_sorts_1)
abbrev f__law_sorts_3 : SF := sSeq (sAsg (eOp addD (eVar 1) (eLst (aCons (eCall (isXD tb_isxG tb_isxT) (aCons (eVar 0) (aCons (eC (.glo "InvalidEvent")) (aNil)))) (aCons (eCall (isXD tb_isxG tb_isxT) (aCons (eVar 0) (aCons (eC (.glo "InvalidGoal")) (aNil)))) (aCons (eCall (isXD tb_isxG tb_isxT) (aCons (eVar 0) (aCons (eC (.glo "Refused")) (aNil)))) (aNil)))))) (gNm 1)) (f__law_sorts_2)
abbrev f__law_sorts : SF := sSeq (sAsg (eLst (aCons (eCall (isXD tb_isxG tb_isxT) (aCons (eVar 0) (aCons (eC (.glo "InvalidRule")) (aNil)))) (aCons (eCall (isXD tb_isxG tb_isxT) (aCons (eVar 0) (aCons (eC (.glo "InvalidRoad")) (aNil)))) (aCons (eCall (isXD tb_isxG tb_isxT) (aCons (eVar 0) (aCons (eC (.glo "InvalidText")) (aNil)))) (aNil))))) (gNm 1)) (f__law_sorts_3)
def F__law_sorts := runM 1 3 f__law_sorts
def f_law_1 : SF := sIf (tVal (eOp neD (eLcV false (lIt (eCallM F__law_kept (aCons (eVar 3) (aNil)))) (.one 8) (tVal (eOp neD (eCall reprG (aCons (eVar 8) (aNil))) (eCall reprG (aCons (eVar 3) (aNil))))) (eC (.int 1))) (eLst (aNil)))) (sRet (eC (.bl false))) (sNop)
def f_law_2 : SF := sSeq (sIf (tOr (tVal (eOp eqD (eVar 5) (eCall reprG (aCons (eCallM F__law_kept (aCons (eVar 3) (aNil))) (aNil))))) (tVal (eOp neD (eCall reprG (aCons (eXfV ["NoEvent"] "at" (eVar 4)) (aNil))) (eCall reprG (aCons (eVar 3) (aNil)))))) (sRet (eC (.bl false))) (sNop)) (f_law_1)
def f_law_3 : SF := sSeq (sDrop (eLm0 (fun _ => appL) (eVar 3) (aCons (eCallM (F__law_value 10) (aCons (eVar 1) (aCons (eC (.int 2)) (aNil)))) (aNil)))) (f_law_2)
def f_law_4 : SF := sSeq (sPar [4, 5] (aCons (eExn1 "NoEvent" "at" (aCons (eVar 3) (aNil))) (aCons (eCall reprG (aCons (eCallM F__law_kept (aCons (eVar 3) (aNil))) (aNil))) (aNil)))) (f_law_3)
def f_law_5 : SF := sSeq (sAsg (eNewL (aCons (eCallM (F__law_value 10) (aCons (eVar 1) (aCons (eC (.int 3)) (aNil)))) (aNil))) (gNm 3)) (f_law_4)
def f_law_6 : SF := sIf (tOr (tVal (eCall (isXD tb_isxG tb_isxT) (aCons (eVar 7) (aCons (eTup (aCons (eC (.ty "KeyError")) (aCons (eC (.ty "IndexError")) (aNil)))) (aNil))))) (tVal (eOp neD (eCallM F__law_sorts (aCons (eVar 7) (aNil))) (eC (.int 1))))) (sRet (eC (.bl false))) (sNop)
def f_law_7 : SF := sSeq (sIf (tOr (tNot (tVal (eCall (isXD tb_isxG tb_isxT) (aCons (eVar 7) (aCons (eC (.glo "SitError")) (aNil)))))) (tNot (tVal (eCall (isXD tb_isxG tb_isxT) (aCons (eVar 7) (aCons (eC (.ty "ValueError")) (aNil))))))) (sRet (eC (.bl false))) (sNop)) (f_law_6)
def f_law_8 : SF := sRet (eAnd (eCall (isXD tb_isxG tb_isxT) (aCons (eVar 7) (aCons (eC (.ty "IndexError")) (aNil)))) (eAnd (eNot (eCall (isXD tb_isxG tb_isxT) (aCons (eVar 7) (aCons (eC (.ty "ValueError")) (aNil))))) (eNot (eCall (isXD tb_isxG tb_isxT) (aCons (eVar 7) (aCons (eC (.ty "KeyError")) (aNil)))))))
def f_law_9 : SF := sSeq (sAsg (eExn1 "NoEvent" "at" (aCons (eC (.int 3)) (aNil))) (gNm 7)) (f_law_8)
def f_law_10 : SF := sSeq (sForA big (eOp addD (eVar 6) (eLst (aCons (eExn1 "InvalidRoad" "word" (aCons (eC (.str "")) (aNil))) (aCons (eExn1 "InvalidEvent" "at" (aCons (eC (.int 3)) (aNil))) (aCons (eExn1 "InvalidSeen" "at" (aCons (eC (.int 2)) (aNil))) (aNil)))))) (gTgt (.one 7)) (f_law_7)) (f_law_9)
def f_law_11 : SF := sSeq (sAsg (eLst (aCons (eExn0 "InvalidGoal") (aCons (eExn0 "InvalidWhat") (aCons (eExn0 "InvalidCommand") (aCons (eExn1 "InvalidRule" "word" (aCons (eC (.str "a")) (aNil))) (aCons (eExn1 "InvalidText" "at" (aCons (eC (.int 0)) (aNil))) (aCons (eExn1 "Refused" "at" (aCons (eC (.int 1)) (aNil))) (aNil)))))))) (gNm 6)) (f_law_10)
def f_law_12 : SF := sSeq (sFor (iR1 (aCons (eC (.int 6)) (aNil))) (gTgt (.one 2)) (f_law_5)) (f_law_11)
abbrev f_law : SF := sSeq (sAsg (eCallM F__law_deal (aCons (eVar 0) (aCons (eC (.int 0)) (aNil)))) (gNm 1)) (f_law_12)
def F_law := runP 1 9 f_law
end L4
namespace L4
open PySem
inductive Bk where | half | opn | trial
inductive Hr where | fault | no | out
structure Ru where
  need : Int
  of : Int
  base : Int
  more : Int
  most : Int
  calm : Int
  back : Bk
  top : Int
  under : Int
  up : Bool
  hears : Hr
  cap : Int
def Bk.s : Bk → Str
  | .half => "half"
  | .opn => "open"
  | .trial => "trial"
def Hr.s : Hr → Str
  | .fault => "fault"
  | .no => "no"
  | .out => "out"
def ruNames : List Str := ["need", "of", "base", "more", "most", "calm", "back", "top", "under", "up", "hears", "cap"]
def Ru.vals (r : Ru) : List D := [.int r.need, .int r.of, .int r.base, .int r.more, .int r.most, .int r.calm, .str r.back.s, .int r.top, .int r.under, .bl r.up, .str r.hears.s, .int r.cap]
def Ru.d (r : Ru) : D := .obj "Rule" ruNames r.vals
inductive Sd where
  | inn (w : List Bool) (times calm : Int)
  | out (left times : Int)
  | trial (times : Int)
deriving DecidableEq
def Sd.d : Sd → D
  | .inn w t c => .tup [.str "in", .tup (w.map .bl), .int t, .int c]
  | .out l t => .tup [.str "out", .int l, .int t]
  | .trial t => .tup [.str "trial", .int t]
inductive Lt where | fault | faultFull | ok | told | toldFull
deriving DecidableEq
def Lt.s : Lt → Str
  | .fault => "fault"
  | .faultFull => "fault full"
  | .ok => "ok"
  | .told => "told"
  | .toldFull => "told full"
inductive Wh where | felt | missed | skip | ok | told
deriving DecidableEq
def Wh.s : Wh → Str
  | .felt => "felt"
  | .missed => "missed"
  | .skip => "skip"
  | .ok => "ok"
  | .told => "told"
section
variable {r : Ru} {m : M}
theorem eqB {o : Option D} {b : Bool} (h : (match o with | some (.bl c) => c == b | _ => false) = true) : o = some (.bl b) := by
  split at h
  · rw [eq_of_beq h]
  · cases h
theorem eq_int {i j : Int} : eqD m (.int i) (.int j) = some (.bl (i == j)) := by
  have hi : ∀ i : Int, pdM m (.int i) = some (.int i) := fun i => by
    have h1 : SeqAt.shaped (PyData.int i) = true := rfl
    simp [pdM, frz, pureD, pd, h1]
  simp [eqD, hi, PyData.eqv]
end
def Ru.time (r : Ru) (j : Int) : Int := if r.most < r.base + r.more * (j - 1) then r.most else r.base + r.more * (j - 1)
def Ru.leftOut (r : Ru) (t : Int) : Sd := .out (r.time (if r.cap < t + 1 then r.cap else t + 1)) (if r.cap < t + 1 then r.cap else t + 1)
section
variable {r : Ru} {m : M}
def Ru.faults (r : Ru) : Int := if r.back matches .half then r.need - (r.need + 1) / 2 else 0
def Ru.comeBack (r : Ru) (t : Int) : Sd := if r.back matches .trial then .trial t else .inn (List.replicate r.faults.toNat true) t 0
def Ru.atTry (r : Ru) (s : Sd) (t : Int) (room : Bool) : Sd × Bool := if room then (r.leftOut t, false) else (s, true)
/-- the last answers -/
def Ru.cut (r : Ru) (w : List Bool) (b : Bool) : List Bool := cutD (w ++ [b]) (some (-r.of)) none
def Ru.afterOk (r : Ru) (w : List Bool) (t c : Int) : Sd := if (t == 0 || r.calm == 0) = true then .inn (r.cut w false) t 0 else if r.calm ≤ c + 1 then .inn (r.cut w false) 0 0 else .inn (r.cut w false) t (c + 1)
def nTrue (w : List Bool) : Int := ((w.filter id).length : Nat)
def Ru.afterFault (r : Ru) (w : List Bool) (t : Int) (room : Bool) : Sd × Bool := if nTrue (r.cut w true) < r.need then (.inn (r.cut w true) t 0, false) else r.atTry (.inn (r.cut w true) t 0) t room
def Ru.afterTurn (r : Ru) (s : Sd) (fault room : Bool) : Sd × Wh × Bool := match s with
  | .out l t => (if l == 1 then r.comeBack t else .out (l - 1) t, if fault then .skip else .missed, false)
  | .trial t => if fault then (r.leftOut t, .felt, false) else (.inn [] t 0, .ok, false)
  | .inn w t c => if fault then ((r.afterFault w t room).1, .felt, (r.afterFault w t room).2) else (r.afterOk w t c, .ok, false)
def tw (x : Sd × Wh × Bool) : D := .tup [x.1.d, .str x.2.1.s, .bl x.2.2]
def Ru.afterWord (r : Ru) (s : Sd) (room : Bool) : Sd × Bool := match s with
  | .inn w t c => if r.hears matches .no then (.inn w t c, false) else if r.hears matches .out then r.atTry (.inn w t c) t room else r.afterFault w t room
  | s => (s, false)
def Ru.room (r : Ru) (full : Bool) : Bool := decide (0 < r.top) && (!full || r.top == r.under)
def Lt.full : Lt → Bool
  | .faultFull => true
  | .toldFull => true
  | _ => false
def Lt.isTold : Lt → Bool
  | .told => true
  | .toldFull => true
  | _ => false
def Lt.isFault : Lt → Bool
  | .fault => true
  | .faultFull => true
  | _ => false
def Ru.step (r : Ru) (s : Sd) (l : Lt) : Sd × Wh := if l.isTold then ((r.afterWord s (r.room l.full)).1, .told) else ((r.afterTurn s l.isFault (r.room l.full)).1, (r.afterTurn s l.isFault (r.room l.full)).2.1)
end
end L4
namespace L4
open PySem
theorem cut_ints (ns : List Int) (lo hi : Option Int) : ∃ ms : List Int, cutD (ns.map D.int) lo hi = ms.map D.int ∧ ms.length ≤ ns.length := by
  refine ⟨(ns.drop (HT.sIx ns.length 0 lo)).take (HT.sIx ns.length ns.length hi - HT.sIx ns.length 0 lo), ?_, ?_⟩
  · unfold cutD
    rw [List.length_map, ← List.map_drop, ← List.map_take]
  · simp; omega
abbrev dKS : List D := [.str "great", .str "now", .str "mixed", .str "turn"]
abbrev dSt (gs : List Int) (a b c : Int) (rest : M) : M := .lst (gs.map D.int) :: .dic dKS [.ref 0, .int a, .int b, .int c] :: rest
section
variable {gs : List Int} {a b c k : Int} {rest : M} {d : D}
theorem dx_great : ixA (dSt gs a b c rest) (.ref 1) (.str "great") = some (.ref 0) := by kernel_rfl
theorem dx_now : ixA (dSt gs a b c rest) (.ref 1) (.str "now") = some (.int a) := by kernel_rfl
theorem dx_mixed : ixA (dSt gs a b c rest) (.ref 1) (.str "mixed") = some (.int b) := by kernel_rfl
theorem dx_turn : ixA (dSt gs a b c rest) (.ref 1) (.str "turn") = some (.int c) := by kernel_rfl
theorem ds_now : setM (dSt gs a b c rest) (.ref 1) (.str "now") (.int k) = some (dSt gs k b c rest) := by kernel_rfl
theorem ds_mixed : setM (dSt gs a b c rest) (.ref 1) (.str "mixed") (.int k) = some (dSt gs a k c rest) := by kernel_rfl
theorem ds_turn : setM (dSt gs a b c rest) (.ref 1) (.str "turn") (.int k) = some (dSt gs a b k rest) := by kernel_rfl
theorem dl_great {m : M} : lenD (.lst (gs.map D.int) :: m) [.ref 0] = some (.int gs.length) := by simp [lenD, lstR, lstOf, lstO]
theorem dr_while {k : Option D} {x y z : Option D} (ha : 0 ≤ a) (hg : ∀ g ∈ gs, 0 ≤ g) : ∀ n : Nat, gs.length < n → ∃ (gs' : List Int) (a' : Int), 0 ≤ a' ∧ (∀ g ∈ gs', 0 ≤ g) ∧ gs'.length ≤ gs.length ∧
    sWhile n (tAnd (tVal (eOp eqD (eOp ixA (eVar 0) (eC (.str "now"))) (eC (.int 0)))) (tVal (eOp gtD (eCall lenD (aCons (eOp ixA (eVar 0) (eC (.str "great"))) (aNil))) (eC (.int 0))))) f__law_draw_1 [some (.ref 1), k, x, y, z] (dSt gs a b c rest) = some (.nx [some (.ref 1), k, x, y, z], dSt gs' a' b c rest) := by
  intro n
  induction n generalizing gs a with
  | zero => intro h; omega
  | succ n ih =>
    intro hn
    by_cases h0 : a = 0
    · subst h0
      cases hgs : gs.reverse with
      | nil =>
        have : gs = [] := by simpa using hgs
        subst this
        refine ⟨[], 0, by omega, by simp, by simp, ?_⟩
        simp [sWhile, tAnd, tVal, eOp, eVar, eC, eCall, aCons, aNil, dx_now, dx_great, eq_int, dl_great, gtD]
      | cons g r =>
        have e : gs = r.reverse ++ [g] := by
          have := congrArg List.reverse hgs
          simpa using this
        subst e
        have h1 : ∀ g' ∈ r.reverse, 0 ≤ g' := fun g' h => hg g' (List.mem_append_left _ h)
        have h2 : 0 ≤ g := hg g (by simp)
        obtain ⟨gs', a', q1, q2, q3, q4⟩ := ih (gs := r.reverse) (a := g) h2 h1 (by simp at hn ⊢; omega)
        refine ⟨gs', a', q1, q2, by simp at q3 ⊢; omega, ?_⟩
        unfold sWhile
        have hc : (tAnd (tVal (eOp eqD (eOp ixA (eVar 0) (eC (.str "now"))) (eC (.int 0)))) (tVal (eOp gtD (eCall lenD (aCons (eOp ixA (eVar 0) (eC (.str "great"))) (aNil))) (eC (.int 0)))))
            [some (.ref 1), k, x, y, z] (dSt (r.reverse ++ [g]) 0 b c rest) = some (true, dSt (r.reverse ++ [g]) 0 b c rest) := by
          have hl : (0 : Int) < ((r.reverse ++ [g]).length : Int) := by
            rw [List.length_append, List.length_singleton]; omega
          simp only [tAnd, tVal, eOp, eVar, eC, eCall, aCons, aNil, List.getD_cons_zero, pu_go, bd_go, dx_now, dx_great, eq_int, dl_great, gtD]
          simp [hl]
        have hb : f__law_draw_1 [some (.ref 1), k, x, y, z] (dSt (r.reverse ++ [g]) 0 b c rest) = some (.nx [some (.ref 1), k, x, y, z], dSt r.reverse g b c rest) := by
          have hp : popL ((r.reverse ++ [g]).map D.int) [] = some (.int g, r.reverse.map D.int) := by simp [popL]
          simp only [f__law_draw_1, sAsg, eLm0, eOp, eVar, eC, aNil, List.getD_cons_zero, pu_go, bd_go, dx_great, List.getElem?_cons_zero, hp, List.set_cons_zero, gSetA, Option.map_some, Option.bind_some, lstO]
          rw [show (O.lst (List.map D.int r.reverse) :: O.dic dKS [.ref 0, .int 0, .int b, .int c] :: rest : M) = dSt r.reverse 0 b c rest from rfl, ds_now]
          rfl
        simp only [hc, bd_go, if_true, hb, q4]
    · refine ⟨gs, a, ha, hg, Nat.le_refl _, ?_⟩
      have : (a == 0) = false := by simpa using h0
      simp [sWhile, tAnd, tVal, eOp, eVar, eC, dx_now, eq_int, this]
theorem draw_ok (ha : 0 ≤ a) (hg : ∀ g ∈ gs, 0 ≤ g) (hl : gs.length < 1000) (h1 : 1 ≤ k) (h2 : k < 1073741824) : ∃ (r : Int) (gs' : List Int) (a' b' c' : Int), 0 ≤ r ∧ r < k ∧ 0 ≤ a' ∧ (∀ g ∈ gs', 0 ≤ g) ∧ gs'.length ≤ gs.length ∧
    F__law_draw [.ref 1, .int k] (dSt gs a b c rest) = some (.int r, dSt gs' a' b' c' rest) := by
  obtain ⟨gs1, a1, p1, p2, p3, p4⟩ := dr_while (b := b) (c := c) (rest := rest) (k := some (.int k)) (x := none) (y := none) (z := none) ha hg big (by unfold big; omega)
  have key : ∃ (r : Int) (a' b' c' : Int), 0 ≤ r ∧ r < k ∧ 0 ≤ a' ∧ f__law_draw_8 [some (.ref 1), some (.int k), none, none, none] (dSt gs1 a1 b c rest) = some (.rt (.int r), dSt gs1 a' b' c' rest) := by
    by_cases h : 0 < a1
    · refine ⟨a1 % k, a1 / k, b, c, Int.emod_nonneg _ (by omega), Int.emod_lt_of_pos _ (by omega), Int.ediv_nonneg p1 (by omega), ?_⟩
      have hk : 0 < k := by omega
      simp only [f__law_draw_8, f__law_draw_2, sSeq, sIf, tVal, sAsg, sRet, eOp, eVar, eC, eCall, aCons, aNil, gNm, gSetA, List.getD_cons_zero, List.getD_cons_succ, List.set_cons_succ, List.set_cons_zero, pu_go, bd_go, dx_now, gtD, h, decide_true, if_true, intD, modD, hk, fdivD, h2, and_self]
      rw [ds_now]
      rfl
    · have e0 : a1 = 0 := by omega
      subst e0
      let f : Int := (b * 48271 + (c + 1) * 69621) % 2147483629
      let s : Int := (f * f + (c + 1) * 7919) % 2147483563
      have f1 : 0 ≤ f := Int.emod_nonneg _ (by decide)
      have f2 : f < 2147483629 := Int.emod_lt_of_pos _ (by decide)
      refine ⟨(s / 4096 + f) % k, 0, (s * 40692 + f) % 2147483647 + 1, c + 1, Int.emod_nonneg _ (by omega), Int.emod_lt_of_pos _ (by omega), by omega, ?_⟩
      have hk : 0 < k := by omega
      have hm : ∀ i j : Int, (-(2 ^ 64) < j ∧ j < 2 ^ 64) → mulD (dSt gs1 0 b (c + 1) rest) (.int i) (.int j) = some (.int (i * j)) := fun i j h => by
        simp only [mulD]
        rw [if_pos (Or.inr h)]
      have hm0 : ∀ i j : Int, (-(2 ^ 64) < j ∧ j < 2 ^ 64) → mulD (dSt gs1 0 ((s * 40692 + f) % 2147483647 + 1) (c + 1) rest) (.int i) (.int j) = some (.int (i * j)) := fun i j h => by
        simp only [mulD]
        rw [if_pos (Or.inr h)]
      have st7 : f__law_draw_8 [some (.ref 1), some (.int k), none, none, none] (dSt gs1 0 b c rest) = f__law_draw_6 [some (.ref 1), some (.int k), none, none, none] (dSt gs1 0 b (c + 1) rest) := by
        simp only [f__law_draw_8, f__law_draw_7, sSeq, sIf, tVal, sAsg, sNop, eOp, eVar, eC, gSetA, List.getD_cons_zero, pu_go, bd_go, dx_now, gtD, Int.lt_irrefl, decide_false, Bool.false_eq_true, if_false, dx_turn, addD]
        rw [ds_turn]
        rfl
      have st6 : f__law_draw_6 [some (.ref 1), some (.int k), none, none, none] (dSt gs1 0 b (c + 1) rest) = f__law_draw_5 [some (.ref 1), some (.int k), none, some (.int f), none] (dSt gs1 0 b (c + 1) rest) := by
        simp only [f__law_draw_6, sSeq, sAsg, eOp, eVar, eC, eCall, aCons, aNil, gNm, List.getD_cons_zero, pu_go, bd_go, dx_mixed, dx_turn, hm _ 48271 (by decide), hm _ 69621 (by decide), addD, intD, modD]
        rw [if_pos (by decide)]
        rfl
      have st5 : f__law_draw_5 [some (.ref 1), some (.int k), none, some (.int f), none] (dSt gs1 0 b (c + 1) rest) = f__law_draw_4 [some (.ref 1), some (.int k), none, some (.int f), some (.int s)] (dSt gs1 0 b (c + 1) rest) := by
        simp only [f__law_draw_5, sSeq, sAsg, eOp, eVar, eC, eCall, aCons, aNil, gNm, List.getD_cons_zero, List.getD_cons_succ, pu_go, bd_go, dx_turn, hm _ f ⟨by omega, by omega⟩, hm _ 7919 (by decide), addD, intD, modD]
        rw [if_pos (by decide)]
        rfl
      have st4 : f__law_draw_4 [some (.ref 1), some (.int k), none, some (.int f), some (.int s)] (dSt gs1 0 b (c + 1) rest) = f__law_draw_3 [some (.ref 1), some (.int k), none, some (.int f), some (.int s)] (dSt gs1 0 ((s * 40692 + f) % 2147483647 + 1) (c + 1) rest) := by
        simp only [f__law_draw_4, sSeq, sAsg, eOp, eVar, eC, eCall, aCons, aNil, gSetA, List.getD_cons_zero, List.getD_cons_succ, pu_go, bd_go, hm _ 40692 (by decide), addD, intD, modD]
        rw [if_pos (by decide)]
        simp only [pu_go, bd_go]
        rw [ds_mixed]
        rfl
      rw [st7, st6, st5, st4]
      simp only [f__law_draw_3, sRet, eOp, eVar, eC, eCall, aCons, aNil, List.getD_cons_zero, List.getD_cons_succ, pu_go, bd_go, fdivD, addD, intD, modD, hk, if_true]
      rw [if_pos (by decide)]
      simp only [pu_go, bd_go, hk, if_true]
  obtain ⟨r, a', b', c', q1, q2, q3, q4⟩ := key
  refine ⟨r, gs1, a', b', c', q1, q2, q3, p2, p3, ?_⟩
  have e : f__law_draw (startD 5 [.ref 1, .int k]) (dSt gs a b c rest) = some (.rt (.int r), dSt gs1 a' b' c' rest) := by
    show bd (sWhile big _ f__law_draw_1 [some (.ref 1), some (.int k), none, none, none] (dSt gs a b c rest)) _ = _
    rw [p4]
    exact q4
  unfold F__law_draw runM
  rw [if_pos (by rfl), e]
  rfl
theorem deal_mix {xs : List Int} {s : D} {b e g : Option D} {m : M} : ∃ (r : Int) (c : Option D), forGo (gTgt (.one 2)) f__law_deal_1 (xs.map D.int) [some s, b, e, g, some (.int a), none] m = some (.nx [some s, b, c, g, some (.int r), none], m) := by
  obtain ⟨ρ', m', e', h1, r, c, h2⟩ := forGo_inv (f := gTgt (.one 2)) (b := f__law_deal_1) (fun _ ρ m' => m' = m ∧ ∃ (r : Int) (c : Option D), ρ = [some s, b, c, g, some (.int r), none]) (xs.map D.int) 0 [some s, b, e, g, some (.int a), none] m ⟨rfl, a, e, rfl⟩ (by
    rintro j x ρ m' hx ⟨rfl, r, c, rfl⟩
    rw [List.getElem?_map] at hx
    obtain ⟨i, hi, rfl⟩ := Option.map_eq_some_iff.mp hx
    refine ⟨_, _, rfl, ?_⟩
    refine ⟨.nx [some s, b, some (.int i), g, some (.int ((r * 16807 + i) % 2147483647)), none], m', ?_, _, .inl rfl, rfl, _, _, rfl⟩
    simp [f__law_deal_1, sAsg, gNm, eOp, eCall, eVar, eC, aCons, aNil, setMany, Tgt.is, modD, intD, addD, mulD, pu])
  subst h1 h2
  exact ⟨r, c, e'⟩
theorem deal_abs {ρ : Ss} {m : M} (hρ : 2 < ρ.length) : ∀ ms : List Int, compGo (.one 2) tTrue (eCall absD (aCons (eVar 2) (aNil))) ρ (ms.map D.int) m = some ((ms.map fun i => if i < 0 then -i else i).map D.int, m)
  | [] => rfl
  | i :: ms => by
    have e1 : (setMany ρ [2] [D.int i]).getD 2 none = some (.int i) := by simp [setMany, hρ]
    simp only [List.map_cons, compGo, Tgt.un, Tgt.is, tTrue, bd_go, if_true, eCall, aCons, aNil, eVar, e1, pu_go, absD, deal_abs hρ ms]
theorem deal_great {ρ : Ss} {m : M} (hρ : 2 < ρ.length) : ∀ ms : List Int, ∃ gs : List Int, (∀ g ∈ gs, 0 ≤ g) ∧ gs.length ≤ ms.length ∧ compGo (.one 2) (tVal (eOp geD (eVar 2) (eOp powD (eC (.int 10)) (eC (.int 18))))) (eVar 2) ρ (ms.map D.int) m = some (gs.map D.int, m)
  | [] => ⟨[], by simp, by simp, rfl⟩
  | i :: ms => by
    obtain ⟨gs, h1, h2, h3⟩ := deal_great (ρ := ρ) (m := m) hρ ms
    have e1 : (setMany ρ [2] [D.int i]).getD 2 none = some (.int i) := by simp [setMany, hρ]
    by_cases hi : i ≥ 1000000000000000000
    · refine ⟨i :: gs, fun g hg => ?_, by simp; omega, ?_⟩
      · rcases List.mem_cons.mp hg with rfl | hg
        · omega
        · exact h1 g hg
      · simp only [List.map_cons, compGo, Tgt.un, Tgt.is, tVal, eOp, eVar, eC, e1, pu_go, bd_go, pow18, geD, h3, if_true, decide_eq_true hi]
    · refine ⟨gs, h1, by simp; omega, ?_⟩
      simp only [List.map_cons, compGo, Tgt.un, Tgt.is, tVal, eOp, eVar, eC, e1, pu_go, bd_go, pow18, geD, h3, decide_eq_false hi, Bool.false_eq_true, if_false]
theorem deal_ok (ns : List Int) (hn : ns.length ≤ 63) (b0 : Int) : ∃ (gs : List Int) (b : Int), (∀ g ∈ gs, 0 ≤ g) ∧ gs.length < 1000 ∧ F__law_deal [.scr (ns.map D.int), .int b0] [] = some (.ref 1, dSt gs 0 b 0 []) := by
  obtain ⟨ms, hms, hml⟩ := cut_ints ns (some b0) (some 63)
  let xs := ms.map fun i => if i < 0 then -i else i
  obtain ⟨r, c, hmix⟩ := deal_mix (a := 15485863 + b0) (xs := xs) (s := .scr (ns.map D.int)) (b := some (.int b0)) (e := none) (g := some (.lst (xs.map D.int))) (m := [])
  obtain ⟨gs, g1, g2, g3⟩ := deal_great (ρ := [some (.scr (ns.map D.int)), some (.int b0), c, some (.lst (xs.map D.int)), some (.int r), none]) (m := []) (by simp) xs
  have hxl : xs.length = ms.length := by simp [xs]
  refine ⟨gs.reverse, r + 1, fun g hg => g1 g (by simpa using hg), by simp; omega, ?_⟩
  have e1 : f__law_deal (startD 6 [.scr (ns.map D.int), .int b0]) [] = f__law_deal_5 [some (.scr (ns.map D.int)), some (.int b0), none, some (.lst (xs.map D.int)), none, none] [] := by
    have hz : (ms.map D.int).length ≤ 1000000 := by simp; omega
    have ha := deal_abs (ρ := [some (.scr (ns.map D.int)), some (.int b0), none, none, none, none]) (m := []) (by simp) ms
    simp only [f__law_deal, sSeq, sAsg, eLcK, iIt, eSl, oYes, eVar, eC, startD, List.map, List.length_cons, List.length_nil, List.replicate, List.cons_append, List.nil_append, List.getD_cons_zero, List.getD_cons_succ, pu_go, bd_go, slD, lstR, Option.map_some, hms, items, hz, if_true, ha, cond_false, gNm, List.set_cons_succ, List.set_cons_zero]
    rfl
  have e2 : f__law_deal_5 [some (.scr (ns.map D.int)), some (.int b0), none, some (.lst (xs.map D.int)), none, none] [] = f__law_deal_3 [some (.scr (ns.map D.int)), some (.int b0), c, some (.lst (xs.map D.int)), some (.int r), none] [] := by
    simp only [f__law_deal_5, f__law_deal_4, sSeq, sAsg, sForA, eOp, eVar, eC, gNm, List.getD_cons_zero, List.getD_cons_succ, List.set_cons_succ, List.set_cons_zero, pu_go, bd_go, addD, items, hmix]
  have e3 : f__law_deal_3 [some (.scr (ns.map D.int)), some (.int b0), c, some (.lst (xs.map D.int)), some (.int r), none] [] = some (.rt (.ref 1), dSt gs.reverse 0 (r + 1) 0 []) := by
    have hz : (xs.map D.int).length ≤ 1000000 := by simp [hxl]; omega
    have hf : ∀ a b c d : D, (([(D.str "great", a), (D.str "now", b), (D.str "mixed", c), (D.str "turn", d)] : List (D × D)).all fun q => isFlat q.1) && decide (4 ≤ 15) = true := fun a b c d => rfl
    have hmg : ∀ a b c d : D, mergeD [(D.str "great", a), (D.str "now", b), (D.str "mixed", c), (D.str "turn", d)] ([], []) = (dKS, [a, b, c, d]) := fun a b c d => by kernel_rfl
    simp only [f__law_deal_3, f__law_deal_2, sSeq, sAsg, sRet, eLcK, iIt, eVar, eC, gNm, List.getD_cons_zero, List.getD_cons_succ, List.set_cons_succ, List.set_cons_zero, pu_go, bd_go, items, hz, if_true, g3, cond_false, eDisp, pairsF, eRev, lstR, lstOf, cond_true, eOp, addD, List.nil_append, List.length_nil, List.map_reverse, hmg]
    rw [if_pos (by rfl)]
    simp
  unfold F__law_deal runM
  rw [if_pos (by rfl), e1, e2, e3]
  rfl
end
end L4
namespace L4
open PySem
section
variable {m : M} {rest : M} {Q : D → M → Prop}
def AX (rest m : M) : Prop := ∃ gs a b c, m = dSt gs a b c rest ∧ 0 ≤ a ∧ (∀ g ∈ gs, 0 ≤ g) ∧ gs.length < 1000
theorem deal_a (ns : List Int) (hn : ns.length ≤ 63) (b0 : Int) (q : ∀ m', AX [] m' → Q (.ref 1) m') : Wr (F__law_deal [.scr (ns.map D.int), .int b0] []) Q := by
  obtain ⟨gs, b, h1, h2, e⟩ := deal_ok ns hn b0
  exact ⟨_, _, e, q _ ⟨gs, 0, b, 0, rfl, Int.le_refl 0, h1, h2⟩⟩
theorem draw_a (h : AX rest m) {k : Int} (h1 : 1 ≤ k) (h2 : k < 1073741824) (q : ∀ (r : Int) m', 0 ≤ r → r < k → AX rest m' → Q (.int r) m') : Wr (F__law_draw [.ref 1, .int k] m) Q := by
  obtain ⟨gs, a, b, c, rfl, ha, hg, hl⟩ := h
  obtain ⟨r, gs', a', b', c', k1, k2, k3, k4, k5, e⟩ := draw_ok (b := b) (c := c) (rest := rest) ha hg hl h1 h2
  exact ⟨_, _, e, q r _ k1 k2 ⟨gs', a', b', c', rfl, k3, k4, by omega⟩⟩
local macro_rules | `(tactic| fail) => `(tactic| (first | ((with_reducible refine w_and_t ?_ ?_); exact rfl) | ((with_reducible refine w_and_f ?_ ?_); exact rfl) | ((with_reducible refine w_or_t ?_ ?_); exact rfl) | ((with_reducible refine w_or_f ?_ ?_); exact rfl) | ((with_reducible refine Kn.fdiv ?_ ?_); exact ⟨by decide, by decide⟩) | ((with_reducible refine Kn.mod ?_ ?_); decide) | ((with_reducible refine And.intro (a := (_ && _) = true) ?_ ?_); exact rfl) | ((with_reducible refine And.intro (a := List.length _ = List.length _) ?_ ?_); exact rfl; dsimp only [setMany, List.set_cons_succ, List.set_cons_zero]) | ((with_reducible refine ⟨wsz ?_, ?_⟩); first | decide | (show (_ : Nat) ≤ 1000; simp only [List.length_cons, List.length_nil]; decide)) | with_reducible refine ⟨_, rfl, ?_⟩))
local macro_rules | `(tactic| fail) => `(tactic| (first | ((with_reducible refine WG.nm ?_); dsimp only [setMany, List.set_cons_succ, List.set_cons_zero]) | ((with_reducible refine WG.one ?_); dsimp only [setMany, List.set_cons_succ, List.set_cons_zero]) | ((with_reducible refine WG.tup ?_ ?_); exact rfl; dsimp only [setMany, List.set_cons_succ, List.set_cons_zero]) | ((with_reducible apply WE.var); exact rfl) | ((with_reducible apply WE.upP); exact rfl) | ((with_reducible apply WE.upT); exact rfl) | ((with_reducible apply WE.upL); exact rfl) | ((with_reducible apply WE.upN); exact rfl) | ((with_reducible apply WS.aug); exact rfl) | ((with_reducible apply WE.newPL); exact rfl) | ((with_reducible refine WS.ite_t ?_ ?_); exact rfl) | ((with_reducible refine WS.ite_f ?_ ?_); exact rfl) | ((with_reducible refine WE.ite_t ?_ ?_); exact rfl) | ((with_reducible refine WE.ite_f ?_ ?_); exact rfl)))
local macro_rules | `(tactic| fail) => `(tactic| with_reducible (first | refine Kn.it_l ?_ | refine Kn.it_s ?_ | refine Kn.str_s ?_ | refine Kn.sl_t ?_ | refine Kn.sl_l ?_))
local macro_rules | `(tactic| fail) => `(tactic| with_reducible (first | refine WE.tupL ?_ | refine WE.dicP ?_ | refine WP.nil ?_ | refine WP.cons ?_ | refine WE.upd ?_ | refine WA.nil ?_ | refine WA.cons ?_ | refine WA.star ?_ | refine WO.no ?_ | refine WO.yes ?_ | refine WT.val ?_ | refine WT.and ?_ | refine WT.or ?_ | refine WT.not ?_ | refine WT.tt ?_ | refine WI.it ?_ | refine Kn.add_i ?_ | refine Kn.sub ?_ | refine Kn.neg ?_ | refine Kn.eq_i ?_ | refine Kn.ne_i ?_ | refine Kn.lt ?_ | refine Kn.le ?_ | refine Kn.gt ?_ | refine Kn.ge ?_ | refine Kn.int_i ?_ | refine Kn.int_b ?_ | refine Kn.abs ?_ | refine Kn.min2 ?_ | refine Kn.max2 ?_ | refine Kn.len_t ?_ | refine Kn.len_l ?_ | refine Kn.len_s ?_ | refine Kn.tup_t ?_ | refine Kn.tup_l ?_ | refine Kn.lis_t ?_ | refine Kn.lis_l ?_ | refine Kn.seq_t ?_ | refine Kn.seq_l ?_ | refine Kn.it_t ?_))
local macro_rules | `(tactic| fail) => `(tactic| with_reducible (first | refine WS.seq ?_ | refine WS.nx ?_ | refine WS.rt ?_ | refine WS.asg ?_ | refine WS.drop ?_ | refine WS.ret ?_ | refine WS.nop ?_ | refine WS.retN ?_ | refine WS.brk ?_ | refine WS.cont ?_ | refine WS.sif ?_ | refine WS.par ?_ | refine WG.setA ?_ | refine WE.c ?_ | refine WE.op ?_ | refine WE.call ?_ | refine WE.callM ?_ | refine WE.un ?_ | refine WE.tup ?_ | refine WE.lst ?_ | refine WE.newL ?_ | refine WE.eif ?_ | refine WE.sl ?_ | refine WE.isN ?_ | refine WE.notN ?_ | refine WE.not ?_ | refine WE.and ?_ | refine WE.or ?_ | refine WE.app ?_ | refine WE.tupR ?_ | refine WE.lisR ?_ | refine WE.m1 ?_ | refine WE.tbl ?_ | refine WE.tblNin ?_ | refine WE.chain ?_ | refine WE.fldF ?_ | refine WE.mth ?_ | refine WE.disp ?_ | refine WE.dicC ?_ | refine WE.tupA ?_))
local macro_rules | `(tactic| trivial) => `(tactic| (repeat fail))
theorem pick_a (h : AX rest m) {ds : List D} (h1 : 1 ≤ ds.length) (h2 : ds.length < 1000) (q : ∀ d m', d ∈ ds → AX rest m' → Q d m') : Wr (F__law_pick [.ref 1, .lst ds] m) Q := by
  refine WS.runM (b := f__law_pick) (n := 2) ?_ rfl
  show WS _ [some (.ref 1), some (.lst ds)] m _
  trivial
  refine draw_a h (by omega) (by omega) fun r m' r0 r1 h => ?_
  obtain ⟨j, rfl⟩ := Int.eq_ofNat_of_zero_le r0
  have hj : j < ds.length := by omega
  refine Kn.ix_l (i := j) (List.getElem?_eq_getElem hj) ?_
  trivial
  exact .inl ⟨_, rfl, q _ _ (List.getElem_mem hj) h⟩
end
end L4
namespace L4
open PySem
section
variable {m m0 : M} {ρ : Ss} {r : Ru}
/-- the box of draws at its places -/
def AY (m : M) : Prop := ∃ gs a b c rest, m = dSt gs a b c rest ∧ 0 ≤ a ∧ (∀ g ∈ gs, 0 ≤ g) ∧ gs.length < 1000
theorem AY.ax (h : AY m) : ∃ rest, AX rest m ∧ m.length = rest.length + 2 ∧ ∀ j, 2 ≤ j → m[j]? = rest[j - 2]? := by
  obtain ⟨gs, a, b, c, rest, rfl, h⟩ := h
  refine ⟨rest, ⟨gs, a, b, c, rfl, h⟩, rfl, fun j hj => ?_⟩
  obtain ⟨k, rfl⟩ : ∃ k, j = k + 2 := ⟨j - 2, by omega⟩
  rfl
theorem AX.ay {rest : M} (h : AX rest m) : AY m ∧ m.length = rest.length + 2 ∧ ∀ j, 2 ≤ j → m[j]? = rest[j - 2]? := by
  obtain ⟨gs, a, b, c, rfl, h⟩ := h
  refine ⟨⟨gs, a, b, c, rest, rfl, h⟩, rfl, fun j hj => ?_⟩
  obtain ⟨k, rfl⟩ : ∃ k, j = k + 2 := ⟨j - 2, by omega⟩
  rfl
theorem AY.le (h : AY m) : 2 ≤ m.length := by
  obtain ⟨rest, _, h, _⟩ := h.ax
  omega
theorem AY.off {m' : M} (h : AY m) (h0 : m'[0]? = m[0]?) (h1 : m'[1]? = m[1]?) : AY m' := by
  obtain ⟨gs, a, b, c, rest, rfl, h⟩ := h
  match m', h0, h1 with
  | [], h0, _ => cases h0
  | [_], _, h1 => cases h1
  | x :: y :: z, h0, h1 =>
    cases h0
    cases h1
    exact ⟨gs, a, b, c, z, rfl, h⟩
theorem draw_y (h : AY m) {k : Int} (h1 : 1 ≤ k) (h2 : k < 1073741824) {Q : D → M → Prop} (q : ∀ (x : Int) m', 0 ≤ x → x < k → AY m' → m'.length = m.length → (∀ j, 2 ≤ j → m'[j]? = m[j]?) → Q (.int x) m') : Wr (F__law_draw [.ref 1, .int k] m) Q := by
  obtain ⟨rest, ha, hl, ho⟩ := h.ax
  refine draw_a ha h1 h2 fun x m' x0 x1 ha' => ?_
  obtain ⟨h3, h4, h5⟩ := ha'.ay
  exact q x m' x0 x1 h3 (by omega) fun j hj => (h5 j hj).trans (ho j hj).symm
theorem pick_y (h : AY m) {ds : List D} (h1 : 1 ≤ ds.length) (h2 : ds.length < 1000) {Q : D → M → Prop} (q : ∀ d m', d ∈ ds → AY m' → m'.length = m.length → (∀ j, 2 ≤ j → m'[j]? = m[j]?) → Q d m') : Wr (F__law_pick [.ref 1, .lst ds] m) Q := by
  obtain ⟨rest, ha, hl, ho⟩ := h.ax
  refine pick_a ha h1 h2 fun d m' hd ha' => ?_
  obtain ⟨h3, h4, h5⟩ := ha'.ay
  exact q d m' hd h3 (by omega) fun j hj => (h5 j hj).trans (ho j hj).symm
end
end L4
namespace L4
open PySem
/-- what stands at the leaves of any value -/
def vaLeaves : List D := [.int 0, .int 1, .int (-7), .int 100000000000000000000, .non, .bl true, .bl false, .str "", .str "open", .str "ok", .str "fault", .str "turn 0 0 ok", .str "felt", .str "all", .str "x y"]
def VaN : Nat → D → Prop
  | 0, d => d ∈ vaLeaves
  | n + 1, d => d ∈ vaLeaves ∨ ∃ ds, (d = .lst ds ∨ d = .tup ds) ∧ ds.length ≤ 3 ∧ ∀ e ∈ ds, VaN n e
theorem VaN.leaf {n : Nat} {d : D} (h : d ∈ vaLeaves) : VaN n d := by
  cases n with
  | zero => exact h
  | succ n => exact .inl h
theorem VaN.cases {n : Nat} {d : D} (h : VaN n d) : d ∈ vaLeaves ∨ ∃ ds, d = .lst ds ∨ d = .tup ds := by
  cases n with
  | zero => exact .inl h
  | succ n =>
    rcases h with h | ⟨ds, h, _⟩
    · exact .inl h
    · exact .inr ⟨ds, h⟩
theorem pow20 (m : M) : powD m (.int 10) (.int 20) = some (.int 100000000000000000000) := by kernel_rfl
section
variable {m : M}
theorem va_1 : ∀ x ∈ ([.int 0, .int 1, .int (-7), .int 100000000000000000000] : List D), x ∈ vaLeaves := by
  intro x hx
  simp only [List.mem_cons, List.not_mem_nil, or_false] at hx
  rcases hx with rfl | rfl | rfl | rfl <;> simp [vaLeaves]
theorem va_2 : ∀ x ∈ ([.non, .bl true, .bl false] : List D), x ∈ vaLeaves := by
  intro x hx
  simp only [List.mem_cons, List.not_mem_nil, or_false] at hx
  rcases hx with rfl | rfl | rfl <;> simp [vaLeaves]
theorem va_3 : ∀ x ∈ ([.str "", .str "open", .str "ok", .str "fault", .str "turn 0 0 ok", .str "felt", .str "all", .str "x y"] : List D), x ∈ vaLeaves := by
  intro x hx
  simp only [List.mem_cons, List.not_mem_nil, or_false] at hx
  rcases hx with rfl | rfl | rfl | rfl | rfl | rfl | rfl | rfl <;> simp [vaLeaves]
local macro_rules | `(tactic| fail) => `(tactic| (first | ((with_reducible refine w_and_t ?_ ?_); exact rfl) | ((with_reducible refine w_and_f ?_ ?_); exact rfl) | ((with_reducible refine w_or_t ?_ ?_); exact rfl) | ((with_reducible refine w_or_f ?_ ?_); exact rfl) | ((with_reducible refine Kn.fdiv ?_ ?_); exact ⟨by decide, by decide⟩) | ((with_reducible refine Kn.mod ?_ ?_); decide) | ((with_reducible refine And.intro (a := (_ && _) = true) ?_ ?_); exact rfl) | ((with_reducible refine And.intro (a := List.length _ = List.length _) ?_ ?_); exact rfl; dsimp only [setMany, List.set_cons_succ, List.set_cons_zero]) | ((with_reducible refine ⟨wsz ?_, ?_⟩); first | decide | (show (_ : Nat) ≤ 1000; simp only [List.length_cons, List.length_nil]; decide)) | with_reducible refine ⟨_, rfl, ?_⟩))
local macro_rules | `(tactic| fail) => `(tactic| (first | ((with_reducible refine WG.nm ?_); dsimp only [setMany, List.set_cons_succ, List.set_cons_zero]) | ((with_reducible refine WG.one ?_); dsimp only [setMany, List.set_cons_succ, List.set_cons_zero]) | ((with_reducible refine WG.tup ?_ ?_); exact rfl; dsimp only [setMany, List.set_cons_succ, List.set_cons_zero]) | ((with_reducible apply WE.var); exact rfl) | ((with_reducible apply WE.upP); exact rfl) | ((with_reducible apply WE.upT); exact rfl) | ((with_reducible apply WE.upL); exact rfl) | ((with_reducible apply WE.upN); exact rfl) | ((with_reducible apply WS.aug); exact rfl) | ((with_reducible apply WE.newPL); exact rfl) | ((with_reducible refine WS.ite_t ?_ ?_); exact rfl) | ((with_reducible refine WS.ite_f ?_ ?_); exact rfl) | ((with_reducible refine WE.ite_t ?_ ?_); exact rfl) | ((with_reducible refine WE.ite_f ?_ ?_); exact rfl)))
local macro_rules | `(tactic| fail) => `(tactic| with_reducible (first | refine Kn.it_l ?_ | refine Kn.it_s ?_ | refine Kn.str_s ?_ | refine Kn.sl_t ?_ | refine Kn.sl_l ?_))
local macro_rules | `(tactic| fail) => `(tactic| with_reducible (first | refine WE.tupL ?_ | refine WE.dicP ?_ | refine WP.nil ?_ | refine WP.cons ?_ | refine WE.upd ?_ | refine WA.nil ?_ | refine WA.cons ?_ | refine WA.star ?_ | refine WO.no ?_ | refine WO.yes ?_ | refine WT.val ?_ | refine WT.and ?_ | refine WT.or ?_ | refine WT.not ?_ | refine WT.tt ?_ | refine WI.it ?_ | refine Kn.add_i ?_ | refine Kn.sub ?_ | refine Kn.neg ?_ | refine Kn.eq_i ?_ | refine Kn.ne_i ?_ | refine Kn.lt ?_ | refine Kn.le ?_ | refine Kn.gt ?_ | refine Kn.ge ?_ | refine Kn.int_i ?_ | refine Kn.int_b ?_ | refine Kn.abs ?_ | refine Kn.min2 ?_ | refine Kn.max2 ?_ | refine Kn.len_t ?_ | refine Kn.len_l ?_ | refine Kn.len_s ?_ | refine Kn.tup_t ?_ | refine Kn.tup_l ?_ | refine Kn.lis_t ?_ | refine Kn.lis_l ?_ | refine Kn.seq_t ?_ | refine Kn.seq_l ?_ | refine Kn.it_t ?_))
local macro_rules | `(tactic| fail) => `(tactic| with_reducible (first | refine WS.seq ?_ | refine WS.nx ?_ | refine WS.rt ?_ | refine WS.asg ?_ | refine WS.drop ?_ | refine WS.ret ?_ | refine WS.nop ?_ | refine WS.retN ?_ | refine WS.brk ?_ | refine WS.cont ?_ | refine WS.sif ?_ | refine WS.par ?_ | refine WG.setA ?_ | refine WE.c ?_ | refine WE.op ?_ | refine WE.call ?_ | refine WE.callM ?_ | refine WE.un ?_ | refine WE.tup ?_ | refine WE.lst ?_ | refine WE.newL ?_ | refine WE.eif ?_ | refine WE.sl ?_ | refine WE.isN ?_ | refine WE.notN ?_ | refine WE.not ?_ | refine WE.and ?_ | refine WE.or ?_ | refine WE.app ?_ | refine WE.tupR ?_ | refine WE.lisR ?_ | refine WE.m1 ?_ | refine WE.tbl ?_ | refine WE.tblNin ?_ | refine WE.chain ?_ | refine WE.fldF ?_ | refine WE.mth ?_ | refine WE.disp ?_ | refine WE.dicC ?_ | refine WE.tupA ?_))
local macro_rules | `(tactic| trivial) => `(tactic| (repeat fail))
theorem value_y : ∀ (n deep : Nat) {m : M}, deep < n → deep < 100 → AY m → ∀ {Q : D → M → Prop}, (∀ d m', VaN deep d → AY m' → m'.length = m.length → (∀ j, 2 ≤ j → m'[j]? = m[j]?) → Q d m') → Wr (F__law_value n [.ref 1, .int (deep : Nat)] m) Q
  | 0, _, _, h, _, _, _, _ => absurd h (Nat.not_lt_zero _)
  | n + 1, deep, m, hd, h100, ay, Q, q => by
    show Wr (runM 2 5 (f__law_value (F__law_value n)) [.ref 1, .int (deep : Nat)] m) Q
    refine WS.runM (b := f__law_value (F__law_value n)) (n := 5) ?_ rfl
    show WS _ [some (.ref 1), some (.int (deep : Nat)), none, none, none] m _
    have fin : ∀ {d : D} {m' : M}, VaN deep d → AY m' → m'.length = m.length → (∀ j, 2 ≤ j → m'[j]? = m[j]?) → Q d m' := fun a b c d => q _ _ a b c d
    have body : ∀ (f : Int) (m1 : M), 0 ≤ f → f < 7 → (f < 4 ∨ 0 < deep) → AY m1 → m1.length = m.length → (∀ j, 2 ≤ j → m1[j]? = m[j]?) →
        WS (f__law_value_5 (F__law_value n)) [some (.ref 1), some (.int (deep : Nat)), some (.int f), none, none] m1 (fun r m1 => (∃ y, r = Fl.rt y ∧ Q y m1) ∨ ∃ ρ, r = Fl.nx ρ ∧ Q D.non m1) := by
      intro f m1 f0 f7 f4 ay l1 o1
      trivial
      cases h0 : (f == 0)
      · refine WS.ite_f rfl ?_
        trivial
        cases h1 : (f == 1)
        · refine WS.ite_f rfl ?_
          trivial
          cases h2 : decide (f < 4)
          · refine WS.ite_f rfl ?_
            have hp : 0 < deep := by
              have := of_decide_eq_false h2
              omega
            trivial
            obtain ⟨dp, rfl⟩ : ∃ k, deep = k + 1 := ⟨deep - 1, by omega⟩
            refine WE.lcI (fun m2 acc => AY m2 ∧ m2.length = m.length ∧ (∀ j, 2 ≤ j → m2[j]? = m[j]?) ∧ ∀ e ∈ acc, VaN dp e) ?_
            refine WI.r1 ?_
            trivial
            refine draw_y ay (by decide) (by decide) fun k m2 k0 k1 ay2 l2 o2 => ?_
            trivial
            have hlen : (rngD 0 k.toNat).length = k.toNat := by unfold rngD; rw [List.length_map, List.length_range]
            refine ⟨by omega, by omega, ⟨ay2, by omega, fun j hj => (o2 j hj).trans (o1 j hj), fun e h => nomatch h⟩, ?_, ?_⟩
            · rintro i x m3 acc hx rfl ⟨ay3, l3, o3, hv⟩
              refine ⟨[x], rfl, ?_⟩
              trivial
              have e1 : ((dp + 1 : Nat) : Int) - 1 = (dp : Nat) := by omega
              rw [e1]
              refine value_y n dp (by omega) (by omega) ay3 fun d m4 hd4 ay4 l4 o4 => ⟨ay4, by omega, fun j hj => (o4 j hj).trans (o3 j hj), fun e he => ?_⟩
              rcases List.mem_append.mp he with he | he
              · exact hv e he
              · rw [List.mem_singleton.mp he]; exact hd4
            · rintro m3 acc hl ⟨ay3, l3, o3, hv⟩
              have hl3 : acc.length ≤ 3 := by omega
              trivial
              cases h4 : (f == 4)
              · refine WE.ite_f rfl ?_
                trivial
                exact .inl ⟨_, rfl, fin (.inr ⟨acc, .inr rfl, hl3, hv⟩) ay3 l3 o3⟩
              · refine WE.ite_t rfl ?_
                trivial
                exact .inl ⟨_, rfl, fin (.inr ⟨acc, .inl rfl, hl3, hv⟩) ay3 l3 o3⟩
          · refine WS.ite_t rfl ?_
            trivial
            refine pick_y ay (by show 1 ≤ 8; decide) (by show 8 < 1000; decide) fun d m2 hd ay2 l2 o2 => ?_
            trivial
            exact .inl ⟨_, rfl, fin (VaN.leaf (va_3 _ hd)) ay2 (by omega) fun j hj => (o2 j hj).trans (o1 j hj)⟩
        · refine WS.ite_t rfl ?_
          trivial
          refine pick_y ay (by show 1 ≤ 3; decide) (by show 3 < 1000; decide) fun d m2 hd ay2 l2 o2 => ?_
          trivial
          exact .inl ⟨_, rfl, fin (VaN.leaf (va_2 _ hd)) ay2 (by omega) fun j hj => (o2 j hj).trans (o1 j hj)⟩
      · refine WS.ite_t rfl ?_
        trivial
        refine Kn.mk (pow20 _) ?_
        trivial
        refine pick_y ay (by show 1 ≤ 4; decide) (by show 4 < 1000; decide) fun d m2 hd ay2 l2 o2 => ?_
        trivial
        exact .inl ⟨_, rfl, fin (VaN.leaf (va_1 _ hd)) ay2 (by omega) fun j hj => (o2 j hj).trans (o1 j hj)⟩
    trivial
    cases hz : decide ((0 : Int) < (deep : Nat))
    · refine WE.ite_f rfl ?_
      trivial
      refine draw_y ay (by decide) (by decide) fun k m2 k0 k1 ay2 l2 o2 => ?_
      refine WG.nm ?_
      dsimp only [List.set_cons_succ, List.set_cons_zero]
      refine WS.nx ?_
      exact body k m2 k0 (by omega) (.inl k1) ay2 l2 o2
    · refine WE.ite_t rfl ?_
      trivial
      refine draw_y ay (by decide) (by decide) fun k m2 k0 k1 ay2 l2 o2 => ?_
      refine WG.nm ?_
      dsimp only [List.set_cons_succ, List.set_cons_zero]
      refine WS.nx ?_
      exact body k m2 k0 (by omega) (.inr (by have := of_decide_eq_true hz; omega)) ay2 l2 o2
end
end L4
namespace L4
open PySem
section
variable {m m' : M} {ρ : Ss} {n k t : Nat} {x v : D} {ds : List D} {Q : D → M → Prop}
structure Rp01 (n : Nat) (p : PyData) : Prop where
  l : p.shown.length ≤ n
  ok : PyData.strOk p.shown = true
  sh : p.showable = true
theorem rp_app01 {a b : Str} (ha : PyData.strOk a = true) (hb : PyData.strOk b = true) : PyData.strOk (a ++ b) = true := by
  have e : (a ++ b).cps = a.cps ++ b.cps := rfl
  unfold PyData.strOk at *
  rw [e, Array.all_append, ha, hb]
  rfl
theorem rp_join01 {c : Str} (hc : PyData.strOk c = true) : ∀ ts : List Str, (∀ t ∈ ts, PyData.strOk t = true) → PyData.strOk (Str.join c ts) = true
  | [], _ => (by decide +kernel : PyData.strOk Str.empty = true)
  | [x], h => h x (List.mem_cons_self ..)
  | x :: y :: ts, h => rp_app01 (rp_app01 (h x (List.mem_cons_self ..)) hc) (rp_join01 hc (y :: ts) fun t ht => h t (List.mem_cons_of_mem _ ht))
theorem shownAll_map01 : ∀ ps : List PyData, PyData.shownAll ps = ps.map PyData.shown
  | [] => rfl
  | p :: ps => by rw [PyData.shownAll, shownAll_map01 ps]; rfl
theorem showAll_ok01 : ∀ ps : List PyData, (∀ p ∈ ps, p.showable = true) → PyData.showableAll ps = true
  | [], _ => rfl
  | p :: ps, h => by rw [PyData.showableAll, h p (List.mem_cons_self ..), showAll_ok01 ps fun q hq => h q (List.mem_cons_of_mem _ hq)]; rfl
theorem rp_pile01 (n : Nat) : ∀ ts : List Str, (∀ t ∈ ts, t.length ≤ n) → piled ts ≤ (n + 2) * ts.length
  | [], _ => by simp [piled]
  | t :: ts, h => by
    have h1 := rp_pile01 n ts fun x hx => h x (List.mem_cons_of_mem _ hx)
    have h2 := h t (List.mem_cons_self ..)
    rw [piled_cons, List.length_cons, Nat.mul_add]
    omega
theorem tup_end01 (k : Nat) : ((if k == 1 then ",)" else ")" : String) : Str).length ≤ 2 ∧ PyData.strOk ((if k == 1 then ",)" else ")" : String) : Str) = true := by
  cases h : (k == 1) <;> exact ⟨by decide +kernel, by decide +kernel⟩
theorem rp_tup01 {n : Nat} {ps : List PyData} (h : ∀ p ∈ ps, Rp01 n p) : Rp01 ((n + 2) * ps.length + 3) (.tuple ps) := by
  have hm : ∀ t ∈ PyData.shownAll ps, t.length ≤ n ∧ PyData.strOk t = true := by
    intro t ht
    rw [shownAll_map01] at ht
    obtain ⟨p, hp, rfl⟩ := List.mem_map.mp ht
    exact ⟨(h p hp).l, (h p hp).ok⟩
  have hlen : (PyData.shownAll ps).length = ps.length := by rw [shownAll_map01, List.length_map]
  have hsh : (PyData.tuple ps).shown = tupleText (PyData.shownAll ps) := rfl
  obtain ⟨t1, t2⟩ := tup_end01 (PyData.shownAll ps).length
  have e1 : (("(" : String) : Str).length = 1 := by decide +kernel
  have hj : (Str.join ", " (PyData.shownAll ps)).length ≤ (n + 2) * ps.length := by
    have h2 := rp_pile01 n (PyData.shownAll ps) fun t ht => (hm t ht).1
    rw [hlen] at h2
    by_cases h0 : PyData.shownAll ps = []
    · rw [h0]
      have : (Str.join ", " []).length = 0 := by decide +kernel
      omega
    · have h1 := join_length_add (PyData.shownAll ps) h0
      omega
  refine ⟨?_, ?_, by rw [PyData.showable]; exact showAll_ok01 ps fun p hp => (h p hp).sh⟩
  · rw [hsh]
    unfold tupleText
    rw [strLen_append, strLen_append, e1]
    omega
  · rw [hsh]
    exact rp_app01 (rp_app01 (by decide +kernel) (rp_join01 (by decide +kernel) _ fun t ht => (hm t ht).2)) t2
theorem rp_mono01 {a b : Nat} {p : PyData} (h : Rp01 a p) (k : a ≤ b) : Rp01 b p := ⟨Nat.le_trans h.l k, h.ok, h.sh⟩
theorem tf_ok01 : ∀ (ts : List Str) (j : Nat) (acc : Str), PyData.strOk acc = true → (∀ t ∈ ts, PyData.strOk t = true) → PyData.strOk (textFrom j acc ts) = true
  | [], _, _, h, _ => h
  | t :: ts, j, acc, h, k => by
    refine tf_ok01 ts (j + 1) _ (rp_app01 (rp_app01 h ?_) (k t List.mem_cons_self)) fun x hx => k x (List.mem_cons_of_mem _ hx)
    split <;> decide +kernel
theorem sum_pile01 : ∀ ts : List Str, (ts.map (·.length)).sum + 2 * ts.length = piled ts
  | [] => rfl
  | t :: ts => by
    have ih := sum_pile01 ts
    rw [piled_cons, List.map_cons, List.sum_cons, List.length_cons, ← ih]
    omega
theorem rp_lst01 {n : Nat} {ps : List PyData} (h : ∀ p ∈ ps, Rp01 n p) : Rp01 ((n + 2) * ps.length + 3) (.list ps) := by
  have hm : ∀ t ∈ PyData.shownAll ps, t.length ≤ n ∧ PyData.strOk t = true := by
    intro t ht
    rw [shownAll_map01] at ht
    obtain ⟨p, hp, rfl⟩ := List.mem_map.mp ht
    exact ⟨(h p hp).l, (h p hp).ok⟩
  have hlen : (PyData.shownAll ps).length = ps.length := by rw [shownAll_map01, List.length_map]
  have hsh : (PyData.list ps).shown = listText (PyData.shownAll ps) := rfl
  have h1 := listText_len_le (PyData.shownAll ps)
  have h2 := rp_pile01 n (PyData.shownAll ps) fun t ht => (hm t ht).1
  rw [sum_pile01] at h1
  rw [hlen] at h2
  refine ⟨by rw [hsh]; omega, ?_, by rw [PyData.showable]; exact showAll_ok01 ps fun p hp => (h p hp).sh⟩
  rw [hsh]
  exact rp_app01 (tf_ok01 _ _ _ (by decide +kernel) fun t ht => (hm t ht).2) (by decide +kernel)
/-- what is told of any value -/
structure Tv01 (n k : Nat) (d : D) : Prop where
  pu : pureD d = true
  ex : ∃ p, pd d = some p ∧ p.canLay0 = true ∧ p.depth ≤ k ∧ Rp01 n p
  fz : ∀ (m : M) (j : Nat), k ≤ j → frzGo m (j + 1) d = some d
def smp01 : D → Bool
  | .non => true
  | .bl _ => true
  | .int _ => true
  | .str _ => true
  | _ => false
theorem frz_smp01 {n : Nat} (h : smp01 x = true) : frzGo m (n + 1) x = some x := by cases x <;> first | rfl | cases h
theorem leaf01 {d : D} (h : d ∈ vaLeaves) : Tv01 24 1 d := by
  have key : (vaLeaves.all fun d => (match pd d with | some g => PyData.canLay0 g && (decide (g.depth ≤ 1) && (decide (g.shown.length ≤ 24) && (PyData.strOk g.shown && g.showable))) | none => false) && (pureD d && smp01 d)) = true := by decide +kernel
  have k := List.all_eq_true.mp key d h
  obtain ⟨k1, k2⟩ := and2 k
  obtain ⟨k2, k3⟩ := and2 k2
  refine ⟨k2, ?_, fun m n _ => frz_smp01 k3⟩
  cases e : pd d with
  | none => rw [e] at k1; cases k1
  | some g =>
    rw [e] at k1
    obtain ⟨a1, k1⟩ := and2 k1
    obtain ⟨a2, k1⟩ := and2 k1
    obtain ⟨a3, k1⟩ := and2 k1
    obtain ⟨a4, a5⟩ := and2 k1
    exact ⟨g, rfl, a1, of_decide_eq_true a2, ⟨of_decide_eq_true a3, a4, a5⟩⟩
theorem Tv01.mono {a b j : Nat} {d : D} (h : Tv01 a k d) (h1 : a ≤ b) (h2 : k ≤ j) : Tv01 b j d := by
  obtain ⟨h0, ⟨p, e, c, dp, rp⟩, f⟩ := h
  exact ⟨h0, ⟨p, e, c, by omega, rp_mono01 rp h1⟩, fun m i hi => f m i (by omega)⟩
theorem all01 : ∀ ds : List D, (∀ d ∈ ds, Tv01 n k d) → pureL ds = true ∧ (∃ ps, pdL ds = some ps ∧ PyData.canLayAll0 ps = true ∧ PyData.depthAll ps ≤ k ∧ ps.length = ds.length ∧ ∀ p ∈ ps, Rp01 n p) ∧ ∀ (m : M) (j : Nat), k ≤ j → mapO (frzGo m (j + 1)) ds = some ds
  | [], _ => ⟨rfl, ⟨[], rfl, rfl, by simp [PyData.depthAll], rfl, fun _ h => nomatch h⟩, fun _ _ _ => rfl⟩
  | d :: ds, h => by
    obtain ⟨q0, ⟨ps, q1, q2, q3, q4, q5⟩, q6⟩ := all01 ds fun x hx => h x (List.mem_cons_of_mem _ hx)
    obtain ⟨h0, ⟨p, h1, h2, h3, h4⟩, h5⟩ := h d List.mem_cons_self
    refine ⟨by rw [pureL, h0, q0]; rfl, ⟨p :: ps, by rw [pdL, h1, q1], by rw [PyData.canLayAll0, h2, q2]; rfl, by rw [PyData.depthAll]; omega, by rw [List.length_cons, List.length_cons, q4], fun x hx => ?_⟩, fun m j hj => ?_⟩
    · rcases List.mem_cons.mp hx with rfl | hx
      · exact h4
      · exact q5 x hx
    · unfold mapO
      rw [h5 m j hj, q6 m j hj]
theorem lst01 (h : ∀ d ∈ ds, Tv01 n k d) : Tv01 ((n + 2) * ds.length + 3) (k + 1) (.lst ds) := by
  obtain ⟨q0, ⟨ps, q1, q2, q3, q4, q5⟩, q6⟩ := all01 ds h
  refine ⟨q0, ⟨.list ps, by rw [pd, q1]; rfl, by rw [PyData.canLay0]; exact q2, by simp only [PyData.depth]; omega, by rw [← q4]; exact rp_lst01 q5⟩, fun m j hj => ?_⟩
  obtain ⟨i, rfl⟩ : ∃ i, j = i + 1 := ⟨j - 1, by omega⟩
  show (mapO (frzGo m (i + 1)) ds).map D.lst = _
  rw [q6 m i (by omega)]
  rfl
theorem tup01 (h : ∀ d ∈ ds, Tv01 n k d) : Tv01 ((n + 2) * ds.length + 3) (k + 1) (.tup ds) := by
  obtain ⟨q0, ⟨ps, q1, q2, q3, q4, q5⟩, q6⟩ := all01 ds h
  refine ⟨q0, ⟨.tuple ps, by rw [pd, q1]; rfl, by rw [PyData.canLay0]; exact q2, by simp only [PyData.depth]; omega, by rw [← q4]; exact rp_tup01 q5⟩, fun m j hj => ?_⟩
  obtain ⟨i, rfl⟩ : ∃ i, j = i + 1 := ⟨j - 1, by omega⟩
  show (mapO (frzGo m (i + 1)) ds).map D.tup = _
  rw [q6 m i (by omega)]
  rfl
def big01 : Nat → Nat
  | 0 => 24
  | n + 1 => (big01 n + 2) * 3 + 24
theorem va01 : ∀ (n : Nat) {d : D}, VaN n d → Tv01 (big01 n) (n + 1) d
  | 0, d, h => leaf01 h
  | n + 1, d, h => by
    rcases h with h | ⟨ds, hd, hl, hv⟩
    · have e1 : big01 (n + 1) = (big01 n + 2) * 3 + 24 := rfl
      exact (leaf01 h).mono (by omega) (by omega)
    · have e1 : big01 (n + 1) = (big01 n + 2) * 3 + 24 := rfl
      have hz : (big01 n + 2) * ds.length ≤ (big01 n + 2) * 3 := Nat.mul_le_mul_left _ hl
      rcases hd with rfl | rfl
      · exact (lst01 fun e he => va01 n (hv e he)).mono (by omega) (by omega)
      · exact (tup01 fun e he => va01 n (hv e he)).mono (by omega) (by omega)
/-- the text of a list, by the lengths of its parts -/
theorem tf_len01 : ∀ (ts : List Str) (j : Nat) (acc : Str), (textFrom (j + 1) acc ts).length = acc.length + (ts.map fun t => t.length + 2).sum
  | [], _, _ => by simp [textFrom]
  | t :: ts, j, acc => by
    have ih := tf_len01 ts (j + 1) (acc ++ (if j + 1 > 0 then ", " else "" : String) ++ t)
    have e2 : ((", " : String) : Str).length = 2 := by decide +kernel
    rw [textFrom, ih, strLen_append, strLen_append, if_pos (Nat.succ_pos j), e2, List.map_cons, List.sum_cons]
    omega
theorem lt_len01 (t : Str) (ts : List Str) : (listText (t :: ts)).length = t.length + 2 + (ts.map fun t => t.length + 2).sum := by
  have e1 : (("[" : String) : Str).length = 1 := by decide +kernel
  have e2 : (("]" : String) : Str).length = 1 := by decide +kernel
  have e3 : (("" : String) : Str).length = 0 := by decide +kernel
  unfold listText
  rw [strLen_append, textFrom, tf_len01, strLen_append, strLen_append, if_neg (Nat.lt_irrefl 0), e1, e2, e3]
  omega
/-- a list of so many lists of values -/
theorem kept_pd01 (h : ∀ d ∈ ds, Tv01 n k d) (hk : k ≤ 20) (ht : m[t]? = some (.lst ds)) (j : Nat) : ∃ ps, pdL ds = some ps ∧ ps.length = ds.length ∧ (∀ p ∈ ps, Rp01 n p) ∧ pdM m (.lst (.ref t :: List.replicate j (.ref t))) = some (.list (List.replicate (j + 1) (.list ps))) ∧ pdM m (.ref t) = some (.list ps) := by
  obtain ⟨q0, ⟨ps, q1, q2, q3, q4, q5⟩, q6⟩ := all01 ds h
  refine ⟨ps, q1, q4, q5, ?_, ?_⟩
  · have e1 : ∀ i, mapO (frzGo m 39) (List.replicate i (.ref t)) = some (List.replicate i (.lst ds)) := fun i => by
      have e0 : frzGo m 39 (.ref t) = some (.lst ds) := by
        unfold frzGo
        rw [ht]
        show (mapO (frzGo m 38) ds).map D.lst = _
        rw [q6 m 37 (by omega)]
        rfl
      induction i with
      | zero => rfl
      | succ i ih =>
        rw [List.replicate_succ, List.replicate_succ]
        unfold mapO
        rw [e0, ih]
    have e2 : frz m (.lst (.ref t :: List.replicate j (.ref t))) = some (.lst (List.replicate (j + 1) (.lst ds))) := by
      have e3 := e1 (j + 1)
      rw [List.replicate_succ] at e3
      unfold frz
      rw [if_neg (by rw [pureD, pureL, pureD]; simp)]
      show (mapO (frzGo m 39) (.ref t :: List.replicate j (.ref t))).map D.lst = _
      rw [e3]
      rfl
    have e4 : ∀ i, pdL (List.replicate i (.lst ds)) = some (List.replicate i (.list ps)) ∧ PyData.canLayAll0 (List.replicate i (.list ps)) = true ∧ PyData.depthAll (List.replicate i (.list ps)) ≤ k + 1 := fun i => by
      induction i with
      | zero => exact ⟨rfl, rfl, by simp [PyData.depthAll]⟩
      | succ i ih =>
        obtain ⟨h1, h2, h3⟩ := ih
        rw [List.replicate_succ, List.replicate_succ]
        refine ⟨by rw [pdL, pd, q1, h1]; rfl, by rw [PyData.canLayAll0, PyData.canLay0, q2, h2]; rfl, ?_⟩
        rw [PyData.depthAll]
        simp only [PyData.depth]
        omega
    obtain ⟨h1, h2, h3⟩ := e4 (j + 1)
    unfold pdM
    rw [e2]
    show (match pd (.lst (List.replicate (j + 1) (.lst ds))) with | some a => if SeqAt.shaped a then some a else none | none => none) = _
    rw [pd, h1]
    have hd : (PyData.list (List.replicate (j + 1) (.list ps))).depth ≤ 64 := by simp only [PyData.depth]; omega
    have hc : (PyData.list (List.replicate (j + 1) (.list ps))).canLay0 = true := by rw [PyData.canLay0]; exact h2
    exact if_pos (by simp only [SeqAt.shaped, hc, hd, decide_true, Bool.and_self])
  · have e2 : frz m (.ref t) = some (.lst ds) := by
      unfold frz
      rw [if_neg (by rw [pureD]; simp)]
      unfold frzGo
      rw [ht]
      show (mapO (frzGo m 39) ds).map D.lst = _
      rw [q6 m 38 (by omega)]
      rfl
    unfold pdM
    rw [e2]
    show (match pd (.lst ds) with | some a => if SeqAt.shaped a then some a else none | none => none) = _
    rw [pd, q1]
    have hd : (PyData.list ps).depth ≤ 64 := by simp only [PyData.depth]; omega
    have hc : (PyData.list ps).canLay0 = true := by rw [PyData.canLay0]; exact q2
    exact if_pos (by simp only [SeqAt.shaped, hc, hd, decide_true, Bool.and_self])
theorem rep01 {ps : List PyData} {N : Nat} (h0 : reprT m [x] = none) (h1 : pdM m x = some (.list ps)) (h2 : Rp01 N (.list ps)) (hN : N ≤ 100000) : reprG m [x] = some (.str (PyData.list ps).shown) := by
  have hz : (PyData.list ps).shown.length ≤ sizeLine := by
    rw [sizeLine_eq]
    exact Nat.le_trans h2.l (by omega)
  unfold reprG
  rw [h0]
  show (pdM m x).bind reprP = _
  rw [h1]
  show (if (isSeqP (PyData.list ps) && (PyData.list ps).showable && decide ((PyData.list ps).shown.length ≤ sizeLine)) = true then some (D.str (PyData.list ps).shown) else none) = _
  rw [h2.sh, decide_eq_true hz]
  rfl
/-- what is told of the list, and of what the errors keep of it -/
theorem texts01 (h : ∀ d ∈ ds, Tv01 3000 k d) (hk : k ≤ 20) (hl : ds.length ≤ 2) : ∃ z zs : Str, PyData.strOk z = true ∧ PyData.strOk zs = true ∧ zs.length = 7 * z.length + 14 ∧ (∀ (m : M) (t : Nat), m[t]? = some (.lst ds) → reprG m [.ref t] = some (.str z) ∧ reprG m [.lst (List.replicate 7 (.ref t))] = some (.str zs)) ∧ ∃ ps, pdL ds = some ps ∧ z = (PyData.list ps).shown := by
  obtain ⟨q0, ⟨ps, q1, q2, q3, q4, q5⟩, q6⟩ := all01 ds h
  have r1 := rp_lst01 q5
  have r2 := rp_lst01 (ps := List.replicate 7 (.list ps)) fun p hp => by
    rw [List.eq_of_mem_replicate hp]
    exact r1
  have b1 : (3000 + 2) * ps.length + 3 ≤ 6007 := by rw [q4]; omega
  refine ⟨_, _, r1.ok, r2.ok, ?_, fun m t ht => ?_, ps, q1, rfl⟩
  · show (listText (PyData.shownAll (List.replicate 7 (.list ps)))).length = _
    rw [shownAll_map01]
    show (listText ((PyData.list ps).shown :: (List.replicate 6 (PyData.list ps)).map PyData.shown)).length = _
    rw [lt_len01]
    simp only [List.map_replicate, List.sum_replicate_nat]
    omega
  · obtain ⟨ps', p1, p2, p3, p4, p5⟩ := kept_pd01 (j := 6) h hk ht
    rw [q1] at p1
    cases p1
    refine ⟨rep01 (N := 6007) rfl p5 (rp_mono01 r1 b1) (by decide), rep01 (N := 100000) rfl p4 (rp_mono01 r2 ?_) (by decide)⟩
    rw [List.length_replicate]
    omega
theorem two01 {v w : D} {ps qs : List PyData} (h1 : pdL [v] = some ps) (h2 : pdL [v, w] = some qs) : (PyData.list ps).shown.length < (PyData.list qs).shown.length := by
  cases e1 : pd v with
  | none => rw [pdL, e1] at h1; cases h1
  | some p =>
    cases e2 : pd w with
    | none => rw [pdL, pdL, e1, e2] at h2; cases h2
    | some q =>
      rw [pdL, e1, pdL] at h1
      rw [pdL, pdL, e1, e2, pdL] at h2
      cases h1
      cases h2
      show (listText (PyData.shownAll [p])).length < (listText (PyData.shownAll [p, q])).length
      rw [shownAll_map01, shownAll_map01]
      show (listText (p.shown :: [])).length < (listText (p.shown :: [q.shown])).length
      rw [lt_len01, lt_len01]
      simp
theorem kept_e01 : F__law_kept [.ref t] m = some (.lst (List.replicate 7 (.ref t)), m) := by kernel_rfl
end
end L4
namespace L4
open PySem
section
variable {m m' : M} {ρ : Ss} {n k t : Nat} {x v s : D} {ds : List D} {Q : D → M → Prop}
theorem WE.exn01 {c w : Str} {a : EF} (h : WE a ρ m fun d m1 => Q (.exn c [w] [d]) m1) : WE (eExn1 c w (aCons a aNil)) ρ m Q := by
  obtain ⟨d, m1, e, q⟩ := h
  refine ⟨_, m1, ?_, q⟩
  unfold eExn1 aCons
  rw [e]
  rfl
theorem WE.xf01 {cs : List Str} {w : Str} {a : EF} (h : WE a ρ m fun x m1 => ∃ c ns vs d, x = .exn c ns vs ∧ cs.contains c = true ∧ fldAt ns vs w = some d ∧ Q d m1) : WE (eXfV cs w a) ρ m Q := by
  obtain ⟨x, m1, e, c, ns, vs, d, rfl, h1, h2, q⟩ := h
  refine ⟨d, m1, ?_, q⟩
  unfold eXfV
  rw [e, bd_go]
  dsimp only
  rw [if_pos h1, h2]
  rfl
theorem WE.none01 {a : EF} {t : Tgt} {c : TF} {e : EF} {xs : List D} (h1 : a ρ m = some (.lst xs, m)) (hl : xs.length < 1000000) (h : ∀ x ∈ xs, ∃ ys, t.un x = some ys ∧ WT c (setMany ρ t.is ys) m fun v m1 => v = false ∧ m1 = m) (q : Q (.lst []) m) : WE (eLcV false (lIt a) t c e) ρ m Q := by
  have hi : lIt a ρ m = some (nxC xs, m) := by unfold lIt; rw [h1]; rfl
  have hn : Tells (nxC xs) m (fun _ (d : D) => d) xs := fun i hi => by
    show (if i ≤ xs.length then some xs[i]? else none) = _
    rw [if_pos hi]
    simp
  have pk : ∀ (l : List D) (i : Nat), pickF (fun _ _ => false) (fun _ (d : D) => d) i l = [] := fun l => by
    induction l with
    | nil => intro i; rfl
    | cons d l ih => intro i; unfold pickF; rw [ih]; rfl
  refine WE.lcT (fun _ _ => false) (fun _ d => d) hi hn hl (fun i x hx => ?_) (by rw [pk]; exact q)
  obtain ⟨ys, h2, h3⟩ := h x (List.mem_of_getElem? hx)
  exact ⟨ys, h2, h3, fun z => nomatch z⟩
theorem eq_str01 {a b : Str} (ha : PyData.strOk a = true) (hb : PyData.strOk b = true) (h : a.length < b.length) : eqD m (.str a) (.str b) = some (.bl false) := by
  have e1 : pdM m (.str a) = some (.str a) := pdM_pure rfl rfl (by simp [SeqAt.shaped, PyData.canLay0, ha, PyData.depth])
  have e2 : pdM m (.str b) = some (.str b) := pdM_pure rfl rfl (by simp [SeqAt.shaped, PyData.canLay0, hb, PyData.depth])
  unfold eqD
  rw [e1, e2]
  have hne : a ≠ b := fun z => by rw [z] at h; exact absurd h (Nat.lt_irrefl _)
  have e3 : PyData.eqv (.str a) (.str b) = false := by
    simp [PyData.eqv, hne]
  show some (D.bl (PyData.eqv (.str a) (.str b))) = _
  rw [e3]
theorem ne_str01 {z : Str} (h : PyData.strOk z = true) : neD m (.str z) (.str z) = some (.bl false) := ne_same (p := .str z) (pdM_pure rfl rfl (by simp [SeqAt.shaped, PyData.canLay0, h, PyData.depth]))
theorem at01 : fldAt (["at"] : List Str) [x] "at" = some x := by kernel_rfl
def I01 (s : D) (m : M) (ρ : Ss) : Prop := AY m ∧ ∃ x2 x3 x4 x5 x6 x7 x8, ρ = [some s, some (.ref 1), x2, x3, x4, x5, x6, x7, x8]
theorem made01 (x2 x3 x4 x5 x6 x7 x8 : Option D) : f_law_11 [some s, some (.ref 1), x2, x3, x4, x5, x6, x7, x8] m = some (.rt (.bl true), m) := by kernel_rfl
local macro_rules | `(tactic| fail) => `(tactic| (first | ((with_reducible refine w_and_t ?_ ?_); exact rfl) | ((with_reducible refine w_and_f ?_ ?_); exact rfl) | ((with_reducible refine w_or_t ?_ ?_); exact rfl) | ((with_reducible refine w_or_f ?_ ?_); exact rfl) | ((with_reducible refine Kn.fdiv ?_ ?_); exact ⟨by decide, by decide⟩) | ((with_reducible refine Kn.mod ?_ ?_); decide) | ((with_reducible refine And.intro (a := (_ && _) = true) ?_ ?_); exact rfl) | ((with_reducible refine And.intro (a := List.length _ = List.length _) ?_ ?_); exact rfl; dsimp only [setMany, List.set_cons_succ, List.set_cons_zero]) | ((with_reducible refine ⟨wsz ?_, ?_⟩); first | decide | (show (_ : Nat) ≤ 1000; simp only [List.length_cons, List.length_nil]; decide)) | with_reducible refine ⟨_, rfl, ?_⟩))
local macro_rules | `(tactic| fail) => `(tactic| (first | ((with_reducible refine WG.nm ?_); dsimp only [setMany, List.set_cons_succ, List.set_cons_zero]) | ((with_reducible refine WG.one ?_); dsimp only [setMany, List.set_cons_succ, List.set_cons_zero]) | ((with_reducible refine WG.tup ?_ ?_); exact rfl; dsimp only [setMany, List.set_cons_succ, List.set_cons_zero]) | ((with_reducible apply WE.var); exact rfl) | ((with_reducible apply WE.upP); exact rfl) | ((with_reducible apply WE.upT); exact rfl) | ((with_reducible apply WE.upL); exact rfl) | ((with_reducible apply WE.upN); exact rfl) | ((with_reducible apply WS.aug); exact rfl) | ((with_reducible apply WE.newPL); exact rfl) | ((with_reducible refine WS.ite_t ?_ ?_); exact rfl) | ((with_reducible refine WS.ite_f ?_ ?_); exact rfl) | ((with_reducible refine WE.ite_t ?_ ?_); exact rfl) | ((with_reducible refine WE.ite_f ?_ ?_); exact rfl)))
local macro_rules | `(tactic| fail) => `(tactic| with_reducible (first | refine Kn.it_l ?_ | refine Kn.it_s ?_ | refine Kn.str_s ?_ | refine Kn.sl_t ?_ | refine Kn.sl_l ?_))
local macro_rules | `(tactic| fail) => `(tactic| with_reducible (first | refine WE.tupL ?_ | refine WE.dicP ?_ | refine WP.nil ?_ | refine WP.cons ?_ | refine WE.upd ?_ | refine WA.nil ?_ | refine WA.cons ?_ | refine WA.star ?_ | refine WO.no ?_ | refine WO.yes ?_ | refine WT.val ?_ | refine WT.and ?_ | refine WT.or ?_ | refine WT.not ?_ | refine WT.tt ?_ | refine WI.it ?_ | refine Kn.add_i ?_ | refine Kn.sub ?_ | refine Kn.neg ?_ | refine Kn.eq_i ?_ | refine Kn.ne_i ?_ | refine Kn.lt ?_ | refine Kn.le ?_ | refine Kn.gt ?_ | refine Kn.ge ?_ | refine Kn.int_i ?_ | refine Kn.int_b ?_ | refine Kn.abs ?_ | refine Kn.min2 ?_ | refine Kn.max2 ?_ | refine Kn.len_t ?_ | refine Kn.len_l ?_ | refine Kn.len_s ?_ | refine Kn.tup_t ?_ | refine Kn.tup_l ?_ | refine Kn.lis_t ?_ | refine Kn.lis_l ?_ | refine Kn.seq_t ?_ | refine Kn.seq_l ?_ | refine Kn.it_t ?_))
local macro_rules | `(tactic| fail) => `(tactic| with_reducible (first | refine WS.seq ?_ | refine WS.nx ?_ | refine WS.rt ?_ | refine WS.asg ?_ | refine WS.drop ?_ | refine WS.ret ?_ | refine WS.nop ?_ | refine WS.retN ?_ | refine WS.brk ?_ | refine WS.cont ?_ | refine WS.sif ?_ | refine WS.par ?_ | refine WG.setA ?_ | refine WE.c ?_ | refine WE.op ?_ | refine WE.call ?_ | refine WE.callM ?_ | refine WE.un ?_ | refine WE.tup ?_ | refine WE.lst ?_ | refine WE.newL ?_ | refine WE.eif ?_ | refine WE.sl ?_ | refine WE.isN ?_ | refine WE.notN ?_ | refine WE.not ?_ | refine WE.and ?_ | refine WE.or ?_ | refine WE.app ?_ | refine WE.tupR ?_ | refine WE.lisR ?_ | refine WE.m1 ?_ | refine WE.tbl ?_ | refine WE.tblNin ?_ | refine WE.chain ?_ | refine WE.fldF ?_ | refine WE.mth ?_ | refine WE.disp ?_ | refine WE.dicC ?_ | refine WE.tupA ?_))
local macro_rules | `(tactic| trivial) => `(tactic| (repeat fail))
theorem turn01 (h : AY m) (x2 x3 x4 x5 x6 x7 x8 : Option D) : WS f_law_5 [some s, some (.ref 1), x2, x3, x4, x5, x6, x7, x8] m fun rr m' => ∃ ρ, rr = .nx ρ ∧ I01 s m' ρ := by
  unfold f_law_5
  trivial
  refine value_y 10 3 (by decide) (by decide) h fun v m1 hv a1 l1 o1 => ?_
  have tv := (va01 3 hv).mono (b := 3000) (j := 4) (by decide) (by decide)
  have hm1 := a1.le
  trivial
  generalize h2 : m1 ++ [O.lst [v]] = m2
  have t2 : m2[m1.length]? = some (.lst [v]) := by rw [← h2]; simp
  have o2 : ∀ j, j < m1.length → m2[j]? = m1[j]? := fun j hj => by rw [← h2]; exact List.getElem?_append_left hj
  have a2 : AY m2 := a1.off (o2 0 (by omega)) (o2 1 (by omega))
  obtain ⟨z1, zs1, ok1, oks1, ln1, tx1, ps1, pd1, e1⟩ := texts01 (ds := [v]) (k := 4) (fun d hd => by rw [List.mem_singleton.mp hd]; exact tv) (by decide) (by show 1 ≤ 2; decide)
  unfold f_law_4
  trivial
  refine WE.exn01 ?_
  trivial
  refine ⟨_, _, kept_e01, ?_⟩
  trivial
  refine Kn.mk (tx1 _ _ t2).2 ?_
  trivial
  unfold f_law_3
  trivial
  refine ⟨⟨_, t2⟩, ?_⟩
  trivial
  refine value_y 10 2 (by decide) (by decide) a2 fun w m3 hw a3 l3 o3 => ?_
  have tw := (va01 2 hw).mono (b := 3000) (j := 4) (by decide) (by decide)
  have t3 : m3[m1.length]? = some (.lst [v]) := (o3 _ (by omega)).trans t2
  have k3 := (List.getElem?_eq_some_iff.mp t3).1
  trivial
  refine ⟨_, t3, by rw [sizeLine_eq]; simp, ?_⟩
  show WS _ _ (m3.set m1.length (.lst ([v] ++ [w]))) _
  generalize h4 : m3.set m1.length (.lst ([v] ++ [w])) = m4
  have t4 : m4[m1.length]? = some (.lst [v, w]) := by rw [← h4]; exact List.getElem?_set_self k3
  have a4 : AY m4 := a3.off (by rw [← h4]; exact List.getElem?_set_ne (by omega)) (by rw [← h4]; exact List.getElem?_set_ne (by omega))
  obtain ⟨z2, zs2, ok2, oks2, ln2, tx2, ps2, pd2, e2⟩ := texts01 (ds := [v, w]) (k := 4) (fun d hd => by
    simp only [List.mem_cons, List.not_mem_nil, or_false] at hd
    rcases hd with rfl | rfl
    · exact tv
    · exact tw) (by decide) (by show 2 ≤ 2; decide)
  have hlt : zs1.length < zs2.length := by
    have := two01 pd1 pd2
    rw [← e1, ← e2] at this
    omega
  trivial
  unfold f_law_2
  trivial
  refine ⟨_, _, kept_e01, ?_⟩
  trivial
  refine Kn.mk (tx2 _ _ t4).2 ?_
  trivial
  refine Kn.mk (eq_str01 oks1 oks2 hlt) ?_
  trivial
  refine WE.xf01 ?_
  trivial
  refine ⟨_, _, _, _, rfl, by decide, at01, ?_⟩
  trivial
  refine Kn.mk (tx2 _ _ t4).1 ?_
  trivial
  refine Kn.mk (tx2 _ _ t4).1 ?_
  refine Kn.mk (ne_str01 ok2) ?_
  trivial
  unfold f_law_1
  trivial
  refine WE.none01 (xs := List.replicate 7 (.ref m1.length)) ?_ (by simp) (fun x hx => ⟨[x], rfl, ?_⟩) ?_
  · show bd _ _ = _
    rw [show aCons (eVar 3) aNil _ m4 = some ([.ref m1.length], m4) from rfl, bd_go]
    exact kept_e01
  · rw [List.eq_of_mem_replicate hx]
    dsimp only [Tgt.is, setMany, List.set_cons_succ, List.set_cons_zero]
    trivial
    refine Kn.mk (tx2 _ _ t4).1 ?_
    trivial
    refine Kn.mk (tx2 _ _ t4).1 ?_
    refine Kn.mk (ne_str01 ok2) ?_
    trivial
    exact ⟨rfl, rfl⟩
  trivial
  refine Kn.mk (show neD m4 (.lst []) (.lst []) = some (.bl false) from eqB (by kernel_rfl)) ?_
  trivial
  exact ⟨a4, _, _, _, _, _, _, _, rfl⟩
theorem law_plain : ∀ ns : List Int, ns.length ≤ 63 → F_law [.scr (ns.map D.int)] = some (.bl true) := by
  intro ns hn
  refine WS.runP (n := 9) (b := f_law) ?_ rfl
  show WS _ [some (.scr (ns.map D.int)), none, none, none, none, none, none, none, none] [] _
  trivial
  refine deal_a ns hn _ fun m h => ?_
  trivial
  unfold f_law_12
  refine WS.seq (WS.forI (fun i ρ m' => I01 (.scr (ns.map D.int)) m' ρ) ?_)
  refine WI.r1 ?_
  trivial
  refine ⟨by decide, ⟨h.ay.1, _, _, _, _, _, _, _, rfl⟩, ?_, ?_⟩
  · rintro i x ρ m1 hi ⟨h, x2, x3, x4, x5, x6, x7, x8, rfl⟩
    refine WG.one ?_
    dsimp only [setMany, List.set_cons_succ, List.set_cons_zero]
    refine WS.mono (turn01 h _ _ _ _ _ _ _) ?_
    rintro _ m3 ⟨ρ, rfl, h1⟩
    exact ⟨ρ, .inl rfl, h1⟩
  · rintro ρ m1 ⟨h, x2, x3, x4, x5, x6, x7, x8, rfl⟩
    refine WS.nx ⟨_, _, made01 (s := .scr (ns.map D.int)) (m := m1) x2 x3 x4 x5 x6 x7 x8, ?_⟩
    exact ⟨_, rfl, rfl⟩
end
end L4
namespace L4
open PySem L2 TL
open L3 (Df Md Ki Cmd)
structure Tx (w : World) (K : PySem.W.Frag) (mg : Str → Option Value) : Prop where
  b_IndexError : mg "IndexError" = none
  b_KeyError : mg "KeyError" = none
  b_ValueError : mg "ValueError" = none
  b_abs : mg "abs" = none
  b_int : mg "int" = none
  b_isinstance : mg "isinstance" = none
  b_len : mg "len" = none
  b_range : mg "range" = none
  b_repr : mg "repr" = none
  b_tuple : mg "tuple" = none
  g_InvalidCommand : mg "InvalidCommand" = some (.ref (He.ga K "InvalidCommand"))
  g_InvalidEvent : mg "InvalidEvent" = some (.ref (He.ga K "InvalidEvent"))
  g_InvalidGoal : mg "InvalidGoal" = some (.ref (He.ga K "InvalidGoal"))
  g_InvalidRoad : mg "InvalidRoad" = some (.ref (He.ga K "InvalidRoad"))
  g_InvalidRule : mg "InvalidRule" = some (.ref (He.ga K "InvalidRule"))
  g_InvalidSeen : mg "InvalidSeen" = some (.ref (He.ga K "InvalidSeen"))
  g_InvalidText : mg "InvalidText" = some (.ref (He.ga K "InvalidText"))
  g_InvalidWhat : mg "InvalidWhat" = some (.ref (He.ga K "InvalidWhat"))
  g_NoEvent : mg "NoEvent" = some (.ref (He.ga K "NoEvent"))
  g_Refused : mg "Refused" = some (.ref (He.ga K "Refused"))
  g_SitError : mg "SitError" = some (.ref (He.ga K "SitError"))
  isx : isxB K tb_isxG tb_isxT = true
  ogb_InvalidEvent : ogB K "InvalidEvent" "at" "at" "/claim/cut.py" "ValueError" "ValueError.__new__" "ValueError.__init__" [.type "ValueError", .type "Exception", .type "BaseException", .type "object"] = true
  xc_InvalidEvent : XcC K (He.ga K "InvalidEvent")
  ogb_InvalidRoad : ogB K "InvalidRoad" "word" "word" "/claim/cut.py" "ValueError" "ValueError.__new__" "ValueError.__init__" [.type "ValueError", .type "Exception", .type "BaseException", .type "object"] = true
  xc_InvalidRoad : XcC K (He.ga K "InvalidRoad")
  ogb_InvalidRule : ogB K "InvalidRule" "word" "word" "/claim/cut.py" "ValueError" "ValueError.__new__" "ValueError.__init__" [.type "ValueError", .type "Exception", .type "BaseException", .type "object"] = true
  xc_InvalidRule : XcC K (He.ga K "InvalidRule")
  ogb_InvalidSeen : ogB K "InvalidSeen" "at" "at" "/claim/cut.py" "ValueError" "ValueError.__new__" "ValueError.__init__" [.type "ValueError", .type "Exception", .type "BaseException", .type "object"] = true
  xc_InvalidSeen : XcC K (He.ga K "InvalidSeen")
  ogb_InvalidText : ogB K "InvalidText" "at" "at" "/claim/cut.py" "ValueError" "ValueError.__new__" "ValueError.__init__" [.type "ValueError", .type "Exception", .type "BaseException", .type "object"] = true
  xc_InvalidText : XcC K (He.ga K "InvalidText")
  ogb_NoEvent : ogB K "NoEvent" "at" "at" "/claim/cut.py" "IndexError" "IndexError.__new__" "IndexError.__init__" [.type "IndexError", .type "LookupError", .type "Exception", .type "BaseException", .type "object"] = true
  xc_NoEvent : XcC K (He.ga K "NoEvent")
  ogb_Refused : ogB K "Refused" "at" "at" "/claim/cut.py" "ValueError" "ValueError.__new__" "ValueError.__init__" [.type "ValueError", .type "Exception", .type "BaseException", .type "object"] = true
  xc_Refused : XcC K (He.ga K "Refused")
  xc_InvalidCommand : XcC K (He.ga K "InvalidCommand")
  x0_InvalidCommand : Xc0 K "InvalidCommand"
  xc_InvalidGoal : XcC K (He.ga K "InvalidGoal")
  x0_InvalidGoal : Xc0 K "InvalidGoal"
  xc_InvalidWhat : XcC K (He.ga K "InvalidWhat")
  x0_InvalidWhat : Xc0 K "InvalidWhat"
  xf_InvalidEvent_at : PySem.W.findIn K (.ref (He.ga K "InvalidEvent")) "at" = some none
  xf_InvalidRoad_word : PySem.W.findIn K (.ref (He.ga K "InvalidRoad")) "word" = some none
  xf_InvalidRule_word : PySem.W.findIn K (.ref (He.ga K "InvalidRule")) "word" = some none
  xf_InvalidSeen_at : PySem.W.findIn K (.ref (He.ga K "InvalidSeen")) "at" = some none
  xf_InvalidText_at : PySem.W.findIn K (.ref (He.ga K "InvalidText")) "at" = some none
  xf_NoEvent_at : PySem.W.findIn K (.ref (He.ga K "NoEvent")) "at" = some none
  xf_Refused_at : PySem.W.findIn K (.ref (He.ga K "Refused")) "at" = some none
  d__law_deal : Df K mg "_law_deal" s__law_deal
  d__law_draw : Df K mg "_law_draw" s__law_draw
  d__law_pick : Df K mg "_law_pick" s__law_pick
  d__law_value : Df K mg "_law_value" s__law_value
  d__law_kept : Df K mg "_law_kept" s__law_kept
  d__law_sorts : Df K mg "_law_sorts" s__law_sorts
  d_law : Df K mg "law" s_law
abbrev P : Program := (PySem.Challenge.rw_sitout_k01_errors_and_what_they_keep).prog
theorem psup : PSup P "/claim/cut.py" := ⟨by kernel_rfl, by kernel_rfl⟩
section
variable {w : World} {K : PySem.W.Frag} {mg : Str → Option Value} {base : Heap}
theorem Tx.og_InvalidEvent (T : Tx w K mg) : OgC P K "InvalidEvent" "at" "ValueError" "ValueError.__new__" "ValueError.__init__" [.type "ValueError", .type "Exception", .type "BaseException", .type "object"] := ogC_ok psup bind_at T.ogb_InvalidEvent
theorem Tx.og_InvalidRoad (T : Tx w K mg) : OgC P K "InvalidRoad" "word" "ValueError" "ValueError.__new__" "ValueError.__init__" [.type "ValueError", .type "Exception", .type "BaseException", .type "object"] := ogC_ok psup bind_word T.ogb_InvalidRoad
theorem Tx.og_InvalidRule (T : Tx w K mg) : OgC P K "InvalidRule" "word" "ValueError" "ValueError.__new__" "ValueError.__init__" [.type "ValueError", .type "Exception", .type "BaseException", .type "object"] := ogC_ok psup bind_word T.ogb_InvalidRule
theorem Tx.og_InvalidSeen (T : Tx w K mg) : OgC P K "InvalidSeen" "at" "ValueError" "ValueError.__new__" "ValueError.__init__" [.type "ValueError", .type "Exception", .type "BaseException", .type "object"] := ogC_ok psup bind_at T.ogb_InvalidSeen
theorem Tx.og_InvalidText (T : Tx w K mg) : OgC P K "InvalidText" "at" "ValueError" "ValueError.__new__" "ValueError.__init__" [.type "ValueError", .type "Exception", .type "BaseException", .type "object"] := ogC_ok psup bind_at T.ogb_InvalidText
theorem Tx.og_NoEvent (T : Tx w K mg) : OgC P K "NoEvent" "at" "IndexError" "IndexError.__new__" "IndexError.__init__" [.type "IndexError", .type "LookupError", .type "Exception", .type "BaseException", .type "object"] := ogC_ok psup bind_at T.ogb_NoEvent
theorem Tx.og_Refused (T : Tx w K mg) : OgC P K "Refused" "at" "ValueError" "ValueError.__new__" "ValueError.__init__" [.type "ValueError", .type "Exception", .type "BaseException", .type "object"] := ogC_ok psup bind_at T.ogb_Refused
theorem Tx.F__law_deal (T : Tx w K mg) : MFn P w K mg base 1 "_law_deal" 2 F__law_deal :=
  mfn_df T.d__law_deal (k := 0) (b := f__law_deal) sc__law_deal (fun _ _ _ _ _ _ us hl => match us, hl with | [_, _], _ => rfl) fun f cdv A outer s H E gd =>
    dss_cons (ds_setLc (i := 3) rfl sc__law_deal.nd rfl rfl (sw_true rfl rfl rfl (by decide +kernel)) (di_any (de_sl (dv 0) (dp_yes (dv 1)) (dp_yes (de_int)))) (blkOk_by (own := [("_law_cell", 2)]) (N := ["_law_script", "_law_base", "_law_cell", "_law_cells", "_law_mixed", "_law_great"]) (sc := defScope s__law_deal) (by decide +kernel)) (fun _ _ _ _ _ => dgn_name (i := 2) sc__law_deal.nd rfl (Or.inl rfl)) (fun _ _ _ _ _ => dts_nil) (fun _ _ _ _ _ => de_callB call_abs' (by rfl) T.b_abs (by decide +kernel) (da_cons (dv 2) (da_nil))))
    (dss_cons (ds_set (i := 4) sc__law_deal.nd rfl (Or.inl rfl) (de_op op_add' (de_int) (dv 1)))
    (dss_cons (ds_forA big PassesOwn.never rfl (dv 3) (dg_of (dgn_name (i := 2) sc__law_deal.nd rfl (Or.inl rfl))) (dss_one (ds_set (i := 4) sc__law_deal.nd rfl (Or.inl rfl) (de_op op_mod' (de_callT call_int' (by rfl) T.b_int (by decide +kernel) (da_cons (de_op op_add' (de_op op_mul' (dv 4) (de_int)) (dv 2)) (da_nil))) (de_int)))))
    (dss_cons (ds_setLc (i := 5) rfl sc__law_deal.nd rfl rfl (sw_true rfl rfl rfl (by decide +kernel)) (di_any (dv 3)) (blkOk_by (own := [("_law_cell", 2)]) (N := ["_law_script", "_law_base", "_law_cell", "_law_cells", "_law_mixed", "_law_great"]) (sc := defScope s__law_deal) (by decide +kernel)) (fun _ _ _ _ _ => dgn_name (i := 2) sc__law_deal.nd rfl (Or.inl rfl)) (fun _ _ _ _ _ => dts_one (dt_cmp op_ge' (dv 2) (de_op op_pow' (de_int) (de_int)) (nomark _))) (fun _ _ _ _ _ => dv 2))
    (dss_one (ds_ret (de_disp (dps_cons (de_str) (de_rev (dv 5)) (dps_cons (de_str) (de_int) (dps_cons (de_str) (de_op op_add' (dv 4) (de_int)) (dps_cons (de_str) (de_int) (dps_nil)))))))))))
theorem Tx.F__law_draw (T : Tx w K mg) : MFn P w K mg base 1 "_law_draw" 2 F__law_draw :=
  mfn_df T.d__law_draw (k := 0) (b := f__law_draw) sc__law_draw (fun _ _ _ _ _ _ us hl => match us, hl with | [_, _], _ => rfl) fun f cdv A outer s H E gd =>
    dss_cons (ds_while big PassesOwn.never (dt_w (dw_and (dt_cmp (op_eq' gd) (de_ixA gd (dv 0) (de_str)) (de_int) (nomark _)) (dw_and1 (dt_cmp op_gt' (de_callB call_len' (by rfl) T.b_len (by decide +kernel) (da_cons (de_ixA gd (dv 0) (de_str)) (da_nil))) (de_int) (nomark _))))) (dss_one (ds_asg (de_pop (de_ixA gd (dv 0) (de_str))) (dg_subA gd (dv 0) (de_str)))))
    (dss_cons (ds_if (dt_cmp op_gt' (de_ixA gd (dv 0) (de_str)) (de_int) (nomark _)) (dss_cons (ds_set (i := 2) sc__law_draw.nd rfl (Or.inl rfl) (de_op op_mod' (de_callT call_int' (by rfl) T.b_int (by decide +kernel) (da_cons (de_ixA gd (dv 0) (de_str)) (da_nil))) (dv 1)))
    (dss_cons (ds_asg (de_op op_fdiv' (de_ixA gd (dv 0) (de_str)) (dv 1)) (dg_subA gd (dv 0) (de_str)))
    (dss_one (ds_ret (dv 2))))) (dss_nil))
    (dss_cons (ds_asg (de_op op_add' (de_ixA gd (dv 0) (de_str)) (de_int)) (dg_subA gd (dv 0) (de_str)))
    (dss_cons (ds_set (i := 3) sc__law_draw.nd rfl (Or.inl rfl) (de_op op_mod' (de_callT call_int' (by rfl) T.b_int (by decide +kernel) (da_cons (de_op op_add' (de_op op_mul' (de_ixA gd (dv 0) (de_str)) (de_int)) (de_op op_mul' (de_ixA gd (dv 0) (de_str)) (de_int))) (da_nil))) (de_int)))
    (dss_cons (ds_set (i := 4) sc__law_draw.nd rfl (Or.inl rfl) (de_op op_mod' (de_callT call_int' (by rfl) T.b_int (by decide +kernel) (da_cons (de_op op_add' (de_op op_mul' (dv 3) (dv 3)) (de_op op_mul' (de_ixA gd (dv 0) (de_str)) (de_int))) (da_nil))) (de_int)))
    (dss_cons (ds_asg (de_op op_add' (de_op op_mod' (de_callT call_int' (by rfl) T.b_int (by decide +kernel) (da_cons (de_op op_add' (de_op op_mul' (dv 4) (de_int)) (dv 3)) (da_nil))) (de_int)) (de_int)) (dg_subA gd (dv 0) (de_str)))
    (dss_one (ds_ret (de_op op_mod' (de_callT call_int' (by rfl) T.b_int (by decide +kernel) (da_cons (de_op op_add' (de_op op_fdiv' (dv 4) (de_int)) (dv 3)) (da_nil))) (dv 1)))))))))
theorem Tx.F__law_pick (T : Tx w K mg) : MFn P w K mg base 2 "_law_pick" 2 F__law_pick :=
  mfn_df T.d__law_pick (k := 1) (b := f__law_pick) sc__law_pick (fun _ _ _ _ _ _ us hl => match us, hl with | [_, _], _ => rfl) fun f cdv A outer s H E gd =>
    dss_one (ds_ret (de_ixA gd (dv 1) (de_mfn T.F__law_draw (gd.mono (by decide)) (by rfl) (da_cons (dv 0) (da_cons (de_callB call_len' (by rfl) T.b_len (by decide +kernel) (da_cons (dv 1) (da_nil))) (da_nil))))))
theorem Tx.F__law_value (T : Tx w K mg) : ∀ n, MFn P w K mg base (2 + n) "_law_value" 2 (L4.F__law_value n)
  | 0 => mfn_none (ps := ["_law_deal_here", "_law_deep"]) T.d__law_value (fun _ _ _ _ _ _ us hl => match us, hl with | [_, _], _ => rfl)
  | n + 1 => mfn_df T.d__law_value (k := 2 + n) (b := f__law_value (L4.F__law_value n)) sc__law_value (fun _ _ _ _ _ _ us hl => match us, hl with | [_, _], _ => rfl) fun f cdv A outer s H E gdR => have gd := gdR.mono (Nat.le_add_right 2 n); have ih := Tx.F__law_value T n;
    dss_cons (ds_set (i := 2) sc__law_value.nd rfl (Or.inl rfl) (de_mfn T.F__law_draw (gd.mono (by decide)) (by rfl) (da_cons (dv 0) (da_cons (de_if (dt_cmp op_gt' (dv 1) (de_int) (nomark _)) (de_int) (de_int)) (da_nil)))))
    (dss_cons (ds_if (dt_cmp (op_eq' gd) (dv 2) (de_int) (nomark _)) (dss_one (ds_ret (de_mfn T.F__law_pick (gd.mono (by decide)) (by rfl) (da_cons (dv 0) (da_cons (de_lst (da_cons (de_int) (da_cons (de_int) (da_cons (de_op op_sub' (de_int) (de_int)) (da_cons (de_op op_pow' (de_int) (de_int)) (da_nil)))))) (da_nil)))))) (dss_nil))
    (dss_cons (ds_if (dt_cmp (op_eq' gd) (dv 2) (de_int) (nomark _)) (dss_one (ds_ret (de_mfn T.F__law_pick (gd.mono (by decide)) (by rfl) (da_cons (dv 0) (da_cons (de_lst (da_cons (de_non) (da_cons (de_bl) (da_cons (de_bl) (da_nil))))) (da_nil)))))) (dss_nil))
    (dss_cons (ds_if (dt_cmp op_lt' (dv 2) (de_int) (nomark _)) (dss_one (ds_ret (de_mfn T.F__law_pick (gd.mono (by decide)) (by rfl) (da_cons (dv 0) (da_cons (de_lst (da_cons (de_str) (da_cons (de_str) (da_cons (de_str) (da_cons (de_str) (da_cons (de_str) (da_cons (de_str) (da_cons (de_str) (da_cons (de_str) (da_nil)))))))))) (da_nil)))))) (dss_nil))
    (dss_cons (ds_setLc (i := 3) rfl sc__law_value.nd rfl rfl (sw_true rfl rfl rfl (by decide +kernel)) (di_range1 (by rfl) T.b_range (da_cons (de_mfn T.F__law_draw (gd.mono (by decide)) (by rfl) (da_cons (dv 0) (da_cons (de_int) (da_nil)))) (da_nil))) (blkOk_by (own := [("_law_k", 4)]) (N := ["_law_deal_here", "_law_deep", "_law_form", "_law_some", "_law_k"]) (sc := defScope s__law_value) (by decide +kernel)) (fun _ _ _ _ _ => dgn_name (i := 4) sc__law_value.nd rfl (Or.inl rfl)) (fun _ _ _ _ _ => dts_nil) (fun _ _ _ _ _ => de_mfn ih gdR.blk (by rfl) (da_cons (dv 0) (da_cons (de_op op_sub' (dv 1) (de_int)) (da_nil)))))
    (dss_one (ds_ret (de_if (dt_cmp (op_eq' gd) (dv 2) (de_int) (nomark _)) (dv 3) (de_callT call_tup' (by rfl) T.b_tuple (by decide +kernel) (da_cons (dv 3) (da_nil))))))))))
theorem Tx.F__law_kept (T : Tx w K mg) : MFn P w K mg base 3 "_law_kept" 1 F__law_kept :=
  mfn_df T.d__law_kept (k := 2) (b := f__law_kept) sc__law_kept (fun _ _ _ _ _ _ us hl => match us, hl with | [_], _ => rfl) fun f cdv A outer s H E gd =>
    dss_cons (ds_set (i := 1) sc__law_kept.nd rfl (Or.inl rfl) (de_lst (da_cons (de_xfV (xfN_cons T.xc_InvalidRule T.xf_InvalidRule_word (xfN_nil)) (de_exn1 base_VE T.og_InvalidRule (gd.mono (by decide)) (by rfl) T.g_InvalidRule (da_cons (dv 0) (da_nil)))) (da_cons (de_xfV (xfN_cons T.xc_InvalidRoad T.xf_InvalidRoad_word (xfN_nil)) (de_exn1 base_VE T.og_InvalidRoad (gd.mono (by decide)) (by rfl) T.g_InvalidRoad (da_cons (dv 0) (da_nil)))) (da_cons (de_xfV (xfN_cons T.xc_InvalidText T.xf_InvalidText_at (xfN_nil)) (de_exn1 base_VE T.og_InvalidText (gd.mono (by decide)) (by rfl) T.g_InvalidText (da_cons (dv 0) (da_nil)))) (da_cons (de_xfV (xfN_cons T.xc_InvalidEvent T.xf_InvalidEvent_at (xfN_nil)) (de_exn1 base_VE T.og_InvalidEvent (gd.mono (by decide)) (by rfl) T.g_InvalidEvent (da_cons (dv 0) (da_nil)))) (da_nil)))))))
    (dss_one (ds_ret (de_op op_add' (dv 1) (de_lst (da_cons (de_xfV (xfN_cons T.xc_InvalidSeen T.xf_InvalidSeen_at (xfN_nil)) (de_exn1 base_VE T.og_InvalidSeen (gd.mono (by decide)) (by rfl) T.g_InvalidSeen (da_cons (dv 0) (da_nil)))) (da_cons (de_xfV (xfN_cons T.xc_Refused T.xf_Refused_at (xfN_nil)) (de_exn1 base_VE T.og_Refused (gd.mono (by decide)) (by rfl) T.g_Refused (da_cons (dv 0) (da_nil)))) (da_cons (de_xfV (xfN_cons T.xc_NoEvent T.xf_NoEvent_at (xfN_nil)) (de_exn1 base_IE T.og_NoEvent (gd.mono (by decide)) (by rfl) T.g_NoEvent (da_cons (dv 0) (da_nil)))) (da_nil))))))))
theorem Tx.F__law_sorts (T : Tx w K mg) : MFn P w K mg base 1 "_law_sorts" 1 F__law_sorts :=
  mfn_df T.d__law_sorts (k := 0) (b := f__law_sorts) sc__law_sorts (fun _ _ _ _ _ _ us hl => match us, hl with | [_], _ => rfl) fun f cdv A outer s H E gd =>
    dss_cons (ds_set (i := 1) sc__law_sorts.nd rfl (Or.inl rfl) (de_lst (da_cons (de_callB (call_isX T.isx) (by rfl) T.b_isinstance (by decide +kernel) (da_cons (dv 0) (da_cons (de_glo (by rfl) T.g_InvalidRule) (da_nil)))) (da_cons (de_callB (call_isX T.isx) (by rfl) T.b_isinstance (by decide +kernel) (da_cons (dv 0) (da_cons (de_glo (by rfl) T.g_InvalidRoad) (da_nil)))) (da_cons (de_callB (call_isX T.isx) (by rfl) T.b_isinstance (by decide +kernel) (da_cons (dv 0) (da_cons (de_glo (by rfl) T.g_InvalidText) (da_nil)))) (da_nil))))))
    (dss_cons (ds_set (i := 1) sc__law_sorts.nd rfl (Or.inl rfl) (de_op op_add' (dv 1) (de_lst (da_cons (de_callB (call_isX T.isx) (by rfl) T.b_isinstance (by decide +kernel) (da_cons (dv 0) (da_cons (de_glo (by rfl) T.g_InvalidEvent) (da_nil)))) (da_cons (de_callB (call_isX T.isx) (by rfl) T.b_isinstance (by decide +kernel) (da_cons (dv 0) (da_cons (de_glo (by rfl) T.g_InvalidGoal) (da_nil)))) (da_cons (de_callB (call_isX T.isx) (by rfl) T.b_isinstance (by decide +kernel) (da_cons (dv 0) (da_cons (de_glo (by rfl) T.g_Refused) (da_nil)))) (da_nil)))))))
    (dss_cons (ds_set (i := 1) sc__law_sorts.nd rfl (Or.inl rfl) (de_op op_add' (dv 1) (de_lst (da_cons (de_callB (call_isX T.isx) (by rfl) T.b_isinstance (by decide +kernel) (da_cons (dv 0) (da_cons (de_glo (by rfl) T.g_InvalidWhat) (da_nil)))) (da_cons (de_callB (call_isX T.isx) (by rfl) T.b_isinstance (by decide +kernel) (da_cons (dv 0) (da_cons (de_glo (by rfl) T.g_InvalidSeen) (da_nil)))) (da_cons (de_callB (call_isX T.isx) (by rfl) T.b_isinstance (by decide +kernel) (da_cons (dv 0) (da_cons (de_glo (by rfl) T.g_InvalidCommand) (da_nil)))) (da_nil)))))))
    (dss_one (ds_ret (de_callB call_len' (by rfl) T.b_len (by decide +kernel) (da_cons (de_lc rfl sc__law_sorts.nd (di_any (dv 1)) (blkOk_by (own := [("_law_is_so", 2)]) (N := ["_law_one", "_law_found", "_law_is_so"]) (sc := defScope s__law_sorts) (by decide +kernel)) (fun _ _ _ _ _ => dgn_name (i := 2) sc__law_sorts.nd rfl (Or.inl rfl)) (fun _ _ _ _ _ => dts_one (dt_val (dv 2))) (fun _ _ _ _ _ => de_int)) (da_nil)))))))
theorem Tx.law_fn (T : Tx w K mg) {f : Addr} {fd : FuncData} (F : Fun K "law" "law" s_law f fd) : FnG P w K mg base CX0 14 f fd ["_law_script"] (spP ⟨P, w, K⟩ 1 F_law) := by
  have h := law_df (k := 13) (b := f_law) (P := P) (w := w) (mg := mg) (base := base) F sc_law fun f cdv A outer s H E gd =>
    dss_cons (ds_set (i := 1) sc_law.nd rfl (Or.inl rfl) (de_mfn T.F__law_deal (gd.mono (by decide)) (by rfl) (da_cons (dv 0) (da_cons (de_int) (da_nil)))))
    (dss_cons (ds_for PassesOwn.never rfl (di_range1 (by rfl) T.b_range (da_cons (de_int) (da_nil))) (dg_of (dgn_name (i := 2) sc_law.nd rfl (Or.inl rfl))) (dss_cons (ds_set (i := 3) sc_law.nd rfl (Or.inr rfl) (de_newL (da_cons (de_mfn (T.F__law_value 10) (gd.mono (by decide)) (by rfl) (da_cons (dv 1) (da_cons (de_int) (da_nil)))) (da_nil))))
    (dss_cons (ds_par (by rfl) sc_law.nd (i := 4) (j := 5) rfl rfl (by decide) rfl rfl (da_cons (de_exn1 base_IE T.og_NoEvent (gd.mono (by decide)) (by rfl) T.g_NoEvent (da_cons (dv 3) (da_nil))) (da_cons (de_callB (call_reprG gd) (by rfl) T.b_repr (by decide +kernel) (da_cons (de_mfn T.F__law_kept (gd.mono (by decide)) (by rfl) (da_cons (dv 3) (da_nil))) (da_nil))) (da_nil))) (by rfl))
    (dss_cons (ds_expr (de_append (dv 3) (da_cons (de_mfn (T.F__law_value 10) (gd.mono (by decide)) (by rfl) (da_cons (dv 1) (da_cons (de_int) (da_nil)))) (da_nil))))
    (dss_cons (ds_if (dt_w (dw_or (dt_cmp (op_eq' gd) (dv 5) (de_callB (call_reprG gd) (by rfl) T.b_repr (by decide +kernel) (da_cons (de_mfn T.F__law_kept (gd.mono (by decide)) (by rfl) (da_cons (dv 3) (da_nil))) (da_nil))) (nomark _)) (dw_or1 (dt_cmp (op_ne' gd) (de_callB (call_reprG gd) (by rfl) T.b_repr (by decide +kernel) (da_cons (de_xfV (xfN_cons T.xc_NoEvent T.xf_NoEvent_at (xfN_nil)) (dv 4)) (da_nil))) (de_callB (call_reprG gd) (by rfl) T.b_repr (by decide +kernel) (da_cons (dv 3) (da_nil))) (nomark _))))) (dss_one (ds_ret (de_bl))) (dss_nil))
    (dss_one (ds_if (dt_cmp (op_ne' gd) (de_lcV rfl sc_law.nd (dl_any (de_mfn T.F__law_kept (gd.mono (by decide)) (by rfl) (da_cons (dv 3) (da_nil)))) (blkOk_by (own := [("_law_kept_here", 8)]) (N := ["_law_script", "_law_deal_here", "_law_turn", "_law_thing", "_law_early", "_law_before", "_law_made", "_law_one", "_law_kept_here"]) (sc := defScope s_law) (by decide +kernel)) (fun _ _ _ _ _ => dgn_name (i := 8) sc_law.nd rfl (Or.inl rfl)) (fun _ _ _ _ _ => dts_one (dt_cmp (op_ne' gd.blk) (de_callB (call_reprG gd.blk) (by rfl) T.b_repr (by decide +kernel) (da_cons (dv 8) (da_nil))) (de_callB (call_reprG gd.blk) (by rfl) T.b_repr (by decide +kernel) (da_cons (dv 3) (da_nil))) (nomark _))) (fun _ _ _ _ _ => de_int)) (de_lst (da_nil)) (nomark _)) (dss_one (ds_ret (de_bl))) (dss_nil))))))))
    (dss_cons (ds_set (i := 6) sc_law.nd rfl (Or.inl rfl) (de_lst (da_cons (de_exn0 T.x0_InvalidGoal (by rfl) T.g_InvalidGoal) (da_cons (de_exn0 T.x0_InvalidWhat (by rfl) T.g_InvalidWhat) (da_cons (de_exn0 T.x0_InvalidCommand (by rfl) T.g_InvalidCommand) (da_cons (de_exn1 base_VE T.og_InvalidRule (gd.mono (by decide)) (by rfl) T.g_InvalidRule (da_cons (de_str) (da_nil))) (da_cons (de_exn1 base_VE T.og_InvalidText (gd.mono (by decide)) (by rfl) T.g_InvalidText (da_cons (de_int) (da_nil))) (da_cons (de_exn1 base_VE T.og_Refused (gd.mono (by decide)) (by rfl) T.g_Refused (da_cons (de_int) (da_nil))) (da_nil)))))))))
    (dss_cons (ds_forA big PassesOwn.never rfl (de_op op_add' (dv 6) (de_lst (da_cons (de_exn1 base_VE T.og_InvalidRoad (gd.mono (by decide)) (by rfl) T.g_InvalidRoad (da_cons (de_str) (da_nil))) (da_cons (de_exn1 base_VE T.og_InvalidEvent (gd.mono (by decide)) (by rfl) T.g_InvalidEvent (da_cons (de_int) (da_nil))) (da_cons (de_exn1 base_VE T.og_InvalidSeen (gd.mono (by decide)) (by rfl) T.g_InvalidSeen (da_cons (de_int) (da_nil))) (da_nil)))))) (dg_of (dgn_name (i := 7) sc_law.nd rfl (Or.inl rfl))) (dss_cons (ds_if (dt_w (dw_or (dt_not (dt_val (de_callB (call_isX T.isx) (by rfl) T.b_isinstance (by decide +kernel) (da_cons (dv 7) (da_cons (de_glo (by rfl) T.g_SitError) (da_nil)))))) (dw_or1 (dt_not (dt_val (de_callB (call_isX T.isx) (by rfl) T.b_isinstance (by decide +kernel) (da_cons (dv 7) (da_cons (de_ty (t := "ValueError") (by rfl) T.b_ValueError (by decide +kernel)) (da_nil))))))))) (dss_one (ds_ret (de_bl))) (dss_nil))
    (dss_one (ds_if (dt_w (dw_or (dt_val (de_callB (call_isX T.isx) (by rfl) T.b_isinstance (by decide +kernel) (da_cons (dv 7) (da_cons (de_tup (da_cons (de_ty (t := "KeyError") (by rfl) T.b_KeyError (by decide +kernel)) (da_cons (de_ty (t := "IndexError") (by rfl) T.b_IndexError (by decide +kernel)) (da_nil)))) (da_nil))))) (dw_or1 (dt_cmp (op_ne' gd) (de_mfn T.F__law_sorts (gd.mono (by decide)) (by rfl) (da_cons (dv 7) (da_nil))) (de_int) (nomark _))))) (dss_one (ds_ret (de_bl))) (dss_nil)))))
    (dss_cons (ds_set (i := 7) sc_law.nd rfl (Or.inl rfl) (de_exn1 base_IE T.og_NoEvent (gd.mono (by decide)) (by rfl) T.g_NoEvent (da_cons (de_int) (da_nil))))
    (dss_one (ds_ret (de_and (de_callB (call_isX T.isx) (by rfl) T.b_isinstance (by decide +kernel) (da_cons (dv 7) (da_cons (de_ty (t := "IndexError") (by rfl) T.b_IndexError (by decide +kernel)) (da_nil)))) (de_and (de_not (de_callB (call_isX T.isx) (by rfl) T.b_isinstance (by decide +kernel) (da_cons (dv 7) (da_cons (de_ty (t := "ValueError") (by rfl) T.b_ValueError (by decide +kernel)) (da_nil))))) (de_one (de_not (de_callB (call_isX T.isx) (by rfl) T.b_isinstance (by decide +kernel) (da_cons (dv 7) (da_cons (de_ty (t := "KeyError") (by rfl) T.b_KeyError (by decide +kernel)) (da_nil))))))))))))))
  exact h
end
end L4
namespace L4
open PySem PySem.Spec PyProof.Rows L2
open L3 (Fx fx_at SaysW hookW obsWG obsWG_eq Tabs gdef mdef cdef cmB df_of md_of ki_of cmd_of)
theorem tx_of {w : World} {K : PySem.W.Frag} {h : Heap} {mg : Str → Option Value} (X : K.In h) (G : h.Ns mainGlobals mg) (c : SaysW exs fns htabs w K) : Tx w K mg := by
  have s := c.b
  have hx : (fxs.all fun f => f.ok K) = true := s.fx
  exact ⟨He.free_ok X G (fx_at hx 0 (f := .fa (.free "IndexError"))),
    He.free_ok X G (fx_at hx 1 (f := .fa (.free "KeyError"))),
    He.free_ok X G (fx_at hx 2 (f := .fa (.free "ValueError"))),
    He.free_ok X G (fx_at hx 3 (f := .fa (.free "abs"))),
    He.free_ok X G (fx_at hx 4 (f := .fa (.free "int"))),
    He.free_ok X G (fx_at hx 5 (f := .fa (.free "isinstance"))),
    He.free_ok X G (fx_at hx 6 (f := .fa (.free "len"))),
    He.free_ok X G (fx_at hx 7 (f := .fa (.free "range"))),
    He.free_ok X G (fx_at hx 8 (f := .fa (.free "repr"))),
    He.free_ok X G (fx_at hx 9 (f := .fa (.free "tuple"))),
    He.glo_ok X G (fx_at hx 10 (f := .fa (.glo "InvalidCommand"))),
    He.glo_ok X G (fx_at hx 11 (f := .fa (.glo "InvalidEvent"))),
    He.glo_ok X G (fx_at hx 12 (f := .fa (.glo "InvalidGoal"))),
    He.glo_ok X G (fx_at hx 13 (f := .fa (.glo "InvalidRoad"))),
    He.glo_ok X G (fx_at hx 14 (f := .fa (.glo "InvalidRule"))),
    He.glo_ok X G (fx_at hx 15 (f := .fa (.glo "InvalidSeen"))),
    He.glo_ok X G (fx_at hx 16 (f := .fa (.glo "InvalidText"))),
    He.glo_ok X G (fx_at hx 17 (f := .fa (.glo "InvalidWhat"))),
    He.glo_ok X G (fx_at hx 18 (f := .fa (.glo "NoEvent"))),
    He.glo_ok X G (fx_at hx 19 (f := .fa (.glo "Refused"))),
    He.glo_ok X G (fx_at hx 20 (f := .fa (.glo "SitError"))),
    fx_at hx 21 (f := .bo (fun K => isxB K tb_isxG tb_isxT)),
    fx_at hx 22 (f := .bo (fun K => ogB K "InvalidEvent" "at" "at" "/claim/cut.py" "ValueError" "ValueError.__new__" "ValueError.__init__" [.type "ValueError", .type "Exception", .type "BaseException", .type "object"])),
    xcB_ok (fx_at hx 23 (f := .bo (fun K => xcB K (He.ga K "InvalidEvent")))),
    fx_at hx 24 (f := .bo (fun K => ogB K "InvalidRoad" "word" "word" "/claim/cut.py" "ValueError" "ValueError.__new__" "ValueError.__init__" [.type "ValueError", .type "Exception", .type "BaseException", .type "object"])),
    xcB_ok (fx_at hx 25 (f := .bo (fun K => xcB K (He.ga K "InvalidRoad")))),
    fx_at hx 26 (f := .bo (fun K => ogB K "InvalidRule" "word" "word" "/claim/cut.py" "ValueError" "ValueError.__new__" "ValueError.__init__" [.type "ValueError", .type "Exception", .type "BaseException", .type "object"])),
    xcB_ok (fx_at hx 27 (f := .bo (fun K => xcB K (He.ga K "InvalidRule")))),
    fx_at hx 28 (f := .bo (fun K => ogB K "InvalidSeen" "at" "at" "/claim/cut.py" "ValueError" "ValueError.__new__" "ValueError.__init__" [.type "ValueError", .type "Exception", .type "BaseException", .type "object"])),
    xcB_ok (fx_at hx 29 (f := .bo (fun K => xcB K (He.ga K "InvalidSeen")))),
    fx_at hx 30 (f := .bo (fun K => ogB K "InvalidText" "at" "at" "/claim/cut.py" "ValueError" "ValueError.__new__" "ValueError.__init__" [.type "ValueError", .type "Exception", .type "BaseException", .type "object"])),
    xcB_ok (fx_at hx 31 (f := .bo (fun K => xcB K (He.ga K "InvalidText")))),
    fx_at hx 32 (f := .bo (fun K => ogB K "NoEvent" "at" "at" "/claim/cut.py" "IndexError" "IndexError.__new__" "IndexError.__init__" [.type "IndexError", .type "LookupError", .type "Exception", .type "BaseException", .type "object"])),
    xcB_ok (fx_at hx 33 (f := .bo (fun K => xcB K (He.ga K "NoEvent")))),
    fx_at hx 34 (f := .bo (fun K => ogB K "Refused" "at" "at" "/claim/cut.py" "ValueError" "ValueError.__new__" "ValueError.__init__" [.type "ValueError", .type "Exception", .type "BaseException", .type "object"])),
    xcB_ok (fx_at hx 35 (f := .bo (fun K => xcB K (He.ga K "Refused")))),
    xcB_ok (fx_at hx 36 (f := .bo (fun K => xcB K (He.ga K "InvalidCommand")))),
    xc0B_ok (fx_at hx 36 (f := .bo (fun K => xcB K (He.ga K "InvalidCommand")))) (fx_at hx 37 (f := .bo (fun K => xc0B K "InvalidCommand"))),
    xcB_ok (fx_at hx 38 (f := .bo (fun K => xcB K (He.ga K "InvalidGoal")))),
    xc0B_ok (fx_at hx 38 (f := .bo (fun K => xcB K (He.ga K "InvalidGoal")))) (fx_at hx 39 (f := .bo (fun K => xc0B K "InvalidGoal"))),
    xcB_ok (fx_at hx 40 (f := .bo (fun K => xcB K (He.ga K "InvalidWhat")))),
    xc0B_ok (fx_at hx 40 (f := .bo (fun K => xcB K (He.ga K "InvalidWhat")))) (fx_at hx 41 (f := .bo (fun K => xc0B K "InvalidWhat"))),
    xfB_ok (fx_at hx 42 (f := .bo (fun K => xfB K "InvalidEvent" "at"))),
    xfB_ok (fx_at hx 43 (f := .bo (fun K => xfB K "InvalidRoad" "word"))),
    xfB_ok (fx_at hx 44 (f := .bo (fun K => xfB K "InvalidRule" "word"))),
    xfB_ok (fx_at hx 45 (f := .bo (fun K => xfB K "InvalidSeen" "at"))),
    xfB_ok (fx_at hx 46 (f := .bo (fun K => xfB K "InvalidText" "at"))),
    xfB_ok (fx_at hx 47 (f := .bo (fun K => xfB K "NoEvent" "at"))),
    xfB_ok (fx_at hx 48 (f := .bo (fun K => xfB K "Refused" "at"))),
    df_of X G (fx_at hx 49 (f := .fa (.glo "_law_deal"))) s 0,
    df_of X G (fx_at hx 50 (f := .fa (.glo "_law_draw"))) s 1,
    df_of X G (fx_at hx 51 (f := .fa (.glo "_law_pick"))) s 2,
    df_of X G (fx_at hx 52 (f := .fa (.glo "_law_value"))) s 3,
    df_of X G (fx_at hx 53 (f := .fa (.glo "_law_kept"))) s 4,
    df_of X G (fx_at hx 54 (f := .fa (.glo "_law_sorts"))) s 5,
    df_of X G (fx_at hx 55 (f := .fa (.glo "law"))) s 6⟩
theorem facts {w : World} {K : PySem.W.Frag} {h : Heap} {mg : Str → Option Value} {f : Addr} (X : K.In h) (G : h.Ns mainGlobals mg) (hfa : mg ("law" : Str) = some (.ref f)) (c : SaysW exs fns htabs w K) :
    ∃ fd : FuncData, (∀ (s : Shared) (v : Value), BindsTo s fd ⟨[v], []⟩ [("_law_script", v)]) ∧ ∀ base : Heap, K.In base → base.Ns mainGlobals mg → FnG P w K mg base CX0 14 f fd ["_law_script"] (spP ⟨P, w, K⟩ 1 F_law) := by
  have T := tx_of X G c
  obtain ⟨f1, fd, F, g⟩ := T.d_law.ex
  have e := hfa.symm.trans g
  cases e
  refine ⟨fd, fun s v => ?_, fun base _ _ => T.law_fn F⟩
  obtain ⟨oc, od, kV, doc, pm, an, cdv, ct, osl, rfl, lk, hcd⟩ := F.ex
  exact .of_eq rfl
end L4
open PySem PySem.W PySem.Calls PyProof.Rows in
set_option maxRecDepth 100000 in
set_option maxHeartbeats 0 in
theorem PySem.Challenge.cw_sitout_k01_errors_and_what_they_keep_holds : PySem.Challenge.rw_sitout_k01_errors_and_what_they_keep.Holds := by
  refine L4.law_pre fun hs => L4.head_pre hs ?_
  refine L4.walkL (l := PySem.Challenge.rw_sitout_k01_errors_and_what_they_keep) (n := 63) (k := 14) (x := "_law_script") (FL := L4.F_law) rfl (by decide) (by kernel_rfl) ⟨rfl, by decide, by decide⟩ L4.law_plain ?F
  intro w mg fa h Y G hmg0
  obtain ⟨K, KX, c⟩ := Y
  have hmg : mg ("law" : PySem.Str) = some (.ref fa) := by
    have e : (HandSHeadRun.topDef (OpenLaw.row PySem.Challenge.rw_sitout_k01_errors_and_what_they_keep).prog 19).name = ("law" : PySem.Str) := by kernel_rfl
    rw [← e]
    exact hmg0
  obtain ⟨fd, hb, hF⟩ := L4.facts (w := w) KX G hmg c
  exact ⟨K, fd, KX, hb, hF⟩
#print axioms PySem.Challenge.cw_sitout_k01_errors_and_what_they_keep_holds
