import PyProof.Rows.All
import Wide.All
import OpenK.AllK
import Wide.FinOn
import HandS.ForMost
import HandS.Evl
import HandS.Codes
import HandS.Defaults
import HandS.IsInst
import HandS.FStr
import KE.KStateDown
import Lean
import HandS.HeadEnd
import HandS.HeadNt
import HandS.HeadHook3
import HandS.Head0
import HandS.Head1
import HandS.Head2
import HandS.Style
import HandS.OwnEq
import KE.KCallOwn
import HandS.Star
import HandS.ClsMeth
import HandS.CallLocal
import KE.GoesNew
import KE.GoesEnum
import HandS.Walk
import HandS.Sort
import HandS.Conv
import HandS.RaiseMore
import HandS.WordsDict
import PyProof.ReprRoads
import KE.KDictKeyed
import KE.KDictPairs
import KE.KDictWalk
import KE.KDictDisplayH
import KE.KDictCopyH
import KE.KDictList
import HandS.Deep
import HandS.TupAny
import HandS.TupMul
import HandS.Zip
import KE.KUnpackStar
import KE.SortData
import KE.KDictSum
import PyProof.TupleOfSeq
import HandS.Replace
import KE.GoesComp
import KE.GoesMore
import HandS.ReplaceLit
import HandS.More
import KE.DataFind
import KE.DataCmp
import PySem.Challenge.RW_sitout_k35_goals_that_are_met
set_option Elab.async false
set_option linter.all false
set_option maxRecDepth 100000
set_option maxHeartbeats 4000000
namespace L3
open PySem L2 Evl
def Flat : HO → Prop
  | .lst _ => True
  | .dK _ => True
  | _ => False
def anyO (P : Program) (w : World) (S : HO → Prop) (a : Addr) : HO := .ext fun h => ∃ u, S u ∧ ObjOk P w (fun _ => none) h a u
section
variable {P : Program} {w : World} {H H' : Hp} {h h' : Heap} {a : Addr} {u : HO}
theorem flat_any (f : Flat u) (o : ObjOk P w H h a u) : ObjOk P w H' h a u := by
  cases u with
  | lst xs => exact o
  | dK kvs => exact o
  | _ => exact f.elim
theorem any_of {S : HO → Prop} (f : Flat u) (s : S u) (hf : ∀ u, S u → Flat u) (o : ObjOk P w H h a u) : ObjOk P w H' h a (anyO P w S a) := by
  refine ⟨⟨u, s, flat_any f o⟩, ?_, ?_⟩
  · cases u with
    | lst xs => obtain ⟨_, its, n, _, e⟩ := o; exact ⟨_, e⟩
    | dK kvs => obtain ⟨_, _, _, _, ob, _, _, e, _⟩ := o; exact ⟨_, e⟩
    | _ => exact f.elim
  · rintro h1 h2 ⟨u', s', o'⟩ k
    refine ⟨u', s', o'.stay (fun b v hb e => ?_) (fun b e => nomatch e) fun b xs e => nomatch e⟩
    rcases hb with rfl | hb
    · exact k v e
    · cases hb
end
/-- the same heap told by less: some lists and dicts by an invariant alone -/
def Abs (P : Program) (w : World) (H H' : Hp) : Prop := ∀ a, H' a = H a ∨ ∃ u S, H a = some u ∧ (∀ u, S u → Flat u) ∧ S u ∧ H' a = some (anyO P w S a)
section
variable {P : Program} {w : World} {H H' H0 : Hp} {h h0 : Heap}
theorem Abs.hok (b : Abs P w H H') (o : HOk P w H h) : HOk P w H' h := fun a u e => by
  have ho : ∀ c y, H c = some (.own y) → H' c = some (.own y) := fun c y q => by
    rcases b c with z | ⟨u, S, e1, f, s, e2⟩
    · rw [z]; exact q
    · rw [q] at e1; cases e1; exact (f _ s).elim
  have ht : ∀ c xs, H c = some (.tup xs) → H' c = some (.tup xs) := fun c y q => by
    rcases b c with z | ⟨u, S, e1, f, s, e2⟩
    · rw [z]; exact q
    · rw [q] at e1; cases e1; exact (f _ s).elim
  rcases b a with z | ⟨u', S, e1, f, s, e2⟩
  · rw [z] at e
    exact (o a u e).stay (fun _ _ _ q => q) (fun c q => ho c a q) ht
  · rw [e2] at e
    cases e
    exact any_of (f _ s) s f (o a u' e1)
theorem Abs.un {fs ex : List Addr} (b : Abs P w H H') (u : Un fs ex H0 H h0 h) : Un fs ex H0 H' h0 h where
  keep := u.keep
  slot := u.slot
  free := fun c o q n hx => by
    have z := u.free c o q n hx
    rcases b c with r | ⟨_, _, e1, _⟩
    · rw [r]; exact z
    · rw [z] at e1; cases e1
  there := u.there
  tups := fun c xs q => by
    have z := u.tups c xs q
    rcases b c with r | ⟨_, _, e1, f, s, _⟩
    · rw [r]; exact z
    · rw [z] at e1; cases e1; exact (f _ s).elim
  frzs := fun c o v q => by
    have z := u.frzs c o v q
    rcases b c with r | ⟨_, _, e1, f, s, _⟩
    · rw [r]; exact z
    · rw [z] at e1; cases e1; exact (f _ s).elim
  tbls := fun c ps q => by
    obtain ⟨m, z⟩ := u.tbls c ps q
    rcases b c with r | ⟨_, _, e1, f, s, _⟩
    · exact ⟨m, by rw [r]; exact z⟩
    · rw [z] at e1; cases e1; exact (f _ s).elim
/-- an object told by its invariant is opened -/
theorem open_hok {a : Addr} {S : HO → Prop} (ha : H a = some (anyO P w S a)) (hf : ∀ u, S u → Flat u) (o : HOk P w H h) : ∃ u, S u ∧ HOk P w (upd H a u) h := by
  obtain ⟨⟨u, s, q⟩, _, _⟩ := o a _ ha
  have ne : ∀ b v, H b = some v → (∀ φ, v ≠ .ext φ) → b ≠ a := fun b v e n z => by
    rw [z, ha] at e; cases e; exact n _ rfl
  refine ⟨u, s, fun b v e => ?_⟩
  by_cases hb : b = a
  · subst hb
    rw [upd_same] at e
    cases e
    exact flat_any (hf _ s) q
  · rw [upd_ne hb] at e
    exact (o b v e).stay (fun _ _ _ q => q) (fun c q => by rw [upd_ne (ne c _ q (fun _ z => nomatch z))]; exact q) fun c xs q => by rw [upd_ne (ne c _ q (fun _ z => nomatch z))]; exact q
theorem open_un {fs ex : List Addr} {a : Addr} {S : HO → Prop} {u0 : HO} (ha : H0 a = some (anyO P w S a)) (x : Un fs ex (upd H0 a u0) H h0 h) : Un fs ex H0 H h0 h := by
  have ne : ∀ b v, H0 b = some v → (∀ φ, v ≠ .ext φ) → b ≠ a := fun b v e n z => by
    rw [z, ha] at e; cases e; exact n _ rfl
  have nn : ∀ b, H0 b = none → b ≠ a := fun b e z => by rw [z, ha] at e; cases e
  exact ⟨fun b o q n => x.keep b o q (by rw [upd_ne (nn b n)]; exact n), fun b o q n => x.slot b o q (by rw [upd_ne (nn b n)]; exact n), fun b o q n => x.free b o q (by rw [upd_ne (nn b n)]; exact n), x.there,
    fun b xs q => x.tups b xs (by rw [upd_ne (ne b _ q (fun _ z => nomatch z))]; exact q), fun b o v q => x.frzs b o v (by rw [upd_ne (ne b _ q (fun _ z => nomatch z))]; exact q), fun b ps q => x.tbls b ps (by rw [upd_ne (ne b _ q (fun _ z => nomatch z))]; exact q)⟩
end
section
variable {P : Program} {w : World} {K : PySem.W.Frag} {mg : Str → Option Value} {base : Heap} {k : Nat} {f : Addr} {fd : FuncData} {ps : List Str} {sp : Sp}
/-- an object told by an invariant is opened ahead of the call -/
def opened (P : Program) (w : World) (n : Nat) (sp : Sp) : Sp := fun vs H Q E => vs.length = n ∧ ∃ a S, H a = some (anyO P w S a) ∧ (∀ u, S u → Flat u) ∧ ∀ u, S u → sp vs (upd H a u) Q E
theorem pre (F : FnOk P w K mg base CX0 k f fd ps sp) : FnOk P w K mg base CX0 k f fd ps (opened P w ps.length sp) := by
  refine ⟨fun vs H Q E h => h.1, fun A outer s H args us vs Q E hr he hb hv hs => ?_⟩
  obtain ⟨_, a, S, ha, hf, hq⟩ := hs
  obtain ⟨u, su, ok⟩ := open_hok ha hf he.hok
  have nn : ∀ b, H b = none → b ≠ a := fun b e z => by rw [z, ha] at e; cases e
  have he' : Env0 P w K mg base A outer s (upd H a u) := ⟨he.frames, he.mod, fun b o q => ⟨(he.bs b o q).1, by rw [upd_ne (nn b (he.bs b o q).2)]; exact (he.bs b o q).2⟩, he.bsz, he.funs, fun b q => by rw [upd_ne (nn b (he.frf b q))]; exact he.frf b q, ok, he.bare⟩
  refine codeAny_mono (F.run A outer s (upd H a u) args us vs Q E hr he' hb hv (hq u su)) fun r s' z => ?_
  cases r with
  | error e => exact z.elim
  | ok fl =>
    cases fl with
    | ret u' =>
      obtain ⟨v, H', e1, e2, un, ok', rv, q⟩ := z
      exact ⟨v, H', e1, e2, open_un ha un, ok', rv, q⟩
    | _ => exact z
end
end L3
namespace L3
open PySem L2 Evl
end L3
namespace L3
open PySem L2 Evl
structure Df (K : PySem.W.Frag) (mg : Str → Option Value) (x : Str) (st : Stmt) : Prop where
  ex : ∃ f fd, Fun K x x st f fd ∧ mg x = some (.ref f)
structure Fn (P : Program) (w : World) (K : PySem.W.Frag) (mg : Str → Option Value) (base : Heap) (k : Nat) (x : Str) (ps : List Str) (sp : Sp) : Prop where
  ex : ∃ f fd, FnOk P w K mg base CX0 k f fd ps sp ∧ mg x = some (.ref f) ∧ PySem.W.keepIn K (.ref f) = true ∧ Binds K fd ps []
/-- a method -/
structure Md (K : PySem.W.Frag) (C : Addr) (m q : Str) (st : Stmt) : Prop where
  ex : ∃ f fd, Fun K m q st f fd ∧ Meth K C m f
/-- a class with its __init__ -/
structure Ki (K : PySem.W.Frag) (mg : Str → Option Value) (x : Str) (C : Addr) (q : Str) (st : Stmt) : Prop where
  cl : Cls K C
  mgC : mg x = some (.ref C)
  ex : ∃ f fd, Fun K "__init__" q st f fd ∧ Mk K C f
section
variable {P : Program} {w : World} {K : PySem.W.Frag} {mg : Str → Option Value} {base : Heap} {k : Nat} {x q m : Str} {C : Addr} {ps N : List Str} {sp sp' : Sp} {st : Stmt}
theorem Fn.imp (F : Fn P w K mg base k x ps sp) (h : ∀ vs H Q E, sp' vs H Q E → sp vs H Q E) : Fn P w K mg base k x ps sp' := by
  obtain ⟨f, fd, F, r⟩ := F.ex
  exact ⟨f, fd, F.imp h, r⟩
theorem Fn.pre (F : Fn P w K mg base k x ps sp) : Fn P w K mg base k x ps (opened P w ps.length sp) := by
  obtain ⟨f, fd, F, r⟩ := F.ex
  exact ⟨f, fd, L3.pre F, r⟩
end
def rAbs : List V → Hp → VK → Prop := fun xs H Q => ∃ i, xs = [.int i] ∧ Q (.int (if i < 0 then -i else i)) H
theorem call_abs' {X : Cx} : CallR X (.builtin "abs") rAbs := call_abs
end L3
namespace L3
end L3
namespace L3
open PySem PySem.W PyProof.Rows
def obsB (ex : Frag → Bool) (fn : List He5.DefA) (K : Frag) : He.AlD := (ex K && fn.all fun d => d.ok K, fn.map fun d => He5.fnA K (d.at_ K))
def SaysB (ex : Frag → Bool) (fn : List He5.DefA) (K : Frag) : Prop := obsB ex fn K = He5.valA fn
def obsBG (n : Nat) (ex : Frag → Bool) (fn : List He5.DefA) (g : Addr → Option Obj) : He.AlD := obsB ex fn (He.frG g (He5.asA g n))
section
variable {ex : Frag → Bool} {fn : List He5.DefA} {K : Frag}
theorem SaysB.fx (c : SaysB ex fn K) : ex K = true :=
  (He.ba (show (ex K && fn.all fun d => d.ok K) = true from congrArg (fun z : He.AlD => z.1) c)).1
theorem SaysB.def_ (c : SaysB ex fn K) (i : Nat) {d : He5.DefA} (h : fn[i]? = some d := by rfl) : ∃ fd, L2.FunD K d.name d.qual d.params d.body d.scope (d.dvs K) (d.kws K) (d.at_ K) fd := by
  have c2 := (He.ba (show (ex K && fn.all fun d => d.ok K) = true from congrArg (fun z : He.AlD => z.1) c)).2
  have e : fn.map (fun d => He5.fnA K (d.at_ K)) = fn.map He5.DefA.val := congrArg (fun z : He.AlD => z.2) c
  have e2 : (fn.map fun d => He5.fnA K (d.at_ K))[i]? = (fn.map He5.DefA.val)[i]? := by rw [e]
  rw [List.getElem?_map, List.getElem?_map, h] at e2
  exact He5.DefA.funD (Option.some.inj e2) (List.all_eq_true.mp c2 d (List.mem_of_getElem? h))
end
/-- one fact more, a tuple of the top among them -/
inductive Fx where
  | fa (f : He.Fa)
  | tup (x : PySem.Str) (vs : List He.Dv)
  | wrap (x m : PySem.Str)
  | dic (x : PySem.Str)
  | insc (x : PySem.Str)
  | bo (f : Frag → Bool)
def Fx.ok0 (K : Frag) : Fx → Bool
  | .fa f => f.ok K
  | _ => false
def Fx.ok (K : Frag) : Fx → Bool
  | .fa f => f.ok K
  | .tup x vs => He.tupB K x vs
  | .wrap x m => He5.wrapB K (He.ga K x) "classmethod" "classmethod.__get__" m
  | .dic x => (He.dicW K (He.ga K x)).isSome
  | .bo f => f K
  | .insc x => (Fx.fa (.cls x)).ok0 K && (He.eqO (findIn K (.ref (He.ga K x)) "__class__") (some (some (.builtin "object.__class__"))) && (He.eqO (specialIn K (.builtin "object.__class__") "__get__") (some (some (.builtin "getset_descriptor.__get__"))) &&
    (decide (takesIn K (.builtin "object.__class__") = some true) && (decide (mroIn K (He.ga K x) (.type "object") = some true) && decide (kitOne K (.ref (He.ga K x)) (.ref (He.ga K x)) = some true)))))
theorem fx_at {fx : List Fx} {K : Frag} (h : (fx.all fun f => f.ok K) = true) (i : Nat) {f : Fx} (e : fx[i]? = some f := by rfl) : f.ok K = true := List.all_eq_true.mp h f (List.mem_of_getElem? e)
def gdef (x : PySem.Str) (st : Stmt) : He5.DefA := ⟨fun K => He.ga K x, x, x, L2.defArgs st, L2.defBody st, L2.defScope st, [], []⟩
def mdef (c m q : PySem.Str) (st : Stmt) : He5.DefA := ⟨fun K => He.ma K (He.ga K c) m, m, q, L2.defArgs st, L2.defBody st, L2.defScope st, [], []⟩
section
variable {K : Frag} {h : Heap} {mg : PySem.Str → Option Value} {ex : Frag → Bool} {fn : List He5.DefA} {x c m q : PySem.Str} {st : Stmt}
theorem df_of (X : K.In h) (G : h.Ns mainGlobals mg) (f : (Fx.fa (.glo x)).ok K = true) (s : SaysB ex fn K) (i : Nat) (e : fn[i]? = some (gdef x st) := by rfl) : Df K mg x st := by
  obtain ⟨fd, F⟩ := s.def_ i e
  exact ⟨He.ga K x, fd, He5.fun_of F, He.glo_ok X G f⟩
theorem md_of (f : (Fx.fa (.meth c m)).ok K = true) (s : SaysB ex fn K) (i : Nat) (e : fn[i]? = some (mdef c m q st) := by rfl) : Md K (He.ga K c) m q st := by
  obtain ⟨fd, F⟩ := s.def_ i e
  exact ⟨He.ma K (He.ga K c) m, fd, He5.fun_of F, He.meth_ok f⟩
theorem ki_of (X : K.In h) (G : h.Ns mainGlobals mg) (f : (Fx.fa (.glo x)).ok K = true) (f1 : (Fx.fa (.cls x)).ok K = true) (f2 : (Fx.fa (.mkr x)).ok K = true) (s : SaysB ex fn K) (i : Nat) (e : fn[i]? = some (mdef x "__init__" q st) := by rfl) : Ki K mg x (He.ga K x) q st := by
  obtain ⟨fd, F⟩ := s.def_ i e
  exact ⟨He.cls_ok f1, He.glo_ok X G f, He.ma K (He.ga K x) "__init__", fd, He5.fun_of F, He.mkr_ok f2⟩
end
abbrev Tabs := List (PySem.Str × List PySem.Str)
def tabsOf (ts : Tabs) (K : Frag) : List (Option (List (Option (PySem.Str × Int)))) := ts.map fun t => He.dicW K (He.ga K t.1)
def tabsIn (ts : Tabs) (P : Params) : List (Option (List (Option (PySem.Str × Int)))) := ts.map fun t => some (He.keysIn P t.2)
def obsWG (n : Nat) (ex : Frag → Bool) (fn : List He5.DefA) (ts : Tabs) (g : Addr → Option Obj) : He.AlD × List (Option (List (Option (PySem.Str × Int)))) := (obsBG n ex fn g, tabsOf ts (He.frG g (He5.asA g n)))
structure SaysW (ex : Frag → Bool) (fn : List He5.DefA) (ts : Tabs) (w : World) (K : Frag) : Prop where
  b : SaysB ex fn K
  t : tabsOf ts K = tabsIn ts w.params
def hookW (n : Nat) (ex : Frag → Bool) (fn : List He5.DefA) (ts : Tabs) : PySem.W.Hook where
  α := He.AlD × List (Option (List (Option (PySem.Str × Int))))
  obs := fun s => obsWG n ex fn ts s.heap.get?
  val := fun w => (He5.valA fn, tabsIn ts w.params)
  says := fun w h => ∃ K : Frag, K.In h ∧ SaysW ex fn ts w K
  of := fun w s e => ⟨He.frG s.heap.get? (He5.asA s.heap.get? n), He.frG_in, ⟨congrArg Prod.fst e, congrArg Prod.snd e⟩⟩
  keeps := fun _ _ _ ⟨K, hK, c⟩ k => ⟨K, Frag.In.keeps hK k, c⟩
theorem obsWG_eq {n : Nat} {ex : Frag → Bool} {fn : List He5.DefA} {ts : Tabs} {g : Addr → Option Obj} {s : Shared} (h : ∀ a, g a = s.heap.get? a) : obsWG n ex fn ts g = (hookW n ex fn ts).obs s := by
  have e : g = s.heap.get? := funext h
  rw [e] <;> rfl
theorem SaysW.tab {ex : Frag → Bool} {fn : List He5.DefA} {ts : Tabs} {w : World} {K : Frag} (c : SaysW ex fn ts w K) (i : Nat) {t : PySem.Str × List PySem.Str} (h : ts[i]? = some t := by rfl) : ∃ es n, L2.KDict K w (He.ga K t.1) es n := by
  have e : (tabsOf ts K)[i]? = (tabsIn ts w.params)[i]? := by rw [c.t]
  unfold tabsOf tabsIn at e
  rw [List.getElem?_map, List.getElem?_map, h] at e
  exact He.dicW_ok (Option.some.inj e)
end L3
namespace L3
open PySem L2 Evl
end L3
namespace L3
open PySem L2 Evl
end L3
namespace L3
open PySem L2 Evl
end L3
namespace L3
open PySem L2 Evl TL
end L3
namespace L3
open PySem L2 Evl TL
end L3
namespace L3
open PySem L2 Evl TL
end L3
namespace L3
open PySem L2 Evl TL
end L3
namespace L3
open PySem L2 Evl TL
end L3
namespace L3
open PySem L2 Evl TL
theorem evalArgs_star {M : Model} {A : Around} {E : Value → Shared → Prop} {s : Shared} {f : Value} {x : Sem Value} {y : Bool × Sem Value} {rest : List (Bool × Sem Value)} {Q : Args → Shared → Prop}
    (h : wpAny M A (spliced ((true, x) :: y :: rest)) (fun vs s' => Q ⟨vs, []⟩ s') E s) : wpAny M A (evalArgs f true ((true, x) :: y :: rest) []) Q E s := by
  unfold evalArgs
  show wpAny M A (spliced ((true, x) :: y :: rest) >>= _) Q E s
  refine wpAny_bind (wpAny_mono h (fun vs s' h' => ?_) fun _ _ x => x)
  refine wpAny_holding ?_
  exact wpAny_bind (wpAny_pure (wpAny_bind (wpAny_pure (wpAny_pure h'))))
structure Cmd (K : PySem.W.Frag) (C : Addr) (m q : Str) (st : Stmt) : Prop where
  ex : ∃ p g fd, Fun K m q st g fd ∧ ClX.CRead K C (.type "type") ∧ ClX.CMet K C (.type "type") m p g
def cmB (x m : Str) (K : PySem.W.Frag) : Bool := He5.wrapB K (He.ga K x) "classmethod" "classmethod.__get__" m && (PySem.W.fnIn K (He5.wf K (He.ga K x) "classmethod" m) && (PySem.W.readsIn K (He.ga K x) (.type "type") && He.eqO (PySem.W.specialIn K (.ref (He.ga K x)) "__getattribute__") (some (some (.builtin "type.__getattribute__")))))
def cdef (c m q : Str) (st : Stmt) : He5.DefA := ⟨fun K => He5.wf K (He.ga K c) "classmethod" m, m, q, L2.defArgs st, L2.defBody st, L2.defScope st, [], []⟩
theorem cmd_of {K : PySem.W.Frag} {x m q : Str} {st : Stmt} {ex : PySem.W.Frag → Bool} {fn : List He5.DefA} (f : cmB x m K = true) (s : SaysB ex fn K) (i : Nat) (e : fn[i]? = some (cdef x m q st) := by rfl) : Cmd K (He.ga K x) m q st := by
  obtain ⟨h1, h⟩ := He.ba f
  obtain ⟨h2, h⟩ := He.ba h
  obtain ⟨h3, h4⟩ := He.ba h
  obtain ⟨fd, F⟩ := s.def_ i e
  exact ⟨_, _, fd, He5.fun_of F, ⟨h3, He.eqO_ok h4⟩, He5.cmet_of h1 h2⟩
end L3
namespace L3
open PySem L2 Evl TL
def ItzM (K : PySem.W.Frag) (a b : Addr) : It where
  go := fun i H => ∃ (xs ys : List V) (x y : V), SqT K H a xs ∧ SqL K H b ys ∧ xs[i]? = some x ∧ ys[i]? = some y
  yld := fun i H v H' => ∃ T x y, v = .ref T ∧ H T = none ∧ H' = upd H T (.tup [x, y]) ∧ (∀ xs, SqT K H a xs → xs[i]? = some x) ∧ ∀ ys, SqL K H b ys → ys[i]? = some y
  stop := fun i H => ∃ xs ys : List V, SqT K H a xs ∧ SqL K H b ys ∧ i = min xs.length ys.length
def zSt (N a b i : Nat) (h : Heap) : Prop := IsZip h (N + 4) (N + 2) (N + 3) .none ∧ IsTupOf2 h (N + 2) (.ref N) (.ref (N + 1)) ∧ (∃ a1 a2, IsTupOf2 h (N + 3) a1 a2) ∧ h.IsTupleIter N a i ∧ h.IsListIter (N + 1) b i
theorem turn_zipM {P : Program} {w : World} {K : PySem.W.Frag} {elts : List Expr} {kk : Nat} {tpos : Pos} {N a b : Nat} (ha : a < N) (hb : b < N) :
    Turn P w K (.Tuple elts kk tpos) (ItzM K a b) [N + 4, N + 2, N + 3, N, N + 1] (N + 4) (zSt N a b) where
  mem := by simp
  obj := by
    rintro i h ⟨z1, z2, ⟨x1, x2, z3⟩, ⟨o4, z4, _, d4⟩, ⟨o5, z5, _, d5⟩⟩ c hc
    simp only [List.mem_cons, List.not_mem_nil, or_false] at hc
    rcases hc with rfl | rfl | rfl | rfl | rfl
    · exact ⟨_, z1, nofun⟩
    · exact ⟨_, z2, nofun⟩
    · exact ⟨_, z3, nofun⟩
    · exact ⟨o4, z4, fun v q => by rw [d4] at q; cases q⟩
    · exact ⟨o5, z5, fun v q => by rw [d5] at q; cases q⟩
  keep := by
    rintro i h h' ⟨z1, z2, ⟨x1, x2, z3⟩, z4, z5⟩ k
    exact ⟨k _ (by simp) _ z1, k _ (by simp) _ z2, ⟨x1, x2, k _ (by simp) _ z3⟩, z4.at fun o q => k _ (by simp) o q, z5.at fun o q => k _ (by simp) o q⟩
  item := by
    rintro X rfl rfl rfl hc i pins s σ H E I hf st ⟨xs, ys, x, y, qx, qy, hx, hy⟩
    obtain ⟨z1, z2, z3, z4, z5⟩ := st
    obtain ⟨us, ru, pu, _⟩ := I.tuple qx
    obtain ⟨ws, rw', pw, _⟩ := I.list qy
    have lu := ru.length
    have lw := rw'.length
    have ix : i < xs.length := (List.getElem?_eq_some_iff.mp hx).1
    have iy : i < ys.length := (List.getElem?_eq_some_iff.mp hy).1
    have hh : X.A.in1.handled = none := I.ok.hd hc
    have nz : N + 4 < s.heap.objs.size := Heap.lt_size z1
    have W := GoesN.zip2 (prog := X.prog) (w := X.w) (A := X.A) (elts := elts) (x1 := kk) (pos := tpos) (zip_sep2 (N := N) (fp1 := [a]) (fp2 := [b]) (by simpa using ha) (by simpa using hb))
      (Draws.tuple hh N a (Nat.ne_of_lt ha) us.toArray) (Draws.list hh (N + 1) b (Nat.ne_of_lt (Nat.lt_succ_of_lt hb)) ws.toArray)
    refine W.goes i s _ E (by simp; omega) ⟨z1, z2, z3, ⟨z4, pu⟩, ⟨z5, pw.isList⟩⟩ fun v h' tk hY st' hk htk => ?_
    obtain ⟨T, u1, u2, rfl, hT, e1, e2, hTt⟩ := hY
    obtain ⟨w1, w2, w3, ⟨w4, _⟩, ⟨w5, _⟩⟩ := st'
    obtain ⟨v1, g1, r1⟩ := ru.get hx
    obtain ⟨v2, g2, r2⟩ := rw'.get hy
    have q1 : u1 = v1 := by
      have : us.toArray[i]? = us[i]? := by simp
      rw [this, g1] at e1
      exact (Option.some.inj e1).symm
    have q2 : u2 = v2 := by
      have : ws.toArray[i]? = ws[i]? := by simp
      rw [this, g2] at e2
      exact (Option.some.inj e2).symm
    subst q1 q2
    have new : ObjOk X.prog X.w (upd H T (.tup [x, y])) h' T (.tup [x, y]) := ⟨by show 2 ≤ sizeLine; decide, [u1, u2], .cons r1 (.cons r2 .nil), hTt⟩
    have I1 : Inv X pins σ (upd H T (.tup [x, y])) { s with heap := h', toks := tk } := I.turnedNew (t' := tk) (ch := [N + 4, N + 3, N, N + 1]) (fun c o hb q => hk c o hb q) (fun c hc' => hf c (by
      simp only [List.mem_cons, List.not_mem_nil, or_false] at hc' ⊢
      rcases hc' with z | z | z | z <;> simp [z])) hT new
    refine ⟨.ref T, _, I1, rfl, ⟨T, x, y, rfl, I.hok.fresh hT, rfl, fun l hl => by rw [I.tuple_inj hl qx]; exact hx, fun l hl => by rw [I.list_inj hl qy]; exact hy⟩, ⟨w1, w2, w3, w4, w5⟩, fun c hc' => ?_⟩
    have lt : c < s.heap.objs.size := by
      simp only [List.mem_cons, List.not_mem_nil, or_false] at hc'
      rcases hc' with z | z | z | z | z
      · exact Nat.lt_of_le_of_lt (Nat.le_of_eq z) nz
      · exact Nat.lt_of_le_of_lt (Nat.le_of_eq z) (by omega)
      · exact Nat.lt_of_le_of_lt (Nat.le_of_eq z) (by omega)
      · exact Nat.lt_of_le_of_lt (Nat.le_of_eq z) (by omega)
      · exact Nat.lt_of_le_of_lt (Nat.le_of_eq z) (by omega)
    rw [upd_ne (Nat.ne_of_lt (Nat.lt_of_lt_of_le lt hT))]
    exact (hf c hc').1
  done := by
    rintro X rfl rfl rfl hc i pins s σ H E I hf st ⟨xs, ys, qx, qy, hi⟩
    obtain ⟨z1, z2, z3, z4, z5⟩ := st
    obtain ⟨us, ru, pu, _⟩ := I.tuple qx
    obtain ⟨ws, rw', pw, _⟩ := I.list qy
    have lu := ru.length
    have lw := rw'.length
    have hh : X.A.in1.handled = none := I.ok.hd hc
    have W := GoesN.zip2 (prog := X.prog) (w := X.w) (A := X.A) (elts := elts) (x1 := kk) (pos := tpos) (zip_sep2 (N := N) (fp1 := [a]) (fp2 := [b]) (by simpa using ha) (by simpa using hb))
      (Draws.tuple hh N a (Nat.ne_of_lt ha) us.toArray) (Draws.list hh (N + 1) b (Nat.ne_of_lt (Nat.lt_succ_of_lt hb)) ws.toArray)
    have e : min us.toArray.size ws.toArray.size = i := by simp; omega
    refine W.stops s (fun s1 => Inv X pins σ H s1) E (by rw [e]; exact ⟨z1, z2, z3, ⟨z4, pu⟩, ⟨z5, pw.isList⟩⟩) fun h' tk hk htk => ?_
    exact I.turnedL (t' := tk) (ch := [N + 4, N + 3, N, N + 1]) (fun c o hb q => hk c o hb q) (fun c hc' => hf c (by
      simp only [List.mem_cons, List.not_mem_nil, or_false] at hc' ⊢
      rcases hc' with z | z | z | z <;> simp [z]))
  self := fun A i s Q E st h => wpAny_pyIter_zip st.1 h
def iZipM (K : PySem.W.Frag) (ta : TA) : TI := fun σ H R => ta σ H fun vs H1 => ∃ a b xs ys, vs = [.ref a, .ref b] ∧ SqT K H1 a xs ∧ SqL K H1 b ys ∧ R (ItzM K a b) H1
theorem pi_zipM {X : Cx} {e e2 : Expr} {ta : TA} {p pos tpos : Pos} {elts : List Expr} {kk : Nat} (hg : Gl X "zip") (hm : X.mg "zip" = none) (ha : PA X [e, e2] ta)
    (hs : starEach [e, e2] X.env = (false, eval e X.env) :: starEach [e2] X.env := by rfl) (hpl : (backTo pos (starEach [e2] X.env)).any (·.1) = false := by rfl) : PI X (.Tuple elts kk tpos) (.Call (.Name "zip" p) [e, e2] [] pos) (iZipM X.K ta) := by
  refine ⟨fun pins s σ H R I h => ?_⟩
  refine PyProof.Rows.Call_ (ld_blt I hg hm PyProof.Rows.boot_zip (PyProof.Rows.callWith_type1 (thn (ha.run pos pins s σ H _ I h) fun us s1 ⟨vs, H1, I1, r1, a, b, xs, ys, ex, qx, qy, q⟩ => ?_) hs hpl))
  subst ex
  obtain ⟨u1, u2, rfl, ra, rb⟩ := vals2 r1
  cases ra
  cases rb
  obtain ⟨its, rv, p1, _⟩ := I1.tuple qx
  obtain ⟨its2, rv2, p2, _⟩ := I1.list qy
  have la : a < s1.heap.objs.size := by
    obtain ⟨o1, ho1, _⟩ := id p1
    exact Heap.lt_size ho1
  refine zip_begins2 (begins_tuple a its.toArray) (begins_list b its2.toArray) p1 p2.isList fun h' hz hTI hTO h1 h2 hsz hk => wpAny_pyIter_zip hz ?_
  have I2 : Inv X pins σ H1 { s1 with heap := h' } := I1.kept (t' := s1.toks) hk
  refine ⟨s1.heap.objs.size + 4, [s1.heap.objs.size + 4, s1.heap.objs.size + 2, s1.heap.objs.size + 3, s1.heap.objs.size, s1.heap.objs.size + 1], _, _, H1, rfl, I2, turn_zipM la p2.lt, ⟨hz, hTI, ⟨_, _, hTO⟩, ?_, ?_⟩, fun c hc => ?_, q⟩
  · exact ⟨_, h1, rfl, rfl⟩
  · exact ⟨_, h2, rfl, rfl⟩
  · have hle : s1.heap.objs.size ≤ c := by
      simp only [List.mem_cons, List.not_mem_nil, or_false] at hc
      rcases hc with z | z | z | z | z <;> rw [z] <;> first | exact Nat.le_refl _ | exact Nat.le_add_right _ _
    exact I1.fpOk hle (I1.hok.fresh hle)
end L3
namespace L3
open PySem L2 Evl TL
end L3
namespace L3
open PySem L2 Evl TL
end L3
namespace L3
open PySem L2 Evl TL
end L3
namespace L3
open PySem L2 Evl TL
def rInKD (K : PySem.W.Frag) (d : Addr) (neg : Bool) : R2 := fun x y H Q => ∃ (z : Str) (r : Option Value), x = .str z ∧ y = .ref d ∧ PySem.W.nsIn K d z = some r ∧ Q (.bl (if neg then !r.isSome else r.isSome)) H
theorem op_notIn_kd' {X : Cx} {d : Addr} {es : Array DictEntry} {n : Nat} (D : KDict X.K X.w d es n) : OpR X (compareOp .NotIn) (rInKD X.K d true) := op_notIn_kd D
end L3
namespace L3
open PySem PySem.Spec PyProof.Rows L2 Evl TL
end L3
namespace L3
open PySem PySem.Spec PyProof.Rows L2 Evl TL
end L3
namespace L3
open PySem L2 Evl TL
theorem kdct_of {K : PySem.W.Frag} {w : World} {a : Addr} {es : Array DictEntry} {n : Nat} {x : Str} {v : V} {u : Value} (D : KDict K w a es n) (h : PySem.W.nsIn K a x = some (some u)) (r : RelV v u) : KDct K w a x v := ⟨es, n, u, D.at_, D.lit, h, r⟩
end L3
namespace L3
open PySem PySem.Spec PyProof.Rows L2 Evl TL
end L3
namespace L3
open PySem PySem.Spec PyProof.Rows L2 Evl TL
/-- what is no list still stands -/
def Kt (H H' : Hp) : Prop := ∀ a u, H a = some u → (∀ ys, u ≠ .lst ys) → H' a = some u
end L3
namespace L3
open PySem PySem.Spec PyProof.Rows L2 Evl TL
structure FnG (P : Program) (w : World) (K : PySem.W.Frag) (mg : Str → Option Value) (base : Heap) (k : Nat) (f : Addr) (fd : FuncData) (ps : List Str) (sp : Sp) : Prop where
  len : ∀ vs H Q E, sp vs H Q E → vs.length = ps.length
  run : ∀ (A : Around) (outer : List Env) (s : Shared) (H : Hp) (args : Args) (us : List Value) (vs : List V) (Q : VK) (E : XK), A.guards = some [] → Room k A → Env0 P w K mg base A outer s H →
    BindsTo s fd args (ps.zip us) → Vals vs us → sp vs H Q E → codeAny (model P w) A (.call (.ref f) args) (CR CX0 outer P w H s Q E) s
section
variable {P : Program} {w : World} {K : PySem.W.Frag} {mg : Str → Option Value} {base : Heap} {k : Nat}
theorem fnG_of {f : Addr} {x q : Str} {st : Stmt} {fd : FuncData} {N ps : List Str} {sp : Sp} (F : Fun K x q st f fd) (S : FnScope N ps (defScope st)) (len : ∀ vs H Q E, sp vs H Q E → vs.length = ps.length)
    (hbody : ∀ (cdv : Value) (A : Around) (outer : List Env) (s : Shared) (H : Hp) (vs : List V) (Q : VK) (E : XK), A.guards = some [] → Room k (A.deeper (envOfC q (defScope st) s.heap.objs.size f cdv)) → sp vs H Q E →
      ∃ t, PSs (cxOf CX0 P w K mg base N q (defScope st) f cdv A outer s H E).nox (defBody st) t ∧ t { nx := fun _ H' => Q .non H', rt := Q } (start N vs) H) : FnG P w K mg base (k + 1) f fd ps sp := by
  obtain ⟨oc, od, kV, doc, pm, an, cdv, ct, osl, rfl, lk, hcd⟩ := F.ex
  refine ⟨len, ?_⟩
  intro A outer s H args us vs Q E hg hr e0 hb r hsp
  have keep : ∀ b o, base.get? b = some o → s.heap.get? b = some o := fun b o e => (e0.bs b o e).1
  have KX : K.In s.heap := e0.mod.kin.keeps keep
  have par : ∀ y ∈ ps.zip us, (defScope st).names.lookup y.1 = some .local ∨ ((defScope st).names.lookup y.1 = some .cell ∧ ((cellsFrom (s.heap.objs.size + 1) (defScope st).names []).lookup y.1).isSome = true) := by
    rintro ⟨n, v⟩ hy
    cases S.par n (List.of_mem_zip hy).1 with
    | inl z => exact .inl z
    | inr z => exact .inr ⟨z, PySem.W.cellsFrom_some _ _ _ (.inl z)⟩
  refine codeAny_call_function hr.depth (KX _ _ lk) rfl S.co S.gen rfl (PySem.W.codeRec_of KX hcd) ?_
  refine hb _ _ _ _ ?_
  refine wpAny_newFunctionEnv_cells S.kind par ?_
  rintro env rfl s1 x
  refine ⟨(e0.mod.nolimit.keeps keep).keeps x.toInCall.keep, ?_⟩
  refine codeAny_func ?_
  obtain ⟨t, ht, hq⟩ := hbody cdv A outer s H vs Q E hg (hr.deeper _) hsp
  have I : Inv (cxOf CX0 P w K mg base N q (defScope st) f cdv A outer s H E) [] (start N vs) H s1 := inv_start S hr.hd e0 (len _ _ _ _ hsp) r x
  refine wpAny_mono (ht.nox.run [] s1 (start N vs) H _ I hq) ?_ (fun _ _ z => z)
  intro fl s' hs
  match fl, hs with
  | .ret u, ⟨v, σ', H', J, rv, z⟩ => exact ⟨v, H', J.os, J.bare, J.base, J.hok, rv, z⟩
  | .next, ⟨σ', H', J, z⟩ => exact ⟨.non, H', J.os, J.bare, J.base, J.hok, rfl, z⟩
  | .brk, ⟨_, _, _, z⟩ => exact z.elim
  | .cont, ⟨_, _, _, z⟩ => exact z.elim
end
section
variable {P : Program} {w : World} {K : PySem.W.Frag} {mg mb : Str → Option Value} {k : Nat} {fa a : Addr} {fd : FuncData} {x : Str} {sp : Sp} {s₁ : Shared} {vs : List Value} {ns : List Int}
/-- the call of a law from an abstract heap that knows of the script at most -/
theorem callG_core {H : Hp} (KX : K.In s₁.heap) (hns : s₁.heap.Ns mainGlobals mg) (hb : s₁.heap.Ns builtinsNs mb) (hbb : ∀ x : Str, x ≠ "__name__" → mb x = bootBuiltins x) (hlim : s₁.heap.NoLimit) (hg : s₁.gens = #[])
    (isL : s₁.heap.get? a = some { cls := .type "list", data := .seq vs.toArray }) (hr : Room k callerA)
    (F : ∀ base : Heap, K.In base → base.Ns mainGlobals mg → FnG P w K mg base k fa fd [x] sp) (hbind : ∀ (s : Shared) (u : Value), BindsTo s fd ⟨[u], []⟩ [(x, u)])
    (hsp : sp [.ref a] H (fun v _ => v = .bl true) fun _ _ _ => False) (hO : Only H) (hok : HOk P w H s₁.heap) (hA : ∀ b, H b ≠ none → b = a) (hK : H a ≠ none → K.lookup a = none) :
    codeAny (model P w) callerA (.call (.ref fa) ⟨[.ref a], []⟩) (fun r s' => r = .ok (.ret (.bool true)) ∧ OldK s₁.heap s'.heap ∧ s'.os = s₁.os ∧ AllBare s'.gens) s₁ := by
  have free : ∀ b, b ≠ a → H b = none := fun b hne => by
    cases z : H b with
    | none => rfl
    | some u => exact absurd (hA b (by rw [z]; simp)) hne
  have stays : ∀ {b : Addr} {m : Str → Option Value}, s₁.heap.Ns b m → (hidT s₁.heap H).Ns b m := by
    rintro b m ⟨o, es, ep, e, d, rest⟩
    refine ⟨o, es, ep, hidT_get e (free b fun z => ?_), d, rest⟩
    rw [z, isL] at e
    cases e
    exact Data.noConfusion d
  have inB : K.In (hidT s₁.heap H) := by
    intro b o e
    refine hidT_get (KX b o e) ?_
    cases z : H b with
    | none => rfl
    | some u =>
      have nz : H b ≠ none := by rw [z]; simp
      have ea := hA b nz
      rw [ea] at e nz
      rw [hK nz] at e
      cases e
  obtain ⟨mc, lim1, lim2⟩ := hlim
  have md : Mod K mg (hidT s₁.heap H) := ⟨inB, stays hns, ⟨mb, stays hb, hbb⟩, ⟨mc, stays lim1, lim2⟩⟩
  have env : Env0 P w K mg (hidT s₁.heap H) callerA [] s₁ H := by
    refine ⟨rfl, md, fun b o e => of_hidT e, Nat.le_of_eq (hidT_size _ _), trivial, ?_, hok, .of_eq hg⟩
    intro b hb
    exact nomatch (show b ∈ ([] : List Addr) from hb)
  have go := (F _ inB (stays hns)).run callerA [] s₁ H ⟨[.ref a], []⟩ [.ref a] [.ref a] _ _ rfl hr env (hbind s₁ (.ref a)) (.cons rfl .nil) hsp
  refine codeAny_mono go ?_
  intro r s' h
  match r, h with
  | .ok (.ret u), ⟨v, H', os, bare, un, hok', ru, (ev : v = .bl true)⟩ =>
    subst ev
    cases (show u = Value.bool true from ru)
    refine ⟨rfl, OldK.of_keep ?_, os, bare⟩
    intro b o e
    rcases hO b with z | ⟨ob, xs, z⟩
    · exact un.keep b o e z (fun w => nomatch (show b ∈ ([] : List Addr) from w)) (by simp)
    · have e1 := (hok b _ z).1
      have e2 := (hok' b _ (un.frzs b ob _ z)).1
      rw [e] at e1
      cases e1
      exact e2
theorem callG {n : Nat} (KX : K.In s₁.heap) (hns : s₁.heap.Ns mainGlobals mg) (hb : s₁.heap.Ns builtinsNs mb) (hbb : ∀ x : Str, x ≠ "__name__" → mb x = bootBuiltins x) (hlim : s₁.heap.NoLimit) (hg : s₁.gens = #[])
    (isL : s₁.heap.get? a = some { cls := .type "list", data := .seq vs.toArray }) (hi : IntsAre vs ns) (hl : ns.length ≤ sizeLine) (hr : Room k callerA)
    (F : ∀ base : Heap, K.In base → base.Ns mainGlobals mg → FnG P w K mg base k fa fd [x] sp) (hbind : ∀ (s : Shared) (u : Value), BindsTo s fd ⟨[u], []⟩ [(x, u)])
    (hsp : ∀ H : Hp, Only H → SqL K H a (ns.map V.int) → sp [.ref a] H (fun v _ => v = .bl true) fun _ _ _ => False) :
    codeAny (model P w) callerA (.call (.ref fa) ⟨[.ref a], []⟩) (fun r s' => r = .ok (.ret (.bool true)) ∧ OldK s₁.heap s'.heap ∧ s'.os = s₁.os ∧ AllBare s'.gens) s₁ := by
  have rv := vals_ints hi
  have lenV := hi.length
  cases own : K.lookup a with
  | some o =>
    have e := KX a o own
    rw [isL] at e
    cases e
    have hO : Only (fun _ => none) := fun _ => .inl rfl
    have hS : SqL K (fun _ => none) a (ns.map V.int) := .inr ⟨_, vs.toArray, _, own, rfl, rfl, rfl, by rw [List.size_toArray, lenV]; exact hl, by simpa using rv⟩
    exact callG_core KX hns hb hbb hlim hg isL hr F hbind (hsp _ hO hS) hO (fun b u z => by cases z) (fun b z => absurd rfl z) (fun z => absurd rfl z)
  | none =>
    let H0 : Hp := fun b => if b = a then some (.frz { cls := .type "list", data := .seq vs.toArray } (.lst (ns.map V.int))) else none
    have at_a : H0 a = some (.frz { cls := .type "list", data := .seq vs.toArray } (.lst (ns.map V.int))) := if_pos rfl
    have off : ∀ b, b ≠ a → H0 b = none := fun b z => if_neg z
    have hO : Only H0 := fun b => by
      by_cases z : b = a
      · rw [z]; exact .inr ⟨_, _, at_a⟩
      · exact .inl (off b z)
    have hS : SqL K H0 a (ns.map V.int) := .inl (.inr ⟨{ cls := .type "list", data := .seq vs.toArray }, at_a⟩)
    refine callG_core KX hns hb hbb hlim hg isL hr F hbind (hsp _ hO hS) hO ?_ ?_ (fun _ => own)
    · intro b u hu
      by_cases z : b = a
      · subst z
        rw [at_a] at hu
        cases hu
        exact ⟨isL, by rw [List.length_map]; exact hl, vs, _, rv, isL⟩
      · rw [off b z] at hu
        cases hu
    · intro b hne
      by_cases z : b = a
      · exact z
      · exact absurd (off b z) hne
end
end L3
namespace L4
open PySem L2
inductive D where
  | non | bl (b : Bool) | int (i : Int) | str (x : Str) | tup (ds : List D) | lst (ds : List D) | scr (ds : List D) | dic (ks vs : List D) | obj (c : Str) (ns : List Str) (vs : List D) | ref (n : Nat) | glo (x : Str) | ty (n : String)
instance : Inhabited D := ⟨.non⟩
inductive O where
  | lst (ds : List D) | dic (ks vs : List D) | ins (c : Str) (ns : List Str) (vs : List D)
abbrev M := List O
structure G where
  P : Program
  w : World
  K : PySem.W.Frag
abbrev gx (X : Cx) : G := ⟨X.prog, X.w, X.K⟩
mutual
def nk : D → Option NestedKey
  | .non => some .none
  | .bl b => some (.num (if b then 1 else 0))
  | .int i => some (.num i)
  | .str x => some (.text x)
  | .tup ds => (nks ds).map .tup
  | .lst _ => none
  | .scr _ => none
  | .dic _ _ => none
  | .obj _ _ _ => none
  | .ref _ => none
  | .glo _ => none
  | .ty _ => none
def nks : List D → Option (List NestedKey)
  | [] => some []
  | d :: ds => match nk d, nks ds with
    | some k, some ks => some (k :: ks)
    | _, _ => none
end
/-- a tuple that is a key -/
def nkT : D → Option NestedKey
  | .tup ds => match nks ds with
    | some ks => if (NestedKey.tup ks).depth ≤ 8 then some (.tup ks) else none
    | none => none
  | _ => none
/-- a dict with nested keys, by its own object -/
def dnO (g : G) (a : Addr) (kvs : List (NestedKey × Addr × V)) : HO := .ext fun h => kvs.length ≤ sizeLine ∧ (a == sysModules) = false ∧ ∃ xs : List (NestedKey × Addr × Value),
  Paired (fun (p : NestedKey × Addr × V) (q : NestedKey × Addr × Value) => p.1 = q.1 ∧ p.2.1 = q.2.1 ∧ RelV p.2.2 q.2.2) kvs xs ∧
  ∃ o es ep, h.get? a = some o ∧ o.ExactDict ∧ o.data = .dict es ep ∧ es.toList = xs.map (entryOfKey (nestedKind g.P g.w)) ∧ (xs.map (·.1)).Nodup
/-- what is tracked, and what may not be held as plain data -/
structure Tk where
  μ : List Addr
  ν : List Addr
  sub : ∀ a ∈ μ, a ∈ ν
/-- a read list, tuple that is not tracked: in the heap, or of the top -/
def FL (T : Tk) (H : Hp) (a : Addr) (vs : List V) : Prop := a ∉ T.ν ∧ H a = some (.lst vs)
/-- the script -/
def FS (K : PySem.W.Frag) (T : Tk) (H : Hp) (a : Addr) (vs : List V) : Prop := (a ∉ T.ν ∧ ∃ o, H a = some (.frz o (.lst vs))) ∨ SqL K (fun _ => none) a vs
def FT (K : PySem.W.Frag) (T : Tk) (H : Hp) (a : Addr) (vs : List V) : Prop := (a ∉ T.ν ∧ Rd H a (.tup vs)) ∨ SqT K (fun _ => none) a vs
mutual
inductive Rep (g : G) (T : Tk) (H : Hp) : D → V → Prop
  | non : Rep g T H .non .non
  | bl (b) : Rep g T H (.bl b) (.bl b)
  | int (i) : Rep g T H (.int i) (.int i)
  | str (x) : Rep g T H (.str x) (.str x)
  | tup {a vs ds} : FT g.K T H a vs → RepL g T H ds vs → Rep g T H (.tup ds) (.ref a)
  | lst {a vs ds} : FL T H a vs → RepL g T H ds vs → Rep g T H (.lst ds) (.ref a)
  | scr {a vs ds} : FS g.K T H a vs → RepL g T H ds vs → Rep g T H (.scr ds) (.ref a)
  | dicF {a kvs ks vs} : a ∉ T.ν → Rd H a (.dK kvs) → RepL g T H ks (kvs.map fun p => kV p.1) → RepL g T H vs (kvs.map Prod.snd) → Rep g T H (.dic ks vs) (.ref a)
  | dicN {a kvs ks vs} : a ∉ T.ν → Rd H a (dnO g a kvs) → (ks.map nkT = kvs.map (fun p => some p.1) ∧ kvs ≠ []) → RepL g T H ks (kvs.map fun p => .ref p.2.1) → RepL g T H vs (kvs.map fun p => p.2.2) → Rep g T H (.dic ks vs) (.ref a)
  | obj {a dx fs c ns vs} : a ∉ T.ν → H a = some (.ins (He.ga g.K c) dx fs) → fs.map Prod.fst = ns → RepL g T H vs (fs.map Prod.snd) → Rep g T H (.obj c ns vs) (.ref a)
  | ref {n a} : T.μ[n]? = some a → Rep g T H (.ref n) (.ref a)
  | glo (x) : Rep g T H (.glo x) (.ref (He.ga g.K x))
  | ty (n) : Rep g T H (.ty n) (.ty n)
inductive RepL (g : G) (T : Tk) (H : Hp) : List D → List V → Prop
  | nil : RepL g T H [] []
  | cons {d v ds vs} : Rep g T H d v → RepL g T H ds vs → RepL g T H (d :: ds) (v :: vs)
end
/-- what came later: what isn't tracked stays, what is newly tracked was new -/
structure Le (T : Tk) (H : Hp) (T' : Tk) (H' : Hp) : Prop where
  pre : T.μ <+: T'.μ
  keep : ∀ a u, H a = some u → a ∉ T.μ → H' a = some u
  new : ∀ a ∈ T'.ν, a ∉ T.ν → H a = none
  newμ : ∀ a ∈ T'.μ, a ∉ T.μ → H a = none
  up : ∀ a ∈ T.ν, a ∈ T'.ν
section
variable {g : G} {T T1 T2 : Tk} {H H1 H2 : Hp}
theorem Tk.out {a : Addr} (h : a ∉ T.ν) : a ∉ T.μ := fun z => h (T.sub a z)
theorem Le.refl : Le T H T H := ⟨List.prefix_rfl, fun _ _ h _ => h, fun _ h n => absurd h n, fun _ h n => absurd h n, fun _ h => h⟩
theorem Le.out (l : Le T H T1 H1) {a : Addr} {u : HO} (h : H a = some u) (n : a ∉ T.ν) : a ∉ T1.ν := fun z => by rw [l.new a z n] at h; cases h
theorem Le.rd (l : Le T H T1 H1) {a : Addr} {u : HO} (h : Rd H a u) (n : a ∉ T.ν) : Rd H1 a u ∧ a ∉ T1.ν := by
  rcases h with h | ⟨o, h⟩
  · exact ⟨.inl (l.keep _ _ h (Tk.out n)), l.out h n⟩
  · exact ⟨.inr ⟨o, l.keep _ _ h (Tk.out n)⟩, l.out h n⟩
theorem Le.get (l : Le T H T1 H1) {n : Nat} {a : Addr} (h : T.μ[n]? = some a) : T1.μ[n]? = some a := by
  obtain ⟨t, e⟩ := l.pre
  rw [← e, List.getElem?_append_left (List.getElem?_eq_some_iff.mp h).1]
  exact h
theorem FL.le {a : Addr} {vs : List V} (l : Le T H T1 H1) (h : FL T H a vs) : FL T1 H1 a vs := ⟨l.out h.2 h.1, l.keep _ _ h.2 (Tk.out h.1)⟩
theorem FS.le {K : PySem.W.Frag} {a : Addr} {vs : List V} (l : Le T H T1 H1) (h : FS K T H a vs) : FS K T1 H1 a vs := by
  rcases h with ⟨n, o, h⟩ | h
  · exact .inl ⟨l.out h n, o, l.keep _ _ h (Tk.out n)⟩
  · exact .inr h
theorem FT.le {K : PySem.W.Frag} {a : Addr} {vs : List V} (l : Le T H T1 H1) (h : FT K T H a vs) : FT K T1 H1 a vs := by
  rcases h with ⟨n, h⟩ | h
  · exact .inl ⟨(l.rd h n).2, (l.rd h n).1⟩
  · exact .inr h
theorem FL.sq {K : PySem.W.Frag} {a : Addr} {vs : List V} (h : FL T H a vs) : SqL K H a vs := .of h.2
theorem FS.sq {K : PySem.W.Frag} {a : Addr} {vs : List V} (h : FS K T H a vs) : SqL K H a vs := by
  rcases h with ⟨n, o, h⟩ | h | h
  · exact .inl (.inr ⟨o, h⟩)
  · rcases h with h | ⟨_, h⟩ <;> cases h
  · exact .inr h
theorem FT.sq {K : PySem.W.Frag} {a : Addr} {vs : List V} (h : FT K T H a vs) : SqT K H a vs := by
  rcases h with ⟨n, h⟩ | h | h
  · exact .inl h
  · rcases h with h | ⟨_, h⟩ <;> cases h
  · exact .inr h
mutual
theorem Rep.le (l : Le T H T1 H1) : ∀ {d : D} {v : V}, Rep g T H d v → Rep g T1 H1 d v
  | _, _, .non => .non
  | _, _, .bl b => .bl b
  | _, _, .int i => .int i
  | _, _, .str x => .str x
  | _, _, .tup f r => .tup (f.le l) (RepL.le l r)
  | _, _, .lst f r => .lst (f.le l) (RepL.le l r)
  | _, _, .scr f r => .scr (f.le l) (RepL.le l r)
  | _, _, .dicF n h r q => .dicF (l.rd h n).2 (l.rd h n).1 (RepL.le l r) (RepL.le l q)
  | _, _, .dicN n h e r q => .dicN (l.rd h n).2 (l.rd h n).1 e (RepL.le l r) (RepL.le l q)
  | _, _, .obj n h e r => .obj (l.out h n) (l.keep _ _ h (Tk.out n)) e (RepL.le l r)
  | _, _, .ref h => .ref (l.get h)
  | _, _, .glo x => .glo x
  | _, _, .ty n => .ty n
theorem RepL.le (l : Le T H T1 H1) : ∀ {ds : List D} {vs : List V}, RepL g T H ds vs → RepL g T1 H1 ds vs
  | _, _, .nil => .nil
  | _, _, .cons r s => .cons (Rep.le l r) (RepL.le l s)
end
theorem RepL.length : ∀ {ds : List D} {vs : List V}, RepL g T H ds vs → ds.length = vs.length
  | _, _, .nil => rfl
  | _, _, .cons _ s => by simp [RepL.length s]
theorem RepL.get : ∀ {ds : List D} {vs : List V} {i : Nat} {d : D}, RepL g T H ds vs → ds[i]? = some d → ∃ v, vs[i]? = some v ∧ Rep g T H d v
  | _, _, 0, _, .cons r _, h => by cases h; exact ⟨_, rfl, r⟩
  | _, _, i + 1, _, .cons _ s, h => by obtain ⟨v, e, q⟩ := RepL.get (i := i) s (by simpa using h); exact ⟨v, by simpa using e, q⟩
  | _, _, 0, _, .nil, h => by cases h
  | _, _, i + 1, _, .nil, h => by cases h
theorem RepL.back : ∀ {ds : List D} {vs : List V} {i : Nat} {v : V}, RepL g T H ds vs → vs[i]? = some v → ∃ d, ds[i]? = some d ∧ Rep g T H d v
  | _, _, 0, _, .cons r _, h => by cases h; exact ⟨_, rfl, r⟩
  | _, _, i + 1, _, .cons _ s, h => by obtain ⟨v, e, q⟩ := RepL.back (i := i) s (by simpa using h); exact ⟨v, by simpa using e, q⟩
  | _, _, 0, _, .nil, h => by cases h
  | _, _, i + 1, _, .nil, h => by cases h
theorem RepL.append : ∀ {ds es : List D} {vs us : List V}, RepL g T H ds vs → RepL g T H es us → RepL g T H (ds ++ es) (vs ++ us)
  | _, _, _, _, .nil, h => h
  | _, _, _, _, .cons r s, h => .cons r (RepL.append s h)
theorem RepL.of {ds : List D} {vs : List V} (hl : ds.length = vs.length) (h : ∀ (i : Nat) d v, ds[i]? = some d → vs[i]? = some v → Rep g T H d v) : RepL g T H ds vs := by
  induction ds generalizing vs with
  | nil => cases vs with
    | nil => exact .nil
    | cons _ _ => cases hl
  | cons d ds ih => cases vs with
    | nil => cases hl
    | cons v vs => exact .cons (h 0 d v rfl rfl) (ih (by simpa using hl) fun i e u p q => h (i + 1) e u (by simpa using p) (by simpa using q))
/-- a tracked object -/
inductive RepO (g : G) (T : Tk) (H : Hp) (a : Addr) : O → Prop
  | lst {ds vs} : H a = some (.lst vs) → RepL g T H ds vs → RepO g T H a (.lst ds)
  | dicF {kvs ks vs} : H a = some (.dK kvs) → RepL g T H ks (kvs.map fun p => kV p.1) → RepL g T H vs (kvs.map Prod.snd) → RepO g T H a (.dic ks vs)
  | dicN {kvs ks vs} : H a = some (dnO g a kvs) → (ks.map nkT = kvs.map (fun p => some p.1) ∧ kvs ≠ []) → RepL g T H ks (kvs.map fun p => .ref p.2.1) → RepL g T H vs (kvs.map fun p => p.2.2) → RepO g T H a (.dic ks vs)
  | ins {dx fs c ns vs} : H a = some (.ins (He.ga g.K c) dx fs) → fs.map Prod.fst = ns → RepL g T H vs (fs.map Prod.snd) → RepO g T H a (.ins c ns vs)
/-- an object that may change -/
def Mu : HO → Prop
  | .lst _ => True
  | .dK _ => True
  | .ext _ => True
  | .ins _ _ _ => True
  | _ => False
structure RepH (g : G) (T : Tk) (H : Hp) (m : M) : Prop where
  len : T.μ.length = m.length
  nd : T.μ.Nodup
  has : ∀ a ∈ T.ν, ∃ u, H a = some u ∧ Mu u
  at_ : ∀ (n : Nat) a o, T.μ[n]? = some a → m[n]? = some o → RepO g T H a o
theorem RepO.le {a : Addr} {o : O} (l : Le T H T1 H1) (e : H1 a = H a) (r : RepO g T H a o) : RepO g T1 H1 a o := by
  cases r with
  | lst h r => exact .lst (e.trans h) (r.le l)
  | dicF h r q => exact .dicF (e.trans h) (r.le l) (q.le l)
  | dicN h k r q => exact .dicN (e.trans h) k (r.le l) (q.le l)
  | ins h k r => exact .ins (e.trans h) k (r.le l)
theorem RepO.has {a : Addr} {o : O} (r : RepO g T H a o) : ∃ u, H a = some u ∧ Mu u := by
  cases r with
  | lst h _ => exact ⟨_, h, trivial⟩
  | dicF h _ _ => exact ⟨_, h, trivial⟩
  | dicN h _ _ _ => exact ⟨_, h, trivial⟩
  | ins h _ _ => exact ⟨_, h, trivial⟩
variable {m : M}
theorem RepH.nope (r : RepH g T H m) {p : Addr} (h : H p = none) : p ∉ T.ν := fun z => by obtain ⟨u, e, _⟩ := r.has p z; rw [h] at e; cases e
/-- what isn't tracked may change as long as what there is stays -/
theorem RepH.grow (r : RepH g T H m) (k : ∀ a u, H a = some u → H1 a = some u) : Le T H T H1 ∧ RepH g T H1 m := by
  have l : Le T H T H1 := ⟨List.prefix_rfl, fun a u e _ => k a u e, fun a h n => absurd h n, fun a h n => absurd h n, fun _ h => h⟩
  refine ⟨l, r.len, r.nd, fun a h => ?_, fun n a o h1 h2 => (r.at_ n a o h1 h2).le l ?_⟩
  · obtain ⟨u, e, z⟩ := r.has a h
    exact ⟨u, k a u e, z⟩
  · obtain ⟨v, e, _⟩ := (r.at_ n a o h1 h2).has
    rw [e, k a v e]
/-- a new object that isn't tracked -/
theorem RepH.fresh (r : RepH g T H m) {p : Addr} {u : HO} (h : H p = none) : Le T H T (upd H p u) ∧ RepH g T (upd H p u) m :=
  r.grow fun a v e => by rw [upd_ne (ne_of_none e h)]; exact e
def Tk.push (T : Tk) (p : Addr) : Tk := ⟨T.μ ++ [p], T.ν ++ [p], fun a h => by
  rcases List.mem_append.mp h with z | z
  · exact List.mem_append_left _ (T.sub a z)
  · exact List.mem_append_right _ z⟩
/-- a new object that is tracked -/
theorem RepH.push (r : RepH g T H m) {p : Addr} {u : HO} {o : O} (h : H p = none) (q : Le T H (T.push p) (upd H p u) → RepO g (T.push p) (upd H p u) p o) : Le T H (T.push p) (upd H p u) ∧ RepH g (T.push p) (upd H p u) (m ++ [o]) := by
  have l : Le T H (T.push p) (upd H p u) := ⟨List.prefix_append _ _, fun a v e _ => by rw [upd_ne (ne_of_none e h)]; exact e, fun a ha n => by
    rcases List.mem_append.mp ha with z | z
    · exact absurd z n
    · rw [List.mem_singleton.mp z]; exact h, fun a ha n => by
    rcases List.mem_append.mp ha with z | z
    · exact absurd z n
    · rw [List.mem_singleton.mp z]; exact h, fun a ha => List.mem_append_left _ ha⟩
  have np : p ∉ T.μ := Tk.out (r.nope h)
  refine ⟨l, by simp [Tk.push, r.len], List.nodup_append.mpr ⟨r.nd, by simp, fun a ha b hb => by rw [List.mem_singleton.mp hb]; rintro rfl; exact np ha⟩, fun a ha => ?_, fun n a o' h1 h2 => ?_⟩
  · rcases List.mem_append.mp ha with z | z
    · obtain ⟨v, e, q⟩ := r.has a z
      exact ⟨v, by rw [upd_ne (ne_of_none e h)]; exact e, q⟩
    · rw [List.mem_singleton.mp z]
      exact (q l).has
  by_cases hn : n < T.μ.length
  · change (T.μ ++ [p])[n]? = _ at h1
    rw [List.getElem?_append_left hn] at h1
    rw [List.getElem?_append_left (by rw [← r.len]; exact hn)] at h2
    refine (r.at_ n a o' h1 h2).le l ?_
    obtain ⟨v, e, _⟩ := (r.at_ n a o' h1 h2).has
    rw [upd_ne (ne_of_none e h)]
  · change (T.μ ++ [p])[n]? = _ at h1
    rw [List.getElem?_append_right (by omega)] at h1
    rw [List.getElem?_append_right (by rw [← r.len]; omega), ← r.len] at h2
    generalize n - T.μ.length = k at h1 h2
    cases k with
    | zero => cases h1; cases h2; exact q l
    | succ k => cases h1
/-- a tracked object is changed -/
theorem RepH.put (r : RepH g T H m) {n : Nat} {a : Addr} {u : HO} {o : O} (h : T.μ[n]? = some a) (q : Le T H T (upd H a u) → RepO g T (upd H a u) a o) : Le T H T (upd H a u) ∧ RepH g T (upd H a u) (m.set n o) := by
  have ha : a ∈ T.μ := List.mem_of_getElem? h
  have l : Le T H T (upd H a u) := ⟨List.prefix_rfl, fun b v e nb => by rw [upd_ne (show b ≠ a by rintro rfl; exact nb ha)]; exact e, fun b h n => absurd h n, fun b h n => absurd h n, fun _ h => h⟩
  refine ⟨l, by simp [r.len], r.nd, fun b hb => ?_, fun k b o' h1 h2 => ?_⟩
  · by_cases z : b = a
    · rw [z]
      exact (q l).has
    · obtain ⟨v, e, w⟩ := r.has b hb
      exact ⟨v, by rw [upd_ne z]; exact e, w⟩
  by_cases hk : n = k
  · subst hk
    rw [h] at h1
    cases h1
    have hl : n < m.length := by rw [← r.len]; exact (List.getElem?_eq_some_iff.mp h).1
    rw [List.getElem?_set_self hl] at h2
    cases h2
    exact q l
  · rw [List.getElem?_set_ne hk] at h2
    refine (r.at_ k b o' h1 h2).le l ?_
    have : b ≠ a := by
      rintro rfl
      exact hk ((List.getElem?_inj (List.getElem?_eq_some_iff.mp h).1 r.nd).mp (h.trans h1.symm))
    rw [upd_ne this]
theorem Le.trans (l : Le T H T1 H1) (m : Le T1 H1 T2 H2) : Le T H T2 H2 := by
  have key : ∀ a u, H a = some u → a ∉ T.μ → a ∉ T1.μ := fun a u h n z => by rw [l.newμ a z n] at h; cases h
  refine ⟨l.pre.trans m.pre, fun a u h n => m.keep a u (l.keep a u h n) (key a u h n), fun a h n => ?_, fun a h n => ?_, fun a h => m.up a (l.up a h)⟩
  · cases e : H a with
    | none => rfl
    | some u =>
      have := m.new a h (l.out e n)
      rw [l.keep a u e (Tk.out n)] at this
      cases this
  · cases e : H a with
    | none => rfl
    | some u =>
      have := m.newμ a h (key a u e n)
      rw [l.keep a u e n] at this
      cases this
end
end L4
namespace L4
open PySem PySem.Spec PyProof.Rows L2
def atomB : D → Value → Bool
  | .bl b, .bool c => b == c
  | .int i, .int j _ => i == j
  | .str x, .str y _ => decide (x = y)
  | .non, .none => true
  | _, _ => false
def atomsB : List D → List Value → Bool
  | [], [] => true
  | d :: ds, u :: us => atomB d u && atomsB ds us
  | _, _ => false
def valB (K : PySem.W.Frag) (d : D) (u : Value) : Bool := match d, u with
  | .tup ds, .ref r => match K.lookup r with
    | some ⟨.type "tuple", _, .seq its _, _⟩ => decide (its.size ≤ sizeLine) && atomsB ds its.toList
    | _ => false
  | d, u => atomB d u
def tblB (K : PySem.W.Frag) (a : Addr) (tb : List (Str × D)) : Bool := tb.all fun q => match PySem.W.nsIn K a q.1 with
  | some (some u) => valB K q.2 u
  | _ => false
def nsOnly (K : PySem.W.Frag) (a : Addr) (names : List Str) : Bool := match K.lookup a with
  | some ⟨_, _, .dict es _, _⟩ => es.toList.all fun e => match e.key with
    | .str z _ => names.contains z
    | _ => false
  | _ => false
end L4
namespace L4
open PySem L2 TL
open L3 (Df Md Ki Cmd)
def top (i : Nat) : Stmt := PySem.Challenge.pw_sitout_k35_goals_that_are_met.main.body.getD i (.Pass ⟨0, 0, 0, 0⟩)
abbrev s__law_box : Stmt := top 33
theorem sc__law_box : FnScope ["_law_script", "_law_k", "_law_great", "_law_seed"] ["_law_script", "_law_k"] (defScope s__law_box) := ⟨rfl, rfl, rfl, by decide +kernel, rfl, by decide +kernel, by decide +kernel⟩
abbrev s__law_take : Stmt := top 34
theorem sc__law_take : FnScope ["_law_box_here", "_law_many", "_law_digit", "_law_near"] ["_law_box_here", "_law_many"] (defScope s__law_take) := ⟨rfl, rfl, rfl, by decide +kernel, rfl, by decide +kernel, by decide +kernel⟩
abbrev s__law_pick : Stmt := top 35
theorem sc__law_pick : FnScope ["_law_box_here", "_law_some"] ["_law_box_here", "_law_some"] (defScope s__law_pick) := ⟨rfl, rfl, rfl, by decide +kernel, rfl, by decide +kernel, by decide +kernel⟩
abbrev s__law_rule : Stmt := top 36
theorem sc__law_rule : FnScope ["_law_box_here", "_law_size", "_law_long", "_law_calms", "_law_need", "_law_found"] ["_law_box_here", "_law_size", "_law_long", "_law_calms"] (defScope s__law_rule) := ⟨rfl, rfl, rfl, by decide +kernel, rfl, by decide +kernel, by decide +kernel⟩
abbrev s_number_in : Stmt := top 13
theorem sc_number_in : FnScope ["word", "most", "sign"] ["word", "most"] (defScope s_number_in) := ⟨rfl, rfl, rfl, by decide +kernel, rfl, by decide +kernel, by decide +kernel⟩
abbrev s_numbers_in : Stmt := top 28
theorem sc_numbers_in : FnScope ["words", "found", "word"] ["words"] (defScope s_numbers_in) := ⟨rfl, rfl, rfl, by decide +kernel, rfl, by decide +kernel, by decide +kernel⟩
abbrev s_share_in : Stmt := top 29
theorem sc_share_in : FnScope ["word", "parts"] ["word"] (defScope s_share_in) := ⟨rfl, rfl, rfl, by decide +kernel, rfl, by decide +kernel, by decide +kernel⟩
abbrev s_is_word : Stmt := top 12
theorem sc_is_word : FnScope ["value", "some"] ["value", "some"] (defScope s_is_word) := ⟨rfl, rfl, rfl, by decide +kernel, rfl, by decide +kernel, by decide +kernel⟩
abbrev s_words_between : Stmt := top 31
theorem sc_words_between : FnScope ["words", "found", "at", "word"] ["words"] (defScope s_words_between) := ⟨rfl, rfl, rfl, by decide +kernel, rfl, by decide +kernel, by decide +kernel⟩
abbrev s_is_integer : Stmt := top 9
theorem sc_is_integer : FnScope ["value"] ["value"] (defScope s_is_integer) := ⟨rfl, rfl, rfl, by decide +kernel, rfl, by decide +kernel, by decide +kernel⟩
abbrev s_is_from : Stmt := top 11
theorem sc_is_from : FnScope ["value", "least"] ["value", "least"] (defScope s_is_from) := ⟨rfl, rfl, rfl, by decide +kernel, rfl, by decide +kernel, by decide +kernel⟩
abbrev s_is_number : Stmt := top 10
theorem sc_is_number : FnScope ["value"] ["value"] (defScope s_is_number) := ⟨rfl, rfl, rfl, by decide +kernel, rfl, by decide +kernel, by decide +kernel⟩
abbrev s_wrong_number : Stmt := top 26
theorem sc_wrong_number : FnScope ["need", "of", "base", "more", "most", "calm"] ["need", "of", "base", "more", "most", "calm"] (defScope s_wrong_number) := ⟨rfl, rfl, rfl, by decide +kernel, rfl, by decide +kernel, by decide +kernel⟩
abbrev s_wrong_word : Stmt := top 27
theorem sc_wrong_word : FnScope ["back", "top", "under", "up", "hears"] ["back", "top", "under", "up", "hears"] (defScope s_wrong_word) := ⟨rfl, rfl, rfl, by decide +kernel, rfl, by decide +kernel, by decide +kernel⟩
abbrev s_Rule___init__ : Stmt := inClass (top 30) 0
theorem sc_Rule___init__ : FnScope ["self", "need", "of", "base", "more", "most", "calm", "back", "top", "under", "up", "hears", "word"] ["self", "need", "of", "base", "more", "most", "calm", "back", "top", "under", "up", "hears"] (defScope s_Rule___init__) := ⟨rfl, rfl, rfl, by decide +kernel, rfl, by decide +kernel, by decide +kernel⟩
abbrev s_Rule_read : Stmt := inClass (top 30) 1
theorem sc_Rule_read : FnScope ["cls", "text", "words", "plain", "share", "back", "up", "hears", "at"] ["cls", "text"] (defScope s_Rule_read) := ⟨rfl, rfl, rfl, by decide +kernel, rfl, by decide +kernel, by decide +kernel⟩
abbrev s__law_rule_text : Stmt := top 37
theorem sc__law_rule_text : FnScope ["_law_rule_here", "_law_words"] ["_law_rule_here"] (defScope s__law_rule_text) := ⟨rfl, rfl, rfl, by decide +kernel, rfl, by decide +kernel, by decide +kernel⟩
abbrev s__law_rule_of : Stmt := top 38
theorem sc__law_rule_of : FnScope ["_law_rule_here"] ["_law_rule_here"] (defScope s__law_rule_of) := ⟨rfl, rfl, rfl, by decide +kernel, rfl, by decide +kernel, by decide +kernel⟩
abbrev s__law_begin : Stmt := top 47
theorem sc__law_begin : FnScope ["_law_callers", "_law_servers", "_law_first", "_law_rows", "_law_bare", "_law_caller", "_law_server", "_law_row"] ["_law_callers", "_law_servers"] (defScope s__law_begin) := ⟨rfl, rfl, rfl, by decide +kernel, rfl, by decide +kernel, by decide +kernel⟩
abbrev s__law_outs : Stmt := top 48
theorem sc__law_outs : FnScope ["_law_world", "_law_caller", "_law_one"] ["_law_world", "_law_caller"] (defScope s__law_outs) := ⟨rfl, rfl, rfl, by decide +kernel, rfl, by decide +kernel, by decide +kernel⟩
abbrev s__law_limit : Stmt := top 41
theorem sc__law_limit : FnScope ["_law_rule_here", "_law_n", "_law_many"] ["_law_rule_here", "_law_n"] (defScope s__law_limit) := ⟨rfl, rfl, rfl, by decide +kernel, rfl, by decide +kernel, by decide +kernel⟩
abbrev s__law_back : Stmt := top 43
theorem sc__law_back : FnScope ["_law_rule_here", "_law_times", "_law_faults", "_law_fault"] ["_law_rule_here", "_law_times"] (defScope s__law_back) := ⟨rfl, rfl, rfl, by decide +kernel, rfl, by decide +kernel, by decide +kernel⟩
abbrev s__law_time : Stmt := top 39
theorem sc__law_time : FnScope ["_law_rule_here", "_law_times", "_law_long"] ["_law_rule_here", "_law_times"] (defScope s__law_time) := ⟨rfl, rfl, rfl, by decide +kernel, rfl, by decide +kernel, by decide +kernel⟩
abbrev s__law_cap : Stmt := top 40
theorem sc__law_cap : FnScope ["_law_rule_here", "_law_times"] ["_law_rule_here"] (defScope s__law_cap) := ⟨rfl, rfl, rfl, by decide +kernel, rfl, by decide +kernel, by decide +kernel⟩
abbrev s__law_out : Stmt := top 42
theorem sc__law_out : FnScope ["_law_rule_here", "_law_times", "_law_later"] ["_law_rule_here", "_law_times"] (defScope s__law_out) := ⟨rfl, rfl, rfl, by decide +kernel, rfl, by decide +kernel, by decide +kernel⟩
abbrev s__law_faulted : Stmt := top 44
theorem sc__law_faulted : FnScope ["_law_rule_here", "_law_standing", "_law_is_room", "_law_window", "_law_later"] ["_law_rule_here", "_law_standing", "_law_is_room"] (defScope s__law_faulted) := ⟨rfl, rfl, rfl, by decide +kernel, rfl, by decide +kernel, by decide +kernel⟩
abbrev s__law_turn : Stmt := top 45
theorem sc__law_turn : FnScope ["_law_rule_here", "_law_standing", "_law_is_fault", "_law_is_room", "_law_told", "_law_later", "_law_is_kept", "_law_window", "_law_times", "_law_calm"] ["_law_rule_here", "_law_standing", "_law_is_fault", "_law_is_room"] (defScope s__law_turn) := ⟨rfl, rfl, rfl, by decide +kernel, rfl, by decide +kernel, by decide +kernel⟩
abbrev s__law_word : Stmt := top 46
theorem sc__law_word : FnScope ["_law_rule_here", "_law_standing", "_law_is_room"] ["_law_rule_here", "_law_standing", "_law_is_room"] (defScope s__law_word) := ⟨rfl, rfl, rfl, by decide +kernel, rfl, by decide +kernel, by decide +kernel⟩
abbrev s__law_go : Stmt := top 50
theorem sc__law_go : FnScope ["_law_rule_here", "_law_world", "_law_event", "_law_caller", "_law_server", "_law_here", "_law_is_room", "_law_told", "_law_later", "_law_is_kept", "_law_one", "_law_found", "_law_other"] ["_law_rule_here", "_law_world", "_law_event"] (defScope s__law_go) := ⟨rfl, rfl, rfl, by decide +kernel, rfl, by decide +kernel, by decide +kernel⟩
abbrev s__law_can : Stmt := top 49
theorem sc__law_can : FnScope ["_law_world", "_law_event"] ["_law_world", "_law_event"] (defScope s__law_can) := ⟨rfl, rfl, rfl, by decide +kernel, rfl, by decide +kernel, by decide +kernel⟩
abbrev s__law_drawn_event : Stmt := top 51
theorem sc__law_drawn_event : FnScope ["_law_box_here", "_law_world", "_law_callers", "_law_servers", "_law_event", "_law_other", "_law_word_here"] ["_law_box_here", "_law_world"] (defScope s__law_drawn_event) := ⟨rfl, rfl, rfl, by decide +kernel, rfl, by decide +kernel, by decide +kernel⟩
abbrev s_need_goal : Stmt := top 15
theorem sc_need_goal : FnScope ["goal"] ["goal"] (defScope s_need_goal) := ⟨rfl, rfl, rfl, by decide +kernel, rfl, by decide +kernel, by decide +kernel⟩
abbrev s_up_to : Stmt := top 16
theorem sc_up_to : FnScope ["many", "by"] ["many", "by"] (defScope s_up_to) := ⟨rfl, rfl, rfl, by decide +kernel, rfl, by decide +kernel, by decide +kernel⟩
abbrev s_least_short : Stmt := top 19
theorem sc_least_short : FnScope ["rule"] ["rule"] (defScope s_least_short) := ⟨rfl, rfl, rfl, by decide +kernel, rfl, by decide +kernel, by decide +kernel⟩
abbrev s_Rule_time : Stmt := inClass (top 30) 2
theorem sc_Rule_time : FnScope ["self", "j"] ["self", "j"] (defScope s_Rule_time) := ⟨rfl, rfl, rfl, by decide +kernel, rfl, by decide +kernel, by decide +kernel⟩
abbrev s_is_lasting : Stmt := top 17
theorem sc_is_lasting : FnScope ["rule"] ["rule"] (defScope s_is_lasting) := ⟨rfl, rfl, rfl, by decide +kernel, rfl, by decide +kernel, by decide +kernel⟩
abbrev s_is_missable : Stmt := top 18
theorem sc_is_missable : FnScope ["rule"] ["rule"] (defScope s_is_missable) := ⟨rfl, rfl, rfl, by decide +kernel, rfl, by decide +kernel, by decide +kernel⟩
abbrev s_numbers : Stmt := top 20
theorem sc_numbers : FnScope ["rule", "goal", "is_whole", "least"] ["rule", "goal"] (defScope s_numbers) := ⟨rfl, rfl, rfl, by decide +kernel, rfl, by decide +kernel, by decide +kernel⟩
abbrev s_happens : Stmt := top 21
theorem sc_happens : FnScope ["rule", "goal"] ["rule", "goal"] (defScope s_happens) := ⟨rfl, rfl, rfl, by decide +kernel, rfl, by decide +kernel, by decide +kernel⟩
abbrev s_law : Stmt := top 52
theorem sc_law : FnScope ["_law_script", "_law_k", "_law_box_here", "_law_turn_here", "_law_rule_here", "_law_made", "_law_servers", "_law_world", "_law_more", "_law_goal", "_law_found"] ["_law_script"] (defScope s_law) := ⟨rfl, rfl, rfl, by decide +kernel, rfl, by decide +kernel, by decide +kernel⟩
def tb_ROUNDS : List (Str × D) := [("down", .bl false), ("up", .bl true)]
end L4
namespace L4
open PySem PySem.Spec PyProof.Rows L2
open L3 (Fx fx_at SaysW hookW obsWG obsWG_eq Tabs gdef mdef cdef cmB df_of md_of ki_of cmd_of)
def fxs : List Fx := [.fa (.free "abs"), .fa (.free "all"), .fa (.free "bool"), .fa (.free "enumerate"), .fa (.free "int"), .fa (.free "isinstance"), .fa (.free "len"), .fa (.free "list"), .fa (.free "max"), .fa (.free "min"), .fa (.free "range"), .fa (.free "str"), .fa (.free "tuple"), .fa (.free "zip"), .fa (.cls "Rule"), .fa (.noat "Rule" "back"), .fa (.noat "Rule" "base"), .fa (.noat "Rule" "calm"), .fa (.noat "Rule" "cap"), .fa (.noat "Rule" "hears"), .fa (.noat "Rule" "more"), .fa (.noat "Rule" "most"), .fa (.noat "Rule" "need"), .fa (.noat "Rule" "of"), .fa (.noat "Rule" "top"), .fa (.noat "Rule" "under"), .fa (.noat "Rule" "up"), .fa (.glo "Rule"), .fa (.glo "BACKS"), .tup "BACKS" [.str "half", .str "open", .str "trial"], .fa (.str "DIGITS" "0123456789"), .fa (.glo "GOALS"), .tup "GOALS" [.str "all", .str "kept", .str "swap"], .fa (.glo "HEARD"), .tup "HEARD" [.str "fault", .str "no", .str "out"], .fa (.glo "ROUNDS"), .bo (fun K => tblB K (He.ga K "ROUNDS") tb_ROUNDS), .bo (fun K => nsOnly K (He.ga K "ROUNDS") ["down", "up"]), .fa (.glo "_law_box"), .fa (.glo "_law_take"), .fa (.glo "_law_pick"), .fa (.glo "_law_rule"), .fa (.glo "number_in"), .fa (.glo "numbers_in"), .fa (.glo "share_in"), .fa (.glo "is_word"), .fa (.glo "words_between"), .fa (.glo "is_integer"), .fa (.glo "is_from"), .fa (.glo "is_number"), .fa (.glo "wrong_number"), .fa (.glo "wrong_word"), .fa (.mkr "Rule"), .bo (cmB "Rule" "read"), .fa (.glo "_law_rule_text"), .fa (.glo "_law_rule_of"), .fa (.glo "_law_begin"), .fa (.glo "_law_outs"), .fa (.glo "_law_limit"), .fa (.glo "_law_back"), .fa (.glo "_law_time"), .fa (.glo "_law_cap"), .fa (.glo "_law_out"), .fa (.glo "_law_faulted"), .fa (.glo "_law_turn"), .fa (.glo "_law_word"), .fa (.glo "_law_go"), .fa (.glo "_law_can"), .fa (.glo "_law_drawn_event"), .fa (.glo "need_goal"), .fa (.glo "up_to"), .fa (.glo "least_short"), .fa (.meth "Rule" "time"), .fa (.glo "is_lasting"), .fa (.glo "is_missable"), .fa (.glo "numbers"), .fa (.glo "happens"), .fa (.glo "law")]
def fns : List He5.DefA := [gdef "_law_box" s__law_box, gdef "_law_take" s__law_take, gdef "_law_pick" s__law_pick, gdef "_law_rule" s__law_rule, gdef "number_in" s_number_in, gdef "numbers_in" s_numbers_in, gdef "share_in" s_share_in, gdef "is_word" s_is_word, gdef "words_between" s_words_between, gdef "is_integer" s_is_integer, gdef "is_from" s_is_from, gdef "is_number" s_is_number, gdef "wrong_number" s_wrong_number, gdef "wrong_word" s_wrong_word, mdef "Rule" "__init__" "Rule.__init__" s_Rule___init__, cdef "Rule" "read" "Rule.read" s_Rule_read, gdef "_law_rule_text" s__law_rule_text, gdef "_law_rule_of" s__law_rule_of, gdef "_law_begin" s__law_begin, gdef "_law_outs" s__law_outs, gdef "_law_limit" s__law_limit, gdef "_law_back" s__law_back, gdef "_law_time" s__law_time, gdef "_law_cap" s__law_cap, gdef "_law_out" s__law_out, gdef "_law_faulted" s__law_faulted, gdef "_law_turn" s__law_turn, gdef "_law_word" s__law_word, gdef "_law_go" s__law_go, gdef "_law_can" s__law_can, gdef "_law_drawn_event" s__law_drawn_event, gdef "need_goal" s_need_goal, gdef "up_to" s_up_to, gdef "least_short" s_least_short, mdef "Rule" "time" "Rule.time" s_Rule_time, gdef "is_lasting" s_is_lasting, gdef "is_missable" s_is_missable, gdef "numbers" s_numbers, gdef "happens" s_happens, gdef "law" s_law]
def exs (K : PySem.W.Frag) : Bool := fxs.all fun f => f.ok K
abbrev hR : PySem.W.OpenRow := PySem.W.OpenLaw.row PySem.Challenge.rw_sitout_k35_goals_that_are_met
def htabs : Tabs := [("ROUNDS", ["down", "up"])]
abbrev hk : PySem.W.Hook := hookW 5 exs fns htabs
def hob (s : PySem.W.SharedT) : hk.α := obsWG 5 exs fns htabs (HandSHeadRun.getT s)
theorem hob_eq (s : PySem.W.SharedT) : hob s = hk.obs s.abs := obsWG_eq (HandSHeadRun.getT_eq s)
def hnm0 : List PySem.Str := ["_wall", "__name__", "SitError", "InvalidRule", "InvalidText", "InvalidGoal", "GOALS", "DIGITS", "is_integer", "is_number", "is_from", "is_word", "number_in", "need_goal", "up_to", "is_lasting", "is_missable", "least_short", "numbers", "happens", "BACKS", "HEARD", "ROUNDS", "wrong_number", "wrong_word", "numbers_in", "share_in", "Rule", "words_between", "_law_box"]
def hnm1 : List PySem.Str := ["_law_take", "_law_pick", "_law_rule", "_law_rule_text", "_law_rule_of", "_law_time", "_law_cap", "_law_limit", "_law_out", "_law_back", "_law_faulted", "_law_turn", "_law_word", "_law_begin", "_law_outs", "_law_can", "_law_go", "_law_drawn_event"]
def hnames : List PySem.Str := hnm0 ++ hnm1
theorem run_join {r : PySem.W.OpenRow} {q : Program} {H : PySem.W.Hook} {ob : PySem.W.SharedT → H.α} {M : Nat} {loose : List PySem.Str} {w : World} (h1 : HandSHeadRun.RunEq r q PySem.W.Hook.none (fun _ => ()) M loose w)
    (h2 : ∀ os : OsState, (HandSHeadRun.endF (HandSHeadRun.stepQ (HandSHeadRun.denQ HandSHeadRun.tabQ) r.prog w) M r.prog w os).map ob = some (H.val w)) : HandSHeadRun.RunEq r q H ob M loose w := by
  intro os
  have e1 := h1 os
  obtain ⟨s, hs, e2⟩ := Option.map_eq_some_iff.mp (h2 os)
  rw [hs] at e1 ⊢
  have e3 := Option.some.inj e1
  exact congrArg some (Prod.ext (congrArg (fun x => x.1) e3) (Prod.ext (congrArg (fun x => x.2.1) e3) e2))
def hK (s : PySem.W.SharedT) : PySem.W.Frag := He.frG (HandSHeadRun.getT s) (He5.asA (HandSHeadRun.getT s) 5)
def fx1 : List Fx := fxs.take 39
def fx2 : List Fx := fxs.drop 39
theorem exs_two (K : PySem.W.Frag) (h1 : (fx1.all fun f => f.ok K) = true) (h2 : (fx2.all fun f => f.ok K) = true) : exs K = true := by
  unfold exs
  have e : fxs = fx1 ++ fx2 := (List.take_append_drop _ _).symm
  rw [e, List.all_append, h1, h2]
  rfl
theorem read_join {o : Option PySem.W.SharedT} {v : hk.α} (h1 : o.map (fun s => fx1.all fun f => f.ok (hK s)) = some true) (h2 : o.map (fun s => fx2.all fun f => f.ok (hK s)) = some true)
    (h3 : o.map (fun s => (((true && fns.all fun d => d.ok (hK s), fns.map fun d => He5.fnA (hK s) (d.at_ (hK s))), L3.tabsOf htabs (hK s)) : hk.α)) = some v) : o.map hob = some v := by
  obtain ⟨s, rfl, e1⟩ := Option.map_eq_some_iff.mp h1
  have e2 := Option.some.inj h2
  have e3 := Option.some.inj h3
  refine congrArg some (Eq.trans ?_ e3)
  show (((exs (hK s) && fns.all fun d => d.ok (hK s), fns.map fun d => He5.fnA (hK s) (d.at_ (hK s))), L3.tabsOf htabs (hK s)) : hk.α) = _
  rw [exs_two _ e1 e2]
theorem hlookA (w : World) : HandSHeadRun.RunEq hR (PySem.W.view hR.prog [52]) PySem.W.Hook.none (fun _ => ()) 8000 hnames (w.withFollow "special-get-raises" false) := by
  intro os
  kernel_rfl
theorem hreadA1 (w : World) : ∀ os : OsState, (HandSHeadRun.endF (HandSHeadRun.stepQ (HandSHeadRun.denQ HandSHeadRun.tabQ) hR.prog (w.withFollow "special-get-raises" false)) 8000 hR.prog (w.withFollow "special-get-raises" false) os).map (fun s => fx1.all fun f => f.ok (hK s)) = some true := by
  intro os
  kernel_rfl
theorem hreadA2 (w : World) : ∀ os : OsState, (HandSHeadRun.endF (HandSHeadRun.stepQ (HandSHeadRun.denQ HandSHeadRun.tabQ) hR.prog (w.withFollow "special-get-raises" false)) 8000 hR.prog (w.withFollow "special-get-raises" false) os).map (fun s => fx2.all fun f => f.ok (hK s)) = some true := by
  intro os
  kernel_rfl
theorem hreadA3 (w : World) : ∀ os : OsState, (HandSHeadRun.endF (HandSHeadRun.stepQ (HandSHeadRun.denQ HandSHeadRun.tabQ) hR.prog (w.withFollow "special-get-raises" false)) 8000 hR.prog (w.withFollow "special-get-raises" false) os).map (fun s => (((true && fns.all fun d => d.ok (hK s), fns.map fun d => He5.fnA (hK s) (d.at_ (hK s))), L3.tabsOf htabs (hK s)) : hk.α)) = some (hk.val (w.withFollow "special-get-raises" false)) := by
  intro os
  kernel_rfl
theorem hrunA (w : World) : HandSHeadRun.RunEq hR (PySem.W.view hR.prog [52]) hk hob 8000 hnames (w.withFollow "special-get-raises" false) := run_join (hlookA w) fun os => read_join (hreadA1 w os) (hreadA2 w os) (hreadA3 w os)
theorem hlookB (w : World) : HandSHeadRun.RunEq hR (PySem.W.view hR.prog [52]) PySem.W.Hook.none (fun _ => ()) 8000 hnames (w.withFollow "special-get-raises" true) := by
  intro os
  kernel_rfl
theorem hreadB1 (w : World) : ∀ os : OsState, (HandSHeadRun.endF (HandSHeadRun.stepQ (HandSHeadRun.denQ HandSHeadRun.tabQ) hR.prog (w.withFollow "special-get-raises" true)) 8000 hR.prog (w.withFollow "special-get-raises" true) os).map (fun s => fx1.all fun f => f.ok (hK s)) = some true := by
  intro os
  kernel_rfl
theorem hreadB2 (w : World) : ∀ os : OsState, (HandSHeadRun.endF (HandSHeadRun.stepQ (HandSHeadRun.denQ HandSHeadRun.tabQ) hR.prog (w.withFollow "special-get-raises" true)) 8000 hR.prog (w.withFollow "special-get-raises" true) os).map (fun s => fx2.all fun f => f.ok (hK s)) = some true := by
  intro os
  kernel_rfl
theorem hreadB3 (w : World) : ∀ os : OsState, (HandSHeadRun.endF (HandSHeadRun.stepQ (HandSHeadRun.denQ HandSHeadRun.tabQ) hR.prog (w.withFollow "special-get-raises" true)) 8000 hR.prog (w.withFollow "special-get-raises" true) os).map (fun s => (((true && fns.all fun d => d.ok (hK s), fns.map fun d => He5.fnA (hK s) (d.at_ (hK s))), L3.tabsOf htabs (hK s)) : hk.α)) = some (hk.val (w.withFollow "special-get-raises" true)) := by
  intro os
  kernel_rfl
theorem hrunB (w : World) : HandSHeadRun.RunEq hR (PySem.W.view hR.prog [52]) hk hob 8000 hnames (w.withFollow "special-get-raises" true) := run_join (hlookB w) fun os => read_join (hreadB1 w os) (hreadB2 w os) (hreadB3 w os)
theorem hrun (w : World) : HandSHeadRun.RunEq hR (PySem.W.view hR.prog [52]) hk hob 8000 hnames w := PySem.W.byRow2 "special-get-raises" hrunA hrunB w
end L4
namespace L4
open PySem L2
abbrev Ss := List (Option D)
abbrev EF := Ss → M → Option (D × M)
abbrev TF := Ss → M → Option (Bool × M)
abbrev AF := Ss → M → Option (List D × M)
abbrev GF := D → Ss → M → Option (Ss × M)
inductive Fl where
  | nx (ρ : Ss) | rt (d : D) | bk (ρ : Ss) | ct (ρ : Ss)
abbrev SF := Ss → M → Option (Fl × M)
structure RepS (g : G) (T : Tk) (H : Hp) (σ : L2.St) (ρ : Ss) : Prop where
  len : σ.length = ρ.length
  at_ : ∀ (i : Nat) d, ρ[i]? = some (some d) → ∃ v, σ[i]? = some (some v) ∧ Rep g T H d v
section
variable {g : G} {T T1 : Tk} {H H1 : Hp} {σ : L2.St} {ρ : Ss}
theorem RepS.le (l : Le T H T1 H1) (r : RepS g T H σ ρ) : RepS g T1 H1 σ ρ := ⟨r.len, fun i d h => by obtain ⟨v, e, q⟩ := r.at_ i d h; exact ⟨v, e, q.le l⟩⟩
theorem RepS.set {i : Nat} {d : D} {v : V} (r : RepS g T H σ ρ) (q : Rep g T H d v) : RepS g T H (σ.set i (some v)) (ρ.set i (some d)) := by
  refine ⟨by simp [r.len], fun j e h => ?_⟩
  by_cases hj : i = j
  · subst hj
    have hl : i < ρ.length := by
      have := (List.getElem?_eq_some_iff.mp h).1
      simpa using this
    rw [List.getElem?_set_self hl] at h
    cases h
    exact ⟨v, by rw [List.getElem?_set_self (by rw [r.len]; exact hl)], q⟩
  · rw [List.getElem?_set_ne hj] at h
    obtain ⟨u, e1, q1⟩ := r.at_ j e h
    exact ⟨u, by rw [List.getElem?_set_ne hj]; exact e1, q1⟩
end
/-- what follows a value -/
def KV (g : G) (T : Tk) (H : Hp) (m : M) (d : D) (Q : VK) : Prop := ∀ v T' H', Le T H T' H' → RepH g T' H' m → Rep g T' H' d v → Q v H'
def KB (g : G) (T : Tk) (H : Hp) (m : M) (b : Bool) (Q : Bool → Hp → Prop) : Prop := ∀ T' H', Le T H T' H' → RepH g T' H' m → Q b H'
def KA (g : G) (T : Tk) (H : Hp) (m : M) (ds : List D) (Q : List V → Hp → Prop) : Prop := ∀ vs T' H', Le T H T' H' → RepH g T' H' m → RepL g T' H' ds vs → Q vs H'
def KS (g : G) (T : Tk) (H : Hp) (m : M) (ρ : Ss) (Q : L2.St → Hp → Prop) : Prop := ∀ σ T' H', Le T H T' H' → RepH g T' H' m → RepS g T' H' σ ρ → Q σ H'
def KF (g : G) (T : Tk) (H : Hp) (m : M) (r : Fl) (D : Ends) : Prop := match r with
  | .nx ρ => KS g T H m ρ D.nx
  | .rt d => KV g T H m d D.rt
  | .bk ρ => KS g T H m ρ D.bk
  | .ct ρ => KS g T H m ρ D.ct
section
variable {g : G} {T T1 : Tk} {H H1 : Hp} {m : M}
theorem KV.le {d : D} {Q : VK} (l : Le T H T1 H1) (k : KV g T H m d Q) : KV g T1 H1 m d Q := fun v T' H' l' => k v T' H' (l.trans l')
theorem KB.le {d : Bool} {Q : Bool → Hp → Prop} (l : Le T H T1 H1) (k : KB g T H m d Q) : KB g T1 H1 m d Q := fun T' H' l' => k T' H' (l.trans l')
theorem KA.le {d : List D} {Q : List V → Hp → Prop} (l : Le T H T1 H1) (k : KA g T H m d Q) : KA g T1 H1 m d Q := fun v T' H' l' => k v T' H' (l.trans l')
theorem KS.le {ρ : Ss} {Q : L2.St → Hp → Prop} (l : Le T H T1 H1) (k : KS g T H m ρ Q) : KS g T1 H1 m ρ Q := fun v T' H' l' => k v T' H' (l.trans l')
theorem KF.le {r : Fl} {D : Ends} (l : Le T H T1 H1) (k : KF g T H m r D) : KF g T1 H1 m r D := by
  cases r with
  | nx ρ => exact KS.le l k
  | rt d => exact KV.le l k
  | bk ρ => exact KS.le l k
  | ct ρ => exact KS.le l k
end
def RfE (g : G) (t : TE) (f : EF) : Prop := ∀ T σ H ρ m d m', RepH g T H m → RepS g T H σ ρ → f ρ m = some (d, m') → ∀ Q : VK, KV g T H m' d Q → t σ H Q
def RfT (g : G) (t : TT) (f : TF) : Prop := ∀ T σ H ρ m b m', RepH g T H m → RepS g T H σ ρ → f ρ m = some (b, m') → ∀ Q, KB g T H m' b Q → t σ H Q
def RfA (g : G) (t : TA) (f : AF) : Prop := ∀ T σ H ρ m ds m', RepH g T H m → RepS g T H σ ρ → f ρ m = some (ds, m') → ∀ Q, KA g T H m' ds Q → t σ H Q
def RfG (g : G) (t : TG) (f : GF) : Prop := ∀ T σ H ρ m d v ρ' m', RepH g T H m → RepS g T H σ ρ → Rep g T H d v → f d ρ m = some (ρ', m') → ∀ Q, KS g T H m' ρ' Q → t v σ H Q
def RfS (g : G) (t : TS) (f : SF) : Prop := ∀ T σ H ρ m r m', RepH g T H m → RepS g T H σ ρ → f ρ m = some (r, m') → ∀ D : Ends, KF g T H m' r D → t D σ H
structure DE (X : Cx) (e : Expr) (f : EF) : Prop where
  ex : ∃ t, PE X e t ∧ RfE (gx X) t f
structure DT (X : Cx) (e : Expr) (f : TF) : Prop where
  ex : ∃ t, PT X e t ∧ RfT (gx X) t f
structure DW (X : Cx) (e : Expr) (f : TF) : Prop where
  ex : ∃ t, PW X e t ∧ RfT (gx X) t f
structure DA (X : Cx) (es : List Expr) (f : AF) : Prop where
  ex : ∃ t, PA X es t ∧ RfA (gx X) t f
structure DG (X : Cx) (e : Expr) (f : GF) : Prop where
  ex : ∃ t, PG X e t ∧ RfG (gx X) t f
structure DS (X : Cx) (s : Stmt) (f : SF) : Prop where
  ex : ∃ t, PS X s t ∧ RfS (gx X) t f
structure DSs (X : Cx) (s : List Stmt) (f : SF) : Prop where
  ex : ∃ t, PSs X s t ∧ RfS (gx X) t f
def bd {α β : Type} (r : Option (α × M)) (k : α → M → Option (β × M)) : Option (β × M) := match r with
  | some (d, m) => k d m
  | none => none
theorem bd_some {α β : Type} {r : Option (α × M)} {k : α → M → Option (β × M)} {b : β} {m' : M} (h : bd r k = some (b, m')) : ∃ d m, r = some (d, m) ∧ k d m = some (b, m') := by
  cases r with
  | none => cases h
  | some p => exact ⟨p.1, p.2, rfl, h⟩
@[simp] theorem bd_go {α β : Type} {d : α} {m : M} {k : α → M → Option (β × M)} : bd (some (d, m)) k = k d m := rfl
@[simp] theorem bd_no {α β : Type} {k : α → M → Option (β × M)} : bd none k = none := rfl
/-- a value that needs no heap -/
def pu {α : Type} (r : Option α) (m : M) : Option (α × M) := r.map (·, m)
theorem pu_some {α : Type} {r : Option α} {a : α} {m m' : M} (h : pu r m = some (a, m')) : r = some a ∧ m' = m := by
  cases r with
  | none => cases h
  | some b => cases h; exact ⟨rfl, rfl⟩
@[simp] theorem pu_go {α : Type} {a : α} {m : M} : pu (some a) m = some (a, m) := rfl
@[simp] theorem pu_no {α : Type} {m : M} : pu (none : Option α) m = none := rfl
def eVar (i : Nat) : EF := fun ρ m => pu (ρ.getD i none) m
def eC (d : D) : EF := fun _ m => some (d, m)
def eOp (f : M → D → D → Option D) (a b : EF) : EF := fun ρ m => bd (a ρ m) fun x m1 => bd (b ρ m1) fun y m2 => pu (f m2 x y) m2
def eUn (f : M → D → Option D) (a : EF) : EF := fun ρ m => bd (a ρ m) fun x m1 => pu (f m1 x) m1
def eCall (f : M → List D → Option D) (a : AF) : EF := fun ρ m => bd (a ρ m) fun xs m1 => pu (f m1 xs) m1
def aNil : AF := fun _ m => some ([], m)
def aCons (a : EF) (r : AF) : AF := fun ρ m => bd (a ρ m) fun x m1 => bd (r ρ m1) fun xs m2 => some (x :: xs, m2)
def tVal (a : EF) : TF := fun ρ m => bd (a ρ m) fun x m1 => match x with
  | .bl b => some (b, m1)
  | _ => none
def tAnd (a b : TF) : TF := fun ρ m => bd (a ρ m) fun x m1 => if x then b ρ m1 else some (false, m1)
def tOr (a b : TF) : TF := fun ρ m => bd (a ρ m) fun x m1 => if x then some (true, m1) else b ρ m1
def tNot (a : TF) : TF := fun ρ m => bd (a ρ m) fun x m1 => some (!x, m1)
def eAnd (a b : EF) : EF := fun ρ m => bd (a ρ m) fun x m1 => match x with
  | .bl true => b ρ m1
  | .bl false => some (.bl false, m1)
  | _ => none
def eOr (a b : EF) : EF := fun ρ m => bd (a ρ m) fun x m1 => match x with
  | .bl true => some (.bl true, m1)
  | .bl false => b ρ m1
  | _ => none
def eIf (c : TF) (a b : EF) : EF := fun ρ m => bd (c ρ m) fun x m1 => if x then a ρ m1 else b ρ m1
def gNm (i : Nat) : GF := fun d ρ m => some (ρ.set i (some d), m)
def sAsg (a : EF) (g : GF) : SF := fun ρ m => bd (a ρ m) fun x m1 => bd (g x ρ m1) fun ρ1 m2 => some (.nx ρ1, m2)
def sDrop (a : EF) : SF := fun ρ m => bd (a ρ m) fun _ m1 => some (.nx ρ, m1)
def sRet (a : EF) : SF := fun ρ m => bd (a ρ m) fun x m1 => some (.rt x, m1)
def sRetN : SF := fun _ m => some (.rt .non, m)
def sNop : SF := fun ρ m => some (.nx ρ, m)
def sBrk : SF := fun ρ m => some (.bk ρ, m)
def sCont : SF := fun ρ m => some (.ct ρ, m)
def sIf (c : TF) (a b : SF) : SF := fun ρ m => bd (c ρ m) fun x m1 => if x then a ρ m1 else b ρ m1
def sSeq (a b : SF) : SF := fun ρ m => bd (a ρ m) fun x m1 => match x with
  | .nx ρ1 => b ρ1 m1
  | r => some (r, m1)
section
variable {X : Cx} {pos : Pos}
theorem de_var {i : Nat} {x : Str} (hN : X.N[i]? = some x) (hv : Vis X.env.scope x) (hd : (x == ("__debug__" : Str)) = false := by decide) (hcd : (x == ("__classdict__" : Str)) = false := by decide) : DE X (.Name x pos) (eVar i) := by
  refine ⟨_, pe_var hN hv hd hcd, fun T σ H ρ m d m' hm hs hf Q k => ?_⟩
  obtain ⟨e, rfl⟩ := pu_some hf
  obtain ⟨v, e1, r⟩ := hs.at_ i d (by
    rw [List.getD_eq_getElem?_getD] at e
    cases h : ρ[i]? with
    | none => rw [h] at e; cases e
    | some o => rw [h] at e; cases e; rfl)
  exact ⟨v, e1, k v T H .refl hm r⟩
theorem rf_c {g : G} {v : V} {d : D} (h : ∀ T H, Rep g T H d v) : RfE g (tC v) (eC d) := by
  intro T σ H ρ m d m' hm hs hf Q k
  cases hf
  exact k v T H .refl hm (h T H)
theorem de_int {i j} : DE X (.Constant (.int i) j pos) (eC (.int i)) := ⟨_, pe_int, rf_c fun _ _ => .int i⟩
theorem de_bl {i j} : DE X (.Constant (.bool i) j pos) (eC (.bl i)) := ⟨_, pe_bl, rf_c fun _ _ => .bl i⟩
theorem de_str {i j} : DE X (.Constant (.str i) j pos) (eC (.str i)) := ⟨_, pe_str, rf_c fun _ _ => .str i⟩
theorem de_non {j} : DE X (.Constant .none j pos) (eC .non) := ⟨_, pe_non, rf_c fun _ _ => .non⟩
/-- an operation of two values -/
def RfO (g : G) (r : R2) (f : M → D → D → Option D) : Prop := ∀ T H m x y v u d, RepH g T H m → Rep g T H x v → Rep g T H y u → f m x y = some d → ∀ Q : VK, KV g T H m d Q → r v u H Q
def RfU (g : G) (r : V → Hp → VK → Prop) (f : M → D → Option D) : Prop := ∀ T H m x v d, RepH g T H m → Rep g T H x v → f m x = some d → ∀ Q : VK, KV g T H m d Q → r v H Q
def RfC (g : G) (r : List V → Hp → VK → Prop) (f : M → List D → Option D) : Prop := ∀ T H m xs vs d, RepH g T H m → RepL g T H xs vs → f m xs = some d → ∀ Q : VK, KV g T H m d Q → r vs H Q
theorem rf_op {g : G} {r : R2} {f : M → D → D → Option D} {ta tb : TE} {a b : EF} (hr : RfO g r f) (ha : RfE g ta a) (hb : RfE g tb b) : RfE g (tOp r ta tb) (eOp f a b) := by
  intro T σ H ρ m d m' hm hs hf Q k
  obtain ⟨x, m1, e1, hf⟩ := bd_some hf
  obtain ⟨y, m2, e2, hf⟩ := bd_some hf
  obtain ⟨e3, rfl⟩ := pu_some hf
  refine ha T σ H ρ m x m1 hm hs e1 _ fun v T1 H1 l1 hm1 r1 => ?_
  refine hb T1 σ H1 ρ m1 y _ hm1 (hs.le l1) e2 _ fun u T2 H2 l2 hm2 r2 => ?_
  exact hr T2 H2 _ x y v u d hm2 (r1.le l2) r2 e3 Q (k.le (l1.trans l2))
theorem rf_un {g : G} {r : V → Hp → VK → Prop} {f : M → D → Option D} {ta : TE} {a : EF} (hr : RfU g r f) (ha : RfE g ta a) : RfE g (tUn r ta) (eUn f a) := by
  intro T σ H ρ m d m' hm hs hf Q k
  obtain ⟨x, m1, e1, hf⟩ := bd_some hf
  obtain ⟨e3, rfl⟩ := pu_some hf
  refine ha T σ H ρ m x _ hm hs e1 _ fun v T1 H1 l1 hm1 r1 => ?_
  exact hr T1 H1 _ x v d hm1 r1 e3 Q (k.le l1)
theorem rf_call {g : G} {r : List V → Hp → VK → Prop} {f : M → List D → Option D} {ta : TA} {a : AF} (hr : RfC g r f) (ha : RfA g ta a) : RfE g (tCB r ta) (eCall f a) := by
  intro T σ H ρ m d m' hm hs hf Q k
  obtain ⟨x, m1, e1, hf⟩ := bd_some hf
  obtain ⟨e3, rfl⟩ := pu_some hf
  refine ha T σ H ρ m x _ hm hs e1 _ fun v T1 H1 l1 hm1 r1 => ?_
  exact hr T1 H1 _ x v d hm1 r1 e3 Q (k.le l1)
/-- an operator that is known by a function on data -/
structure OpD (X : Cx) (F : Value → Value → Sem Value) (f : M → D → D → Option D) : Prop where
  ex : ∃ r, OpR X F r ∧ RfO (gx X) r f
structure CallD (X : Cx) (F : Value) (f : M → List D → Option D) : Prop where
  ex : ∃ r, CallR X F r ∧ RfC (gx X) r f
structure UnD (X : Cx) (F : Value → Sem Value) (f : M → D → Option D) : Prop where
  ex : ∃ r, UnR X F r ∧ RfU (gx X) r f
theorem de_op {a b : Expr} {fa fb : EF} {op : Operator} {f} (ho : OpD X (binaryOp op) f) (ha : DE X a fa) (hb : DE X b fb) : DE X (.BinOp a op b pos) (eOp f fa fb) := by
  obtain ⟨r, h, q⟩ := ho.ex; obtain ⟨ta, pa, ra⟩ := ha.ex; obtain ⟨tb, pb, rb⟩ := hb.ex
  exact ⟨_, pe_op h pa pb, rf_op q ra rb⟩
theorem de_un {a : Expr} {fa : EF} {op : UnaryOp} {f} (ho : UnD X (unaryOp op) f) (ha : DE X a fa) : DE X (.UnaryOp op a pos) (eUn f fa) := by
  obtain ⟨r, h, q⟩ := ho.ex; obtain ⟨ta, pa, ra⟩ := ha.ex
  exact ⟨_, pe_un h pa, rf_un q ra⟩
theorem de_cmp {a b : Expr} {fa fb : EF} {op : CmpOp} {f} (ho : OpD X (compareOp op) f) (ha : DE X a fa) (hb : DE X b fb) (hm : behindInMarks op b = false) : DE X (.Compare a [op] [b] pos) (eOp f fa fb) := by
  obtain ⟨r, h, q⟩ := ho.ex; obtain ⟨ta, pa, ra⟩ := ha.ex; obtain ⟨tb, pb, rb⟩ := hb.ex
  exact ⟨_, pe_cmpR h pa pb hm, rf_op q ra rb⟩
theorem rf_test {g : G} {t : TE} {f : EF} (h : RfE g t f) : RfT g (tTest t) (tVal f) := by
  intro T σ H ρ m b m' hm hs hf Q k
  obtain ⟨x, m1, e1, hf⟩ := bd_some hf
  cases x with
  | bl c =>
    cases hf
    refine h T σ H ρ m _ _ hm hs e1 _ fun v T1 H1 l1 hm1 r1 => ?_
    cases r1
    exact ⟨b, rfl, k T1 H1 l1 hm1⟩
  | _ => cases hf
theorem dt_cmp {a b : Expr} {fa fb : EF} {op : CmpOp} {f} (ho : OpD X (compareOp op) f) (ha : DE X a fa) (hb : DE X b fb) (hm : behindInMarks op b = false) : DT X (.Compare a [op] [b] pos) (tVal (eOp f fa fb)) := by
  obtain ⟨r, h, q⟩ := ho.ex; obtain ⟨ta, pa, ra⟩ := ha.ex; obtain ⟨tb, pb, rb⟩ := hb.ex
  exact ⟨_, pt_cmpR h pa pb hm, rf_test (rf_op q ra rb)⟩
theorem dt_val {a : Expr} {fa : EF} (ha : DE X a fa) (he : ∀ whole, isTrue a X.env whole = (do let v ← whole; standAt a.pos; holding [v] (truthy v)) := by intro _; rfl) : DT X a (tVal fa) := by
  obtain ⟨ta, pa, ra⟩ := ha.ex
  exact ⟨_, pt_val pa he, rf_test ra⟩
theorem da_nil : DA X [] aNil := ⟨_, pa_nil, fun T σ H ρ m ds m' hm hs hf Q k => by cases hf; exact k [] T H .refl hm .nil⟩
end
end L4
namespace L4
open PySem L2
section
variable {X : Cx} {pos : Pos} {g : G}
theorem rf_cons {te : TE} {ta : TA} {a : EF} {r : AF} (ha : RfE g te a) (hr : RfA g ta r) : RfA g (tCons te ta) (aCons a r) := by
  intro T σ H ρ m ds m' hm hs hf Q k
  obtain ⟨x, m1, e1, hf⟩ := bd_some hf
  obtain ⟨xs, m2, e2, hf⟩ := bd_some hf
  cases hf
  refine ha T σ H ρ m x m1 hm hs e1 _ fun v T1 H1 l1 hm1 r1 => ?_
  refine hr T1 σ H1 ρ m1 xs _ hm1 (hs.le l1) e2 _ fun vs T2 H2 l2 hm2 r2 => ?_
  exact k _ T2 H2 (l1.trans l2) hm2 (.cons (r1.le l2) r2)
theorem da_cons {e : Expr} {es : List Expr} {a : EF} {r : AF} (ha : DE X e a) (hr : DA X es r) (hs : starEach (e :: es) X.env = (false, eval e X.env) :: starEach es X.env := by rfl) : DA X (e :: es) (aCons a r) := by
  obtain ⟨ta, pa, ra⟩ := ha.ex; obtain ⟨tb, pb, rb⟩ := hr.ex
  exact ⟨_, pa_cons pa pb hs, rf_cons ra rb⟩
theorem rf_and {t u : TT} {a b : TF} (ha : RfT g t a) (hb : RfT g u b) : RfT g (L2.tAnd t u) (tAnd a b) := by
  intro T σ H ρ m d m' hm hs hf Q k
  obtain ⟨x, m1, e1, hf⟩ := bd_some hf
  refine ha T σ H ρ m x m1 hm hs e1 _ fun T1 H1 l1 hm1 => ?_
  cases x with
  | true => exact hb T1 σ H1 ρ m1 d m' hm1 (hs.le l1) hf Q (k.le l1)
  | false => cases hf; exact k T1 H1 l1 hm1
theorem rf_or {t u : TT} {a b : TF} (ha : RfT g t a) (hb : RfT g u b) : RfT g (L2.tOr t u) (tOr a b) := by
  intro T σ H ρ m d m' hm hs hf Q k
  obtain ⟨x, m1, e1, hf⟩ := bd_some hf
  refine ha T σ H ρ m x m1 hm hs e1 _ fun T1 H1 l1 hm1 => ?_
  cases x with
  | true => cases hf; exact k T1 H1 l1 hm1
  | false => exact hb T1 σ H1 ρ m1 d m' hm1 (hs.le l1) hf Q (k.le l1)
theorem rf_not {t : TT} {a : TF} (ha : RfT g t a) : RfT g (L2.tNot t) (tNot a) := by
  intro T σ H ρ m d m' hm hs hf Q k
  obtain ⟨x, m1, e1, hf⟩ := bd_some hf
  cases hf
  exact ha T σ H ρ m x _ hm hs e1 _ fun T1 H1 l1 hm1 => k T1 H1 l1 hm1
theorem dw_and {a b : Expr} {rest : List Expr} {f h : TF} (ha : DT X a f) (hb : DW X (.BoolOp .And (b :: rest) pos) h) : DW X (.BoolOp .And (a :: b :: rest) pos) (tAnd f h) := by
  obtain ⟨ta, pa, ra⟩ := ha.ex; obtain ⟨tb, pb, rb⟩ := hb.ex
  exact ⟨_, pw_and pa pb, rf_and ra rb⟩
theorem dw_and1 {a : Expr} {f : TF} (ha : DT X a f) : DW X (.BoolOp .And [a] pos) f := by
  obtain ⟨ta, pa, ra⟩ := ha.ex
  exact ⟨_, pw_and1 pa, ra⟩
theorem dw_or {a b : Expr} {rest : List Expr} {f h : TF} (ha : DT X a f) (hb : DW X (.BoolOp .Or (b :: rest) pos) h) : DW X (.BoolOp .Or (a :: b :: rest) pos) (tOr f h) := by
  obtain ⟨ta, pa, ra⟩ := ha.ex; obtain ⟨tb, pb, rb⟩ := hb.ex
  exact ⟨_, pw_or pa pb, rf_or ra rb⟩
theorem dw_or1 {a : Expr} {f : TF} (ha : DT X a f) : DW X (.BoolOp .Or [a] pos) f := by
  obtain ⟨ta, pa, ra⟩ := ha.ex
  exact ⟨_, pw_or1 pa, ra⟩
theorem dt_w {a : Expr} {f : TF} (ha : DW X a f) : DT X a f := by
  obtain ⟨ta, pa, ra⟩ := ha.ex
  exact ⟨_, pa.pt, ra⟩
theorem dt_not {a : Expr} {f : TF} (ha : DT X a f) : DT X (.UnaryOp .Not a pos) (tNot f) := by
  obtain ⟨ta, pa, ra⟩ := ha.ex
  exact ⟨_, pt_not pa, rf_not ra⟩
theorem de_one {a : Expr} {op} {f : EF} (ha : DE X a f) : DE X (.BoolOp op [a] pos) f := by
  obtain ⟨ta, pa, ra⟩ := ha.ex
  exact ⟨_, pe_one pa, ra⟩
theorem de_and {a b : Expr} {rest : List Expr} {f h : EF} (ha : DE X a f) (hb : DE X (.BoolOp .And (b :: rest) pos) h) : DE X (.BoolOp .And (a :: b :: rest) pos) (eAnd f h) := by
  obtain ⟨ta, pa, ra⟩ := ha.ex; obtain ⟨tb, pb, rb⟩ := hb.ex
  refine ⟨_, pe_and pa pb, fun T σ H ρ m d m' hm hs hf Q k => ?_⟩
  obtain ⟨x, m1, e1, hf⟩ := bd_some hf
  refine ra T σ H ρ m x m1 hm hs e1 _ fun v T1 H1 l1 hm1 r1 => ?_
  cases r1 with
  | bl c => cases c with
    | true => exact ⟨true, rfl, rb T1 σ H1 ρ m1 d m' hm1 (hs.le l1) hf Q (k.le l1)⟩
    | false => cases hf; exact ⟨false, rfl, k _ T1 H1 l1 hm1 (.bl _)⟩
  | _ => cases hf
theorem de_or {a b : Expr} {rest : List Expr} {f h : EF} (ha : DE X a f) (hb : DE X (.BoolOp .Or (b :: rest) pos) h) : DE X (.BoolOp .Or (a :: b :: rest) pos) (eOr f h) := by
  obtain ⟨ta, pa, ra⟩ := ha.ex; obtain ⟨tb, pb, rb⟩ := hb.ex
  refine ⟨_, pe_or pa pb, fun T σ H ρ m d m' hm hs hf Q k => ?_⟩
  obtain ⟨x, m1, e1, hf⟩ := bd_some hf
  refine ra T σ H ρ m x m1 hm hs e1 _ fun v T1 H1 l1 hm1 r1 => ?_
  cases r1 with
  | bl c => cases c with
    | false => exact ⟨false, rfl, rb T1 σ H1 ρ m1 d m' hm1 (hs.le l1) hf Q (k.le l1)⟩
    | true => cases hf; exact ⟨true, rfl, k _ T1 H1 l1 hm1 (.bl _)⟩
  | _ => cases hf
def eNot (a : EF) : EF := fun ρ m => bd (a ρ m) fun x m1 => match x with
  | .bl b => some (.bl (!b), m1)
  | _ => none
theorem de_not {a : Expr} {f : EF} (ha : DE X a f) : DE X (.UnaryOp .Not a pos) (eNot f) := by
  obtain ⟨ta, pa, ra⟩ := ha.ex
  refine ⟨_, pe_not pa, fun T σ H ρ m d m' hm hs hf Q k => ?_⟩
  obtain ⟨x, m1, e1, hf⟩ := bd_some hf
  refine ra T σ H ρ m x m1 hm hs e1 _ fun v T1 H1 l1 hm1 r1 => ?_
  cases r1 with
  | bl c => cases hf; exact ⟨c, rfl, k _ T1 H1 l1 hm1 (.bl _)⟩
  | _ => cases hf
def isNon : D → Bool
  | .non => true
  | _ => false
def eIsN (a : EF) : EF := fun ρ m => bd (a ρ m) fun x m1 => some (.bl (isNon x), m1)
def eNotN (a : EF) : EF := fun ρ m => bd (a ρ m) fun x m1 => some (.bl (!isNon x), m1)
theorem Rep.isN {T : Tk} {H : Hp} {d : D} {v : V} (r : Rep g T H d v) : decide (v = .non) = isNon d := by cases r <;> rfl
theorem rf_isN {t : TE} {f : EF} (ra : RfE g t f) : RfE g (tIsN t) (eIsN f) := by
  intro T σ H ρ m d m' hm hs hf Q k
  obtain ⟨x, m1, e1, hf⟩ := bd_some hf
  cases hf
  refine ra T σ H ρ m x _ hm hs e1 _ fun v T1 H1 l1 hm1 r1 => ?_
  rw [r1.isN]
  exact k _ T1 H1 l1 hm1 (.bl _)
theorem rf_notN {t : TE} {f : EF} (ra : RfE g t f) : RfE g (tNotN t) (eNotN f) := by
  intro T σ H ρ m d m' hm hs hf Q k
  obtain ⟨x, m1, e1, hf⟩ := bd_some hf
  cases hf
  refine ra T σ H ρ m x _ hm hs e1 _ fun v T1 H1 l1 hm1 r1 => ?_
  rw [r1.isN]
  exact k _ T1 H1 l1 hm1 (.bl _)
theorem rf_tB {t : TE} {f : EF} (h : RfE g t f) : RfT g (tB t) (tVal f) := rf_test h
theorem de_notN {a : Expr} {f : EF} {j pos'} (ha : DE X a f) : DE X (.Compare a [.IsNot] [.Constant .none j pos'] pos) (eNotN f) := by
  obtain ⟨ta, pa, ra⟩ := ha.ex
  exact ⟨_, pe_cmp (pc_notN pa), rf_notN ra⟩
theorem dt_isN {a : Expr} {f : EF} {j pos'} (ha : DE X a f) : DT X (.Compare a [.Is] [.Constant .none j pos'] pos) (tVal (eIsN f)) := by
  obtain ⟨ta, pa, ra⟩ := ha.ex
  exact ⟨_, pt_cmp (pc_isN pa), rf_tB (rf_isN ra)⟩
theorem dt_notN {a : Expr} {f : EF} {j pos'} (ha : DE X a f) : DT X (.Compare a [.IsNot] [.Constant .none j pos'] pos) (tVal (eNotN f)) := by
  obtain ⟨ta, pa, ra⟩ := ha.ex
  exact ⟨_, pt_cmp (pc_notN pa), rf_tB (rf_notN ra)⟩
theorem de_if {c a b : Expr} {fc : TF} {fa fb : EF} (hc : DT X c fc) (ha : DE X a fa) (hb : DE X b fb) : DE X (.IfExp c a b pos) (eIf fc fa fb) := by
  obtain ⟨tc, pc, rc⟩ := hc.ex; obtain ⟨ta, pa, ra⟩ := ha.ex; obtain ⟨tb, pb, rb⟩ := hb.ex
  refine ⟨_, pe_ifExp pc pa pb, fun T σ H ρ m d m' hm hs hf Q k => ?_⟩
  obtain ⟨x, m1, e1, hf⟩ := bd_some hf
  refine rc T σ H ρ m x m1 hm hs e1 _ fun T1 H1 l1 hm1 => ?_
  cases x with
  | true => exact ra T1 σ H1 ρ m1 d m' hm1 (hs.le l1) hf Q (k.le l1)
  | false => exact rb T1 σ H1 ρ m1 d m' hm1 (hs.le l1) hf Q (k.le l1)
theorem rf_asg {te : TE} {tg : TG} {a : EF} {f : GF} (ha : RfE g te a) (hg : RfG g tg f) : RfS g (tAsg te tg) (sAsg a f) := by
  intro T σ H ρ m d m' hm hs hf D k
  obtain ⟨x, m1, e1, hf⟩ := bd_some hf
  obtain ⟨ρ1, m2, e2, hf⟩ := bd_some hf
  cases hf
  refine ha T σ H ρ m x m1 hm hs e1 _ fun v T1 H1 l1 hm1 r1 => ?_
  exact hg T1 σ H1 ρ m1 x v ρ1 _ hm1 (hs.le l1) r1 e2 _ (KS.le l1 k)
theorem ds_asg {tg e : Expr} {a : EF} {f : GF} (ha : DE X e a) (hg : DG X tg f) (hs : swapsWithSole [tg] e pos.line X.env = pure false := by rfl) (hw : swappedStores [tg] e X.env = pure none := by rfl)
    (h1 : (assignEach [tg] X.env).map (·.2) = [assign tg X.env] := by rfl) : DS X (.Assign [tg] e pos) (sAsg a f) := by
  obtain ⟨ta, pa, ra⟩ := ha.ex; obtain ⟨tb, pb, rb⟩ := hg.ex
  exact ⟨_, ps_asg pa pb hs hw h1, rf_asg ra rb⟩
theorem ds_set {i : Nat} {x : Str} {e : Expr} {a : EF} {pos' : Pos} (hN : X.N.Nodup) (hi : X.N[i]? = some x) (hx : Loc X.env.scope x) (he : DE X e a) (hs : swapsWith e (some (.Name x pos')) pos.line X.env = pure false := by rfl) (hf : X.fn x = true ∨ X.env.scope.names.lookup x = some .local := by first | exact .inl rfl | exact .inr rfl | assumption) :
    DS X (.Assign [.Name x pos'] e pos) (sAsg a (gNm i)) := by
  obtain ⟨ta, pa, ra⟩ := he.ex
  refine ⟨_, ps_set hN hi hx pa hs hf, rf_asg ra fun T σ H ρ m d v ρ' m' hm hs r hf Q k => ?_⟩
  cases hf
  exact k _ T H .refl hm (hs.set r)
theorem ds_expr {e : Expr} {a : EF} (he : DE X e a) (hs : swapsWith e none pos.line X.env = pure false := by rfl) : DS X (.Expr e pos) (sDrop a) := by
  obtain ⟨ta, pa, ra⟩ := he.ex
  refine ⟨_, ps_expr pa hs, fun T σ H ρ m d m' hm hs hf D k => ?_⟩
  obtain ⟨x, m1, e1, hf⟩ := bd_some hf
  cases hf
  exact ra T σ H ρ m x _ hm hs e1 _ fun v T1 H1 l1 hm1 r1 => k σ T1 H1 l1 hm1 (hs.le l1)
theorem ds_ret {e : Expr} {a : EF} (he : DE X e a) : DS X (.Return (some e) pos) (sRet a) := by
  obtain ⟨ta, pa, ra⟩ := he.ex
  refine ⟨_, ps_ret pa, fun T σ H ρ m d m' hm hs hf D k => ?_⟩
  obtain ⟨x, m1, e1, hf⟩ := bd_some hf
  cases hf
  exact ra T σ H ρ m x _ hm hs e1 _ k
theorem dss_nil : DSs X [] sNop := ⟨_, pss_nil, fun T σ H ρ m d m' hm hs hf D k => by cases hf; exact k _ T H .refl hm hs⟩
theorem dss_one {s : Stmt} {f : SF} (h : DS X s f) : DSs X [s] f := by
  obtain ⟨ta, pa, ra⟩ := h.ex
  exact ⟨_, pss_one pa, ra⟩
theorem dss_cons {s : Stmt} {r : List Stmt} {a b : SF} (h : DS X s a) (hr : DSs X r b) : DSs X (s :: r) (sSeq a b) := by
  obtain ⟨ta, pa, ra⟩ := h.ex; obtain ⟨tb, pb, rb⟩ := hr.ex
  refine ⟨_, pss_cons pa pb, fun T σ H ρ m d m' hm hs hf D k => ?_⟩
  obtain ⟨x, m1, e1, hf⟩ := bd_some hf
  refine ra T σ H ρ m x m1 hm hs e1 _ ?_
  cases x with
  | nx ρ1 => exact fun σ1 T1 H1 l1 hm1 hs1 => rb T1 σ1 H1 ρ1 m1 d m' hm1 hs1 hf D (KF.le l1 k)
  | rt d => cases hf; exact k
  | bk ρ => cases hf; exact k
  | ct ρ => cases hf; exact k
theorem ds_if {c : Expr} {a b : List Stmt} {fc : TF} {fa fb : SF} (hc : DT X c fc) (ha : DSs X a fa) (hb : DSs X b fb) : DS X (.If c a b pos) (sIf fc fa fb) := by
  obtain ⟨tc, pc, rc⟩ := hc.ex; obtain ⟨ta, pa, ra⟩ := ha.ex; obtain ⟨tb, pb, rb⟩ := hb.ex
  refine ⟨_, ps_if pc pa pb, fun T σ H ρ m d m' hm hs hf D k => ?_⟩
  obtain ⟨x, m1, e1, hf⟩ := bd_some hf
  refine rc T σ H ρ m x m1 hm hs e1 _ fun T1 H1 l1 hm1 => ?_
  cases x with
  | true => exact ra T1 σ H1 ρ m1 d m' hm1 (hs.le l1) hf D (KF.le l1 k)
  | false => exact rb T1 σ H1 ρ m1 d m' hm1 (hs.le l1) hf D (KF.le l1 k)
def sWhile (n : Nat) (c : TF) (b : SF) : SF := match n with
  | 0 => fun _ _ => none
  | n + 1 => fun ρ m => bd (c ρ m) fun x m1 => if x then bd (b ρ m1) fun r m2 => match r with
      | .nx ρ2 => sWhile n c b ρ2 m2
      | .ct ρ2 => sWhile n c b ρ2 m2
      | .bk ρ2 => some (.nx ρ2, m2)
      | .rt d => some (.rt d, m2)
    else some (.nx ρ, m1)
theorem ds_while {c : Expr} {body : List Stmt} {fc : TF} {fb : SF} (n : Nat) (hp : PassesOwn (model X.prog X.w) X.A X.env X.xe) (hc : DT X c fc) (hb : DSs X body fb) : DS X (.While c body [] pos) (sWhile n fc fb) := by
  obtain ⟨tc, pc, rc⟩ := hc.ex; obtain ⟨tb, pb, rb⟩ := hb.ex
  refine ⟨_, ps_while hp pc pb, fun T σ H ρ m r m' hm hs hf D k => ?_⟩
  refine ⟨fun j σ1 H1 => ∃ T1 ρ1 m1, Le T H T1 H1 ∧ RepH (gx X) T1 H1 m1 ∧ RepS (gx X) T1 H1 σ1 ρ1 ∧ sWhile j fc fb ρ1 m1 = some (r, m'), ⟨n, T, ρ, m, .refl, hm, hs, hf⟩, ?_⟩
  rintro j σ1 H1 ⟨T1, ρ1, m1, l1, hm1, hs1, hf1⟩
  cases j with
  | zero => cases hf1
  | succ j =>
    obtain ⟨x, m2, e2, hf2⟩ := bd_some hf1
    refine rc T1 σ1 H1 ρ1 m1 x m2 hm1 hs1 e2 _ fun T2 H2 l2 hm2 => ?_
    cases x with
    | false => cases hf2; exact k σ1 T2 H2 (l1.trans l2) hm2 (hs1.le l2)
    | true =>
      obtain ⟨y, m3, e3, hf3⟩ := bd_some hf2
      refine ⟨_, fun _ _ q => q, rb T2 σ1 H2 ρ1 m2 y m3 hm2 (hs1.le l2) e3 _ ?_⟩
      cases y with
      | nx ρ3 => exact fun σ3 T3 H3 l3 hm3 hs3 => ⟨j, Nat.lt_succ_self _, T3, ρ3, m3, l1.trans (l2.trans l3), hm3, hs3, hf3⟩
      | ct ρ3 => exact fun σ3 T3 H3 l3 hm3 hs3 => ⟨j, Nat.lt_succ_self _, T3, ρ3, m3, l1.trans (l2.trans l3), hm3, hs3, hf3⟩
      | bk ρ3 => cases hf3; exact KS.le (l1.trans l2) k
      | rt d => cases hf3; exact KV.le (l1.trans l2) k
def ItOk (g : G) (T : Tk) (H : Hp) (J : It) (ds : List D) : Prop := ∀ T1 H1, Le T H T1 H1 → ∀ m1, RepH g T1 H1 m1 → ∀ i : Nat,
  (∀ d, ds[i]? = some d → J.go i H1 ∧ ∀ x H2, J.yld i H1 x H2 → ∃ T2, Le T1 H1 T2 H2 ∧ RepH g T2 H2 m1 ∧ Rep g T2 H2 d x) ∧ (ds.length = i → J.stop i H1)
def RfI (g : G) (wi : TI) (f : AF) : Prop := ∀ T σ H ρ m ds m', RepH g T H m → RepS g T H σ ρ → f ρ m = some (ds, m') → ∀ R : It → Hp → Prop, (∀ J T' H', Le T H T' H' → RepH g T' H' m' → ItOk g T' H' J ds → R J H') → wi σ H R
structure DI (X : Cx) (tg iter : Expr) (f : AF) : Prop where
  ex : ∃ wi, PI X tg iter wi ∧ RfI (gx X) wi f
def forGo (f : GF) (b : SF) : List D → SF
  | [] => fun ρ m => some (.nx ρ, m)
  | x :: xs => fun ρ m => bd (f x ρ m) fun ρ1 m1 => bd (b ρ1 m1) fun r m2 => match r with
      | .nx ρ2 => forGo f b xs ρ2 m2
      | .ct ρ2 => forGo f b xs ρ2 m2
      | .bk ρ2 => some (.nx ρ2, m2)
      | .rt d => some (.rt d, m2)
def sFor (it : AF) (f : GF) (b : SF) : SF := fun ρ m => bd (it ρ m) fun xs m1 => forGo f b xs ρ m1
theorem ds_for {tg iter : Expr} {body : List Stmt} {fi : AF} {fg : GF} {fb : SF} (hp : PassesOwn (model X.prog X.w) X.A X.env X.xe) (hc : X.calm = true) (hi : DI X tg iter fi) (hg : DG X tg fg) (hb : DSs X body fb)
    (hs : ∀ x, foldedSetIterable iter X.env x = pure x := by intro _; rfl) : DS X (.For tg iter body [] pos) (sFor fi fg fb) := by
  obtain ⟨ti, pi, ri⟩ := hi.ex; obtain ⟨tg', pg, rg⟩ := hg.ex; obtain ⟨tb, pb, rb⟩ := hb.ex
  refine ⟨_, ps_for hp hc pi pg pb hs, fun T σ H ρ m r m' hm hs hf D k => ?_⟩
  obtain ⟨ds, m1, e1, hf⟩ := bd_some hf
  refine ri T σ H ρ m ds m1 hm hs e1 _ fun J T0 H0 l0 hm0 ok => ?_
  refine ⟨fun i j σ1 H1 => i + j = ds.length ∧ ∃ T1 ρ1 m1, Le T0 H0 T1 H1 ∧ RepH (gx X) T1 H1 m1 ∧ RepS (gx X) T1 H1 σ1 ρ1 ∧ forGo fg fb (ds.drop i) ρ1 m1 = some (r, m'), ⟨ds.length, by simp, T0, ρ, m1, .refl, hm0, hs.le l0, by simpa using hf⟩, ?_⟩
  rintro i j σ1 H1 ⟨hij, T1, ρ1, m1, l1, hm1, hs1, hf1⟩
  obtain ⟨okG, okS⟩ := ok T1 H1 l1 m1 hm1 i
  cases j with
  | zero =>
    left
    rw [List.drop_of_length_le (by omega)] at hf1
    cases hf1
    exact ⟨okS (by omega), k σ1 T1 H1 (l0.trans l1) hm1 hs1⟩
  | succ j =>
    right
    have hi : i < ds.length := by omega
    rw [List.drop_eq_getElem_cons hi] at hf1
    obtain ⟨go, yl⟩ := okG ds[i] (List.getElem?_eq_getElem hi)
    refine ⟨go, _, fun _ _ q => q, fun x H2 y2 => ?_⟩
    obtain ⟨T2, l2, hm2, r2⟩ := yl x H2 y2
    obtain ⟨ρ3, m3, e3, hf3⟩ := bd_some hf1
    refine rg T2 σ1 H2 ρ1 m1 ds[i] x ρ3 m3 hm2 (hs1.le l2) r2 e3 _ fun σ3 T3 H3 l3 hm3 hs3 => ?_
    obtain ⟨y, m4, e4, hf4⟩ := bd_some hf3
    refine rb T3 σ3 H3 ρ3 m3 y m4 hm3 hs3 e4 _ ?_
    have l13 := l1.trans (l2.trans l3)
    cases y with
    | nx ρ4 => exact fun σ4 T4 H4 l4 hm4 hs4 => ⟨j, Nat.lt_succ_self _, by omega, T4, ρ4, m4, l13.trans l4, hm4, hs4, hf4⟩
    | ct ρ4 => exact fun σ4 T4 H4 l4 hm4 hs4 => ⟨j, Nat.lt_succ_self _, by omega, T4, ρ4, m4, l13.trans l4, hm4, hs4, hf4⟩
    | bk ρ4 => cases hf4; exact KS.le (l0.trans l13) k
    | rt d => cases hf4; exact KV.le (l0.trans l13) k
end
end L4
namespace L4
open PySem L2
mutual
def pureD : D → Bool
  | .tup ds => pureL ds
  | .lst ds => pureL ds
  | .scr ds => pureL ds
  | .dic ks vs => pureL ks && pureL vs
  | .obj _ _ vs => pureL vs
  | .ref _ => false
  | .non => true
  | .bl _ => true
  | .int _ => true
  | .str _ => true
  | .glo _ => true
  | .ty _ => true
def pureL : List D → Bool
  | [] => true
  | d :: ds => pureD d && pureL ds
end
mutual
def groundD : D → Bool
  | .tup ds => groundL ds
  | .lst _ => false
  | .scr _ => false
  | .dic _ _ => false
  | .obj _ _ _ => false
  | .ref _ => false
  | .non => true
  | .bl _ => true
  | .int _ => true
  | .str _ => true
  | .glo _ => true
  | .ty _ => true
def groundL : List D → Bool
  | [] => true
  | d :: ds => groundD d && groundL ds
end
def T0 (ν : List Addr) : Tk := ⟨[], ν, fun _ h => nomatch h⟩
section
variable {g : G} {T : Tk} {H : Hp}
theorem and2 {a b : Bool} (h : (a && b) = true) : a = true ∧ b = true := by cases a <;> cases b <;> first | exact ⟨rfl, rfl⟩ | cases h
theorem FT.less {K : PySem.W.Frag} {ν : List Addr} {a : Addr} {vs : List V} (hν : ∀ a ∈ ν, a ∈ T.ν) (f : FT K T H a vs) : FT K (T0 ν) H a vs := by
  rcases f with ⟨n, f⟩ | f
  · exact .inl ⟨fun z => n (hν _ z), f⟩
  · exact .inr f
theorem FL.less {ν : List Addr} {a : Addr} {vs : List V} (hν : ∀ a ∈ ν, a ∈ T.ν) (f : FL T H a vs) : FL (T0 ν) H a vs := ⟨fun z => f.1 (hν _ z), f.2⟩
theorem FS.less {K : PySem.W.Frag} {ν : List Addr} {a : Addr} {vs : List V} (hν : ∀ a ∈ ν, a ∈ T.ν) (f : FS K T H a vs) : FS K (T0 ν) H a vs := by
  rcases f with ⟨n, f⟩ | f
  · exact .inl ⟨fun z => n (hν _ z), f⟩
  · exact .inr f
mutual
theorem Rep.pure {ν : List Addr} (hν : ∀ a ∈ ν, a ∈ T.ν) : ∀ (d : D) {v : V}, pureD d = true → Rep g T H d v → Rep g (T0 ν) H d v
  | .non, _, _, r => by cases r; exact .non
  | .bl _, _, _, r => by cases r; exact .bl _
  | .int _, _, _, r => by cases r; exact .int _
  | .str _, _, _, r => by cases r; exact .str _
  | .glo _, _, _, r => by cases r; exact .glo _
  | .ty _, _, _, r => by cases r; exact .ty _
  | .ref _, _, h, _ => by rw [pureD] at h; cases h
  | .tup ds, _, h, r => by
    rw [pureD] at h
    cases r with
    | tup f r => exact .tup (f.less hν) (RepL.pure hν ds h r)
  | .lst ds, _, h, r => by
    rw [pureD] at h
    cases r with
    | lst f r => exact .lst (f.less hν) (RepL.pure hν ds h r)
  | .scr ds, _, h, r => by
    rw [pureD] at h
    cases r with
    | scr f r => exact .scr (f.less hν) (RepL.pure hν ds h r)
  | .dic ks vs, _, h, r => by
    rw [pureD] at h
    cases r with
    | dicF n f r q => exact .dicF (fun z => n (hν _ z)) f (RepL.pure hν ks (and2 h).1 r) (RepL.pure hν vs (and2 h).2 q)
    | dicN n f e r q => exact .dicN (fun z => n (hν _ z)) f e (RepL.pure hν ks (and2 h).1 r) (RepL.pure hν vs (and2 h).2 q)
  | .obj c ns vs, _, h, r => by
    rw [pureD] at h
    cases r with
    | obj n f e r => exact .obj (fun z => n (hν _ z)) f e (RepL.pure hν vs h r)
theorem RepL.pure {ν : List Addr} (hν : ∀ a ∈ ν, a ∈ T.ν) : ∀ (ds : List D) {vs : List V}, pureL ds = true → RepL g T H ds vs → RepL g (T0 ν) H ds vs
  | [], _, _, r => by cases r; exact .nil
  | d :: ds, _, h, r => by
    rw [pureL] at h
    cases r with
    | cons r s => exact .cons (Rep.pure hν d (and2 h).1 r) (RepL.pure hν ds (and2 h).2 s)
end
mutual
theorem Rep.lift : ∀ (d : D) {v : V}, Rep g (T0 T.ν) H d v → Rep g T H d v
  | .non, _, r => by cases r; exact .non
  | .bl _, _, r => by cases r; exact .bl _
  | .int _, _, r => by cases r; exact .int _
  | .str _, _, r => by cases r; exact .str _
  | .glo _, _, r => by cases r; exact .glo _
  | .ty _, _, r => by cases r; exact .ty _
  | .ref _, _, r => by
    cases r with
    | ref h => exact absurd h (by simp [T0])
  | .tup ds, _, r => by
    cases r with
    | tup f r => exact .tup f (RepL.lift ds r)
  | .lst ds, _, r => by
    cases r with
    | lst f r => exact .lst f (RepL.lift ds r)
  | .scr ds, _, r => by
    cases r with
    | scr f r => exact .scr f (RepL.lift ds r)
  | .dic ks vs, _, r => by
    cases r with
    | dicF n f r q => exact .dicF n f (RepL.lift ks r) (RepL.lift vs q)
    | dicN n f e r q => exact .dicN n f e (RepL.lift ks r) (RepL.lift vs q)
  | .obj c ns vs, _, r => by
    cases r with
    | obj n f e r => exact .obj n f e (RepL.lift vs r)
theorem RepL.lift : ∀ (ds : List D) {vs : List V}, RepL g (T0 T.ν) H ds vs → RepL g T H ds vs
  | [], _, r => by cases r; exact .nil
  | d :: ds, _, r => by
    cases r with
    | cons r s => exact .cons (Rep.lift d r) (RepL.lift ds s)
end
theorem notup (hν : ∀ a ∈ T.ν, ∃ u, H a = some u ∧ Mu u) {a : Addr} {xs : List V} (h : Rd H a (.tup xs)) : a ∉ T.ν := fun z => by
  obtain ⟨u, e, q⟩ := hν a z
  rcases h with h | ⟨o, h⟩ <;> (rw [h] at e; cases e; exact q)
mutual
theorem Rep.ground {ν : List Addr} (hν : ∀ a ∈ T.ν, ∃ u, H a = some u ∧ Mu u) : ∀ (d : D) {v : V}, groundD d = true → Rep g (T0 ν) H d v → Rep g T H d v
  | .non, _, _, r => by cases r; exact .non
  | .bl _, _, _, r => by cases r; exact .bl _
  | .int _, _, _, r => by cases r; exact .int _
  | .str _, _, _, r => by cases r; exact .str _
  | .glo _, _, _, r => by cases r; exact .glo _
  | .ty _, _, _, r => by cases r; exact .ty _
  | .ref _, _, h, _ => by rw [groundD] at h; cases h
  | .lst _, _, h, _ => by rw [groundD] at h; cases h
  | .scr _, _, h, _ => by rw [groundD] at h; cases h
  | .dic _ _, _, h, _ => by rw [groundD] at h; cases h
  | .obj _ _ _, _, h, _ => by rw [groundD] at h; cases h
  | .tup ds, _, h, r => by
    rw [groundD] at h
    cases r with
    | tup f r =>
      refine .tup ?_ (RepL.ground hν ds h r)
      rcases f with ⟨_, f⟩ | f
      · exact .inl ⟨notup hν f, f⟩
      · exact .inr f
theorem RepL.ground {ν : List Addr} (hν : ∀ a ∈ T.ν, ∃ u, H a = some u ∧ Mu u) : ∀ (ds : List D) {vs : List V}, groundL ds = true → RepL g (T0 ν) H ds vs → RepL g T H ds vs
  | [], _, _, r => by cases r; exact .nil
  | d :: ds, _, h, r => by
    rw [groundL] at h
    cases r with
    | cons r s => exact .cons (Rep.ground hν d (and2 h).1 r) (RepL.ground hν ds (and2 h).2 s)
end
end
def mapO (f : D → Option D) : List D → Option (List D)
  | [] => some []
  | d :: ds => match f d, mapO f ds with
    | some e, some es => some (e :: es)
    | _, _ => none
def frzGo (m : M) : Nat → D → Option D
  | 0, _ => none
  | n + 1, .tup ds => (mapO (frzGo m n) ds).map .tup
  | n + 1, .lst ds => (mapO (frzGo m n) ds).map .lst
  | n + 1, .scr ds => (mapO (frzGo m n) ds).map .scr
  | n + 1, .dic ks vs => match mapO (frzGo m n) ks, mapO (frzGo m n) vs with
    | some a, some b => if pureL ks then some (.dic ks b) else none
    | _, _ => none
  | n + 1, .obj c ns vs => (mapO (frzGo m n) vs).map (.obj c ns)
  | n + 1, .ref k => match m[k]? with
    | some (.lst ds) => (mapO (frzGo m n) ds).map .lst
    | some (.dic ks vs) => if pureL ks then (mapO (frzGo m n) vs).map (.dic ks) else none
    | some (.ins c ns vs) => (mapO (frzGo m n) vs).map (.obj c ns)
    | none => none
  | _ + 1, d => some d
def frz (m : M) (d : D) : Option D := if pureD d then some d else frzGo m 40 d
section
variable {g : G} {T : Tk} {H : Hp} {m : M}
theorem RepL.mapO {T' : Tk} {f : D → Option D} (hf : ∀ d e v, f d = some e → Rep g T H d v → Rep g T' H e v) : ∀ {ds es : List D} {vs : List V}, L4.mapO f ds = some es → RepL g T H ds vs → RepL g T' H es vs
  | [], _, _, h, .nil => by cases h; exact .nil
  | d :: ds, es, _, h, .cons r s => by
    unfold L4.mapO at h
    split at h
    · next e es' h1 h2 => cases h; exact .cons (hf _ _ _ h1 r) (RepL.mapO hf h2 s)
    · cases h
theorem frzGo_ok {ν : List Addr} (hm : RepH g T H m) (hν : ∀ a ∈ ν, a ∈ T.ν) (hμ : ∀ a ∈ T.μ, a ∉ ν) : ∀ (n : Nat) (d e : D) (v : V), frzGo m n d = some e → Rep g T H d v → Rep g (T0 ν) H e v
  | 0, _, _, _, h, _ => by cases h
  | n + 1, d, e, v, h, r => by
    have ih := frzGo_ok hm hν hμ n
    cases r with
    | non => cases h; exact .non
    | bl b => cases h; exact .bl b
    | int i => cases h; exact .int i
    | str x => cases h; exact .str x
    | glo x => cases h; exact .glo x
    | ty x => cases h; exact .ty x
    | tup f r =>
      obtain ⟨es, h1, rfl⟩ := Option.map_eq_some_iff.mp h
      exact .tup (f.less hν) (r.mapO ih h1)
    | lst f r =>
      obtain ⟨es, h1, rfl⟩ := Option.map_eq_some_iff.mp h
      exact .lst (f.less hν) (r.mapO ih h1)
    | scr f r =>
      obtain ⟨es, h1, rfl⟩ := Option.map_eq_some_iff.mp h
      exact .scr (f.less hν) (r.mapO ih h1)
    | dicF k f r q =>
      unfold frzGo at h
      split at h
      · next a b h1 h2 =>
        split at h
        · next hp => cases h; exact .dicF (fun z => k (hν _ z)) f (RepL.pure hν _ hp r) (q.mapO ih h2)
        · cases h
      · cases h
    | dicN k f e r q =>
      unfold frzGo at h
      split at h
      · next a b h1 h2 =>
        split at h
        · next hp => cases h; exact .dicN (fun z => k (hν _ z)) f e (RepL.pure hν _ hp r) (q.mapO ih h2)
        · cases h
      · cases h
    | obj k f e r =>
      obtain ⟨es, h1, rfl⟩ := Option.map_eq_some_iff.mp h
      exact .obj (fun z => k (hν _ z)) f e (r.mapO ih h1)
    | @ref k a hk =>
      have na : a ∉ ν := hμ a (List.mem_of_getElem? hk)
      unfold frzGo at h
      split at h
      · next ds h1 =>
        obtain ⟨es, h2, rfl⟩ := Option.map_eq_some_iff.mp h
        cases hm.at_ _ _ _ hk h1 with
        | lst f r => exact .lst ⟨na, f⟩ (r.mapO ih h2)
      · next ks vs h1 =>
        split at h
        · next hp =>
          obtain ⟨es, h2, rfl⟩ := Option.map_eq_some_iff.mp h
          cases hm.at_ _ _ _ hk h1 with
          | dicF f r q => exact .dicF na (.inl f) (RepL.pure hν _ hp r) (q.mapO ih h2)
          | dicN f e r q => exact .dicN na (.inl f) e (RepL.pure hν _ hp r) (q.mapO ih h2)
        · cases h
      · next c ns vs h1 =>
        obtain ⟨es, h2, rfl⟩ := Option.map_eq_some_iff.mp h
        cases hm.at_ _ _ _ hk h1 with
        | ins f e r => exact .obj na f e (r.mapO ih h2)
      · cases h
theorem frz_ok {ν : List Addr} (hm : RepH g T H m) (hν : ∀ a ∈ ν, a ∈ T.ν) (hμ : ∀ a ∈ T.μ, a ∉ ν) {d e : D} {v : V} (h : frz m d = some e) (r : Rep g T H d v) : Rep g (T0 ν) H e v := by
  unfold frz at h
  split at h
  · next hp => cases h; exact Rep.pure hν _ hp r
  · exact frzGo_ok hm hν hμ _ _ _ _ h r
end
structure FnG (P : Program) (w : World) (K : PySem.W.Frag) (mg : Str → Option Value) (base : Heap) (CX : CXT) (k : Nat) (f : Addr) (fd : FuncData) (ps : List Str) (sp : Sp) : Prop where
  len : ∀ vs H Q E, sp vs H Q E → vs.length = ps.length
  run : ∀ (A : Around) (outer : List Env) (s : Shared) (H : Hp) (args : Args) (us : List Value) (vs : List V) (Q : VK) (E : XK), A.guards = some [] → Room k A → Env0 P w K mg base A outer s H →
    BindsTo s fd args (ps.zip us) → Vals vs us → sp vs H Q E → codeAny (model P w) A (.call (.ref f) args) (CR CX outer P w H s Q E) s
theorem FnG.old {P : Program} {w : World} {K : PySem.W.Frag} {mg : Str → Option Value} {base : Heap} {k : Nat} {f : Addr} {fd : FuncData} {ps : List Str} {sp : Sp} (F : L3.FnG P w K mg base k f fd ps sp) : FnG P w K mg base CX0 k f fd ps sp := ⟨F.len, F.run⟩
/-- where a call may be made -/
structure Gd (k : Nat) (X : Cx) : Prop where
  g : X.A.guards = some []
  r : Room k X.A
theorem Gd.mono {j k : Nat} {X : Cx} (h : Gd k X) (l : j ≤ k) : Gd j X := ⟨h.g, h.r.mono l⟩
section
variable {X : Cx} {k : Nat} {f : Addr} {fd : FuncData} {ps : List Str} {sp : Sp} {ds : List Value} {dvs : List V}
theorem FnG.call (F : FnG X.prog X.w X.K X.mg X.base CX0 k f fd ps sp) (hr : Gd k X) (hb : Binds X.K fd ps ds) (hd : Vals dvs ds) : CallR X (.ref f) fun vs H Q => sp (vs ++ dvs) H Q E0 := by
  intro pins s σ H vs us Q I r h
  have r2 : Vals (vs ++ dvs) (us ++ ds) := r.append hd
  have hl : (us ++ ds).length = ps.length := by rw [← r2.length]; exact F.len _ _ _ _ h
  refine wpAny_call (codeAny_mono (F.run X.A X.stack s H ⟨us, []⟩ (us ++ ds) (vs ++ dvs) Q E0 hr.g hr.r I.env0 (hb s us I.kIn hl) r2 h) fun r s' hq => ?_)
  cases r with
  | error e => exact hq.elim
  | ok fl =>
    cases fl with
    | ret u => exact I.after hq
    | next => exact False.elim hq
    | brk => exact False.elim hq
    | cont => exact False.elim hq
variable {r : List V → Hp → VK → Prop} {x : Str} {p pos : Pos} {e : Expr} {es : List Expr} {t : TA}
theorem pe_callR (hc : CallR X (.ref f) r) (hg : Gl X x) (hm : X.mg x = some (.ref f)) (hk : PySem.W.keepIn X.K (.ref f) = true) (ha : PA X (e :: es) t) (hdb : (x == ("__debug__" : Str)) = false := by decide)
    (he : starEach (e :: es) X.env = (false, eval e X.env) :: starEach es X.env := by rfl) (hpl : (backTo pos (starEach es X.env)).any (·.1) = false := by rfl) : PE X (.Call (.Name x p) (e :: es) [] pos) (tCB r t) := by
  refine ⟨fun pins s σ H Q I h => ?_⟩
  refine wpAny_Call_Name_kw (ld_glob I hg hm ?_ hdb)
  refine PySem.W.callWith_K (h₀ := X.base) I.ok.mod.kin hk (thn (ha.run pos pins s σ H _ I h) fun us s1 ⟨vs, H1, I1, r, q⟩ => ⟨I1.kIn, ?_⟩) he hpl
  exact hc pins s1 σ H1 vs us Q I1 r q
end
/-- what a def on plain data promises -/
def spP (g : G) (n : Nat) (F : List D → Option D) : Sp := fun vs H Q _ => vs.length = n ∧ ∃ (ν : List Addr) (ds : List D) (d : D), (∀ a ∈ ν, ∃ u, H a = some u ∧ Mu u) ∧ RepL g (T0 ν) H ds vs ∧ F ds = some d ∧
  ∀ v H', (∀ a u, H a = some u → H' a = some u) → Rep g (T0 ν) H' d v → Q v H'
/-- .. on tracked things too -/
def spM (g : G) (n : Nat) (F : List D → M → Option (D × M)) : Sp := fun vs H Q _ => vs.length = n ∧ ∃ (T : Tk) (m : M) (ds : List D) (d : D) (m' : M), RepH g T H m ∧ RepL g T H ds vs ∧ F ds m = some (d, m') ∧ KV g T H m' d Q
def startD (n : Nat) (ds : List D) : Ss := ds.map some ++ List.replicate (n - ds.length) none
theorem repS_start {g : G} {T : Tk} {H : Hp} {N : List Str} {ds : List D} {vs : List V} (r : RepL g T H ds vs) : RepS g T H (L2.start N vs) (startD N.length ds) := by
  refine ⟨by simp [L2.start, startD, r.length], fun i d h => ?_⟩
  unfold startD at h
  by_cases hi : i < ds.length
  · rw [List.getElem?_append_left (by simpa using hi), List.getElem?_map] at h
    obtain ⟨e, h1, h2⟩ := Option.map_eq_some_iff.mp h
    cases h2
    obtain ⟨v, h3, q⟩ := r.get h1
    exact ⟨v, by
      unfold L2.start
      rw [List.getElem?_append_left (by simpa [← r.length] using hi), List.getElem?_map, h3]
      rfl, q⟩
  · rw [List.getElem?_append_right (by simpa using hi)] at h
    have := List.mem_of_getElem? h
    simp at this
def endP : Option (Fl × M) → Option D
  | some (.rt d, m) => frz m d
  | some (.nx _, _) => some .non
  | _ => none
def endM : Option (Fl × M) → Option (D × M)
  | some (.rt d, m') => some (d, m')
  | some (.nx _, m') => some (.non, m')
  | _ => none
def runP (a n : Nat) (b : SF) (ds : List D) : Option D := if ds.length = a then endP (b (startD n ds) []) else none
def runM (a n : Nat) (b : SF) (ds : List D) (m : M) : Option (D × M) := if ds.length = a then endM (b (startD n ds) m) else none
theorem ite_some {α : Type} {c : Prop} [Decidable c] {a : Option α} {b : α} (h : (if c then a else none) = some b) : c ∧ a = some b := by
  split at h
  · next hc => exact ⟨hc, h⟩
  · cases h
theorem runP_len {a n : Nat} {b : SF} {ds : List D} {d : D} (h : runP a n b ds = some d) : ds.length = a := (ite_some h).1
theorem runM_len {a n : Nat} {b : SF} {ds : List D} {m : M} {r : D × M} (h : runM a n b ds m = some r) : ds.length = a := (ite_some h).1
theorem spP_run {g : G} {n a : Nat} {N : List Str} {t : TS} {b : SF} (ht : RfS g t b) {vs : List V} {H : Hp} {Q : VK} {E : XK} (h : spP g n (runP a N.length b) vs H Q E) : t { nx := fun _ H' => Q .non H', rt := Q } (L2.start N vs) H := by
  obtain ⟨_, ν, ds, d, hν, r, hf, k⟩ := h
  have hm : RepH g (T0 ν) H [] := ⟨rfl, List.nodup_nil, hν, fun n a o h _ => by cases h⟩
  replace hf := (ite_some hf).2
  unfold endP at hf
  split at hf
  · next d' m e =>
    refine ht (T0 ν) _ H _ [] _ _ hm (repS_start r) e _ fun v T' H' l hm' rv => ?_
    refine k v H' (fun a u h => l.keep a u h fun z => nomatch z) (frz_ok hm' (fun a h => l.up a h) (fun a h z => ?_) hf rv)
    have := l.newμ a h fun z => nomatch z
    obtain ⟨u, q, _⟩ := hν a z
    rw [this] at q
    cases q
  · next e =>
    cases hf
    exact ht (T0 ν) _ H _ [] _ _ hm (repS_start r) e _ fun σ T' H' l hm' rv => k _ H' (fun a u h => l.keep a u h fun z => nomatch z) .non
  · cases hf
theorem spM_run {g : G} {n a : Nat} {N : List Str} {t : TS} {b : SF} (ht : RfS g t b) {vs : List V} {H : Hp} {Q : VK} {E : XK} (h : spM g n (runM a N.length b) vs H Q E) : t { nx := fun _ H' => Q .non H', rt := Q } (L2.start N vs) H := by
  obtain ⟨_, T, m, ds, d, m', hm, r, hf, k⟩ := h
  replace hf := (ite_some hf).2
  unfold endM at hf
  split at hf
  · next d' m e =>
    cases hf
    exact ht T _ H _ m _ _ hm (repS_start r) e _ k
  · next e =>
    cases hf
    exact ht T _ H _ m _ _ hm (repS_start r) e _ fun σ T' H' l hm' rv => k _ T' H' l hm' .non
  · cases hf
/-- a call of a def on plain data: tracked things are lent where what comes back is plain -/
def callP (F : List D → Option D) (m : M) (ds : List D) : Option D := if pureL ds then F ds else match mapO (frz m) ds with
  | some es => match F es with
    | some d => if groundD d then some d else none
    | none => none
  | none => none
theorem rf_callP {g : G} {n : Nat} {F : List D → Option D} (hn : ∀ ds d, F ds = some d → ds.length = n) : RfC g (fun vs H Q => spP g n F vs H Q E0) (callP F) := by
  intro T H m xs vs d hm r hf Q k
  unfold callP at hf
  split at hf
  · next hp =>
    refine ⟨by rw [← r.length]; exact hn _ _ hf, T.ν, xs, d, hm.has, RepL.pure (fun _ h => h) _ hp r, hf, fun v H' up rv => ?_⟩
    obtain ⟨l, hm'⟩ := hm.grow up
    exact k v T H' l hm' (Rep.lift _ rv)
  · split at hf
    · next es h1 =>
      split at hf
      · next d' h2 =>
        split at hf
        · next hg =>
          cases hf
          have re : RepL g (T0 []) H es vs := r.mapO (fun d e v h q => frz_ok hm (fun a h => (List.not_mem_nil h).elim) (fun a _ h => (List.not_mem_nil h).elim) h q) h1
          refine ⟨by rw [← re.length]; exact hn _ _ h2, [], es, d, fun a h => (List.not_mem_nil h).elim, re, h2, fun v H' up rv => ?_⟩
          obtain ⟨l, hm'⟩ := hm.grow up
          exact k v T H' l hm' (Rep.ground hm'.has _ hg rv)
        · cases hf
      · cases hf
    · cases hf
/-- a call of a def on tracked things -/
def eCallM (F : List D → M → Option (D × M)) (a : AF) : EF := fun ρ m => bd (a ρ m) fun xs m1 => F xs m1
theorem rf_callM {g : G} {n : Nat} {F : List D → M → Option (D × M)} {t : TA} {a : AF} (hn : ∀ ds m r, F ds m = some r → ds.length = n) (ha : RfA g t a) : RfE g (tCB (fun vs H Q => spM g n F vs H Q E0) t) (eCallM F a) := by
  intro T σ H ρ m d m' hm hs hf Q k
  obtain ⟨x, m1, e1, hf⟩ := bd_some hf
  refine ha T σ H ρ m x _ hm hs e1 _ fun v T1 H1 l1 hm1 r1 => ?_
  exact ⟨by rw [← r1.length]; exact hn _ _ _ hf, T1, m1, x, d, m', hm1, r1, hf, k.le l1⟩
end L4
namespace L4
open PySem L2
def subD : M → D → D → Option D
  | _, .int i, .int j => some (.int (i - j))
  | _, _, _ => none
def fdivD : M → D → D → Option D
  | _, .int i, .int j => if 0 < j ∧ j < 1073741824 then some (.int (i / j)) else none
  | _, _, _ => none
def modD : M → D → D → Option D
  | _, .int i, .int j => if 0 < j then some (.int (i % j)) else none
  | _, _, _ => none
def powD : M → D → D → Option D
  | _, .int i, .int j => if 0 ≤ j ∧ j ≤ 1000000 ∧ i.natAbs < 2 ^ 64 then some (.int (i ^ j.toNat)) else none
  | _, _, _ => none
def negD : M → D → Option D
  | _, .int i => some (.int (-i))
  | _, _ => none
section
variable {X : Cx} {g : G} {T : Tk} {H : Hp} {m : M} {Q : VK}
theorem KV.now {d : D} {v : V} (k : KV g T H m d Q) (hm : RepH g T H m) (r : Rep g T H d v) : Q v H := k v T H .refl hm r
theorem op_sub' : OpD X (binaryOp .Sub) subD := ⟨_, op_sub, fun T H m x y v u d hm rx ry hf Q k => by
  cases rx <;> cases ry <;> first | (cases hf; exact ⟨_, _, rfl, rfl, k.now hm (.int _)⟩) | (cases hf; done)⟩
theorem op_fdiv' : OpD X (binaryOp .FloorDiv) fdivD := ⟨_, op_fdiv, fun T H m x y v u d hm rx ry hf Q k => by
  cases rx <;> cases ry <;> first | (cases hf; done) | (obtain ⟨h, hf⟩ := ite_some hf; cases hf; exact ⟨_, _, rfl, rfl, h, k.now hm (.int _)⟩)⟩
theorem op_mod' : OpD X (binaryOp .Mod) modD := ⟨_, op_mod, fun T H m x y v u d hm rx ry hf Q k => by
  cases rx <;> cases ry <;> first | (cases hf; done) | (obtain ⟨h, hf⟩ := ite_some hf; cases hf; exact ⟨_, _, rfl, rfl, h, k.now hm (.int _)⟩)⟩
theorem op_pow' : OpD X (binaryOp .Pow) powD := ⟨_, op_pow, fun T H m x y v u d hm rx ry hf Q k => by
  cases rx <;> cases ry <;> first | (cases hf; done) | (obtain ⟨h, hf⟩ := ite_some hf; cases hf; exact ⟨_, _, rfl, rfl, h, k.now hm (.int _)⟩)⟩
theorem un_neg' : UnD X (unaryOp .USub) negD := ⟨_, un_neg, fun T H m x v d hm rx hf Q k => by
  cases rx <;> first | (cases hf; exact ⟨_, rfl, k.now hm (.int _)⟩) | (cases hf; done)⟩
def cmpI (p : Int → Int → Bool) (q : List Nat → List Nat → Bool) : M → D → D → Option D
  | _, .int i, .int j => some (.bl (p i j))
  | _, .str i, .str j => some (.bl (q i.cps.toList j.cps.toList))
  | _, _, _ => none
def ltD := cmpI (fun i j => decide (i < j)) (fun i j => decide (i < j))
def leD : M → D → D → Option D
  | _, .int i, .int j => some (.bl (decide (i ≤ j)))
  | _, _, _ => none
def gtD : M → D → D → Option D
  | _, .int i, .int j => some (.bl (decide (j < i)))
  | _, _, _ => none
def geD : M → D → D → Option D
  | _, .int i, .int j => some (.bl (decide (j ≤ i)))
  | _, _, _ => none
theorem orR {F : Value → Value → Sem Value} {r q : R2} (h1 : OpR X F r) (h2 : OpR X F q) : OpR X F (fun x y H Q => r x y H Q ∨ q x y H Q) := by
  intro pins s σ H x y v u Q I rx ry h
  rcases h with h | h
  · exact h1 pins s σ H x y v u Q I rx ry h
  · exact h2 pins s σ H x y v u Q I rx ry h
theorem op_lt' : OpD X (compareOp .Lt) ltD := ⟨_, orR op_lt op_lt_str, fun T H m x y v u d hm rx ry hf Q k => by
  cases rx <;> cases ry <;> first | (cases hf; exact .inl ⟨_, _, rfl, rfl, k.now hm (.bl _)⟩) | (cases hf; exact .inr ⟨_, _, rfl, rfl, k.now hm (.bl _)⟩) | (cases hf; done)⟩
theorem op_le' : OpD X (compareOp .LtE) leD := ⟨_, op_le, fun T H m x y v u d hm rx ry hf Q k => by
  cases rx <;> cases ry <;> first | (cases hf; exact ⟨_, _, rfl, rfl, k.now hm (.bl _)⟩) | (cases hf; done)⟩
theorem op_gt' : OpD X (compareOp .Gt) gtD := ⟨_, op_gt, fun T H m x y v u d hm rx ry hf Q k => by
  cases rx <;> cases ry <;> first | (cases hf; exact ⟨_, _, rfl, rfl, k.now hm (.bl _)⟩) | (cases hf; done)⟩
theorem op_ge' : OpD X (compareOp .GtE) geD := ⟨_, op_ge, fun T H m x y v u d hm rx ry hf Q k => by
  cases rx <;> cases ry <;> first | (cases hf; exact ⟨_, _, rfl, rfl, k.now hm (.bl _)⟩) | (cases hf; done)⟩
def lstO : O → Option (List D)
  | .lst ds => some ds
  | _ => none
def lstOf (m : M) : D → Option (List D)
  | .lst ds => some ds
  | .ref n => (m[n]?).bind lstO
  | _ => none
theorem lst_rep {x : D} {v : V} {ds : List D} (hm : RepH g T H m) (r : Rep g T H x v) (h : lstOf m x = some ds) : ∃ a vs, v = .ref a ∧ H a = some (.lst vs) ∧ RepL g T H ds vs := by
  cases r with
  | lst f r => cases h; exact ⟨_, _, rfl, f.2, r⟩
  | ref e =>
    obtain ⟨o, h1, h2⟩ := Option.bind_eq_some_iff.mp h
    cases hm.at_ _ _ _ e h1 with
    | lst f r => cases h2; exact ⟨_, _, rfl, f, r⟩
    | _ => cases h2
  | _ => cases h
/-- a list that is read, the script too -/
def lstR (m : M) : D → Option (List D)
  | .scr ds => some ds
  | d => lstOf m d
theorem lstR_rep {x : D} {v : V} {ds : List D} (hm : RepH g T H m) (r : Rep g T H x v) (h : lstR m x = some ds) : ∃ a vs, v = .ref a ∧ SqL g.K H a vs ∧ RepL g T H ds vs := by
  unfold lstR at h
  split at h
  · cases h
    cases r with
    | scr f r => exact ⟨_, _, rfl, f.sq, r⟩
  · obtain ⟨a, vs, e, q, r⟩ := lst_rep hm r h
    exact ⟨a, vs, e, .of q, r⟩
theorem tup_rep {v : V} {ds : List D} (r : Rep g T H (.tup ds) v) : ∃ a vs, v = .ref a ∧ SqT g.K H a vs ∧ RepL g T H ds vs := by
  cases r with
  | tup f r => exact ⟨_, _, rfl, f.sq, r⟩
/-- a new tuple -/
theorem KV.tup {ds : List D} {vs : List V} (k : KV g T H m (.tup ds) Q) (hm : RepH g T H m) (r : RepL g T H ds vs) (p : Addr) (hp : H p = none) : Q (.ref p) (upd H p (.tup vs)) := by
  obtain ⟨l, hm'⟩ := hm.fresh (u := .tup vs) hp
  exact k _ T _ l hm' (.tup (.inl ⟨fun z => hm.nope hp z, .inl upd_same⟩) (r.le l))
/-- a new list that stays as it is -/
theorem KV.lst {ds : List D} {vs : List V} (k : KV g T H m (.lst ds) Q) (hm : RepH g T H m) (r : RepL g T H ds vs) (p : Addr) (hp : H p = none) : Q (.ref p) (upd H p (.lst vs)) := by
  obtain ⟨l, hm'⟩ := hm.fresh (u := .lst vs) hp
  exact k _ T _ l hm' (.lst ⟨fun z => hm.nope hp z, upd_same⟩ (r.le l))
/-- a new list that is tracked -/
theorem KV.newL {ds : List D} {vs : List V} (k : KV g T H (m ++ [.lst ds]) (.ref m.length) Q) (hm : RepH g T H m) (r : RepL g T H ds vs) (p : Addr) (hp : H p = none) : Q (.ref p) (upd H p (.lst vs)) := by
  obtain ⟨l, hm'⟩ := hm.push (u := .lst vs) (o := .lst ds) hp fun l => .lst upd_same (r.le l)
  refine k _ (T.push p) _ l hm' (.ref ?_)
  show (T.μ ++ [p])[m.length]? = some p
  rw [← hm.len, List.getElem?_append_right (Nat.le_refl _)]
  simp
def eTup (a : AF) : EF := fun ρ m => bd (a ρ m) fun xs m1 => if xs.length ≤ sizeLine then some (.tup xs, m1) else none
def eLst (a : AF) : EF := fun ρ m => bd (a ρ m) fun xs m1 => if xs.length ≤ sizeLine then some (.lst xs, m1) else none
def eNewL (a : AF) : EF := fun ρ m => bd (a ρ m) fun xs m1 => if xs.length ≤ sizeLine then some (.ref m1.length, m1 ++ [.lst xs]) else none
variable {pos : Pos}
theorem de_tup {es : List Expr} {f : AF} {k} (ha : DA X es f) : DE X (.Tuple es k pos) (eTup f) := by
  obtain ⟨ta, pa, ra⟩ := ha.ex
  refine ⟨_, pe_tup pa, fun T σ H ρ m d m' hm hs hf Q k => ?_⟩
  obtain ⟨x, m1, e1, hf⟩ := bd_some hf
  obtain ⟨hz, hf⟩ := ite_some hf
  cases hf
  refine ra T σ H ρ m x _ hm hs e1 _ fun vs T1 H1 l1 hm1 r1 => ⟨by rw [← r1.length]; exact hz, fun p hp => ?_⟩
  exact (k.le l1).tup hm1 r1 p hp
theorem de_lst {es : List Expr} {f : AF} (ha : DA X es f) : DE X (.List es pos) (eLst f) := by
  obtain ⟨ta, pa, ra⟩ := ha.ex
  refine ⟨_, pe_lst pa, fun T σ H ρ m d m' hm hs hf Q k => ?_⟩
  obtain ⟨x, m1, e1, hf⟩ := bd_some hf
  obtain ⟨hz, hf⟩ := ite_some hf
  cases hf
  refine ra T σ H ρ m x _ hm hs e1 _ fun vs T1 H1 l1 hm1 r1 => ⟨by rw [← r1.length]; exact hz, fun p hp => ?_⟩
  exact (k.le l1).lst hm1 r1 p hp
theorem de_newL {es : List Expr} {f : AF} (ha : DA X es f) : DE X (.List es pos) (eNewL f) := by
  obtain ⟨ta, pa, ra⟩ := ha.ex
  refine ⟨_, pe_lst pa, fun T σ H ρ m d m' hm hs hf Q k => ?_⟩
  obtain ⟨x, m1, e1, hf⟩ := bd_some hf
  obtain ⟨hz, hf⟩ := ite_some hf
  cases hf
  refine ra T σ H ρ m x _ hm hs e1 _ fun vs T1 H1 l1 hm1 r1 => ⟨by rw [← r1.length]; exact hz, fun p hp => ?_⟩
  exact (k.le l1).newL hm1 r1 p hp
/-- two texts, one behind the other -/
def catS (i j : Str) : Str := ⟨(i.cps.toList ++ j.cps.toList).toArray⟩
theorem catS_eq (i j : Str) : i ++ j = catS i j := by
  cases i with
  | mk a => cases j with
    | mk b =>
      show (⟨a ++ b⟩ : Str) = ⟨(a.toList ++ b.toList).toArray⟩
      congr 1
      exact Array.ext' (by simp)
def addD (m : M) (x y : D) : Option D := match x, y with
  | .int i, .int j => some (.int (i + j))
  | .str i, .str j => if i.length + j.length ≤ sizeLine then some (.str (catS i j)) else none
  | .tup a, .tup b => if a.length + b.length ≤ sizeLine then some (.tup (a ++ b)) else none
  | x, y => match lstOf m x, lstOf m y with
    | some a, some b => if a.length + b.length ≤ sizeLine then some (.lst (a ++ b)) else none
    | _, _ => none
theorem addD_lst {m : M} {x y d : D} (h : addD m x y = some d) : (∃ i j, x = .int i ∧ y = .int j ∧ d = .int (i + j)) ∨ (∃ i j, x = .str i ∧ y = .str j ∧ i.length + j.length ≤ sizeLine ∧ d = .str (catS i j)) ∨
    (∃ a b, x = .tup a ∧ y = .tup b ∧ a.length + b.length ≤ sizeLine ∧ d = .tup (a ++ b)) ∨ (∃ a b, lstOf m x = some a ∧ lstOf m y = some b ∧ a.length + b.length ≤ sizeLine ∧ d = .lst (a ++ b)) := by
  unfold addD at h
  split at h
  · cases h; exact .inl ⟨_, _, rfl, rfl, rfl⟩
  · obtain ⟨hz, h⟩ := ite_some h; cases h; exact .inr (.inl ⟨_, _, rfl, rfl, hz, rfl⟩)
  · obtain ⟨hz, h⟩ := ite_some h; cases h; exact .inr (.inr (.inl ⟨_, _, rfl, rfl, hz, rfl⟩))
  · split at h
    · next h1 h2 => obtain ⟨hz, h⟩ := ite_some h; cases h; exact .inr (.inr (.inr ⟨_, _, h1, h2, hz, rfl⟩))
    · cases h
theorem op_add' : OpD X (binaryOp .Add) addD := ⟨_, orR op_add (orR op_add_str (orR op_catA op_cat)), fun T H m x y v u d hm rx ry hf Q k => by
  rcases addD_lst hf with ⟨i, j, rfl, rfl, rfl⟩ | ⟨i, j, rfl, rfl, hz, rfl⟩ | ⟨a, b, rfl, rfl, hz, rfl⟩ | ⟨a, b, h1, h2, hz, rfl⟩
  · cases rx; cases ry; exact .inl ⟨_, _, rfl, rfl, k.now hm (.int _)⟩
  · cases rx; cases ry; exact .inr (.inl ⟨_, _, rfl, rfl, hz, by rw [catS_eq]; exact k.now hm (.str _)⟩)
  · obtain ⟨p, xs, rfl, hx, r1⟩ := tup_rep rx
    obtain ⟨q, ys, rfl, hy, r2⟩ := tup_rep ry
    refine .inr (.inr (.inl ⟨p, q, xs, ys, rfl, rfl, hx, hy, by rw [← r1.length, ← r2.length]; exact hz, fun e => ?_, fun _ e => ?_, fun _ _ z hz => k.tup hm (r1.append r2) z hz⟩))
    · subst e; cases r1; exact k.now hm ry
    · subst e; cases r2; rw [List.append_nil] at k; exact k.now hm rx
  · obtain ⟨p, xs, rfl, hx, r1⟩ := lst_rep hm rx h1
    obtain ⟨q, ys, rfl, hy, r2⟩ := lst_rep hm ry h2
    exact .inr (.inr (.inr ⟨p, q, xs, ys, rfl, rfl, hx, hy, by rw [← r1.length, ← r2.length]; exact hz, fun z hz => k.lst hm (r1.append r2) z hz⟩))⟩
def mulD (m : M) (x y : D) : Option D := match x, y with
  | .int i, .int j => if (-(2 ^ 64) < i ∧ i < 2 ^ 64) ∨ (-(2 ^ 64) < j ∧ j < 2 ^ 64) then some (.int (i * j)) else none
  | .tup a, .int k => if a ≠ [] ∧ a.length ≤ 1000 ∧ 0 ≤ k ∧ k ≤ 1000 then some (.tup (List.replicate k.toNat a).flatten) else none
  | .lst a, .int k => if a.length ≤ 1000 ∧ 0 ≤ k ∧ k ≤ 1000 then some (.lst (List.replicate k.toNat a).flatten) else none
  | _, _ => none
theorem tuple_mul1 (l : Addr) (items : Array Value) (n : Nat) (dd : Option Addr) (sl : Array (Option Value)) (u : Tok) :
    Meets (Builtin.«tuple.__mul__» ⟨[.ref l, .int 1 u], []⟩) (fun _ R s => s.heap.get? l = some { cls := .type "tuple", dict := dd, data := .seq items n, slots := sl } ∧ R (.ok (.ret (Value.ref l))) s) :=
  .of_wp fun prog w A R s h => by
    obtain ⟨hp, g, d, tk, os⟩ := s
    obtain ⟨hl, h⟩ := h
    have f1 := AutoSeq1.idx_int
    wp_walk using wpAny_loadPart' hl
    exact ⟨_, rfl, h⟩
theorem tuple_mul0 (l : Addr) (items : Array Value) (n : Nat) (dd : Option Addr) (sl : Array (Option Value)) (u : Tok) (hi : items.isEmpty = false) :
    Meets (Builtin.«tuple.__mul__» ⟨[.ref l, .int 0 u], []⟩) (fun _ R s => s.heap.get? l = some { cls := .type "tuple", dict := dd, data := .seq items n, slots := sl } ∧ R (.ok (.ret (Value.ref s.heap.objs.size))) { s with heap := s.heap.push { cls := Value.type "tuple", data := Data.seq #[] } }) :=
  .of_wp fun prog w A R s h => by
    obtain ⟨hp, g, d, tk, os⟩ := s
    obtain ⟨hl, h⟩ := h
    have f1 := AutoSeq1.idx_int
    have c1 : (items.isEmpty || (0 : Int) == 1) = false := by rw [hi]; rfl
    wp_walk using wpAny_loadPart' hl
    repeat (first
      | (refine wpAny_ite_false (decide_eq_false (by rw [c1]; exact Bool.false_ne_true)) ?_; wp_walk using wpAny_loadPart' hl))
    exact ⟨_, rfl, h⟩
theorem repT_core {l : Addr} {k : Int} {t : Tok} {xs : List V} {pins : List (Addr × Obj)} {s : Shared} {σ : L2.St} {H : Hp} {Q : VK} (I : Inv X pins σ H s) (hT : SqT X.K H l xs) (h1 : k = 1 → Q (.ref l) H) (h0 : k = 0 → xs ≠ [] ∧ ∀ p, H p = none → Q (.ref p) (upd H p (.tup []))) (hk : k = 0 ∨ k = 1) :
    wpAny (model X.prog X.w) X.A (binaryOp .Mult (.ref l) (.int k t)) (EP X pins σ Q) X.xe s := by
  obtain ⟨its, r, ⟨⟨cls, dd, data, sl⟩, ho, hc, n, hd⟩, hs⟩ := I.tuple hT
  simp only at hc hd
  subst hc hd
  refine wpAny_binaryOp_repeat_ref (T := "tuple") (U := "int") (by decide) ⟨_, ho, rfl⟩ (fun s' => typeIs_int s' k t) noFill_tuple_mul F.fills_int_mul F.slot_int_rmul repeat_tuple F.slot_int_index.lookup
    (call_meets F.slot_int_rmul (typeIs_int s k t) F.entry_int_rmul (F.args_int_rmul_2 _ _) (int_rmul_tuple k t l its.toArray n dd sl)
      ⟨ho, rfl, ⟨_, ho, rfl⟩, ?_⟩)
  rcases hk with rfl | rfl
  · obtain ⟨hne, q⟩ := h0 rfl
    refine call_meets F.slot_tuple_mul ⟨_, ho, rfl⟩ F.entry_tuple_mul (F.args_tuple_mul_2 _ _) (tuple_mul0 l its.toArray n dd sl t ?_) ⟨ho, ?_⟩
    · cases its with
      | nil => cases r; exact absurd rfl hne
      | cons _ _ => rfl
    · exact ⟨.ref s.heap.objs.size, _, I.laid (t' := s.toks) (o := .tup []) (fun b ob q => Heap.get?_push_of_some _ q) (Nat.le_refl _) ⟨Nat.zero_le _, _, .nil, PyProof.Rows.IsTup.new _ _⟩, rfl, q _ (I.hok.fresh (Nat.le_refl _))⟩
  · refine call_meets F.slot_tuple_mul ⟨_, ho, rfl⟩ F.entry_tuple_mul (F.args_tuple_mul_2 _ _) (tuple_mul1 l its.toArray n dd sl t) ⟨ho, ?_⟩
    exact ⟨.ref l, H, I, rfl, h1 rfl⟩
def rRepS (K : PySem.W.Frag) : R2 := fun x y H Q => ∃ l k xs, x = .ref l ∧ y = .int k ∧ SqT K H l xs ∧ (k = 1 → Q (.ref l) H) ∧ (k = 0 → xs ≠ [] ∧ ∀ p, H p = none → Q (.ref p) (upd H p (.tup []))) ∧ (k = 0 ∨ k = 1)
theorem op_repS : OpR X (binaryOp .Mult) (rRepS X.K) := by
  intro pins s σ H x y v u Q I rx ry h
  obtain ⟨l, k, xs, rfl, rfl, hT, h1, h0, hk⟩ := h
  cases rx
  obtain ⟨t, rfl⟩ := ry
  exact repT_core I hT h1 h0 hk
theorem rep_nil {α : Type} (xs : List α) : (List.replicate 1 xs).flatten = xs := by simp
theorem RepL.rep {xs : List D} {vs : List V} (r : RepL g T H xs vs) : ∀ n : Nat, RepL g T H (List.replicate n xs).flatten (List.replicate n vs).flatten
  | 0 => .nil
  | n + 1 => by
    rw [List.replicate_succ, List.replicate_succ, List.flatten_cons, List.flatten_cons]
    exact r.append (RepL.rep r n)
theorem mulD_some {m : M} {x y d : D} (h : mulD m x y = some d) : (∃ i j, x = .int i ∧ y = .int j ∧ CMul i j ∧ d = .int (i * j)) ∨
    (∃ a k, x = .tup a ∧ y = .int k ∧ (a ≠ [] ∧ a.length ≤ 1000 ∧ 0 ≤ k ∧ k ≤ 1000) ∧ d = .tup (List.replicate k.toNat a).flatten) ∨ (∃ a k, x = .lst a ∧ y = .int k ∧ (a.length ≤ 1000 ∧ 0 ≤ k ∧ k ≤ 1000) ∧ d = .lst (List.replicate k.toNat a).flatten) := by
  unfold mulD at h
  split at h
  · obtain ⟨hz, h⟩ := ite_some h; cases h; exact .inl ⟨_, _, rfl, rfl, hz, rfl⟩
  · obtain ⟨hz, h⟩ := ite_some h; cases h; exact .inr (.inl ⟨_, _, rfl, rfl, hz, rfl⟩)
  · obtain ⟨hz, h⟩ := ite_some h; cases h; exact .inr (.inr ⟨_, _, rfl, rfl, hz, rfl⟩)
  · cases h
theorem op_mul' : OpD X (binaryOp .Mult) mulD := ⟨_, orR op_mul (orR op_repS (orR op_repT op_rep)), fun T H m x y v u d hm rx ry hf Q k => by
  rcases mulD_some hf with ⟨i, j, rfl, rfl, hc, rfl⟩ | ⟨a, n, rfl, rfl, ⟨h1, h2, h3, h4⟩, rfl⟩ | ⟨a, n, rfl, rfl, ⟨h2, h3, h4⟩, rfl⟩
  · cases rx; cases ry; exact .inl ⟨_, _, rfl, rfl, hc, k.now hm (.int _)⟩
  · obtain ⟨p, xs, rfl, hx, r1⟩ := tup_rep rx
    cases ry
    have hne : xs ≠ [] := fun e => by subst e; cases r1; exact h1 rfl
    by_cases hn : n = 0 ∨ n = 1
    · refine .inr (.inl ⟨p, n, xs, rfl, rfl, hx, fun e => ?_, fun e => ⟨hne, fun z hz => ?_⟩, hn⟩)
      · subst e; rw [show (List.replicate (1 : Int).toNat a).flatten = a from rep_nil a] at k; exact k.now hm rx
      · subst e; exact k.tup hm .nil z hz
    · refine .inr (.inr (.inl ⟨p, n, xs, rfl, rfl, hx, hne, by omega, h4, by rw [← r1.length]; exact h2, fun z hz => k.tup hm (r1.rep _) z hz⟩))
  · cases rx with
    | lst f r1 =>
      cases ry
      refine .inr (.inr (.inr ⟨_, n, _, rfl, rfl, f.2, by omega, by omega, ?_, fun z hz => k.lst hm (r1.rep _) z hz⟩))
      rw [← r1.length, sizeLine_eq]
      have : a.length * n.toNat ≤ 1000 * 1000 := Nat.mul_le_mul h2 (by omega)
      omega⟩
end
end L4
namespace L4
open PySem L2
section
variable {X : Cx} {g : G} {T : Tk} {H : Hp} {m : M} {Q : VK} {pos : Pos}
theorem RepL.atI {ds : List D} {vs : List V} {i : Int} {d : D} (r : RepL g T H ds vs) (h : L2.atI ds i = some d) : ∃ v, L2.atI vs i = some v ∧ Rep g T H d v := by
  unfold L2.atI at h ⊢
  obtain ⟨j, h1, h2⟩ := Option.bind_eq_some_iff.mp h
  obtain ⟨v, h3, q⟩ := r.get h2
  rw [← r.length, h1]
  exact ⟨v, h3, q⟩
def ixD (m : M) (x y : D) : Option D := match x, y with
  | .tup ds, .int i => L2.atI ds i
  | .str z, .int i => if z.length ≤ sizeLine then (L2.atI z.cps.toList i).map fun c => .str ⟨#[c]⟩ else none
  | x, .int i => (lstR m x).bind fun ds => L2.atI ds i
  | _, _ => none
theorem ixD_some {m : M} {x y d : D} (h : ixD m x y = some d) : (∃ ds i, x = .tup ds ∧ y = .int i ∧ L2.atI ds i = some d) ∨ (∃ z i c, x = .str z ∧ y = .int i ∧ z.length ≤ sizeLine ∧ L2.atI z.cps.toList i = some c ∧ d = .str ⟨#[c]⟩) ∨ (∃ ds i, lstR m x = some ds ∧ y = .int i ∧ L2.atI ds i = some d) := by
  unfold ixD at h
  split at h
  · exact .inl ⟨_, _, rfl, rfl, h⟩
  · obtain ⟨hz, h⟩ := ite_some h
    obtain ⟨c, h1, h2⟩ := Option.map_eq_some_iff.mp h
    exact .inr (.inl ⟨_, _, c, rfl, rfl, hz, h1, h2.symm⟩)
  · obtain ⟨ds, h1, h2⟩ := Option.bind_eq_some_iff.mp h
    exact .inr (.inr ⟨ds, _, h1, rfl, h2⟩)
  · cases h
theorem ixR_or {r q : R2} (h1 : IxR X r) (h2 : IxR X q) : IxR X (fun x y H Q => r x y H Q ∨ q x y H Q) := by
  intro value slice pins s σ H x y v u Q I rx ry h hs
  rcases h with h | h
  · exact h1 value slice pins s σ H x y v u Q I rx ry h hs
  · exact h2 value slice pins s σ H x y v u Q I rx ry h hs
abbrev OF := Ss → M → Option (Option Int × M)
def RfP (g : G) (t : TO) (f : OF) : Prop := ∀ T σ H ρ m d m', RepH g T H m → RepS g T H σ ρ → f ρ m = some (d, m') → ∀ Q : Option Int → Hp → Prop, (∀ T' H', Le T H T' H' → RepH g T' H' m' → Q d H') → t σ H Q
structure DP (X : Cx) (e : Option Expr) (f : OF) : Prop where
  ex : ∃ t, PO X e t ∧ RfP (gx X) t f
def oNo : OF := fun _ m => some (none, m)
def oYes (a : EF) : OF := fun ρ m => bd (a ρ m) fun x m1 => match x with
  | .int i => some (some i, m1)
  | _ => none
theorem dp_no : DP X none oNo := ⟨_, po_none, fun T σ H ρ m d m' hm hs hf Q k => by cases hf; exact k T H .refl hm⟩
theorem dp_yes {e : Expr} {f : EF} (h : DE X e f) : DP X (some e) (oYes f) := by
  obtain ⟨t, p, r⟩ := h.ex
  refine ⟨_, po_some p, fun T σ H ρ m d m' hm hs hf Q k => ?_⟩
  obtain ⟨x, m1, e1, hf⟩ := bd_some hf
  refine r T σ H ρ m x m1 hm hs e1 _ fun v T1 H1 l1 hm1 r1 => ?_
  cases r1 with
  | int i => cases hf; exact ⟨i, rfl, k T1 H1 l1 hm1⟩
  | _ => cases hf
def cutD {α : Type} (xs : List α) (lo hi : Option Int) : List α := (xs.drop (HT.sIx xs.length 0 lo)).take (HT.sIx xs.length xs.length hi - HT.sIx xs.length 0 lo)
theorem RepL.drop {ds : List D} {vs : List V} (n : Nat) (r : RepL g T H ds vs) : RepL g T H (ds.drop n) (vs.drop n) := by
  induction n generalizing ds vs with
  | zero => exact r
  | succ n ih => cases r with
    | nil => exact .nil
    | cons _ s => exact ih s
theorem RepL.take {ds : List D} {vs : List V} (n : Nat) (r : RepL g T H ds vs) : RepL g T H (ds.take n) (vs.take n) := by
  induction n generalizing ds vs with
  | zero => exact .nil
  | succ n ih => cases r with
    | nil => exact .nil
    | cons q s => exact .cons q (ih s)
theorem RepL.cut {ds : List D} {vs : List V} (r : RepL g T H ds vs) (lo hi : Option Int) : RepL g T H (cutD ds lo hi) (L2.cutV vs lo hi) := by
  unfold cutD L2.cutV
  rw [r.length]
  exact (r.drop _).take _
def slD (m : M) (x : D) (lo hi : Option Int) : Option D := match x with
  | .tup ds => some (.tup (cutD ds lo hi))
  | .str z => if z.length ≤ sizeLine then some (.str (L2.cutS z lo hi)) else none
  | x => (lstR m x).map fun ds => .lst (cutD ds lo hi)
theorem slD_some {m : M} {x d : D} {lo hi : Option Int} (h : slD m x lo hi = some d) : (∃ ds, x = .tup ds ∧ d = .tup (cutD ds lo hi)) ∨ (∃ z, x = .str z ∧ z.length ≤ sizeLine ∧ d = .str (L2.cutS z lo hi)) ∨ (∃ ds, lstR m x = some ds ∧ d = .lst (cutD ds lo hi)) := by
  unfold slD at h
  split at h
  · cases h; exact .inl ⟨_, rfl, rfl⟩
  · obtain ⟨hz, h⟩ := ite_some h; cases h; exact .inr (.inl ⟨_, rfl, hz, rfl⟩)
  · obtain ⟨ds, h1, h2⟩ := Option.map_eq_some_iff.mp h
    exact .inr (.inr ⟨ds, h1, h2.symm⟩)
theorem slR_or {r q : V → Option Int → Option Int → Hp → VK → Prop} (h1 : SlR X r) (h2 : SlR X q) : SlR X (fun x lo hi H Q => r x lo hi H Q ∨ q x lo hi H Q) := by
  intro pins s σ H x v vl vu lo hi sl Q I rx hs pl pu h
  rcases h with h | h
  · exact h1 pins s σ H x v vl vu lo hi sl Q I rx hs pl pu h
  · exact h2 pins s σ H x v vl vu lo hi sl Q I rx hs pl pu h
def eSl (a : EF) (lo hi : OF) : EF := fun ρ m => bd (a ρ m) fun x m1 => bd (lo ρ m1) fun l m2 => bd (hi ρ m2) fun u m3 => pu (slD m3 x l u) m3
theorem whole_cut {α : Type} {xs : List α} {lo hi : Option Int} (h : HT.sIx xs.length 0 lo = 0 ∧ HT.sIx xs.length xs.length hi = xs.length) : cutD xs lo hi = xs := by
  unfold cutD
  rw [h.1, h.2]
  simp
theorem de_sl {e : Expr} {lo hi : Option Expr} {f : EF} {fl fh : OF} {p2 : Pos} (he : DE X e f) (hl : DP X lo fl) (hh : DP X hi fh) : DE X (.Subscript e (.Slice lo hi none p2) pos) (eSl f fl fh) := by
  obtain ⟨t, p, r⟩ := he.ex; obtain ⟨tl, pl, rl⟩ := hl.ex; obtain ⟨th, ph, rh⟩ := hh.ex
  refine ⟨_, pe_slice (slR_or sl_tupA (slR_or sl_str sl_list)) p pl ph, fun T σ H ρ m d m' hm hs hf Q k => ?_⟩
  obtain ⟨x, m1, e1, hf⟩ := bd_some hf
  obtain ⟨a, m2, e2, hf⟩ := bd_some hf
  obtain ⟨b, m3, e3, hf⟩ := bd_some hf
  obtain ⟨e4, rfl⟩ := pu_some hf
  refine r T σ H ρ m x m1 hm hs e1 _ fun v T1 H1 l1 hm1 r1 => ?_
  refine rl T1 σ H1 ρ m1 a m2 hm1 (hs.le l1) e2 _ fun T2 H2 l2 hm2 => ?_
  refine rh T2 σ H2 ρ m2 b _ hm2 (hs.le (l1.trans l2)) e3 _ fun T3 H3 l3 hm3 => ?_
  have k3 := k.le (l1.trans (l2.trans l3))
  have r3 := r1.le (l2.trans l3)
  rcases slD_some e4 with ⟨ds, rfl, rfl⟩ | ⟨z, rfl, hz, rfl⟩ | ⟨ds, h1, rfl⟩
  · obtain ⟨q, vs, rfl, hx, rr⟩ := tup_rep r3
    refine .inl ⟨q, vs, rfl, hx, fun hw => ?_, fun _ z hz => k3.tup hm3 (rr.cut _ _) z hz⟩
    rw [← rr.length] at hw
    rw [whole_cut hw] at k3
    exact k3.now hm3 r3
  · cases r3
    exact .inr (.inl ⟨z, rfl, hz, k3.now hm3 (.str _)⟩)
  · obtain ⟨q, vs, rfl, hx, rr⟩ := lstR_rep hm3 r3 h1
    exact .inr (.inr ⟨q, vs, rfl, hx, fun z hz => k3.lst hm3 (rr.cut _ _) z hz⟩)
mutual
def pd : D → Option PyData
  | .non => some .none
  | .bl b => some (.bool b)
  | .int i => some (.int i)
  | .str x => some (.str x)
  | .tup ds => (pdL ds).map .tuple
  | .lst ds => (pdL ds).map .list
  | .scr ds => (pdL ds).map .list
  | .dic _ _ => none
  | .obj _ _ _ => none
  | .ref _ => none
  | .glo _ => none
  | .ty _ => none
def pdL : List D → Option (List PyData)
  | [] => some []
  | d :: ds => match pd d, pdL ds with
    | some a, some b => some (a :: b)
    | _, _ => none
end
mutual
theorem pd_rep : ∀ (d : D) {v : V} {a : PyData}, pd d = some a → Rep g T H d v → Dp g.K H v a
  | .non, _, _, h, r => by rw [pd] at h; cases h; cases r; exact .non
  | .bl _, _, _, h, r => by rw [pd] at h; cases h; cases r; exact .bl _
  | .int _, _, _, h, r => by rw [pd] at h; cases h; cases r; exact .int _
  | .str _, _, _, h, r => by rw [pd] at h; cases h; cases r; exact .str _
  | .tup ds, _, _, h, r => by
    rw [pd] at h
    obtain ⟨as, h1, rfl⟩ := Option.map_eq_some_iff.mp h
    cases r with
    | tup f r => exact .tup f.sq (pdL_rep ds h1 r)
  | .lst ds, _, _, h, r => by
    rw [pd] at h
    obtain ⟨as, h1, rfl⟩ := Option.map_eq_some_iff.mp h
    cases r with
    | lst f r => exact .lst f.sq (pdL_rep ds h1 r)
  | .scr ds, _, _, h, r => by
    rw [pd] at h
    obtain ⟨as, h1, rfl⟩ := Option.map_eq_some_iff.mp h
    cases r with
    | scr f r => exact .lst f.sq (pdL_rep ds h1 r)
  | .dic _ _, _, _, h, _ => by rw [pd] at h; cases h
  | .obj _ _ _, _, _, h, _ => by rw [pd] at h; cases h
  | .ref _, _, _, h, _ => by rw [pd] at h; cases h
  | .glo _, _, _, h, _ => by rw [pd] at h; cases h
  | .ty _, _, _, h, _ => by rw [pd] at h; cases h
theorem pdL_rep : ∀ (ds : List D) {vs : List V} {as : List PyData}, pdL ds = some as → RepL g T H ds vs → DpAll g.K H vs as
  | [], _, _, h, r => by rw [pdL] at h; cases h; cases r; exact .nil
  | d :: ds, _, _, h, r => by
    rw [pdL] at h
    cases h1 : pd d with
    | none => rw [h1] at h; cases h
    | some a => cases h2 : pdL ds with
      | none => rw [h1, h2] at h; cases h
      | some b =>
        rw [h1, h2] at h
        cases h
        cases r with
        | cons r s => exact .cons (pd_rep d h1 r) (pdL_rep ds h2 s)
end
/-- the plain data of a value, of a tracked list too -/
def pdM (m : M) (d : D) : Option PyData := match (frz m d).bind pd with
  | some a => if SeqAt.shaped a then some a else none
  | none => none
theorem pdM_rep {d : D} {v : V} {a : PyData} (hm : RepH g T H m) (h : pdM m d = some a) (r : Rep g T H d v) : Dp g.K H v a ∧ SeqAt.shaped a = true := by
  unfold pdM at h
  split at h
  · next h1 =>
    obtain ⟨hz, h⟩ := ite_some h
    cases h
    obtain ⟨e, h2, h3⟩ := Option.bind_eq_some_iff.mp h1
    exact ⟨pd_rep e h3 (frz_ok hm (fun a h => (List.not_mem_nil h).elim) (fun a _ h => (List.not_mem_nil h).elim) h2 r), hz⟩
  · cases h
def eqD (m : M) (x y : D) : Option D := match pdM m x, pdM m y with
  | some a, some b => some (.bl (PyData.eqv a b))
  | _, _ => none
def neD (m : M) (x y : D) : Option D := match pdM m x, pdM m y with
  | some a, some b => some (.bl (!PyData.eqv a b))
  | _, _ => none
theorem Gd.u64 {k : Nat} (h : Gd k X) : X.A.units + 65 < cLine := by have := h.r.un; omega
theorem op_eq' {k : Nat} (gd : Gd k X) : OpD X (compareOp .Eq) eqD := ⟨_, op_eqD (by have := gd.u64; omega), fun T H m x y v u d hm rx ry hf Q k => by
  unfold eqD at hf
  split at hf
  · next h1 h2 => cases hf; obtain ⟨d1, s1⟩ := pdM_rep hm h1 rx; obtain ⟨d2, s2⟩ := pdM_rep hm h2 ry; exact ⟨_, _, d1, d2, s1, s2, k.now hm (.bl _)⟩
  · cases hf⟩
theorem op_ne' {k : Nat} (gd : Gd k X) : OpD X (compareOp .NotEq) neD := ⟨_, op_neD (by have := gd.u64; omega), fun T H m x y v u d hm rx ry hf Q k => by
  unfold neD at hf
  split at hf
  · next h1 h2 => cases hf; obtain ⟨d1, s1⟩ := pdM_rep hm h1 rx; obtain ⟨d2, s2⟩ := pdM_rep hm h2 ry; exact ⟨_, _, d1, d2, s1, s2, k.now hm (.bl _)⟩
  · cases hf⟩
def rInT (K : PySem.W.Frag) (b : Bool) : R2 := fun x y H Q => ∃ d ds, Dp K H x d ∧ Dp K H y (.tuple ds) ∧ SeqAt.shaped d = true ∧ SeqAt.shaped (.tuple ds) = true ∧ Q (.bl ((ds.any fun z => PyData.eqv z d) != b)) H
theorem room_t {A : Around} {d : PyData} {ds : List PyData} (sd : SeqAt.shaped d = true) (hu : A.units + 65 < cLine) : A.units + 1 + min (PyData.depthAll ds) d.depth < cLine := by
  have := SeqAt.depth_of_shaped sd
  have h2 : min (PyData.depthAll ds) d.depth ≤ d.depth := Nat.min_le_right _ _
  omega
theorem op_inT (hu : X.A.units + 65 < cLine) : OpR X (compareOp .In) (rInT X.K false) := by
  intro pins s σ H x y v u Q I rx ry h
  obtain ⟨d, ds, hd, he, sd, se, q⟩ := h
  obtain ⟨as, r1⟩ := Dp.reads I d x v hd rx
  obtain ⟨bs, r2⟩ := Dp.reads I (.tuple ds) y u he ry
  rw [Bool.bne_false] at q
  exact SeqAt.in_tuple_reads r2 r1 (SeqAt.canLay_of_shaped se) (SeqAt.canLay_of_shaped sd) (room_t sd hu) ⟨.bl _, H, I, rfl, q⟩
theorem op_ninT (hu : X.A.units + 65 < cLine) : OpR X (compareOp .NotIn) (rInT X.K true) := by
  intro pins s σ H x y v u Q I rx ry h
  obtain ⟨d, ds, hd, he, sd, se, q⟩ := h
  obtain ⟨as, r1⟩ := Dp.reads I d x v hd rx
  obtain ⟨bs, r2⟩ := Dp.reads I (.tuple ds) y u he ry
  rw [Bool.bne_true] at q
  exact SeqAt.notIn_tuple_reads r2 r1 (SeqAt.canLay_of_shaped se) (SeqAt.canLay_of_shaped sd) (room_t sd hu) ⟨.bl _, H, I, rfl, q⟩
/-- x in a text: one sign is looked up by itself -/
def inStr (i j : Str) : Bool := match i.cps.toList with
  | [c] => j.cps.toList.contains c
  | _ => !(Builtin.Str.occurrences j i 0 j.length 1).isEmpty
theorem sign_of {i : Str} {c : Nat} (h : i.cps.toList = [c]) : i = ⟨#[c]⟩ := by
  cases i with
  | mk a => congr 1; exact Array.ext' h
/-- x in a tuple, a list, a text -/
def inB (m : M) (x y : D) : Option Bool := match x, y with
  | .str i, .str j => some (inStr i j)
  | x, y => match pdM m x, pdM m y with
    | some a, some (.tuple ds) => some (ds.any fun z => PyData.eqv z a)
    | some a, some (.list ds) => some (ds.any fun z => PyData.eqv z a)
    | _, _ => none
theorem inB_some {m : M} {x y : D} {b : Bool} (h : inB m x y = some b) : (∃ i j, x = .str i ∧ y = .str j ∧ b = inStr i j) ∨
    (∃ a ds, pdM m x = some a ∧ pdM m y = some (.tuple ds) ∧ b = ds.any fun z => PyData.eqv z a) ∨ (∃ a ds, pdM m x = some a ∧ pdM m y = some (.list ds) ∧ b = ds.any fun z => PyData.eqv z a) := by
  unfold inB at h
  split at h
  · cases h; exact .inl ⟨_, _, rfl, rfl, rfl⟩
  · split at h
    · next h1 h2 => cases h; exact .inr (.inl ⟨_, _, h1, h2, rfl⟩)
    · next h1 h2 => cases h; exact .inr (.inr ⟨_, _, h1, h2, rfl⟩)
    · cases h
def inD (m : M) (x y : D) : Option D := (inB m x y).map .bl
def ninD (m : M) (x y : D) : Option D := (inB m x y).map fun b => .bl (!b)
theorem op_in' {k : Nat} (gd : Gd k X) : OpD X (compareOp .In) inD := ⟨_, orR op_in_sign (orR op_in_str (orR (op_inT gd.u64) (op_inD gd.u64))), fun T H m x y v u d hm rx ry hf Q k => by
  obtain ⟨b, hb, rfl⟩ := Option.map_eq_some_iff.mp hf
  rcases inB_some hb with ⟨i, j, rfl, rfl, rfl⟩ | ⟨a, ds, h1, h2, rfl⟩ | ⟨a, ds, h1, h2, rfl⟩
  · cases rx; cases ry
    unfold inStr at k
    split at k
    · next c hc =>
      refine .inl ⟨c, j, by rw [sign_of hc], rfl, ?_⟩
      have e : decide (c ∈ j.cps.toList) = j.cps.toList.contains c := by simp
      rw [e]
      exact k.now hm (.bl _)
    · exact .inr (.inl ⟨i, j, rfl, rfl, k.now hm (.bl _)⟩)
  · obtain ⟨d1, s1⟩ := pdM_rep hm h1 rx; obtain ⟨d2, s2⟩ := pdM_rep hm h2 ry
    exact .inr (.inr (.inl ⟨a, ds, d1, d2, s1, s2, by rw [Bool.bne_false]; exact k.now hm (.bl _)⟩))
  · obtain ⟨d1, s1⟩ := pdM_rep hm h1 rx; obtain ⟨d2, s2⟩ := pdM_rep hm h2 ry
    exact .inr (.inr (.inr ⟨a, ds, d1, d2, s1, s2, k.now hm (.bl _)⟩))⟩
theorem op_nin' {k : Nat} (gd : Gd k X) : OpD X (compareOp .NotIn) ninD := ⟨_, orR op_notIn_sign (orR op_notin_str (orR (op_ninT gd.u64) (op_notInD gd.u64))), fun T H m x y v u d hm rx ry hf Q k => by
  obtain ⟨b, hb, rfl⟩ := Option.map_eq_some_iff.mp hf
  rcases inB_some hb with ⟨i, j, rfl, rfl, rfl⟩ | ⟨a, ds, h1, h2, rfl⟩ | ⟨a, ds, h1, h2, rfl⟩
  · cases rx; cases ry
    unfold inStr at k
    split at k
    · next c hc =>
      refine .inl ⟨c, j, by rw [sign_of hc], rfl, ?_⟩
      have e : decide (c ∈ j.cps.toList) = j.cps.toList.contains c := by simp
      rw [e]
      exact k.now hm (.bl _)
    · exact .inr (.inl ⟨i, j, rfl, rfl, k.now hm (.bl _)⟩)
  · obtain ⟨d1, s1⟩ := pdM_rep hm h1 rx; obtain ⟨d2, s2⟩ := pdM_rep hm h2 ry
    exact .inr (.inr (.inl ⟨a, ds, d1, d2, s1, s2, by rw [Bool.bne_true]; exact k.now hm (.bl _)⟩))
  · obtain ⟨d1, s1⟩ := pdM_rep hm h1 rx; obtain ⟨d2, s2⟩ := pdM_rep hm h2 ry
    exact .inr (.inr (.inr ⟨a, ds, d1, d2, s1, s2, k.now hm (.bl _)⟩))⟩
end
end L4
namespace L4
open PySem L2
section
variable {X : Cx} {g : G} {T T' : Tk} {H : Hp} {m : M} {Q : VK} {pos : Pos}
mutual
theorem Rep.wk (hμ : T'.μ = T.μ) (hν : ∀ a ∈ T'.ν, a ∈ T.ν) : ∀ (d : D) {v : V}, Rep g T H d v → Rep g T' H d v
  | .non, _, r => by cases r; exact .non
  | .bl _, _, r => by cases r; exact .bl _
  | .int _, _, r => by cases r; exact .int _
  | .str _, _, r => by cases r; exact .str _
  | .glo _, _, r => by cases r; exact .glo _
  | .ty _, _, r => by cases r; exact .ty _
  | .ref _, _, r => by
    cases r with
    | ref h => exact .ref (by rw [hμ]; exact h)
  | .tup ds, _, r => by
    cases r with
    | tup f r =>
      refine .tup ?_ (RepL.wk hμ hν ds r)
      rcases f with ⟨n, f⟩ | f
      · exact .inl ⟨fun z => n (hν _ z), f⟩
      · exact .inr f
  | .lst ds, _, r => by
    cases r with
    | lst f r => exact .lst ⟨fun z => f.1 (hν _ z), f.2⟩ (RepL.wk hμ hν ds r)
  | .scr ds, _, r => by
    cases r with
    | scr f r =>
      refine .scr ?_ (RepL.wk hμ hν ds r)
      rcases f with ⟨n, f⟩ | f
      · exact .inl ⟨fun z => n (hν _ z), f⟩
      · exact .inr f
  | .dic ks vs, _, r => by
    cases r with
    | dicF n f r q => exact .dicF (fun z => n (hν _ z)) f (RepL.wk hμ hν ks r) (RepL.wk hμ hν vs q)
    | dicN n f e r q => exact .dicN (fun z => n (hν _ z)) f e (RepL.wk hμ hν ks r) (RepL.wk hμ hν vs q)
  | .obj c ns vs, _, r => by
    cases r with
    | obj n f e r => exact .obj (fun z => n (hν _ z)) f e (RepL.wk hμ hν vs r)
theorem RepL.wk (hμ : T'.μ = T.μ) (hν : ∀ a ∈ T'.ν, a ∈ T.ν) : ∀ (ds : List D) {vs : List V}, RepL g T H ds vs → RepL g T' H ds vs
  | [], _, r => by cases r; exact .nil
  | d :: ds, _, r => by
    cases r with
    | cons r s => exact .cons (Rep.wk hμ hν d r) (RepL.wk hμ hν ds s)
end
theorem pre_get {α : Type} {xs ys : List α} {n : Nat} {a : α} (h : xs <+: ys) (e : xs[n]? = some a) : ys[n]? = some a := by
  obtain ⟨t, rfl⟩ := h
  rw [List.getElem?_append_left (List.getElem?_eq_some_iff.mp e).1]
  exact e
mutual
theorem Rep.ext (hμ : T.μ <+: T'.μ) (hν : ∀ a ∈ T'.ν, a ∈ T.ν) : ∀ (d : D) {v : V}, Rep g T H d v → Rep g T' H d v
  | .non, _, r => by cases r; exact .non
  | .bl _, _, r => by cases r; exact .bl _
  | .int _, _, r => by cases r; exact .int _
  | .str _, _, r => by cases r; exact .str _
  | .glo _, _, r => by cases r; exact .glo _
  | .ty _, _, r => by cases r; exact .ty _
  | .ref _, _, r => by
    cases r with
    | ref h => exact .ref (pre_get hμ h)
  | .tup ds, _, r => by
    cases r with
    | tup f r =>
      refine .tup ?_ (RepL.ext hμ hν ds r)
      rcases f with ⟨n, f⟩ | f
      · exact .inl ⟨fun z => n (hν _ z), f⟩
      · exact .inr f
  | .lst ds, _, r => by
    cases r with
    | lst f r => exact .lst ⟨fun z => f.1 (hν _ z), f.2⟩ (RepL.ext hμ hν ds r)
  | .scr ds, _, r => by
    cases r with
    | scr f r =>
      refine .scr ?_ (RepL.ext hμ hν ds r)
      rcases f with ⟨n, f⟩ | f
      · exact .inl ⟨fun z => n (hν _ z), f⟩
      · exact .inr f
  | .dic ks vs, _, r => by
    cases r with
    | dicF n f r q => exact .dicF (fun z => n (hν _ z)) f (RepL.ext hμ hν ks r) (RepL.ext hμ hν vs q)
    | dicN n f e r q => exact .dicN (fun z => n (hν _ z)) f e (RepL.ext hμ hν ks r) (RepL.ext hμ hν vs q)
  | .obj c ns vs, _, r => by
    cases r with
    | obj n f e r => exact .obj (fun z => n (hν _ z)) f e (RepL.ext hμ hν vs r)
theorem RepL.ext (hμ : T.μ <+: T'.μ) (hν : ∀ a ∈ T'.ν, a ∈ T.ν) : ∀ (ds : List D) {vs : List V}, RepL g T H ds vs → RepL g T' H ds vs
  | [], _, r => by cases r; exact .nil
  | d :: ds, _, r => by
    cases r with
    | cons r s => exact .cons (Rep.ext hμ hν d r) (RepL.ext hμ hν ds s)
end
/-- a forbidden object changes -/
theorem rd_upd {a p : Addr} {u w : HO} (n : a ∉ T.ν) (hp : p ∈ T.ν) (h : Rd H a u) : Rd (upd H p w) a u := by
  have : a ≠ p := by rintro rfl; exact n hp
  unfold Rd
  rw [upd_ne this]
  exact h
mutual
theorem Rep.upF {p : Addr} {w : HO} (hp : p ∈ T.ν) : ∀ (d : D) {v : V}, Rep g T H d v → Rep g T (upd H p w) d v
  | .non, _, r => by cases r; exact .non
  | .bl _, _, r => by cases r; exact .bl _
  | .int _, _, r => by cases r; exact .int _
  | .str _, _, r => by cases r; exact .str _
  | .glo _, _, r => by cases r; exact .glo _
  | .ty _, _, r => by cases r; exact .ty _
  | .ref _, _, r => by
    cases r with
    | ref h => exact .ref h
  | .tup ds, _, r => by
    cases r with
    | tup f r =>
      refine .tup ?_ (RepL.upF hp ds r)
      rcases f with ⟨n, f⟩ | f
      · exact .inl ⟨n, by unfold Rd; rw [upd_ne (show _ ≠ p by rintro rfl; exact n hp)]; exact f⟩
      · exact .inr f
  | .lst ds, _, r => by
    cases r with
    | lst f r => exact .lst ⟨f.1, by rw [upd_ne (show _ ≠ p by rintro rfl; exact f.1 hp)]; exact f.2⟩ (RepL.upF hp ds r)
  | .scr ds, _, r => by
    cases r with
    | scr f r =>
      refine .scr ?_ (RepL.upF hp ds r)
      rcases f with ⟨n, o, f⟩ | f
      · exact .inl ⟨n, o, by rw [upd_ne (show _ ≠ p by rintro rfl; exact n hp)]; exact f⟩
      · exact .inr f
  | .dic ks vs, _, r => by
    cases r with
    | dicF n f r q => exact .dicF n (rd_upd n hp f) (RepL.upF hp ks r) (RepL.upF hp vs q)
    | dicN n f e r q => exact .dicN n (rd_upd n hp f) e (RepL.upF hp ks r) (RepL.upF hp vs q)
  | .obj c ns vs, _, r => by
    cases r with
    | obj n f e r => exact .obj n (by rw [upd_ne (show _ ≠ p by rintro rfl; exact n hp)]; exact f) e (RepL.upF hp vs r)
theorem RepL.upF {p : Addr} {w : HO} (hp : p ∈ T.ν) : ∀ (ds : List D) {vs : List V}, RepL g T H ds vs → RepL g T (upd H p w) ds vs
  | [], _, r => by cases r; exact .nil
  | d :: ds, _, r => by
    cases r with
    | cons r s => exact .cons (Rep.upF hp d r) (RepL.upF hp ds s)
end
theorem RepO.wk (hμ : T'.μ = T.μ) (hν : ∀ a ∈ T'.ν, a ∈ T.ν) {a : Addr} {o : O} (r : RepO g T H a o) : RepO g T' H a o := by
  cases r with
  | lst h r => exact .lst h (RepL.wk hμ hν _ r)
  | dicF h r q => exact .dicF h (RepL.wk hμ hν _ r) (RepL.wk hμ hν _ q)
  | dicN h k r q => exact .dicN h k (RepL.wk hμ hν _ r) (RepL.wk hμ hν _ q)
  | ins h k r => exact .ins h k (RepL.wk hμ hν _ r)
theorem RepO.ext (hμ : T.μ <+: T'.μ) (hν : ∀ a ∈ T'.ν, a ∈ T.ν) {a : Addr} {o : O} (r : RepO g T H a o) : RepO g T' H a o := by
  cases r with
  | lst h r => exact .lst h (RepL.ext hμ hν _ r)
  | dicF h r q => exact .dicF h (RepL.ext hμ hν _ r) (RepL.ext hμ hν _ q)
  | dicN h k r q => exact .dicN h k (RepL.ext hμ hν _ r) (RepL.ext hμ hν _ q)
  | ins h k r => exact .ins h k (RepL.ext hμ hν _ r)
theorem RepO.upF {p : Addr} {w : HO} (hp : p ∈ T.ν) {a : Addr} {o : O} (ha : a ≠ p) (r : RepO g T H a o) : RepO g T (upd H p w) a o := by
  cases r with
  | lst h r => exact .lst (by rw [upd_ne ha]; exact h) (RepL.upF hp _ r)
  | dicF h r q => exact .dicF (by rw [upd_ne ha]; exact h) (RepL.upF hp _ r) (RepL.upF hp _ q)
  | dicN h k r q => exact .dicN (by rw [upd_ne ha]; exact h) k (RepL.upF hp _ r) (RepL.upF hp _ q)
  | ins h k r => exact .ins (by rw [upd_ne ha]; exact h) k (RepL.upF hp _ r)
def Tk.forb (T : Tk) (p : Addr) : Tk := ⟨T.μ, p :: T.ν, fun a h => List.mem_cons_of_mem _ (T.sub a h)⟩
structure Made (g : G) (T : Tk) (H : Hp) (m : M) (p : Addr) (ds : List D) : Prop where
  np : p ∉ T.ν
  hm : RepH g (T.forb p) H m
  at_ : ∃ vs, H p = some (.lst vs) ∧ RepL g (T.forb p) H ds vs
theorem Made.new {p : Addr} (hm : RepH g T H m) (hp : H p = none) : Made g T (upd H p (.lst [])) m p [] ∧ Le T H (T.forb p) (upd H p (.lst [])) := by
  have np : p ∉ T.ν := hm.nope hp
  have l : Le T H (T.forb p) (upd H p (.lst [])) := ⟨List.prefix_rfl, fun a u e _ => by rw [upd_ne (ne_of_none e hp)]; exact e, fun a ha n => by
    rcases List.mem_cons.mp ha with rfl | z
    · exact hp
    · exact absurd z n, fun a ha n => absurd ha n, fun a h => List.mem_cons_of_mem _ h⟩
  refine ⟨⟨np, ⟨hm.len, hm.nd, fun a ha => ?_, fun n a o h1 h2 => (hm.at_ n a o h1 h2).le l ?_⟩, [], upd_same, .nil⟩, l⟩
  · rcases List.mem_cons.mp ha with rfl | z
    · exact ⟨_, upd_same, trivial⟩
    · obtain ⟨u, e, q⟩ := hm.has a z
      exact ⟨u, by rw [upd_ne (ne_of_none e hp)]; exact e, q⟩
  · obtain ⟨v, e, _⟩ := (hm.at_ n a o h1 h2).has
    rw [upd_ne (ne_of_none e hp)]
/-- what came of an evaluation while the list was being made -/
theorem Le.unforb {p : Addr} {T0 T1 : Tk} {H0 H1 : Hp} (l0 : Le T0 H0 T H) (hp0 : H0 p = none) (np : p ∉ T.ν) (hH : ∃ u, H p = some u) (l : Le (T.forb p) H T1 H1) : ∃ T2 : Tk, T2.μ = T1.μ ∧ p ∉ T2.ν ∧ (∀ a, a ∈ (T2.forb p).ν ↔ a ∈ T1.ν) ∧ Le T0 H0 T2 H1 := by
  obtain ⟨u, hu⟩ := hH
  have npμ : p ∉ T1.μ := fun z => by
    have := l.newμ p z (fun y => np (T.sub p y))
    rw [hu] at this
    cases this
  refine ⟨⟨T1.μ, T1.ν.filter (· ≠ p), fun a h => List.mem_filter.mpr ⟨T1.sub a h, by simp; rintro rfl; exact npμ h⟩⟩, rfl, by simp, fun a => ?_, ?_⟩
  · show a ∈ p :: T1.ν.filter (· ≠ p) ↔ _
    by_cases ha : a = p
    · subst ha
      simp
      exact l.up _ (List.mem_cons_self ..)
    · simp [ha]
  · refine ⟨l0.pre.trans l.pre, fun a v h n => ?_, fun a ha n => ?_, fun a ha n => ?_, fun a h => ?_⟩
    · have h1 : a ∉ T.μ := fun z => by rw [l0.newμ a z n] at h; cases h
      exact l.keep a v (l0.keep a v h n) h1
    · obtain ⟨ha, hne⟩ := List.mem_filter.mp ha
      cases e : H0 a with
      | none => rfl
      | some v =>
        have n1 : a ∉ T.ν := l0.out e n
        have := l.new a ha (fun z => by rcases List.mem_cons.mp z with z | z; simp [z] at hne; exact n1 z)
        rw [l0.keep a v e (Tk.out n)] at this
        cases this
    · cases e : H0 a with
      | none => rfl
      | some v =>
        have h1 : a ∉ T.μ := fun z => by rw [l0.newμ a z n] at e; cases e
        have := l.newμ a ha h1
        rw [l0.keep a v e n] at this
        cases this
    · refine List.mem_filter.mpr ⟨l.up a (List.mem_cons_of_mem _ (l0.up a h)), ?_⟩
      have : a ≠ p := by rintro rfl; exact np (l0.up _ h)
      simpa using this
/-- one element more -/
theorem Made.app {p : Addr} {T0 : Tk} {H0 : Hp} {ds : List D} {d : D} {v : V} (l0 : Le T0 H0 T H) (hp0 : H0 p = none) (k : Made g T H m p ds) (r : Rep g (T.forb p) H d v) {vs : List V} (hv : H p = some (.lst vs)) :
    Made g T (upd H p (.lst (vs ++ [v]))) m p (ds ++ [d]) ∧ Le T0 H0 T (upd H p (.lst (vs ++ [v]))) := by
  obtain ⟨np, hm, ws, hw, rl⟩ := k
  rw [hv] at hw
  cases hw
  have hp : p ∈ (T.forb p).ν := List.mem_cons_self ..
  refine ⟨⟨np, ⟨hm.len, hm.nd, fun a ha => ?_, fun n a o h1 h2 => (hm.at_ n a o h1 h2).upF hp ?_⟩, _, upd_same, (RepL.upF hp _ rl).append (.cons (Rep.upF hp _ r) .nil)⟩, ⟨l0.pre, fun a u h n => ?_, l0.new, l0.newμ, l0.up⟩⟩
  · by_cases z : a = p
    · rw [z]; exact ⟨_, upd_same, trivial⟩
    · obtain ⟨u, e, q⟩ := hm.has a ha
      exact ⟨u, by rw [upd_ne z]; exact e, q⟩
  · rintro rfl
    exact np (T.sub _ (List.mem_of_getElem? h1))
  · rw [upd_ne (ne_of_none h hp0)]
    exact l0.keep a u h n
/-- the list is done -/
theorem Made.done {p : Addr} {T0 : Tk} {H0 : Hp} {ds : List D} (l0 : Le T0 H0 T H) (k : Made g T H m p ds) : RepH g T H m ∧ Rep g T H (.lst ds) (.ref p) := by
  obtain ⟨np, hm, ws, hw, rl⟩ := k
  have sub : ∀ a ∈ T.ν, a ∈ (T.forb p).ν := fun a h => List.mem_cons_of_mem _ h
  exact ⟨⟨hm.len, hm.nd, fun a h => hm.has a (sub a h), fun n a o h1 h2 => RepO.wk (T := T.forb p) (T' := T) rfl sub (hm.at_ n a o h1 h2)⟩, .lst ⟨np, hw⟩ (RepL.wk (T := T.forb p) (T' := T) rfl sub _ rl)⟩
theorem Made.step {p : Addr} {T0 T1 : Tk} {H0 H1 : Hp} {ds : List D} {m1 : M} (l0 : Le T0 H0 T H) (hp0 : H0 p = none) (k : Made g T H m p ds) (l : Le (T.forb p) H T1 H1) (hm : RepH g T1 H1 m1) :
    ∃ T2 : Tk, Le T0 H0 T2 H1 ∧ Made g T2 H1 m1 p ds ∧ T2.μ = T1.μ ∧ ∀ a, a ∈ (T2.forb p).ν ↔ a ∈ T1.ν := by
  obtain ⟨np, _, ws, hw, rl⟩ := k
  obtain ⟨T2, e1, e2, e3, l2⟩ := l0.unforb hp0 np ⟨_, hw⟩ l
  refine ⟨T2, l2, ⟨e2, ⟨by rw [← hm.len]; exact congrArg List.length e1, by show T2.μ.Nodup; rw [e1]; exact hm.nd, fun a h => hm.has a ((e3 a).mp h), fun n a o h1 h2 => ?_⟩, ws, l.keep _ _ hw (fun y => np (T.sub p y)), ?_⟩, e1, e3⟩
  · exact RepO.wk (T := T1) (T' := T2.forb p) e1 (fun a h => (e3 a).mp h) (hm.at_ n a o (by rw [← e1]; exact h1) h2)
  · exact RepL.wk (T := T1) (T' := T2.forb p) e1 (fun a h => (e3 a).mp h) _ (rl.le l)
def setMany {α : Type} (σ : List (Option α)) : List Nat → List α → List (Option α)
  | i :: is, v :: vs => setMany (σ.set i (some v)) is vs
  | _, _ => σ
theorem wipe_set {i : Nat} {x : Option V} : ∀ {vs : List Nat} {σ : L2.St}, i ∈ vs → wipe (σ.set i x) vs = wipe σ vs := by
  intro vs
  induction vs with
  | nil => intro σ h; cases h
  | cons v vs ih =>
    intro σ h
    unfold wipe
    by_cases hi : i ∈ vs
    · rw [ih hi]
    · have e : i = v := by rcases List.mem_cons.mp h with z | z; exact z; exact absurd z hi
      subst e
      have key : ∀ (us : List Nat) (τ : L2.St), i ∉ us → wipe (τ.set i x) us = (wipe τ us).set i x := by
        intro us
        induction us with
        | nil => intro τ _; rfl
        | cons u us ih2 =>
          intro τ hu
          unfold wipe
          rw [ih2 τ (fun z => hu (List.mem_cons_of_mem _ z)), List.set_comm _ _ (fun z => hu (by rw [z]; exact List.mem_cons_self ..))]
      rw [key vs σ hi, List.set_set]
theorem wipe_wipe {vs : List Nat} {σ : L2.St} : ∀ us : List Nat, (∀ u ∈ us, u ∈ vs) → wipe (wipe σ us) vs = wipe σ vs
  | [], _ => rfl
  | u :: us, h => by
    show wipe ((wipe σ us).set u none) vs = _
    rw [wipe_set (h u (List.mem_cons_self ..)), wipe_wipe us fun w hw => h w (List.mem_cons_of_mem _ hw)]
theorem wipe_many {vs : List Nat} : ∀ (is : List Nat) (ws : List V) (σ : L2.St), (∀ u ∈ is, u ∈ vs) → wipe (setMany σ is ws) vs = wipe σ vs
  | [], _, _, _ => rfl
  | i :: is, [], _, _ => rfl
  | i :: is, w :: ws, σ, h => by
    show wipe (setMany (σ.set i (some w)) is ws) vs = _
    rw [wipe_many is ws _ fun u hu => h u (List.mem_cons_of_mem _ hu), wipe_set (h i (List.mem_cons_self ..))]
theorem many_len {α : Type} : ∀ (is : List Nat) (ws : List α) (σ : List (Option α)), (setMany σ is ws).length = σ.length
  | [], _, _ => rfl
  | i :: is, [], _ => rfl
  | i :: is, w :: ws, σ => by
    show (setMany (σ.set i (some w)) is ws).length = _
    rw [many_len]
    simp
theorem wipe_other {i : Nat} : ∀ {vs : List Nat} {σ : L2.St}, i ∉ vs → (wipe σ vs)[i]? = σ[i]?
  | [], _, _ => rfl
  | v :: vs, σ, h => by
    show ((wipe σ vs).set v none)[i]? = _
    rw [List.getElem?_set_ne (fun z => h (by rw [z]; exact List.mem_cons_self ..)), wipe_other fun z => h (List.mem_cons_of_mem _ z)]
theorem many_other {α : Type} {i : Nat} : ∀ {is : List Nat} {ws : List α} {σ : List (Option α)}, i ∉ is → (setMany σ is ws)[i]? = σ[i]?
  | [], _, _, _ => rfl
  | j :: is, [], _, _ => rfl
  | j :: is, w :: ws, σ, h => by
    show (setMany (σ.set j (some w)) is ws)[i]? = _
    rw [many_other fun z => h (List.mem_cons_of_mem _ z), List.getElem?_set_ne (fun z => h (by rw [z]; exact List.mem_cons_self ..))]
theorem RepS.many {σ : L2.St} {ρ : Ss} : ∀ {is : List Nat} {ds : List D} {vs : List V}, RepS g T H σ ρ → RepL g T H ds vs → RepS g T H (setMany σ is vs) (setMany ρ is ds)
  | [], _, _, h, _ => h
  | i :: is, _, _, h, .nil => h
  | i :: is, _, _, h, .cons r s => RepS.many (is := is) (RepS.set (i := i) h r) s
/-- the slots that are set are the ones that were wiped -/
theorem many_wiped {is : List Nat} {ds : List D} {vs : List V} {σ : L2.St} {ρ : Ss} (h : RepS g T H σ ρ) (r : RepL g T H ds vs) (hl : is.length = ds.length) : RepS g T H (setMany (wipe σ is) is vs) (setMany ρ is ds) := by
  have h0 : RepS g T H (setMany σ is vs) (setMany ρ is ds) := h.many r
  refine ⟨by rw [many_len, many_len, wipe_length]; exact h.len, fun i d e => ?_⟩
  obtain ⟨v, e1, q⟩ := h0.at_ i d e
  refine ⟨v, ?_, q⟩
  by_cases hi : i ∈ is
  · have key : ∀ (is : List Nat) (vs : List V) (σ τ : L2.St), σ.length = τ.length → is.length = vs.length → i ∈ is → (setMany σ is vs)[i]? = (setMany τ is vs)[i]? := by
      intro is
      induction is with
      | nil => intro vs σ τ _ _ hi; cases hi
      | cons j is ih =>
        intro vs σ τ hl hs hi
        cases vs with
        | nil => cases hs
        | cons w vs =>
          show (setMany (σ.set j (some w)) is vs)[i]? = (setMany (τ.set j (some w)) is vs)[i]?
          by_cases hj : i ∈ is
          · exact ih vs _ _ (by simpa using hl) (by simpa using hs) hj
          · rw [many_other hj, many_other hj]
            rcases List.mem_cons.mp hi with rfl | z
            · by_cases hb : i < σ.length
              · rw [List.getElem?_set_self hb, List.getElem?_set_self (by omega)]
              · rw [List.getElem?_eq_none (by simp; omega), List.getElem?_eq_none (by simp; omega)]
            · exact absurd z hj
    rw [key is vs (wipe σ is) σ (wipe_length _ _) (by rw [hl, r.length]) hi]
    exact e1
  · rw [many_other hi, wipe_other hi]
    rw [many_other hi] at e1
    exact e1
def unpk (n : Nat) (d : D) : Option (List D) := match d with
  | .tup ds => if ds.length = n then some ds else none
  | _ => none
inductive Tgt where
  | one (i : Nat) | many (is : List Nat)
def Tgt.is : Tgt → List Nat
  | .one i => [i]
  | .many is => is
def Tgt.un : Tgt → D → Option (List D)
  | .one _, d => some [d]
  | .many is, d => unpk is.length d
structure DGn (X : Cx) (e : Expr) (t : Tgt) : Prop where
  ex : ∃ tg, PG X e tg ∧ ∀ T σ H d v ds, Rep (gx X) T H d v → t.un d = some ds → ∀ Q, (∀ vs, RepL (gx X) T H ds vs → Q (setMany σ t.is vs) H) → tg v σ H Q
theorem dgn_name {i : Nat} {x : Str} (hN : X.N.Nodup) (hi : X.N[i]? = some x) (hx : Loc X.env.scope x) (hf : X.fn x = true ∨ X.env.scope.names.lookup x = some .local := by first | exact .inl rfl | exact .inr rfl | assumption) : DGn X (.Name x pos) (.one i) :=
  ⟨_, pg_name hN hi hx hf, fun T σ H d v ds r h Q k => by cases h; exact k [v] (.cons r .nil)⟩
structure DGns (X : Cx) (es : List Expr) (is : List Nat) : Prop where
  ex : ∃ tg, PGs X es tg ∧ ∀ vs σ H, vs.length = is.length → ∀ Q, Q (setMany σ is vs) H → tg vs σ H Q
theorem dgns_nil : DGns X [] [] := ⟨_, pgs_nil, fun vs σ H h Q k => ⟨List.eq_nil_of_length_eq_zero h, by cases vs; exact k; cases h⟩⟩
theorem dgns_cons {i : Nat} {x : Str} {es : List Expr} {is : List Nat} (hN : X.N.Nodup) (hi : X.N[i]? = some x) (hx : Loc X.env.scope x) (h2 : DGns X es is) (hf : X.fn x = true ∨ X.env.scope.names.lookup x = some .local := by first | exact .inl rfl | exact .inr rfl | assumption)
    (hs : (assignEach (.Name x pos :: es) X.env).map (·.2) = assign (.Name x pos) X.env :: (assignEach es X.env).map (·.2) := by rfl) : DGns X (.Name x pos :: es) (i :: is) := by
  obtain ⟨tg, pg, rg⟩ := h2.ex
  refine ⟨_, pgs_cons (pg_name hN hi hx hf) pg hs, fun vs σ H h Q k => ?_⟩
  cases vs with
  | nil => cases h
  | cons v vs => exact ⟨v, vs, rfl, rg vs _ H (by simpa using h) Q k⟩
theorem dgn_tup {es : List Expr} {k : Nat} {is : List Nat} (hc : X.calm = true) (h : DGns X es is)
    (hn : (assignEach es X.env).length = is.length := by rfl) (hst : (assignEach es X.env).findIdx? (·.1) = none := by rfl) : DGn X (.Tuple es k pos) (.many is) := by
  obtain ⟨tg, pg, rg⟩ := h.ex
  refine ⟨_, pg_tup hc pg hn hst, fun T σ H d v ds r h Q k => ?_⟩
  change unpk is.length d = some ds at h
  unfold unpk at h
  split at h
  · obtain ⟨hl, h⟩ := ite_some h
    cases h
    obtain ⟨a, vs, rfl, hx, rl⟩ := tup_rep r
    exact ⟨a, vs, rfl, hx, by rw [← rl.length]; exact hl, rg vs σ H (by rw [← rl.length]; exact hl) Q (k vs rl)⟩
  · cases h
/-- as the target of an assignment or a loop -/
def gTgt (t : Tgt) : GF := fun d ρ m => match t.un d with
  | some ds => some (setMany ρ t.is ds, m)
  | none => none
theorem dg_of {e : Expr} {t : Tgt} (h : DGn X e t) : DG X e (gTgt t) := by
  obtain ⟨tg, pg, rg⟩ := h.ex
  refine ⟨_, pg, fun T σ H ρ m d v ρ' m' hm hs r hf Q k => ?_⟩
  unfold gTgt at hf
  split at hf
  · next ds h1 =>
    cases hf
    exact rg T σ H d v ds r h1 Q fun vs rl => k _ T H .refl hm (hs.many rl)
  · cases hf
/-- an object that stood by itself is tracked from now on -/
theorem trackIt {p : Addr} {o : O} {T3 : Tk} (hm : RepH g T H m) (hp : p ∈ T.ν) (np : p ∉ T.μ) (e : T3.μ = T.μ ++ [p]) (e3 : ∀ a ∈ T3.ν, a ∈ T.ν) (ho : RepO g T3 H p o) : RepH g T3 H (m ++ [o]) := by
  have pre : T.μ <+: T3.μ := by rw [e]; exact List.prefix_append _ _
  refine ⟨by rw [e]; simp [hm.len], ?_, fun a ha => hm.has a (e3 a ha), fun n a o' h1 h2 => ?_⟩
  · rw [e]
    exact List.nodup_append.mpr ⟨hm.nd, by simp, fun a ha b hb => by rw [List.mem_singleton.mp hb]; rintro rfl; exact np ha⟩
  · rw [e] at h1
    by_cases hn : n < T.μ.length
    · rw [List.getElem?_append_left hn] at h1
      rw [List.getElem?_append_left (by rw [← hm.len]; exact hn)] at h2
      exact (hm.at_ n a o' h1 h2).ext pre e3
    · rw [List.getElem?_append_right (by omega)] at h1
      rw [List.getElem?_append_right (by rw [← hm.len]; omega), ← hm.len] at h2
      generalize n - T.μ.length = k at h1 h2
      cases k with
      | zero => cases h1; cases h2; exact ho
      | succ k => cases h1
theorem Le.pushed {p : Addr} {T0 : Tk} {H0 : Hp} (l : Le T0 H0 T H) (hp0 : H0 p = none) : Le T0 H0 (T.push p) H := by
  refine ⟨l.pre.trans (List.prefix_append _ _), l.keep, fun a ha n => ?_, fun a ha n => ?_, fun a h => List.mem_append_left _ (l.up a h)⟩
  · rcases List.mem_append.mp ha with z | z
    · exact l.new a z n
    · rw [List.mem_singleton.mp z]; exact hp0
  · rcases List.mem_append.mp ha with z | z
    · exact l.newμ a z n
    · rw [List.mem_singleton.mp z]; exact hp0
theorem forb_push {p a : Addr} : a ∈ (T.push p).ν → a ∈ (T.forb p).ν := fun h => by
  rcases List.mem_append.mp h with z | z
  · exact List.mem_cons_of_mem _ z
  · rw [List.mem_singleton.mp z]; exact List.mem_cons_self ..
theorem Made.track {p : Addr} {T0 : Tk} {H0 : Hp} {ds : List D} (l0 : Le T0 H0 T H) (hp0 : H0 p = none) (k : Made g T H m p ds) : Le T0 H0 (T.push p) H ∧ RepH g (T.push p) H (m ++ [.lst ds]) ∧ Rep g (T.push p) H (.ref m.length) (.ref p) := by
  obtain ⟨np, hm, ws, hw, rl⟩ := k
  have sub : ∀ a ∈ (T.push p).ν, a ∈ (T.forb p).ν := fun a h => forb_push h
  have l : T.μ.length = m.length := hm.len
  refine ⟨l0.pushed hp0, trackIt (T := T.forb p) hm (List.mem_cons_self ..) (fun z => np (T.sub p z)) rfl sub (.lst hw (RepL.ext (T := T.forb p) (List.prefix_append _ _) sub _ rl)), .ref ?_⟩
  show (T.μ ++ [p])[m.length]? = some p
  rw [← l, List.getElem?_append_right (Nat.le_refl _)]
  simp
def compGo (t : Tgt) (c : TF) (e : EF) (ρ : Ss) : List D → M → Option (List D × M)
  | [], m => some ([], m)
  | x :: xs, m => match t.un x with
    | some ds => bd (c (setMany ρ t.is ds) m) fun b m1 => if b then bd (e (setMany ρ t.is ds) m1) fun y m2 => bd (compGo t c e ρ xs m2) fun ys m3 => some (y :: ys, m3) else compGo t c e ρ xs m1
    | none => none
def eLcK (nw : Bool) (it : AF) (t : Tgt) (c : TF) (e : EF) : EF := fun ρ m => bd (it ρ m) fun xs m1 => if xs.length ≤ 1000000 then bd (compGo t c e ρ xs m1) fun ys m2 => some (bif nw then (.ref m2.length, m2 ++ [.lst ys]) else (.lst ys, m2)) else none
theorem Tgt.un_len {t : Tgt} {d : D} {ds : List D} (h : t.un d = some ds) : t.is.length = ds.length := by
  cases t with
  | one i => cases h; rfl
  | many is =>
    change unpk is.length d = some ds at h
    unfold unpk at h
    split at h
    · obtain ⟨hl, h⟩ := ite_some h; cases h; exact hl.symm
    · cases h
theorem rf_lc {wi : TI} {it : AF} {t : Tgt} {tg : TG} {tt : TT} {te : TE} {c : TF} {e : EF} (hi : RfI g wi it) (hg : ∀ T σ H d v ds, Rep g T H d v → t.un d = some ds → ∀ Q, (∀ vs, RepL g T H ds vs → Q (setMany σ t.is vs) H) → tg v σ H Q)
    (hc : RfT g tt c) (he : RfE g te e) {is : List Nat} (his : is = t.is) {nw : Bool} : RfE g (tLc wi tg tt te is) (eLcK nw it t c e) := by
  subst his
  intro T σ H ρ m d m' hm hs hf Q k
  obtain ⟨xs, m1, e1, hf⟩ := bd_some hf
  obtain ⟨hz, hf⟩ := ite_some hf
  obtain ⟨ys, mz, e2, hf⟩ := bd_some hf
  have hf := Option.some.inj hf
  refine hi T σ H ρ m xs m1 hm hs e1 _ fun J T0 H0 l0 hm0 ok p hp => ?_
  have hs0 := hs.le l0
  obtain ⟨md, lf⟩ := Made.new hm0 hp
  have start : Le T0 H0 T0 (upd H0 p (.lst [])) := ⟨List.prefix_rfl, fun a u e _ => by rw [upd_ne (ne_of_none e hp)]; exact e, fun a h n => absurd h n, fun a h n => absurd h n, fun a h => h⟩
  refine ⟨fun i j H1 => i + j = xs.length ∧ ∃ T1 m1 ds rest, Le T0 H0 T1 H1 ∧ Made g T1 H1 m1 p ds ∧ ds.length ≤ i ∧ RepS g (T1.forb p) H1 σ ρ ∧ compGo t c e ρ (xs.drop i) m1 = some (rest, mz) ∧ ys = ds ++ rest, ⟨xs.length, by simp, T0, m1, [], ys, start, md, Nat.le_refl _, hs0.le lf, by simpa using e2, rfl⟩, ?_⟩
  rintro i j H1 ⟨hij, T1, m1', ds, rest, l1, md1, hdl, hs1, hf1, hy⟩
  obtain ⟨vs1, hv1, rl1⟩ := md1.at_
  have okT : ItOk g (T1.forb p) H1 J xs := fun T2 H2 l2 mm hmm => ok (⟨T2.μ, T2.ν, T2.sub⟩) H2 (by
    refine ⟨l1.pre.trans l2.pre, fun a u h n => l2.keep a u (l1.keep a u h n) fun z => ?_, fun a ha n => ?_, fun a ha n => ?_, fun a h => l2.up a (List.mem_cons_of_mem _ (l1.up a h))⟩
    · rw [l1.newμ a z n] at h; cases h
    · cases e : H0 a with
      | none => rfl
      | some u =>
        have n1 : a ∉ (T1.forb p).ν := fun z => by
          rcases List.mem_cons.mp z with rfl | z
          · rw [hp] at e; cases e
          · exact l1.out e n z
        have := l2.new a ha n1
        rw [l1.keep a u e (Tk.out n)] at this
        cases this
    · cases e : H0 a with
      | none => rfl
      | some u =>
        have n1 : a ∉ T1.μ := fun z => by rw [l1.newμ a z n] at e; cases e
        have := l2.newμ a ha n1
        rw [l1.keep a u e n] at this
        cases this) mm hmm
  obtain ⟨okG, okS⟩ := okT (T1.forb p) H1 .refl m1' md1.hm i
  cases j with
  | zero =>
    left
    rw [List.drop_of_length_le (by omega)] at hf1
    cases hf1
    rw [List.append_nil] at hy
    subst hy
    refine ⟨okS (by omega), ?_⟩
    cases nw with
    | false =>
      cases hf
      obtain ⟨hmd, rd⟩ := md1.done l1
      exact k _ T1 H1 (l0.trans l1) hmd rd
    | true =>
      cases hf
      obtain ⟨l3, hmd, rd⟩ := md1.track l1 hp
      exact k _ _ H1 (l0.trans l3) hmd rd
  | succ j =>
    right
    have hi' : i < xs.length := by omega
    rw [List.drop_eq_getElem_cons hi'] at hf1
    obtain ⟨go, yl⟩ := okG xs[i] (List.getElem?_eq_getElem hi')
    refine ⟨go, _, fun _ q => q, fun x H2 y2 => ?_⟩
    obtain ⟨T2, l2, hm2, r2⟩ := yl x H2 y2
    unfold compGo at hf1
    split at hf1
    · next es hes =>
      obtain ⟨b, m3, e3, hf3⟩ := bd_some hf1
      refine hg T2 (wipe σ t.is) H2 xs[i] x es r2 hes _ fun vs rv => ⟨?_, ?_⟩
      · rw [wipe_many t.is vs _ fun u hu => hu, wipe_wipe t.is fun u hu => hu]
      · have hs2 : RepS g T2 H2 (setMany (wipe σ t.is) t.is vs) (setMany ρ t.is es) := many_wiped (hs1.le l2) rv (Tgt.un_len hes)
        refine hc T2 _ H2 _ m1' b m3 hm2 hs2 e3 _ fun T3 H3 l3 hm3 => ?_
        cases b with
        | false =>
          obtain ⟨T4, l4, md4, e4, e5⟩ := md1.step l1 hp (l2.trans l3) hm3
          exact ⟨j, Nat.lt_succ_self _, by omega, T4, m3, ds, rest, l4, md4, by omega, ⟨hs1.len, fun q d hq => by
            obtain ⟨v, h1, h2⟩ := (hs1.le (l2.trans l3)).at_ q d hq
            exact ⟨v, h1, Rep.wk (T' := T4.forb p) e4 (fun a h => (e5 a).mp h) _ h2⟩⟩, hf3, hy⟩
        | true =>
          obtain ⟨y, m4, e6, hf4⟩ := bd_some hf3
          obtain ⟨ys', m5, e7, hf5⟩ := bd_some hf4
          cases hf5
          refine he T3 _ H3 _ m3 y m4 hm3 (hs2.le l3) e6 _ fun v T4 H4 l4 hm4 r4 => ?_
          obtain ⟨T5, l5, md5, e8, e9⟩ := md1.step l1 hp (l2.trans (l3.trans l4)) hm4
          obtain ⟨vs5, hv5, _⟩ := md5.at_
          have r5 : Rep g (T5.forb p) H4 y v := Rep.wk (T' := T5.forb p) e8 (fun a h => (e9 a).mp h) _ r4
          obtain ⟨md6, l6⟩ := md5.app l5 hp r5 hv5
          have hl5 : vs5.length = ds.length := by
            obtain ⟨w, hw, q⟩ := md5.at_
            rw [hv5] at hw
            cases hw
            exact q.length.symm
          refine ⟨vs5, hv5, ?_, j, Nat.lt_succ_self _, by omega, T5, m4, ds ++ [y], ys', l6, md6, by simp; omega, ⟨hs1.len, fun q d hq => ?_⟩, e7, by rw [hy]; simp⟩
          · rw [hl5, sizeLine_eq]; omega
          · obtain ⟨w, h1, h2⟩ := (hs1.le (l2.trans (l3.trans l4))).at_ q d hq
            exact ⟨w, h1, Rep.upF (List.mem_cons_self ..) _ (Rep.wk (T' := T5.forb p) e8 (fun a h => (e9 a).mp h) _ h2)⟩
    · cases hf1
end
end L4
namespace L4
open PySem L2
section
variable {X : Cx} {g : G} {T T' : Tk} {H : Hp} {m : M} {Q : VK} {pos : Pos}
structure DTs (X : Cx) (ifs : List Expr) (f : TF) : Prop where
  ex : ∃ t, PTs X ifs t ∧ RfT (gx X) t f
def tTrue : TF := fun _ m => some (true, m)
theorem dts_nil : DTs X [] tTrue := ⟨_, pts_nil, fun T σ H ρ m b m' hm hs hf Q k => by cases hf; exact k T H .refl hm⟩
theorem dts_one {c : Expr} {f : TF} (h : DT X c f) : DTs X [c] f := by
  obtain ⟨t, p, r⟩ := h.ex
  exact ⟨_, pts_one p, r⟩
theorem de_lc {nw : Bool} {elt tg iter : Expr} {ifs : List Expr} {scope : Scope} {own : List (Str × Nat)} {fi : AF} {t : Tgt} {fc : TF} {fe : EF} (hc : X.calm = true) (hN : X.N.Nodup) (hi : DI X tg iter fi) (ok : BlkOk X.N X.env.scope scope own)
    (hg : ∀ (s : Shared) (H : Hp) (C : Addr) (cl : List (Str × Addr)) (fp : List Addr), DGn (X.blk s H scope (compEnvC scope cl C X.env) fp) tg t) (ht : ∀ (s : Shared) (H : Hp) (C : Addr) (cl : List (Str × Addr)) (fp : List Addr), DTs (X.blk s H scope (compEnvC scope cl C X.env) fp) ifs fc)
    (he : ∀ (s : Shared) (H : Hp) (C : Addr) (cl : List (Str × Addr)) (fp : List Addr), DE (X.blk s H scope (compEnvC scope cl C X.env) fp) elt fe) (hq : own.map (·.2) = t.is := by rfl) (hs : ∀ x, foldedSetIterable iter X.env x = pure x := by intro _; rfl) :
    DE X (.ListComp elt [⟨tg, iter, ifs, 0⟩] scope pos) (eLcK nw fi t fc fe) := by
  obtain ⟨ti, pi, ri⟩ := hi.ex
  refine ⟨_, pe_lc (g := fun v σ H Q => ∀ s H' C cl fp, ∃ t, PG (X.blk s H' scope (compEnvC scope cl C X.env) fp) tg t ∧ t v σ H Q) (tt := fun σ H Q => ∀ s H' C cl fp, ∃ t, PTs (X.blk s H' scope (compEnvC scope cl C X.env) fp) ifs t ∧ t σ H Q)
    (te := fun σ H Q => ∀ s H' C cl fp, ∃ t, PE (X.blk s H' scope (compEnvC scope cl C X.env) fp) elt t ∧ t σ H Q) hc hN pi ok (fun s H C cl fp => ⟨fun pins s1 σ H1 v u Q I r h => ?_⟩) (fun s H C cl fp => ⟨fun pins s1 σ H1 Q I h => ?_⟩) (fun s H C cl fp => ⟨fun pins s1 σ H1 Q I h => ?_⟩) hs, ?_⟩
  · obtain ⟨t, p, q⟩ := h s H C cl fp
    exact p.run pins s1 σ H1 v u Q I r q
  · obtain ⟨t, p, q⟩ := h s H C cl fp
    exact p.run pins s1 σ H1 Q I q
  · obtain ⟨t, p, q⟩ := h s H C cl fp
    exact p.run pins s1 σ H1 Q I q
  · refine rf_lc ri ?_ ?_ ?_ hq
    · intro T σ H d v ds r hu Q k s H' C cl fp
      obtain ⟨t, p, q⟩ := (hg s H' C cl fp).ex
      exact ⟨t, p, q T σ H d v ds r hu Q k⟩
    · intro T σ H ρ m b m' hm hs hf Q k s H' C cl fp
      obtain ⟨t, p, q⟩ := (ht s H' C cl fp).ex
      exact ⟨t, p, q T σ H ρ m b m' hm hs hf Q k⟩
    · intro T σ H ρ m b m' hm hs hf Q k s H' C cl fp
      obtain ⟨t, p, q⟩ := (he s H' C cl fp).ex
      exact ⟨t, p, q T σ H ρ m b m' hm hs hf Q k⟩
theorem ds_setLc {nw : Bool} {i : Nat} {y : Str} {py : Pos} {elt tg iter : Expr} {ifs : List Expr} {scope : Scope} {own : List (Str × Nat)} {spos : Pos} {fi : AF} {t : Tgt} {fc : TF} {fe : EF} (hc : X.calm = true) (hN : X.N.Nodup) (hy : X.N[i]? = some y) (hyl : X.env.scope.names.lookup y = some .local)
    (hsw : swapsWith (.ListComp elt [⟨tg, iter, ifs, 0⟩] scope pos) (some (.Name y py)) spos.line X.env = pure true) (hi : DI X tg iter fi) (ok : BlkOk X.N X.env.scope scope own)
    (hg : ∀ (s : Shared) (H : Hp) (C : Addr) (cl : List (Str × Addr)) (fp : List Addr), DGn (X.blk s H scope (compEnvC scope cl C X.env) fp) tg t) (ht : ∀ (s : Shared) (H : Hp) (C : Addr) (cl : List (Str × Addr)) (fp : List Addr), DTs (X.blk s H scope (compEnvC scope cl C X.env) fp) ifs fc)
    (he : ∀ (s : Shared) (H : Hp) (C : Addr) (cl : List (Str × Addr)) (fp : List Addr), DE (X.blk s H scope (compEnvC scope cl C X.env) fp) elt fe) (hq : own.map (·.2) = t.is := by rfl) (hs : ∀ x, foldedSetIterable iter X.env x = pure x := by intro _; rfl) :
    DS X (.Assign [.Name y py] (.ListComp elt [⟨tg, iter, ifs, 0⟩] scope pos) spos) (sAsg (eLcK nw fi t fc fe) (gNm i)) := by
  obtain ⟨ti, pi, ri⟩ := hi.ex
  refine ⟨_, ps_setLc (g := fun v σ H Q => ∀ s H' C cl fp, ∃ t, PG (X.blk s H' scope (compEnvC scope cl C X.env) fp) tg t ∧ t v σ H Q) (tt := fun σ H Q => ∀ s H' C cl fp, ∃ t, PTs (X.blk s H' scope (compEnvC scope cl C X.env) fp) ifs t ∧ t σ H Q)
    (te := fun σ H Q => ∀ s H' C cl fp, ∃ t, PE (X.blk s H' scope (compEnvC scope cl C X.env) fp) elt t ∧ t σ H Q) hc hN hy hyl hsw pi ok (fun s H C cl fp => ⟨fun pins s1 σ H1 v u Q I r h => ?_⟩) (fun s H C cl fp => ⟨fun pins s1 σ H1 Q I h => ?_⟩) (fun s H C cl fp => ⟨fun pins s1 σ H1 Q I h => ?_⟩) hs, rf_asg ?_ ?_⟩
  · obtain ⟨t, p, q⟩ := h s H C cl fp
    exact p.run pins s1 σ H1 v u Q I r q
  · obtain ⟨t, p, q⟩ := h s H C cl fp
    exact p.run pins s1 σ H1 Q I q
  · obtain ⟨t, p, q⟩ := h s H C cl fp
    exact p.run pins s1 σ H1 Q I q
  · refine rf_lc ri ?_ ?_ ?_ hq
    · intro T σ H d v ds r hu Q k s H' C cl fp
      obtain ⟨t, p, q⟩ := (hg s H' C cl fp).ex
      exact ⟨t, p, q T σ H d v ds r hu Q k⟩
    · intro T σ H ρ m b m' hm hs hf Q k s H' C cl fp
      obtain ⟨t, p, q⟩ := (ht s H' C cl fp).ex
      exact ⟨t, p, q T σ H ρ m b m' hm hs hf Q k⟩
    · intro T σ H ρ m b m' hm hs hf Q k s H' C cl fp
      obtain ⟨t, p, q⟩ := (he s H' C cl fp).ex
      exact ⟨t, p, q T σ H ρ m b m' hm hs hf Q k⟩
  · exact fun T σ H ρ m d v ρ' m' hm hs r hf Q k => by cases hf; exact k _ T H .refl hm (hs.set r)
def iAny (K : PySem.W.Frag) (te : TE) : TI := fun σ H R => te σ H fun v H1 => (∃ a, v = .ref a ∧ (∃ xs, SqL K H1 a xs) ∧ R (Itl K a) H1) ∨ (∃ a, v = .ref a ∧ (∃ xs, SqT K H1 a xs) ∧ R (Itt K a) H1) ∨ ∃ x, v = .str x ∧ R (Its x) H1
theorem pi_any {tg e : Expr} {te : TE} (he : PE X e te) : PI X tg e (iAny X.K te) := by
  refine ⟨fun pins s σ H R I h => ?_⟩
  refine thn (he.run pins s σ H _ I h) fun v s1 ⟨y, H1, I1, r1, hq⟩ => ?_
  rcases hq with ⟨a, rfl, ⟨xs, hx⟩, q⟩ | ⟨a, rfl, ⟨xs, hx⟩, q⟩ | ⟨x, rfl, q⟩
  · cases r1
    obtain ⟨its, rv, p, hz⟩ := I1.list hx
    exact wpAny_pyIter_list p.isList (pi_one (tk := s1.toks) I1 _ (turn_list a _) ⟨_, Heap.get?_push_size _ rfl, rfl, rfl⟩ q)
  · cases r1
    obtain ⟨its, rv, p, hz⟩ := I1.tuple hx
    exact wpAny_pyIter_tuple (show s1.heap.IsTuple a its.toArray from p) (pi_one (tk := s1.toks) I1 _ (turn_tuple a _) ⟨_, Heap.get?_push_size _ rfl, rfl, rfl⟩ q)
  · obtain ⟨t, rfl⟩ := r1
    cases ha : x.cps.all (· < 128)
    · exact wpAny_pyIter_wide ha (pi_one (tk := s1.toks) I1 _ (turn_str _ x t "str_iterator" (.inr rfl)) ⟨_, Heap.get?_push_size _ rfl, rfl, rfl⟩ q)
    · exact wpAny_pyIter_ascii ha (pi_one (tk := s1.toks) I1 _ (turn_str _ x t "str_ascii_iterator" (.inl rfl)) ⟨_, Heap.get?_push_size _ rfl, rfl, rfl⟩ q)
theorem RepL.none {ds : List D} {vs : List V} {i : Nat} (r : RepL g T H ds vs) (h : ds.length ≤ i) : vs.length ≤ i := by rw [← r.length]; exact h
theorem itok_L {a : Addr} {ds : List D} (h : ∀ T1 H1, Le T H T1 H1 → ∃ vs, SqL g.K H1 a vs ∧ RepL g T1 H1 ds vs) : ItOk g T H (Itl g.K a) ds := by
  intro T1 H1 l m1 hm1 i
  obtain ⟨vs, hx, r⟩ := h T1 H1 l
  refine ⟨fun d hd => ?_, fun hl => ⟨vs, hx, r.none (Nat.le_of_eq hl)⟩⟩
  obtain ⟨v, hv, q⟩ := r.get hd
  refine ⟨⟨vs, v, hx, hv⟩, fun x H2 ⟨e, hy⟩ => ?_⟩
  subst e
  have := hy vs hx
  rw [hv] at this
  cases this
  exact ⟨T1, .refl, hm1, q⟩
theorem itok_T {a : Addr} {ds : List D} (h : ∀ T1 H1, Le T H T1 H1 → ∃ vs, SqT g.K H1 a vs ∧ RepL g T1 H1 ds vs) : ItOk g T H (Itt g.K a) ds := by
  intro T1 H1 l m1 hm1 i
  obtain ⟨vs, hx, r⟩ := h T1 H1 l
  refine ⟨fun d hd => ?_, fun hl => ⟨vs, hx, r.none (Nat.le_of_eq hl)⟩⟩
  obtain ⟨v, hv, q⟩ := r.get hd
  refine ⟨⟨vs, v, hx, hv⟩, fun x H2 ⟨e, hy⟩ => ?_⟩
  subst e
  have := hy vs hx
  rw [hv] at this
  cases this
  exact ⟨T1, .refl, hm1, q⟩
theorem itok_S {x : Str} : ItOk g T H (Its x) (x.cps.toList.map fun c => .str ⟨#[c]⟩) := by
  intro T1 H1 l m1 hm1 i
  refine ⟨fun d hd => ?_, fun hl => by show x.cps.size ≤ i; have := Nat.le_of_eq hl; simpa using this⟩
  rw [List.getElem?_map] at hd
  obtain ⟨c, hc, rfl⟩ := Option.map_eq_some_iff.mp hd
  have hc' : x.cps[i]? = some c := by simpa using hc
  refine ⟨(Array.getElem?_eq_some_iff.mp hc').1, fun y H2 ⟨e, c', h1, h2⟩ => ?_⟩
  subst e h2
  rw [hc'] at h1
  cases h1
  exact ⟨T1, .refl, hm1, .str _⟩
theorem itok_R {lo : Int} {n : Nat} : ItOk g T H (Itr lo n) ((List.range n).map fun (i : Nat) => .int (lo + i)) := by
  intro T1 H1 l m1 hm1 i
  refine ⟨fun d hd => ?_, fun hl => by show n ≤ i; have := Nat.le_of_eq hl; simpa using this⟩
  rw [List.getElem?_map] at hd
  obtain ⟨c, hc, rfl⟩ := Option.map_eq_some_iff.mp hd
  obtain ⟨h1, h2⟩ := List.getElem?_eq_some_iff.mp hc
  simp at h1 h2
  subst h2
  refine ⟨h1, fun y H2 ⟨e, h2⟩ => ?_⟩
  subst e h2
  exact ⟨T1, .refl, hm1, .int _⟩
/-- the items of what is walked: nothing that is tracked -/
def items : D → Option (List D)
  | .tup ds => some ds
  | .lst ds => some ds
  | .scr ds => some ds
  | .str x => some (x.cps.toList.map fun c => .str ⟨#[c]⟩)
  | _ => none
def iIt (a : EF) : AF := fun ρ m => bd (a ρ m) fun x m1 => pu (items x) m1
theorem di_any {tg e : Expr} {f : EF} (h : DE X e f) : DI X tg e (iIt f) := by
  obtain ⟨t, p, r⟩ := h.ex
  refine ⟨_, pi_any p, fun T σ H ρ m ds m' hm hs hf R k => ?_⟩
  obtain ⟨x, m1, e1, hf⟩ := bd_some hf
  obtain ⟨e2, rfl⟩ := pu_some hf
  refine r T σ H ρ m x _ hm hs e1 _ fun v T1 H1 l1 hm1 r1 => ?_
  cases r1 with
  | tup f q => cases e2; exact .inr (.inl ⟨_, rfl, ⟨_, f.sq⟩, k _ T1 H1 l1 hm1 (itok_T fun T2 H2 l => ⟨_, (f.le l).sq, q.le l⟩)⟩)
  | lst f q => cases e2; exact .inl ⟨_, rfl, ⟨_, f.sq⟩, k _ T1 H1 l1 hm1 (itok_L fun T2 H2 l => ⟨_, (f.le l).sq, q.le l⟩)⟩
  | scr f q => cases e2; exact .inl ⟨_, rfl, ⟨_, f.sq⟩, k _ T1 H1 l1 hm1 (itok_L fun T2 H2 l => ⟨_, (f.le l).sq, q.le l⟩)⟩
  | str x => cases e2; exact .inr (.inr ⟨_, rfl, k _ T1 H1 l1 hm1 itok_S⟩)
  | _ => cases e2
def rngD (lo : Int) (n : Nat) : List D := (List.range n).map fun (i : Nat) => .int (lo + i)
def iR1 (a : AF) : AF := fun ρ m => bd (a ρ m) fun xs m1 => match xs with
  | [.int j] => if -(2 ^ 62) ≤ j ∧ j < 2 ^ 62 then some (rngD 0 j.toNat, m1) else none
  | _ => none
theorem di_range1 {tg a : Expr} {f : AF} {p : Pos} (hg : Gl X "range") (hm : X.mg "range" = none) (ha : DA X [a] f) (hs : starEach [a] X.env = [(false, eval a X.env)] := by rfl) : DI X tg (.Call (.Name "range" p) [a] [] pos) (iR1 f) := by
  obtain ⟨t, pa, r⟩ := ha.ex
  refine ⟨_, pi_range1 hg hm pa hs, fun T σ H ρ m ds m' hm hs hf R k => ?_⟩
  obtain ⟨x, m1, e1, hf⟩ := bd_some hf
  refine r T σ H ρ m x _ hm hs e1 _ fun v T1 H1 l1 hm1 r1 => ?_
  split at hf
  · obtain ⟨⟨h1, h2⟩, hf⟩ := ite_some hf
    cases hf
    cases r1 with
    | cons a b => cases a; cases b; exact ⟨_, rfl, h1, h2, k _ T1 H1 l1 hm1 itok_R⟩
  · cases hf
end
end L4
namespace L4
open PySem L2
structure PFn (P : Program) (w : World) (K : PySem.W.Frag) (mg : Str → Option Value) (base : Heap) (k : Nat) (x : Str) (n : Nat) (F : List D → Option D) : Prop where
  len : ∀ ds d, F ds = some d → ds.length = n
  ex : ∃ f fd ps, FnG P w K mg base CX0 k f fd ps (spP ⟨P, w, K⟩ n F) ∧ mg x = some (.ref f) ∧ PySem.W.keepIn K (.ref f) = true ∧ Binds K fd ps []
structure MFn (P : Program) (w : World) (K : PySem.W.Frag) (mg : Str → Option Value) (base : Heap) (k : Nat) (x : Str) (n : Nat) (F : List D → M → Option (D × M)) : Prop where
  len : ∀ ds m r, F ds m = some r → ds.length = n
  ex : ∃ f fd ps, FnG P w K mg base CX0 k f fd ps (spM ⟨P, w, K⟩ n F) ∧ mg x = some (.ref f) ∧ PySem.W.keepIn K (.ref f) = true ∧ Binds K fd ps []
/-- a method -/
structure PMt (P : Program) (w : World) (K : PySem.W.Frag) (mg : Str → Option Value) (base : Heap) (k : Nat) (c m : Str) (n : Nat) (F : List D → Option D) : Prop where
  len : ∀ ds d, F ds = some d → ds.length = n
  cl : Cls K (He.ga K c)
  ex : ∃ f fd ps, FnG P w K mg base CX0 k f fd ps (spP ⟨P, w, K⟩ n F) ∧ Meth K (He.ga K c) m f ∧ Binds K fd ps []
/-- a class with its __init__ -/
structure MNw (P : Program) (w : World) (K : PySem.W.Frag) (mg : Str → Option Value) (base : Heap) (k : Nat) (c : Str) (n : Nat) (F : List D → M → Option (D × M)) : Prop where
  len : ∀ ds m r, F ds m = some r → ds.length = n
  mgC : mg c = some (.ref (He.ga K c))
  ex : ∃ f fd ps, FnG P w K mg base CX0 k f fd ps (spM ⟨P, w, K⟩ n F) ∧ Mk K (He.ga K c) f ∧ Binds K fd ps []
section
variable {P : Program} {w : World} {K : PySem.W.Frag} {mg : Str → Option Value} {base : Heap} {k : Nat} {x q m c : Str} {ps N : List Str} {st : Stmt} {b : SF}
theorem fnG_all {f : Addr} {fd : FuncData} {sp : Sp} (F : Fun K x q st f fd) (S : FnScope N ps (defScope st)) (len : ∀ vs H Q E, sp vs H Q E → vs.length = ps.length)
    (hrun : ∀ {t : TS}, RfS ⟨P, w, K⟩ t b → ∀ {vs : List V} {H : Hp} {Q : VK} {E : XK}, sp vs H Q E → t { nx := fun _ H' => Q .non H', rt := Q } (L2.start N vs) H)
    (hbody : ∀ (cdv : Value) (A : Around) (outer : List Env) (s : Shared) (H : Hp) (E : XK), Gd k (cxOf CX0 P w K mg base N q (defScope st) f cdv A outer s H E).nox →
      DSs (cxOf CX0 P w K mg base N q (defScope st) f cdv A outer s H E).nox (defBody st) b) : FnG P w K mg base CX0 (k + 1) f fd ps sp := by
  refine .old (L3.fnG_of F S len fun cdv A outer s H vs Q E hg hr hsp => ?_)
  obtain ⟨t, p, r⟩ := (hbody cdv A outer s H E ⟨hg, hr⟩).ex
  exact ⟨t, p, hrun r hsp⟩
theorem pfn_df (D : L3.Df K mg x st) (S : FnScope N ps (defScope st))
    (hb : ∀ (kV doc pm : Value) (an : Option Addr) (cdv ct : Value) (us : List Value), us.length = ps.length → bindArgs (PySem.W.fnOf x x (defArgs st) (defBody st) (defScope st) .none kV doc pm an cdv ct) ⟨us, []⟩ = pure (ps.zip us))
    (hbody : ∀ (f : Addr) (cdv : Value) (A : Around) (outer : List Env) (s : Shared) (H : Hp) (E : XK), Gd k (cxOf CX0 P w K mg base N x (defScope st) f cdv A outer s H E).nox →
      DSs (cxOf CX0 P w K mg base N x (defScope st) f cdv A outer s H E).nox (defBody st) b) : PFn P w K mg base (k + 1) x ps.length (runP ps.length N.length b) := by
  obtain ⟨f, fd, F, g⟩ := D.ex
  exact ⟨fun ds d h => runP_len h, f, fd, ps, fnG_all F S (fun vs H Q E h => h.1) (fun r => spP_run r) (hbody f), g, F.kp, F.binds hb⟩
theorem mfn_df (D : L3.Df K mg x st) (S : FnScope N ps (defScope st))
    (hb : ∀ (kV doc pm : Value) (an : Option Addr) (cdv ct : Value) (us : List Value), us.length = ps.length → bindArgs (PySem.W.fnOf x x (defArgs st) (defBody st) (defScope st) .none kV doc pm an cdv ct) ⟨us, []⟩ = pure (ps.zip us))
    (hbody : ∀ (f : Addr) (cdv : Value) (A : Around) (outer : List Env) (s : Shared) (H : Hp) (E : XK), Gd k (cxOf CX0 P w K mg base N x (defScope st) f cdv A outer s H E).nox →
      DSs (cxOf CX0 P w K mg base N x (defScope st) f cdv A outer s H E).nox (defBody st) b) : MFn P w K mg base (k + 1) x ps.length (runM ps.length N.length b) := by
  obtain ⟨f, fd, F, g⟩ := D.ex
  exact ⟨fun ds m d h => runM_len h, f, fd, ps, fnG_all F S (fun vs H Q E h => h.1) (fun r => spM_run r) (hbody f), g, F.kp, F.binds hb⟩
theorem pmt_md (D : L3.Md K (He.ga K c) m q st) (cl : Cls K (He.ga K c)) (S : FnScope N ps (defScope st))
    (hb : ∀ (kV doc pm : Value) (an : Option Addr) (cdv ct : Value) (us : List Value), us.length = ps.length → bindArgs (PySem.W.fnOf m q (defArgs st) (defBody st) (defScope st) .none kV doc pm an cdv ct) ⟨us, []⟩ = pure (ps.zip us))
    (hbody : ∀ (f : Addr) (cdv : Value) (A : Around) (outer : List Env) (s : Shared) (H : Hp) (E : XK), Gd k (cxOf CX0 P w K mg base N q (defScope st) f cdv A outer s H E).nox →
      DSs (cxOf CX0 P w K mg base N q (defScope st) f cdv A outer s H E).nox (defBody st) b) : PMt P w K mg base (k + 1) c m ps.length (runP ps.length N.length b) := by
  obtain ⟨f, fd, F, g⟩ := D.ex
  exact ⟨fun ds d h => runP_len h, cl, f, fd, ps, fnG_all F S (fun vs H Q E h => h.1) (fun r => spP_run r) (hbody f), g, F.binds hb⟩
theorem mnw_ki (D : L3.Ki K mg c (He.ga K c) q st) (S : FnScope N ps (defScope st))
    (hb : ∀ (kV doc pm : Value) (an : Option Addr) (cdv ct : Value) (us : List Value), us.length = ps.length → bindArgs (PySem.W.fnOf "__init__" q (defArgs st) (defBody st) (defScope st) .none kV doc pm an cdv ct) ⟨us, []⟩ = pure (ps.zip us))
    (hbody : ∀ (f : Addr) (cdv : Value) (A : Around) (outer : List Env) (s : Shared) (H : Hp) (E : XK), Gd k (cxOf CX0 P w K mg base N q (defScope st) f cdv A outer s H E).nox →
      DSs (cxOf CX0 P w K mg base N q (defScope st) f cdv A outer s H E).nox (defBody st) b) : MNw P w K mg base (k + 1) c ps.length (runM ps.length N.length b) := by
  obtain ⟨f, fd, F, g⟩ := D.ex
  exact ⟨fun ds m d h => runM_len h, D.mgC, f, fd, ps, fnG_all F S (fun vs H Q E h => h.1) (fun r => spM_run r) (hbody f), g, F.binds hb⟩
end
section
variable {X : Cx} {g : G} {T T' : Tk} {H : Hp} {m : M} {Q : VK} {pos p apos : Pos} {e o : Expr} {es : List Expr} {k n : Nat} {x c nm : Str}
theorem app_nil {r : List V → Hp → VK → Prop} {v : Value} {sp : Sp} (h : CallR X v fun vs H Q => sp (vs ++ []) H Q E0) : CallR X v fun vs H Q => sp vs H Q E0 := by
  intro pins s σ H xs us Q I r q
  exact h pins s σ H xs us Q I r (by show sp (xs ++ []) H Q E0; rw [List.append_nil]; exact q)
theorem de_pfn {F : List D → Option D} {f : AF} (hF : PFn X.prog X.w X.K X.mg X.base k x n F) (gd : Gd k X) (hg : Gl X x) (ha : DA X (e :: es) f) (hdb : (x == ("__debug__" : Str)) = false := by decide)
    (he : starEach (e :: es) X.env = (false, eval e X.env) :: starEach es X.env := by rfl) (hpl : (backTo pos (starEach es X.env)).any (·.1) = false := by rfl) : DE X (.Call (.Name x p) (e :: es) [] pos) (eCall (callP F) f) := by
  obtain ⟨fa, fd, ps, G, hm, kp, b⟩ := hF.ex
  obtain ⟨t, pa, ra⟩ := ha.ex
  exact ⟨_, pe_callR (app_nil (r := fun _ _ _ => True) (G.call gd b .nil)) hg hm kp pa hdb he hpl, rf_call (rf_callP hF.len) ra⟩
theorem de_mfn {F : List D → M → Option (D × M)} {f : AF} (hF : MFn X.prog X.w X.K X.mg X.base k x n F) (gd : Gd k X) (hg : Gl X x) (ha : DA X (e :: es) f) (hdb : (x == ("__debug__" : Str)) = false := by decide)
    (he : starEach (e :: es) X.env = (false, eval e X.env) :: starEach es X.env := by rfl) (hpl : (backTo pos (starEach es X.env)).any (·.1) = false := by rfl) : DE X (.Call (.Name x p) (e :: es) [] pos) (eCallM F f) := by
  obtain ⟨fa, fd, ps, G, hm, kp, b⟩ := hF.ex
  obtain ⟨t, pa, ra⟩ := ha.ex
  exact ⟨_, pe_callR (app_nil (r := fun _ _ _ => True) (G.call gd b .nil)) hg hm kp pa hdb he hpl, rf_callM hF.len ra⟩
def tMthR (C : Addr) (m : Str) (r : List V → Hp → VK → Prop) (ta : TE) (t : TA) : TE := fun σ H Q => ta σ H fun x H1 => ∃ a dx fs, x = .ref a ∧ H1 a = some (.ins C dx fs) ∧ fs.lookup m = none ∧ t σ H1 fun vs H2 => r (x :: vs) H2 Q
theorem pe_mthR {pl : Sem Bool} {C f : Addr} {ta : TE} {t : TA} {r : List V → Hp → VK → Prop} (hc : CallR X (.ref f) r) (he : PE X o ta) (cl : Cls X.K C) (hm : Meth X.K C nm f) (ha : PA X (e :: es) t)
    (hst : starEach (e :: es) X.env = (false, eval e X.env) :: starEach es X.env := by rfl) (hpl : (backTo pos (starEach es X.env)).any (·.1) = false := by rfl)
    (ht : eval (.Call (.Attribute o nm apos) (e :: es) [] pos) X.env = (do
      let ov ← eval o X.env
      standAt apos.atName
      let (f, first) ← holding [ov] (getMethod ov nm pl)
      callWith pos f first (backTo pos (starEach (e :: es) X.env)) (backToKw pos (keywordEach [] X.env))) := by rfl) :
    PE X (.Call (.Attribute o nm apos) (e :: es) [] pos) (tMthR C nm r ta t) := by
  refine ⟨fun pins s σ H Q I h => PySem.W.methodCall_KW (pl := pl) (thn (he.run pins s σ H _ I h) fun u s1 ⟨x, H1, I1, rx, a, dx, fs, ex, ea, l, q⟩ => ?_) ht⟩
  cases ex
  cases rx
  refine getmeth_ok I1 ea cl hm l (PySem.W.callWith_K (first := [.ref a]) (h₀ := X.base) I.ok.mod.kin hm.kp (thn (ha.run pos pins s1 σ H1 _ I1 q) fun us s2 ⟨vs, H2, I2, rv, q2⟩ => ⟨I2.kIn, ?_⟩) hst hpl)
  exact hc pins s2 σ H2 (.ref a :: vs) (.ref a :: us) Q I2 (.cons rfl rv) q2
/-- the class and the fields of an object -/
def insO : O → Option (Str × List Str × List D)
  | .ins c ns vs => some (c, ns, vs)
  | _ => none
def insOf (m : M) : D → Option (Str × List Str × List D)
  | .obj c ns vs => some (c, ns, vs)
  | .ref n => (m[n]?).bind insO
  | _ => none
theorem ins_rep {d : D} {v : V} {ns : List Str} {vs : List D} (hm : RepH g T H m) (r : Rep g T H d v) (h : insOf m d = some (c, ns, vs)) : ∃ a dx fs, v = .ref a ∧ H a = some (.ins (He.ga g.K c) dx fs) ∧ fs.map Prod.fst = ns ∧ RepL g T H vs (fs.map Prod.snd) := by
  cases r with
  | obj n f e r => cases h; exact ⟨_, _, _, rfl, f, e, r⟩
  | ref e =>
    obtain ⟨o, h1, h2⟩ := Option.bind_eq_some_iff.mp h
    cases hm.at_ _ _ _ e h1 with
    | ins f e r => cases h2; exact ⟨_, _, _, rfl, f, e, r⟩
    | _ => cases h2
  | _ => cases h
theorem lookup_none {fs : List (Str × V)} {f : Str} (h : (fs.map Prod.fst).contains f = false) : fs.lookup f = none := by
  rw [List.lookup_eq_none_iff]
  intro p hp
  have : f ∉ fs.map Prod.fst := by simpa using h
  rw [bne_iff_ne]
  rintro rfl
  exact this (List.mem_map.mpr ⟨p, hp, rfl⟩)
/-- o.m(..): the object first, its class is asked -/
def eMth (c nm : Str) (F : M → List D → Option D) (o : EF) (a : AF) : EF := fun ρ m => bd (o ρ m) fun x m1 => match insOf m1 x with
  | some (c', ns, _) => if c' = c ∧ ns.contains nm = false then bd (a ρ m1) fun xs m2 => pu (F m2 (x :: xs)) m2 else none
  | none => none
theorem rf_mth {F : List D → Option D} {fo : EF} {fa : AF} {ta : TE} {t : TA} (hn : ∀ ds d, F ds = some d → ds.length = n) (ho : RfE g ta fo) (ha : RfA g t fa) :
    RfE g (tMthR (He.ga g.K c) nm (fun vs H Q => spP g n F vs H Q E0) ta t) (eMth c nm (callP F) fo fa) := by
  intro T σ H ρ m d m' hm hs hf Q k
  obtain ⟨x, m1, e1, hf⟩ := bd_some hf
  refine ho T σ H ρ m x m1 hm hs e1 _ fun v T1 H1 l1 hm1 r1 => ?_
  split at hf
  · next c' ns vs hi =>
    obtain ⟨⟨ec, hc⟩, hf2⟩ := ite_some hf
    subst ec
    obtain ⟨xs, m2, e2, hf⟩ := bd_some hf2
    obtain ⟨e3, rfl⟩ := pu_some hf
    obtain ⟨a, dx, fs, rfl, ea, en, _⟩ := ins_rep hm1 r1 hi
    refine ⟨a, dx, fs, rfl, ea, lookup_none (by rw [en]; exact hc), ha T1 σ H1 ρ m1 xs _ hm1 (hs.le l1) e2 _ fun ws T2 H2 l2 hm2 r2 => ?_⟩
    exact rf_callP hn T2 H2 _ (x :: xs) (.ref a :: ws) d hm2 (.cons (r1.le l2) r2) e3 Q (k.le (l1.trans l2))
  · cases hf
theorem de_pmt {pl : Sem Bool} {F : List D → Option D} {fo : EF} {f : AF} (hF : PMt X.prog X.w X.K X.mg X.base k c nm n F) (gd : Gd k X) (ho : DE X o fo) (ha : DA X (e :: es) f)
    (hst : starEach (e :: es) X.env = (false, eval e X.env) :: starEach es X.env := by rfl) (hpl : (backTo pos (starEach es X.env)).any (·.1) = false := by rfl)
    (ht : eval (.Call (.Attribute o nm apos) (e :: es) [] pos) X.env = (do
      let ov ← eval o X.env
      standAt apos.atName
      let (f, first) ← holding [ov] (getMethod ov nm pl)
      callWith pos f first (backTo pos (starEach (e :: es) X.env)) (backToKw pos (keywordEach [] X.env))) := by rfl) : DE X (.Call (.Attribute o nm apos) (e :: es) [] pos) (eMth c nm (callP F) fo f) := by
  obtain ⟨fa, fd, ps, G, hm, b⟩ := hF.ex
  obtain ⟨t, pa, ra⟩ := ha.ex; obtain ⟨to, po, ro⟩ := ho.ex
  exact ⟨_, pe_mthR (app_nil (r := fun _ _ _ => True) (G.call gd b .nil)) po hF.cl hm pa hst hpl ht, rf_mth hF.len ro ra⟩
def fldAt : List Str → List D → Str → Option D
  | n :: ns, v :: vs, f => if n = f then some v else fldAt ns vs f
  | _, _, _ => none
theorem fld_rep {f : Str} : ∀ {fs : List (Str × V)} {ns : List Str} {vs : List D} {d : D}, fs.map Prod.fst = ns → RepL g T H vs (fs.map Prod.snd) → fldAt ns vs f = some d → ∃ v, fs.lookup f = some v ∧ Rep g T H d v
  | [], _, _, _, e, r, h => by subst e; cases r; cases h
  | (n, w) :: fs, _, _, d, e, r, h => by
    subst e
    cases r with
    | cons r s =>
      change (if n = f then some _ else fldAt _ _ f) = some d at h
      by_cases hn : n = f
      · rw [if_pos hn] at h
        cases h
        subst hn
        exact ⟨w, by simp [List.lookup], r⟩
      · rw [if_neg hn] at h
        obtain ⟨v, e1, q⟩ := fld_rep (fs := fs) rfl s h
        refine ⟨v, ?_, q⟩
        have : (f == n) = false := by rw [beq_eq_false_iff_ne]; exact fun z => hn z.symm
        simp [List.lookup, this, e1]
def eFld (cs : List Str) (f : Str) (o : EF) : EF := fun ρ m => bd (o ρ m) fun x m1 => match insOf m1 x with
  | some (c, ns, vs) => if cs.contains c then pu (fldAt ns vs f) m1 else none
  | none => none
/-- none of these classes has the name f itself -/
def NA (K : PySem.W.Frag) (cs : List Str) (f : Str) : Prop := ∀ c ∈ cs, Cls K (He.ga K c) ∧ NoAttr K (He.ga K c) f
theorem na1 {K : PySem.W.Frag} {c f : Str} (h : Cls K (He.ga K c)) (n : NoAttr K (He.ga K c) f) : NA K [c] f := fun d hd => by rw [List.mem_singleton.mp hd]; exact ⟨h, n⟩
theorem de_fld {cs : List Str} {f : Str} {fo : EF} (hn : NA X.K cs f) (ho : DE X o fo) (hb : attributeBase o f X.env (eval o X.env) = eval o X.env := by rfl) : DE X (.Attribute o f pos) (eFld cs f fo) := by
  obtain ⟨to, po, ro⟩ := ho.ex
  refine ⟨_, pe_fld po hb, fun T σ H ρ m d m' hm hs hf Q k => ?_⟩
  obtain ⟨x, m1, e1, hf⟩ := bd_some hf
  refine ro T σ H ρ m x m1 hm hs e1 _ fun v T1 H1 l1 hm1 r1 => ?_
  split at hf
  · next c' ns vs hi =>
    obtain ⟨hc, hf⟩ := ite_some hf
    obtain ⟨e3, rfl⟩ := pu_some hf
    obtain ⟨a, dx, fs, rfl, ea, en, rf⟩ := ins_rep hm1 r1 hi
    obtain ⟨w, e4, q⟩ := fld_rep en rf e3
    have hc' := hn c' (by simpa using hc)
    exact ⟨a, _, dx, fs, w, rfl, ea, hc'.1, hc'.2, e4, k _ T1 H1 l1 hm1 q⟩
  · cases hf
end
end L4
namespace L4
open PySem L2
section
variable {X : Cx} {g : G} {T T' : Tk} {H : Hp} {m : M} {Q : VK} {pos p apos : Pos} {e o : Expr} {es : List Expr} {k n : Nat} {x c nm : Str}
theorem FnG.make {C f : Addr} {fd : FuncData} {ps : List Str} {sp : Sp} (Mk : Mk X.K C f) (F : FnG X.prog X.w X.K X.mg X.base CX0 k f fd ps sp) (gd : Gd (k + 1) X) (hb : Binds X.K fd ps []) :
    CallR X (.ref C) fun vs H Q => ∀ x dx, H x = none → H dx = none → dx ≠ x → sp (.ref x :: vs) (upd (upd H dx (.own x)) x (.ins C dx [])) (fun v H2 => v = .non ∧ Q (.ref x) H2) E0 := by
  intro pins s σ H vs us Q I r h
  have hq := h (s.heap.objs.size + 1) s.heap.objs.size (I.hok.fresh (Nat.le_succ _)) (I.hok.fresh (Nat.le_refl _)) (Nat.ne_of_lt (Nat.lt_succ_self _))
  have I2 := Inv.made (C := C) I
  have r2 : Vals (V.ref (s.heap.objs.size + 1) :: vs) (Value.ref (s.heap.objs.size + 1) :: us) := .cons rfl r
  have hl : (Value.ref (s.heap.objs.size + 1) :: us ++ []).length = ps.length := by
    rw [List.append_nil, ← r2.length]
    exact F.len _ _ _ _ hq
  have hg : (X.A.under (.builtin "type.__call__" ⟨.ref C :: us, []⟩)).guards = some [] := by
    have := gd.g
    have e : (Code.builtin "type.__call__" ⟨.ref C :: us, []⟩).guards = [] := by simp [Code.guards, Code.isGuard, guardIds]
    simp [Around.under, e, pushGuards, this]
  have b := hb _ (Value.ref (s.heap.objs.size + 1) :: us) I2.kIn hl
  rw [List.append_nil] at b
  refine wpAny_call (make_map (f := f) I.kIn Mk.makes Mk.init (beq_iff_eq.mp Mk.fn) (codeAny_mono (F.run _ X.stack _ _ _ _ _ _ E0 hg (gd.r.make C us []) (I2.env0.make C us []) b r2 hq) fun res s' hres => ?_))
  match res, hres with
  | .error _, z => exact z.elim
  | .ok (.ret u), z =>
    obtain ⟨v, H', I3, rv, ev, q3⟩ := I2.after z
    cases ev
    exact ⟨rv, V.ref (s.heap.objs.size + 1), H', I3, rfl, q3⟩
/-- an object that is never changed behind its making: plain data -/
def newP (c : Str) (F : List D → M → Option (D × M)) (ds : List D) : Option D := match F (.ref 0 :: ds) [.ins c [] []] with
  | some (.non, m) => frz m (.ref 0)
  | _ => none
def pureC (F : List D → Option D) (_ : M) (ds : List D) : Option D := if pureL ds then F ds else none
theorem rf_newP {F : List D → M → Option (D × M)} (hn : ∀ ds m r, F ds m = some r → ds.length = n) :
    RfC g (fun vs H Q => ∀ x dx, H x = none → H dx = none → dx ≠ x → spM g n F (.ref x :: vs) (upd (upd H dx (.own x)) x (.ins (He.ga g.K c) dx [])) (fun v H2 => v = .non ∧ Q (.ref x) H2) E0) (pureC (newP c F)) := by
  intro T H m xs vs d hm r hf Q k x dx hx hdx hne
  obtain ⟨hp, hf⟩ := ite_some hf
  unfold newP at hf
  split at hf
  · next m2 hF =>
    have up : ∀ a u, H a = some u → upd (upd H dx (.own x)) x (.ins (He.ga g.K c) dx []) a = some u := fun a u e => by
      rw [upd_ne (ne_of_none e hx), upd_ne (ne_of_none e hdx)]; exact e
    have nx : x ∉ T.ν := hm.nope hx
    let Tc : Tk := ⟨[x], x :: T.ν, fun a h => by rw [List.mem_singleton.mp h]; exact List.mem_cons_self ..⟩
    obtain ⟨l1, hm1⟩ := hm.grow up
    have hmc : RepH g Tc (upd (upd H dx (.own x)) x (.ins (He.ga g.K c) dx [])) [.ins c [] []] := by
      refine ⟨rfl, by simp [Tc], fun a ha => ?_, fun i a o h1 h2 => ?_⟩
      · rcases List.mem_cons.mp ha with rfl | z
        · exact ⟨_, upd_same, trivial⟩
        · exact hm1.has a z
      · cases i with
        | zero => cases h1; cases h2; exact .ins upd_same rfl .nil
        | succ i => cases h2
    have rx : RepL g (T0 T.ν) H xs vs := RepL.pure (fun _ h => h) _ hp r
    have rc : RepL g Tc (upd (upd H dx (.own x)) x (.ins (He.ga g.K c) dx [])) xs vs := by
      have l0 : Le (T0 T.ν) H ⟨[], x :: T.ν, fun a h => nomatch h⟩ (upd (upd H dx (.own x)) x (.ins (He.ga g.K c) dx [])) := ⟨List.prefix_rfl, fun a u e _ => up a u e, fun a ha n => by
        rcases List.mem_cons.mp ha with rfl | z
        · exact hx
        · exact absurd z n, fun a h n => (nomatch h), fun a h => List.mem_cons_of_mem _ h⟩
      exact RepL.lift (T := Tc) _ (rx.le l0)
    refine ⟨by have := hn _ _ _ hF; rw [← this]; simp [r.length], Tc, _, .ref 0 :: xs, .non, m2, hmc, .cons (.ref rfl) rc, hF, fun v T2 H2 l2 hm2 rv => ?_⟩
    cases rv
    refine ⟨rfl, ?_⟩
    have upH : ∀ a u, H a = some u → H2 a = some u := fun a u e => l2.keep a u (up a u e) fun z => by
      rw [List.mem_singleton.mp z] at e
      rw [hx] at e
      cases e
    obtain ⟨l3, hm3⟩ := hm.grow upH
    have rz : Rep g T2 H2 (.ref 0) (.ref x) := .ref (l2.get (n := 0) rfl)
    refine k _ T H2 l3 hm3 (Rep.lift _ (frz_ok hm2 (ν := T.ν) (fun a h => l2.up a (List.mem_cons_of_mem _ h)) (fun a h z => ?_) hf rz))
    by_cases ha : a ∈ Tc.μ
    · rw [List.mem_singleton.mp ha] at z; exact nx z
    · obtain ⟨u, e, _⟩ := hm1.has a z
      rw [l2.newμ a h ha] at e
      cases e
  · cases hf
end
end L4
namespace L4
open PySem L2
section
variable {X : Cx} {g : G} {T T' : Tk} {H : Hp} {m : M} {Q : VK} {pos p apos : Pos} {e o : Expr} {es : List Expr} {k n : Nat} {x c nm : Str}
def putD (f : Str) (d : D) : List Str → List D → List Str × List D
  | n :: ns, v :: vs => if n = f then (n :: ns, d :: vs) else let r := putD f d ns vs; (n :: r.1, v :: r.2)
  | _, _ => ([f], [d])
theorem put_rep {f : Str} {d : D} {v : V} (rd : Rep g T H d v) : ∀ {fs : List (Str × V)} {vs : List D}, RepL g T H vs (fs.map Prod.snd) → (putF f v fs).map Prod.fst = (putD f d (fs.map Prod.fst) vs).1 ∧ RepL g T H (putD f d (fs.map Prod.fst) vs).2 ((putF f v fs).map Prod.snd)
  | [], _, r => by cases r; exact ⟨rfl, .cons rd .nil⟩
  | (n, w) :: fs, _, r => by
    cases r with
    | cons r s =>
      obtain ⟨h1, h2⟩ := put_rep (f := f) rd s
      unfold putF
      simp only [List.map_cons, putD]
      by_cases hn : n = f
      · rw [if_pos hn, if_pos hn]
        exact ⟨rfl, .cons rd s⟩
      · rw [if_neg hn, if_neg hn]
        exact ⟨by simp [h1], .cons r h2⟩
def sFldM (cs : List Str) (f : Str) (o v : EF) : SF := fun ρ m => bd (v ρ m) fun y m1 => bd (o ρ m1) fun x m2 => match x with
  | .ref n => match m2[n]? with
    | some (.ins c ns vs) => if cs.contains c ∧ vs.length < 1000 then some (.nx ρ, m2.set n (.ins c (putD f y ns vs).1 (putD f y ns vs).2)) else none
    | _ => none
  | _ => none
theorem ds_fld {cs : List Str} {f : Str} {value : Expr} {fo fv : EF} {pos' : Pos} (hn : NA X.K cs f) (ho : DE X o fo) (hv : DE X value fv) (hs : swapsWith value (some (.Attribute o f pos')) pos.line X.env = pure false := by rfl) :
    DS X (.Assign [.Attribute o f pos'] value pos) (sFldM cs f fo fv) := by
  obtain ⟨to, po, ro⟩ := ho.ex; obtain ⟨tv, pv, rv⟩ := hv.ex
  refine ⟨_, ps_fld po pv hs, fun T σ H ρ m d m' hm hs hf D k => ?_⟩
  obtain ⟨y, m1, e1, hf1⟩ := bd_some hf
  obtain ⟨x, m2, e2, hf2⟩ := bd_some hf1
  refine rv T σ H ρ m y m1 hm hs e1 _ fun v T1 H1 l1 hm1 r1 => ?_
  refine ro T1 σ H1 ρ m1 x m2 hm1 (hs.le l1) e2 _ fun u T2 H2 l2 hm2 r2 => ?_
  clear hf hf1
  split at hf2
  · next n =>
    split at hf2
    · next c ns vs hi =>
      obtain ⟨⟨hc, hl⟩, hf3⟩ := ite_some hf2
      cases hf3
      cases r2 with
      | ref ea =>
        cases hm2.at_ _ _ _ ea hi with
        | @ins dx fs _ _ _ h1 h2 r =>
          have hc' := hn c (by simpa using hc)
          refine ⟨_, _, dx, fs, rfl, h1, hc'.1, hc'.2, by have := r.length; simp at this; omega, ?_⟩
          obtain ⟨l3, hm3⟩ := hm2.put (u := .ins (He.ga X.K c) dx (putF f v fs)) (o := .ins c (putD f y ns vs).1 (putD f y ns vs).2) ea fun l => by
            obtain ⟨q1, q2⟩ := put_rep (f := f) ((r1.le l2).le l) (r.le l)
            rw [h2] at q1 q2
            exact .ins upd_same q1 q2
          exact k σ _ _ (l1.trans (l2.trans l3)) hm3 (hs.le (l1.trans (l2.trans l3)))
    · cases hf2
  · cases hf2
theorem lst_tracked {n : Nat} {v : V} {ds : List D} (hm : RepH g T H m) (r : Rep g T H (.ref n) v) (h : m[n]? = some (.lst ds)) : ∃ a vs, v = .ref a ∧ T.μ[n]? = some a ∧ H a = some (.lst vs) ∧ RepL g T H ds vs := by
  cases r with
  | ref e =>
    cases hm.at_ _ _ _ e h with
    | lst f r => exact ⟨_, _, rfl, e, f, r⟩
theorem tyL_of {K : PySem.W.Frag} {a : Addr} {vs : List V} (h : H a = some (.lst vs)) : tyV K "list" (.ref a) H := .inl ⟨rfl, _, SqL.of h⟩
def RfLm (g : G) (r : V → List V → Hp → VK → Prop) (F : M → List D → List D → Option (D × List D)) : Prop := ∀ T H m l xs ds ys vs d es, RepH g T H m → H l = some (.lst xs) → RepL g T H ds xs → RepL g T H ys vs → F m ds ys = some (d, es) → ∀ Q : VK,
  (∀ v zs, RepL g T H es zs → Rep g T H d v → Q v (upd H l (.lst zs))) → r (.ref l) vs H Q
theorem rf_lm {r : V → List V → Hp → VK → Prop} {F : M → List D → List D → Option (D × List D)} {to : TE} {t : TA} {fo : EF} {fa : AF} (hr : RfLm g r F) (ho : RfE g to fo) (ha : RfA g t fa) {ff : EF}
    (hff : ∀ ρ m, ff ρ m = bd (fo ρ m) fun x m1 => match x with
      | .ref n => match m1[n]? with
        | some (.lst _) => bd (fa ρ m1) fun ys m2 => match m2[n]? with
          | some (.lst ds) => (F m2 ds ys).map fun r => (r.1, m2.set n (.lst r.2))
          | _ => none
        | _ => none
      | _ => none) : RfE g (tBM g.K "list" r to t) ff := by
  intro T σ H ρ m d m' hm hs hf Q k
  rw [hff] at hf
  obtain ⟨x, m1, e1, hf1⟩ := bd_some hf
  clear hf
  refine ho T σ H ρ m x m1 hm hs e1 _ fun v T1 H1 l1 hm1 r1 => ?_
  split at hf1
  · next n =>
    split at hf1
    · next ds0 hi0 =>
      obtain ⟨ys, m2, e2, hf2⟩ := bd_some hf1
      obtain ⟨a, vs0, rfl, ea, h0, _⟩ := lst_tracked hm1 r1 hi0
      refine ⟨tyL_of h0, ha T1 σ H1 ρ m1 ys m2 hm1 (hs.le l1) e2 _ fun vs T2 H2 l2 hm2 r2 => ?_⟩
      split at hf2
      · next ds hi =>
        obtain ⟨⟨d', es⟩, h3, h4⟩ := Option.map_eq_some_iff.mp hf2
        obtain ⟨rfl, rfl⟩ : d' = d ∧ _ = m' := by injection h4 with h5 h6; exact ⟨h5, h6⟩
        obtain ⟨a', xs, e, ea2, h5, r5⟩ := lst_tracked hm2 (r1.le l2) hi
        cases e
        refine hr T2 H2 m2 a xs ds ys vs d' es hm2 h5 r5 r2 h3 Q fun v zs rz rv => ?_
        obtain ⟨l3, hm3⟩ := hm2.put (u := .lst zs) (o := .lst es) ea2 fun l => .lst upd_same (rz.le l)
        exact k v T2 _ (l1.trans (l2.trans l3)) hm3 (rv.le l3)
      · cases hf2
    · cases hf1
  · cases hf1
def appL (ds ys : List D) : Option (D × List D) := match ys with
  | [y] => if ds.length < sizeLine then some (.non, ds ++ [y]) else none
  | _ => none
def extL (m : M) (ds ys : List D) : Option (D × List D) := match ys with
  | [y] => match lstOf m y with
    | some es => if ds.length + es.length ≤ sizeLine then some (.non, ds ++ es) else none
    | none => none
  | _ => none
def eLm0 (F : M → List D → List D → Option (D × List D)) (o : EF) (a : AF) : EF := fun ρ m => bd (o ρ m) fun x m1 => match x with
  | .ref n => match m1[n]? with
    | some (.lst _) => bd (a ρ m1) fun ys m2 => match m2[n]? with
      | some (.lst ds) => (F m2 ds ys).map fun r => (r.1, m2.set n (.lst r.2))
      | _ => none
    | _ => none
  | _ => none
theorem rfl_app : RfLm g rAppend (fun _ => appL) := by
  intro T H m l xs ds ys vs d es hm hl rd ry hf Q k
  change appL ds ys = some (d, es) at hf
  unfold appL at hf
  split at hf
  · obtain ⟨hz, hf⟩ := ite_some hf
    cases hf
    cases ry with
    | cons r1 r2 => cases r2; exact ⟨l, xs, _, rfl, rfl, hl, by rw [← rd.length]; exact hz, k _ _ (rd.append (.cons r1 .nil)) .non⟩
  · cases hf
theorem de_lm {name : Str} {id : String} {r : V → List V → Hp → VK → Prop} {F : M → List D → List D → Option (D × List D)} {fo : EF} {f : AF} (slot : Slot "list" name id) (hty : typeOf (.builtin id) = pure (.type "method_descriptor")) (hm : MtR X id r) (hr : RfLm (gx X) r F) (ho : DE X o fo) (ha : DA X (e :: es) f)
    (hbase : attributeBase o name X.env (eval o X.env) = eval o X.env := by rfl)
    (hfew : ((backTo pos (starEach (e :: es) X.env)).all (fun x => !x.1) && (backToKw pos (keywordEach [] X.env)).all (fun x => x.1.isSome)
      && decide ((e :: es).length + ([] : List Keyword).length + (if ([] : List Keyword).isEmpty then 0 else 1) < 30)) = true := by rfl)
    (hline : (apos.endLine == pos.line) = true := by rfl) (hs : starEach (e :: es) X.env = (false, eval e X.env) :: starEach es X.env := by rfl) (hplain : (backTo pos (starEach es X.env)).any (·.1) = false := by rfl) :
    DE X (.Call (.Attribute o name apos) (e :: es) [] pos) (eLm0 F fo f) := by
  obtain ⟨to, po, ro⟩ := ho.ex; obtain ⟨t, pa, ra⟩ := ha.ex
  exact ⟨_, pe_bm PySem.F.plainAttrs_list slot hty hm po pa hbase hfew hline hs hplain, rf_lm hr ro ra fun _ _ => rfl⟩
theorem de_append {fo : EF} {f : AF} (ho : DE X o fo) (ha : DA X [e] f) (hbase : attributeBase o "append" X.env (eval o X.env) = eval o X.env := by rfl) (hline : (apos.endLine == pos.line) = true := by rfl) (hs : starEach [e] X.env = [(false, eval e X.env)] := by rfl)
    (hfew : ((backTo pos (starEach [e] X.env)).all (fun x => !x.1) && (backToKw pos (keywordEach [] X.env)).all (fun x => x.1.isSome) && decide ([e].length + ([] : List Keyword).length + (if ([] : List Keyword).isEmpty then 0 else 1) < 30)) = true := by rfl) :
    DE X (.Call (.Attribute o "append" apos) [e] [] pos) (eLm0 (fun _ => appL) fo f) := de_lm PySem.F.slot_list_append PySem.F.type_list_append mt_append rfl_app ho ha hbase hfew hline hs rfl
theorem RepL.setAt {ds : List D} {vs : List V} {d : D} {v : V} {j : Nat} (r : RepL g T H ds vs) (q : Rep g T H d v) : RepL g T H (ds.set j d) (vs.set j v) := by
  induction j generalizing ds vs with
  | zero => cases r with
    | nil => exact .nil
    | cons _ s => exact .cons q s
  | succ j ih => cases r with
    | nil => exact .nil
    | cons a s => exact .cons a (ih s)
end
end L4
namespace L4
open PySem L2
section
variable {X : Cx} {g : G} {T T' : Tk} {H : Hp} {m : M} {Q : VK} {pos p apos : Pos} {e o : Expr} {es : List Expr} {k n : Nat} {x c nm : Str}
theorem Gd.blk {s : Shared} {H : Hp} {sc : Scope} {ev : Env} {fp : List Addr} (h : Gd k X) : Gd k (X.blk s H sc ev fp) := ⟨h.g, h.r⟩
theorem de_callB {id : String} {F : M → List D → Option D} {f : AF} (hc : CallD X (.builtin id) F) (hg : Gl X x) (hm : X.mg x = none) (hv : bootBuiltins x = some (.builtin id)) (ha : DA X (e :: es) f) (hn : x ≠ "__name__" := by decide) (hdb : (x == ("__debug__" : Str)) = false := by decide)
    (he : starEach (e :: es) X.env = (false, eval e X.env) :: starEach es X.env := by rfl) (hpl : (backTo pos (starEach es X.env)).any (·.1) = false := by rfl) : DE X (.Call (.Name x p) (e :: es) [] pos) (eCall F f) := by
  obtain ⟨r, h, q⟩ := hc.ex; obtain ⟨t, pa, ra⟩ := ha.ex
  exact ⟨_, pe_callB h hg hm hv pa hn hdb he hpl, rf_call q ra⟩
theorem de_callT {id : String} {F : M → List D → Option D} {f : AF} (hc : CallD X (.type id) F) (hg : Gl X x) (hm : X.mg x = none) (hv : bootBuiltins x = some (.type id)) (ha : DA X (e :: es) f) (hn : x ≠ "__name__" := by decide) (hdb : (x == ("__debug__" : Str)) = false := by decide)
    (he : starEach (e :: es) X.env = (false, eval e X.env) :: starEach es X.env := by rfl) (hpl : (backTo pos (starEach es X.env)).any (·.1) = false := by rfl) : DE X (.Call (.Name x p) (e :: es) [] pos) (eCall F f) := by
  obtain ⟨r, h, q⟩ := hc.ex; obtain ⟨t, pa, ra⟩ := ha.ex
  exact ⟨_, pe_callTy h hg hm hv pa hn hdb he hpl, rf_call q ra⟩
theorem orC {F : Value} {r q : List V → Hp → VK → Prop} (h1 : CallR X F r) (h2 : CallR X F q) : CallR X F (fun x H Q => r x H Q ∨ q x H Q) := by
  intro pins s σ H xs us Q I rx h
  rcases h with h | h
  · exact h1 pins s σ H xs us Q I rx h
  · exact h2 pins s σ H xs us Q I rx h
theorem RepL.one {d : D} {vs : List V} (r : RepL g T H [d] vs) : ∃ v, vs = [v] ∧ Rep g T H d v := by
  cases r with
  | cons r s => cases s; exact ⟨_, rfl, r⟩
theorem RepL.two {d e : D} {vs : List V} (r : RepL g T H [d, e] vs) : ∃ v w, vs = [v, w] ∧ Rep g T H d v ∧ Rep g T H e w := by
  cases r with
  | cons r s => obtain ⟨w, rfl, q⟩ := s.one; exact ⟨_, _, rfl, r, q⟩
def absD : M → List D → Option D
  | _, [.int i] => some (.int (if i < 0 then -i else i))
  | _, _ => none
theorem call_abs' : CallD X (.builtin "abs") absD := ⟨_, call_abs, fun T H m xs vs d hm r hf Q k => by
  unfold absD at hf; split at hf
  · cases hf; obtain ⟨v, rfl, q⟩ := r.one; cases q; exact ⟨_, rfl, k.now hm (.int _)⟩
  · cases hf⟩
def min2D : M → List D → Option D
  | _, [.int i, .int j] => some (.int (if j < i then j else i))
  | _, _ => none
theorem call_min2'' (hc : X.calm = true) : CallD X (.builtin "min") min2D := ⟨_, call_min2 hc, fun T H m xs vs d hm r hf Q k => by
  unfold min2D at hf; split at hf
  · cases hf; obtain ⟨v, w, rfl, q1, q2⟩ := r.two; cases q1; cases q2; exact ⟨_, _, rfl, k.now hm (.int _)⟩
  · cases hf⟩
def max2D : M → List D → Option D
  | _, [.int i, .int j] => some (.int (if j > i then j else i))
  | _, _ => none
theorem call_max2'' (hc : X.calm = true) : CallD X (.builtin "max") max2D := ⟨_, call_max2 hc, fun T H m xs vs d hm r hf Q k => by
  unfold max2D at hf; split at hf
  · cases hf; obtain ⟨v, w, rfl, q1, q2⟩ := r.two; cases q1; cases q2; exact ⟨_, _, rfl, k.now hm (.int _)⟩
  · cases hf⟩
def intD : M → List D → Option D
  | _, [.int i] => some (.int i)
  | _, [.bl b] => some (.int (if b then 1 else 0))
  | _, [.str a] => if a.length ≤ 640 then (PySem.intText? a).map .int else none
  | _, _ => none
theorem call_int' : CallD X (.type "int") intD := ⟨_, orC call_int1 call_int_str, fun T H m xs vs d hm r hf Q k => by
  unfold intD at hf; split at hf
  · cases hf; obtain ⟨v, rfl, q⟩ := r.one; cases q; exact .inl (.inl ⟨_, rfl, k.now hm (.int _)⟩)
  · cases hf; obtain ⟨v, rfl, q⟩ := r.one; cases q; exact .inl (.inr ⟨_, rfl, k.now hm (.int _)⟩)
  · obtain ⟨hz, hf⟩ := ite_some hf
    obtain ⟨n, hn, rfl⟩ := Option.map_eq_some_iff.mp hf
    obtain ⟨v, rfl, q⟩ := r.one; cases q; exact .inr ⟨_, n, rfl, hn, hz, k.now hm (.int _)⟩
  · cases hf⟩
def lenD : M → List D → Option D
  | _, [.tup ds] => some (.int ds.length)
  | _, [.str a] => if a.length ≤ sizeLine then some (.int a.length) else none
  | m, [x] => (lstR m x).map fun ds => .int ds.length
  | _, _ => none
theorem call_len' : CallD X (.builtin "len") lenD := ⟨_, call_len, fun T H m xs vs d hm r hf Q k => by
  unfold lenD at hf; split at hf
  · cases hf; obtain ⟨v, rfl, q⟩ := r.one
    obtain ⟨a, ws, rfl, hx, rl⟩ := tup_rep q
    exact ⟨_, _, rfl, .inr ⟨ws, hx, rl.length⟩, k.now hm (.int _)⟩
  · obtain ⟨hz, hf⟩ := ite_some hf
    cases hf; obtain ⟨v, rfl, q⟩ := r.one; cases q; exact ⟨_, _, rfl, ⟨hz, rfl⟩, k.now hm (.int _)⟩
  · obtain ⟨ds, h1, rfl⟩ := Option.map_eq_some_iff.mp hf
    obtain ⟨v, rfl, q⟩ := r.one
    obtain ⟨a, ws, rfl, hx, rl⟩ := lstR_rep hm q h1
    exact ⟨_, _, rfl, .inl ⟨ws, hx, rl.length⟩, k.now hm (.int _)⟩
  · cases hf⟩
def strD : M → List D → Option D
  | _, [.int i] => if i.natAbs.log2 < 1920 then some (.str (toString i)) else none
  | _, _ => none
def tupD : M → List D → Option D
  | _, [.tup ds] => some (.tup ds)
  | m, [x] => (lstR m x).map .tup
  | _, _ => none
theorem call_tup' : CallD X (.type "tuple") tupD := ⟨_, call_tuple_of, fun T H m xs vs d hm r hf Q k => by
  unfold tupD at hf; split at hf
  · cases hf; obtain ⟨v, rfl, q⟩ := r.one
    obtain ⟨a, ws, rfl, hx, rl⟩ := tup_rep q
    exact ⟨a, ws, rfl, .inr ⟨hx, k.now hm q⟩⟩
  · obtain ⟨ds, h1, rfl⟩ := Option.map_eq_some_iff.mp hf
    obtain ⟨v, rfl, q⟩ := r.one
    obtain ⟨a, ws, rfl, hx, rl⟩ := lstR_rep hm q h1
    exact ⟨a, ws, rfl, .inl ⟨hx, fun l hl => k.tup hm rl l hl⟩⟩
  · cases hf⟩
def lisD : M → List D → Option D
  | _, [.tup ds] => some (.lst ds)
  | m, [x] => (lstR m x).map .lst
  | _, _ => none
/-- list(x) that is changed behind it -/
def eLisN (a : EF) : EF := fun ρ m => bd (a ρ m) fun x m1 => match lisD m1 [x] with
  | some (.lst ds) => some (.ref m1.length, m1 ++ [.lst ds])
  | _ => none
theorem de_lisN {f : EF} (hg : Gl X "list") (hm : X.mg "list" = none) (ha : DE X e f) (he : starEach [e] X.env = (false, eval e X.env) :: starEach [] X.env := by rfl) : DE X (.Call (.Name "list" p) [e] [] pos) (eLisN f) := by
  obtain ⟨t, pa, ra⟩ := ha.ex
  refine ⟨_, pe_callTy call_list_of hg hm (by decide +kernel) (pa_cons pa pa_nil he) (by decide) (by decide) he rfl, fun T σ H ρ m d m' hm hs hf Q k => ?_⟩
  obtain ⟨x, m1, e1, hf⟩ := bd_some hf
  refine ra T σ H ρ m x m1 hm hs e1 _ fun v T1 H1 l1 hm1 r1 => ?_
  split at hf
  · next ds h =>
    cases hf
    unfold lisD at h
    split at h
    · next h2 =>
      cases h; cases h2
      obtain ⟨a, ws, rfl, hx, rl⟩ := tup_rep r1
      exact ⟨a, ws, rfl, .inr hx, fun l hl => (k.le l1).newL hm1 rl l hl⟩
    · next h2 =>
      cases h2
      obtain ⟨es, h3, h4⟩ := Option.map_eq_some_iff.mp h
      cases h4
      obtain ⟨a, ws, rfl, hx, rl⟩ := lstR_rep hm1 r1 h3
      exact ⟨a, ws, rfl, .inl hx, fun l hl => (k.le l1).newL hm1 rl l hl⟩
    · cases h
  · cases hf
def tyO : O → Option String
  | .lst _ => some "list"
  | _ => none
def tyName (m : M) : D → Option String
  | .non => some "NoneType"
  | .bl _ => some "bool"
  | .int _ => some "int"
  | .str _ => some "str"
  | .tup _ => some "tuple"
  | .lst _ => some "list"
  | .scr _ => some "list"
  | .ref n => (m[n]?).bind tyO
  | _ => none
def isiB (t c : String) : Bool := t == c || (t == "bool" && c == "int")
def kinds : List String := ["int", "bool", "str", "tuple", "list"]
def isiD : M → List D → Option D
  | m, [x, .ty c] => if kinds.contains c then (tyName m x).map fun t => .bl (isiB t c) else none
  | m, [x, .tup [.ty c, .ty c']] => if kinds.contains c && kinds.contains c' then (tyName m x).map fun t => .bl (isiB t c || isiB t c') else none
  | _, _ => none
/-- isinstance(x, (c1, c2)), the tuple in the heap, known or not -/
def rIsiR (K : PySem.W.Frag) : List V → Hp → VK → Prop := fun xs H Q => ∃ (x : V) (tp : Addr) (cs : List V) (t : Value) (us : List Value) (b : Bool), xs = [x, .ref tp] ∧ Rd H tp (.tup cs) ∧ Paired ClsV cs us ∧ TyX K H x t ∧ PySem.W.kitAny K t us = some b ∧ Q (.bl b) H
theorem call_isiR : CallR X (.builtin "isinstance") (rIsiR X.K) := fun pins s σ H xs us Q I r h => by
  obtain ⟨x, tp, cs, t, ws, b, rfl, hT, k, ty, e, q⟩ := h
  obtain ⟨u1, u2, rfl, r1, r2⟩ := vals2 r
  cases r2
  obtain ⟨Pz, Z, pz, hx⟩ := kit_of I r1 ty
  obtain ⟨_, its, rv, ⟨_, _, _, _⟩, h1, h2, n, h3⟩ := hT.ok I.hok
  cases h2; cases h3
  rw [ClsV.all k rv] at h1
  exact PySem.W.kia_tup Z I.kIn pz h1 e hx fun tk => ⟨.bl b, H, I.tok tk, rfl, q⟩
theorem tyX_of {d : D} {v : V} {t : String} (hm : RepH g T H m) (r : Rep g T H d v) (h : tyName m d = some t) : TyX g.K H v (.type t) := by
  cases r with
  | non => cases h; exact .base .non
  | bl b => cases h; exact .base (.bl b)
  | int b => cases h; exact .base (.int b)
  | str b => cases h; exact .base (.str b)
  | tup f _ =>
    cases h
    rcases f with ⟨_, f | ⟨_, f⟩⟩ | f
    · exact .base (.tup f)
    · exact .fTuple f
    · rcases f with (f | ⟨_, f⟩) | ⟨o, its, n, h1, h2, _⟩
      · cases f
      · cases f
      · exact .kTuple h1 h2
  | lst f _ => cases h; exact .base (.lst f.2)
  | scr f _ =>
    cases h
    rcases f with ⟨_, o, f⟩ | f
    · exact .base (.frz f)
    · rcases f with (f | ⟨_, f⟩) | ⟨o, its, n, h1, h2, _⟩
      · cases f
      · cases f
      · exact .kList h1 h2
  | ref e =>
    obtain ⟨o, h1, h2⟩ := Option.bind_eq_some_iff.mp h
    cases hm.at_ _ _ _ e h1 with
    | lst f r => cases h2; exact .base (.lst f)
    | _ => cases h2
  | _ => cases h
theorem tyO_lst {o : O} {t : String} (h : tyO o = some t) : t = "list" := by
  cases o with
  | lst ds => cases h; rfl
  | _ => cases h
theorem tyName_mem {d : D} {t : String} (h : tyName m d = some t) : t ∈ ["NoneType", "bool", "int", "str", "tuple", "list"] := by
  cases d with
  | ref n =>
    obtain ⟨o, h1, h2⟩ := Option.bind_eq_some_iff.mp h
    rw [tyO_lst h2]
    decide
  | non => cases h; decide
  | bl b => cases h; decide
  | int b => cases h; decide
  | str b => cases h; decide
  | tup b => cases h; decide
  | lst b => cases h; decide
  | scr b => cases h; decide
  | _ => cases h
theorem kit_isi : ∀ t ∈ ["NoneType", "bool", "int", "str", "tuple", "list"], ∀ c ∈ kinds, kitB t c = some (isiB t c) := by decide +kernel
theorem call_isi' : CallD X (.builtin "isinstance") isiD := ⟨_, orC call_isi (orC call_isiR call_isiK), fun T H m xs vs d hm r hf Q k => by
  unfold isiD at hf; split at hf
  · next y c =>
    obtain ⟨hc, hf⟩ := ite_some hf
    obtain ⟨t, h1, rfl⟩ := Option.map_eq_some_iff.mp hf
    obtain ⟨v, w, rfl, q1, q2⟩ := r.two
    cases q2
    exact .inl ⟨_, _, _, _, _, rfl, .ty _, tyX_of hm q1 h1, kit_ty (kit_isi t (tyName_mem h1) c (by simpa using hc)), k.now hm (.bl _)⟩
  · next y c c' =>
    obtain ⟨hc, hf⟩ := ite_some hf
    obtain ⟨t, h1, rfl⟩ := Option.map_eq_some_iff.mp hf
    obtain ⟨v, w, rfl, q1, q2⟩ := r.two
    obtain ⟨hc1, hc2⟩ := and2 hc
    have k1 := kit_isi t (tyName_mem h1) c (by simpa using hc1)
    have k2 := kit_isi t (tyName_mem h1) c' (by simpa using hc2)
    cases q2 with
    | tup f rl =>
      obtain ⟨v1, v2, rfl, z1, z2⟩ := rl.two
      cases z1; cases z2
      have key : PySem.W.kitAny X.K (.type t) [.type c, .type c'] = some (isiB t c || isiB t c') := by
        unfold PySem.W.kitAny
        rw [kit_ty k1]
        cases h2 : isiB t c with
        | true => rfl
        | false =>
          show PySem.W.kitAny _ _ _ = _
          unfold PySem.W.kitAny
          rw [kit_ty k2]
          cases h3 : isiB t c' <;> rfl
      rcases f with ⟨_, f⟩ | f
      · exact .inr (.inl ⟨_, _, _, _, _, _, rfl, f, .cons (.ty _) (.cons (.ty _) .nil), tyX_of hm q1 h1, key, k.now hm (.bl _)⟩)
      · rcases f with (f | ⟨_, f⟩) | ⟨⟨cl, dd, dt, sl⟩, its, n, h5, h6, h7, _, h8⟩
        · cases f
        · cases f
        · simp only at h6 h7
          subst h6 h7
          have e : its = #[.type c, .type c'] := by
            cases hi : its.toList with
            | nil => rw [hi] at h8; cases h8
            | cons a b =>
              rw [hi] at h8
              cases h8 with
              | cons y1 y2 =>
                cases y2 with
                | cons y3 y4 =>
                  cases y4
                  cases (show a = Value.type c from y1)
                  cases (show _ = Value.type c' from y3)
                  exact Array.ext' hi
          subst e
          exact .inr (.inr ⟨_, _, dd, [.type c, .type c'], n, sl, _, _, rfl, h5, tyX_of hm q1 h1, key, k.now hm (.bl _)⟩)
  · cases hf⟩
theorem de_ty {t : String} (hg : Gl X x) (hm : X.mg x = none) (hv : bootBuiltins x = some (.type t)) (hn : x ≠ "__name__" := by decide) (hd : (x == ("__debug__" : Str)) = false := by decide) : DE X (.Name x pos) (eC (.ty t)) :=
  ⟨_, pe_bltn (v := .ty t) hg hm hv rfl hn hd, rf_c fun _ _ => .ty t⟩
/-- a tuple of the top -/
theorem de_gtup {ds : List D} {vs : List V} (hg : Gl X x) (hm : X.mg x = some (.ref (He.ga X.K x))) (h : ∀ H, SqT X.K H (He.ga X.K x) vs) (hr : ∀ T H, RepL (gx X) T H ds vs) (hd : (x == ("__debug__" : Str)) = false := by decide) : DE X (.Name x pos) (eC (.tup ds)) :=
  ⟨_, pe_glob (v := .ref (He.ga X.K x)) hg hm rfl hd, rf_c fun T H => .tup (.inr (h _)) (hr T H)⟩
theorem de_gstr {v : Str} (hg : Gl X x) (hm : ∃ t, X.mg x = some (.str v t)) (hd : (x == ("__debug__" : Str)) = false := by decide) : DE X (.Name x pos) (eC (.str v)) := by
  obtain ⟨t, hm⟩ := hm
  exact ⟨_, pe_glob (v := .str v) hg hm ⟨t, rfl⟩ hd, rf_c fun T H => .str v⟩
def eM1 (F : M → D → D → Option D) (a b : EF) : EF := fun ρ m => bd (a ρ m) fun x m1 => match x with
  | .str z => bd (b ρ m1) fun y m2 => pu (F m2 (.str z) y) m2
  | _ => none
theorem rf_m1 {r : V → List V → Hp → VK → Prop} {F : M → D → D → Option D} {ta tb : TE} {a b : EF} (hr : ∀ T H m z y u d, RepH g T H m → Rep g T H y u → F m (.str z) y = some d → ∀ Q, KV g T H m d Q → r (.str z) [u] H Q) (ha : RfE g ta a) (hb : RfE g tb b) : RfE g (tM1 r ta tb) (eM1 F a b) := by
  intro T σ H ρ m d m' hm hs hf Q k
  obtain ⟨x, m1, e1, hf1⟩ := bd_some hf
  refine ha T σ H ρ m x m1 hm hs e1 _ fun v T1 H1 l1 hm1 r1 => ?_
  clear hf
  cases r1 with
  | str z =>
    obtain ⟨y, m2, e2, hf⟩ := bd_some hf1
    obtain ⟨e3, rfl⟩ := pu_some hf
    refine ⟨⟨z, rfl⟩, hb T1 σ H1 ρ m1 y _ hm1 (hs.le l1) e2 _ fun u T2 H2 l2 hm2 r2 => ?_⟩
    exact hr T2 H2 _ z y u d hm2 r2 e3 Q (k.le (l1.trans l2))
  | _ => cases hf1
def spl1 (c : Nat) : List Nat → List (List Nat)
  | [] => [[]]
  | x :: xs => if x = c then [] :: spl1 c xs else match spl1 c xs with
    | w :: ws => (x :: w) :: ws
    | [] => [[x]]
theorem spl1_ne (c : Nat) : ∀ l : List Nat, ∃ w ws, spl1 c l = w :: ws
  | [] => ⟨_, _, rfl⟩
  | x :: xs => by
    obtain ⟨w, ws, e⟩ := spl1_ne c xs
    simp only [spl1, e]
    split <;> exact ⟨_, _, rfl⟩
theorem spl_one (c : Nat) : ∀ (l acc w : List Nat) (ws : List (List Nat)), spl1 c l = w :: ws → TL.spl [c] 0 acc l = (acc ++ w) :: ws
  | [], acc, w, ws, h => by cases h; simp [TL.spl]
  | x :: xs, acc, w, ws, h => by
    obtain ⟨v, vs, e⟩ := spl1_ne c xs
    simp only [spl1, e] at h
    by_cases hx : x = c
    · rw [if_pos hx] at h
      cases h
      have hp : TL.pre [c] (x :: xs) = true := by simp [TL.pre, hx]
      simp only [TL.spl, hp, if_true, List.length_singleton, Nat.sub_self, List.append_nil]
      rw [spl_one c xs [] v vs e]
      simp
    · rw [if_neg hx] at h
      cases h
      have hp : TL.pre [c] (x :: xs) = false := by simp [TL.pre]; exact fun z => hx (by first | exact z | exact z.symm)
      simp only [TL.spl, hp, Bool.false_eq_true, if_false]
      rw [spl_one c xs _ _ _ e]
      simp
def splitS (a : Str) (c : Nat) : List Str := (spl1 c a.cps.toList).map fun l => ⟨l.toArray⟩
theorem splitS_eq {a : Str} {c : Nat} (hc : c < 256) : Txt.split a ⟨#[c]⟩ = splitS a c := by
  obtain ⟨w, ws, e⟩ := spl1_ne c a.cps.toList
  have h := SX.split_S (a := a.cps.toList) (b := [c]) (by simp) (by simpa using hc)
  rw [spl_one c _ [] w ws e] at h
  unfold splitS
  rw [e]
  have ea : (SX.S a.cps.toList : Str) = a := by cases a; rfl
  rw [ea] at h
  simpa using h
def splitD : M → D → D → Option D
  | _, .str a, .str b => match b.cps.toList with
    | [c] => if c < 256 ∧ a.length + 2 ≤ sizeLine then some (.lst ((splitS a c).map .str)) else none
    | _ => none
  | _, _, _ => none
theorem repL_strs (ys : List Str) : RepL g T H (ys.map .str) (ys.map V.str) := by
  induction ys with
  | nil => exact .nil
  | cons y ys ih => exact .cons (.str y) ih
theorem de_split {fo fe : EF} (ho : DE X o fo) (he : DE X e fe) (hs : starEach [e] X.env = [(false, eval e X.env)] := by rfl) (hbase : attributeBase o "split" X.env (eval o X.env) = eval o X.env := by rfl) (hline : (apos.endLine == pos.line) = true := by rfl) :
    DE X (.Call (.Attribute o "split" apos) [e] [] pos) (eM1 splitD fo fe) := by
  obtain ⟨to, po, ro⟩ := ho.ex; obtain ⟨te, pe, re⟩ := he.ex
  refine ⟨_, pe_split po pe hs hbase hline, rf_m1 (fun T H m z y u d hm ry hf Q k => ?_) ro re⟩
  cases ry with
  | str b =>
    change (match b.cps.toList with
      | [c] => if c < 256 ∧ z.length + 2 ≤ sizeLine then some (.lst ((splitS z c).map .str)) else none
      | _ => none) = some d at hf
    split at hf
    · next c hc =>
      obtain ⟨⟨h1, h2⟩, hf⟩ := ite_some hf
      cases hf
      have eb := sign_of hc
      subst eb
      exact ⟨z, _, rfl, rfl, rfl, h2, fun p hp => by rw [splitS_eq h1]; exact k.lst hm (repL_strs _) p hp⟩
    · cases hf
  | _ => cases hf
def txts : List D → Option (List Str)
  | [] => some []
  | .str x :: ds => (txts ds).map (x :: ·)
  | _ => none
theorem txts_rep : ∀ {ds : List D} {ys : List Str} {vs : List V}, txts ds = some ys → RepL g T H ds vs → vs = ys.map V.str
  | [], _, _, h, r => by cases h; cases r; rfl
  | .str x :: ds, _, _, h, r => by
    obtain ⟨ys, h1, rfl⟩ := Option.map_eq_some_iff.mp h
    cases r with
    | cons a s => cases a; rw [txts_rep h1 s]; rfl
  | .non :: _, _, _, h, _ => by cases h
  | .bl _ :: _, _, _, h, _ => by cases h
  | .int _ :: _, _, _, h, _ => by cases h
  | .tup _ :: _, _, _, h, _ => by cases h
  | .lst _ :: _, _, _, h, _ => by cases h
  | .scr _ :: _, _, _, h, _ => by cases h
  | .dic _ _ :: _, _, _, h, _ => by cases h
  | .obj _ _ _ :: _, _, _, h, _ => by cases h
  | .ref _ :: _, _, _, h, _ => by cases h
  | .glo _ :: _, _, _, h, _ => by cases h
  | .ty _ :: _, _, _, h, _ => by cases h
def seqD (m : M) : D → Option (List D)
  | .tup ds => some ds
  | y => lstR m y
theorem seq_rep {d : D} {v : V} {ds : List D} (hm : RepH g T H m) (r : Rep g T H d v) (h : seqD m d = some ds) : ∃ a vs, v = .ref a ∧ (SqL g.K H a vs ∨ SqT g.K H a vs) ∧ RepL g T H ds vs := by
  unfold seqD at h
  split at h
  · cases h
    obtain ⟨a, ws, rfl, hx, rl⟩ := tup_rep r
    exact ⟨a, ws, rfl, .inr hx, rl⟩
  · obtain ⟨a, ws, rfl, hx, rl⟩ := lstR_rep hm r h
    exact ⟨a, ws, rfl, .inl hx, rl⟩
def joinT (a : Str) (ys : List Str) : Str := ⟨(TL.joinL a.cps.toList (ys.map fun y => y.cps.toList)).toArray⟩
theorem joinT_eq (a : Str) (ys : List Str) : Txt.join a ys = joinT a ys := by
  have h := SX.join_S a.cps.toList (ys.map fun y => y.cps.toList)
  have ea : (SX.S a.cps.toList : Str) = a := by cases a; rfl
  have ey : (ys.map fun y => y.cps.toList).map SX.S = ys := by
    rw [List.map_map]
    conv => rhs; rw [← List.map_id ys]
    exact List.map_congr_left fun y _ => by cases y; rfl
  rw [ea, ey] at h
  exact h
def joinS (a : Str) (ys : List Str) : Option D := if (ys.map (·.length)).sum + ys.length * a.length ≤ 16777216 then some (.str (joinT a ys)) else none
def joinD (m : M) (x y : D) : Option D := match x with
  | .str a => ((seqD m y).bind txts).bind (joinS a)
  | _ => none
theorem de_join {fo fe : EF} (ho : DE X o fo) (he : DE X e fe) (hs : starEach [e] X.env = [(false, eval e X.env)] := by rfl) (hbase : attributeBase o "join" X.env (eval o X.env) = eval o X.env := by rfl) (hline : (apos.endLine == pos.line) = true := by rfl) :
    DE X (.Call (.Attribute o "join" apos) [e] [] pos) (eM1 joinD fo fe) := by
  obtain ⟨to, po, ro⟩ := ho.ex; obtain ⟨te, pe, re⟩ := he.ex
  refine ⟨_, pe_join po pe hs hbase hline, rf_m1 (fun T H m z y u d hm ry hf Q k => ?_) ro re⟩
  obtain ⟨ys, h1, h2⟩ := Option.bind_eq_some_iff.mp hf
  obtain ⟨ds, h3, h4⟩ := Option.bind_eq_some_iff.mp h1
  obtain ⟨hz, h5⟩ := ite_some h2
  cases h5
  obtain ⟨a, ws, rfl, hx, rl⟩ := seq_rep hm ry h3
  rw [txts_rep h4 rl] at hx
  exact ⟨z, a, ys, rfl, rfl, hx, hz, by rw [joinT_eq]; exact k.now hm (.str _)⟩
def sPar (is : List Nat) (a : AF) : SF := fun ρ m => bd (a ρ m) fun xs m1 => if xs.length = is.length then some (.nx (setMany ρ is xs), m1) else none
theorem ds_par {i j : Nat} {x y : Str} {a b : Expr} {f : AF} {px py pt : Pos} {kt k2 pt2} (hc : X.calm = true) (hN : X.N.Nodup) (hi : X.N[i]? = some x) (hj : X.N[j]? = some y) (hij : i ≠ j)
    (hx : X.env.scope.names.lookup x = some .local) (hy : X.env.scope.names.lookup y = some .local) (ha : DA X [a, b] f)
    (hw : swappedStores [.Tuple [.Name x px, .Name y py] kt pt] (.Tuple [a, b] k2 pt2) X.env = pure (some [x, y]))
    (hs : swapsWithSole [.Tuple [.Name x px, .Name y py] kt pt] (.Tuple [a, b] k2 pt2) pos.line X.env = pure false := by rfl) : DS X (.Assign [.Tuple [.Name x px, .Name y py] kt pt] (.Tuple [a, b] k2 pt2) pos) (sPar [i, j] f) := by
  obtain ⟨t, pa, ra⟩ := ha.ex
  refine ⟨_, ps_par hc hN hi hj hij hx hy pa hw hs, fun T σ H ρ m d m' hm hs hf D k => ?_⟩
  obtain ⟨xs, m1, e1, hf⟩ := bd_some hf
  obtain ⟨hl, hf⟩ := ite_some hf
  cases hf
  refine ra T σ H ρ m xs _ hm hs e1 _ fun vs T1 H1 l1 hm1 r1 => ?_
  match xs, hl, r1 with
  | [d1, d2], _, r1 =>
    obtain ⟨v, w, rfl, q1, q2⟩ := r1.two
    exact ⟨v, w, rfl, k _ T1 H1 l1 hm1 (((hs.le l1).set q1).set q2)⟩
theorem ds_par3 {i j l : Nat} {x y z : Str} {a b c : Expr} {f : AF} {px py pz pt : Pos} {kt k2 pt2} (hc : X.calm = true) (hN : X.N.Nodup) (hi : X.N[i]? = some x) (hj : X.N[j]? = some y) (hl : X.N[l]? = some z) (hij : i ≠ j) (hil : i ≠ l) (hjl : j ≠ l)
    (hx : X.env.scope.names.lookup x = some .local) (hy : X.env.scope.names.lookup y = some .local) (hz : X.env.scope.names.lookup z = some .local) (ha : DA X [a, b, c] f)
    (hw : swappedStores [.Tuple [.Name x px, .Name y py, .Name z pz] kt pt] (.Tuple [a, b, c] k2 pt2) X.env = pure (some [x, y, z]))
    (hs : swapsWithSole [.Tuple [.Name x px, .Name y py, .Name z pz] kt pt] (.Tuple [a, b, c] k2 pt2) pos.line X.env = pure false := by rfl) : DS X (.Assign [.Tuple [.Name x px, .Name y py, .Name z pz] kt pt] (.Tuple [a, b, c] k2 pt2) pos) (sPar [i, j, l] f) := by
  obtain ⟨t, pa, ra⟩ := ha.ex
  refine ⟨_, ps_par3 hc hN hi hj hl hij hil hjl hx hy hz pa hw hs, fun T σ H ρ m d m' hm hs hf D k => ?_⟩
  obtain ⟨xs, m1, e1, hf⟩ := bd_some hf
  obtain ⟨hl, hf⟩ := ite_some hf
  cases hf
  refine ra T σ H ρ m xs _ hm hs e1 _ fun vs T1 H1 l1 hm1 r1 => ?_
  match xs, hl, r1 with
  | [d1, d2, d3], _, .cons q1 r1 =>
    obtain ⟨v, w, rfl, q2, q3⟩ := r1.two
    exact ⟨_, v, w, rfl, k _ T1 H1 l1 hm1 ((((hs.le l1).set q1).set q2).set q3)⟩
def eChain (f h : M → D → D → Option D) (a b c : EF) : EF := fun ρ m => bd (a ρ m) fun x m1 => bd (b ρ m1) fun y m2 => match f m2 x y with
  | some (.bl true) => bd (c ρ m2) fun z m3 => pu (h m3 y z) m3
  | some (.bl false) => some (.bl false, m2)
  | _ => none
theorem rf_chain {r r' : R2} {f h : M → D → D → Option D} {ta tb tc : TE} {a b c : EF} (h1 : RfO g r f) (h2 : RfO g r' h) (ha : RfE g ta a) (hb : RfE g tb b) (hc : RfE g tc c) : RfE g (tChain r r' ta tb tc) (eChain f h a b c) := by
  intro T σ H ρ m d m' hm hs hf Q k
  obtain ⟨x, m1, e1, hf1⟩ := bd_some hf
  obtain ⟨y, m2, e2, hf2⟩ := bd_some hf1
  clear hf hf1
  refine ha T σ H ρ m x m1 hm hs e1 _ fun v T1 H1 l1 hm1 r1 => ?_
  refine hb T1 σ H1 ρ m1 y m2 hm1 (hs.le l1) e2 _ fun u T2 H2 l2 hm2 r2 => ?_
  split at hf2
  · next hq =>
    obtain ⟨z, m3, e3, hf3⟩ := bd_some hf2
    obtain ⟨e4, e5⟩ := pu_some hf3
    subst e5
    refine h1 T2 H2 m2 x y v u _ hm2 (r1.le l2) r2 hq _ fun w T3 H3 l3 hm3 r3 => ?_
    cases r3
    refine ⟨true, rfl, ?_⟩
    rw [if_pos rfl]
    refine hc T3 σ H3 ρ m2 z _ hm3 (hs.le (l1.trans (l2.trans l3))) e3 _ fun w T4 H4 l4 hm4 r4 => ?_
    exact h2 T4 H4 _ y z u w d hm4 (r2.le (l3.trans l4)) r4 e4 Q (k.le (l1.trans (l2.trans (l3.trans l4))))
  · next hq =>
    cases hf2
    refine h1 T2 H2 _ x y v u _ hm2 (r1.le l2) r2 hq _ fun w T3 H3 l3 hm3 r3 => ?_
    cases r3
    exact ⟨false, rfl, by rw [if_neg Bool.false_ne_true]; exact k _ T3 H3 (l1.trans (l2.trans l3)) hm3 (.bl _)⟩
  · cases hf2
theorem dt_chain {op op' : CmpOp} {f h : M → D → D → Option D} {a b c : Expr} {fa fb fc : EF} (ho : OpD X (compareOp op) f) (ho' : OpD X (compareOp op') h) (ha : DE X a fa) (hb : DE X b fb) (hc : DE X c fc)
    (hm : lastMarks [op, op'] [b, c] = false := by with_unfolding_all rfl) : DT X (.Compare a [op, op'] [b, c] pos) (tVal (eChain f h fa fb fc)) := by
  obtain ⟨r, h1, q1⟩ := ho.ex; obtain ⟨r', h2, q2⟩ := ho'.ex; obtain ⟨ta, pa, ra⟩ := ha.ex; obtain ⟨tb, pb, rb⟩ := hb.ex; obtain ⟨tc, pc, rc⟩ := hc.ex
  exact ⟨_, pt_chain h1 h2 pa pb pc hm, rf_test (rf_chain q1 q2 ra rb rc)⟩
def aStar (a : EF) (r : AF) : AF := fun ρ m => bd (a ρ m) fun x m1 => match seqD m1 x with
  | some ds => bd (r ρ m1) fun ys m2 => some (ds ++ ys, m2)
  | none => none
theorem da_star {f : EF} {fr : AF} (he : DE X e f) (hr : DA X es fr) (hs : starEach (.Starred e p :: es) X.env = (true, eval e X.env) :: starEach es X.env := by rfl) : DA X (.Starred e p :: es) (aStar f fr) := by
  obtain ⟨te, pe, re⟩ := he.ex; obtain ⟨tr, pr, rr⟩ := hr.ex
  refine ⟨_, StX.pa_star pe pr hs, fun T σ H ρ m d m' hm hs hf Q k => ?_⟩
  obtain ⟨x, m1, e1, hf1⟩ := bd_some hf
  clear hf
  refine re T σ H ρ m x m1 hm hs e1 _ fun v T1 H1 l1 hm1 r1 => ?_
  split at hf1
  · next ds hd =>
    obtain ⟨ys, m2, e2, hf2⟩ := bd_some hf1
    cases hf2
    obtain ⟨a, ws, rfl, hx, rl⟩ := seq_rep hm1 r1 hd
    exact ⟨a, ws, rfl, hx.symm, rr T1 σ H1 ρ m1 ys _ hm1 (hs.le l1) e2 _ fun vs T2 H2 l2 hm2 r2 => k _ T2 H2 (l1.trans l2) hm2 ((rl.le l2).append r2)⟩
  · cases hf1
/-- a statement that is never come to -/
def sNo : SF := fun _ _ => none
theorem ds_never {s : Stmt} : DS X s sNo := ⟨_, ps_never, fun T σ H ρ m d m' hm hs hf D k => by cases hf⟩
end
end L4
namespace L4
open PySem L2
section
variable {X : Cx} {g : G} {T T' : Tk} {H : Hp} {m : M} {Q : VK} {pos p apos : Pos} {e o : Expr} {es : List Expr} {k n : Nat} {x c nm : Str}
theorem dv (i : Nat) {x : Str} {pos : Pos} (hN : X.N[i]? = some x := by rfl) (hv : Vis X.env.scope x := by first | exact Or.inl rfl | exact Or.inr (Or.inl rfl) | exact Or.inr (Or.inr rfl)) (hd : (x == ("__debug__" : Str)) = false := by decide)
    (hcd : (x == ("__classdict__" : Str)) = false := by decide) : DE X (.Name x pos) (eVar i) := de_var hN hv hd hcd
def big : Nat := 1000000
def sAug (i : Nat) (f : M → D → D → Option D) (a : EF) : SF := fun ρ m => match ρ.getD i none with
  | some x => bd (a ρ m) fun y m1 => bd (pu (f m1 x y) m1) fun z m2 => some (.nx (ρ.set i (some z)), m2)
  | none => none
def bools : List D → Option (List Bool)
  | [] => some []
  | .bl b :: ds => (bools ds).map (b :: ·)
  | _ => none
theorem bools_rep : ∀ {ds : List D} {bs : List Bool} {vs : List V}, bools ds = some bs → RepL g T H ds vs → vs = bs.map V.bl
  | [], _, _, h, r => by cases h; cases r; rfl
  | .bl x :: ds, _, _, h, r => by
    obtain ⟨ys, h1, rfl⟩ := Option.map_eq_some_iff.mp h
    cases r with
    | cons a s => cases a; rw [bools_rep h1 s]; rfl
  | .non :: _, _, _, h, _ => by cases h
  | .str _ :: _, _, _, h, _ => by cases h
  | .int _ :: _, _, _, h, _ => by cases h
  | .tup _ :: _, _, _, h, _ => by cases h
  | .lst _ :: _, _, _, h, _ => by cases h
  | .scr _ :: _, _, _, h, _ => by cases h
  | .dic _ _ :: _, _, _, h, _ => by cases h
  | .obj _ _ _ :: _, _, _, h, _ => by cases h
  | .ref _ :: _, _, _, h, _ => by cases h
  | .glo _ :: _, _, _, h, _ => by cases h
  | .ty _ :: _, _, _, h, _ => by cases h
end
end L4
namespace L4
open PySem L2
mutual
def eqK : D → D → Bool
  | .non, .non => true
  | .bl a, .bl b => a == b
  | .bl a, .int i => (if a then 1 else 0) == i
  | .int i, .bl a => i == (if a then 1 else 0)
  | .int i, .int j => i == j
  | .str x, .str y => decide (x = y)
  | .tup a, .tup b => eqKs a b
  | _, _ => false
def eqKs : List D → List D → Bool
  | [], [] => true
  | a :: as, b :: bs => eqK a b && eqKs as bs
  | _, _ => false
end
theorem nks_cons {d : D} {ds : List D} {x : List NestedKey} (h : nks (d :: ds) = some x) : ∃ k ks, nk d = some k ∧ nks ds = some ks ∧ x = k :: ks := by
  rw [nks] at h
  cases h1 : nk d with
  | none => rw [h1] at h; cases h
  | some k => cases h2 : nks ds with
    | none => rw [h1, h2] at h; cases h
    | some ks => rw [h1, h2] at h; cases h; exact ⟨k, ks, rfl, rfl, rfl⟩
theorem dec_num {a b : Int} : decide (NestedKey.num a = .num b) = (a == b) := by
  by_cases h : a = b
  · subst h; simp
  · rw [decide_eq_false (fun z => h (by injection z)), beq_eq_false_iff_ne.mpr h]
mutual
theorem eqK_nk : ∀ (a b : D) (x y : NestedKey), nk a = some x → nk b = some y → eqK a b = decide (x = y)
  | .non, b, x, y, h, h2 => by rw [nk] at h; cases h; cases b <;> rw [nk] at h2 <;> first | (cases h2; done) | (cases h2; rfl) | (obtain ⟨z, _, rfl⟩ := Option.map_eq_some_iff.mp h2; rfl)
  | .bl p, b, x, y, h, h2 => by
    rw [nk] at h; cases h
    cases b with
    | bl q => rw [nk] at h2; cases h2; rw [dec_num, eqK]; cases p <;> cases q <;> rfl
    | int j => rw [nk] at h2; cases h2; rw [dec_num, eqK]
    | non => rw [nk] at h2; cases h2; rfl
    | str z => rw [nk] at h2; cases h2; rfl
    | tup z => rw [nk] at h2; obtain ⟨w, _, rfl⟩ := Option.map_eq_some_iff.mp h2; rfl
    | _ => rw [nk] at h2; cases h2
  | .int p, b, x, y, h, h2 => by
    rw [nk] at h; cases h
    cases b with
    | bl q => rw [nk] at h2; cases h2; rw [dec_num, eqK]
    | int j => rw [nk] at h2; cases h2; rw [dec_num, eqK]
    | non => rw [nk] at h2; cases h2; rfl
    | str z => rw [nk] at h2; cases h2; rfl
    | tup z => rw [nk] at h2; obtain ⟨w, _, rfl⟩ := Option.map_eq_some_iff.mp h2; rfl
    | _ => rw [nk] at h2; cases h2
  | .str p, b, x, y, h, h2 => by
    rw [nk] at h; cases h
    cases b with
    | bl q => rw [nk] at h2; cases h2; rfl
    | int j => rw [nk] at h2; cases h2; rfl
    | non => rw [nk] at h2; cases h2; rfl
    | str z =>
      rw [nk] at h2; cases h2; rw [eqK]
      by_cases e : p = z
      · subst e; simp
      · rw [decide_eq_false e, decide_eq_false (fun q => e (by injection q))]
    | tup z => rw [nk] at h2; obtain ⟨w, _, rfl⟩ := Option.map_eq_some_iff.mp h2; rfl
    | _ => rw [nk] at h2; cases h2
  | .tup p, b, x, y, h, h2 => by
    rw [nk] at h
    obtain ⟨w, hw, rfl⟩ := Option.map_eq_some_iff.mp h
    cases b with
    | bl q => rw [nk] at h2; cases h2; rfl
    | int j => rw [nk] at h2; cases h2; rfl
    | non => rw [nk] at h2; cases h2; rfl
    | str z => rw [nk] at h2; cases h2; rfl
    | tup z =>
      rw [nk] at h2
      obtain ⟨u, hu, rfl⟩ := Option.map_eq_some_iff.mp h2
      rw [eqK, eqKs_nk p z w u hw hu]
      by_cases e : w = u
      · subst e; simp
      · rw [decide_eq_false e, decide_eq_false (fun q => e (by injection q))]
    | _ => rw [nk] at h2; cases h2
  | .lst _, _, _, _, h, _ => by rw [nk] at h; cases h
  | .scr _, _, _, _, h, _ => by rw [nk] at h; cases h
  | .dic _ _, _, _, _, h, _ => by rw [nk] at h; cases h
  | .obj _ _ _, _, _, _, h, _ => by rw [nk] at h; cases h
  | .ref _, _, _, _, h, _ => by rw [nk] at h; cases h
  | .glo _, _, _, _, h, _ => by rw [nk] at h; cases h
  | .ty _, _, _, _, h, _ => by rw [nk] at h; cases h
theorem eqKs_nk : ∀ (a b : List D) (x y : List NestedKey), nks a = some x → nks b = some y → eqKs a b = decide (x = y)
  | [], b, x, y, h, h2 => by
    rw [nks] at h; cases h
    cases b with
    | nil => rw [nks] at h2; cases h2; rfl
    | cons d ds => obtain ⟨k, ks, _, _, rfl⟩ := nks_cons h2; rfl
  | d :: ds, b, x, y, h, h2 => by
    obtain ⟨k, ks, h3, h4, rfl⟩ := nks_cons h
    cases b with
    | nil => rw [nks] at h2; cases h2; rfl
    | cons e es =>
      obtain ⟨l, lt, h5, h6, rfl⟩ := nks_cons h2
      rw [eqKs, eqK_nk d e k l h3 h5, eqKs_nk ds es ks lt h4 h6]
      by_cases e1 : k = l
      · by_cases e2 : ks = lt
        · rw [decide_eq_true e1, decide_eq_true e2, decide_eq_true (by rw [e1, e2])]; rfl
        · rw [decide_eq_false e2, decide_eq_false (fun q => e2 (List.cons.inj q).2)]; simp
      · rw [decide_eq_false e1, decide_eq_false (fun q => e1 (List.cons.inj q).1)]; simp
end
theorem nkT_nk {d : D} {k : NestedKey} (h : nkT d = some k) : nk d = some k ∧ k.depth ≤ 8 := by
  unfold nkT at h
  split at h
  · split at h
    · next h1 =>
      obtain ⟨hd, h⟩ := ite_some h
      cases h
      exact ⟨by rw [nk, h1]; rfl, hd⟩
    · cases h
  · cases h
def dHas (ks : List D) (k : D) : Bool := ks.any fun a => eqK a k
def dGet : List D → List D → D → Option D
  | a :: ks, b :: vs, k => if eqK a k then some b else dGet ks vs k
  | _, _, _ => none
def dRep : List D → List D → D → D → List D
  | a :: ks, b :: vs, k, v => (if eqK a k then v else b) :: dRep ks vs k v
  | _, _, _, _ => []
def dPutK (ks : List D) (k : D) : List D := if dHas ks k then ks else ks ++ [k]
def dPutV (ks vs : List D) (k v : D) : List D := if dHas ks k then dRep ks vs k v else vs ++ [v]
def isFlat : D → Bool
  | .int _ => true
  | .str _ => true
  | _ => false
section
variable {X : Cx} {g : G} {T T' : Tk} {H : Hp} {m : M} {Q : VK} {pos p apos : Pos} {e o : Expr} {es : List Expr} {k n : Nat} {x c nm : Str}
def keyD : Key → D
  | .inl i => .int i
  | .inr x => .str x
theorem rep_key {d : D} {κ : Key} (r : Rep g T H d (kV κ)) : d = keyD κ := by
  cases κ with
  | inl i => cases r; rfl
  | inr i => cases r; rfl
theorem repL_keys : ∀ {ks : List D} {kvs : List (Key × V)}, RepL g T H ks (kvs.map fun p => kV p.1) → ks = kvs.map fun p => keyD p.1
  | [], [], _ => rfl
  | _ :: _, [], r => by cases r
  | [], _ :: _, r => by cases r
  | d :: ks, p :: kvs, r => by
    cases r with
    | cons a s => rw [rep_key a, repL_keys s]; rfl
theorem keyD_rep {κ : Key} : Rep g T H (keyD κ) (kV κ) := by
  cases κ with
  | inl i => exact .int i
  | inr i => exact .str i
theorem eqK_key (a b : Key) : eqK (keyD a) (keyD b) = decide (a = b) := by
  cases a with
  | inl i => cases b with
    | inl j => show eqK (.int i) (.int j) = _; rw [eqK, key_ll]
    | inr j => show eqK (.int i) (.str j) = _; rw [key_lr]; rfl
  | inr i => cases b with
    | inl j => show eqK (.str i) (.int j) = _; rw [key_rl]; rfl
    | inr j => show eqK (.str i) (.str j) = _; rw [eqK, key_rr]
theorem flat_get {κ : Key} : ∀ {kvs : List (Key × V)} {vs : List D}, RepL g T H vs (kvs.map Prod.snd) → (∀ d, dGet (kvs.map fun p => keyD p.1) vs (keyD κ) = some d → ∃ v, valV kvs κ = some v ∧ Rep g T H d v) ∧ (valV kvs κ).isSome = dHas (kvs.map fun p => keyD p.1) (keyD κ)
  | [], _, r => by
    cases r
    exact ⟨fun d h => (by cases h), rfl⟩
  | p :: kvs, _, r => by
    cases r with
    | @cons d v ds vs a s =>
      obtain ⟨h1, h2⟩ := flat_get (κ := κ) s
      have ek := eqK_key p.1 κ
      by_cases e : p.1 = κ
      · rw [decide_eq_true e] at ek
        refine ⟨fun d' h => ?_, by rw [valV_pos e]; simp [dHas, ek]⟩
        simp only [List.map_cons, dGet, ek, if_true] at h
        cases h
        exact ⟨p.2, valV_pos e, a⟩
      · rw [decide_eq_false e] at ek
        refine ⟨fun d' h => ?_, by rw [valV_neg e, h2]; simp [dHas, ek]⟩
        simp only [List.map_cons, dGet, ek] at h
        rw [valV_neg e]
        exact h1 d' h
theorem flat_rep {κ : Key} {v : V} {d : D} (rv : Rep g T H d v) : ∀ {kvs : List (Key × V)} {vs : List D}, RepL g T H vs (kvs.map Prod.snd) → RepL g T H (dRep (kvs.map fun p => keyD p.1) vs (keyD κ) d) ((kvs.map fun kv => if kv.1 = κ then (kv.1, v) else kv).map Prod.snd) ∧ (kvs.map fun kv => if kv.1 = κ then (kv.1, v) else kv).map Prod.fst = kvs.map Prod.fst
  | [], _, r => by cases r; exact ⟨.nil, rfl⟩
  | p :: kvs, _, r => by
    cases r with
    | cons a s =>
      obtain ⟨h1, h2⟩ := flat_rep (κ := κ) rv s
      have ek := eqK_key p.1 κ
      by_cases e : p.1 = κ
      · rw [decide_eq_true e] at ek
        simp only [List.map_cons, dRep, ek, if_true, if_pos e, h2]
        exact ⟨.cons rv h1, trivial⟩
      · rw [decide_eq_false e] at ek
        simp only [List.map_cons, dRep, ek, if_neg e, h2]
        exact ⟨.cons a h1, trivial⟩
theorem flat_put {κ : Key} {v : V} {d : D} {kvs : List (Key × V)} {ks vs : List D} (rk : RepL g T H ks (kvs.map fun p => kV p.1)) (rs : RepL g T H vs (kvs.map Prod.snd)) (rv : Rep g T H d v) :
    RepL g T H (dPutK ks (keyD κ)) ((putK kvs κ v).map fun p => kV p.1) ∧ RepL g T H (dPutV ks vs (keyD κ) d) ((putK kvs κ v).map Prod.snd) := by
  have ek := repL_keys rk
  have hs := (flat_get (κ := κ) rs).2
  have hany := valV_any κ kvs
  unfold dPutK dPutV putK
  rw [hany, hs, ← ek]
  cases hh : dHas ks (keyD κ) with
  | true =>
    simp only [if_true]
    obtain ⟨h1, h2⟩ := flat_rep (κ := κ) rv rs
    rw [← ek] at h1
    refine ⟨?_, h1⟩
    have : (kvs.map fun kv => if kv.1 = κ then (kv.1, v) else kv).map (fun p => kV p.1) = kvs.map fun p => kV p.1 := by
      have := congrArg (List.map kV) h2
      simpa [List.map_map, Function.comp_def] using this
    rw [this]
    exact rk
  | false =>
    simp only [Bool.false_eq_true, if_false, List.map_append, List.map_cons, List.map_nil]
    exact ⟨rk.append (.cons keyD_rep .nil), rs.append (.cons rv .nil)⟩
end
end L4
namespace L4
open PySem PySem.Spec PyProof.Rows L2
abbrev NV := List (NestedKey × Addr × V)
/-- the tuple at b is the key k -/
def NkAt (X : Cx) (H : Hp) (b : Addr) (k : NestedKey) : Prop := ∀ pins σ s, Inv X pins σ H s → (nestedKind X.prog X.w).is s.heap k b
section
variable {X : Cx} {T T' : Tk} {H : Hp} {m : M} {Q : VK} {pos p apos : Pos} {e o : Expr} {es : List Expr} {n : Nat} {x c nm : Str}
mutual
theorem nested_is {pins : List (Addr × Obj)} {σ : L2.St} {s : Shared} (I : Inv X pins σ H s) : ∀ (d : D) {v : V} {u : Value} {k : NestedKey}, nk d = some k → Rep (gx X) T H d v → RelV v u → NestedIs s.heap k u
  | .non, _, _, _, h, r, q => by rw [nk] at h; cases h; cases r; cases q; exact .none
  | .bl b, _, _, _, h, r, q => by rw [nk] at h; cases h; cases r; cases q; exact .bool rfl
  | .int i, _, _, _, h, r, q => by rw [nk] at h; cases h; cases r; obtain ⟨t, rfl⟩ := q; exact .int i t
  | .str i, _, _, _, h, r, q => by rw [nk] at h; cases h; cases r; obtain ⟨t, rfl⟩ := q; exact .text i t
  | .tup ds, _, _, _, h, r, q => by
    rw [nk] at h
    obtain ⟨ks, h1, rfl⟩ := Option.map_eq_some_iff.mp h
    cases r with
    | tup f r =>
      cases q
      obtain ⟨its, rv, ⟨ob, h2, h3, n, h4⟩, _⟩ := I.tuple f.sq
      exact .tup h2 h3 h4 (by simpa using nested_all I ds h1 r rv)
  | .lst _, _, _, _, h, _, _ => by rw [nk] at h; cases h
  | .scr _, _, _, _, h, _, _ => by rw [nk] at h; cases h
  | .dic _ _, _, _, _, h, _, _ => by rw [nk] at h; cases h
  | .obj _ _ _, _, _, _, h, _, _ => by rw [nk] at h; cases h
  | .ref _, _, _, _, h, _, _ => by rw [nk] at h; cases h
  | .glo _, _, _, _, h, _, _ => by rw [nk] at h; cases h
  | .ty _, _, _, _, h, _, _ => by rw [nk] at h; cases h
theorem nested_all {pins : List (Addr × Obj)} {σ : L2.St} {s : Shared} (I : Inv X pins σ H s) : ∀ (ds : List D) {vs : List V} {us : List Value} {ks : List NestedKey}, nks ds = some ks → RepL (gx X) T H ds vs → Vals vs us → NestedAll s.heap ks us
  | [], _, _, _, h, r, q => by rw [nks] at h; cases h; cases r; cases q; exact .nil
  | d :: ds, _, _, _, h, r, q => by
    obtain ⟨k, ks, h1, h2, rfl⟩ := nks_cons h
    cases r with
    | cons a s => cases q with
      | cons b t => exact .cons (nested_is I d h1 a b) (nested_all I ds h2 s t)
end
theorem nkAt {d : D} {b : Addr} {k : NestedKey} (h : nkT d = some k) (r : Rep (gx X) T H d (.ref b)) : NkAt X H b k := fun pins σ s I => by
  obtain ⟨h1, h2⟩ := nkT_nk h
  exact ⟨nested_is I d h1 r rfl, h2⟩
theorem nkAts : ∀ {ks : List D} {kvs : NV}, ks.map nkT = kvs.map (fun p => some p.1) → RepL (gx X) T H ks (kvs.map fun p => .ref p.2.1) → ∀ p ∈ kvs, NkAt X H p.2.1 p.1
  | [], [], _, _, p, hp => by cases hp
  | _ :: _, [], h, _, _, hp => by cases hp
  | [], _ :: _, h, _, _, _ => by cases h
  | d :: ks, q :: kvs, h, r, p, hp => by
    simp only [List.map_cons, List.cons.injEq] at h
    cases r with
    | cons a s =>
      rcases List.mem_cons.mp hp with rfl | hp
      · exact nkAt h.1 a
      · exact nkAts h.2 s p hp
def NDict (X : Cx) (H : Hp) (a : Addr) (kvs : NV) : Prop := Rd H a (dnO (gx X) a kvs) ∨ (kvs = [] ∧ Rd H a (.dK []))
/-- the dict in the heap -/
theorem dn_rd0 {pins : List (Addr × Obj)} {σ : L2.St} {s : Shared} {a : Addr} {kvs : NV} (I : Inv X pins σ H s) (h : Rd H a (dnO (gx X) a kvs)) (hk : ∀ p ∈ kvs, NkAt X H p.2.1 p.1) :
    kvs.length ≤ sizeLine ∧ (a == sysModules) = false ∧ ∃ xs : List (NestedKey × Addr × Value), Paired (fun (p : NestedKey × Addr × V) (q : NestedKey × Addr × Value) => p.1 = q.1 ∧ p.2.1 = q.2.1 ∧ RelV p.2.2 q.2.2) kvs xs ∧ s.heap.DictOfH (nestedKind X.prog X.w) a xs := by
  obtain ⟨⟨z, hd, xs, pr, ob, es, ep, h1, h2, h3, h4, h5⟩, _⟩ := h.ok I.hok
  refine ⟨z, hd, xs, pr, ob, es, ep, h1, h2, h3, h4, ?_, h5⟩
  have all : ∀ {l : NV} {r : List (NestedKey × Addr × Value)}, Paired (fun (p : NestedKey × Addr × V) (q : NestedKey × Addr × Value) => p.1 = q.1 ∧ p.2.1 = q.2.1 ∧ RelV p.2.2 q.2.2) l r → (∀ p ∈ l, NkAt X H p.2.1 p.1) → ∀ y ∈ r, (nestedKind X.prog X.w).is s.heap y.1 y.2.1 := by
    intro l r q
    induction q with
    | nil => intro _ y hy; cases hy
    | @cons p q ps qs hq t ih =>
      intro hl y hy
      rcases List.mem_cons.mp hy with rfl | hy
      · rw [← hq.1, ← hq.2.1]
        exact hl p (List.mem_cons_self ..) pins σ s I
      · exact ih (fun p hp => hl p (List.mem_cons_of_mem _ hp)) y hy
  exact all pr hk
theorem dn_rd {pins : List (Addr × Obj)} {σ : L2.St} {s : Shared} {a : Addr} {kvs : NV} (I : Inv X pins σ H s) (h : NDict X H a kvs) (hk : ∀ p ∈ kvs, NkAt X H p.2.1 p.1) :
    kvs.length ≤ sizeLine ∧ (a == sysModules) = false ∧ ∃ xs : List (NestedKey × Addr × Value), Paired (fun (p : NestedKey × Addr × V) (q : NestedKey × Addr × Value) => p.1 = q.1 ∧ p.2.1 = q.2.1 ∧ RelV p.2.2 q.2.2) kvs xs ∧ s.heap.DictOfH (nestedKind X.prog X.w) a xs := by
  rcases h with h | ⟨rfl, h⟩
  · exact dn_rd0 I h hk
  · obtain ⟨_, hd, vs, rel, dd⟩ := dk_rd I.hok h
    cases rel
    obtain ⟨ob, es, ep, h1, h2, h3, h4, h5, h6⟩ := dd
    have he : es.toList = [] := by
      cases hh : es.toList with
      | nil => rfl
      | cons a b => rw [hh] at h5; cases h5
    exact ⟨Nat.zero_le _, hd, [], .nil, ob, es, ep, h1, h2, h3, by rw [he]; rfl, fun x hx => (nomatch hx), by simp⟩
def nGet (kvs : NV) (k : NestedKey) : Option V := (kvs.find? fun p => decide (p.1 = k)).map fun p => p.2.2
def nHas (kvs : NV) (k : NestedKey) : Bool := kvs.any fun p => decide (p.1 = k)
def nPut (kvs : NV) (k : NestedKey) (b : Addr) (v : V) : NV := if nHas kvs k then kvs.map fun p => if p.1 = k then (p.1, p.2.1, v) else p else kvs ++ [(k, b, v)]
abbrev NP : NestedKey × Addr × V → NestedKey × Addr × Value → Prop := fun p q => p.1 = q.1 ∧ p.2.1 = q.2.1 ∧ RelV p.2.2 q.2.2
theorem np_at {k : NestedKey} : ∀ {kvs : NV} {xs : List (NestedKey × Addr × Value)}, Paired NP kvs xs → (atKey xs k).isSome = nHas kvs k ∧ ∀ v, nGet kvs k = some v → ∃ q, atKey xs k = some q ∧ RelV v q.2
  | _, _, .nil => ⟨rfl, fun v h => by cases h⟩
  | _, _, .cons (a := p) (b := q) hq t => by
    obtain ⟨h1, h2⟩ := np_at (k := k) t
    by_cases e : p.1 = k
    · have e2 : q.1 = k := by rw [← hq.1]; exact e
      refine ⟨by simp [atKey, nHas, List.find?_cons, e, e2], fun v h => ?_⟩
      simp only [nGet, List.find?_cons, e, decide_true, Option.map_some] at h
      cases h
      exact ⟨q.2, by simp [atKey, List.find?_cons, e2], hq.2.2⟩
    · have e2 : ¬ q.1 = k := by rw [← hq.1]; exact e
      refine ⟨?_, fun v h => ?_⟩
      · simp only [atKey, nHas, List.find?_cons, e2, decide_false, List.any_cons, e, Bool.false_or]
        exact h1
      · simp only [nGet, List.find?_cons, e, decide_false] at h
        obtain ⟨w, e3, r⟩ := h2 v h
        exact ⟨w, by simp only [atKey, List.find?_cons, e2, decide_false]; exact e3, r⟩
theorem np_old {k : NestedKey} {v : V} {u : Value} (rv : RelV v u) : ∀ {kvs : NV} {xs : List (NestedKey × Addr × Value)}, Paired NP kvs xs → Paired NP (kvs.map fun p => if p.1 = k then (p.1, p.2.1, v) else p) (xs.map (putAt k u))
  | _, _, .nil => .nil
  | _, _, .cons (a := p) (b := q) hq t => by
    refine .cons ?_ (np_old rv t)
    show NP (if p.1 = k then (p.1, p.2.1, v) else p) (if q.1 = k then (q.1, q.2.1, u) else q)
    by_cases e : p.1 = k
    · rw [if_pos e, if_pos (by rw [← hq.1]; exact e)]
      exact ⟨hq.1, hq.2.1, rv⟩
    · rw [if_neg e, if_neg (by rw [← hq.1]; exact e)]
      exact hq
theorem np_new {k : NestedKey} {b : Addr} {v : V} {u : Value} (rv : RelV v u) : ∀ {kvs : NV} {xs : List (NestedKey × Addr × Value)}, Paired NP kvs xs → Paired NP (kvs ++ [(k, b, v)]) (xs ++ [(k, b, u)])
  | _, _, .nil => .cons ⟨rfl, rfl, rv⟩ .nil
  | _, _, .cons hq t => .cons hq (np_new rv t)
theorem np_put {k : NestedKey} {b : Addr} {v : V} {u : Value} (rv : RelV v u) {kvs : NV} {xs : List (NestedKey × Addr × Value)} (h : Paired NP kvs xs) : Paired NP (nPut kvs k b v) (storedH xs k b u) := by
  unfold nPut storedH
  rw [(np_at (k := k) h).1]
  cases nHas kvs k with
  | true => exact np_old rv h
  | false => exact np_new rv h
theorem nPut_len {k : NestedKey} {b : Addr} {v : V} {kvs : NV} : (nPut kvs k b v).length ≤ kvs.length + 1 := by
  unfold nPut
  split <;> simp
theorem room8 {k : Nat} (gd : Gd k X) : (nestedKind X.prog X.w).room X.A.in1 := by
  have := gd.r.un
  show X.A.units + 1 + 8 < cLine
  omega
def rInN (X : Cx) (b : Bool) : R2 := fun x y H Q => ∃ a c kvs k, x = .ref c ∧ y = .ref a ∧ NDict X H a kvs ∧ (∀ p ∈ kvs, NkAt X H p.2.1 p.1) ∧ NkAt X H c k ∧ Q (.bl (nHas kvs k != b)) H
theorem op_inN {k : Nat} (gd : Gd k X) : OpR X (compareOp .In) (rInN X false) := by
  intro pins s σ H x y v u Q I rx ry h
  obtain ⟨a, c, kvs, k, rfl, rfl, hr, hk, hc, q⟩ := h
  cases rx
  cases ry
  obtain ⟨_, hd, xs, pr, hm⟩ := dn_rd I hr hk
  refine wpAny_in_heap (room8 gd) (hc pins σ s I) hd hm ⟨.bl _, H, I.tok _, rfl, ?_⟩
  rw [(np_at pr).1]
  rw [Bool.bne_false] at q
  exact q
theorem op_ninN {k : Nat} (gd : Gd k X) : OpR X (compareOp .NotIn) (rInN X true) := by
  intro pins s σ H x y v u Q I rx ry h
  obtain ⟨a, c, kvs, k, rfl, rfl, hr, hk, hc, q⟩ := h
  cases rx
  cases ry
  obtain ⟨_, hd, xs, pr, hm⟩ := dn_rd I hr hk
  refine wpAny_notIn_heap (room8 gd) (hc pins σ s I) hd hm ⟨.bl _, H, I.tok _, rfl, ?_⟩
  rw [(np_at pr).1]
  rw [Bool.bne_true] at q
  exact q
def rIxN (X : Cx) : R2 := fun x y H Q => ∃ a c kvs k v, x = .ref a ∧ y = .ref c ∧ NDict X H a kvs ∧ (∀ p ∈ kvs, NkAt X H p.2.1 p.1) ∧ NkAt X H c k ∧ nGet kvs k = some v ∧ Q v H
theorem ix_N {k : Nat} (gd : Gd k X) : IxR X (rIxN X) := by
  intro value slice pins s σ H x y v u Q I rx ry h hs
  obtain ⟨a, c, kvs, k, z, rfl, rfl, hr, hk, hc, hz, q⟩ := h
  cases rx
  cases ry
  obtain ⟨_, hd, xs, pr, hm⟩ := dn_rd I hr hk
  obtain ⟨w, hw, rw'⟩ := (np_at (k := k) pr).2 z hz
  exact PyProof.Rows.subscriptTail_builtinR (x := w.2) hm.typeIs PySem.F.slot_dict_getitem.lookup (wpAny_getItem_heap (room8 gd) (hc pins σ s I) hm hw ⟨rfl, z, H, I.tok _, rw', q⟩) hs
/-- d[k], flat keys -/
def rIxF : R2 := fun x y H Q => ∃ a kvs κ v, x = .ref a ∧ Rd H a (.dK kvs) ∧ y = kV κ ∧ valV kvs κ = some v ∧ Q v H
theorem ix_F : IxR X rIxF := by
  intro value slice pins s σ H x y v u Q I rx ry h hs
  obtain ⟨a, kvs, κ, z, rfl, hr, rfl, hz, q⟩ := h
  cases rx
  obtain ⟨_, hd, vs, rel, dd⟩ := dk_rd I.hok hr
  obtain ⟨w', hw, rw'⟩ := RelO.some_of (v := z) (o := valueAt vs κ) (by rw [← hz]; exact rel.val κ)
  exact subscriptTail_builtinR (x := w') dd.typeIs PySem.F.slot_dict_getitem.lookup (wpAny_getItem_of (kV_is ry) dd.mapOf hw ⟨rfl, z, H, I.tok _, rw', q⟩) hs
def rInF (b : Bool) : R2 := fun x y H Q => ∃ a kvs κ, x = kV κ ∧ y = .ref a ∧ Rd H a (.dK kvs) ∧ Q (.bl ((valV kvs κ).isSome != b)) H
theorem op_inF : OpR X (compareOp .In) (rInF false) := by
  intro pins s σ H x y v u Q I rx ry h
  obtain ⟨a, kvs, κ, rfl, rfl, hr, q⟩ := h
  cases ry
  obtain ⟨_, hd, vs, rel, dd⟩ := dk_rd I.hok hr
  refine wpAny_in_of (kV_is rx) hd dd.mapOf ⟨.bl _, H, I.tok _, rfl, ?_⟩
  rw [← (rel.val κ).isSome_eq]
  rw [Bool.bne_false] at q
  exact q
theorem op_ninF : OpR X (compareOp .NotIn) (rInF true) := by
  intro pins s σ H x y v u Q I rx ry h
  obtain ⟨a, kvs, κ, rfl, rfl, hr, q⟩ := h
  cases ry
  obtain ⟨_, hd, vs, rel, dd⟩ := dk_rd I.hok hr
  refine wpAny_notIn_of (kV_is rx) hd dd.mapOf ⟨.bl _, H, I.tok _, rfl, ?_⟩
  rw [← (rel.val κ).isSome_eq]
  rw [Bool.bne_true] at q
  exact q
/-- d[k] = v -/
def rPutF : TSet := fun o i v H Q => ∃ a kvs κ, o = .ref a ∧ i = kV κ ∧ H a = some (.dK kvs) ∧ kvs.length < sizeLine ∧ Q (upd H a (.dK (putK kvs κ v)))
theorem set_F {k : Nat} (gd : Gd k X) : PSet X rPutF := by
  intro pins s σ H o i v ov iv u Q I ro ri rv h
  obtain ⟨a, kvs, κ, rfl, rfl, hr, hz, q⟩ := h
  cases ro
  have := gd.r.un
  exact d_setItem (by omega) I (DPut.k hr hz) ri rv fun s' I' => ⟨_, I', q⟩
def rPutN (X : Cx) : TSet := fun o i v H Q => ∃ a c kvs k, o = .ref a ∧ i = .ref c ∧ (H a = some (dnO (gx X) a kvs) ∨ (kvs = [] ∧ H a = some (.dK []))) ∧ (∀ p ∈ kvs, NkAt X H p.2.1 p.1) ∧ NkAt X H c k ∧ kvs.length < sizeLine ∧ Q (upd H a (dnO (gx X) a (nPut kvs k c v)))
theorem dn_ok {P : Program} {w : World} {K : PySem.W.Frag} {h : Heap} {a : Addr} {kvs : NV} {xs : List (NestedKey × Addr × Value)} {H' : Hp} (hz : kvs.length ≤ sizeLine) (hd : (a == sysModules) = false) (pr : Paired NP kvs xs) {ob : Obj} {es : Array DictEntry} {ep : Nat} (h1 : h.get? a = some ob) (h2 : ob.ExactDict) (h3 : ob.data = .dict es ep)
    (h4 : es.toList = xs.map (entryOfKey (nestedKind P w))) (h5 : (xs.map (·.1)).Nodup) : ObjOk P w H' h a (dnO ⟨P, w, K⟩ a kvs) := by
  refine ⟨⟨hz, hd, xs, pr, ob, es, ep, h1, h2, h3, h4, h5⟩, ⟨ob, h1⟩, ?_⟩
  rintro g1 g2 ⟨hz, hd, xs, pr, ob, es, ep, h1, h2, h3, h4, h5⟩ k
  exact ⟨hz, hd, xs, pr, ob, es, ep, k _ h1, h2, h3, h4, h5⟩
theorem set_N {k : Nat} (gd : Gd k X) : PSet X (rPutN X) := by
  intro pins s σ H o i v ov iv u Q I ro ri rv h
  obtain ⟨a, c, kvs, k, rfl, rfl, hr, hk, hc, hz, q⟩ := h
  cases ro
  cases ri
  have key : ∃ xs, (a == sysModules) = false ∧ Paired NP kvs xs ∧ s.heap.DictOfH (nestedKind X.prog X.w) a xs := by
    obtain ⟨_, hd, xs, pr, hm⟩ := dn_rd I (hr.elim (fun h => .inl (.inl h)) fun h => .inr ⟨h.1, .inl h.2⟩) hk
    exact ⟨xs, hd, pr, hm⟩
  obtain ⟨xs, hd, pr, hm⟩ := key
  have hl := Paired.length pr
  refine wpAny_setItem_heap (hsz := by omega) (room8 gd) (hc pins σ s I) hm fun h' dd' hs => ⟨_, ?_, q⟩
  obtain ⟨ob, es, ep, h1, h2, h3, h4, _, h5⟩ := dd'
  refine d_write I ?_ hs ⟨ob, h1⟩ (dn_ok (by have := nPut_len (k := k) (b := c) (v := v) (kvs := kvs); omega) hd (np_put rv pr) h1 h2 h3 h4 h5)
  rcases hr with hr | ⟨_, hr⟩ <;> rw [hr] <;> exact True.intro
end
end L4
namespace L4
open PySem PySem.Spec PyProof.Rows L2
section
variable {X : Cx} {g : G} {T T' : Tk} {H : Hp} {m : M} {Q : VK} {pos p apos : Pos} {e o : Expr} {es : List Expr} {n : Nat} {x c nm : Str}
def dicO : O → Option (List D × List D)
  | .dic ks vs => some (ks, vs)
  | _ => none
def dicOf (m : M) : D → Option (List D × List D)
  | .dic ks vs => some (ks, vs)
  | .ref n => (m[n]?).bind dicO
  | _ => none
/-- a dict, as it is read -/
inductive DicR (X : Cx) (T : Tk) (H : Hp) (a : Addr) (ks vs : List D) : Prop
  | flat {kvs} : Rd H a (.dK kvs) → RepL (gx X) T H ks (kvs.map fun p => kV p.1) → RepL (gx X) T H vs (kvs.map Prod.snd) → DicR X T H a ks vs
  | nest {kvs} : Rd H a (dnO (gx X) a kvs) → (ks.map nkT = kvs.map (fun p => some p.1) ∧ kvs ≠ []) → RepL (gx X) T H ks (kvs.map fun p => .ref p.2.1) → RepL (gx X) T H vs (kvs.map fun p => p.2.2) → DicR X T H a ks vs
theorem dic_rep {d : D} {v : V} {ks vs : List D} (hm : RepH (gx X) T H m) (r : Rep (gx X) T H d v) (h : dicOf m d = some (ks, vs)) : ∃ a, v = .ref a ∧ DicR X T H a ks vs := by
  cases r with
  | dicF n f r q => cases h; exact ⟨_, rfl, .flat f r q⟩
  | dicN n f e r q => cases h; exact ⟨_, rfl, .nest f e r q⟩
  | ref e =>
    obtain ⟨o, h1, h2⟩ := Option.bind_eq_some_iff.mp h
    cases hm.at_ _ _ _ e h1 with
    | dicF f r q => cases h2; exact ⟨_, rfl, .flat (.inl f) r q⟩
    | dicN f k r q => cases h2; exact ⟨_, rfl, .nest (.inl f) k r q⟩
    | _ => cases h2
  | _ => cases h
def headOk (ks : List D) (k : D) : Bool := match ks with
  | [] => isFlat k || (nkT k).isSome
  | a :: _ => if isFlat a then isFlat k else (nkT k).isSome
theorem flat_key {d : D} (h : isFlat d = true) : ∃ κ, d = keyD κ := by
  cases d with
  | int i => exact ⟨.inl i, rfl⟩
  | str i => exact ⟨.inr i, rfl⟩
  | _ => cases h
theorem flatOf_key (κ : Key) : isFlat (keyD κ) = true := by cases κ <;> rfl
theorem nk_notflat {d : D} {k : NestedKey} (h : nkT d = some k) : isFlat d = false := by
  cases d with
  | tup ds => rfl
  | _ => cases h
/-- a key and a dict: both flat, or both nested -/
theorem dic_cases {a : Addr} {ks vs : List D} {k : D} {v : V} (r : DicR X T H a ks vs) (hk : headOk ks k = true) (rk : Rep (gx X) T H k v) :
    (∃ kvs κ, Rd H a (.dK kvs) ∧ RepL (gx X) T H ks (kvs.map fun p => kV p.1) ∧ RepL (gx X) T H vs (kvs.map Prod.snd) ∧ k = keyD κ ∧ v = kV κ) ∨
    (∃ kvs b κ, NDict X H a kvs ∧ (ks.map nkT = kvs.map (fun p => some p.1)) ∧ RepL (gx X) T H ks (kvs.map fun p => .ref p.2.1) ∧ RepL (gx X) T H vs (kvs.map fun p => p.2.2) ∧ v = .ref b ∧ nkT k = some κ ∧ NkAt X H b κ ∧ (Rd H a (dnO (gx X) a kvs) ∨ kvs = [] ∧ Rd H a (.dK []))) := by
  have nested : ∀ κ, nkT k = some κ → ∃ b, v = .ref b ∧ NkAt X H b κ := by
    intro κ h
    cases k with
    | tup ds => cases rk with
      | tup f r => exact ⟨_, rfl, nkAt h (.tup f r)⟩
    | _ => cases h
  have flat : isFlat k = true → ∃ κ, k = keyD κ ∧ v = kV κ := by
    intro h
    obtain ⟨κ, rfl⟩ := flat_key h
    cases κ with
    | inl i => cases rk; exact ⟨.inl i, rfl, rfl⟩
    | inr i => cases rk; exact ⟨.inr i, rfl, rfl⟩
  cases r with
  | @flat kvs h r q =>
    by_cases hf : isFlat k = true
    · obtain ⟨κ, e1, e2⟩ := flat hf
      exact .inl ⟨kvs, κ, h, r, q, e1, e2⟩
    · cases kvs with
      | nil =>
        cases r
        cases q
        unfold headOk at hk
        simp only [Bool.not_eq_true] at hf
        rw [hf, Bool.false_or] at hk
        obtain ⟨κ, hκ⟩ := Option.isSome_iff_exists.mp hk
        obtain ⟨b, e1, e2⟩ := nested κ hκ
        exact .inr ⟨[], b, κ, .inr ⟨rfl, h⟩, rfl, .nil, .nil, e1, hκ, e2, .inr ⟨rfl, h⟩⟩
      | cons p kvs =>
        have := repL_keys r
        subst this
        unfold headOk at hk
        simp only [List.map_cons, flatOf_key, if_true] at hk
        exact absurd hk hf
  | @nest kvs h e r q =>
    cases kvs with
    | nil => exact absurd rfl e.2
    | cons p kvs =>
      cases r with
      | cons r1 r2 =>
        have e1 := e.1
        simp only [List.map_cons, List.cons.injEq] at e1
        simp only [headOk, nk_notflat e1.1, Bool.false_eq_true, if_false] at hk
        obtain ⟨κ, hκ⟩ := Option.isSome_iff_exists.mp hk
        obtain ⟨b, e2, e3⟩ := nested κ hκ
        exact .inr ⟨p :: kvs, b, κ, .inl h, e.1, .cons r1 r2, q, e2, hκ, e3, .inl h⟩
theorem nest_get {k : D} {κ : NestedKey} (hk : nkT k = some κ) : ∀ {kvs : NV} {ks vs : List D}, ks.map nkT = kvs.map (fun p => some p.1) → RepL g T H vs (kvs.map fun p => p.2.2) → (∀ d, dGet ks vs k = some d → ∃ v, nGet kvs κ = some v ∧ Rep g T H d v) ∧ nHas kvs κ = dHas ks k
  | [], [], _, _, r => by cases r; exact ⟨fun d h => (by cases h), rfl⟩
  | [], _ :: _, _, h, _ => by cases h
  | _ :: _, [], _, h, _ => by cases h
  | p :: kvs, a :: ks, _, h, r => by
    simp only [List.map_cons, List.cons.injEq] at h
    cases r with
    | cons r1 r2 =>
      obtain ⟨h1, h2⟩ := nest_get hk h.2 r2
      have ek : eqK a k = decide (p.1 = κ) := eqK_nk a k _ _ (nkT_nk h.1).1 (nkT_nk hk).1
      by_cases e : p.1 = κ
      · rw [decide_eq_true e] at ek
        refine ⟨fun d hd => ?_, by simp [nHas, dHas, ek, e]⟩
        simp only [dGet, ek, if_true] at hd
        cases hd
        exact ⟨p.2.2, by simp [nGet, List.find?_cons, e], r1⟩
      · rw [decide_eq_false e] at ek
        refine ⟨fun d hd => ?_, ?_⟩
        · simp only [dGet, ek] at hd
          obtain ⟨v, e1, q⟩ := h1 d hd
          exact ⟨v, by simp only [nGet, List.find?_cons, e, decide_false]; exact e1, q⟩
        · simp only [nHas, dHas, List.any_cons, ek, e, decide_false, Bool.false_or]
          exact h2
theorem nest_put {k d : D} {κ : NestedKey} {b : Addr} {v : V} (hk : nkT k = some κ) (rk : Rep g T H k (.ref b)) (rv : Rep g T H d v) {kvs : NV} {ks vs : List D} (h : ks.map nkT = kvs.map (fun p => some p.1)) (r : RepL g T H ks (kvs.map fun p => .ref p.2.1)) (q : RepL g T H vs (kvs.map fun p => p.2.2)) :
    (dPutK ks k).map nkT = (nPut kvs κ b v).map (fun p => some p.1) ∧ RepL g T H (dPutK ks k) ((nPut kvs κ b v).map fun p => .ref p.2.1) ∧ RepL g T H (dPutV ks vs k d) ((nPut kvs κ b v).map fun p => p.2.2) := by
  have hh := (nest_get hk h q).2
  unfold dPutK dPutV nPut
  rw [hh]
  cases dHas ks k with
  | false =>
    simp only [Bool.false_eq_true, if_false, List.map_append, List.map_cons, List.map_nil]
    exact ⟨by rw [h, hk], r.append (.cons rk .nil), q.append (.cons rv .nil)⟩
  | true =>
    simp only [if_true]
    have key : ∀ {kvs : NV} {ks vs : List D}, ks.map nkT = kvs.map (fun p => some p.1) → RepL g T H vs (kvs.map fun p => p.2.2) → (kvs.map fun p => if p.1 = κ then (p.1, p.2.1, v) else p).map (fun p => some p.1) = kvs.map (fun p => some p.1) ∧
        (kvs.map fun p => if p.1 = κ then (p.1, p.2.1, v) else p).map (fun p => V.ref p.2.1) = kvs.map (fun p => V.ref p.2.1) ∧ RepL g T H (dRep ks vs k d) ((kvs.map fun p => if p.1 = κ then (p.1, p.2.1, v) else p).map fun p => p.2.2) := by
      intro kvs
      induction kvs with
      | nil => intro ks vs h q; cases q; cases ks with
        | nil => exact ⟨rfl, rfl, .nil⟩
        | cons _ _ => cases h
      | cons p kvs ih =>
        intro ks vs h q
        cases ks with
        | nil => cases h
        | cons a ks =>
          simp only [List.map_cons, List.cons.injEq] at h
          cases q with
          | cons q1 q2 =>
            obtain ⟨h1, h2, h3⟩ := ih h.2 q2
            have ek : eqK a k = decide (p.1 = κ) := eqK_nk a k _ _ (nkT_nk h.1).1 (nkT_nk hk).1
            by_cases e : p.1 = κ
            · rw [decide_eq_true e] at ek
              simp only [List.map_cons, if_pos e, dRep, ek, if_true, h1, h2]
              exact ⟨trivial, trivial, .cons rv h3⟩
            · rw [decide_eq_false e] at ek
              simp only [List.map_cons, if_neg e, dRep, ek, h1, h2]
              exact ⟨trivial, trivial, .cons q1 h3⟩
    obtain ⟨h1, h2, h3⟩ := key h q
    exact ⟨by rw [h1]; exact h, by rw [h2]; exact r, h3⟩
def inAB (m : M) (x y : D) : Option Bool := match dicOf m y with
  | some (ks, _) => if headOk ks x then some (dHas ks x) else none
  | none => inB m x y
def inA (m : M) (x y : D) : Option D := (inAB m x y).map .bl
def ninA (m : M) (x y : D) : Option D := (inAB m x y).map fun b => .bl (!b)
theorem op_inA {k : Nat} (gd : Gd k X) : OpD X (compareOp .In) inA := by
  obtain ⟨r0, h0, q0⟩ := (op_in' (X := X) gd).ex
  refine ⟨_, orR h0 (orR op_inF (op_inN gd)), fun T H m x y v u d hm rx ry hf Q k => ?_⟩
  obtain ⟨b, hb, rfl⟩ := Option.map_eq_some_iff.mp hf
  unfold inAB at hb
  split at hb
  · next ks vs hd =>
    obtain ⟨hk, hb⟩ := ite_some hb
    cases hb
    obtain ⟨a, rfl, dr⟩ := dic_rep hm ry hd
    rcases dic_cases dr hk rx with ⟨kvs, κ, h1, h2, h3, rfl, rfl⟩ | ⟨kvs, b, κ, h1, h2, h3, h4, rfl, h5, h6, _⟩
    · refine .inr (.inl ⟨a, kvs, κ, rfl, rfl, h1, ?_⟩)
      rw [(flat_get h3).2, Bool.bne_false, ← repL_keys h2]
      exact k.now hm (.bl _)
    · refine .inr (.inr ⟨a, b, kvs, κ, rfl, rfl, h1, nkAts h2 h3, h6, ?_⟩)
      rw [(nest_get h5 h2 h4).2, Bool.bne_false]
      exact k.now hm (.bl _)
  · exact .inl (q0 T H m x y v u _ hm rx ry (by unfold inD; rw [hb]; rfl) Q k)
theorem op_ninA {k : Nat} (gd : Gd k X) : OpD X (compareOp .NotIn) ninA := by
  obtain ⟨r0, h0, q0⟩ := (op_nin' (X := X) gd).ex
  refine ⟨_, orR h0 (orR op_ninF (op_ninN gd)), fun T H m x y v u d hm rx ry hf Q k => ?_⟩
  obtain ⟨b, hb, rfl⟩ := Option.map_eq_some_iff.mp hf
  unfold inAB at hb
  split at hb
  · next ks vs hd =>
    obtain ⟨hk, hb⟩ := ite_some hb
    cases hb
    obtain ⟨a, rfl, dr⟩ := dic_rep hm ry hd
    rcases dic_cases dr hk rx with ⟨kvs, κ, h1, h2, h3, rfl, rfl⟩ | ⟨kvs, b, κ, h1, h2, h3, h4, rfl, h5, h6, _⟩
    · refine .inr (.inl ⟨a, kvs, κ, rfl, rfl, h1, ?_⟩)
      rw [(flat_get h3).2, Bool.bne_true, ← repL_keys h2]
      exact k.now hm (.bl _)
    · refine .inr (.inr ⟨a, b, kvs, κ, rfl, rfl, h1, nkAts h2 h3, h6, ?_⟩)
      rw [(nest_get h5 h2 h4).2, Bool.bne_true]
      exact k.now hm (.bl _)
  · exact .inl (q0 T H m x y v u _ hm rx ry (by unfold ninD; rw [hb]; rfl) Q k)
def ixA (m : M) (x y : D) : Option D := match dicOf m x with
  | some (ks, vs) => if headOk ks y then dGet ks vs y else none
  | none => ixD m x y
theorem de_ixA {a b : Expr} {fa fb : EF} {k : Nat} (gd : Gd k X) (ha : DE X a fa) (hb : DE X b fb) (hs : PlainIx b := by exact fun _ _ => rfl) : DE X (.Subscript a b pos) (eOp ixA fa fb) := by
  obtain ⟨ta, pa, ra⟩ := ha.ex; obtain ⟨tb, pb, rb⟩ := hb.ex
  refine ⟨_, pe_ix (ixR_or (ixR_or ix_tup (ixR_or ix_str ix_list)) (ixR_or ix_F (ix_N gd))) pa pb hs, rf_op (fun T H m x y v u d hm rx ry hf Q k => ?_) ra rb⟩
  unfold ixA at hf
  split at hf
  · next ks vs hd =>
    obtain ⟨hk, hf⟩ := ite_some hf
    obtain ⟨a, rfl, dr⟩ := dic_rep hm rx hd
    rcases dic_cases dr hk ry with ⟨kvs, κ, h1, h2, h3, rfl, rfl⟩ | ⟨kvs, b, κ, h1, h2, h3, h4, rfl, h5, h6, _⟩
    · rw [repL_keys h2] at hf
      obtain ⟨w, e1, q⟩ := (flat_get h3).1 d hf
      exact .inr (.inl ⟨a, kvs, κ, w, rfl, h1, rfl, e1, k.now hm q⟩)
    · obtain ⟨w, e1, q⟩ := (nest_get h5 h2 h4).1 d hf
      exact .inr (.inr ⟨a, b, kvs, κ, w, rfl, rfl, h1, nkAts h2 h3, h6, e1, k.now hm q⟩)
  · left
    rcases ixD_some hf with ⟨ds, i, rfl, rfl, h⟩ | ⟨z, i, c, rfl, rfl, hz, h, rfl⟩ | ⟨ds, i, h1, rfl, h⟩
    · obtain ⟨p, vs, rfl, hx, r1⟩ := tup_rep rx
      cases ry
      obtain ⟨w, e, q⟩ := r1.atI h
      exact .inl ⟨p, vs, i, w, rfl, rfl, hx, e, k.now hm q⟩
    · cases rx; cases ry
      exact .inr (.inl ⟨z, i, c, rfl, rfl, hz, h, k.now hm (.str _)⟩)
    · obtain ⟨p, vs, rfl, hx, r1⟩ := lstR_rep hm rx h1
      cases ry
      obtain ⟨w, e, q⟩ := r1.atI h
      exact .inr (.inr ⟨p, vs, i, w, rfl, rfl, hx, e, k.now hm q⟩)
def orS (r q : TSet) : TSet := fun o i v H Q => r o i v H Q ∨ q o i v H Q
theorem set_or {r q : TSet} (h1 : PSet X r) (h2 : PSet X q) : PSet X (orS r q) := by
  intro pins s σ H o i v ov iv u Q I ro ri rv h
  rcases h with h | h
  · exact h1 pins s σ H o i v ov iv u Q I ro ri rv h
  · exact h2 pins s σ H o i v ov iv u Q I ro ri rv h
def setO (o : O) (y d : D) : Option O := match o, y with
  | .lst ds, .int k => (L2.ixN ds.length k).map fun j => .lst (ds.set j d)
  | .dic ks vs, y => if headOk ks y ∧ ks.length < sizeLine then some (.dic (dPutK ks y) (dPutV ks vs y d)) else none
  | _, _ => none
def setM (m : M) (x y d : D) : Option M := match x with
  | .ref n => ((m[n]?).bind fun o => setO o y d).map fun o => m.set n o
  | _ => none
def gSetA (o i : EF) : GF := fun d ρ m => bd (o ρ m) fun x m1 => bd (i ρ m1) fun y m2 => (setM m2 x y d).map fun m3 => (ρ, m3)
theorem dg_subA {i : Expr} {fo fi : EF} {k : Nat} (gd : Gd k X) (ho : DE X o fo) (hi : DE X i fi) (hx : ∀ v, assign (.Subscript o i pos) X.env v = (do
      let ov ← holding [v] (eval o X.env)
      let iv ← holding [v, ov] (eval i X.env)
      standAt pos
      holding [v, ov, iv] (setItem ov iv v)
      release [v, ov, iv] []) := by intro _; rfl) : DG X (.Subscript o i pos) (gSetA fo fi) := by
  obtain ⟨to, po, ro⟩ := ho.ex; obtain ⟨ti, pi, ri⟩ := hi.ex
  refine ⟨_, pg_sub po pi (set_or set_list (set_or (set_F gd) (set_N gd))) hx, fun T σ H ρ m d v ρ' m' hm hs r hf Q k => ?_⟩
  obtain ⟨x, m1, e1, hf1⟩ := bd_some hf
  obtain ⟨y, m2, e2, hf2⟩ := bd_some hf1
  clear hf hf1
  refine ro T σ H ρ m x m1 hm hs e1 _ fun u T1 H1 l1 hm1 r1 => ?_
  refine ri T1 σ H1 ρ m1 y m2 hm1 (hs.le l1) e2 _ fun w T2 H2 l2 hm2 r2 => ?_
  obtain ⟨m3, h3, h4⟩ := Option.map_eq_some_iff.mp hf2
  obtain ⟨rfl, rfl⟩ : ρ = ρ' ∧ m3 = m' := by injection h4 with a b; exact ⟨a, b⟩
  have r1' := r1.le l2
  have rd := r.le (l1.trans l2)
  have fin : ∀ H3, Le T2 H2 T2 H3 → RepH (gx X) T2 H3 m3 → Q σ H3 := fun H3 l hm3 => k σ T2 H3 (l1.trans (l2.trans l)) hm3 (hs.le (l1.trans (l2.trans l)))
  cases r1' with
  | @ref n a ea =>
    obtain ⟨ob', h5, h6⟩ := Option.map_eq_some_iff.mp h3
    obtain ⟨ob, h7, h8⟩ := Option.bind_eq_some_iff.mp h5
    subst h6
    have hrep := hm2.at_ _ _ _ ea h7
    cases ob with
    | lst ds =>
      cases hrep with
      | @lst _ vs hH rl =>
        cases r2 with
        | int kk =>
          obtain ⟨j, hj, rfl⟩ := Option.map_eq_some_iff.mp h8
          refine .inl ⟨a, vs, kk, j, rfl, rfl, hH, by rw [← rl.length]; exact hj, ?_⟩
          obtain ⟨l3, hm3⟩ := hm2.put (u := .lst (vs.set j v)) (o := .lst (ds.set j d)) ea fun l => .lst upd_same ((rl.le l).setAt (rd.le l))
          exact fin _ l3 hm3
        | _ => cases h8
    | dic ks vs =>
      have h8' : (if headOk ks y = true ∧ ks.length < sizeLine then some (O.dic (dPutK ks y) (dPutV ks vs y d)) else none) = some ob' := by
        cases y <;> exact h8
      obtain ⟨⟨hk, hz⟩, h9⟩ := ite_some h8'
      cases h9
      have dr : DicR X T2 H2 a ks vs := by
        cases hrep with
        | dicF f r q => exact .flat (.inl f) r q
        | dicN f k r q => exact .nest (.inl f) k r q
      have nofrz : ∀ u, Rd H2 a u → Mu u ∨ True → (∀ ob w, H2 a = some (.frz ob w) → False) → H2 a = some u := fun u h _ nf => by
        rcases h with h | ⟨ob, h⟩
        · exact h
        · exact (nf ob u h).elim
      have nf : ∀ ob w, H2 a = some (.frz ob w) → False := fun ob w h => by
        obtain ⟨u, e, q⟩ := hrep.has
        rw [h] at e
        cases e
        exact q
      clear h3
      rcases dic_cases dr hk r2 with ⟨kvs, κ, h1, h2, h3, rfl, rfl⟩ | ⟨kvs, b, κ, h1, h2, h3, h4, rfl, h5, h6, hor⟩
      · have hH := nofrz _ h1 (.inr trivial) nf
        refine .inr (.inl ⟨a, kvs, κ, rfl, rfl, hH, by have := h2.length; simp at this; omega, ?_⟩)
        obtain ⟨l3, hm3⟩ := hm2.put (u := .dK (putK kvs κ v)) (o := .dic (dPutK ks (keyD κ)) (dPutV ks vs (keyD κ) d)) ea fun l => by
          obtain ⟨z1, z2⟩ := flat_put (κ := κ) (h2.le l) (h3.le l) (rd.le l)
          exact .dicF upd_same z1 z2
        exact fin _ l3 hm3
      · refine .inr (.inr ⟨a, b, kvs, κ, rfl, rfl, hor.elim (fun h => .inl (nofrz _ h (.inr trivial) nf)) (fun h => .inr ⟨h.1, nofrz _ h.2 (.inr trivial) nf⟩), nkAts h2 h3, h6, by have := h3.length; simp at this; omega, ?_⟩)
        obtain ⟨l3, hm3⟩ := hm2.put (u := dnO (gx X) a (nPut kvs κ b v)) (o := .dic (dPutK ks y) (dPutV ks vs y d)) ea fun l => by
          obtain ⟨z1, z2, z3⟩ := nest_put h5 (r2.le l) (rd.le l) h2 (h3.le l) (h4.le l)
          refine .dicN upd_same ⟨z1, ?_⟩ z2 z3
          unfold nPut
          split
          · next hh => intro e; cases kvs with
            | nil => cases hh
            | cons _ _ => cases e
          · simp
        exact fin _ l3 hm3
    | ins c ns vs => cases y <;> cases h8
  | _ => cases h3
end
end L4
namespace L4
open PySem PySem.Spec PyProof.Rows L2
structure PCm (P : Program) (w : World) (K : PySem.W.Frag) (mg : Str → Option Value) (base : Heap) (k : Nat) (c m : Str) (n : Nat) (F : List D → Option D) : Prop where
  len : ∀ ds d, F ds = some d → ds.length = n + 1
  ex : ∃ p f fd ps, FnG P w K mg base CX0 k f fd ps (spP ⟨P, w, K⟩ (n + 1) F) ∧ ClX.CRead K (He.ga K c) (.type "type") ∧ ClX.CMet K (He.ga K c) (.type "type") m p f ∧ Binds K fd ps []
section
variable {P : Program} {w : World} {K : PySem.W.Frag} {mg : Str → Option Value} {base : Heap} {k : Nat} {x q m c p0 : Str} {ps N : List Str} {st : Stmt} {b : SF}
theorem pcm_md (D : L3.Cmd K (He.ga K c) m q st) (S : FnScope N (p0 :: ps) (defScope st))
    (hb : ∀ (kV doc pm : Value) (an : Option Addr) (cdv ct : Value) (us : List Value), us.length = (p0 :: ps).length → bindArgs (PySem.W.fnOf m q (defArgs st) (defBody st) (defScope st) .none kV doc pm an cdv ct) ⟨us, []⟩ = pure ((p0 :: ps).zip us))
    (hbody : ∀ (f : Addr) (cdv : Value) (A : Around) (outer : List Env) (s : Shared) (H : Hp) (E : XK), Gd k (cxOf CX0 P w K mg base N q (defScope st) f cdv A outer s H E).nox →
      DSs (cxOf CX0 P w K mg base N q (defScope st) f cdv A outer s H E).nox (defBody st) b) : PCm P w K mg base (k + 1) c m ps.length (runP (ps.length + 1) N.length b) := by
  obtain ⟨p, g, fd, F, r, cm⟩ := D.ex
  exact ⟨fun ds d h => runP_len h, p, g, fd, p0 :: ps, fnG_all F S (fun vs H Q E h => h.1) (fun r => spP_run r) (hbody g), r, cm, F.binds hb⟩
end
section
variable {X : Cx} {g : G} {T T' : Tk} {H : Hp} {m : M} {Q : VK} {pos p apos : Pos} {e o : Expr} {es : List Expr} {k n : Nat} {x c nm : Str}
theorem FnG.code {f : Addr} {fd : FuncData} {ps : List Str} {sp : Sp} {pins : List (Addr × Obj)} {σ : L2.St} {s : Shared} {us : List Value} {vs : List V} (F : FnG X.prog X.w X.K X.mg X.base CX0 k f fd ps sp) (hr : Gd k X) (hb : Binds X.K fd ps []) (I : Inv X pins σ H s) (r : Vals vs us) (h : sp vs H Q E0) :
    codeAny (model X.prog X.w) X.A (.call (.ref f) ⟨us, []⟩) (fun r s' => match r with | .ok (.ret v) => EP X pins σ Q v s' | .ok _ => False | .error e => X.xe e s') s := by
  have hl : us.length = ps.length := by rw [← r.length]; exact F.len _ _ _ _ h
  have b := hb s us I.kIn (by rw [List.append_nil]; exact hl)
  rw [List.append_nil] at b
  refine codeAny_mono (F.run X.A X.stack s H ⟨us, []⟩ us vs Q E0 hr.g hr.r I.env0 b r h) fun r s' hq => ?_
  match r, hq with
  | .error _, z => exact z.elim
  | .ok (.ret u), z => exact I.after z
theorem de_pcm {pl : Sem Bool} {F : List D → Option D} {f : AF} {p1 : Pos} (hF : PCm X.prog X.w X.K X.mg X.base k c nm n F) (gd : Gd k X) (hg : Gl X c) (hm : X.mg c = some (.ref (He.ga X.K c))) (ha : DA X (e :: es) f)
    (hdb : (c == ("__debug__" : Str)) = false := by decide) (hst : starEach (e :: es) X.env = (false, eval e X.env) :: starEach es X.env := by rfl) (hpl : (backTo pos (starEach es X.env)).any (·.1) = false := by rfl)
    (ht : eval (.Call (.Attribute (.Name c p1) nm apos) (e :: es) [] pos) X.env = (do
      let ov ← eval (.Name c p1) X.env
      standAt apos.atName
      let (f, first) ← holding [ov] (getMethod ov nm pl)
      callWith pos f first (backTo pos (starEach (e :: es) X.env)) (backToKw pos (keywordEach [] X.env))) := by rfl) : DE X (.Call (.Attribute (.Name c p1) nm apos) (e :: es) [] pos) (eCall (callP fun ds => F (.glo c :: ds)) f) := by
  obtain ⟨q, fa, fd, ps, G, rd, cm, b⟩ := hF.ex
  obtain ⟨t, pa, ra⟩ := ha.ex
  refine ⟨tCB (fun vs H Q => spP (gx X) (n + 1) F (.ref (He.ga X.K c) :: vs) H Q E0) t, ⟨fun pins s σ H Q I h => ?_⟩, ?_⟩
  · refine PySem.W.methodCall_KW (pl := pl) (ld_glob I hg hm ?_ hdb) ht
    refine ClX.getmethcm_ok I rd cm fun s2 I2 => ClX.callwith_cm I2 (ClX.base_none I (Nat.le_refl _)) cm.fi (thn (pa.run pos _ s2 σ H _ I2 h) fun us s3 ⟨vs, H2, I3, rv, q2⟩ => ⟨⟨ClX.pin_at I3, I3.kIn⟩, ?_⟩) hst hpl
    exact thn (wpAny_call (PySem.W.method_call (ClX.pin_at I3) (G.code (vs := .ref (He.ga X.K c) :: vs) (us := .ref (He.ga X.K c) :: us) gd b I3 (.cons rfl rv) q2))) fun _ _ y => ClX.unpinE y
  · refine rf_call (fun T H m xs vs d hm r hf Q k => ?_) ra
    have z := rf_callP (g := gx X) (n := n) (F := fun ds => F (.glo c :: ds)) (fun ds d h => by have := hF.len _ _ h; simpa using this) T H m xs vs d hm r hf Q k
    obtain ⟨hl, ν, ds, d', h1, h2, h3, h4⟩ := z
    exact ⟨by simp [hl], ν, .glo c :: ds, d', h1, .cons (.glo c) h2, h3, h4⟩
/-- cls(*a, ..): a local that holds a class -/
def eNewPL (i : Nat) (c : Str) (F : List D → M → Option (D × M)) (a : AF) : EF := fun ρ m => match ρ.getD i none with
  | some (.glo c') => if c' = c then eCall (pureC (newP c F)) a ρ m else none
  | _ => none
theorem de_newPL {F : List D → M → Option (D × M)} {f : AF} {i : Nat} {e2 : Expr} {p2 : Pos} {a2 : Bool × Sem Value} {r2 : List (Bool × Sem Value)} (hF : MNw X.prog X.w X.K X.mg X.base k c n F) (gd : Gd (k + 1) X) (hN : X.N[i]? = some x) (hv : Vis X.env.scope x) (ha : DA X (.Starred e p2 :: e2 :: es) f)
    (hdb : (x == ("__debug__" : Str)) = false := by decide) (hcd : (x == ("__classdict__" : Str)) = false := by decide)
    (he : starEach (.Starred e p2 :: e2 :: es) X.env = (true, eval e X.env) :: a2 :: r2 := by rfl) : DE X (.Call (.Name x p) (.Starred e p2 :: e2 :: es) [] pos) (eNewPL i c F f) := by
  obtain ⟨fa, fd, ps, G, M, b⟩ := hF.ex
  obtain ⟨t, pa, ra⟩ := ha.ex
  have hc := G.make M gd b
  refine ⟨fun σ H Q => σ[i]? = some (some (.ref (He.ga X.K c))) ∧ tCB (fun vs H Q => ∀ x dx, H x = none → H dx = none → dx ≠ x → spM (gx X) n F (.ref x :: vs) (upd (upd H dx (.own x)) x (.ins (He.ga X.K c) dx [])) (fun v H2 => v = .non ∧ Q (.ref x) H2) E0) t σ H Q, ⟨fun pins s σ H Q I h => ?_⟩, fun T σ H ρ m d m' hm hs hf Q k => ?_⟩
  · obtain ⟨hs, ht⟩ := h
    refine wpAny_Call_Name_kw (thn ((pe_var (pos := p) hN hv hdb hcd).run pins s σ H (fun v H1 => v = .ref (He.ga X.K c) ∧ H1 = H) I ⟨_, hs, rfl, rfl⟩) fun u s1 ⟨v, H1, I1, r1, q1⟩ => ?_)
    obtain ⟨e1, e2⟩ := q1
    subst e1 e2
    cases r1
    have hrun := pa.run pos pins s1 σ _ _ I1 ht
    rw [he] at hrun
    show wpAny _ _ (callWith pos (.ref (He.ga X.K c)) [] (backTo pos (starEach (.Starred e p2 :: _ :: es) X.env)) []) _ _ _
    rw [he]
    refine PySem.W.ks_call (P := fun h => X.K.In h) rfl (PySem.W.keeps_K M.kp) (L3.evalArgs_star (thn hrun fun us s2 ⟨vs, H2, I2, r, q⟩ => ⟨I2.kIn, ?_⟩))
    exact hc pins s2 σ H2 vs us Q I2 r q
  · unfold eNewPL at hf
    split at hf
    · next c' hc' =>
      obtain ⟨ec, hf⟩ := ite_some hf
      subst ec
      obtain ⟨v, ev, rv⟩ := hs.at_ i (.glo c') (by
        rw [List.getD_eq_getElem?_getD] at hc'
        cases h : ρ[i]? with
        | none => rw [h] at hc'; cases hc'
        | some o => rw [h] at hc'; cases hc'; rfl)
      cases rv
      exact ⟨ev, rf_call (rf_newP hF.len) ra T σ H ρ m d m' hm hs hf Q k⟩
    · cases hf
def allD : M → List D → Option D
  | m, [x] => ((lstR m x).bind bools).map fun bs => .bl (bs.all id)
  | _, _ => none
theorem call_all' (hc : X.calm = true) : CallD X (.builtin "all") allD := ⟨_, cr_all hc, fun T H m xs vs d hm r hf Q k => by
  unfold allD at hf; split at hf
  · obtain ⟨bs, h1, rfl⟩ := Option.map_eq_some_iff.mp hf
    obtain ⟨ds, h2, h3⟩ := Option.bind_eq_some_iff.mp h1
    obtain ⟨v, rfl, q⟩ := r.one
    obtain ⟨a, ws, rfl, hx, rl⟩ := lstR_rep hm q h2
    rw [bools_rep h3 rl] at hx
    exact ⟨a, bs, rfl, hx, k.now hm (.bl _)⟩
  · cases hf⟩
def tblGet (tb : List (Str × D)) (y : D) : Option D := match y with
  | .str z => tb.lookup z
  | _ => none
structure Tbl (X : Cx) (x : Str) (tb : List (Str × D)) : Prop where
  ex : ∃ es n, KDict X.K X.w (He.ga X.K x) es n
  val : ∀ q ∈ tb, ∃ u v, PySem.W.nsIn X.K (He.ga X.K x) q.1 = some (some u) ∧ RelV v u ∧ ∀ T H, Rep (gx X) T H q.2 v
  no : ∀ z, tb.lookup z = none → PySem.W.nsIn X.K (He.ga X.K x) z = some none
theorem lookup_mem {tb : List (Str × D)} {z : Str} {d : D} (h : tb.lookup z = some d) : (z, d) ∈ tb := by
  induction tb with
  | nil => cases h
  | cons p tb ih =>
    simp only [List.lookup] at h
    split at h
    · next hz => cases h; rw [beq_iff_eq.mp hz]; exact List.mem_cons_self ..
    · exact List.mem_cons_of_mem _ (ih h)
def eTbl (tb : List (Str × D)) (a : EF) : EF := fun ρ m => bd (a ρ m) fun y m1 => pu (tblGet tb y) m1
theorem de_tbl {tb : List (Str × D)} {b : Expr} {fb : EF} {p1 : Pos} (ht : Tbl X x tb) (hg : Gl X x) (hm : X.mg x = some (.ref (He.ga X.K x))) (hb : DE X b fb) (hd : (x == ("__debug__" : Str)) = false := by decide) (hs : PlainIx b := by exact fun _ _ => rfl) : DE X (.Subscript (.Name x p1) b pos) (eTbl tb fb) := by
  obtain ⟨tb', pb, rb⟩ := hb.ex
  refine ⟨_, pe_ix ix_kdict (pe_glob (v := .ref (He.ga X.K x)) hg hm rfl hd) pb hs, fun T σ H ρ m d m' hm hs hf Q k => ?_⟩
  obtain ⟨y, m1, e1, hf⟩ := bd_some hf
  obtain ⟨e2, rfl⟩ := pu_some hf
  refine rb T σ H ρ m y _ hm hs e1 _ fun v T1 H1 l1 hm1 r1 => ?_
  cases r1 with
  | str z =>
    obtain ⟨es, n, D⟩ := ht.ex
    obtain ⟨u, w, h1, h2, h3⟩ := ht.val (z, d) (lookup_mem e2)
    exact ⟨_, z, w, rfl, rfl, L3.kdct_of D h1 h2, k _ T1 H1 l1 hm1 (h3 _ _)⟩
  | _ => cases e2
def eTblNin (tb : List (Str × D)) (a : EF) : EF := fun ρ m => bd (a ρ m) fun y m1 => match y with
  | .str z => some (.bl (!(tb.lookup z).isSome), m1)
  | _ => none
theorem Tbl.ns {tb : List (Str × D)} (ht : Tbl X x tb) (z : Str) : ∃ r, PySem.W.nsIn X.K (He.ga X.K x) z = some r ∧ r.isSome = (tb.lookup z).isSome := by
  cases h : tb.lookup z with
  | none => exact ⟨none, ht.no z h, rfl⟩
  | some d =>
    obtain ⟨u, w, h1, _⟩ := ht.val (z, d) (lookup_mem h)
    exact ⟨some u, h1, rfl⟩
theorem rf_tblNin {tb : List (Str × D)} {t : TE} {f : EF} (ht : Tbl X x tb) (ra : RfE (gx X) t f) : RfE (gx X) (tOp (L3.rInKD X.K (He.ga X.K x) true) t (tC (.ref (He.ga X.K x)))) (eTblNin tb f) := by
  intro T σ H ρ m d m' hm hs hf Q k
  obtain ⟨y, m1, e1, hf1⟩ := bd_some hf
  refine ra T σ H ρ m y m1 hm hs e1 _ fun v T1 H1 l1 hm1 r1 => ?_
  clear hf
  cases r1 with
  | str z =>
    cases hf1
    obtain ⟨r, h1, h2⟩ := ht.ns z
    exact ⟨z, r, rfl, rfl, h1, by simp only [if_true]; rw [h2]; exact k _ T1 H1 l1 hm1 (.bl _)⟩
  | _ => cases hf1
theorem dt_tblNin {tb : List (Str × D)} {a : Expr} {f : EF} {p1 : Pos} (ht : Tbl X x tb) (hg : Gl X x) (hm : X.mg x = some (.ref (He.ga X.K x))) (ha : DE X a f) (hd : (x == ("__debug__" : Str)) = false := by decide) : DT X (.Compare a [.NotIn] [.Name x p1] pos) (tVal (eTblNin tb f)) := by
  obtain ⟨t, pa, ra⟩ := ha.ex
  obtain ⟨es, n, D⟩ := ht.ex
  exact ⟨_, pt_cmpR (L3.op_notIn_kd' D) pa (pe_glob (v := .ref (He.ga X.K x)) hg hm rfl hd) (by rfl), rf_test (rf_tblNin ht ra)⟩
theorem itok_Z {J : It} {ds es : List D} (hgo : ∀ T1 H1, Le T H T1 H1 → ∀ (i : Nat) d e, ds[i]? = some d → es[i]? = some e → J.go i H1 ∧ ∀ x H2, J.yld i H1 x H2 → ∃ t v w, x = .ref t ∧ H1 t = none ∧ H2 = upd H1 t (.tup [v, w]) ∧ Rep g T1 H1 d v ∧ Rep g T1 H1 e w)
    (hst : ∀ T1 H1, Le T H T1 H1 → ∀ i, (ds.zip es).length = i → J.stop i H1) : ItOk g T H J ((ds.zip es).map fun p => .tup [p.1, p.2]) := by
  intro T1 H1 l m1 hm1 i
  refine ⟨fun d hd => ?_, fun hl => hst T1 H1 l i (by simpa using hl)⟩
  rw [List.getElem?_map] at hd
  obtain ⟨⟨a, b⟩, hp, rfl⟩ := Option.map_eq_some_iff.mp hd
  obtain ⟨h1, h2⟩ := List.getElem?_zip_eq_some.mp hp
  obtain ⟨go, yl⟩ := hgo T1 H1 l i a b h1 h2
  refine ⟨go, fun x H2 hy => ?_⟩
  obtain ⟨t, v, w, rfl, ht, rfl, r1, r2⟩ := yl x H2 hy
  obtain ⟨l2, hm2⟩ := hm1.fresh (u := .tup [v, w]) ht
  exact ⟨T1, l2, hm2, .tup (.inl ⟨hm1.nope ht, .inl upd_same⟩) ((RepL.cons r1 (.cons r2 .nil)).le l2)⟩
theorem yld_L {a : Addr} {i : Nat} {vs : List V} {v x : V} (h : SqL g.K H a vs) (hv : vs[i]? = some v) (hy : ∀ xs, SqL g.K H a xs → xs[i]? = some x) : x = v := by
  have := hy vs h
  rw [hv] at this
  exact (Option.some.inj this).symm
theorem yld_T {a : Addr} {i : Nat} {vs : List V} {v x : V} (h : SqT g.K H a vs) (hv : vs[i]? = some v) (hy : ∀ xs, SqT g.K H a xs → xs[i]? = some x) : x = v := by
  have := hy vs h
  rw [hv] at this
  exact (Option.some.inj this).symm
/-- a list or a tuple that stays as it is: what is walked -/
def frzItems : D → Option (Bool × List D)
  | .tup ds => some (true, ds)
  | .lst ds => some (false, ds)
  | .scr ds => some (false, ds)
  | _ => none
theorem frz_T {d : D} {v : V} {ds : List D} (r : Rep g T H d v) (h : frzItems d = some (true, ds)) : ∃ a, v = .ref a ∧ ∀ T1 H1, Le T H T1 H1 → ∃ vs, SqT g.K H1 a vs ∧ RepL g T1 H1 ds vs := by
  cases r with
  | tup f q => cases h; exact ⟨_, rfl, fun T1 H1 l => ⟨_, (f.le l).sq, q.le l⟩⟩
  | _ => cases h
theorem frz_L {d : D} {v : V} {ds : List D} (r : Rep g T H d v) (h : frzItems d = some (false, ds)) : ∃ a, v = .ref a ∧ ∀ T1 H1, Le T H T1 H1 → ∃ vs, SqL g.K H1 a vs ∧ RepL g T1 H1 ds vs := by
  cases r with
  | lst f q => cases h; exact ⟨_, rfl, fun T1 H1 l => ⟨_, (f.le l).sq, q.le l⟩⟩
  | scr f q => cases h; exact ⟨_, rfl, fun T1 H1 l => ⟨_, (f.le l).sq, q.le l⟩⟩
  | _ => cases h
def zipD (ds es : List D) : List D := (ds.zip es).map fun p => .tup [p.1, p.2]
/-- zip of a tuple and a list -/
def iZpM (a : AF) : AF := fun ρ m => bd (a ρ m) fun xs m1 => match xs with
  | [x, y] => match frzItems x, frzItems y with
    | some (true, ds), some (false, es) => some (zipD ds es, m1)
    | _, _ => none
  | _ => none
theorem di_zipM {e2 : Expr} {f : AF} {tpos : Pos} {elts : List Expr} {kk : Nat} (hg : Gl X "zip") (hm : X.mg "zip" = none) (ha : DA X [e, e2] f)
    (hs : starEach [e, e2] X.env = (false, eval e X.env) :: starEach [e2] X.env := by rfl) (hpl : (backTo pos (starEach [e2] X.env)).any (·.1) = false := by rfl) : DI X (.Tuple elts kk tpos) (.Call (.Name "zip" p) [e, e2] [] pos) (iZpM f) := by
  obtain ⟨t, pa, ra⟩ := ha.ex
  refine ⟨_, L3.pi_zipM hg hm pa hs hpl, fun T σ H ρ m ds m' hm hs hf R k => ?_⟩
  obtain ⟨xs, m1, e1, hf1⟩ := bd_some hf
  refine ra T σ H ρ m xs m1 hm hs e1 _ fun vs T1 H1 l1 hm1 r1 => ?_
  clear hf
  split at hf1
  · next x y =>
    split at hf1
    · next ds es h1 h2 =>
      cases hf1
      obtain ⟨v, w, rfl, q1, q2⟩ := r1.two
      obtain ⟨a, rfl, ha⟩ := frz_T q1 h1
      obtain ⟨b, rfl, hb⟩ := frz_L q2 h2
      obtain ⟨us, hu, _⟩ := ha T1 H1 .refl
      obtain ⟨ws, hw, _⟩ := hb T1 H1 .refl
      refine ⟨a, b, us, ws, rfl, hu, hw, k _ T1 H1 l1 hm1 (itok_Z (fun T2 H2 l2 i d e hd he => ?_) fun T2 H2 l2 i hi => ?_)⟩
      · obtain ⟨us2, hu2, ru⟩ := ha T2 H2 l2
        obtain ⟨ws2, hw2, rw2⟩ := hb T2 H2 l2
        obtain ⟨u, eu, qu⟩ := ru.get hd
        obtain ⟨w, ew, qw⟩ := rw2.get he
        refine ⟨⟨us2, ws2, u, w, hu2, hw2, eu, ew⟩, fun x H3 ⟨t, x1, y1, h3, h4, h5, h6, h7⟩ => ?_⟩
        rw [yld_T (g := gx X) hu2 eu h6, yld_L (g := gx X) hw2 ew h7] at h5
        exact ⟨t, u, w, h3, h4, h5, qu, qw⟩
      · obtain ⟨us2, hu2, ru⟩ := ha T2 H2 l2
        obtain ⟨ws2, hw2, rw2⟩ := hb T2 H2 l2
        exact ⟨us2, ws2, hu2, hw2, by rw [← hi, List.length_zip, ru.length, rw2.length]⟩
    · cases hf1
  · cases hf1
end
end L4
namespace L4
open PySem PySem.Spec PyProof.Rows L2
theorem atomB_ok {g : G} {d : D} {u : Value} (h : atomB d u = true) : ∃ v, RelV v u ∧ ∀ T H, Rep g T H d v := by
  unfold atomB at h
  split at h
  · exact ⟨.bl _, by rw [beq_iff_eq.mp h]; rfl, fun _ _ => .bl _⟩
  · exact ⟨.int _, ⟨_, by rw [beq_iff_eq.mp h]⟩, fun _ _ => .int _⟩
  · exact ⟨.str _, ⟨_, by rw [of_decide_eq_true h]⟩, fun _ _ => .str _⟩
  · exact ⟨.non, rfl, fun _ _ => .non⟩
  · cases h
theorem atomsB_ok {g : G} : ∀ {ds : List D} {us : List Value}, atomsB ds us = true → ∃ vs, Vals vs us ∧ ∀ T H, RepL g T H ds vs
  | [], [], _ => ⟨[], .nil, fun _ _ => .nil⟩
  | [], _ :: _, h => by cases h
  | _ :: _, [], h => by cases h
  | d :: ds, u :: us, h => by
    obtain ⟨h1, h2⟩ := and2 (show (atomB d u && atomsB ds us) = true from h)
    obtain ⟨v, r, q⟩ := atomB_ok (g := g) h1
    obtain ⟨vs, rs, qs⟩ := atomsB_ok (g := g) h2
    exact ⟨v :: vs, .cons r rs, fun T H => .cons (q T H) (qs T H)⟩
theorem valB_ok {g : G} {d : D} {u : Value} (h : valB g.K d u = true) : ∃ v, RelV v u ∧ ∀ T H, Rep g T H d v := by
  unfold valB at h
  split at h
  · next ds r =>
    split at h
    · next dd its n sl hl =>
      obtain ⟨h1, h2⟩ := and2 h
      obtain ⟨vs, rs, qs⟩ := atomsB_ok (g := g) h2
      exact ⟨.ref r, rfl, fun T H => .tup (.inr (.inr ⟨_, its, n, hl, rfl, rfl, of_decide_eq_true h1, rs⟩)) (qs T H)⟩
    · cases h
  · exact atomB_ok h
theorem tbl_of {X : Cx} {x : Str} {tb : List (Str × D)} {names : List Str} {K : PySem.W.Frag} {w : World} (hK : X.K = K) (hW : X.w = w) (h0 : ∃ es n, KDict K w (He.ga K x) es n) (h1 : tblB K (He.ga K x) tb = true) (h2 : nsOnly K (He.ga K x) names = true) (h3 : ∀ z ∈ names, (tb.lookup z).isSome = true := by decide +kernel) : Tbl X x tb := by
  subst hK hW
  refine ⟨h0, fun q hq => ?_, fun z hz => ?_⟩
  · have := List.all_eq_true.mp h1 q hq
    split at this
    · next u hu =>
      obtain ⟨v, r, s⟩ := valB_ok (g := gx X) this
      exact ⟨u, v, hu, r, s⟩
    · cases this
  · unfold nsOnly at h2
    unfold PySem.W.nsIn
    split at h2
    · next es n sl hl =>
      rw [hl]
      have key : ∀ e ∈ es.toList, ∃ y t, e.key = .str y t ∧ y ∈ names := fun e he => by
        have := List.all_eq_true.mp h2 e he
        split at this
        · next y t hy => exact ⟨y, t, hy, by simpa using this⟩
        · cases this
      have hn : z ∉ names := fun hz' => absurd (h3 z hz') (by rw [hz]; decide)
      have e1 : es.toList.find? (·.key.isStr z) = none := by
        rw [List.find?_eq_none]
        intro e he
        obtain ⟨y, t, ey, hy⟩ := key e he
        rw [ey]
        intro hh
        have : y = z := by simpa [Value.isStr] using hh
        exact hn (this ▸ hy)
      have e2 : es.toList.any (·.refKey) = false := by
        rw [List.any_eq_false]
        intro e he
        obtain ⟨y, t, ey, hy⟩ := key e he
        simp [DictEntry.refKey, ey]
      simp only [e1, e2]
      rfl
    · cases h2
end L4
namespace L4
open PySem PySem.Spec PyProof.Rows L2
section
variable {X : Cx} {g : G} {T T' : Tk} {H : Hp} {m : M} {Q : VK} {pos p apos : Pos} {e o : Expr} {es : List Expr} {k n : Nat} {x c nm : Str}
def forRef (f : GF) (b : SF) (n : Nat) : Nat → Nat → SF
  | 0, _ => fun _ _ => none
  | k + 1, i => fun ρ m => match (m[n]?).bind lstO with
    | none => none
    | some ds => match ds[i]? with
      | none => some (.nx ρ, m)
      | some x => bd (f x ρ m) fun ρ1 m1 => bd (b ρ1 m1) fun r m2 => match r with
        | .nx ρ2 => forRef f b n k (i + 1) ρ2 m2
        | .ct ρ2 => forRef f b n k (i + 1) ρ2 m2
        | .bk ρ2 => some (.nx ρ2, m2)
        | .rt d => some (.rt d, m2)
def sForA (fuel : Nat) (a : EF) (f : GF) (b : SF) : SF := fun ρ m => bd (a ρ m) fun x m1 => match x with
  | .ref n => forRef f b n fuel 0 ρ m1
  | x => match items x with
    | some xs => forGo f b xs ρ m1
    | none => none
theorem ds_forA {tg : Expr} {body : List Stmt} {fi : EF} {fg : GF} {fb : SF} (fuel : Nat) (hp : PassesOwn (model X.prog X.w) X.A X.env X.xe) (hc : X.calm = true) (hi : DE X e fi) (hg : DG X tg fg) (hb : DSs X body fb)
    (hs : ∀ x, foldedSetIterable e X.env x = pure x := by intro _; rfl) : DS X (.For tg e body [] pos) (sForA fuel fi fg fb) := by
  obtain ⟨ti, pi, ri⟩ := hi.ex; obtain ⟨tg', pg, rg⟩ := hg.ex; obtain ⟨tb, pb, rb⟩ := hb.ex
  obtain ⟨_, _, rI⟩ := (di_any (tg := tg) hi).ex
  obtain ⟨t2, p2, r2⟩ := (ds_for (pos := pos) hp hc (di_any (tg := tg) hi) hg hb hs).ex
  refine ⟨fun D σ H => tFor (iAny X.K ti) tg' tb D σ H ∨ t2 D σ H, ⟨fun pins s σ H D I h => ?_⟩, fun T σ H ρ m r m' hm hs hf D k => ?_⟩
  · rcases h with h | h
    · exact (ps_for hp hc (pi_any pi) pg pb hs).run pins s σ H D I h
    · exact p2.run pins s σ H D I h
  · obtain ⟨x, m1, e1, hf1⟩ := bd_some hf
    clear hf
    by_cases hx : ∃ n, x = .ref n
    · obtain ⟨n, rfl⟩ := hx
      left
      refine ri T σ H ρ m _ m1 hm hs e1 _ fun v T0 H0 l0 hm0 r0 => ?_
      cases r0 with
      | @ref _ a ea =>
        cases fuel with
        | zero => cases hf1
        | succ fuel =>
          change forRef fg fb n (fuel + 1) 0 ρ m1 = some (r, m') at hf1
          have hf1' := hf1
          unfold forRef at hf1
          split at hf1
          · cases hf1
          · next ds hds =>
            obtain ⟨ob, h1, h2⟩ := Option.bind_eq_some_iff.mp hds
            have hro := hm0.at_ _ _ _ ea h1
            cases hro with
            | @lst _ vs hH rl =>
              cases h2
              refine .inl ⟨a, rfl, ⟨_, SqL.of hH⟩, ?_⟩
              refine ⟨fun i j σ1 H1 => ∃ T1 ρ1 m1, Le T0 H0 T1 H1 ∧ RepH (gx X) T1 H1 m1 ∧ RepS (gx X) T1 H1 σ1 ρ1 ∧ forRef fg fb n j i ρ1 m1 = some (r, m'), ⟨fuel + 1, T0, ρ, m1, .refl, hm0, hs.le l0, hf1'⟩, ?_⟩
              rintro i j σ1 H1 ⟨T1, ρ1, m2, l1, hm1, hs1, hfj⟩
              cases j with
              | zero => cases hfj
              | succ j =>
                unfold forRef at hfj
                split at hfj
                · cases hfj
                · next ds1 hd1 =>
                  obtain ⟨ob1, h3, h4⟩ := Option.bind_eq_some_iff.mp hd1
                  have ea1 := l1.get ea
                  cases hm1.at_ _ _ _ ea1 h3 with
                  | @lst _ vs1 hH1 rl1 =>
                    cases h4
                    split at hfj
                    · next hn =>
                      cases hfj
                      left
                      refine ⟨⟨vs1, SqL.of hH1, ?_⟩, k σ1 T1 H1 (l0.trans l1) hm1 hs1⟩
                      rw [← rl1.length]
                      exact List.getElem?_eq_none_iff.mp hn
                    · next y hy =>
                      right
                      obtain ⟨w, ew, qw⟩ := rl1.get hy
                      refine ⟨⟨vs1, w, SqL.of hH1, ew⟩, _, fun _ _ q => q, fun z H2 ⟨eH, hz⟩ => ?_⟩
                      subst eH
                      have : z = w := by
                        have := hz vs1 (SqL.of hH1)
                        rw [ew] at this
                        exact (Option.some.inj this).symm
                      subst this
                      obtain ⟨ρ3, m3, e3, hf3⟩ := bd_some hfj
                      refine rg T1 σ1 _ ρ1 m2 y z ρ3 m3 hm1 hs1 qw e3 _ fun σ3 T3 H3 l3 hm3 hs3 => ?_
                      obtain ⟨fl, m4, e4, hf4⟩ := bd_some hf3
                      refine rb T3 σ3 H3 ρ3 m3 fl m4 hm3 hs3 e4 _ ?_
                      have l13 := l1.trans l3
                      cases fl with
                      | nx ρ4 => exact fun σ4 T4 H4 l4 hm4 hs4 => ⟨j, Nat.lt_succ_self _, T4, ρ4, m4, l13.trans l4, hm4, hs4, hf4⟩
                      | ct ρ4 => exact fun σ4 T4 H4 l4 hm4 hs4 => ⟨j, Nat.lt_succ_self _, T4, ρ4, m4, l13.trans l4, hm4, hs4, hf4⟩
                      | bk ρ4 => cases hf4; exact KS.le (l0.trans l13) k
                      | rt d => cases hf4; exact KV.le (l0.trans l13) k
                  | _ => cases h4
            | _ => cases h2
    · right
      refine r2 T σ H ρ m r m' hm hs ?_ D k
      unfold sFor iIt
      rw [e1]
      simp only [bd_go]
      cases x with
      | ref n => exact absurd ⟨n, rfl⟩ hx
      | tup ds => exact hf1
      | lst ds => exact hf1
      | scr ds => exact hf1
      | str ds => exact hf1
      | _ => cases hf1
end
end L4
namespace L4
open PySem PySem.Spec PyProof.Rows L2
theorem fs_of {K : PySem.W.Frag} {H : Hp} {a : Addr} {xs : List V} {T : Tk} (hT : T.ν = []) (hO : Only H) (h : SqL K H a xs) : FS K T H a xs := by
  rcases h with h | h
  · rcases hO a with z | ⟨ob, ys, z⟩
    · rcases h with h | ⟨o, h⟩ <;> rw [z] at h <;> cases h
    · rcases h with h | ⟨o, h⟩
      · rw [z] at h; cases h
      · exact .inl ⟨by rw [hT]; exact List.not_mem_nil, o, h⟩
  · exact .inr (.inr h)
theorem repL_ints {g : G} {T : Tk} {H : Hp} (ns : List Int) : RepL g T H (ns.map D.int) (ns.map V.int) := by
  induction ns with
  | nil => exact .nil
  | cons n ns ih => exact .cons (.int n) ih
theorem law_sp {P : Program} {w : World} {K : PySem.W.Frag} {F : List D → Option D} {H : Hp} {a : Addr} {ns : List Int} (hF : F [.scr (ns.map D.int)] = some (.bl true)) (hO : Only H) (h : SqL K H a (ns.map V.int)) :
    spP ⟨P, w, K⟩ 1 F [.ref a] H (fun v _ => v = .bl true) fun _ _ _ => False :=
  ⟨rfl, [], [.scr (ns.map D.int)], .bl true, fun a h => (List.not_mem_nil h).elim, .cons (.scr (fs_of rfl hO h) (repL_ints ns)) .nil, hF, fun v H' _ r => by cases r; rfl⟩
theorem law_df {P : Program} {w : World} {K : PySem.W.Frag} {mg : Str → Option Value} {base : Heap} {k : Nat} {ps N : List Str} {st : Stmt} {b : SF} {x q : Str} {f : Addr} {fd : FuncData} (F : Fun K x q st f fd) (S : FnScope N ps (defScope st))
    (hbody : ∀ (f : Addr) (cdv : Value) (A : Around) (outer : List Env) (s : Shared) (H : Hp) (E : XK), Gd k (cxOf CX0 P w K mg base N q (defScope st) f cdv A outer s H E).nox →
      DSs (cxOf CX0 P w K mg base N q (defScope st) f cdv A outer s H E).nox (defBody st) b) : FnG P w K mg base CX0 (k + 1) f fd ps (spP ⟨P, w, K⟩ ps.length (runP ps.length N.length b)) :=
  fnG_all F S (fun vs H Q E h => h.1) (fun r => spP_run r) (hbody f)
theorem FnG.to3 {P : Program} {w : World} {K : PySem.W.Frag} {mg : Str → Option Value} {base : Heap} {k : Nat} {f : Addr} {fd : FuncData} {ps : List Str} {sp : Sp} (F : FnG P w K mg base CX0 k f fd ps sp) : L3.FnG P w K mg base k f fd ps sp := ⟨F.len, F.run⟩
theorem walkL {l : PySem.W.OpenLaw} {n k : Nat} {q : Program} {loose : List Str} {XP : (Str → Option Value) → Heap → Prop} {YP : World → Heap → Prop} {d : DefRec} {x : Str} {FL : List D → Option D}
    (hn : l.most = some n) (hn2 : n ≤ sizeLine) (hdf : d.params.defaults = []) (hr : Room k callerA) (hF : ∀ ns : List Int, ns.length ≤ n → FL [.scr (ns.map D.int)] = some (.bl true))
    (F : ∀ (w : World) (mg : Str → Option Value) (fa : Addr) (h : Heap), YP w h → h.Ns mainGlobals mg → mg d.name = some (.ref fa) →
      ∃ (K : PySem.W.Frag) (fd : FuncData), K.In h ∧ (∀ (s : Shared) (u : Value), BindsTo s fd ⟨[u], []⟩ [(x, u)]) ∧ ∀ base : Heap, K.In base → base.Ns mainGlobals mg → FnG l.prog w K mg base CX0 k fa fd [x] (spP ⟨l.prog, w, K⟩ 1 FL)) :
    PySem.W.WalkO q loose XP YP l.row.toRowW d [] (fun f vs => PySem.call f vs) := by
  refine Att.attach_call hn hdf ?_
  intro w s₀ s₁ mg mb fa o pm cd doc a vs ns G Y ho hd hcd hmg hobj hints hlen hg
  obtain ⟨K, fd, KX, hb, hX⟩ := F w mg fa _ Y G.T.g hmg
  exact L3.callG (n := n) KX G.T.g G.T.b G.T.builtins G.T.nolimit hg hobj hints (Nat.le_trans hlen hn2) hr (fun base h1 h2 => (hX base h1 h2).to3) hb fun H hO hS => law_sp (hF ns hlen) hO hS
end L4
namespace L4
open PySem
theorem ixA_ref {m : M} {n : Nat} {ds : List D} {i : Int} (h : m[n]? = some (.lst ds)) : ixA m (.ref n) (.int i) = L2.atI ds i := by
  simp [ixA, dicOf, h, dicO, ixD, lstR, lstOf, lstO]
theorem ixA_scr {m : M} {ds : List D} {i : Int} : ixA m (.scr ds) (.int i) = L2.atI ds i := by
  simp [ixA, dicOf, ixD, lstR]
theorem ixA_lst {m : M} {ds : List D} {i : Int} : ixA m (.lst ds) (.int i) = L2.atI ds i := by
  simp [ixA, dicOf, ixD, lstR, lstOf]
/-- a loop by what holds at each turn -/
theorem forGo_inv {f : GF} {b : SF} (I : Nat → Ss → M → Prop) : ∀ (xs : List D) (i : Nat) (ρ : Ss) (m : M), I i ρ m →
    (∀ j x ρ m, xs[j]? = some x → I (i + j) ρ m → ∃ ρ1 m1, f x ρ m = some (ρ1, m1) ∧ ∃ r m2, b ρ1 m1 = some (r, m2) ∧ ∃ ρ2, (r = .nx ρ2 ∨ r = .ct ρ2) ∧ I (i + j + 1) ρ2 m2) →
    ∃ ρ' m', forGo f b xs ρ m = some (.nx ρ', m') ∧ I (i + xs.length) ρ' m'
  | [], i, ρ, m, h0, _ => ⟨ρ, m, rfl, h0⟩
  | x :: xs, i, ρ, m, h0, hs => by
    obtain ⟨ρ1, m1, e1, r, m2, e2, ρ2, hr, h2⟩ := hs 0 x ρ m rfl h0
    obtain ⟨ρ', m', e3, h3⟩ := forGo_inv I xs (i + 1) ρ2 m2 h2 fun j y ρ m hj hI => by
      have := hs (j + 1) y ρ m (by simpa using hj) (by rw [show i + (j + 1) = i + 1 + j by omega]; exact hI)
      rw [show i + (j + 1) + 1 = i + 1 + j + 1 by omega] at this
      exact this
    refine ⟨ρ', m', ?_, by rw [List.length_cons, show i + (xs.length + 1) = i + 1 + xs.length by omega]; exact h3⟩
    simp only [forGo, e1, bd_go, e2]
    rcases hr with rfl | rfl <;> exact e3
end L4
namespace L4
open PySem PySem.Spec PyProof.Rows L2
section
variable {X : Cx} {g : G} {T T' : Tk} {H : Hp} {m : M} {Q : VK} {pos p apos : Pos} {e o : Expr} {es : List Expr} {k n : Nat} {x c nm : Str}
/-- pairs, from the left -/
def pairsF : List (EF × EF) → Ss → M → Option (List (D × D) × M)
  | [], _, m => some ([], m)
  | (a, b) :: r, ρ, m => bd (a ρ m) fun x m1 => bd (b ρ m1) fun y m2 => bd (pairsF r ρ m2) fun ps m3 => some ((x, y) :: ps, m3)
def mergeD : List (D × D) → List D × List D → List D × List D
  | [], z => z
  | (x, y) :: ps, (ks, vs) => mergeD ps (dPutK ks x, dPutV ks vs x y)
def eDisp (nw : Bool) (ps : List (EF × EF)) : EF := fun ρ m => bd (pairsF ps ρ m) fun qs m1 =>
  if (qs.all fun q => isFlat q.1) && decide (qs.length ≤ 15) then some (bif nw then (.ref m1.length, m1 ++ [.dic (mergeD qs ([], [])).1 (mergeD qs ([], [])).2]) else (.dic (mergeD qs ([], [])).1 (mergeD qs ([], [])).2, m1)) else none
structure DPs (X : Cx) (pos : Pos) (keys : List (Option Expr)) (values : List Expr) (ps : List (EF × EF)) : Prop where
  ex : ∃ trs, PPs X pos keys values trs ∧ ∀ T σ H ρ m qs m', RepH (gx X) T H m → RepS (gx X) T H σ ρ → pairsF ps ρ m = some (qs, m') → ∀ Q : List (V × V) → Hp → Prop,
    (∀ vs T' H', Le T H T' H' → RepH (gx X) T' H' m' → RepL (gx X) T' H' (qs.map Prod.fst) (vs.map Prod.fst) → RepL (gx X) T' H' (qs.map Prod.snd) (vs.map Prod.snd) → Q vs H') → tPairs trs σ H Q
theorem dps_nil : DPs X pos [] [] [] := ⟨[], pps_nil, fun T σ H ρ m qs m' hm hs hf Q k => by cases hf; exact k [] T H .refl hm .nil .nil⟩
theorem dps_cons {a b : Expr} {ks : List (Option Expr)} {vs : List Expr} {fa fb : EF} {ps : List (EF × EF)} (ha : DE X a fa) (hb : DE X b fb) (hr : DPs X pos ks vs ps) : DPs X pos (some a :: ks) (b :: vs) ((fa, fb) :: ps) := by
  obtain ⟨ta, pa, ra⟩ := ha.ex; obtain ⟨tb, pb, rb⟩ := hb.ex; obtain ⟨tr, pr, rr⟩ := hr.ex
  refine ⟨_, pps_cons pa pb pr, fun T σ H ρ m qs m' hm hs hf Q k => ?_⟩
  obtain ⟨x, m1, e1, hf⟩ := bd_some hf
  obtain ⟨y, m2, e2, hf⟩ := bd_some hf
  obtain ⟨qs, m3, e3, hf⟩ := bd_some hf
  cases hf
  refine ra T σ H ρ m x m1 hm hs e1 _ fun v T1 H1 l1 hm1 r1 => ?_
  refine rb T1 σ H1 ρ m1 y m2 hm1 (hs.le l1) e2 _ fun u T2 H2 l2 hm2 r2 => ?_
  refine rr T2 σ H2 ρ m2 qs _ hm2 ((hs.le l1).le l2) e3 _ fun ws T3 H3 l3 hm3 r3 r4 => ?_
  exact k _ T3 H3 (l1.trans (l2.trans l3)) hm3 (.cons ((r1.le l2).le l3) r3) (.cons (r2.le l3) r4)
theorem flats {qs : List (D × D)} {vs : List (V × V)} (h : (qs.all fun q => isFlat q.1) = true) (r1 : RepL g T H (qs.map Prod.fst) (vs.map Prod.fst)) (r2 : RepL g T H (qs.map Prod.snd) (vs.map Prod.snd)) :
    ∃ kvs : List (Key × V), vs = kvs.map (fun kv => (kV kv.1, kv.2)) ∧ qs.map Prod.fst = kvs.map (fun kv => keyD kv.1) ∧ RepL g T H (qs.map Prod.snd) (kvs.map Prod.snd) := by
  induction qs generalizing vs with
  | nil => cases vs with
    | nil => exact ⟨[], rfl, rfl, .nil⟩
    | cons _ _ => cases r1
  | cons q qs ih => cases vs with
    | nil => cases r1
    | cons v vs =>
      obtain ⟨h1, h2⟩ := and2 h
      cases r1 with
      | cons a1 b1 =>
        cases r2 with
        | cons a2 b2 =>
          obtain ⟨kvs, rfl, e2, r3⟩ := ih h2 b1 b2
          obtain ⟨κ, hκ⟩ := flat_key h1
          rw [hκ] at a1
          have ev : v.1 = kV κ := by
            cases κ with
            | inl i => cases hv : v.1 <;> rw [hv] at a1 <;> cases a1; rfl
            | inr i => cases hv : v.1 <;> rw [hv] at a1 <;> cases a1; rfl
          refine ⟨(κ, v.2) :: kvs, ?_, ?_, .cons a2 r3⟩
          · rw [List.map_cons, ← ev]
          · rw [List.map_cons, List.map_cons, e2, hκ]
theorem merge_rep : ∀ {qs : List (D × D)} {kvs acc : List (Key × V)} {ks vs : List D}, qs.map Prod.fst = kvs.map (fun kv => keyD kv.1) → RepL g T H (qs.map Prod.snd) (kvs.map Prod.snd) → RepL g T H ks (acc.map fun p => kV p.1) → RepL g T H vs (acc.map Prod.snd) →
    RepL g T H (mergeD qs (ks, vs)).1 ((mergeK acc kvs).map fun p => kV p.1) ∧ RepL g T H (mergeD qs (ks, vs)).2 ((mergeK acc kvs).map Prod.snd)
  | [], [], _, _, _, _, _, r1, r2 => ⟨r1, r2⟩
  | [], _ :: _, _, _, _, e, _, _, _ => by cases e
  | _ :: _, [], _, _, _, e, _, _, _ => by cases e
  | (x, y) :: qs, (κ, v) :: kvs, acc, ks, vs, e, r, r1, r2 => by
    have e1 : x = keyD κ := (List.cons.inj e).1
    have e2 := (List.cons.inj e).2
    subst e1
    cases r with
    | cons ry rr =>
      obtain ⟨h1, h2⟩ := flat_put (κ := κ) r1 r2 ry
      exact merge_rep (qs := qs) (kvs := kvs) (acc := putK acc κ v) e2 rr h1 h2
theorem Made.newO {p : Addr} {u : HO} (hu : Mu u) (hm : RepH g T H m) (hp : H p = none) : RepH g (T.forb p) (upd H p u) m ∧ Le T H (T.forb p) (upd H p u) := by
  have l : Le T H (T.forb p) (upd H p u) := ⟨List.prefix_rfl, fun a v e _ => by rw [upd_ne (ne_of_none e hp)]; exact e, fun a ha n => by
    rcases List.mem_cons.mp ha with rfl | z
    · exact hp
    · exact absurd z n, fun a ha n => absurd ha n, fun a h => List.mem_cons_of_mem _ h⟩
  refine ⟨⟨hm.len, hm.nd, fun a ha => ?_, fun n a o h1 h2 => (hm.at_ n a o h1 h2).le l ?_⟩, l⟩
  · rcases List.mem_cons.mp ha with rfl | z
    · exact ⟨_, upd_same, hu⟩
    · obtain ⟨v, e, q⟩ := hm.has a z
      exact ⟨v, by rw [upd_ne (ne_of_none e hp)]; exact e, q⟩
  · obtain ⟨v, e, _⟩ := (hm.at_ n a o h1 h2).has
    rw [upd_ne (ne_of_none e hp)]
/-- a new object that stood forbidden is done: as it is, or tracked -/
theorem forb_fin {p : Addr} {u0 u : HO} {H1 : Hp} {T1 : Tk} {m1 : M} (hp : H p = none) (hm : RepH g T H m) (l : Le (T.forb p) (upd H p u0) T1 H1) (hm1 : RepH g T1 H1 m1) (hu : Mu u) :
    ∃ T2 : Tk, Le T H T2 (upd H1 p u) ∧ RepH g T2 (upd H1 p u) m1 ∧ p ∉ T2.ν ∧ (∀ ds vs, RepL g T1 H1 ds vs → RepL g T2 (upd H1 p u) ds vs) ∧
      Le T H (T2.push p) (upd H1 p u) ∧ (∀ ds vs, RepL g T1 H1 ds vs → RepL g (T2.push p) (upd H1 p u) ds vs) ∧ ∀ o, RepO g (T2.push p) (upd H1 p u) p o → RepH g (T2.push p) (upd H1 p u) (m1 ++ [o]) := by
  have np : p ∉ T.ν := hm.nope hp
  have start : Le T H T (upd H p u0) := ⟨List.prefix_rfl, fun a v e _ => by rw [upd_ne (ne_of_none e hp)]; exact e, fun a h n => absurd h n, fun a h n => absurd h n, fun a h => h⟩
  obtain ⟨T2, e1, e2, e3, l2⟩ := start.unforb hp np ⟨_, upd_same⟩ l
  have hpT1 : p ∈ T1.ν := (e3 p).mp (List.mem_cons_self ..)
  have npμ : p ∉ T1.μ := fun z => e2 (T2.sub p (by rw [e1]; exact z))
  have sub : ∀ a ∈ T2.ν, a ∈ T1.ν := fun a h => (e3 a).mp (List.mem_cons_of_mem _ h)
  have l3 : Le T H T2 (upd H1 p u) := ⟨l2.pre, fun a v e n => by rw [upd_ne (ne_of_none e hp)]; exact l2.keep a v e n, l2.new, l2.newμ, l2.up⟩
  have hm2 : RepH g T1 (upd H1 p u) m1 := ⟨hm1.len, hm1.nd, fun a ha => by
    by_cases z : a = p
    · rw [z]; exact ⟨_, upd_same, hu⟩
    · obtain ⟨v, e, q⟩ := hm1.has a ha
      exact ⟨v, by rw [upd_ne z]; exact e, q⟩, fun n a o h1 h2 => (hm1.at_ n a o h1 h2).upF hpT1 (by rintro rfl; exact npμ (List.mem_of_getElem? h1))⟩
  have sub3 : ∀ a ∈ (T2.push p).ν, a ∈ T1.ν := fun a h => (e3 a).mp (forb_push h)
  have pre3 : T1.μ <+: (T2.push p).μ := by
    show T1.μ <+: T2.μ ++ [p]
    rw [e1]; exact List.prefix_append _ _
  refine ⟨T2, l3, ⟨by rw [e1]; exact hm2.len, by rw [e1]; exact hm2.nd, fun a ha => hm2.has a (sub a ha), fun n a o h1 h2 => (hm2.at_ n a o (by rw [← e1]; exact h1) h2).wk e1 sub⟩, e2, fun ds vs r => (r.upF hpT1 _).wk e1 sub _, l3.pushed hp, fun ds vs r => (r.upF hpT1 _).ext pre3 sub3 _, fun o ho => ?_⟩
  exact trackIt hm2 hpT1 npμ (by show T2.μ ++ [p] = _; rw [e1]) sub3 ho
theorem push_ref {p : Addr} {T2 : Tk} {m1 : M} (hl : T2.μ.length = m1.length) : Rep g (T2.push p) H (.ref m1.length) (.ref p) := by
  refine .ref ?_
  show (T2.μ ++ [p])[m1.length]? = some p
  rw [← hl, List.getElem?_append_right (Nat.le_refl _)]
  simp
theorem de_disp {nw : Bool} {keys : List (Option Expr)} {values : List Expr} {ps : List (EF × EF)} (h : DPs X pos keys values ps) (hall : keys.all (·.isSome) = true := by rfl) (hl : keys.length = values.length := by rfl) (h0 : keys ≠ [] := by intro z; cases z)
    (h15 : keys.length ≤ 15 := by decide) : DE X (.Dict keys values pos) (eDisp nw ps) := by
  obtain ⟨trs, pp, rp⟩ := h.ex
  refine ⟨_, pe_disp pp hall hl h0 h15, fun T σ H ρ m d m' hm hs hf Q k p hp => ?_⟩
  obtain ⟨qs, m1, e1, hf⟩ := bd_some hf
  obtain ⟨hg, hf⟩ := ite_some hf
  have hf := Option.some.inj hf
  obtain ⟨hfl, hz⟩ := and2 hg
  have hz : qs.length ≤ 15 := of_decide_eq_true hz
  obtain ⟨hm0, l0⟩ := Made.newO (u := .dK []) trivial hm hp
  refine rp _ σ _ ρ m qs m1 hm0 (hs.le l0) e1 _ fun vs T1 H1 l1 hm1 r1 r2 => ?_
  obtain ⟨kvs, rfl, ek, r3⟩ := flats hfl r1 r2
  have hq : H1 p = some (.dK []) := l1.keep p _ upd_same (fun z => hm.nope hp (T.sub p z))
  refine ⟨hq, kvs, rfl, ?_, ?_⟩
  · have := congrArg List.length ek
    simp at this
    omega
  obtain ⟨T2, l2, hm2, np, rl, l3, rl3, hm3⟩ := forb_fin (u := .dK (mergeK [] kvs)) hp hm l1 hm1 trivial
  obtain ⟨a1, a2⟩ := merge_rep (ks := []) (vs := []) ek r3 (acc := []) .nil .nil
  cases nw with
  | false =>
    cases hf
    exact k _ _ _ l2 hm2 (.dicF np (.inl upd_same) (rl _ _ a1) (rl _ _ a2))
  | true =>
    cases hf
    exact k _ _ _ l3 (hm3 _ (.dicF upd_same (rl3 _ _ a1) (rl3 _ _ a2))) (push_ref hm2.len)
end
end L4
namespace L4
open PySem PySem.Spec PyProof.Rows PySem.W L2
section
variable {X : Cx} {g : G} {T T' : Tk} {H : Hp} {m : M} {Q : VK} {pos p apos : Pos} {e o : Expr} {es : List Expr} {k n : Nat} {x c nm : Str}
abbrev NX := M → Nat → Option (Option D)
abbrev LF := Ss → M → Option (NX × M)
def ItLv (g : G) (T : Tk) (H : Hp) (J : It) (nx : NX) : Prop := ∀ T1 H1, Le T H T1 H1 → ∀ m1, RepH g T1 H1 m1 → ∀ i : Nat,
  (∀ d, nx m1 i = some (some d) → J.go i H1 ∧ ∀ x H2, J.yld i H1 x H2 → ∃ T2, Le T1 H1 T2 H2 ∧ RepH g T2 H2 m1 ∧ Rep g T2 H2 d x) ∧ (nx m1 i = some none → J.stop i H1)
def RfL (g : G) (wi : TI) (f : LF) : Prop := ∀ T σ H ρ m nx m', RepH g T H m → RepS g T H σ ρ → f ρ m = some (nx, m') → ∀ R : It → Hp → Prop, (∀ J T' H', Le T H T' H' → RepH g T' H' m' → ItLv g T' H' J nx → R J H') → wi σ H R
structure DL (X : Cx) (tg iter : Expr) (f : LF) : Prop where
  ex : ∃ wi, PI X tg iter wi ∧ RfL (gx X) wi f
theorem ItLv.le {T1 : Tk} {H1 : Hp} {J : It} {nx : NX} (l : Le T H T1 H1) (h : ItLv g T H J nx) : ItLv g T1 H1 J nx := fun T2 H2 l2 => h T2 H2 (l.trans l2)
def forLv (f : GF) (b : SF) (nx : NX) : Nat → Nat → SF
  | 0, _ => fun _ _ => none
  | k + 1, i => fun ρ m => match nx m i with
    | none => none
    | some none => some (.nx ρ, m)
    | some (some x) => bd (f x ρ m) fun ρ1 m1 => bd (b ρ1 m1) fun r m2 => match r with
        | .nx ρ2 => forLv f b nx k (i + 1) ρ2 m2
        | .ct ρ2 => forLv f b nx k (i + 1) ρ2 m2
        | .bk ρ2 => some (.nx ρ2, m2)
        | .rt d => some (.rt d, m2)
def sForV (fuel : Nat) (it : LF) (f : GF) (b : SF) : SF := fun ρ m => bd (it ρ m) fun nx m1 => forLv f b nx fuel 0 ρ m1
theorem ds_forV {tg iter : Expr} {body : List Stmt} {fi : LF} {fg : GF} {fb : SF} (fuel : Nat) (hp : PassesOwn (model X.prog X.w) X.A X.env X.xe) (hc : X.calm = true) (hi : DL X tg iter fi) (hg : DG X tg fg) (hb : DSs X body fb)
    (hs : ∀ x, foldedSetIterable iter X.env x = pure x := by intro _; rfl) : DS X (.For tg iter body [] pos) (sForV fuel fi fg fb) := by
  obtain ⟨ti, pi, ri⟩ := hi.ex; obtain ⟨tg', pg, rg⟩ := hg.ex; obtain ⟨tb, pb, rb⟩ := hb.ex
  refine ⟨_, ps_for hp hc pi pg pb hs, fun T σ H ρ m r m' hm hs hf D k => ?_⟩
  obtain ⟨nx, m1, e1, hf⟩ := bd_some hf
  refine ri T σ H ρ m nx m1 hm hs e1 _ fun J T0 H0 l0 hm0 ok => ?_
  refine ⟨fun i j σ1 H1 => ∃ T1 ρ1 m1, Le T0 H0 T1 H1 ∧ RepH (gx X) T1 H1 m1 ∧ RepS (gx X) T1 H1 σ1 ρ1 ∧ forLv fg fb nx j i ρ1 m1 = some (r, m'), ⟨fuel, T0, ρ, m1, .refl, hm0, hs.le l0, hf⟩, ?_⟩
  rintro i j σ1 H1 ⟨T1, ρ1, m2, l1, hm1, hs1, hfj⟩
  cases j with
  | zero => cases hfj
  | succ j =>
    obtain ⟨okG, okS⟩ := ok T1 H1 l1 m2 hm1 i
    unfold forLv at hfj
    split at hfj
    · cases hfj
    · next hn =>
      cases hfj
      left
      exact ⟨okS hn, k σ1 T1 H1 (l0.trans l1) hm1 hs1⟩
    · next y hy =>
      right
      obtain ⟨go, yl⟩ := okG y hy
      refine ⟨go, _, fun _ _ q => q, fun z H2 y2 => ?_⟩
      obtain ⟨T2, l2, hm2, r2⟩ := yl z H2 y2
      obtain ⟨ρ3, m3, e3, hf3⟩ := bd_some hfj
      refine rg T2 σ1 _ ρ1 m2 y z ρ3 m3 hm2 (hs1.le l2) r2 e3 _ fun σ3 T3 H3 l3 hm3 hs3 => ?_
      obtain ⟨fl, m4, e4, hf4⟩ := bd_some hf3
      refine rb T3 σ3 H3 ρ3 m3 fl m4 hm3 hs3 e4 _ ?_
      have l13 := l1.trans (l2.trans l3)
      cases fl with
      | nx ρ4 => exact fun σ4 T4 H4 l4 hm4 hs4 => ⟨j, Nat.lt_succ_self _, T4, ρ4, m4, l13.trans l4, hm4, hs4, hf4⟩
      | ct ρ4 => exact fun σ4 T4 H4 l4 hm4 hs4 => ⟨j, Nat.lt_succ_self _, T4, ρ4, m4, l13.trans l4, hm4, hs4, hf4⟩
      | bk ρ4 => cases hf4; exact KS.le (l0.trans l13) k
      | rt d => cases hf4; exact KV.le (l0.trans l13) k
def compLv (t : Tgt) (c : TF) (e : EF) (nx : NX) (ρ : Ss) : Nat → Nat → M → Option (List D × M)
  | 0, _, _ => none
  | k + 1, i, m => match nx m i with
    | none => none
    | some none => some ([], m)
    | some (some x) => match t.un x with
      | some ds => bd (c (setMany ρ t.is ds) m) fun b m1 => if b then bd (e (setMany ρ t.is ds) m1) fun y m2 => bd (compLv t c e nx ρ k (i + 1) m2) fun ys m3 => some (y :: ys, m3) else compLv t c e nx ρ k (i + 1) m1
      | none => none
def eLcV (nw : Bool) (it : LF) (t : Tgt) (c : TF) (e : EF) : EF := fun ρ m => bd (it ρ m) fun nx m1 => bd (compLv t c e nx ρ 1000001 0 m1) fun ys m2 => some (bif nw then (.ref m2.length, m2 ++ [.lst ys]) else (.lst ys, m2))
theorem rf_lcV {wi : TI} {it : LF} {t : Tgt} {tg : TG} {tt : TT} {te : TE} {c : TF} {e : EF} (hi : RfL g wi it) (hg : ∀ T σ H d v ds, Rep g T H d v → t.un d = some ds → ∀ Q, (∀ vs, RepL g T H ds vs → Q (setMany σ t.is vs) H) → tg v σ H Q)
    (hc : RfT g tt c) (he : RfE g te e) {is : List Nat} (his : is = t.is) {nw : Bool} : RfE g (tLc wi tg tt te is) (eLcV nw it t c e) := by
  subst his
  intro T σ H ρ m d m' hm hs hf Q k
  obtain ⟨nx, m1, e1, hf⟩ := bd_some hf
  obtain ⟨ys, mz, e2, hf⟩ := bd_some hf
  have hf := Option.some.inj hf
  refine hi T σ H ρ m nx m1 hm hs e1 _ fun J T0 H0 l0 hm0 ok p hp => ?_
  have hs0 := hs.le l0
  obtain ⟨md, lf⟩ := Made.new hm0 hp
  have start : Le T0 H0 T0 (upd H0 p (.lst [])) := ⟨List.prefix_rfl, fun a u e _ => by rw [upd_ne (ne_of_none e hp)]; exact e, fun a h n => absurd h n, fun a h n => absurd h n, fun a h => h⟩
  refine ⟨fun i j H1 => i + j = 1000001 ∧ ∃ T1 m1 ds rest, Le T0 H0 T1 H1 ∧ Made g T1 H1 m1 p ds ∧ ds.length ≤ i ∧ RepS g (T1.forb p) H1 σ ρ ∧ compLv t c e nx ρ j i m1 = some (rest, mz) ∧ ys = ds ++ rest, ⟨1000001, by omega, T0, m1, [], ys, start, md, Nat.le_refl _, hs0.le lf, e2, rfl⟩, ?_⟩
  rintro i j H1 ⟨hij, T1, m1', ds, rest, l1, md1, hdl, hs1, hf1, hy⟩
  obtain ⟨vs1, hv1, rl1⟩ := md1.at_
  have okT : ItLv g (T1.forb p) H1 J nx := fun T2 H2 l2 mm hmm => ok (⟨T2.μ, T2.ν, T2.sub⟩) H2 (by
    refine ⟨l1.pre.trans l2.pre, fun a u h n => l2.keep a u (l1.keep a u h n) fun z => ?_, fun a ha n => ?_, fun a ha n => ?_, fun a h => l2.up a (List.mem_cons_of_mem _ (l1.up a h))⟩
    · rw [l1.newμ a z n] at h; cases h
    · cases e : H0 a with
      | none => rfl
      | some u =>
        have n1 : a ∉ (T1.forb p).ν := fun z => by
          rcases List.mem_cons.mp z with rfl | z
          · rw [hp] at e; cases e
          · exact l1.out e n z
        have := l2.new a ha n1
        rw [l1.keep a u e (Tk.out n)] at this
        cases this
    · cases e : H0 a with
      | none => rfl
      | some u =>
        have n1 : a ∉ T1.μ := fun z => by rw [l1.newμ a z n] at e; cases e
        have := l2.newμ a ha n1
        rw [l1.keep a u e n] at this
        cases this) mm hmm
  obtain ⟨okG, okS⟩ := okT (T1.forb p) H1 .refl m1' md1.hm i
  cases j with
  | zero => cases hf1
  | succ j =>
    unfold compLv at hf1
    split at hf1
    · cases hf1
    · next hn =>
      left
      cases hf1
      rw [List.append_nil] at hy
      subst hy
      refine ⟨okS hn, ?_⟩
      cases nw with
      | false =>
        cases hf
        obtain ⟨hmd, rd⟩ := md1.done l1
        exact k _ T1 H1 (l0.trans l1) hmd rd
      | true =>
        cases hf
        obtain ⟨l3, hmd, rd⟩ := md1.track l1 hp
        exact k _ _ H1 (l0.trans l3) hmd rd
    · next y0 hy0 =>
      right
      obtain ⟨go, yl⟩ := okG y0 hy0
      refine ⟨go, _, fun _ q => q, fun x H2 y2 => ?_⟩
      obtain ⟨T2, l2, hm2, r2⟩ := yl x H2 y2
      split at hf1
      · next es hes =>
        obtain ⟨b, m3, e3, hf3⟩ := bd_some hf1
        refine hg T2 (wipe σ t.is) H2 y0 x es r2 hes _ fun vs rv => ⟨?_, ?_⟩
        · rw [wipe_many t.is vs _ fun u hu => hu, wipe_wipe t.is fun u hu => hu]
        · have hs2 : RepS g T2 H2 (setMany (wipe σ t.is) t.is vs) (setMany ρ t.is es) := many_wiped (hs1.le l2) rv (Tgt.un_len hes)
          refine hc T2 _ H2 _ m1' b m3 hm2 hs2 e3 _ fun T3 H3 l3 hm3 => ?_
          cases b with
          | false =>
            obtain ⟨T4, l4, md4, e4, e5⟩ := md1.step l1 hp (l2.trans l3) hm3
            exact ⟨j, Nat.lt_succ_self _, by omega, T4, m3, ds, rest, l4, md4, by omega, ⟨hs1.len, fun q d hq => by
              obtain ⟨v, h1, h2⟩ := (hs1.le (l2.trans l3)).at_ q d hq
              exact ⟨v, h1, Rep.wk (T' := T4.forb p) e4 (fun a h => (e5 a).mp h) _ h2⟩⟩, hf3, hy⟩
          | true =>
            obtain ⟨y, m4, e6, hf4⟩ := bd_some hf3
            obtain ⟨ys', m5, e7, hf5⟩ := bd_some hf4
            cases hf5
            refine he T3 _ H3 _ m3 y m4 hm3 (hs2.le l3) e6 _ fun v T4 H4 l4 hm4 r4 => ?_
            obtain ⟨T5, l5, md5, e8, e9⟩ := md1.step l1 hp (l2.trans (l3.trans l4)) hm4
            obtain ⟨vs5, hv5, _⟩ := md5.at_
            have r5 : Rep g (T5.forb p) H4 y v := Rep.wk (T' := T5.forb p) e8 (fun a h => (e9 a).mp h) _ r4
            obtain ⟨md6, l6⟩ := md5.app l5 hp r5 hv5
            have hl5 : vs5.length = ds.length := by
              obtain ⟨w, hw, q⟩ := md5.at_
              rw [hv5] at hw
              cases hw
              exact q.length.symm
            refine ⟨vs5, hv5, ?_, j, Nat.lt_succ_self _, by omega, T5, m4, ds ++ [y], ys', l6, md6, by simp; omega, ⟨hs1.len, fun q d hq => ?_⟩, e7, by rw [hy]; simp⟩
            · rw [hl5, sizeLine_eq]; omega
            · obtain ⟨w, h1, h2⟩ := (hs1.le (l2.trans (l3.trans l4))).at_ q d hq
              exact ⟨w, h1, Rep.upF (List.mem_cons_self ..) _ (Rep.wk (T' := T5.forb p) e8 (fun a h => (e9 a).mp h) _ h2)⟩
      · cases hf1
theorem de_lcV {nw : Bool} {elt tg iter : Expr} {ifs : List Expr} {scope : Scope} {own : List (Str × Nat)} {fi : LF} {t : Tgt} {fc : TF} {fe : EF} (hc : X.calm = true) (hN : X.N.Nodup) (hi : DL X tg iter fi) (ok : BlkOk X.N X.env.scope scope own)
    (hg : ∀ (s : Shared) (H : Hp) (C : Addr) (cl : List (Str × Addr)) (fp : List Addr), DGn (X.blk s H scope (compEnvC scope cl C X.env) fp) tg t) (ht : ∀ (s : Shared) (H : Hp) (C : Addr) (cl : List (Str × Addr)) (fp : List Addr), DTs (X.blk s H scope (compEnvC scope cl C X.env) fp) ifs fc)
    (he : ∀ (s : Shared) (H : Hp) (C : Addr) (cl : List (Str × Addr)) (fp : List Addr), DE (X.blk s H scope (compEnvC scope cl C X.env) fp) elt fe) (hq : own.map (·.2) = t.is := by rfl) (hs : ∀ x, foldedSetIterable iter X.env x = pure x := by intro _; rfl) :
    DE X (.ListComp elt [⟨tg, iter, ifs, 0⟩] scope pos) (eLcV nw fi t fc fe) := by
  obtain ⟨ti, pi, ri⟩ := hi.ex
  refine ⟨_, pe_lc (g := fun v σ H Q => ∀ s H' C cl fp, ∃ t, PG (X.blk s H' scope (compEnvC scope cl C X.env) fp) tg t ∧ t v σ H Q) (tt := fun σ H Q => ∀ s H' C cl fp, ∃ t, PTs (X.blk s H' scope (compEnvC scope cl C X.env) fp) ifs t ∧ t σ H Q)
    (te := fun σ H Q => ∀ s H' C cl fp, ∃ t, PE (X.blk s H' scope (compEnvC scope cl C X.env) fp) elt t ∧ t σ H Q) hc hN pi ok (fun s H C cl fp => ⟨fun pins s1 σ H1 v u Q I r h => ?_⟩) (fun s H C cl fp => ⟨fun pins s1 σ H1 Q I h => ?_⟩) (fun s H C cl fp => ⟨fun pins s1 σ H1 Q I h => ?_⟩) hs, ?_⟩
  · obtain ⟨t, p, q⟩ := h s H C cl fp
    exact p.run pins s1 σ H1 v u Q I r q
  · obtain ⟨t, p, q⟩ := h s H C cl fp
    exact p.run pins s1 σ H1 Q I q
  · obtain ⟨t, p, q⟩ := h s H C cl fp
    exact p.run pins s1 σ H1 Q I q
  · refine rf_lcV ri ?_ ?_ ?_ hq
    · intro T σ H d v ds r hu Q k s H' C cl fp
      obtain ⟨t, p, q⟩ := (hg s H' C cl fp).ex
      exact ⟨t, p, q T σ H d v ds r hu Q k⟩
    · intro T σ H ρ m b m' hm hs hf Q k s H' C cl fp
      obtain ⟨t, p, q⟩ := (ht s H' C cl fp).ex
      exact ⟨t, p, q T σ H ρ m b m' hm hs hf Q k⟩
    · intro T σ H ρ m b m' hm hs hf Q k s H' C cl fp
      obtain ⟨t, p, q⟩ := (he s H' C cl fp).ex
      exact ⟨t, p, q T σ H ρ m b m' hm hs hf Q k⟩
def nxC (xs : List D) : NX := fun _ i => if i ≤ xs.length then some xs[i]? else none
def nxR (n : Nat) : NX := fun m i => (m[n]?).bind fun ob => (lstO ob).map fun ds => ds[i]?
theorem nxC_some {xs : List D} {m : M} {i : Nat} {d : D} (h : nxC xs m i = some (some d)) : xs[i]? = some d := by
  obtain ⟨_, h⟩ := ite_some h
  exact Option.some.inj h
theorem nxC_end {xs : List D} {m : M} {i : Nat} (h : nxC xs m i = some none) : xs.length = i := by
  obtain ⟨h1, h⟩ := ite_some h
  have := List.getElem?_eq_none_iff.mp (Option.some.inj h)
  omega
theorem itlv_of {J : It} {xs : List D} (h : ItOk g T H J xs) : ItLv g T H J (nxC xs) := fun T1 H1 l m1 hm1 i => ⟨fun d hd => (h T1 H1 l m1 hm1 i).1 d (nxC_some hd), fun hd => (h T1 H1 l m1 hm1 i).2 (nxC_end hd)⟩
theorem nxR_some {n i : Nat} {m : M} {r : Option D} (h : nxR n m i = some r) : ∃ ds, m[n]? = some (.lst ds) ∧ r = ds[i]? := by
  obtain ⟨ob, h1, h2⟩ := Option.bind_eq_some_iff.mp h
  obtain ⟨ds, h3, rfl⟩ := Option.map_eq_some_iff.mp h2
  cases ob with
  | lst ds' => cases h3; exact ⟨ds, h1, rfl⟩
  | _ => cases h3
theorem at_lst {n : Nat} {a : Addr} {ds : List D} (hm : RepH g T H m) (ea : T.μ[n]? = some a) (h : m[n]? = some (.lst ds)) : ∃ vs, H a = some (.lst vs) ∧ RepL g T H ds vs := by
  cases hm.at_ _ _ _ ea h with
  | lst h1 r => exact ⟨_, h1, r⟩
theorem itlv_ref {n : Nat} {a : Addr} (ea : T.μ[n]? = some a) : ItLv g T H (Itl g.K a) (nxR n) := by
  intro T1 H1 l m1 hm1 i
  refine ⟨fun d hd => ?_, fun hd => ?_⟩
  · obtain ⟨ds, h1, h2⟩ := nxR_some hd
    obtain ⟨vs, hv, r⟩ := at_lst hm1 (l.get ea) h1
    obtain ⟨v, ev, q⟩ := r.get h2.symm
    refine ⟨⟨vs, v, SqL.of hv, ev⟩, fun x H2 ⟨eq, hy⟩ => ?_⟩
    subst eq
    have := hy vs (SqL.of hv)
    rw [ev] at this
    cases this
    exact ⟨T1, .refl, hm1, q⟩
  · obtain ⟨ds, h1, h2⟩ := nxR_some hd
    obtain ⟨vs, hv, r⟩ := at_lst hm1 (l.get ea) h1
    exact ⟨vs, SqL.of hv, r.none (List.getElem?_eq_none_iff.mp h2.symm)⟩
def lIt (a : EF) : LF := fun ρ m => bd (a ρ m) fun x m1 => match x with
  | .ref n => ((m1[n]?).bind lstO).map fun _ => (nxR n, m1)
  | x => (items x).map fun xs => (nxC xs, m1)
theorem dl_any {tg e : Expr} {f : EF} (h : DE X e f) : DL X tg e (lIt f) := by
  obtain ⟨t, p, r⟩ := h.ex
  refine ⟨_, pi_any p, fun T σ H ρ m nx m' hm hs hf R k => ?_⟩
  obtain ⟨x, m1, e1, hf⟩ := bd_some hf
  refine r T σ H ρ m x _ hm hs e1 _ fun v T1 H1 l1 hm1 r1 => ?_
  cases r1 with
  | tup f q => cases hf; exact .inr (.inl ⟨_, rfl, ⟨_, f.sq⟩, k _ T1 H1 l1 hm1 (itlv_of (itok_T fun T2 H2 l => ⟨_, (f.le l).sq, q.le l⟩))⟩)
  | lst f q => cases hf; exact .inl ⟨_, rfl, ⟨_, f.sq⟩, k _ T1 H1 l1 hm1 (itlv_of (itok_L fun T2 H2 l => ⟨_, (f.le l).sq, q.le l⟩))⟩
  | scr f q => cases hf; exact .inl ⟨_, rfl, ⟨_, f.sq⟩, k _ T1 H1 l1 hm1 (itlv_of (itok_L fun T2 H2 l => ⟨_, (f.le l).sq, q.le l⟩))⟩
  | str x => cases hf; exact .inr (.inr ⟨_, rfl, k _ T1 H1 l1 hm1 (itlv_of itok_S)⟩)
  | @ref n a ea =>
    obtain ⟨ds, h1, h2⟩ := Option.map_eq_some_iff.mp hf
    cases h2
    obtain ⟨ob, h3, h4⟩ := Option.bind_eq_some_iff.mp h1
    cases ob with
    | lst ds' =>
      obtain ⟨vs, hv, _⟩ := at_lst hm1 ea h3
      exact .inl ⟨_, rfl, ⟨_, SqL.of hv⟩, k _ T1 H1 l1 hm1 (itlv_ref ea)⟩
    | _ => cases h4
  | _ => cases hf
end
end L4
namespace L4
open PySem PySem.Spec PyProof.Rows PySem.W L2
theorem enum_new1 {v : Value} {ob : Obj} {H : Heap → Prop} (B : Begins v ob H) :
    Meets (Builtin.«enumerate.__new__» ⟨[.type "enumerate", v], []⟩) (fun _ R s => H s.heap ∧
      R (.ok (.ret (.ref (s.heap.push ob).objs.size))) { s with heap := (s.heap.push ob).push { cls := .type "enumerate", data := .fields #[.none, .bool false, .ref s.heap.objs.size, rawInt 0, .none, .none] } }) :=
  .of_wp fun prog w A R s h => by
    obtain ⟨hp, gn, dr, tk, os⟩ := s; obtain ⟨h1, h⟩ := h
    have subE := sub_enumerate
    have q1 : ∀ {A' : Around} {E : Value → Shared → Prop} {Q : Value → Shared → Prop}, Q (.ref hp.objs.size) ⟨hp.push ob, gn, dr, tk, os⟩ → wpAny (model prog w) A' (pyIter v) Q E ⟨hp, gn, dr, tk, os⟩ :=
      fun q => B.iter prog w _ _ _ _ h1 q
    wp_walk using q1
    refine wpAny_stack_any fun st => wpAny_pure ?_
    split
    · rename_i c _ _ _ _ _
      cases (c == Value.type "enumerate") <;> (wp_walk using q1; exact ⟨_, rfl, h⟩)
    · wp_walk using q1
      exact ⟨_, rfl, h⟩
section
variable {prog : Program} {w : World} {A : Around} {E : Value → Shared → Prop} {s : Shared}
theorem enum_call1 {v : Value} {ob : Obj} {H : Heap → Prop} {Q : Value → Shared → Prop} (B : Begins v ob H) (h1 : H s.heap)
    (h : ∀ h', IsEnum h' (s.heap.objs.size + 1) s.heap.objs.size 0 .none → h'.get? s.heap.objs.size = some ob → (∀ b q, s.heap.get? b = some q → h'.get? b = some q) → Q (.ref (s.heap.objs.size + 1)) { s with heap := h' }) :
    wpAny (model prog w) A (call (.type "enumerate") [v]) Q E s := by
  refine callType_new F.called_enumerate (by decide) (F.typeCall_enumerate_1 _) (F.newCall_enumerate_1 _) (fun obj => F.args_object_init_2 obj _) F.entry_enumerate_new (enum_new1 B) ⟨h1, ?_⟩
  have hz : (s.heap.push ob).objs.size = s.heap.objs.size + 1 := Heap.size_push ..
  show _ ∧ _
  rw [hz]
  have he : IsEnum ((s.heap.push ob).push { cls := .type "enumerate", data := .fields #[.none, .bool false, .ref s.heap.objs.size, rawInt 0, .none, .none] }) (s.heap.objs.size + 1) s.heap.objs.size 0 .none := by
    have hq := Heap.get?_push_size (s.heap.push ob) (o := { cls := .type "enumerate", data := .fields #[.none, .bool false, .ref s.heap.objs.size, rawInt 0, .none, .none] }) rfl
    rw [hz] at hq; exact hq
  exact ⟨⟨_, he, rfl⟩, h _ he (Heap.get?_push_of_some _ (Heap.get?_push_size _ B.free)) fun b q x => Heap.get?_push_of_some _ (Heap.get?_push_of_some _ x)⟩
end
/-- the tuple at a, its items in new pairs -/
def IteT (K : PySem.W.Frag) (a : Addr) : It :=
  ⟨fun i H => ∃ (xs : List V) (x : V), SqT K H a xs ∧ xs[i]? = some x, fun i H v H' => ∃ t x, v = .ref t ∧ H t = none ∧ H' = upd H t (.tup [.int (i : Nat), x]) ∧ ∀ xs, SqT K H a xs → xs[i]? = some x, fun i H => ∃ xs : List V, SqT K H a xs ∧ xs.length = i⟩
theorem turn_enumT {P : Program} {w : World} {K : PySem.W.Frag} {elts : List Expr} {kk : Nat} {tpos : Pos} (a e it : Addr) (hea : e ≠ a) (hia : it ≠ a) :
    Turn P w K (.Tuple elts kk tpos) (IteT K a) [e, it] e (fun i h => (∃ old, IsEnum h e it ((i : Nat) : Int) old) ∧ h.IsTupleIter it a i ∧ e ≠ it) where
  mem := by simp
  obj := fun i h st b hb => by
    obtain ⟨⟨old, he⟩, ⟨ob, ho, hc, hd⟩, _⟩ := st
    have hbe : b = e ∨ b = it := by simpa using hb
    rcases hbe with z | z
    · rw [z]; exact ⟨_, he, fun v q => nomatch q⟩
    · rw [z]; exact ⟨ob, ho, fun v q => by rw [hd] at q; cases q⟩
  keep := fun i h h' st k => let ⟨⟨old, he⟩, hi, hne⟩ := st; ⟨⟨old, k e (by simp) _ he⟩, hi.at fun q z => k it (by simp) q z, hne⟩
  item := by
    intro X hP hw hK hc i pins s σ H E I hf st hg
    subst hP hw hK
    obtain ⟨⟨old, he⟩, hit, hne⟩ := st
    obtain ⟨xs, x, hq, hx⟩ := hg
    obtain ⟨its, rv, p, hz⟩ := I.tuple hq
    obtain ⟨u, hu, ru⟩ := rv.get hx
    have hel : e < s.heap.objs.size := Heap.lt_size he
    have hil : it < s.heap.objs.size := by obtain ⟨_, q, _⟩ := hit; exact Heap.lt_size q
    have hli : i < its.toArray.size := by
      have := (List.getElem?_eq_some_iff.mp hu).1
      simpa using this
    refine wpAny_pyNext_enum_itemC (D := Draws.tuple (A := X.A.in1) (I.ok.hd hc) it a (Ne.symm hia) its.toArray) he ⟨hit, p⟩ hli hne (by simp [hne, hea]) fun x1 h' tk hPx ho hit' hT hsz hk => ?_
    have ex : x1 = u := by
      have hPx : its.toArray[i]? = some x1 := hPx
      rw [List.getElem?_toArray, hu] at hPx
      exact (Option.some.inj hPx).symm
    subst ex
    refine ⟨_, rfl, wpAny_letOwnedTupleGo_enum (s := { s with heap := h', toks := tk + 1 }) ho fun h'' he' sb => ?_⟩
    have hT2 : h''.get? s.heap.objs.size = some { cls := .type "tuple", data := .seq #[.int i tk, x1] } := (sb.2 _ (Nat.ne_of_gt hel)).trans hT
    have new : ObjOk X.prog X.w (upd H s.heap.objs.size (.tup [.int (i : Nat), x])) h'' s.heap.objs.size (.tup [.int (i : Nat), x]) :=
      ⟨by show 2 ≤ sizeLine; decide, [.int i tk, x1], .cons ⟨_, rfl⟩ (.cons ru .nil), ⟨_, hT2, rfl, _, rfl⟩⟩
    have I1 : Inv X pins σ (upd H s.heap.objs.size (.tup [.int (i : Nat), x])) { s with heap := h'', toks := tk + 1 } :=
      I.turnedNew (ch := [e, it]) (fun b ob hb q => (sb.2 b (fun z => hb (by simp [z]))).trans (hk b ob (fun z => hb (by simp [z])) (fun z => hb (by simp [z])) q)) hf (Nat.le_refl _) new
    refine ⟨.ref s.heap.objs.size, _, I1, rfl, ⟨_, x, rfl, I.hok.fresh (Nat.le_refl _), rfl, fun ys hy => by rw [I.tuple_inj hy hq]; exact hx⟩, ⟨⟨x1, ?_⟩, hit'.1.at fun q z => (sb.2 it (Ne.symm hne)).trans z, hne⟩, fun b hb => ?_⟩
    · have e1 : ((i + 1 : Nat) : Int) = (i : Int) + 1 := by omega
      rw [e1]; exact he'
    · have hb' : b < s.heap.objs.size := by
        have hbe : b = e ∨ b = it := by simpa using hb
        rcases hbe with z | z
        · rw [z]; exact hel
        · rw [z]; exact hil
      rw [upd_ne (Nat.ne_of_lt hb')]
      exact (hf b hb).1
  done := by
    intro X hP hw hK hc i pins s σ H E I hf st hg
    subst hP hw hK
    obtain ⟨⟨old, he⟩, hit, hne⟩ := st
    obtain ⟨xs, hq, hx⟩ := hg
    obtain ⟨its, rv, p, hz⟩ := I.tuple hq
    obtain ⟨f0, f1, f2, f3, f4, f5⟩ := hf it (by simp)
    have hl := rv.length
    have hi : its.toArray.size = i := by simp; omega
    exact wpAny_pyNext_enum_endD (D := Draws.tuple (A := X.A.in1) (I.ok.hd hc) it a (Ne.symm hia) its.toArray) he ⟨by rw [hi]; exact hit, p⟩ fun h' eb => ⟨rfl, I.turned (t' := s.toks) (fun b q hb z => eb b q hb z) f0 f1 f3 f4 f5⟩
  self := fun A i s Q E st h => let ⟨⟨_, he⟩, _⟩ := st; wpAny_pyIter_enum he h
def iEnumA (K : PySem.W.Frag) (ta : TA) : TI := fun σ H R => ta σ H fun vs H1 => (∃ a xs, vs = [.ref a] ∧ SqL K H1 a xs ∧ R (Ite K a) H1) ∨ (∃ a xs, vs = [.ref a] ∧ SqT K H1 a xs ∧ R (IteT K a) H1)
theorem pi_enumA {X : Cx} {e : Expr} {ta : TA} {p pos tpos : Pos} {elts : List Expr} {kk : Nat} (hg : Gl X "enumerate") (hm : X.mg "enumerate" = none) (ha : PA X [e] ta) (hs : starEach [e] X.env = [(false, eval e X.env)] := by rfl) :
    PI X (.Tuple elts kk tpos) (.Call (.Name "enumerate" p) [e] [] pos) (iEnumA X.K ta) := by
  refine ⟨fun pins s σ H R I h => ?_⟩
  refine Call_ (ld_blt I hg hm boot_enumerate (PyProof.Rows.callWith_type1 (thn (ha.run pos pins s σ H _ I h) fun us s1 ⟨vs, H1, I1, r1, q1⟩ => ?_) hs rfl))
  rcases q1 with ⟨a, xs, ex, hq, q⟩ | ⟨a, xs, ex, hq, q⟩
  · subst ex
    cases r1 with
    | cons r rr =>
      cases rr
      cases r
      obtain ⟨its, rv, p', hz⟩ := I1.list hq
      refine call_enumerate_list p'.isList fun h' he hit hsz hk => wpAny_pyIter_enum he ?_
      have I2 : Inv X pins σ H1 { s1 with heap := h' } := I1.kept (t' := s1.toks) hk
      refine ⟨s1.heap.objs.size + 1, [s1.heap.objs.size + 1, s1.heap.objs.size], _, _, H1, rfl, I2, turn_enum a (s1.heap.objs.size + 1) s1.heap.objs.size, ⟨⟨.none, he⟩, hit, Nat.succ_ne_self _⟩, fun b hb => ?_, q⟩
      have hle : s1.heap.objs.size ≤ b := by
        have hbb : b = s1.heap.objs.size + 1 ∨ b = s1.heap.objs.size := by simpa using hb
        rcases hbb with z | z
        · rw [z]; exact Nat.le_add_right _ _
        · rw [z]; exact Nat.le_refl _
      exact I1.fpOk hle (I1.hok.fresh hle)
  · subst ex
    cases r1 with
    | cons r rr =>
      cases rr
      cases r
      obtain ⟨its, rv, p', hz⟩ := I1.tuple hq
      have hlt : a < s1.heap.objs.size := by obtain ⟨ob, h1, _⟩ := id p'; exact Heap.lt_size h1
      refine enum_call1 (begins_tuple a its.toArray) p' fun h' he hit hk => wpAny_pyIter_enum he ?_
      have I2 : Inv X pins σ H1 { s1 with heap := h' } := I1.kept (t' := s1.toks) hk
      refine ⟨s1.heap.objs.size + 1, [s1.heap.objs.size + 1, s1.heap.objs.size], _, _, H1, rfl, I2, turn_enumT a (s1.heap.objs.size + 1) s1.heap.objs.size (Nat.ne_of_gt (Nat.lt_succ_of_lt hlt)) (Nat.ne_of_gt hlt), ⟨⟨.none, he⟩, ⟨_, hit, rfl, rfl⟩, Nat.succ_ne_self _⟩, fun b hb => ?_, q⟩
      have hle : s1.heap.objs.size ≤ b := by
        have hbb : b = s1.heap.objs.size + 1 ∨ b = s1.heap.objs.size := by simpa using hb
        rcases hbb with z | z
        · rw [z]; exact Nat.le_add_right _ _
        · rw [z]; exact Nat.le_refl _
      exact I1.fpOk hle (I1.hok.fresh hle)
section
variable {X : Cx} {g : G} {T T' : Tk} {H : Hp} {m : M} {Q : VK} {pos p apos : Pos} {e o : Expr} {es : List Expr} {k n : Nat} {x c nm : Str}
def nxE (nx : NX) : NX := fun m i => (nx m i).map fun r => r.map fun d => .tup [.int (i : Nat), d]
theorem nxE_some {nx : NX} {i : Nat} {d : D} (h : nxE nx m i = some (some d)) : ∃ y, nx m i = some (some y) ∧ d = .tup [.int (i : Nat), y] := by
  obtain ⟨r, h1, h2⟩ := Option.map_eq_some_iff.mp h
  cases r with
  | none => cases h2
  | some y => cases h2; exact ⟨y, h1, rfl⟩
theorem nxE_end {nx : NX} {i : Nat} (h : nxE nx m i = some none) : nx m i = some none := by
  obtain ⟨r, h1, h2⟩ := Option.map_eq_some_iff.mp h
  cases r with
  | none => exact h1
  | some y => cases h2
theorem itlv_enum {J J' : It} {nx : NX} (h : ItLv g T H J nx) (hgo : ∀ i H, J.go i H → J'.go i H) (hst : ∀ T1 H1 m1 i, Le T H T1 H1 → RepH g T1 H1 m1 → nx m1 i = some none → J'.stop i H1)
    (hy : ∀ i H v H', J'.yld i H v H' → ∃ t x, v = .ref t ∧ H t = none ∧ H' = upd H t (.tup [.int (i : Nat), x]) ∧ J.yld i H x H) : ItLv g T H J' (nxE nx) := by
  intro T1 H1 l m1 hm1 i
  obtain ⟨h1, h2⟩ := h T1 H1 l m1 hm1 i
  refine ⟨fun d hd => ?_, fun hd => hst T1 H1 m1 i l hm1 (nxE_end hd)⟩
  obtain ⟨y, h3, rfl⟩ := nxE_some hd
  obtain ⟨go, yl⟩ := h1 y h3
  refine ⟨hgo i H1 go, fun x H2 hyl => ?_⟩
  obtain ⟨t, x0, rfl, hn, rfl, h4⟩ := hy i H1 x H2 hyl
  obtain ⟨T2, l2, hm2, r2⟩ := yl x0 H1 h4
  obtain ⟨l3, hm3⟩ := hm2.fresh (p := t) (u := .tup [.int (i : Nat), x0]) hn
  exact ⟨T2, l2.trans l3, hm3, .tup (.inl ⟨hm2.nope hn, .inl upd_same⟩) (.cons (.int _) (.cons (r2.le l3) .nil))⟩
def lEn (a : AF) : LF := fun ρ m => bd (a ρ m) fun xs m1 => match xs with
  | [.ref n] => ((m1[n]?).bind lstO).map fun _ => (nxE (nxR n), m1)
  | [.tup ds] => some (nxE (nxC ds), m1)
  | [.lst ds] => some (nxE (nxC ds), m1)
  | [.scr ds] => some (nxE (nxC ds), m1)
  | _ => none
theorem enL {a : Addr} {nx : NX} (h : ItLv g T H (Itl g.K a) nx) : ItLv g T H (Ite g.K a) (nxE nx) := itlv_enum h (fun i H ⟨xs, x, h1, h2⟩ => ⟨xs, x, h1, h2⟩) (fun T1 H1 m1 i l hm1 hn => (h T1 H1 l m1 hm1 i).2 hn) fun i H v H' ⟨t, x, h1, h2, h3, h4⟩ => ⟨t, x, h1, h2, h3, rfl, h4⟩
theorem dl_enum {f : AF} {tpos : Pos} {elts : List Expr} {kk : Nat} (hg : Gl X "enumerate") (hm : X.mg "enumerate" = none) (ha : DA X [e] f) (hs : starEach [e] X.env = [(false, eval e X.env)] := by rfl) : DL X (.Tuple elts kk tpos) (.Call (.Name "enumerate" p) [e] [] pos) (lEn f) := by
  obtain ⟨t, pt, r⟩ := ha.ex
  refine ⟨_, pi_enumA hg hm pt hs, fun T σ H ρ m nx m' hm hs hf R k => ?_⟩
  obtain ⟨xs, m1, e1, hf⟩ := bd_some hf
  refine r T σ H ρ m xs _ hm hs e1 _ fun vs T1 H1 l1 hm1 r1 => ?_
  split at hf
  · next n =>
    obtain ⟨v, rfl, rv⟩ := r1.one
    obtain ⟨ds, h1, h2⟩ := Option.map_eq_some_iff.mp hf
    cases h2
    obtain ⟨ob, h3, h4⟩ := Option.bind_eq_some_iff.mp h1
    cases rv with
    | @ref _ a ea =>
      cases ob with
      | lst ds' =>
        obtain ⟨vs, hv, _⟩ := at_lst hm1 ea h3
        exact .inl ⟨a, vs, rfl, SqL.of hv, k _ T1 H1 l1 hm1 (enL (itlv_ref ea))⟩
      | _ => cases h4
  · next ds =>
    obtain ⟨v, rfl, rv⟩ := r1.one
    cases hf
    cases rv with
    | @tup a vs _ f q =>
      have base : ItLv (gx X) T1 H1 (Itt X.K a) (nxC ds) := itlv_of (itok_T fun T2 H2 l => ⟨_, (f.le l).sq, q.le l⟩)
      refine .inr ⟨a, vs, rfl, f.sq, k _ T1 H1 l1 hm1 (itlv_enum base (fun i H ⟨xs, x, h1, h2⟩ => ⟨xs, x, h1, h2⟩) (fun T2 H2 m2 i l hm2 hn => ⟨vs, (f.le l).sq, ?_⟩) fun i H v H' ⟨t, x, h1, h2, h3, h4⟩ => ⟨t, x, h1, h2, h3, rfl, h4⟩)⟩
      rw [← q.length]
      exact nxC_end hn
  · next ds =>
    obtain ⟨v, rfl, rv⟩ := r1.one
    cases hf
    cases rv with
    | @lst a vs _ f q => exact .inl ⟨a, vs, rfl, f.sq, k _ T1 H1 l1 hm1 (enL (itlv_of (itok_L fun T2 H2 l => ⟨_, (f.le l).sq, q.le l⟩)))⟩
  · next ds =>
    obtain ⟨v, rfl, rv⟩ := r1.one
    cases hf
    cases rv with
    | @scr a vs _ f q => exact .inl ⟨a, vs, rfl, f.sq, k _ T1 H1 l1 hm1 (enL (itlv_of (itok_L fun T2 H2 l => ⟨_, (f.le l).sq, q.le l⟩)))⟩
  · cases hf
end
end L4
namespace L4
open PySem PySem.Spec PyProof.Rows PySem.W L2
section
variable {X : Cx} {g : G} {T T' : Tk} {H : Hp} {m : M} {Q : VK} {pos p apos : Pos} {e o : Expr} {es : List Expr} {k n : Nat} {x c nm : Str}
inductive Tab (X : Cx) (k : Nat) : List (Str × (List D → Option D)) → Prop
  | nil : Tab X k []
  | cons {x n F tb} : PFn X.prog X.w X.K X.mg X.base k x n F → X.mg x = some (.ref (He.ga X.K x)) → Tab X k tb → Tab X k ((x, F) :: tb)
theorem Tab.get {k : Nat} {tb : List (Str × (List D → Option D))} {F : List D → Option D} (h : Tab X k tb) (e : tb.lookup x = some F) : ∃ n, PFn X.prog X.w X.K X.mg X.base k x n F ∧ X.mg x = some (.ref (He.ga X.K x)) := by
  induction h with
  | nil => cases e
  | @cons y n G tb p q t ih =>
    rw [List.lookup_cons] at e
    split at e
    · next hb =>
      cases e
      have := eq_of_beq hb
      subst this
      exact ⟨n, p, q⟩
    · exact ih e
end
end L4
namespace L4
open PySem PySem.Spec PyProof.Rows L2
abbrev NQ := List (NestedKey × Addr)
/-- the entries behind some items -/
inductive Ent (R : Value → Prop) : NQ → List (NestedKey × Addr × Value) → Prop
  | nil : Ent R [] []
  | snoc {l xs q u} : Ent R l xs → R u → Ent R (l ++ [q]) (storedH xs q.1 q.2 u)
theorem Ent.len {R : Value → Prop} {l : NQ} {xs : List (NestedKey × Addr × Value)} (h : Ent R l xs) : xs.length ≤ l.length := by
  induction h with
  | nil => exact Nat.le_refl _
  | @snoc l xs q u _ _ ih => have := storedH_length xs q.1 q.2 u; simp; omega
end L4
namespace L4
open PySem PySem.Spec PyProof.Rows L2
section
variable {X : Cx} {g : G} {T T' : Tk} {H : Hp} {m : M} {Q : VK} {pos p apos cpos : Pos} {e o : Expr} {es : List Expr} {k n : Nat} {x c nm : Str}
theorem countP_eqU {y : V} : ∀ {xs : List V} {us : List Value}, Vals xs us → xs.all flatV = true → us.countP (eqU y) = xs.countP fun z => eqV z y
  | _, _, .nil, _ => rfl
  | z :: xs, u :: us, .cons r t, f => by
    rw [List.all_cons, Bool.and_eq_true] at f
    rw [List.countP_cons, List.countP_cons, eqU_of r f.1, countP_eqU t f.2]
def flD : D → Option V
  | .non => some .non
  | .bl b => some (.bl b)
  | .int i => some (.int i)
  | .str x => some (.str x)
  | _ => none
def flL : List D → Option (List V)
  | [] => some []
  | d :: ds => match flD d, flL ds with
    | some v, some vs => some (v :: vs)
    | _, _ => none
theorem flD_rep {d : D} {v u : V} (h : flD d = some u) (r : Rep g T H d v) : v = u ∧ flatV u = true := by
  cases r <;> cases h <;> exact ⟨rfl, rfl⟩
theorem flL_rep : ∀ {ds : List D} {vs us : List V}, flL ds = some us → RepL g T H ds vs → vs = us ∧ us.all flatV = true
  | [], _, _, h, .nil => by cases h; exact ⟨rfl, rfl⟩
  | d :: ds, _, _, h, .cons r rr => by
    unfold flL at h
    split at h
    · next v vs h1 h2 =>
      cases h
      obtain ⟨rfl, f1⟩ := flD_rep h1 r
      obtain ⟨rfl, f2⟩ := flL_rep h2 rr
      exact ⟨rfl, by rw [List.all_cons, f1, f2]; rfl⟩
    · cases h
end
section
variable {X : Cx} {g : G} {T T' : Tk} {H H' : Hp} {m : M} {Q : VK} {pos p apos cpos tpos : Pos} {e o : Expr} {es : List Expr} {k n : Nat} {x c nm : Str}
def Dl : HO → Prop
  | .dK _ => True
  | .ext _ => True
  | _ => False
structure Lk (H H' : Hp) (d : Addr) (u : HO) : Prop where
  off : ∀ b, b ≠ d → H' b = H b
  dl : Dl u
  a : Rd H d u
  b : Rd H' d u
theorem Lk.ne {d b : Addr} {u v : HO} (l : Lk H H' d u) (h : H b = some v) (hv : ¬ Dl v) (hf : ∀ ob w, v = .frz ob w → ¬ Dl w) : b ≠ d := by
  rintro rfl
  rcases l.a with z | ⟨ob, z⟩
  · rw [h] at z; cases z; exact hv l.dl
  · rw [h] at z; cases z; exact hf _ _ rfl l.dl
theorem Lk.rd {d b : Addr} {u v : HO} (l : Lk H H' d u) (h : Rd H b v) (hv : Dl v) : Rd H' b v := by
  by_cases e : b = d
  · subst e
    have eu : u = v := by
      rcases h with h | ⟨ob, h⟩ <;> rcases l.a with z | ⟨oc, z⟩ <;> rw [h] at z <;> cases z
      · rfl
      · exact absurd hv (fun z => z)
      · exact absurd l.dl (fun z => z)
      · rfl
    rw [← eu]; exact l.b
  · rcases h with h | ⟨ob, h⟩
    · exact .inl ((l.off b e).trans h)
    · exact .inr ⟨ob, (l.off b e).trans h⟩
theorem Lk.st {d b : Addr} {u v : HO} (l : Lk H H' d u) (h : H b = some v) (hv : ¬ Dl v) (hf : ∀ ob w, v = .frz ob w → ¬ Dl w) : H' b = some v := (l.off b (l.ne h hv hf)).trans h
/-- a dict is let go again -/
structure Let (H : Hp) (T : Tk) (d : Addr) (ob : Obj) (u : HO) : Prop where
  h : H d = some u
  dl : Dl u
  out : d ∉ T.ν
section
variable {d : Addr} {ob : Obj} {u : HO} {T1 : Tk} {H1 : Hp}
theorem Let.at_ (l : Let H T d ob u) (q : Le T (upd H d (.frz ob u)) T1 H1) : H1 d = some (.frz ob u) := q.keep d _ upd_same (Tk.out l.out)
theorem Let.le (l : Let H T d ob u) (q : Le T (upd H d (.frz ob u)) T1 H1) : Le T H T1 (upd H1 d u) := by
  have gone : ∀ a, upd H d (.frz ob u) a = none → H a = none := fun a z => by
    by_cases e : a = d
    · subst e; rw [upd_same] at z; cases z
    · rw [upd_ne e] at z; exact z
  refine ⟨q.pre, fun a v h n => ?_, fun a h n => gone a (q.new a h n), fun a h n => gone a (q.newμ a h n), q.up⟩
  by_cases e : a = d
  · subst e
    rw [upd_same]
    exact l.h.symm.trans h
  · rw [upd_ne e]
    exact q.keep a v (by rw [upd_ne e]; exact h) n
end
end
end L4
namespace L4
open PySem PySem.Spec PyProof.Rows L2
section
variable {X : Cx} {g : G} {T T' : Tk} {H H' : Hp} {m : M} {Q : VK} {pos p apos cpos tpos : Pos} {e o : Expr} {es : List Expr} {k n : Nat} {x c nm : Str}
/-- what is not lent, but held back -/
def Held (T : Tk) (H H' : Hp) (ν : List Addr) : Prop := (∀ a ∈ ν, a ∈ T.ν) ∧ ∀ a ∈ T.ν, a ∉ ν → ∃ u, H a = some u ∧ H' a = some u ∧ Dl u
theorem Held.out {ν : List Addr} (h : Held T H H' ν) {a : Addr} {v : HO} (n : a ∉ ν) (e : H' a = some v) (hv : ¬ Dl v) : a ∉ T.ν := fun z => by
  obtain ⟨u, _, h2, h3⟩ := h.2 a z n
  rw [e] at h2
  cases h2
  exact hv h3
end
end L4
namespace L4
open PySem PySem.Spec PyProof.Rows L2
section
variable {X : Cx}
def strT (m : M) (xs : List D) : Option D := match xs with
  | [.str z] => some (.str z)
  | xs => strD m xs
theorem call_strT' : CallD X (.type "str") strT := ⟨_, orC call_str_int SkE.call_str_str, fun T H m xs vs d hm r hf Q k => by
  unfold strT at hf
  split at hf
  · cases hf
    obtain ⟨v, rfl, q⟩ := r.one
    cases q
    exact .inr ⟨_, rfl, k.now hm (.str _)⟩
  · unfold strD at hf
    split at hf
    · obtain ⟨hz, hf⟩ := ite_some hf
      cases hf
      obtain ⟨v, rfl, q⟩ := r.one
      cases q
      exact .inl ⟨_, rfl, hz, k.now hm (.str _)⟩
    · cases hf⟩
end
end L4
namespace L4
open PySem PySem.Spec PyProof.Rows L2
section
variable {X : Cx} {g : G} {T T' : Tk} {H H' : Hp} {m : M} {Q : VK} {pos p p2 pos2 apos cpos : Pos} {e o a b : Expr} {n : Nat}
def rgOk (i j : Int) : Prop := 0 ≤ i ∧ i ≤ 16777216 ∧ 0 ≤ j ∧ j ≤ 16777216
instance (i j : Int) : Decidable (rgOk i j) := by unfold rgOk; infer_instance
theorem rgOk.ok {i j : Int} (h : rgOk i j) : RgOk i j := .of_le h.1 h.2.2.2 h.2.1 h.2.2.1
def rgA (xs : List D) : Option (List D) := match xs with
  | [.int j] => if rgOk 0 j then some (rngD 0 (j - 0).toNat) else none
  | [.int i, .int j] => if rgOk i j then some (rngD i (j - i).toNat) else none
  | _ => none
def eTupR (a : AF) : EF := fun ρ m => bd (a ρ m) fun xs m1 => (rgA xs).map fun ds => (.tup ds, m1)
def eLisR (nw : Bool) (a : AF) : EF := fun ρ m => bd (a ρ m) fun xs m1 => (rgA xs).map fun ds => bif nw then (.ref m1.length, m1 ++ [.lst ds]) else (.lst ds, m1)
def tDUpd (td ty : TE) : TE := fun σ H Q => td σ H fun x H1 => ∃ a, x = .ref a ∧ IsD H1 a ∧ ty σ H1 fun y H2 => ∃ b kvs more, y = .ref b ∧ H2 a = some (.dK kvs) ∧ Rd H2 b (.dK more) ∧ a ≠ b ∧ kvs.length + more.length ≤ sizeLine ∧ Q .non (upd H2 a (.dK (mergeK kvs more)))
theorem d_update {pins : List (Addr × Obj)} {σ : L2.St} {s : Shared} {A : Around} {E : Value → Shared → Prop} {a b : Addr} {kvs more : List (Key × V)} {Q : Value → Shared → Prop} (I : Inv X pins σ H s) (e : H a = some (.dK kvs)) (e2 : Rd H b (.dK more)) (hne : a ≠ b) (hz : kvs.length + more.length ≤ sizeLine)
    (h : ∀ s', Inv X pins σ (upd H a (.dK (mergeK kvs more))) s' → Q .none s') : wpAny (model X.prog X.w) A (call (.builtin "dict.update") [.ref a, .ref b]) Q E s := by
  obtain ⟨z, hd, vs, rel, dd⟩ := dk_of I.hok e
  obtain ⟨z2, hd2, ws, rel2, dd2⟩ := dk_rd I.hok e2
  refine call_meetsIn PySem.F.slot_dict_update dd.typeIs PySem.F.entry_dict_update (PySem.F.args_dict_update_2 _ _) (meets_dict_update (mixKind X.prog X.w) a b hne hd2) ⟨vs, ws, dd, dd2, by rw [← rel.length, ← rel2.length]; exact hz, fun h' dd' _ hs => h _ ?_⟩
  have he : ∃ q, h'.get? a = some q := let ⟨q, _, _, hq, _⟩ := dd'; ⟨q, hq⟩
  exact d_write (t' := s.toks) I (by rw [e]; exact True.intro) hs he (dk_new (Nat.le_trans (length_mergeK more kvs) hz) hd (KV.merge rel2 rel) dd')
theorem pe_dupd {td ty : TE} (ho : PE X o td) (he : PE X e ty) (m : M1 X o "update" apos e cpos) : PE X (.Call (.Attribute o "update" apos) [e] [] cpos) (tDUpd td ty) := by
  refine ⟨fun pins s σ H Q I h => ?_⟩
  refine wpAny_Call_method m.base m.few m.line PySem.F.plainAttrs_dict PySem.F.slot_dict_update PySem.F.type_dict_update (thn (ho.run pins s σ H _ I h) fun u s1 ⟨x, H1, I1, rx, a, ex, d, q1⟩ => ?_)
  subst ex
  obtain rfl : u = Value.ref a := rx
  obtain ⟨t1, t2, _⟩ := isD_at I1 d
  refine ⟨t1, t2, ?_⟩
  rw [m.trees]
  refine Calls.callWith_builtin rfl (Calls.evalArgs_plain (Calls.spliced_cons (thn (he.run pins s1 σ H1 _ I1 q1) fun iv s2 ⟨y, H2, I2, ry, b, kvs, more, ey, h1, h2, h3, h4, q2⟩ => Calls.spliced_nil ?_)))
  subst ey
  obtain rfl : iv = Value.ref b := ry
  exact d_update I2 h1 h2 h3 h4 fun s3 I3 => ⟨.non, _, I3, rfl, q2⟩
def flatL (ks : List D) : Bool := ks.all isFlat
theorem flat_dicF {a : Addr} {ks vs : List D} (h : RepO g T H a (.dic ks vs)) (hf : flatL ks = true) : ∃ kvs : List (Key × V), H a = some (.dK kvs) ∧ RepL g T H ks (kvs.map fun p => kV p.1) ∧ RepL g T H vs (kvs.map Prod.snd) := by
  cases h with
  | dicF h r q => exact ⟨_, h, r, q⟩
  | @dicN kvs _ _ h k r q =>
    exfalso
    obtain ⟨k1, k2⟩ := k
    cases ks with
    | nil => cases kvs with
      | nil => exact k2 rfl
      | cons _ _ => cases k1
    | cons x ks =>
      cases kvs with
      | nil => cases k1
      | cons p kvs =>
        have h1 : nkT x = some p.1 := (List.cons.inj k1).1
        have h2 : isFlat x = true := (and2 (show (isFlat x && ks.all isFlat) = true from hf)).1
        rw [nk_notflat h1] at h2
        cases h2
theorem flat_dicV {v : V} {ks vs : List D} (h : Rep g T H (.dic ks vs) v) (hf : flatL ks = true) : ∃ (b : Addr) (kvs : List (Key × V)), v = .ref b ∧ b ∉ T.ν ∧ Rd H b (.dK kvs) ∧ RepL g T H ks (kvs.map fun p => kV p.1) ∧ RepL g T H vs (kvs.map Prod.snd) := by
  cases h with
  | dicF n h r q => exact ⟨_, _, rfl, n, h, r, q⟩
  | @dicN a kvs _ _ n h k r q =>
    exfalso
    obtain ⟨k1, k2⟩ := k
    cases ks with
    | nil => cases kvs with
      | nil => exact k2 rfl
      | cons _ _ => cases k1
    | cons x ks =>
      cases kvs with
      | nil => cases k1
      | cons p kvs =>
        have h1 : nkT x = some p.1 := (List.cons.inj k1).1
        have h2 : isFlat x = true := (and2 (show (isFlat x && ks.all isFlat) = true from hf)).1
        rw [nk_notflat h1] at h2
        cases h2
def eUpd (a b : EF) : EF := fun ρ m => bd (a ρ m) fun x m1 => match x with
  | .ref n => match m1[n]? with
    | some (.dic ks0 _) => if flatL ks0 then bd (b ρ m1) fun y m2 => match m2[n]?, y with
        | some (.dic ks vs), .dic ks2 vs2 => if flatL ks && flatL ks2 && decide (ks.length + ks2.length ≤ sizeLine) && decide (ks2.length = vs2.length) then some (.non, m2.set n (.dic (mergeD (ks2.zip vs2) (ks, vs)).1 (mergeD (ks2.zip vs2) (ks, vs)).2)) else none
        | _, _ => none
      else none
    | _ => none
  | _ => none
theorem keys_flat {ks : List D} {kvs : List (Key × V)} (hf : flatL ks = true) (r : RepL g T H ks (kvs.map fun p => kV p.1)) : ks = kvs.map fun p => keyD p.1 := by
  induction ks generalizing kvs with
  | nil => cases kvs with
    | nil => rfl
    | cons _ _ => cases r
  | cons x ks ih => cases kvs with
    | nil => cases r
    | cons p kvs =>
      obtain ⟨h1, h2⟩ := and2 (show (isFlat x && ks.all isFlat) = true from hf)
      cases r with
      | cons r1 r2 =>
        rw [List.map_cons, ← ih h2 r2]
        obtain ⟨κ, rfl⟩ := flat_key h1
        congr 1
        obtain ⟨k0, v0⟩ := p
        cases κ <;> cases k0 <;> cases r1 <;> rfl
theorem de_upd {fo fe : EF} (ho : DE X o fo) (he : DE X e fe) (hbase : attributeBase o "update" X.env (eval o X.env) = eval o X.env := by rfl) (hline : (apos.endLine == cpos.line) = true := by rfl)
    (hfew : ((backTo cpos (starEach [e] X.env)).all (fun x => !x.1) && (backToKw cpos (keywordEach [] X.env)).all (fun x => x.1.isSome) && decide (([e] : List Expr).length + ([] : List Keyword).length + (if ([] : List Keyword).isEmpty then 0 else 1) < 30)) = true := by rfl)
    (ht : backTo cpos (starEach [e] X.env) = [(false, eval e X.env)] := by rfl) : DE X (.Call (.Attribute o "update" apos) [e] [] cpos) (eUpd fo fe) := by
  obtain ⟨to, po, ro⟩ := ho.ex; obtain ⟨ti, pi, ri⟩ := he.ex
  refine ⟨_, pe_dupd po pi ⟨hbase, hfew, hline, ht⟩, fun T σ H ρ m d m' hm hs hf Q k => ?_⟩
  obtain ⟨x, m1, e1, hf⟩ := bd_some hf
  refine ro T σ H ρ m x m1 hm hs e1 _ fun u T1 H1 l1 hm1 r1 => ?_
  cases r1 with
  | @ref n a ea =>
    have hf : (match m1[n]? with
      | some (.dic ks0 _) => if flatL ks0 then bd (fe ρ m1) fun y m2 => match m2[n]?, y with
          | some (.dic ks vs), .dic ks2 vs2 => if flatL ks && flatL ks2 && decide (ks.length + ks2.length ≤ sizeLine) && decide (ks2.length = vs2.length) then some (D.non, m2.set n (.dic (mergeD (ks2.zip vs2) (ks, vs)).1 (mergeD (ks2.zip vs2) (ks, vs)).2)) else none
          | _, _ => none
        else none
      | _ => none) = some (d, m') := hf
    split at hf
    · next ks0 vs0 h0 =>
      obtain ⟨hf0, hf⟩ := ite_some hf
      obtain ⟨kvs0, g1, _, _⟩ := flat_dicF (hm1.at_ _ _ _ ea h0) hf0
      refine ⟨a, rfl, .inl ⟨kvs0, .inl g1⟩, ?_⟩
      obtain ⟨y, m2, e2, hf⟩ := bd_some hf
      refine ri T1 σ H1 ρ m1 y m2 hm1 (hs.le l1) e2 _ fun w T2 H2 l2 hm2 r2 => ?_
      split at hf
      · next ks vs ks2 vs2 h2 =>
        obtain ⟨hh, hf⟩ := ite_some hf
        simp only [Bool.and_eq_true, decide_eq_true_eq] at hh
        obtain ⟨⟨⟨c1, c2⟩, c3⟩, c4⟩ := hh
        cases hf
        have ea2 := l2.get ea
        obtain ⟨kvs, g2, g3, g4⟩ := flat_dicF (hm2.at_ _ _ _ ea2 h2) c1
        obtain ⟨b, more, rfl, g5, g6, g7, g8⟩ := flat_dicV r2 c2
        have z1 := g3.length
        have z2 := g7.length
        simp only [List.length_map] at z1 z2
        have hne : a ≠ b := by rintro rfl; exact g5 (T2.sub _ (List.mem_of_getElem? ea2))
        refine ⟨b, kvs, more, rfl, g2, g6, hne, by omega, ?_⟩
        have q1 : (ks2.zip vs2).map Prod.fst = ks2 := List.map_fst_zip (by omega)
        have q2 : (ks2.zip vs2).map Prod.snd = vs2 := List.map_snd_zip (by omega)
        have hk := keys_flat c2 g7
        obtain ⟨l3, hm3⟩ := hm2.put (u := .dK (mergeK kvs more)) (o := .dic (mergeD (ks2.zip vs2) (ks, vs)).1 (mergeD (ks2.zip vs2) (ks, vs)).2) ea2 fun l => by
          obtain ⟨y1, y2⟩ := merge_rep (qs := ks2.zip vs2) (kvs := more) (acc := kvs) (ks := ks) (vs := vs) (by rw [q1]; exact hk) (by rw [q2]; exact g8.le l) (g3.le l) (g4.le l)
          exact .dicF upd_same y1 y2
        exact k _ T2 _ (l1.trans (l2.trans l3)) hm3 .non
      · cases hf
    · cases hf
  | _ => cases hf
end
end L4
namespace L4
open PySem
def Wr {α : Type} (o : Option (α × M)) (Q : α → M → Prop) : Prop := ∃ d m, o = some (d, m) ∧ Q d m
def WE (f : EF) (ρ : Ss) (m : M) (Q : D → M → Prop) : Prop := Wr (f ρ m) Q
def WT (f : TF) (ρ : Ss) (m : M) (Q : Bool → M → Prop) : Prop := Wr (f ρ m) Q
def WA (f : AF) (ρ : Ss) (m : M) (Q : List D → M → Prop) : Prop := Wr (f ρ m) Q
def WO (f : OF) (ρ : Ss) (m : M) (Q : Option Int → M → Prop) : Prop := Wr (f ρ m) Q
def WG (f : GF) (d : D) (ρ : Ss) (m : M) (Q : Ss → M → Prop) : Prop := Wr (f d ρ m) Q
def WS (f : SF) (ρ : Ss) (m : M) (Q : Fl → M → Prop) : Prop := Wr (f ρ m) Q
/-- a value that is known -/
def Kn {α : Type} (o : Option α) (Q : α → Prop) : Prop := ∃ d, o = some d ∧ Q d
def sqk (b : SF) (Q : Fl → M → Prop) (r : Fl) (m : M) : Prop := match r with
  | .nx ρ => WS b ρ m Q
  | r => Q r m
section
variable {ρ : Ss} {m : M}
theorem Kn.mk {α : Type} {o : Option α} {Q : α → Prop} {d : α} (h : o = some d) (q : Q d) : Kn o Q := ⟨d, h, q⟩
theorem Wr.mk {α : Type} {o : Option (α × M)} {Q : α → M → Prop} {d : α} {m' : M} (h : o = some (d, m')) (q : Q d m') : Wr o Q := ⟨d, m', h, q⟩
theorem Wr.bd {α β : Type} {o : Option (α × M)} {k : α → M → Option (β × M)} {Q : β → M → Prop} (h : Wr o fun a m1 => Wr (k a m1) Q) : Wr (bd o k) Q := by
  obtain ⟨a, m1, e, b, m2, e2, q⟩ := h
  exact ⟨b, m2, by rw [e]; exact e2, q⟩
theorem Wr.pu {α : Type} {o : Option α} {Q : α → M → Prop} (h : Kn o fun d => Q d m) : Wr (pu o m) Q := by
  obtain ⟨d, rfl, q⟩ := h
  exact ⟨d, m, rfl, q⟩
theorem WE.var {i : Nat} {Q : D → M → Prop} {d : D} (h : ρ.getD i none = some d) (q : Q d m) : WE (eVar i) ρ m Q := ⟨d, m, by unfold eVar; rw [h]; rfl, q⟩
theorem WE.c {d : D} {Q : D → M → Prop} (q : Q d m) : WE (eC d) ρ m Q := ⟨d, m, rfl, q⟩
theorem WE.op {f : M → D → D → Option D} {a b : EF} {Q : D → M → Prop} (h : WE a ρ m fun x m1 => WE b ρ m1 fun y m2 => Kn (f m2 x y) fun d => Q d m2) : WE (eOp f a b) ρ m Q :=
  Wr.bd (by obtain ⟨x, m1, e, h⟩ := h; refine ⟨x, m1, e, Wr.bd ?_⟩; obtain ⟨y, m2, e2, h⟩ := h; exact ⟨y, m2, e2, Wr.pu h⟩)
theorem WE.un {f : M → D → Option D} {a : EF} {Q : D → M → Prop} (h : WE a ρ m fun x m1 => Kn (f m1 x) fun d => Q d m1) : WE (eUn f a) ρ m Q :=
  Wr.bd (by obtain ⟨x, m1, e, h⟩ := h; exact ⟨x, m1, e, Wr.pu h⟩)
theorem WE.call {f : M → List D → Option D} {a : AF} {Q : D → M → Prop} (h : WA a ρ m fun xs m1 => Kn (f m1 xs) fun d => Q d m1) : WE (eCall f a) ρ m Q :=
  Wr.bd (by obtain ⟨x, m1, e, h⟩ := h; exact ⟨x, m1, e, Wr.pu h⟩)
theorem WE.callM {F : List D → M → Option (D × M)} {a : AF} {Q : D → M → Prop} (h : WA a ρ m fun xs m1 => Wr (F xs m1) Q) : WE (eCallM F a) ρ m Q := Wr.bd h
theorem WA.nil {Q : List D → M → Prop} (q : Q [] m) : WA aNil ρ m Q := ⟨[], m, rfl, q⟩
theorem WA.cons {a : EF} {r : AF} {Q : List D → M → Prop} (h : WE a ρ m fun x m1 => WA r ρ m1 fun xs m2 => Q (x :: xs) m2) : WA (aCons a r) ρ m Q :=
  Wr.bd (by obtain ⟨x, m1, e, h⟩ := h; refine ⟨x, m1, e, Wr.bd ?_⟩; obtain ⟨y, m2, e2, h⟩ := h; exact ⟨y, m2, e2, x :: y, m2, rfl, h⟩)
theorem WA.star {a : EF} {r : AF} {Q : List D → M → Prop} (h : WE a ρ m fun x m1 => Kn (seqD m1 x) fun xs => WA r ρ m1 fun ys m2 => Q (xs ++ ys) m2) : WA (aStar a r) ρ m Q := by
  obtain ⟨x, m1, e, xs, e2, ys, m2, e3, q⟩ := h
  refine ⟨xs ++ ys, m2, ?_, q⟩
  unfold aStar
  rw [e]
  show (match seqD m1 x with
    | some xs => bd (r ρ m1) fun ys m2 => some (xs ++ ys, m2)
    | none => none) = _
  rw [e2]
  show bd (r ρ m1) _ = _
  rw [e3]
  rfl
theorem WE.tup {a : AF} {Q : D → M → Prop} (h : WA a ρ m fun xs m1 => xs.length ≤ sizeLine ∧ Q (.tup xs) m1) : WE (eTup a) ρ m Q :=
  Wr.bd (by obtain ⟨x, m1, e, h1, h2⟩ := h; exact ⟨x, m1, e, _, m1, if_pos h1, h2⟩)
theorem WE.lst {a : AF} {Q : D → M → Prop} (h : WA a ρ m fun xs m1 => xs.length ≤ sizeLine ∧ Q (.lst xs) m1) : WE (eLst a) ρ m Q :=
  Wr.bd (by obtain ⟨x, m1, e, h1, h2⟩ := h; exact ⟨x, m1, e, _, m1, if_pos h1, h2⟩)
theorem WE.newL {a : AF} {Q : D → M → Prop} (h : WA a ρ m fun xs m1 => xs.length ≤ sizeLine ∧ Q (.ref m1.length) (m1 ++ [.lst xs])) : WE (eNewL a) ρ m Q :=
  Wr.bd (by obtain ⟨x, m1, e, h1, h2⟩ := h; exact ⟨x, m1, e, _, _, if_pos h1, h2⟩)
theorem WE.eif {c : TF} {a b : EF} {Q : D → M → Prop} (h : WT c ρ m fun x m1 => WE (if x then a else b) ρ m1 Q) : WE (eIf c a b) ρ m Q :=
  Wr.bd (by obtain ⟨x, m1, e, h⟩ := h; refine ⟨x, m1, e, ?_⟩; cases x <;> exact h)
theorem WE.isN {a : EF} {Q : D → M → Prop} (h : WE a ρ m fun x m1 => Q (.bl (isNon x)) m1) : WE (eIsN a) ρ m Q :=
  Wr.bd (by obtain ⟨x, m1, e, h⟩ := h; exact ⟨x, m1, e, _, m1, rfl, h⟩)
theorem WE.notN {a : EF} {Q : D → M → Prop} (h : WE a ρ m fun x m1 => Q (.bl (!isNon x)) m1) : WE (eNotN a) ρ m Q :=
  Wr.bd (by obtain ⟨x, m1, e, h⟩ := h; exact ⟨x, m1, e, _, m1, rfl, h⟩)
theorem WE.not {a : EF} {Q : D → M → Prop} (h : WE a ρ m fun x m1 => ∃ b, x = .bl b ∧ Q (.bl (!b)) m1) : WE (eNot a) ρ m Q :=
  Wr.bd (by obtain ⟨x, m1, e, b, rfl, h⟩ := h; exact ⟨_, m1, e, _, m1, rfl, h⟩)
theorem WE.and {a b : EF} {Q : D → M → Prop} (h : WE a ρ m fun x m1 => ∃ c, x = .bl c ∧ (c = true → WE b ρ m1 Q) ∧ (c = false → Q (.bl false) m1)) : WE (eAnd a b) ρ m Q :=
  Wr.bd (by obtain ⟨x, m1, e, c, rfl, h1, h2⟩ := h; refine ⟨_, m1, e, ?_⟩; cases c <;> first | exact h1 rfl | exact ⟨_, m1, rfl, h2 rfl⟩)
theorem WE.or {a b : EF} {Q : D → M → Prop} (h : WE a ρ m fun x m1 => ∃ c, x = .bl c ∧ (c = false → WE b ρ m1 Q) ∧ (c = true → Q (.bl true) m1)) : WE (eOr a b) ρ m Q :=
  Wr.bd (by obtain ⟨x, m1, e, c, rfl, h1, h2⟩ := h; refine ⟨_, m1, e, ?_⟩; cases c <;> first | exact h1 rfl | exact ⟨_, m1, rfl, h2 rfl⟩)
theorem WO.no {Q : Option Int → M → Prop} (q : Q none m) : WO oNo ρ m Q := ⟨_, m, rfl, q⟩
theorem WO.yes {a : EF} {Q : Option Int → M → Prop} (h : WE a ρ m fun x m1 => ∃ i, x = .int i ∧ Q (some i) m1) : WO (oYes a) ρ m Q :=
  Wr.bd (by obtain ⟨x, m1, e, i, rfl, h⟩ := h; exact ⟨_, m1, e, _, m1, rfl, h⟩)
theorem WE.sl {a : EF} {lo hi : OF} {Q : D → M → Prop} (h : WE a ρ m fun x m1 => WO lo ρ m1 fun l m2 => WO hi ρ m2 fun u m3 => Kn (slD m3 x l u) fun d => Q d m3) : WE (eSl a lo hi) ρ m Q :=
  Wr.bd (by
    obtain ⟨x, m1, e, l, m2, e2, u, m3, e3, h⟩ := h
    exact ⟨x, m1, e, Wr.bd ⟨l, m2, e2, Wr.bd ⟨u, m3, e3, Wr.pu h⟩⟩⟩)
theorem WT.val {a : EF} {Q : Bool → M → Prop} (h : WE a ρ m fun x m1 => ∃ b, x = .bl b ∧ Q b m1) : WT (tVal a) ρ m Q :=
  Wr.bd (by obtain ⟨x, m1, e, b, rfl, h⟩ := h; exact ⟨_, m1, e, _, m1, rfl, h⟩)
theorem WT.and {a b : TF} {Q : Bool → M → Prop} (h : WT a ρ m fun x m1 => (x = true → WT b ρ m1 Q) ∧ (x = false → Q false m1)) : WT (tAnd a b) ρ m Q :=
  Wr.bd (by obtain ⟨x, m1, e, h1, h2⟩ := h; refine ⟨_, m1, e, ?_⟩; cases x <;> first | exact h1 rfl | exact ⟨_, m1, rfl, h2 rfl⟩)
theorem WT.or {a b : TF} {Q : Bool → M → Prop} (h : WT a ρ m fun x m1 => (x = false → WT b ρ m1 Q) ∧ (x = true → Q true m1)) : WT (tOr a b) ρ m Q :=
  Wr.bd (by obtain ⟨x, m1, e, h1, h2⟩ := h; refine ⟨_, m1, e, ?_⟩; cases x <;> first | exact h1 rfl | exact ⟨_, m1, rfl, h2 rfl⟩)
theorem WT.not {a : TF} {Q : Bool → M → Prop} (h : WT a ρ m fun x m1 => Q (!x) m1) : WT (tNot a) ρ m Q :=
  Wr.bd (by obtain ⟨x, m1, e, h⟩ := h; exact ⟨_, m1, e, _, m1, rfl, h⟩)
theorem WT.tt {Q : Bool → M → Prop} (q : Q true m) : WT tTrue ρ m Q := ⟨_, m, rfl, q⟩
theorem WG.nm {i : Nat} {d : D} {Q : Ss → M → Prop} (q : Q (ρ.set i (some d)) m) : WG (gNm i) d ρ m Q := ⟨_, m, rfl, q⟩
theorem WG.setA {o i : EF} {d : D} {Q : Ss → M → Prop} (h : WE o ρ m fun x m1 => WE i ρ m1 fun y m2 => Kn (setM m2 x y d) fun m3 => Q ρ m3) : WG (gSetA o i) d ρ m Q := by
  obtain ⟨x, m1, e1, y, m2, e2, m3, e3, q⟩ := h
  refine ⟨ρ, m3, ?_, q⟩
  unfold gSetA
  rw [e1]
  show bd (i ρ m1) _ = _
  rw [e2]
  show (setM m2 x y d).map _ = _
  rw [e3]
  rfl
theorem WS.asg {a : EF} {g : GF} {Q : Fl → M → Prop} (h : WE a ρ m fun d m1 => WG g d ρ m1 fun ρ1 m2 => Q (.nx ρ1) m2) : WS (sAsg a g) ρ m Q :=
  Wr.bd (by obtain ⟨x, m1, e, ρ1, m2, e2, h⟩ := h; exact ⟨x, m1, e, Wr.bd ⟨ρ1, m2, e2, _, m2, rfl, h⟩⟩)
theorem WS.drop {a : EF} {Q : Fl → M → Prop} (h : WE a ρ m fun d m1 => Q (.nx ρ) m1) : WS (sDrop a) ρ m Q :=
  Wr.bd (by obtain ⟨x, m1, e, h⟩ := h; exact ⟨x, m1, e, _, m1, rfl, h⟩)
theorem WS.ret {a : EF} {Q : Fl → M → Prop} (h : WE a ρ m fun d m1 => Q (.rt d) m1) : WS (sRet a) ρ m Q :=
  Wr.bd (by obtain ⟨x, m1, e, h⟩ := h; exact ⟨x, m1, e, _, m1, rfl, h⟩)
theorem WS.retN {Q : Fl → M → Prop} (h : Q (.rt .non) m) : WS sRetN ρ m Q := ⟨_, m, rfl, h⟩
theorem WS.nop {Q : Fl → M → Prop} (h : Q (.nx ρ) m) : WS sNop ρ m Q := ⟨_, m, rfl, h⟩
theorem WS.brk {Q : Fl → M → Prop} (h : Q (.bk ρ) m) : WS sBrk ρ m Q := ⟨_, m, rfl, h⟩
theorem WS.cont {Q : Fl → M → Prop} (h : Q (.ct ρ) m) : WS sCont ρ m Q := ⟨_, m, rfl, h⟩
theorem WS.sif {c : TF} {a b : SF} {Q : Fl → M → Prop} (h : WT c ρ m fun x m1 => WS (if x then a else b) ρ m1 Q) : WS (sIf c a b) ρ m Q :=
  Wr.bd (by obtain ⟨x, m1, e, h⟩ := h; refine ⟨x, m1, e, ?_⟩; cases x <;> exact h)
theorem WS.seq {a b : SF} {Q : Fl → M → Prop} (h : WS a ρ m (sqk b Q)) : WS (sSeq a b) ρ m Q := by
  obtain ⟨r, m1, e, h⟩ := h
  unfold WS Wr sSeq
  rw [e]
  cases r <;> first | exact h | exact ⟨_, m1, rfl, h⟩
theorem WS.nx {b : SF} {Q : Fl → M → Prop} (h : WS b ρ m Q) : sqk b Q (.nx ρ) m := h
theorem WS.rt {b : SF} {Q : Fl → M → Prop} {d : D} (h : Q (.rt d) m) : sqk b Q (.rt d) m := h
theorem WS.aug {i : Nat} {f : M → D → D → Option D} {a : EF} {Q : Fl → M → Prop} {x : D} (h0 : ρ.getD i none = some x) (h : WE a ρ m fun y m1 => Kn (f m1 x y) fun d => Q (.nx (ρ.set i (some d))) m1) : WS (sAug i f a) ρ m Q := by
  obtain ⟨y, m1, e, d, e2, q⟩ := h
  refine ⟨_, m1, ?_, q⟩
  unfold sAug
  rw [h0]
  show bd (a ρ m) _ = _
  rw [e]
  show bd (pu (f m1 x y) m1) _ = _
  rw [e2]
  rfl
theorem WS.par {is : List Nat} {a : AF} {Q : Fl → M → Prop} (h : WA a ρ m fun xs m1 => xs.length = is.length ∧ Q (.nx (setMany ρ is xs)) m1) : WS (sPar is a) ρ m Q :=
  Wr.bd (by obtain ⟨x, m1, e, h1, h2⟩ := h; exact ⟨x, m1, e, _, m1, if_pos h1, h2⟩)
/-- a walk over what is there at its start -/
def WI (f : AF) (ρ : Ss) (m : M) (Q : List D → M → Prop) : Prop := Wr (f ρ m) Q
theorem WI.it {a : EF} {Q : List D → M → Prop} (h : WE a ρ m fun x m1 => Kn (items x) fun ds => Q ds m1) : WI (iIt a) ρ m Q :=
  Wr.bd (by obtain ⟨x, m1, e, h⟩ := h; exact ⟨x, m1, e, Wr.pu h⟩)
theorem WI.r1 {a : AF} {Q : List D → M → Prop} (h : WA a ρ m fun xs m1 => ∃ j : Int, xs = [.int j] ∧ (-1000000 ≤ j ∧ j ≤ 1000000) ∧ Q (rngD 0 j.toNat) m1) : WI (iR1 a) ρ m Q :=
  Wr.bd (by obtain ⟨x, m1, e, j, rfl, hj, h⟩ := h; exact ⟨_, m1, e, _, m1, if_pos ⟨by omega, by omega⟩, h⟩)
/-- a loop whose turns keep to an invariant and leave it never -/
theorem WS.forI {it : AF} {g : GF} {b : SF} {Q : Fl → M → Prop} (I : Nat → Ss → M → Prop) (h : WI it ρ m fun xs m1 => I 0 ρ m1 ∧ (∀ i x ρ m, xs[i]? = some x → I i ρ m → WG g x ρ m fun ρ1 m1 => WS b ρ1 m1 fun r m2 => ∃ ρ2, (r = .nx ρ2 ∨ r = .ct ρ2) ∧ I (i + 1) ρ2 m2) ∧ ∀ ρ m, I xs.length ρ m → Q (.nx ρ) m) : WS (sFor it g b) ρ m Q :=
  Wr.bd (by
    obtain ⟨xs, m1, e, h1, h2, h3⟩ := h
    obtain ⟨ρ', m', e2, h4⟩ := forGo_inv (f := g) (b := b) I xs 0 ρ m1 h1 (by
      intro j x ρ m hx hI
      rw [Nat.zero_add] at hI
      obtain ⟨ρ1, m1, e1, r, m2, e2, ρ2, hr, h⟩ := h2 j x ρ m hx hI
      exact ⟨ρ1, m1, e1, r, m2, e2, ρ2, hr, by rw [Nat.zero_add]; exact h⟩)
    rw [Nat.zero_add] at h4
    exact ⟨xs, m1, e, _, m', e2, h3 _ _ h4⟩)
/-- the end: a function that is called -/
theorem WS.runP {a n : Nat} {b : SF} {ds : List D} {d : D} (h : WS b (startD n ds) [] fun r m => ∃ y, r = .rt y ∧ frz m y = some d) (hl : ds.length = a) : runP a n b ds = some d := by
  obtain ⟨r, m1, e, y, rfl, q⟩ := h
  unfold L4.runP
  rw [if_pos hl, e]
  exact q
theorem WS.runM {a n : Nat} {b : SF} {ds : List D} {Q : D → M → Prop} (h : WS b (startD n ds) m fun r m1 => (∃ y, r = .rt y ∧ Q y m1) ∨ ∃ ρ, r = .nx ρ ∧ Q .non m1) (hl : ds.length = a) : Wr (runM a n b ds m) Q := by
  obtain ⟨r, m1, e, h⟩ := h
  unfold L4.runM
  rw [if_pos hl, e]
  rcases h with ⟨y, rfl, q⟩ | ⟨ρ, rfl, q⟩
  · exact ⟨y, m1, rfl, q⟩
  · exact ⟨.non, m1, rfl, q⟩
end
end L4
namespace L4
open PySem
section
variable {ρ : Ss} {m : M} {Q : D → Prop}
theorem wsz {n : Nat} (h : n ≤ 1000) : n ≤ sizeLine := by rw [sizeLine_eq]; omega
theorem Kn.call {F : List D → Option D} {xs : List D} {d : D} (hp : pureL xs = true) (e : F xs = some d) (q : Q d) : Kn (callP F m xs) Q := ⟨d, by unfold callP; rw [if_pos hp]; exact e, q⟩
theorem Kn.callR {F : List D → Option D} {xs ys : List D} {d : D} (hp : pureL xs = false) (hz : mapO (frz m) xs = some ys) (e : F ys = some d) (hg : groundD d = true) (q : Q d) : Kn (callP F m xs) Q := ⟨d, by unfold callP; rw [hp, hz]; simp only [Bool.false_eq_true, if_false, e, hg, if_true], q⟩
theorem Kn.add_i {i j : Int} (q : Q (.int (i + j))) : Kn (addD m (.int i) (.int j)) Q := ⟨_, rfl, q⟩
theorem Kn.add_t {a b : List D} (h : a.length + b.length ≤ sizeLine) (q : Q (.tup (a ++ b))) : Kn (addD m (.tup a) (.tup b)) Q := ⟨_, if_pos h, q⟩
theorem add_lst {x y : D} {a b : List D} (hx : lstOf m x = some a) (hy : lstOf m y = some b) (h : a.length + b.length ≤ sizeLine) : addD m x y = some (.lst (a ++ b)) := by
  have key : (match lstOf m x, lstOf m y with
    | some a, some b => if a.length + b.length ≤ sizeLine then some (D.lst (a ++ b)) else none
    | _, _ => none) = some (.lst (a ++ b)) := by rw [hx, hy]; exact if_pos h
  cases x with
  | lst xs => cases y with
    | lst ys => exact key
    | ref n => exact key
    | _ => cases hy
  | ref n => cases y with
    | lst ys => exact key
    | ref n => exact key
    | _ => cases hy
  | _ => cases hx
theorem Kn.add_l {x y : D} {a b : List D} (hx : lstOf m x = some a) (hy : lstOf m y = some b) (h : a.length + b.length ≤ sizeLine) (q : Q (.lst (a ++ b))) : Kn (addD m x y) Q := ⟨_, add_lst hx hy h, q⟩
theorem Kn.add_s {a b : Str} (h : a.length + b.length ≤ sizeLine) (q : Q (.str (catS a b))) : Kn (addD m (.str a) (.str b)) Q := ⟨_, if_pos h, q⟩
theorem Kn.sub {i j : Int} (q : Q (.int (i - j))) : Kn (subD m (.int i) (.int j)) Q := ⟨_, rfl, q⟩
theorem Kn.mul_i {i j : Int} (h : (-(2 ^ 64) < i ∧ i < 2 ^ 64) ∨ (-(2 ^ 64) < j ∧ j < 2 ^ 64)) (q : Q (.int (i * j))) : Kn (mulD m (.int i) (.int j)) Q := ⟨_, if_pos h, q⟩
theorem Kn.fdiv {i j : Int} (h : 0 < j ∧ j < 1073741824) (q : Q (.int (i / j))) : Kn (fdivD m (.int i) (.int j)) Q := ⟨_, if_pos h, q⟩
theorem Kn.mod {i j : Int} (h : 0 < j) (q : Q (.int (i % j))) : Kn (modD m (.int i) (.int j)) Q := ⟨_, if_pos h, q⟩
theorem Kn.neg {i : Int} (q : Q (.int (-i))) : Kn (negD m (.int i)) Q := ⟨_, rfl, q⟩
theorem w_eq_int {i j : Int} : eqD m (.int i) (.int j) = some (.bl (i == j)) := by
  have hi : ∀ i : Int, pdM m (.int i) = some (.int i) := fun i => by
    have h1 : SeqAt.shaped (PyData.int i) = true := rfl
    simp [pdM, frz, pureD, pd, h1]
  simp [eqD, hi, PyData.eqv]
theorem w_ne_int {i j : Int} : neD m (.int i) (.int j) = some (.bl (!(i == j))) := by
  have hi : ∀ i : Int, pdM m (.int i) = some (.int i) := fun i => by
    have h1 : SeqAt.shaped (PyData.int i) = true := rfl
    simp [pdM, frz, pureD, pd, h1]
  simp [neD, hi, PyData.eqv]
theorem Kn.eq_i {i j : Int} (q : Q (.bl (i == j))) : Kn (eqD m (.int i) (.int j)) Q := ⟨_, w_eq_int, q⟩
theorem Kn.ne_i {i j : Int} (q : Q (.bl (!(i == j)))) : Kn (neD m (.int i) (.int j)) Q := ⟨_, w_ne_int, q⟩
theorem Kn.lt {i j : Int} (q : Q (.bl (decide (i < j)))) : Kn (ltD m (.int i) (.int j)) Q := ⟨_, rfl, q⟩
theorem Kn.le {i j : Int} (q : Q (.bl (decide (i ≤ j)))) : Kn (leD m (.int i) (.int j)) Q := ⟨_, rfl, q⟩
theorem Kn.gt {i j : Int} (q : Q (.bl (decide (j < i)))) : Kn (gtD m (.int i) (.int j)) Q := ⟨_, rfl, q⟩
theorem Kn.ge {i j : Int} (q : Q (.bl (decide (j ≤ i)))) : Kn (geD m (.int i) (.int j)) Q := ⟨_, rfl, q⟩
theorem Kn.int_i {i : Int} (q : Q (.int i)) : Kn (intD m [.int i]) Q := ⟨_, rfl, q⟩
theorem Kn.int_b {b : Bool} (q : Q (.int (if b then 1 else 0))) : Kn (intD m [.bl b]) Q := ⟨_, rfl, q⟩
theorem Kn.abs {i : Int} (q : Q (.int (if i < 0 then -i else i))) : Kn (absD m [.int i]) Q := ⟨_, rfl, q⟩
theorem Kn.min2 {i j : Int} (q : Q (.int (if j < i then j else i))) : Kn (min2D m [.int i, .int j]) Q := ⟨_, rfl, q⟩
theorem Kn.max2 {i j : Int} (q : Q (.int (if j > i then j else i))) : Kn (max2D m [.int i, .int j]) Q := ⟨_, rfl, q⟩
theorem Kn.len_t {ds : List D} (q : Q (.int ds.length)) : Kn (lenD m [.tup ds]) Q := ⟨_, rfl, q⟩
theorem Kn.len_l {ds : List D} (q : Q (.int ds.length)) : Kn (lenD m [.lst ds]) Q := ⟨_, rfl, q⟩
theorem Kn.len_s {ds : List D} (q : Q (.int ds.length)) : Kn (lenD m [.scr ds]) Q := ⟨_, rfl, q⟩
theorem Kn.len_r {n : Nat} {ds : List D} (h : m[n]? = some (.lst ds)) (q : Q (.int ds.length)) : Kn (lenD m [.ref n]) Q := ⟨.int ds.length, by
  show (lstR m (.ref n)).map _ = _
  have e : lstR m (.ref n) = some ds := by show (m[n]?).bind lstO = _; rw [h]; rfl
  rw [e]; rfl, q⟩
theorem Kn.tup_t {ds : List D} (q : Q (.tup ds)) : Kn (tupD m [.tup ds]) Q := ⟨_, rfl, q⟩
theorem Kn.tup_l {ds : List D} (q : Q (.tup ds)) : Kn (tupD m [.lst ds]) Q := ⟨_, rfl, q⟩
theorem Kn.lis_t {ds : List D} (q : Q (.lst ds)) : Kn (lisD m [.tup ds]) Q := ⟨_, rfl, q⟩
theorem Kn.lis_l {ds : List D} (q : Q (.lst ds)) : Kn (lisD m [.lst ds]) Q := ⟨_, rfl, q⟩
theorem Kn.seq_t {Q : List D → Prop} {ds : List D} (q : Q ds) : Kn (seqD m (.tup ds)) Q := ⟨_, rfl, q⟩
theorem Kn.seq_l {Q : List D → Prop} {ds : List D} (q : Q ds) : Kn (seqD m (.lst ds)) Q := ⟨_, rfl, q⟩
theorem Kn.it_t {Q : List D → Prop} {ds : List D} (q : Q ds) : Kn (items (.tup ds)) Q := ⟨_, rfl, q⟩
theorem Kn.it_l {Q : List D → Prop} {ds : List D} (q : Q ds) : Kn (items (.lst ds)) Q := ⟨_, rfl, q⟩
theorem Kn.it_s {Q : List D → Prop} {ds : List D} (q : Q ds) : Kn (items (.scr ds)) Q := ⟨_, rfl, q⟩
theorem Kn.ix_l {ds : List D} {i : Nat} {d : D} (h : ds[i]? = some d) (q : Q d) : Kn (ixA m (.lst ds) (.int (i : Nat))) Q := ⟨d, by rw [ixA_lst]; exact L2.atI_nat h, q⟩
theorem Kn.sl_t {ds : List D} {lo hi : Option Int} (q : Q (.tup (cutD ds lo hi))) : Kn (slD m (.tup ds) lo hi) Q := ⟨_, rfl, q⟩
theorem Kn.sl_l {ds : List D} {lo hi : Option Int} (q : Q (.lst (cutD ds lo hi))) : Kn (slD m (.lst ds) lo hi) Q := ⟨_, rfl, q⟩
end
section
variable {ρ : Ss} {m : M} {Q : D → M → Prop}
theorem WG.one {i : Nat} {d : D} {Q : Ss → M → Prop} (q : Q (ρ.set i (some d)) m) : WG (gTgt (.one i)) d ρ m Q := ⟨_, m, rfl, q⟩
theorem WG.tup {is : List Nat} {ds : List D} {Q : Ss → M → Prop} (h : ds.length = is.length) (q : Q (setMany ρ is ds) m) : WG (gTgt (.many is)) (.tup ds) ρ m Q := ⟨setMany ρ is ds, m, by
  show (match (if ds.length = is.length then some ds else none) with | some ds => some (setMany ρ is ds, m) | none => none) = _
  rw [if_pos h], q⟩
/-- xs.append(e) -/
theorem WE.app {o e : EF} (h : WE o ρ m fun x m1 => ∃ n, x = .ref n ∧ (∃ ds0, m1[n]? = some (.lst ds0)) ∧ WE e ρ m1 fun y m2 => ∃ ds, m2[n]? = some (.lst ds) ∧ ds.length < sizeLine ∧ Q .non (m2.set n (.lst (ds ++ [y])))) : WE (eLm0 (fun _ => appL) o (aCons e aNil)) ρ m Q := by
  obtain ⟨x, m1, e1, n, rfl, ⟨ds0, h0⟩, y, m2, e2, ds, h1, h2, q⟩ := h
  refine ⟨.non, _, ?_, q⟩
  unfold eLm0
  rw [e1]
  show (match m1[n]? with
    | some (.lst _) => bd (aCons e aNil ρ m1) fun ys m2 => match m2[n]? with
      | some (.lst ds) => (appL ds ys).map fun (r : D × List D) => (r.1, m2.set n (.lst r.2))
      | _ => none
    | _ => none) = _
  rw [h0]
  have ea : aCons e aNil ρ m1 = some ([y], m2) := by unfold aCons; rw [e2]; rfl
  show bd (aCons e aNil ρ m1) _ = _
  rw [ea]
  show (match m2[n]? with
      | some (.lst ds) => (appL ds [y]).map fun (r : D × List D) => (r.1, m2.set n (.lst r.2))
      | _ => none) = _
  rw [h1]
  show (if ds.length < sizeLine then some (D.non, ds ++ [y]) else none).map _ = _
  rw [if_pos h2]
  rfl
/-- [e for .. in ..], over what is there at its start -/
theorem WE.lcK {nw : Bool} {it : AF} {t : Tgt} {c : TF} {e : EF} (h : WI it ρ m fun xs m1 => xs.length ≤ 1000000 ∧ Wr (compGo t c e ρ xs m1) fun ys m2 => Q (bif nw then .ref m2.length else .lst ys) (bif nw then m2 ++ [.lst ys] else m2)) : WE (eLcK nw it t c e) ρ m Q :=
  Wr.bd (by
    obtain ⟨xs, m1, e1, h1, ys, m2, e2, q⟩ := h
    refine ⟨xs, m1, e1, _, _, (if_pos h1).trans ?_, q⟩
    rw [e2]
    cases nw <;> rfl)
theorem WE.lcV {nw : Bool} {it : LF} {t : Tgt} {c : TF} {e : EF} (h : Wr (it ρ m) fun nx m1 => Wr (compLv t c e nx ρ 1000001 0 m1) fun ys m2 => Q (bif nw then .ref m2.length else .lst ys) (bif nw then m2 ++ [.lst ys] else m2)) : WE (eLcV nw it t c e) ρ m Q :=
  Wr.bd (by
    obtain ⟨nx, m1, e1, ys, m2, e2, q⟩ := h
    refine ⟨nx, m1, e1, _, _, ?_, q⟩
    rw [e2]
    cases nw <;> rfl)
theorem WE.tupR {a : AF} (h : WA a ρ m fun xs m1 => Kn (rgA xs) fun ds => Q (.tup ds) m1) : WE (eTupR a) ρ m Q :=
  Wr.bd (by obtain ⟨xs, m1, e, ds, e2, q⟩ := h; exact ⟨xs, m1, e, _, m1, by rw [e2]; rfl, q⟩)
theorem WE.lisR {a : AF} {nw : Bool} (h : WA a ρ m fun xs m1 => Kn (rgA xs) fun ds => Q (bif nw then .ref m1.length else .lst ds) (bif nw then m1 ++ [.lst ds] else m1)) : WE (eLisR nw a) ρ m Q :=
  Wr.bd (by obtain ⟨xs, m1, e, ds, e2, q⟩ := h; exact ⟨xs, m1, e, _, _, by rw [e2]; cases nw <;> rfl, q⟩)
/-- a comprehension without draws -/
theorem comp_pure {t : Tgt} {c : TF} {e : EF} {α : Type} (enc : α → D) (b : α → Bool) (f : α → D) : ∀ xs : List α, (∀ x ∈ xs, ∃ ds, t.un (enc x) = some ds ∧ c (setMany ρ t.is ds) m = some (b x, m) ∧ (b x = true → e (setMany ρ t.is ds) m = some (f x, m))) → compGo t c e ρ (xs.map enc) m = some ((xs.filter b).map f, m)
  | [], _ => rfl
  | x :: xs, h => by
    obtain ⟨ds, h1, h2, h3⟩ := h x List.mem_cons_self
    have ih := comp_pure enc b f xs fun y hy => h y (List.mem_cons_of_mem _ hy)
    show compGo t c e ρ (enc x :: xs.map enc) m = _
    unfold compGo
    rw [h1]
    show bd (c (setMany ρ t.is ds) m) _ = _
    rw [h2]
    cases hb : b x
    · show compGo t c e ρ (xs.map enc) m = _
      rw [ih, List.filter_cons, hb]
      rfl
    · show bd (e (setMany ρ t.is ds) m) _ = _
      rw [h3 hb]
      show bd (compGo t c e ρ (xs.map enc) m) _ = _
      rw [ih, List.filter_cons, hb]
      rfl
end
end L4
namespace L4
section
variable {ρ : Ss} {m : M}
theorem WS.ite_t {x : Bool} {a b : SF} {Q : Fl → M → Prop} (h : x = true) (q : WS a ρ m Q) : WS (if x then a else b) ρ m Q := by rw [if_pos h]; exact q
theorem WS.ite_f {x : Bool} {a b : SF} {Q : Fl → M → Prop} (h : x = false) (q : WS b ρ m Q) : WS (if x then a else b) ρ m Q := by rw [h]; exact q
theorem WE.ite_t {x : Bool} {a b : EF} {Q : D → M → Prop} (h : x = true) (q : WE a ρ m Q) : WE (if x then a else b) ρ m Q := by rw [if_pos h]; exact q
theorem WE.ite_f {x : Bool} {a b : EF} {Q : D → M → Prop} (h : x = false) (q : WE b ρ m Q) : WE (if x then a else b) ρ m Q := by rw [h]; exact q
end
end L4
namespace L4
open PySem
section
variable {ρ : Ss} {m : M} {Q : D → M → Prop} {α : Type}
/-- a walk tells these things in turn -/
def Tells (nx : NX) (m : M) (g : Nat → α → D) (ds : List α) : Prop := ∀ i, i ≤ ds.length → nx m i = some ((ds[i]?).map (g i))
theorem tells_R {n : Nat} {enc : α → D} {ds : List α} (h : m[n]? = some (.lst (ds.map enc))) : Tells (nxR n) m (fun _ => enc) ds := fun i _ => by
  unfold nxR
  rw [h]
  show some ((ds.map enc)[i]?) = _
  rw [List.getElem?_map]
def pickF (b : Nat → α → Bool) (f : Nat → α → D) : Nat → List α → List D
  | _, [] => []
  | i, x :: xs => (bif b i x then [f i x] else []) ++ pickF b f (i + 1) xs
theorem compLv_go {t : Tgt} {c : TF} {el : EF} {nx : NX} {g : Nat → α → D} (b : Nat → α → Bool) (f : Nat → α → D) {ds : List α} (hn : Tells nx m g ds) : ∀ (rest pre : List α) (k : Nat), ds = pre ++ rest → rest.length < k →
    (∀ (i : Nat) x, ds[i]? = some x → ∃ ys, t.un (g i x) = some ys ∧ c (setMany ρ t.is ys) m = some (b i x, m) ∧ (b i x = true → el (setMany ρ t.is ys) m = some (f i x, m))) →
    compLv t c el nx ρ k pre.length m = some (pickF b f pre.length rest, m)
  | [], pre, 0, _, h, _ => by simp at h
  | _ :: _, pre, 0, _, h, _ => by simp at h
  | [], pre, k + 1, e, _, _ => by
    have h2 := hn pre.length (by simp [e])
    have h1 : ds[pre.length]? = none := by simp [e]
    rw [h1] at h2
    unfold compLv
    rw [h2]
    rfl
  | x :: rest, pre, k + 1, e, hk, h => by
    have hx : ds[pre.length]? = some x := by simp [e]
    have h2 := hn pre.length (by simp [e])
    rw [hx] at h2
    have ih := compLv_go (t := t) (c := c) (el := el) b f hn rest (pre ++ [x]) k (by simp [e]) (by simp at hk; omega) h
    have e3 : pre.length + 1 = (pre ++ [x]).length := by simp
    obtain ⟨ys, q1, q2, q3⟩ := h _ _ hx
    unfold compLv
    rw [h2]
    dsimp only [Option.map_some]
    rw [q1]
    dsimp only
    rw [q2]
    show (if b pre.length x = true then _ else _) = _
    cases hb : b pre.length x
    · rw [if_neg (by simp), e3, ih, pickF, hb, ← e3]
      rfl
    · rw [if_pos rfl, q3 hb, e3]
      show bd (compLv _ _ _ _ _ _ _ _) _ = _
      rw [ih, pickF, hb, ← e3]
      rfl
/-- [e for .. in xs if c], nothing drawn -/
theorem WE.lcT {it : LF} {t : Tgt} {c : TF} {e : EF} {nx : NX} {g : Nat → α → D} (b : Nat → α → Bool) (f : Nat → α → D) {ds : List α} (hi : it ρ m = some (nx, m)) (hn : Tells nx m g ds) (hl : ds.length < 1000000)
    (h : ∀ (i : Nat) x, ds[i]? = some x → ∃ ys, t.un (g i x) = some ys ∧ WT c (setMany ρ t.is ys) m (fun v m1 => v = b i x ∧ m1 = m) ∧ (b i x = true → WE e (setMany ρ t.is ys) m fun v m1 => v = f i x ∧ m1 = m))
    (q : Q (.lst (pickF b f 0 ds)) m) : WE (eLcV false it t c e) ρ m Q :=
  WE.lcV ⟨nx, m, hi, pickF b f 0 ds, m, compLv_go (t := t) (c := c) (el := e) b f hn ds [] 1000001 rfl (by omega) (fun i x hx => by
    obtain ⟨ys, h1, ⟨v, m1, e1, rfl, rfl⟩, h3⟩ := h i x hx
    exact ⟨ys, h1, e1, fun hb => by obtain ⟨v, m2, e2, rfl, rfl⟩ := h3 hb; exact e2⟩), q⟩
theorem lIt_R {a : EF} {n : Nat} {ds : List D} (h : a ρ m = some (.ref n, m)) (hm : m[n]? = some (.lst ds)) : lIt a ρ m = some (nxR n, m) := by
  unfold lIt
  rw [h]
  show ((m[n]?).bind lstO).map (fun _ => (nxR n, m)) = _
  rw [hm]
  rfl
/-- [e for .. in xs], with draws: an invariant; what is found is told by P -/
theorem WE.lcI {it : AF} {t : Tgt} {e : EF} (I : M → List D → Prop) (h : WI it ρ m fun xs m1 => xs.length ≤ 1000000 ∧ I m1 [] ∧ (∀ i x m acc, xs[i]? = some x → acc.length = i → I m acc → ∃ ys, t.un x = some ys ∧ WE e (setMany ρ t.is ys) m fun d m1 => I m1 (acc ++ [d])) ∧ ∀ m acc, acc.length = xs.length → I m acc → Q (.lst acc) m) : WE (eLcK false it t tTrue e) ρ m Q := by
  refine WE.lcK ?_
  obtain ⟨xs, m1, e1, hz, h0, hs, hq⟩ := h
  refine ⟨xs, m1, e1, hz, ?_⟩
  have key : ∀ (rest pre : List D) (m2 : M) (acc : List D), xs = pre ++ rest → acc.length = pre.length → I m2 acc → ∃ ys m3, compGo t tTrue e ρ rest m2 = some (ys, m3) ∧ ys.length = rest.length ∧ I m3 (acc ++ ys) := by
    intro rest
    induction rest with
    | nil => intro pre m2 acc _ _ hI; exact ⟨[], m2, rfl, rfl, by simpa using hI⟩
    | cons x rest ih =>
      intro pre m2 acc ex hl hI
      have hx : xs[pre.length]? = some x := by simp [ex]
      obtain ⟨ys, q1, d, m3, q2, q3⟩ := hs pre.length x m2 acc hx hl hI
      obtain ⟨zs, m4, q4, q5, q6⟩ := ih (pre ++ [x]) m3 (acc ++ [d]) (by simp [ex]) (by simp [hl]) q3
      refine ⟨d :: zs, m4, ?_, by simp [q5], by simpa [List.append_assoc] using q6⟩
      unfold compGo
      rw [q1]
      show bd (e (setMany ρ t.is ys) m2) _ = _
      rw [q2]
      show bd (compGo t tTrue e ρ rest m3) _ = _
      rw [q4]
      rfl
  obtain ⟨ys, m3, k1, k2, k3⟩ := key xs [] m1 [] rfl rfl h0
  exact ⟨ys, m3, k1, hq m3 ys k2 (by simpa using k3)⟩
end
end L4
namespace L4
open PySem
section
variable {m : M}
theorem pdM_pure {x : D} {p : PyData} (hp : pureD x = true) (h : pd x = some p) (hs : SeqAt.shaped p = true) : pdM m x = some p := by
  unfold pdM frz
  rw [if_pos hp]
  show (match pd x with | some a => if SeqAt.shaped a then some a else none | none => none) = _
  rw [h]
  exact if_pos hs
theorem pdM_lay {x : D} {p : PyData} (h : pdM m x = some p) : p.canLay0 = true := by
  unfold pdM at h
  split at h
  · obtain ⟨hz, h⟩ := ite_some h
    cases h
    exact SeqAt.canLay_of_shaped hz
  · cases h
theorem ne_same {x : D} {p : PyData} (h : pdM m x = some p) : neD m x x = some (.bl false) := by
  unfold neD
  rw [h]
  show some (D.bl (!PyData.eqv p p)) = _
  rw [PySem.SeqAt.eqv_refl p (pdM_lay h)]
  rfl
theorem pdL_ints : ∀ is : List Int, pdL (is.map D.int) = some (is.map PyData.int)
  | [] => rfl
  | i :: is => by rw [List.map_cons, pdL, pd, pdL_ints is]; rfl
theorem pureL_ints : ∀ is : List Int, pureL (is.map D.int) = true
  | [] => rfl
  | i :: is => by rw [List.map_cons, pureL, pureD, pureL_ints is]; rfl
theorem lay_ints : ∀ is : List Int, PyData.canLayAll0 (is.map PyData.int) = true ∧ PyData.depthAll (is.map PyData.int) ≤ 1
  | [] => ⟨rfl, by simp [PyData.depthAll]⟩
  | i :: is => by
    obtain ⟨h1, h2⟩ := lay_ints is
    refine ⟨by simp [PyData.canLayAll0, PyData.canLay0, h1], ?_⟩
    simp only [List.map_cons, PyData.depthAll, PyData.depth]
    omega
theorem pdM_li {is : List Int} : pdM m (.lst (is.map .int)) = some (.list (is.map .int)) := by
  obtain ⟨h1, h2⟩ := lay_ints is
  have hd : (PyData.list (is.map .int)).depth ≤ 64 := by simp only [PyData.depth]; omega
  exact pdM_pure (pureL_ints is) (by rw [pd, pdL_ints]; rfl) (by simp [SeqAt.shaped, PyData.canLay0, h1, hd])
end
end L4
namespace L4
open PySem
section
variable {ρ : Ss} {m : M}
theorem w_and_t {x : Bool} {A B : Prop} (h : x = true) (a : A) : (x = true → A) ∧ (x = false → B) := ⟨fun _ => a, fun h' => (by rw [h] at h'; cases h')⟩
theorem w_and_f {x : Bool} {A B : Prop} (h : x = false) (b : B) : (x = true → A) ∧ (x = false → B) := ⟨fun h' => (by rw [h] at h'; cases h'), fun _ => b⟩
theorem w_or_f {x : Bool} {A B : Prop} (h : x = false) (a : A) : (x = false → A) ∧ (x = true → B) := ⟨fun _ => a, fun h' => (by rw [h] at h'; cases h')⟩
theorem w_or_t {x : Bool} {A B : Prop} (h : x = true) (b : B) : (x = false → A) ∧ (x = true → B) := ⟨fun h' => (by rw [h] at h'; cases h'), fun _ => b⟩
theorem WS.mono {f : SF} {P Q : Fl → M → Prop} (h : WS f ρ m P) (k : ∀ r m, P r m → Q r m) : WS f ρ m Q := by
  obtain ⟨r, m1, e, h⟩ := h
  exact ⟨r, m1, e, k r m1 h⟩
theorem lstOf_r {n : Nat} {ds : List D} (h : m[n]? = some (.lst ds)) : lstOf m (.ref n) = some ds := by
  show (m[n]?).bind lstO = _
  rw [h]
  rfl
end
end L4
namespace L4
open PySem PySem.Spec PyProof.Rows L2
mutual
/-- no list, no dict, nothing tracked -/
def noLd : D → Bool
  | .tup ds => noLdL ds
  | .scr ds => noLdL ds
  | .obj _ _ vs => noLdL vs
  | .lst _ => false
  | .dic _ _ => false
  | .ref _ => false
  | .non => true
  | .bl _ => true
  | .int _ => true
  | .str _ => true
  | .glo _ => true
  | .ty _ => true
def noLdL : List D → Bool
  | [] => true
  | d :: ds => noLd d && noLdL ds
end
/-- a list or a dict that may change -/
def Ll : HO → Prop
  | .lst _ => True
  | .dK _ => True
  | .ext _ => True
  | _ => False
section
variable {X : Cx} {g : G} {T : Tk} {H H' : Hp} {m : M} {pos p : Pos} {e : Expr} {es : List Expr} {k n : Nat} {x c : Str}
structure LentLd (T : Tk) (H H' : Hp) (ν : List Addr) : Prop where
  sub : ∀ a ∈ ν, a ∈ T.ν
  ld : ∀ a ∈ T.ν, a ∉ ν → ∃ u, H' a = some u ∧ Ll u
theorem LentLd.out {ν : List Addr} (h : LentLd T H H' ν) {a : Addr} {v : HO} (n : a ∉ ν) (e : H' a = some v) (hv : ¬ Ll v) : a ∉ T.ν := fun z => by
  obtain ⟨u, h2, h3⟩ := h.ld a z n
  rw [e] at h2
  cases h2
  exact hv h3
mutual
theorem Rep.unlentLd {ν : List Addr} (h : LentLd T H H' ν) : ∀ (d : D) {v : V}, noLd d = true → Rep g (T0 ν) H' d v → Rep g T H' d v
  | .non, _, _, r => by cases r; exact .non
  | .bl _, _, _, r => by cases r; exact .bl _
  | .int _, _, _, r => by cases r; exact .int _
  | .str _, _, _, r => by cases r; exact .str _
  | .glo _, _, _, r => by cases r; exact .glo _
  | .ty _, _, _, r => by cases r; exact .ty _
  | .ref _, _, q, _ => by rw [noLd] at q; cases q
  | .lst _, _, q, _ => by rw [noLd] at q; cases q
  | .dic _ _, _, q, _ => by rw [noLd] at q; cases q
  | .tup ds, _, q, .tup f r => by
    rw [noLd] at q
    refine .tup ?_ (RepL.unlentLd h ds q r)
    rcases f with ⟨n, f⟩ | f
    · exact .inl ⟨by rcases f with f | ⟨_, f⟩ <;> exact h.out n f fun z => z, f⟩
    · exact .inr f
  | .scr ds, _, q, .scr f r => by
    rw [noLd] at q
    refine .scr ?_ (RepL.unlentLd h ds q r)
    rcases f with ⟨n, ob, f⟩ | f
    · exact .inl ⟨h.out n f fun z => z, ob, f⟩
    · exact .inr f
  | .obj c ns vs, _, q, .obj n f e r => by
    rw [noLd] at q
    exact .obj (h.out n f fun z => z) f e (RepL.unlentLd h vs q r)
theorem RepL.unlentLd {ν : List Addr} (h : LentLd T H H' ν) : ∀ (ds : List D) {vs : List V}, noLdL ds = true → RepL g (T0 ν) H' ds vs → RepL g T H' ds vs
  | [], _, _, r => by cases r; exact .nil
  | d :: ds, _, q, .cons r s => by
    rw [noLdL] at q
    exact .cons (Rep.unlentLd h d (and2 q).1 r) (RepL.unlentLd h ds (and2 q).2 s)
end
/-- nothing tracked is an instance -/
def noIns (m : M) : Bool := m.all fun o => match o with
  | .ins _ _ _ => false
  | _ => true
theorem noIns_ld (hm : RepH g T H m) (h : noIns m = true) {a : Addr} (ha : a ∈ T.μ) : ∃ u, H a = some u ∧ Ll u := by
  obtain ⟨i, hi, rfl⟩ := List.getElem_of_mem ha
  have hl : i < m.length := by rw [← hm.len]; exact hi
  have h1 := hm.at_ i _ _ (List.getElem?_eq_getElem hi) (List.getElem?_eq_getElem hl)
  have h2 := List.all_eq_true.mp h m[i] (List.getElem_mem hl)
  revert h1 h2
  generalize m[i] = o
  intro h1 h2
  cases h1 with
  | lst h r => exact ⟨_, h, trivial⟩
  | dicF h r q => exact ⟨_, h, trivial⟩
  | dicN h k r q => exact ⟨_, h, trivial⟩
  | ins h k r => cases h2
def callK (F : List D → Option D) (m : M) (ds : List D) : Option D := if pureL ds then F ds else if noIns m then match mapO (frz m) ds with
    | some es => match F es with
      | some d => if noLd d then some d else none
      | none => none
    | none => none
  else none
open Classical in
theorem lent_of (hm : RepH g T H m) (h : noIns m = true) : ∃ ν : List Addr, (∀ a ∈ ν, a ∈ T.ν) ∧ (∀ a ∈ T.μ, a ∉ ν) ∧ ∀ H' : Hp, (∀ a u, H a = some u → H' a = some u) → LentLd T H H' ν := by
  refine ⟨T.ν.filter fun a => decide (∀ u, H a = some u → ¬ Ll u), fun a h => (List.mem_filter.mp h).1, fun a ha hn => ?_, fun H' up => ⟨fun a h => (List.mem_filter.mp h).1, fun a ha hna => ?_⟩⟩
  · obtain ⟨u, hu, hl⟩ := noIns_ld hm h ha
    exact (of_decide_eq_true (List.mem_filter.mp hn).2) u hu hl
  · apply Classical.byContradiction
    intro hno
    apply hna
    exact List.mem_filter.mpr ⟨ha, decide_eq_true fun u hu hdu => hno ⟨u, up a u hu, hdu⟩⟩
theorem rf_callK {F : List D → Option D} (hn : ∀ ds d, F ds = some d → ds.length = n) : RfC g (fun vs H Q => spP g n F vs H Q E0) (callK F) := by
  intro T H m xs vs d hm r hf Q k
  unfold callK at hf
  split at hf
  · next hp =>
    refine ⟨by rw [← r.length]; exact hn _ _ hf, T.ν, xs, d, hm.has, RepL.pure (fun _ h => h) _ hp r, hf, fun v H' up rv => ?_⟩
    obtain ⟨l, hm'⟩ := hm.grow up
    exact k v T H' l hm' (Rep.lift _ rv)
  · obtain ⟨hi, hf⟩ := ite_some hf
    split at hf
    · next es h1 =>
      split at hf
      · next d' h2 =>
        obtain ⟨hg, hf⟩ := ite_some hf
        cases hf
        obtain ⟨ν, hν, hμ, lent⟩ := lent_of hm hi
        have re : RepL g (T0 ν) H es vs := r.mapO (fun d e v h q => frz_ok hm hν hμ h q) h1
        refine ⟨by rw [← re.length]; exact hn _ _ h2, ν, es, d, fun a h => hm.has a (hν a h), re, h2, fun v H' up rv => ?_⟩
        obtain ⟨l, hm'⟩ := hm.grow up
        exact k v T H' l hm' (Rep.unlentLd (lent H' up) _ hg rv)
      · cases hf
    · cases hf
theorem de_pfnK {F : List D → Option D} {f : AF} (hF : PFn X.prog X.w X.K X.mg X.base k x n F) (gd : Gd k X) (hg : Gl X x) (ha : DA X (e :: es) f) (hdb : (x == ("__debug__" : Str)) = false := by decide)
    (he : starEach (e :: es) X.env = (false, eval e X.env) :: starEach es X.env := by rfl) (hpl : (backTo pos (starEach es X.env)).any (·.1) = false := by rfl) : DE X (.Call (.Name x p) (e :: es) [] pos) (eCall (callK F) f) := by
  obtain ⟨fa, fd, ps, G, hm, kp, b⟩ := hF.ex
  obtain ⟨t, pa, ra⟩ := ha.ex
  exact ⟨_, pe_callR (app_nil (r := fun _ _ _ => True) (G.call gd b .nil)) hg hm kp pa hdb he hpl, rf_call (rf_callK hF.len) ra⟩
end
end L4
namespace L4
open PySem
theorem str_ext {a b : Str} (h : a.cps.toList = b.cps.toList) : a = b := by
  cases a; cases b
  congr 1
  exact Array.ext' h
theorem catS_l (a b : Str) : (catS a b).cps.toList = a.cps.toList ++ b.cps.toList := rfl
theorem joinT_l (a : Str) (ys : List Str) : (joinT a ys).cps.toList = TL.joinL a.cps.toList (ys.map fun y => y.cps.toList) := rfl
theorem spl1_word (c : Nat) : ∀ w : List Nat, c ∉ w → spl1 c w = [w]
  | [], _ => rfl
  | x :: w, h => by
    have hx : ¬ x = c := fun e => h (by simp [e])
    have ih := spl1_word c w fun e => h (List.mem_cons_of_mem _ e)
    unfold spl1
    rw [if_neg hx, ih]
theorem spl1_cons (c : Nat) (r : List Nat) : ∀ w : List Nat, c ∉ w → spl1 c (w ++ c :: r) = w :: spl1 c r
  | [], _ => by rw [List.nil_append]; conv => lhs; unfold spl1; rw [if_pos rfl]
  | x :: w, h => by
    have hx : ¬ x = c := fun e => h (by simp [e])
    have ih := spl1_cons c r w fun e => h (List.mem_cons_of_mem _ e)
    rw [List.cons_append]
    conv => lhs; unfold spl1
    rw [if_neg hx, ih]
theorem spl1_join (c : Nat) : ∀ ws : List (List Nat), ws ≠ [] → (∀ w ∈ ws, c ∉ w) → spl1 c (TL.joinL [c] ws) = ws
  | [], h, _ => absurd rfl h
  | [w], _, h => spl1_word c w (h w List.mem_cons_self)
  | w :: v :: ws, _, h => by
    have ih := spl1_join c (v :: ws) (by simp) fun u hu => h u (List.mem_cons_of_mem _ hu)
    show spl1 c (w ++ ([c] ++ TL.joinL [c] (v :: ws))) = _
    rw [List.singleton_append, spl1_cons c _ w (h w List.mem_cons_self), ih]
theorem mk_toList (y : Str) : (⟨y.cps.toList.toArray⟩ : Str) = y := by cases y; simp
/-- a text joined of words without a sign is split at it into these words -/
theorem split_join {a : Str} {c : Nat} (ha : a.cps.toList = [c]) {ws : List Str} (hne : ws ≠ []) (h : ∀ w ∈ ws, c ∉ w.cps.toList) : splitS (joinT a ws) c = ws := by
  unfold splitS
  rw [joinT_l, ha, spl1_join c _ (by simpa using hne) (fun w hw => by
    obtain ⟨y, hy, rfl⟩ := List.mem_map.mp hw
    exact h y hy), List.map_map]
  conv => rhs; rw [← List.map_id ws]
  exact List.map_congr_left fun y _ => mk_toList y
theorem joinL_len (c : Nat) : ∀ ws : List (List Nat), (TL.joinL [c] ws).length ≤ (ws.map fun w => w.length + 1).sum
  | [] => by simp [TL.joinL]
  | [w] => by simp [TL.joinL]
  | w :: v :: ws => by
    have ih := joinL_len c (v :: ws)
    show (w ++ ([c] ++ TL.joinL [c] (v :: ws))).length ≤ _
    simp only [List.length_append, List.length_singleton, List.map_cons, List.sum_cons] at ih ⊢
    omega
theorem slen (x : Str) : x.length = x.cps.toList.length := by
  cases x
  simp [Str.length]
theorem txts_map : ∀ ws : List Str, txts (ws.map D.str) = some ws
  | [] => rfl
  | w :: ws => by
    show (txts (ws.map D.str)).map (w :: ·) = _
    rw [txts_map ws]
    rfl
section
variable {m : M} {Q : D → Prop} {ρ : Ss}
/-- ' '.join of words -/
theorem Kn.join {a : Str} {y : D} {ws : List Str} (hy : seqD m y = some (ws.map D.str)) (hz : (ws.map (·.length)).sum + ws.length * a.length ≤ 16777216) (q : Q (.str (joinT a ws))) : Kn (joinD m (.str a) y) Q := ⟨_, by
  show ((seqD m y).bind txts).bind (joinS a) = _
  rw [hy]
  show (txts (ws.map D.str)).bind (joinS a) = _
  rw [txts_map]
  exact if_pos hz, q⟩
theorem Kn.split {a b : Str} {c : Nat} {ws : List Str} (hb : b.cps.toList = [c]) (hc : c < 256) (ha : a.length + 2 ≤ sizeLine) (e : splitS a c = ws) (q : Q (.lst (ws.map D.str))) : Kn (splitD m (.str a) (.str b)) Q := ⟨_, by
  show (match b.cps.toList with
    | [c] => if c < 256 ∧ a.length + 2 ≤ sizeLine then some (D.lst ((splitS a c).map .str)) else none
    | _ => none) = _
  rw [hb]
  show (if c < 256 ∧ a.length + 2 ≤ sizeLine then some (D.lst ((splitS a c).map .str)) else none) = _
  rw [if_pos ⟨hc, ha⟩, e], q⟩
theorem WE.m1 {F : M → D → D → Option D} {a b : EF} {Q : D → M → Prop} (h : WE a ρ m fun x m1 => ∃ z, x = .str z ∧ WE b ρ m1 fun y m2 => Kn (F m2 (.str z) y) fun d => Q d m2) : WE (eM1 F a b) ρ m Q := by
  obtain ⟨x, m1, e1, z, rfl, y, m2, e2, d, e3, q⟩ := h
  refine ⟨d, m2, ?_, q⟩
  unfold eM1
  rw [e1]
  show bd (b ρ m1) _ = _
  rw [e2]
  show pu (F m2 (.str z) y) m2 = _
  rw [e3]
  rfl
theorem Kn.str_s {x : Str} (q : Q (.str x)) : Kn (strT m [.str x]) Q := ⟨_, rfl, q⟩
end
end L4
namespace L4
open PySem
section
variable {m : M} {ρ : Ss} {Q : D → M → Prop}
theorem WE.newPL {i : Nat} {c : Str} {F : List D → M → Option (D × M)} {a : AF} (h0 : ρ.getD i none = some (.glo c)) (h : WA a ρ m fun xs m1 => Kn (pureC (newP c F) m1 xs) fun d => Q d m1) : WE (eNewPL i c F a) ρ m Q := by
  obtain ⟨d, m1, e, q⟩ := WE.call h
  refine ⟨d, m1, ?_, q⟩
  unfold eNewPL
  rw [h0]
  show (if c = c then eCall (pureC (newP c F)) a ρ m else none) = _
  rw [if_pos rfl]
  exact e
theorem WE.tbl {tb : List (Str × D)} {a : EF} (h : WE a ρ m fun y m1 => Kn (tblGet tb y) fun d => Q d m1) : WE (eTbl tb a) ρ m Q :=
  Wr.bd (by obtain ⟨y, m1, e, h⟩ := h; exact ⟨y, m1, e, Wr.pu h⟩)
theorem WE.tblNin {tb : List (Str × D)} {a : EF} (h : WE a ρ m fun y m1 => ∃ z, y = .str z ∧ Q (.bl (!(tb.lookup z).isSome)) m1) : WE (eTblNin tb a) ρ m Q :=
  Wr.bd (by obtain ⟨y, m1, e, z, rfl, h⟩ := h; exact ⟨_, m1, e, _, m1, rfl, h⟩)
/-- [e for x in xs], nothing drawn, over plain data -/
theorem WE.lcM {it : AF} {i : Nat} {e : EF} {α : Type} (enc f : α → D) {xs : List α} (hi : WI it ρ m fun ys m1 => ys = xs.map enc ∧ m1 = m) (hl : xs.length ≤ 1000000) (h : ∀ x ∈ xs, WE e (ρ.set i (some (enc x))) m fun v m1 => v = f x ∧ m1 = m) (q : Q (.lst (xs.map f)) m) : WE (eLcK false it (.one i) tTrue e) ρ m Q := by
  obtain ⟨ys, m1, e1, rfl, rfl⟩ := hi
  refine WE.lcK ⟨_, m1, e1, by simpa using hl, ?_⟩
  have := comp_pure (t := .one i) (c := tTrue) (e := e) (ρ := ρ) (m := m1) enc (fun _ => true) f xs fun x hx => by
    obtain ⟨v, m2, e2, rfl, rfl⟩ := h x hx
    exact ⟨[enc x], rfl, rfl, fun _ => e2⟩
  rw [List.filter_eq_self.mpr (fun _ _ => rfl)] at this
  exact ⟨_, m1, this, q⟩
theorem in_non {is : List Int} : inA m .non (.lst (is.map .int)) = some (.bl false) := by
  have e : inAB m .non (.lst (is.map .int)) = some false := by
    show inB m .non (.lst (is.map .int)) = _
    have h0 : pdM m .non = some .none := pdM_pure rfl rfl rfl
    show (match pdM m .non, pdM m (.lst (is.map .int)) with
      | some a, some (.tuple ds) => some (ds.any fun z => PyData.eqv z a)
      | some a, some (.list ds) => some (ds.any fun z => PyData.eqv z a)
      | _, _ => none) = _
    rw [pdM_li, h0]
    show some ((is.map PyData.int).any fun z => PyData.eqv z .none) = _
    congr 1
    induction is with
    | nil => rfl
    | cons j is ih => rw [List.map_cons, List.any_cons, ih]; rfl
  unfold inA
  rw [e]
  rfl
end
end L4
namespace L4
open PySem
section
variable {m : M} {ρ : Ss} {Q : D → M → Prop}
/-- {k: e, ..} -/
def WP (ps : List (EF × EF)) (ρ : Ss) (m : M) (Q : List (D × D) → M → Prop) : Prop := Wr (pairsF ps ρ m) Q
theorem WP.nil {Q : List (D × D) → M → Prop} (q : Q [] m) : WP [] ρ m Q := ⟨[], m, rfl, q⟩
theorem WP.cons {a b : EF} {r : List (EF × EF)} {Q : List (D × D) → M → Prop} (h : WE a ρ m fun x m1 => WE b ρ m1 fun y m2 => WP r ρ m2 fun ps m3 => Q ((x, y) :: ps) m3) : WP ((a, b) :: r) ρ m Q := by
  obtain ⟨x, m1, e1, y, m2, e2, ps, m3, e3, q⟩ := h
  refine ⟨(x, y) :: ps, m3, ?_, q⟩
  unfold pairsF
  rw [e1]
  show bd (b ρ m1) _ = _
  rw [e2]
  show bd (pairsF r ρ m2) _ = _
  rw [e3]
  rfl
theorem WE.disp {nw : Bool} {ps : List (EF × EF)} (h : WP ps ρ m fun qs m1 => ((qs.all fun q => isFlat q.1) && decide (qs.length ≤ 15)) = true ∧ Q (bif nw then .ref m1.length else .dic (mergeD qs ([], [])).1 (mergeD qs ([], [])).2) (bif nw then m1 ++ [.dic (mergeD qs ([], [])).1 (mergeD qs ([], [])).2] else m1)) : WE (eDisp nw ps) ρ m Q :=
  Wr.bd (by obtain ⟨qs, m1, e, h1, q⟩ := h; exact ⟨qs, m1, e, _, _, (if_pos h1).trans (by cases nw <;> rfl), q⟩)
/-- d.update(e) -/
theorem WE.upd {a b : EF} (h : WE a ρ m fun x m1 => ∃ n, x = .ref n ∧ (∃ ks0 vs0, m1[n]? = some (.dic ks0 vs0) ∧ flatL ks0 = true) ∧ WE b ρ m1 fun y m2 => ∃ ks vs ks2 vs2, m2[n]? = some (.dic ks vs) ∧ y = .dic ks2 vs2 ∧ (flatL ks && flatL ks2 && decide (ks.length + ks2.length ≤ sizeLine) && decide (ks2.length = vs2.length)) = true ∧ Q .non (m2.set n (.dic (mergeD (ks2.zip vs2) (ks, vs)).1 (mergeD (ks2.zip vs2) (ks, vs)).2))) : WE (eUpd a b) ρ m Q := by
  obtain ⟨x, m1, e1, n, rfl, ⟨ks0, vs0, h0, hf0⟩, y, m2, e2, ks, vs, ks2, vs2, h1, rfl, h2, q⟩ := h
  refine ⟨.non, _, ?_, q⟩
  unfold eUpd
  rw [e1]
  show (match m1[n]? with
    | some (.dic ks0 _) => if flatL ks0 then bd (b ρ m1) fun y m2 => match m2[n]?, y with
        | some (.dic ks vs), .dic ks2 vs2 => if flatL ks && flatL ks2 && decide (ks.length + ks2.length ≤ sizeLine) && decide (ks2.length = vs2.length) then some (D.non, m2.set n (.dic (mergeD (ks2.zip vs2) (ks, vs)).1 (mergeD (ks2.zip vs2) (ks, vs)).2)) else none
        | _, _ => none
      else none
    | _ => none) = _
  rw [h0]
  show (if flatL ks0 then bd (b ρ m1) _ else none) = _
  rw [if_pos hf0, e2]
  show (match m2[n]?, D.dic ks2 vs2 with
        | some (.dic ks vs), .dic ks2 vs2 => if flatL ks && flatL ks2 && decide (ks.length + ks2.length ≤ sizeLine) && decide (ks2.length = vs2.length) then some (D.non, m2.set n (.dic (mergeD (ks2.zip vs2) (ks, vs)).1 (mergeD (ks2.zip vs2) (ks, vs)).2)) else none
        | _, _ => none) = _
  rw [h1]
  exact if_pos h2
theorem WE.chain {f h : M → D → D → Option D} {a b c : EF} (q : WE a ρ m fun x m1 => WE b ρ m1 fun y m2 => Kn (f m2 x y) fun d => ∃ v, d = .bl v ∧ (v = true → WE c ρ m2 fun z m3 => Kn (h m3 y z) fun d2 => Q d2 m3) ∧ (v = false → Q (.bl false) m2)) : WE (eChain f h a b c) ρ m Q := by
  obtain ⟨x, m1, e1, y, m2, e2, d, e3, v, rfl, q1, q2⟩ := q
  unfold eChain WE
  show Wr (bd (a ρ m) _) Q
  rw [e1]
  show Wr (bd (b ρ m1) _) Q
  rw [e2]
  show Wr (match f m2 x y with
    | some (.bl true) => bd (c ρ m2) fun z m3 => pu (h m3 y z) m3
    | some (.bl false) => some (.bl false, m2)
    | _ => none) Q
  rw [e3]
  cases v
  · exact ⟨_, m2, rfl, q2 rfl⟩
  · obtain ⟨z, m3, e4, d2, e5, q⟩ := q1 rfl
    refine ⟨d2, m3, ?_, q⟩
    show bd (c ρ m2) _ = _
    rw [e4]
    show pu (h m3 y z) m3 = _
    rw [e5]
    rfl
end
end L4
namespace L4
open PySem
section
variable {m : M} {Q : D → Prop}
theorem ix_dp {ks vs : List D} {y x : D} (e : (if headOk ks y then dGet ks vs y else none) = some x) : ixA m (.dic ks vs) y = some x := by
  have e1 : dicOf m (.dic ks vs) = some (ks, vs) := rfl
  unfold ixA
  rw [e1]
  exact e
theorem Kn.callK {F : List D → Option D} {xs ys : List D} {d : D} (hp : pureL xs = false) (hi : noIns m = true) (hz : mapO (frz m) xs = some ys) (e : F ys = some d) (hg : noLd d = true) (q : Q d) : Kn (callK F m xs) Q := ⟨d, by
  unfold L4.callK
  rw [hp, hz]
  simp only [Bool.false_eq_true, if_false, hi, if_true, e, hg], q⟩
end
end L4
namespace L4
open PySem
section
variable {m : M} {ρ : Ss}
/-- a loop with an invariant that counts down -/
theorem WS.whileI {c : TF} {b : SF} {Q : Fl → M → Prop} (I : Nat → Ss → M → Prop) : ∀ (k w : Nat) (ρ : Ss) (m : M), k < w → I k ρ m →
    (∀ k ρ m, I k ρ m → WT c ρ m fun x m1 => (x = true → WS b ρ m1 fun r m2 => (∃ ρ2 k2, (r = .nx ρ2 ∨ r = .ct ρ2) ∧ k2 < k ∧ I k2 ρ2 m2) ∨ (∃ d, r = .rt d ∧ Q (.rt d) m2) ∨ ∃ ρ2, r = .bk ρ2 ∧ Q (.nx ρ2) m2) ∧ (x = false → Q (.nx ρ) m1)) → WS (sWhile w c b) ρ m Q
  | k, 0, _, _, hw, _, _ => by omega
  | k, w + 1, ρ, m, hw, hI, hs => by
    obtain ⟨x, m1, e1, h1, h2⟩ := hs k ρ m hI
    unfold WS sWhile
    show Wr (bd (c ρ m) _) Q
    rw [e1]
    cases x
    · exact ⟨_, m1, rfl, h2 rfl⟩
    · obtain ⟨r, m2, e2, h⟩ := h1 rfl
      show Wr (bd (b ρ m1) _) Q
      rw [e2]
      rcases h with ⟨ρ2, k2, hr, hk, hI2⟩ | ⟨d, rfl, q⟩ | ⟨ρ2, rfl, q⟩
      · have ih := WS.whileI (c := c) (b := b) I k2 w ρ2 m2 (by omega) hI2 hs
        rcases hr with rfl | rfl <;> exact ih
      · exact ⟨_, m2, rfl, q⟩
      · exact ⟨_, m2, rfl, q⟩
end
end L4
namespace L4
open PySem
section
variable {m : M} {ρ : Ss} {Q : D → M → Prop}
/-- a field of an object -/
def Fld (m : M) (x : D) (cs : List Str) (f : Str) (Q : D → Prop) : Prop := ∃ c ns vs v, insOf m x = some (c, ns, vs) ∧ cs.contains c = true ∧ fldAt ns vs f = some v ∧ Q v
theorem WE.fldF {cs : List Str} {f : Str} {o : EF} (h : WE o ρ m fun x m1 => Fld m1 x cs f fun v => Q v m1) : WE (eFld cs f o) ρ m Q := by
  obtain ⟨x, m1, e, c, ns, vs, v, h1, h2, h3, q⟩ := h
  refine ⟨v, m1, ?_, q⟩
  unfold eFld
  rw [e]
  show (match insOf m1 x with
    | some (c, ns, vs) => if cs.contains c = true then pu (fldAt ns vs f) m1 else none
    | none => none) = _
  rw [h1]
  show (if cs.contains c = true then pu (fldAt ns vs f) m1 else none) = _
  rw [if_pos h2, h3]
  rfl
end
end L4
namespace L4
open PySem
section
variable {m : M} {ρ : Ss} {Q : D → M → Prop}
/-- o.m(..), an object's method on plain data -/
theorem WE.mth {c nm : Str} {F : M → List D → Option D} {o : EF} {a : AF} (h : WE o ρ m fun x m1 => ∃ ns vs, insOf m1 x = some (c, ns, vs) ∧ ns.contains nm = false ∧ WA a ρ m1 fun xs m2 => Kn (F m2 (x :: xs)) fun d => Q d m2) : WE (eMth c nm F o a) ρ m Q := by
  obtain ⟨x, m1, e, ns, vs, h1, h2, xs, m2, e2, d, e3, q⟩ := h
  refine ⟨d, m2, ?_, q⟩
  unfold eMth
  rw [e]
  show (match insOf m1 x with
    | some (c', ns, _) => if c' = c ∧ ns.contains nm = false then bd (a ρ m1) fun xs m2 => pu (F m2 (x :: xs)) m2 else none
    | none => none) = _
  rw [h1]
  show (if c = c ∧ ns.contains nm = false then bd (a ρ m1) fun xs m2 => pu (F m2 (x :: xs)) m2 else none) = _
  rw [if_pos ⟨rfl, h2⟩, e2]
  show pu (F m2 (x :: xs)) m2 = _
  rw [e3]
  rfl
end
end L4
namespace L4
open PySem
section
variable {m : M} {ρ : Ss} {Q : D → M → Prop}
/-- [e for .. in xs if c] over a plain list, nothing drawn -/
theorem WE.lcP {it : AF} {t : Tgt} {c : TF} {e : EF} {α : Type} (enc : α → D) (b : α → Bool) (f : α → D) {xs : List α} (hi : WI it ρ m fun ys m1 => ys = xs.map enc ∧ m1 = m) (hl : xs.length ≤ 1000000)
    (h : ∀ x ∈ xs, ∃ ds, t.un (enc x) = some ds ∧ WT c (setMany ρ t.is ds) m (fun v m1 => v = b x ∧ m1 = m) ∧ (b x = true → WE e (setMany ρ t.is ds) m fun v m1 => v = f x ∧ m1 = m)) (q : Q (.lst ((xs.filter b).map f)) m) : WE (eLcK false it t c e) ρ m Q := by
  obtain ⟨ys, m1, e1, rfl, rfl⟩ := hi
  refine WE.lcK ⟨_, _, e1, by simpa using hl, (xs.filter b).map f, _, comp_pure enc b f xs (fun x hx => ?_), q⟩
  obtain ⟨ds, h1, ⟨v, m2, e2, rfl, rfl⟩, h3⟩ := h x hx
  exact ⟨ds, h1, e2, fun hb => by obtain ⟨v, m3, e3, rfl, rfl⟩ := h3 hb; exact e3⟩
theorem filt_ge (c : Nat) : ∀ n, c ≤ n → (List.range n).filter (fun x => decide (c ≤ x)) = (List.range (n - c)).map (c + ·)
  | 0, h => by
    have : c = 0 := by omega
    subst this
    rfl
  | n + 1, h => by
    by_cases hc : c ≤ n
    · rw [List.range_succ, List.filter_append, filt_ge c n hc, show n + 1 - c = (n - c) + 1 by omega, List.range_succ, List.map_append]
      have : c + (n - c) = n := by omega
      simp [hc, this]
    · have : c = n + 1 := by omega
      subst this
      rw [Nat.sub_self, List.filter_eq_nil_iff.mpr]
      · rfl
      · intro a ha
        have := List.mem_range.mp ha
        simp only [decide_eq_true_eq]
        omega
theorem filt_le (c : Nat) : ∀ n, c < n → (List.range n).filter (fun x => decide (x ≤ c)) = List.range (c + 1)
  | 0, h => absurd h (Nat.not_lt_zero _)
  | n + 1, h => by
    by_cases hc : c < n
    · rw [List.range_succ, List.filter_append, filt_le c n hc]
      have : ¬ n ≤ c := by omega
      simp [this]
    · have : c = n := by omega
      subst this
      rw [List.filter_eq_self.mpr]
      intro a ha
      have := List.mem_range.mp ha
      simp only [decide_eq_true_eq]
      omega
theorem atI_last {α : Type} {ds : List α} {d : α} (h : ds.getLast? = some d) : L2.atI ds (-1) = some d := by
  have hn : ds ≠ [] := by rintro rfl; cases h
  have hp := List.length_pos_iff.mpr hn
  rw [List.getLast?_eq_getElem?] at h
  have e : L2.ixN ds.length (-1) = some (ds.length - 1) := by
    unfold L2.ixN
    rw [if_neg (by decide), if_pos (by omega)]
    congr 1
    omega
  unfold L2.atI
  rw [e]
  exact h
theorem Kn.ix_ln {m : M} {ds : List D} {d : D} {Q : D → Prop} (h : ds.getLast? = some d) (q : Q d) : Kn (ixA m (.lst ds) (.int (-1))) Q := ⟨d, by rw [ixA_lst]; exact atI_last h, q⟩
end
end L4
namespace L4
open PySem PySem.Spec PyProof.Rows L2
section
variable {X : Cx} {g : G} {T T' : Tk} {H : Hp} {m : M} {Q : VK} {pos p : Pos} {e : Expr} {ks vs : List D} {kvs : List (Key × V)}
def dicW (m : M) : D → Option (List D × List D)
  | .ref n => match m[n]? with
    | some (.dic ks vs) => if flatL ks then some (ks, vs) else none
    | _ => none
  | .dic ks vs => if flatL ks then some (ks, vs) else none
  | _ => none
/-- a new dict that stays as it is -/
theorem KV.dicF (k : KV g T H m (.dic ks vs) Q) (hm : RepH g T H m) (r1 : RepL g T H ks (kvs.map fun p => kV p.1)) (r2 : RepL g T H vs (kvs.map Prod.snd)) (p : Addr) (hp : H p = none) : Q (.ref p) (upd H p (.dK kvs)) := by
  obtain ⟨l, hm'⟩ := hm.fresh (u := .dK kvs) hp
  exact k _ T _ l hm' (.dicF (fun z => hm.nope hp z) (.inl upd_same) (r1.le l) (r2.le l))
def eDicC (nw : Bool) (a : EF) : EF := fun ρ m => bd (a ρ m) fun x m1 => match dicW m1 x with
  | some (ks, vs) => some (bif nw then (.ref m1.length, m1 ++ [.dic ks vs]) else (.dic ks vs, m1))
  | none => none
end
end L4
namespace L4
open PySem
section
variable {m : M} {ρ : Ss} {Q : D → M → Prop}
theorem WE.dicC {nw : Bool} {a : EF} (h : WE a ρ m fun x m1 => Kn (dicW m1 x) fun p => Q (bif nw then D.ref m1.length else D.dic p.1 p.2) (bif nw then m1 ++ [O.dic p.1 p.2] else m1)) : WE (eDicC nw a) ρ m Q := by
  obtain ⟨x, m1, e, ⟨ks, vs⟩, e2, q⟩ := h
  refine ⟨_, _, ?_, q⟩
  unfold eDicC
  rw [e]
  show (match dicW m1 x with
    | some (ks, vs) => some (bif nw then (D.ref m1.length, m1 ++ [O.dic ks vs]) else (D.dic ks vs, m1))
    | none => none) = _
  rw [e2]
  cases nw <;> rfl
end
end L4
namespace L4
open PySem PySem.Spec PyProof.Rows L2
section
variable {X : Cx} {g : G} {T T' : Tk} {H : Hp} {m : M} {Q : VK} {k n : Nat} {c : Str} {F : List D → Option D}
/-- x == y of two objects of the class c -/
def eqO (c : Str) (F : List D → Option D) (m : M) (x y : D) : Option Bool := match insOf m x, insOf m y with
  | some (c1, _, _), some (c2, _, _) => if c1 = c ∧ c2 = c then match callP F m [x, y] with
    | some (.bl b) => some b
    | _ => none
    else none
  | _, _ => none
end
end L4
namespace L4
open PySem PySem.Spec PyProof.Rows L2
section
variable {X : Cx} {g : G} {T : Tk} {H : Hp} {m : M} {Q : VK} {pos apos cpos : Pos}
/-- a tuple that is known to the object -/
def Kt (H : Hp) (a : Addr) (vs : List V) : Prop := ∃ ob : Obj, H a = some (.frz ob (.tup vs)) ∧ ob.dict = none
theorem Kt.new {H : Hp} {p : Addr} {ob : Obj} {vs : List V} (h : ob.dict = none) : Kt (upd H p (.frz ob (.tup vs))) p vs := ⟨ob, upd_same, h⟩
theorem Kt.rd {a : Addr} {vs : List V} (h : Kt H a vs) : Rd H a (.tup vs) := by obtain ⟨ob, h, _⟩ := h; exact .inr ⟨ob, h⟩
/-- laid anew -/
def NewT (H : Hp) (vs : List V) (Q : VK) : Prop := ∀ (p : Addr) (ob : Obj), H p = none → ob.dict = none → Q (.ref p) (upd H p (.frz ob (.tup vs)))
theorem lay_kt {pins : List (Addr × Obj)} {s : Shared} {σ : L2.St} {its : List Value} {vs : List V} (I : Inv X pins σ H s) (r : Vals vs its) (z : vs.length ≤ sizeLine) (k : NewT H vs Q) :
    EP X pins σ Q (.ref s.heap.objs.size) { s with heap := s.heap.push { cls := .type "tuple", data := .seq its.toArray } } := by
  refine ⟨.ref s.heap.objs.size, upd H s.heap.objs.size (.frz { cls := .type "tuple", data := .seq its.toArray } (.tup vs)), I.laid (t' := s.toks) (fun b u e => Heap.get?_push_of_some _ e) (Nat.le_refl _) ⟨Heap.get?_push_size _ rfl, z, its, r, IsTup.new _ _⟩, rfl, k _ _ (I.hok.fresh (Nat.le_refl _)) rfl⟩
def tKT (t : TA) : TE := fun σ H Q => t σ H fun xs H1 => xs.length ≤ sizeLine ∧ NewT H1 xs Q
theorem pe_kt {es : List Expr} {x1} {t : TA} (h : PA X es t) : PE X (.Tuple es x1 pos) (tKT t) :=
  ⟨fun pins s σ H Q I hq => wpAny_Tuple_spliced (thn (h.run pos pins s σ H _ I hq) fun _ _ ⟨_, _, I1, r, z, q⟩ => ⟨r.length ▸ z, lay_kt I1 r z q⟩)⟩
def rKadd (K : PySem.W.Frag) : R2 := fun x y H Q => ∃ a b xs ys, x = .ref a ∧ y = .ref b ∧ SqT K H a xs ∧ Kt H b ys ∧ ys ≠ [] ∧ xs.length + ys.length ≤ sizeLine ∧ (xs = [] → Q (.ref b) H) ∧ (xs ≠ [] → NewT H (xs ++ ys) Q)
theorem op_kadd : OpR X (binaryOp .Add) (rKadd X.K) := fun pins s σ H x y v u Q I rx ry h => by
  obtain ⟨a, b, xs, ys, rfl, rfl, ha, hb, hy, hz, q1, q2⟩ := h
  cases rx; cases ry
  obtain ⟨ia, ra, pa, _⟩ := I.tuple ha
  obtain ⟨ib, rb, pb, _⟩ := I.tuple (.inl hb.rd)
  by_cases hx : xs = []
  · have e := ra.nil_iff.mpr hx
    subst e
    exact cat_tup0 pa pb ⟨.ref b, H, I, rfl, q1 hx⟩
  · exact HT.cat_tup pa pb (fun z => hx (ra.nil_iff.mp z)) (fun z => absurd (rb.nil_iff.mp z) hy) (fun _ => lay_kt I (ra.append rb) (by rw [List.length_append]; exact hz) (q2 hx)) (by rw [← ra.length, ← rb.length]; exact hz)
def Whl (n : Nat) (lo hi : Option Int) : Prop := HT.sIx n 0 lo = 0 ∧ HT.sIx n n hi = n
def rKsl : V → Option Int → Option Int → Hp → VK → Prop := fun x lo hi H Q => ∃ a xs, x = .ref a ∧ Kt H a xs ∧ (Whl xs.length lo hi → Q (.ref a) H) ∧ (¬ Whl xs.length lo hi → NewT H (L2.cutV xs lo hi) Q)
theorem sl_kt : SlR X rKsl := fun pins s σ H x v vl vu lo hi sl Q I rx hs pl pu h => by
  obtain ⟨a, xs, rfl, hx, q0, q1⟩ := h
  cases rx
  obtain ⟨ia, ra, ta, za⟩ := I.tuple (.inl hx.rd)
  have el : ia.toArray.size = xs.length := by rw [List.size_toArray]; exact ra.length.symm
  refine ⟨"tuple", _, PyProof.Rows.slot_tuple_getitem.lookup, ta.typeIs, ?_⟩
  by_cases hw : Whl xs.length lo hi
  · exact getItem_tuple_whole ta hs pl pu (by rw [el]; exact hw) ⟨.ref a, H, I, rfl, q0 hw⟩
  · refine HT.getItem_tuple_cut ta hs pl pu (by rw [el]; exact hw) ?_ (by rw [el]; exact za)
    rw [el]
    exact lay_kt I ((ra.drop (HT.sIx xs.length 0 lo)).take (HT.sIx xs.length xs.length hi - HT.sIx xs.length 0 lo)) (Nat.le_trans (cutV_length xs lo hi) za) (q1 hw)
def tKcnt (t : TE) : TE := fun σ H Q => t σ H fun x H1 => ∃ a ys, x = .ref a ∧ Kt H1 a ys ∧ ys.all flatV = true ∧ Q (.int ((ys.countP fun z => eqV z (.bl true) : Nat) : Int)) H1
theorem pe_kcnt {o : Expr} {t : TE} {k p2} (ho : PE X o t) (hbase : attributeBase o "count" X.env (eval o X.env) = eval o X.env := by rfl)
    (hfew : ((backTo cpos (starEach [.Constant (.bool true) k p2] X.env)).all (fun x => !x.1) && (backToKw cpos (keywordEach [] X.env)).all (fun x => x.1.isSome)
      && decide (([Expr.Constant (.bool true) k p2] : List Expr).length + ([] : List Keyword).length + (if ([] : List Keyword).isEmpty then 0 else 1) < 30)) = true := by rfl)
    (hline : (apos.endLine == cpos.line) = true := by rfl) :
    PE X (.Call (.Attribute o "count" apos) [.Constant (.bool true) k p2] [] cpos) (tKcnt t) := ⟨fun pins s σ H Q I h => by
  refine wpAny_Call_method_late hbase hfew hline rfl (thn (ho.run pins s σ H _ I h) fun v s1 ⟨x, H1, I1, r1, q1⟩ => ?_)
  obtain ⟨a, ys, rfl, ⟨ob, hk, hd⟩, fl, q⟩ := q1
  cases r1
  obtain ⟨ia, ra, ta, za⟩ := I1.tuple (.inl (Rd.of hk |> fun _ => .inr ⟨ob, hk⟩))
  have oh : s1.heap.get? a = some ob := (I1.hok a _ hk).1
  refine ⟨"tuple", _, PySem.F.plainAttrs_tuple, PySem.F.slot_tuple_count, PySem.F.type_tuple_count, ta.typeIs, fun b e => by cases e; exact ⟨ob, oh, hd⟩, ?_⟩
  have hA := (pa_cons (X := X) (pe_bl (b := true) (j := k) (pos := p2)) pa_nil).run cpos pins s1 σ H1 (fun us H2 => us = [.bl true] ∧ H2 = H1) I1 ⟨rfl, rfl⟩
  refine Calls.callWith_builtin rfl (Calls.evalArgs_plain ?_)
  refine thn hA fun us s2 ⟨vs, H2, I2, r2, e2, e3⟩ => ?_
  subst e2 e3
  obtain ⟨u, rfl, ru⟩ := r2.one
  have ob2 : s2.heap.get? a = some ob := (I2.hok a _ hk).1
  obtain ⟨ib, rb, tb, zb⟩ := I2.tuple (.inl (.inr ⟨ob, hk⟩))
  obtain ⟨⟨cls, dd, data, sl⟩, ho3, hc3, n3, hd3⟩ := id tb
  simp only at hc3 hd3
  subst hc3 hd3
  refine call_meets PySem.F.slot_tuple_count ⟨_, ho3, rfl⟩ PySem.F.entry_tuple_count (PySem.F.args_tuple_count_2 _ _)
    (SeqAt.tuple_countAt a ib.toArray n3 dd sl u (eqU (.bl true))) ⟨ho3, fun z hz => mem_eqAt ru rfl rb fl z (by simpa using hz), ?_⟩
  have ec := countP_eqU (y := .bl true) rb fl
  exact ⟨.int ((ys.countP fun z => eqV z (.bl true) : Nat) : Int), H2, I2.tok _, ⟨s2.toks, by rw [List.toList_toArray, ec]⟩, q⟩⟩
end
section
variable {X : Cx} {T T' : Tk} {H H' : Hp} {m : M} {g : G}
theorem Kt.le {a : Addr} {vs : List V} (k : Kt H a vs) (l : Le T H T' H') (n : a ∉ T.μ) : Kt H' a vs := by
  obtain ⟨ob, h, d⟩ := k
  exact ⟨ob, l.keep _ _ h n, d⟩
theorem SqT.fresh {K : PySem.W.Frag} {a c : Addr} {vs : List V} {u : HO} (h : SqT K H a vs) (hc : H c = none) : SqT K (upd H c u) a vs := by
  rcases h with (h | ⟨ob, h⟩) | h
  · exact .inl (.inl (by rw [upd_ne (ne_of_none h hc)]; exact h))
  · exact .inl (.inr ⟨ob, by rw [upd_ne (ne_of_none h hc)]; exact h⟩)
  · exact .inr h
def cntT (ds : List D) : Option D := (flL ds).map fun ys => .int ((ys.countP fun z => eqV z (.bl true) : Nat) : Int)
def eCntT (i : Nat) : EF := fun ρ m => match ρ.getD i none with
  | some (.tup ds) => pu (cntT ds) m
  | _ => none
abbrev sWin (i j : Nat) (fe fl f2 f3 : EF) (fb fr : SF) : SF := sSeq (sAsg (eSl (eOp addD fe (eTup (aCons (eC (.bl true)) aNil))) (oYes fl) oNo) (gNm i)) (sSeq (sAsg f2 (gNm j)) (sSeq (sIf (tVal (eOp ltD (eCntT i) f3)) fb sNop) fr))
theorem addD_t1 {m : M} {x d : D} {b : List D} (h : addD m x (.tup b) = some d) : ∃ a, x = .tup a ∧ a.length + b.length ≤ sizeLine ∧ d = .tup (a ++ b) := by
  rcases addD_lst h with ⟨i, j, rfl, h1, rfl⟩ | ⟨i, j, rfl, h1, hz, rfl⟩ | ⟨a, c, rfl, h1, hz, rfl⟩ | ⟨a, c, h1, h2, hz, rfl⟩
  · cases h1
  · cases h1
  · cases h1; exact ⟨a, rfl, hz, rfl⟩
  · cases h2
theorem dss_win {w y : Str} {i j : Nat} {e lo e2 e3 : Expr} {body rest : List Stmt} {fe fl f2 f3 : EF} {fb fr : SF} {k1 x1 k2} {p1 p2 p3 p4 p5 p6 p7 p8 p9 p10 p11 p12 p13 p14 p15 : Pos}
    (hN : X.N.Nodup) (hi : X.N[i]? = some w) (hj : X.N[j]? = some y) (hij : i ≠ j) (lw : Loc X.env.scope w) (ly : Loc X.env.scope y) (vw : Vis X.env.scope w)
    (fw : X.fn w = true ∨ X.env.scope.names.lookup w = some .local) (fy : X.fn y = true ∨ X.env.scope.names.lookup y = some .local)
    (he : DE X e fe) (hl : DE X lo fl) (h2 : DE X e2 f2) (h3 : DE X e3 f3) (hb : DSs X body fb) (hr : DSs X rest fr) (hm : behindInMarks .Lt e3 = false)
    (hd : (w == ("__debug__" : Str)) = false := by decide) (hcd : (w == ("__classdict__" : Str)) = false := by decide)
    (s1 : swapsWith (.Subscript (.BinOp e .Add (.Tuple [.Constant (.bool true) k1 p1] x1 p2) p3) (.Slice (some lo) none none p4) p5) (some (.Name w p6)) p7.line X.env = pure false := by rfl)
    (s2 : swapsWith e2 (some (.Name y p8)) p9.line X.env = pure false := by rfl)
    (hbase : attributeBase (.Name w p10) "count" X.env (eval (.Name w p10) X.env) = eval (.Name w p10) X.env := by rfl)
    (hfew : ((backTo p12 (starEach [.Constant (.bool true) k2 p13] X.env)).all (fun x => !x.1) && (backToKw p12 (keywordEach [] X.env)).all (fun x => x.1.isSome)
      && decide (([Expr.Constant (.bool true) k2 p13] : List Expr).length + ([] : List Keyword).length + (if ([] : List Keyword).isEmpty then 0 else 1) < 30)) = true := by rfl)
    (hline : (p11.endLine == p12.line) = true := by rfl) :
    DSs X (.Assign [.Name w p6] (.Subscript (.BinOp e .Add (.Tuple [.Constant (.bool true) k1 p1] x1 p2) p3) (.Slice (some lo) none none p4) p5) p7 ::
      .Assign [.Name y p8] e2 p9 ::
      .If (.Compare (.Call (.Attribute (.Name w p10) "count" p11) [.Constant (.bool true) k2 p13] [] p12) [.Lt] [e3] p14) body [] p15 :: rest) (sWin i j fe fl f2 f3 fb fr) := by
  obtain ⟨te, pe, re⟩ := he.ex; obtain ⟨tl, pl, rl⟩ := hl.ex; obtain ⟨t2, pe2, r2⟩ := h2.ex; obtain ⟨t3, pe3, r3⟩ := h3.ex
  obtain ⟨tb, pb, rb⟩ := hb.ex; obtain ⟨tr, pr, rr⟩ := hr.ex
  obtain ⟨rlt, hlt, qlt⟩ := (op_lt' (X := X)).ex
  refine ⟨_, pss_cons (ps_set hN hi lw (pe_slice sl_kt (pe_op op_kadd pe (pe_kt (pa_cons pe_bl pa_nil))) (po_some pl) po_none) s1 fw)
    (pss_cons (ps_set hN hj ly pe2 s2 fy) (pss_cons (ps_if (pt_cmpR hlt (pe_kcnt (pe_var hi vw hd hcd) hbase hfew hline) pe3 hm) pb pss_nil) pr)), fun T σ H ρ m r m' hm hs hf D k => ?_⟩
  obtain ⟨z1, m1, e1, hf⟩ := bd_some hf
  obtain ⟨dw, mw, ew, e1⟩ := bd_some e1
  obtain ⟨ρ1, mq, eg, e1⟩ := bd_some e1
  cases eg; cases e1
  obtain ⟨dx, mx, ex, ew⟩ := bd_some ew
  obtain ⟨dlo, m3, elo, ew⟩ := bd_some ew
  obtain ⟨dhi, m4, ehi, ew⟩ := bd_some ew
  cases ehi
  obtain ⟨ew, rfl⟩ := pu_some ew
  obtain ⟨da, ma, ea, ex⟩ := bd_some ex
  obtain ⟨dt, mt, et, ex⟩ := bd_some ex
  have e0 : dt = .tup [.bl true] ∧ mt = ma := by cases et; exact ⟨rfl, rfl⟩
  obtain ⟨rfl, rfl⟩ := e0
  obtain ⟨ex, rfl⟩ := pu_some ex
  obtain ⟨as, rfl, hz, rfl⟩ := addD_t1 ex
  cases ew
  obtain ⟨z2, m5, e5, hf⟩ := bd_some hf
  obtain ⟨d2, m6, e6, e5⟩ := bd_some e5
  obtain ⟨ρ2, mq, eg, e5⟩ := bd_some e5
  cases eg; cases e5
  refine re T σ H ρ m _ _ hm hs ea _ fun v T1 H1 l1 hm1 rv => ?_
  obtain ⟨a, vs, rfl, hx, rp⟩ := tup_rep rv
  refine ⟨by decide, fun c oc hc hoc => ?_⟩
  obtain ⟨l2, hm2⟩ := hm1.fresh (u := .frz oc (.tup [.bl true])) hc
  -- behind the slice
  have fin2 : ∀ (T4 : Tk) (H5 : Hp) (p : Addr), Le T H T4 H5 → RepH (gx X) T4 H5 m1 → Kt H5 p (L2.cutV (vs ++ [.bl true]) dlo none) → RepL (gx X) T4 H5 as vs →
      tSeq (tAsg t2 (gName j)) (tSeq (tIfS (tTest (tOp rlt (tKcnt (tVar i)) t3)) tb tNext) tr) D (σ.set i (some (.ref p))) H5 := by
    intro T4 H5 p l5 hm5 kt rp5
    have hp5 : p ∉ T4.ν := notup hm5.has kt.rd
    have rw5 : Rep (gx X) T4 H5 (.tup (cutD (as ++ [.bl true]) dlo none)) (.ref p) := .tup (.inl ⟨hp5, kt.rd⟩) ((rp5.append (.cons (.bl true) .nil)).cut _ _)
    have hs5 := (hs.le l5).set (i := i) rw5
    refine r2 T4 _ H5 _ m1 d2 m5 hm5 hs5 e6 _ fun v2 T6 H6 l6 hm6 rv2 => ?_
    have kt6 := kt.le l6 (Tk.out hp5)
    have hs6 := (hs5.le l6).set (i := j) rv2
    obtain ⟨z3, m7, e7, hf⟩ := bd_some hf
    obtain ⟨bb, m8, e8, e7⟩ := bd_some e7
    obtain ⟨dc, m9, e9, e8⟩ := bd_some e8
    obtain ⟨dn, m10, e10, e9⟩ := bd_some e9
    obtain ⟨d3, m11, e11, e9⟩ := bd_some e9
    obtain ⟨e9, rfl⟩ := pu_some e9
    have hl6 : i < ρ.length := by
      by_cases hlt6 : i < ρ.length
      · exact hlt6
      · exfalso
        unfold eCntT at e10
        rw [List.getD_eq_getElem?_getD, List.getElem?_eq_none (by simpa using hlt6)] at e10
        cases e10
    have er : ((ρ.set i (some (.tup (cutD (as ++ [.bl true]) dlo none)))).set j (some d2)).getD i none = some (.tup (cutD (as ++ [.bl true]) dlo none)) := by
      rw [List.getD_eq_getElem?_getD, List.getElem?_set_ne (fun z => hij z.symm), List.getElem?_set_self hl6]
      rfl
    unfold eCntT at e10
    rw [er] at e10
    have e10 : pu (cntT (cutD (as ++ [.bl true]) dlo none)) m5 = some (dn, m10) := e10
    obtain ⟨e10b, em⟩ := pu_some e10
    subst em
    obtain ⟨ys, ey, rfl⟩ := Option.map_eq_some_iff.mp e10b
    obtain ⟨eys, fl⟩ := flL_rep ey ((rp5.append (.cons (.bl true) .nil)).cut dlo none)
    have hlσ : i < σ.length := by rw [hs.len]; exact hl6
    refine ⟨.ref p, by rw [List.getElem?_set_ne (fun z => hij z.symm), List.getElem?_set_self hlσ], p, ys, rfl, eys ▸ kt6, fl, ?_⟩
    refine r3 T6 _ H6 _ m10 d3 _ hm6 hs6 e11 _ fun v3 T7 H7 l7 hm7 rv3 => ?_
    refine qlt T7 H7 _ _ _ _ _ _ hm7 (.int _) rv3 e9 _ fun v4 T8 H8 l8 hm8 rv4 => ?_
    have hs8 := hs6.le (l7.trans l8)
    have lall := l5.trans (l6.trans (l7.trans l8))
    cases dc with
    | bl bc =>
      cases rv4
      cases e8
      refine ⟨bb, rfl, ?_⟩
      cases bb with
      | true =>
        refine rb T8 _ H8 _ _ z3 m7 hm8 hs8 e7 _ ?_
        cases z3 with
        | nx ρ4 => exact fun σ4 T9 H9 l9 hm9 hs9 => rr T9 σ4 H9 ρ4 m7 r m' hm9 hs9 hf D (KF.le (lall.trans l9) k)
        | rt d => cases hf; exact KF.le (r := .rt d) lall k
        | bk ρ4 => cases hf; exact KF.le (r := .bk ρ4) lall k
        | ct ρ4 => cases hf; exact KF.le (r := .ct ρ4) lall k
      | false =>
        cases e7
        exact rr T8 _ H8 _ _ r m' hm8 hs8 hf D (KF.le lall k)
    | _ => cases e8
  -- behind the sum
  have fin1 : ∀ (H3 : Hp) (q : Addr), Le T1 H1 T1 H3 → RepH (gx X) T1 H3 mx → Kt H3 q (vs ++ [.bl true]) → RepL (gx X) T1 H3 as vs →
      tPart tl σ H3 fun lo' H4 => tNoPart σ H4 fun hi' H5 => rKsl (.ref q) lo' hi' H5 fun v H6 => gName i v σ H6 fun σ7 H7 => tSeq (tAsg t2 (gName j)) (tSeq (tIfS (tTest (tOp rlt (tKcnt (tVar i)) t3)) tb tNext) tr) D σ7 H7 := by
    intro H3 q l3 hm3 kt rp3
    obtain ⟨dl, m12, e12, e13⟩ := bd_some elo
    refine rl T1 σ H3 ρ mx dl m12 hm3 (hs.le (l1.trans l3)) e12 _ fun vl T4 H4 l4 hm4 rvl => ?_
    have hq : q ∉ T1.ν := notup hm3.has kt.rd
    have kt4 := kt.le l4 (Tk.out hq)
    have lall := l1.trans (l3.trans l4)
    have rp4 := rp3.le l4
    cases dl with
    | int i0 =>
      cases rvl
      cases e13
      refine ⟨i0, rfl, q, _, rfl, kt4, fun hw => ?_, fun _ p ob hp hob => ?_⟩
      · have hw' : L2.cutV (vs ++ [.bl true]) (some i0) none = vs ++ [.bl true] := by
          unfold L2.cutV
          rw [hw.1, hw.2]
          simp [List.take_of_length_le]
        exact fin2 T4 H4 q lall hm4 (by rw [hw']; exact kt4) rp4
      · obtain ⟨l5, hm5⟩ := hm4.fresh (u := .frz ob (.tup (L2.cutV (vs ++ [.bl true]) (some i0) none))) hp
        exact fin2 T4 _ p (lall.trans l5) hm5 (Kt.new hob) (rp4.le l5)
    | _ => cases e13
  refine ⟨a, c, vs, [.bl true], rfl, rfl, SqT.fresh hx hc, Kt.new hoc, by simp, by rw [← rp.length]; exact hz, fun e => ?_, fun _ p ob hp hob => ?_⟩
  · subst e
    exact fin1 _ c l2 hm2 (Kt.new hoc) (rp.le l2)
  · obtain ⟨l3, hm3⟩ := hm2.fresh (u := .frz ob (.tup (vs ++ [.bl true]))) hp
    exact fin1 _ p (l2.trans l3) hm3 (Kt.new hob) (rp.le (l2.trans l3))
end
end L4
namespace L4
open PySem L2 TL
def f__law_box_1 : SF := sRet (eNewL (aCons (eOp ixA (eLst (aCons (eC (.int 0)) (aCons (eVar 2) (aNil)))) (eCall intD (aCons (eOp geD (eVar 2) (eOp powD (eC (.int 10)) (eC (.int 18)))) (aNil)))) (aCons (eVar 3) (aCons (eC (.int 0)) (aNil)))))
def f__law_box_2 : SF := sSeq (sAsg (eOp addD (eOp modD (eCall intD (aCons (eOp addD (eOp addD (eOp mulD (eOp modD (eCall intD (aCons (eVar 2) (aNil))) (eC (.int 2147483629))) (eC (.int 45427))) (eOp mulD (eC (.int 38201)) (eVar 1))) (eC (.int 17))) (aNil))) (eC (.int 2147483629))) (eC (.int 1))) (gNm 3)) (f__law_box_1)
def f__law_box_3 : SF := sSeq (sIf (tVal (eOp ltD (eVar 1) (eCall lenD (aCons (eVar 0) (aNil))))) (sAsg (eCall absD (aCons (eCall intD (aCons (eOp ixA (eVar 0) (eVar 1)) (aNil))) (aNil))) (gNm 2)) (sIf (tVal (eOp gtD (eCall lenD (aCons (eVar 0) (aNil))) (eC (.int 0)))) (sAsg (eOp addD (eVar 2) (eOp mulD (eOp modD (eCall intD (aCons (eOp ixA (eVar 0) (eOp modD (eCall intD (aCons (eVar 1) (aNil))) (eCall lenD (aCons (eVar 0) (aNil))))) (aNil))) (eC (.int 2147483629))) (eC (.int 82373)))) (gNm 2)) (sNop))) (f__law_box_2)
def f__law_box : SF := sSeq (sAsg (eOp addD (eOp mulD (eC (.int 6421)) (eVar 1)) (eC (.int 71))) (gNm 2)) (f__law_box_3)
def F__law_box := runM 2 4 f__law_box
def f__law_take_1 : SF := sSeq (sAsg (eOp fdivD (eOp ixA (eVar 0) (eC (.int 0))) (eVar 1)) (gSetA (eVar 0) (eC (.int 0)))) (sRet (eVar 2))
def f__law_take_2 : SF := sRet (eOp modD (eCall intD (aCons (eOp fdivD (eOp addD (eOp mulD (eVar 3) (eC (.int 2147483647))) (eOp ixA (eVar 0) (eC (.int 1)))) (eC (.int 8191))) (aNil))) (eVar 1))
def f__law_take_3 : SF := sSeq (sAsg (eOp addD (eOp modD (eCall intD (aCons (eOp addD (eOp mulD (eVar 3) (eC (.int 46021))) (eC (.int 28051))) (aNil))) (eC (.int 2147483629))) (eC (.int 1))) (gSetA (eVar 0) (eC (.int 1)))) (f__law_take_2)
def f__law_take_4 : SF := sSeq (sAsg (eOp modD (eCall intD (aCons (eOp mulD (eOp addD (eOp ixA (eVar 0) (eC (.int 1))) (eOp mulD (eC (.int 98641)) (eOp ixA (eVar 0) (eC (.int 2))))) (eC (.int 70381))) (aNil))) (eC (.int 2147483647))) (gNm 3)) (f__law_take_3)
def f__law_take_5 : SF := sSeq (sAsg (eOp addD (eOp ixA (eVar 0) (eC (.int 2))) (eC (.int 1))) (gSetA (eVar 0) (eC (.int 2)))) (f__law_take_4)
def f__law_take : SF := sSeq (sIf (tVal (eOp gtD (eOp ixA (eVar 0) (eC (.int 0))) (eC (.int 0)))) (sSeq (sAsg (eOp modD (eCall intD (aCons (eOp ixA (eVar 0) (eC (.int 0))) (aNil))) (eVar 1)) (gNm 2)) (f__law_take_1)) (sNop)) (f__law_take_5)
def F__law_take := runM 2 4 f__law_take
abbrev f__law_pick : SF := sRet (eOp ixA (eVar 1) (eCallM F__law_take (aCons (eVar 0) (aCons (eCall lenD (aCons (eVar 1) (aNil))) (aNil)))))
def F__law_pick := runM 2 2 f__law_pick
abbrev f__law_rule_1 : SF := sSeq (sDrop (eUpd (eVar 5) (eDisp false [(eC (.str "up"), eOp eqD (eCallM F__law_take (aCons (eVar 0) (aCons (eC (.int 2)) (aNil)))) (eC (.int 0))), (eC (.str "hears"), eCallM F__law_pick (aCons (eVar 0) (aCons (eLst (aCons (eC (.str "fault")) (aCons (eC (.str "no")) (aCons (eC (.str "out")) (aNil))))) (aNil))))]))) (sRet (eVar 5))
abbrev f__law_rule_2 : SF := sSeq (sAsg (eCallM F__law_take (aCons (eVar 0) (aCons (eOp addD (eOp ixA (eVar 5) (eC (.str "under"))) (eC (.int 1))) (aNil)))) (gSetA (eVar 5) (eC (.str "top")))) (f__law_rule_1)
abbrev f__law_rule_3 : SF := sSeq (sAsg (eOp addD (eC (.int 1)) (eCallM F__law_take (aCons (eVar 0) (aCons (eC (.int 6)) (aNil))))) (gSetA (eVar 5) (eC (.str "under")))) (f__law_rule_2)
abbrev f__law_rule_4 : SF := sSeq (sDrop (eUpd (eVar 5) (eDisp false [(eC (.str "calm"), eCallM F__law_take (aCons (eVar 0) (aCons (eOp addD (eVar 3) (eC (.int 1))) (aNil)))), (eC (.str "back"), eCallM F__law_pick (aCons (eVar 0) (aCons (eLst (aCons (eC (.str "half")) (aCons (eC (.str "open")) (aCons (eC (.str "trial")) (aNil))))) (aNil))))]))) (f__law_rule_3)
abbrev f__law_rule_5 : SF := sSeq (sAsg (eOp addD (eOp ixA (eVar 5) (eC (.str "base"))) (eCallM F__law_take (aCons (eVar 0) (aCons (eOp addD (eOp subD (eVar 2) (eOp ixA (eVar 5) (eC (.str "base")))) (eC (.int 1))) (aNil))))) (gSetA (eVar 5) (eC (.str "most")))) (f__law_rule_4)
abbrev f__law_rule_6 : SF := sSeq (sAsg (eCallM F__law_pick (aCons (eVar 0) (aCons (eLst (aCons (eC (.int 0)) (aCons (eC (.int 1)) (aCons (eC (.int 2)) (aCons (eC (.int 1)) (aCons (eC (.int 0)) (aCons (eC (.int 5)) (aCons (eC (.int 9)) (aNil))))))))) (aNil)))) (gSetA (eVar 5) (eC (.str "more")))) (f__law_rule_5)
abbrev f__law_rule_7 : SF := sSeq (sAsg (eDisp true [(eC (.str "need"), eVar 4), (eC (.str "of"), eOp addD (eVar 4) (eCallM F__law_take (aCons (eVar 0) (aCons (eOp addD (eOp subD (eVar 1) (eVar 4)) (eC (.int 1))) (aNil))))), (eC (.str "base"), eOp addD (eC (.int 1)) (eCallM F__law_take (aCons (eVar 0) (aCons (eVar 2) (aNil)))))]) (gNm 5)) (f__law_rule_6)
abbrev f__law_rule : SF := sSeq (sAsg (eOp addD (eC (.int 1)) (eCallM F__law_take (aCons (eVar 0) (aCons (eVar 1) (aNil))))) (gNm 4)) (f__law_rule_7)
def F__law_rule := runM 4 6 f__law_rule
def f_number_in_1 : SF := sRet (eIf (tOr (tVal (eOp eqD (eVar 0) (eC (.str "0")))) (tVal (eOp neD (eOp ixA (eVar 0) (eC (.int 0))) (eC (.str "0"))))) (eCall intD (aCons (eVar 0) (aNil))) (eC .non))
def f_number_in : SF := sSeq (sIf (tOr (tNot (tVal (eChain leD leD (eC (.int 1)) (eCall lenD (aCons (eVar 0) (aNil))) (eVar 1)))) (tNot (tVal (eCall allD (aCons (eLcK false (iIt (eVar 0)) (.one 2) (tTrue) (eOp inA (eVar 2) (eC (.str "0123456789")))) (aNil)))))) (sRet (eC .non)) (sNop)) (f_number_in_1)
def F_number_in := runP 2 3 f_number_in
abbrev f_numbers_in_1 : SF := sRet (eIf (tVal (eOp inA (eC .non) (eVar 1))) (eC .non) (eVar 1))
abbrev f_numbers_in : SF := sSeq (sAsg (eLcK false (iIt (eVar 0)) (.one 2) (tTrue) (eCall (callP F_number_in) (aCons (eVar 2) (aCons (eC (.int 2)) (aNil))))) (gNm 1)) (f_numbers_in_1)
def F_numbers_in := runP 1 3 f_numbers_in
abbrev f_share_in_1 : SF := sRet (eIf (tVal (eOp eqD (eCall lenD (aCons (eVar 1) (aNil))) (eC (.int 2)))) (eCall (callP F_numbers_in) (aCons (eVar 1) (aNil))) (eC .non))
abbrev f_share_in : SF := sSeq (sAsg (eM1 splitD (eVar 0) (eC (.str "/"))) (gNm 1)) (f_share_in_1)
def F_share_in := runP 1 2 f_share_in
def f_is_word : SF := sRet (eAnd (eCall isiD (aCons (eVar 0) (aCons (eC (.ty "str")) (aNil)))) (eOp inA (eVar 0) (eVar 1)))
def F_is_word := runP 2 2 f_is_word
abbrev f_words_between_1 : SF := sRet (eIf (tAnd (tVal (eCall (callP F_is_word) (aCons (eOp ixA (eVar 0) (eC (.int 13))) (aCons (eC (.tup [.str "half", .str "open", .str "trial"])) (aNil))))) (tVal (eCall (callP F_is_word) (aCons (eOp ixA (eVar 0) (eC (.int 18))) (aCons (eC (.tup [.str "fault", .str "no", .str "out"])) (aNil)))))) (eVar 1) (eLst (aNil)))
abbrev f_words_between_2 : SF := sSeq (sFor (iZpM (aCons (eTup (aCons (eC (.int 0)) (aCons (eC (.int 2)) (aCons (eC (.int 4)) (aCons (eC (.int 6)) (aCons (eC (.int 8)) (aCons (eC (.int 10)) (aCons (eC (.int 12)) (aCons (eC (.int 14)) (aCons (eC (.int 17)) (aNil))))))))))) (aCons (eM1 splitD (eC (.str "leave of out more most calm back share hears")) (eC (.str " "))) (aNil)))) (gTgt (.many [2, 3])) (sAsg (eVar 3) (gSetA (eVar 1) (eVar 2)))) (f_words_between_1)
abbrev f_words_between : SF := sSeq (sAsg (eLisN (eVar 0)) (gNm 1)) (f_words_between_2)
def F_words_between := runP 1 4 f_words_between
def f_is_integer : SF := sRet (eAnd (eCall isiD (aCons (eVar 0) (aCons (eC (.ty "int")) (aNil)))) (eNot (eCall isiD (aCons (eVar 0) (aCons (eC (.ty "bool")) (aNil))))))
def F_is_integer := runP 1 1 f_is_integer
def f_is_from : SF := sRet (eAnd (eCall (callP F_is_integer) (aCons (eVar 0) (aNil))) (eOp geD (eVar 0) (eVar 1)))
def F_is_from := runP 2 2 f_is_from
def f_is_number : SF := sRet (eAnd (eCall (callP F_is_integer) (aCons (eVar 0) (aNil))) (eOp geD (eVar 0) (eC (.int 0))))
def F_is_number := runP 1 1 f_is_number
def f_wrong_number_1 : SF := sRet (eIf (tVal (eCall (callP F_is_number) (aCons (eVar 5) (aNil)))) (eC .non) (eC (.str "calm")))
def f_wrong_number_2 : SF := sSeq (sIf (tNot (tVal (eCall (callP F_is_from) (aCons (eVar 4) (aCons (eVar 2) (aNil)))))) (sRet (eC (.str "most"))) (sNop)) (f_wrong_number_1)
def f_wrong_number_3 : SF := sSeq (sIf (tNot (tVal (eCall (callP F_is_number) (aCons (eVar 3) (aNil))))) (sRet (eC (.str "more"))) (sNop)) (f_wrong_number_2)
def f_wrong_number_4 : SF := sSeq (sIf (tNot (tVal (eCall (callP F_is_from) (aCons (eVar 2) (aCons (eC (.int 1)) (aNil)))))) (sRet (eC (.str "base"))) (sNop)) (f_wrong_number_3)
def f_wrong_number_5 : SF := sSeq (sIf (tNot (tVal (eCall (callP F_is_from) (aCons (eVar 1) (aCons (eVar 0) (aNil)))))) (sRet (eC (.str "of"))) (sNop)) (f_wrong_number_4)
def f_wrong_number : SF := sSeq (sIf (tNot (tVal (eCall (callP F_is_from) (aCons (eVar 0) (aCons (eC (.int 1)) (aNil)))))) (sRet (eC (.str "need"))) (sNop)) (f_wrong_number_5)
def F_wrong_number := runP 6 6 f_wrong_number
def f_wrong_word_1 : SF := sRet (eIf (tVal (eCall (callP F_is_word) (aCons (eVar 4) (aCons (eC (.tup [.str "fault", .str "no", .str "out"])) (aNil))))) (eC .non) (eC (.str "hears")))
def f_wrong_word_2 : SF := sSeq (sIf (tNot (tVal (eCall isiD (aCons (eVar 3) (aCons (eC (.ty "bool")) (aNil)))))) (sRet (eC (.str "up"))) (sNop)) (f_wrong_word_1)
def f_wrong_word_3 : SF := sSeq (sIf (tOr (tNot (tVal (eCall (callP F_is_integer) (aCons (eVar 2) (aNil))))) (tOr (tVal (eOp ltD (eVar 2) (eC (.int 1)))) (tVal (eOp ltD (eVar 2) (eVar 1))))) (sRet (eC (.str "under"))) (sNop)) (f_wrong_word_2)
def f_wrong_word_4 : SF := sSeq (sIf (tNot (tVal (eCall (callP F_is_number) (aCons (eVar 1) (aNil))))) (sRet (eC (.str "top"))) (sNop)) (f_wrong_word_3)
def f_wrong_word : SF := sSeq (sIf (tNot (tVal (eCall (callP F_is_word) (aCons (eVar 0) (aCons (eC (.tup [.str "half", .str "open", .str "trial"])) (aNil)))))) (sRet (eC (.str "back"))) (sNop)) (f_wrong_word_4)
def F_wrong_word := runP 5 5 f_wrong_word
def f_Rule___init___1 : SF := sFldM ["Rule"] "cap" (eVar 0) (eIf (tVal (eOp eqD (eVar 4) (eC (.int 0)))) (eC (.int 1)) (eOp addD (eC (.int 1)) (eOp fdivD (eOp subD (eOp addD (eOp subD (eVar 5) (eVar 3)) (eVar 4)) (eC (.int 1))) (eVar 4))))
def f_Rule___init___2 : SF := sSeq (sFldM ["Rule"] "hears" (eVar 0) (eVar 11)) (f_Rule___init___1)
def f_Rule___init___3 : SF := sSeq (sFldM ["Rule"] "up" (eVar 0) (eVar 10)) (f_Rule___init___2)
def f_Rule___init___4 : SF := sSeq (sFldM ["Rule"] "under" (eVar 0) (eVar 9)) (f_Rule___init___3)
def f_Rule___init___5 : SF := sSeq (sFldM ["Rule"] "top" (eVar 0) (eVar 8)) (f_Rule___init___4)
def f_Rule___init___6 : SF := sSeq (sFldM ["Rule"] "back" (eVar 0) (eVar 7)) (f_Rule___init___5)
def f_Rule___init___7 : SF := sSeq (sFldM ["Rule"] "calm" (eVar 0) (eVar 6)) (f_Rule___init___6)
def f_Rule___init___8 : SF := sSeq (sFldM ["Rule"] "most" (eVar 0) (eVar 5)) (f_Rule___init___7)
def f_Rule___init___9 : SF := sSeq (sFldM ["Rule"] "more" (eVar 0) (eVar 4)) (f_Rule___init___8)
def f_Rule___init___10 : SF := sSeq (sFldM ["Rule"] "base" (eVar 0) (eVar 3)) (f_Rule___init___9)
def f_Rule___init___11 : SF := sSeq (sFldM ["Rule"] "of" (eVar 0) (eVar 2)) (f_Rule___init___10)
def f_Rule___init___12 : SF := sSeq (sFldM ["Rule"] "need" (eVar 0) (eVar 1)) (f_Rule___init___11)
def f_Rule___init___13 : SF := sSeq (sIf (tVal (eNotN (eVar 12))) (sNo) (sNop)) (f_Rule___init___12)
def f_Rule___init___14 : SF := sSeq (sIf (tVal (eIsN (eVar 12))) (sAsg (eCall (callP F_wrong_word) (aCons (eVar 7) (aCons (eVar 8) (aCons (eVar 9) (aCons (eVar 10) (aCons (eVar 11) (aNil))))))) (gNm 12)) (sNop)) (f_Rule___init___13)
def f_Rule___init__ : SF := sSeq (sAsg (eCall (callP F_wrong_number) (aCons (eVar 1) (aCons (eVar 2) (aCons (eVar 3) (aCons (eVar 4) (aCons (eVar 5) (aCons (eVar 6) (aNil)))))))) (gNm 12)) (f_Rule___init___14)
def F_Rule___init__ := runM 12 13 f_Rule___init__
abbrev f_Rule_read_1 : SF := sRet (eNewPL 0 "Rule" F_Rule___init__ (aStar (eVar 3) (aCons (eVar 5) (aStar (eVar 4) (aCons (eVar 6) (aCons (eVar 7) (aNil)))))))
abbrev f_Rule_read_2 : SF := sSeq (sPar [5, 6, 7] (aCons (eOp ixA (eVar 2) (eC (.int 13))) (aCons (eTbl tb_ROUNDS (eOp ixA (eVar 2) (eC (.int 16)))) (aCons (eOp ixA (eVar 2) (eC (.int 18))) (aNil))))) (f_Rule_read_1)
abbrev f_Rule_read_3 : SF := sSeq (sIf (tVal (eOp neD (eVar 2) (eCall (callP F_words_between) (aCons (eVar 2) (aNil))))) (sNo) (sNop)) (f_Rule_read_2)
abbrev f_Rule_read_4 : SF := sSeq (sIf (tOr (tVal (eIsN (eVar 3))) (tOr (tVal (eIsN (eVar 4))) (tVal (eTblNin tb_ROUNDS (eOp ixA (eVar 2) (eC (.int 16))))))) (sNo) (sNop)) (f_Rule_read_3)
abbrev f_Rule_read_5 : SF := sSeq (sAsg (eCall (callP F_share_in) (aCons (eOp ixA (eVar 2) (eC (.int 15))) (aNil))) (gNm 4)) (f_Rule_read_4)
abbrev f_Rule_read_6 : SF := sSeq (sAsg (eCall (callP F_numbers_in) (aCons (eLcK false (iIt (eTup (aCons (eC (.int 1)) (aCons (eC (.int 3)) (aCons (eC (.int 5)) (aCons (eC (.int 7)) (aCons (eC (.int 9)) (aCons (eC (.int 11)) (aNil))))))))) (.one 8) (tTrue) (eOp ixA (eVar 2) (eVar 8))) (aNil))) (gNm 3)) (f_Rule_read_5)
abbrev f_Rule_read_7 : SF := sSeq (sIf (tVal (eOp neD (eCall lenD (aCons (eVar 2) (aNil))) (eC (.int 19)))) (sNo) (sNop)) (f_Rule_read_6)
abbrev f_Rule_read : SF := sSeq (sAsg (eM1 splitD (eVar 1) (eC (.str " "))) (gNm 2)) (f_Rule_read_7)
def F_Rule_read := runP 2 9 f_Rule_read
abbrev f__law_rule_text_1 : SF := sRet (eM1 joinD (eC (.str " ")) (eOp addD (eVar 1) (eLst (aCons (eC (.str "hears")) (aCons (eOp ixA (eVar 0) (eC (.str "hears"))) (aNil))))))
abbrev f__law_rule_text_2 : SF := sSeq (sAsg (eOp addD (eVar 1) (eLst (aCons (eC (.str "share")) (aCons (eOp addD (eOp addD (eCall strT (aCons (eOp ixA (eVar 0) (eC (.str "top"))) (aNil))) (eC (.str "/"))) (eCall strT (aCons (eOp ixA (eVar 0) (eC (.str "under"))) (aNil)))) (aCons (eIf (tVal (eOp ixA (eVar 0) (eC (.str "up")))) (eC (.str "up")) (eC (.str "down"))) (aNil)))))) (gNm 1)) (f__law_rule_text_1)
abbrev f__law_rule_text_3 : SF := sSeq (sAsg (eOp addD (eVar 1) (eLst (aCons (eC (.str "most")) (aCons (eCall strT (aCons (eOp ixA (eVar 0) (eC (.str "most"))) (aNil))) (aCons (eC (.str "calm")) (aCons (eCall strT (aCons (eOp ixA (eVar 0) (eC (.str "calm"))) (aNil))) (aCons (eC (.str "back")) (aCons (eOp ixA (eVar 0) (eC (.str "back"))) (aNil))))))))) (gNm 1)) (f__law_rule_text_2)
abbrev f__law_rule_text : SF := sSeq (sAsg (eLst (aCons (eC (.str "leave")) (aCons (eCall strT (aCons (eOp ixA (eVar 0) (eC (.str "need"))) (aNil))) (aCons (eC (.str "of")) (aCons (eCall strT (aCons (eOp ixA (eVar 0) (eC (.str "of"))) (aNil))) (aCons (eC (.str "out")) (aCons (eCall strT (aCons (eOp ixA (eVar 0) (eC (.str "base"))) (aNil))) (aCons (eC (.str "more")) (aCons (eCall strT (aCons (eOp ixA (eVar 0) (eC (.str "more"))) (aNil))) (aNil)))))))))) (gNm 1)) (f__law_rule_text_3)
def F__law_rule_text := runP 1 2 f__law_rule_text
abbrev f__law_rule_of : SF := sRet (eCall (callP fun ds => F_Rule_read (.glo "Rule" :: ds)) (aCons (eCall (callP F__law_rule_text) (aCons (eVar 0) (aNil))) (aNil)))
def F__law_rule_of := runP 1 1 f__law_rule_of
def f__law_begin_1 : SF := sRet (eDisp true [(eC (.str "now"), eVar 3), (eC (.str "ever"), eVar 4), (eC (.str "last"), eLcK true (iIt (eVar 4)) (.one 7) (tTrue) (eLisN (eVar 7)))])
def f__law_begin_2 : SF := sSeq (sAsg (eLcK false (iR1 (aCons (eVar 0) (aNil))) (.one 5) (tTrue) (eLcK true (iR1 (aCons (eVar 1) (aNil))) (.one 6) (tTrue) (eC (.bl false)))) (gNm 4)) (f__law_begin_1)
def f__law_begin_3 : SF := sSeq (sAsg (eLcK false (iR1 (aCons (eVar 0) (aNil))) (.one 5) (tTrue) (eLcK true (iR1 (aCons (eVar 1) (aNil))) (.one 6) (tTrue) (eVar 2))) (gNm 3)) (f__law_begin_2)
abbrev f__law_begin : SF := sSeq (sAsg (eTup (aCons (eC (.str "in")) (aCons (eTup (aNil)) (aCons (eC (.int 0)) (aCons (eC (.int 0)) (aNil)))))) (gNm 2)) (f__law_begin_3)
def F__law_begin := runM 2 8 f__law_begin
abbrev f__law_outs : SF := sRet (eCall lenD (aCons (eLcV false (lIt (eOp ixA (eOp ixA (eVar 0) (eC (.str "now"))) (eVar 1))) (.one 2) (tVal (eOp neD (eOp ixA (eVar 2) (eC (.int 0))) (eC (.str "in")))) (eVar 2)) (aNil)))
def F__law_outs := runM 2 3 f__law_outs
abbrev f__law_limit_1 : SF := sRet (eOp ixA (eLcK false (iR1 (aCons (eOp addD (eVar 1) (eC (.int 1))) (aNil))) (.one 2) (tVal (eOp leD (eOp mulD (eVar 2) (eOp ixA (eVar 0) (eC (.str "under")))) (eOp mulD (eVar 1) (eOp ixA (eVar 0) (eC (.str "top")))))) (eVar 2)) (eUn negD (eC (.int 1))))
abbrev f__law_limit : SF := sSeq (sIf (tVal (eOp ixA (eVar 0) (eC (.str "up")))) (sRet (eOp ixA (eLcK false (iR1 (aCons (eOp addD (eVar 1) (eC (.int 1))) (aNil))) (.one 2) (tVal (eOp geD (eOp mulD (eVar 2) (eOp ixA (eVar 0) (eC (.str "under")))) (eOp mulD (eVar 1) (eOp ixA (eVar 0) (eC (.str "top")))))) (eVar 2)) (eC (.int 0)))) (sNop)) (f__law_limit_1)
def F__law_limit := runP 2 3 f__law_limit
abbrev f__law_back_1 : SF := sRet (eTup (aCons (eC (.str "in")) (aCons (eCall tupD (aCons (eLcK false (iR1 (aCons (eVar 2) (aNil))) (.one 3) (tTrue) (eC (.bl true))) (aNil))) (aCons (eVar 1) (aCons (eC (.int 0)) (aNil))))))
abbrev f__law_back_2 : SF := sSeq (sAsg (eIf (tVal (eOp eqD (eOp ixA (eVar 0) (eC (.str "back"))) (eC (.str "half")))) (eCall intD (aCons (eOp fdivD (eOp ixA (eVar 0) (eC (.str "need"))) (eC (.int 2))) (aNil))) (eC (.int 0))) (gNm 2)) (f__law_back_1)
abbrev f__law_back : SF := sSeq (sIf (tVal (eOp eqD (eOp ixA (eVar 0) (eC (.str "back"))) (eC (.str "trial")))) (sRet (eTup (aCons (eC (.str "trial")) (aCons (eVar 1) (aNil))))) (sNop)) (f__law_back_2)
def F__law_back := runP 2 4 f__law_back
abbrev f__law_time_1 : SF := sRet (eIf (tVal (eOp ltD (eVar 2) (eOp ixA (eVar 0) (eC (.str "most"))))) (eVar 2) (eOp ixA (eVar 0) (eC (.str "most"))))
abbrev f__law_time : SF := sSeq (sAsg (eOp addD (eOp ixA (eVar 0) (eC (.str "base"))) (eOp mulD (eOp ixA (eVar 0) (eC (.str "more"))) (eOp subD (eVar 1) (eC (.int 1))))) (gNm 2)) (f__law_time_1)
def F__law_time := runP 2 3 f__law_time
abbrev f__law_cap_1 : SF := sSeq (sWhile big (tVal (eOp gtD (eCall (callP F__law_time) (aCons (eVar 0) (aCons (eOp addD (eVar 1) (eC (.int 1))) (aNil)))) (eCall (callP F__law_time) (aCons (eVar 0) (aCons (eVar 1) (aNil)))))) (sAsg (eOp addD (eVar 1) (eC (.int 1))) (gNm 1))) (sRet (eVar 1))
abbrev f__law_cap : SF := sSeq (sAsg (eC (.int 1)) (gNm 1)) (f__law_cap_1)
def F__law_cap := runP 1 2 f__law_cap
abbrev f__law_out_1 : SF := sRet (eTup (aCons (eC (.str "out")) (aCons (eCall (callP F__law_time) (aCons (eVar 0) (aCons (eVar 2) (aNil)))) (aCons (eVar 2) (aNil)))))
abbrev f__law_out : SF := sSeq (sAsg (eIf (tVal (eOp ltD (eVar 1) (eCall (callP F__law_cap) (aCons (eVar 0) (aNil))))) (eOp addD (eVar 1) (eC (.int 1))) (eVar 1)) (gNm 2)) (f__law_out_1)
def F__law_out := runP 2 3 f__law_out
abbrev f__law_faulted_1 : SF := sRet (eTup (aCons (eVar 4) (aCons (eC (.bl false)) (aNil))))
abbrev f__law_faulted_2 : SF := sRet (eIf (tVal (eVar 2)) (eTup (aCons (eCall (callP F__law_out) (aCons (eVar 0) (aCons (eOp ixA (eVar 1) (eC (.int 2))) (aNil)))) (aCons (eC (.bl false)) (aNil)))) (eTup (aCons (eVar 4) (aCons (eC (.bl true)) (aNil)))))
abbrev f__law_faulted : SF := sWin 3 4 (eOp ixA (eVar 1) (eC (.int 1))) (eOp subD (eC (.int 0)) (eOp ixA (eVar 0) (eC (.str "of")))) (eTup (aCons (eC (.str "in")) (aCons (eVar 3) (aCons (eOp ixA (eVar 1) (eC (.int 2))) (aCons (eC (.int 0)) (aNil)))))) (eOp ixA (eVar 0) (eC (.str "need"))) (f__law_faulted_1) (f__law_faulted_2)
def F__law_faulted := runP 3 5 f__law_faulted
abbrev f__law_turn_1 : SF := sRet (eTup (aCons (eCall (callP F__law_back) (aCons (eVar 0) (aCons (eOp ixA (eVar 1) (eC (.int 2))) (aNil)))) (aCons (eVar 4) (aCons (eC (.bl false)) (aNil)))))
abbrev f__law_turn_2 : SF := sSeq (sIf (tVal (eOp gtD (eOp ixA (eVar 1) (eC (.int 1))) (eC (.int 1)))) (sRet (eTup (aCons (eTup (aCons (eC (.str "out")) (aCons (eOp subD (eOp ixA (eVar 1) (eC (.int 1))) (eC (.int 1))) (aCons (eOp ixA (eVar 1) (eC (.int 2))) (aNil))))) (aCons (eVar 4) (aCons (eC (.bl false)) (aNil)))))) (sNop)) (f__law_turn_1)
abbrev f__law_turn_3 : SF := sRet (eTup (aCons (eTup (aCons (eC (.str "in")) (aCons (eTup (aNil)) (aCons (eOp ixA (eVar 1) (eC (.int 1))) (aCons (eC (.int 0)) (aNil)))))) (aCons (eC (.str "ok")) (aCons (eC (.bl false)) (aNil)))))
abbrev f__law_turn_4 : SF := sRet (eTup (aCons (eVar 5) (aCons (eC (.str "felt")) (aCons (eVar 6) (aNil)))))
abbrev f__law_turn_5 : SF := sRet (eTup (aCons (eTup (aCons (eC (.str "in")) (aCons (eVar 7) (aCons (eVar 8) (aCons (eVar 9) (aNil)))))) (aCons (eC (.str "ok")) (aCons (eC (.bl false)) (aNil)))))
abbrev f__law_turn_6 : SF := sSeq (sIf (tOr (tVal (eOp eqD (eVar 8) (eC (.int 0)))) (tOr (tVal (eOp eqD (eOp ixA (eVar 0) (eC (.str "calm"))) (eC (.int 0)))) (tVal (eOp eqD (eVar 9) (eOp ixA (eVar 0) (eC (.str "calm"))))))) (sPar [8, 9] (aCons (eIf (tVal (eOp gtD (eOp ixA (eVar 0) (eC (.str "calm"))) (eC (.int 0)))) (eC (.int 0)) (eVar 8)) (aCons (eC (.int 0)) (aNil)))) (sNop)) (f__law_turn_5)
abbrev f__law_turn_7 : SF := sSeq (sPar [7, 8, 9] (aCons (eSl (eOp addD (eOp ixA (eVar 1) (eC (.int 1))) (eTup (aCons (eC (.bl false)) (aNil)))) (oYes (eOp subD (eC (.int 0)) (eOp ixA (eVar 0) (eC (.str "of"))))) (oNo)) (aCons (eOp ixA (eVar 1) (eC (.int 2))) (aCons (eOp addD (eOp ixA (eVar 1) (eC (.int 3))) (eC (.int 1))) (aNil))))) (f__law_turn_6)
abbrev f__law_turn_8 : SF := sSeq (sIf (tVal (eVar 2)) (sSeq (sAsg (eCall (callP F__law_faulted) (aCons (eVar 0) (aCons (eVar 1) (aCons (eVar 3) (aNil))))) (gTgt (.many [5, 6]))) (f__law_turn_4)) (sNop)) (f__law_turn_7)
abbrev f__law_turn_9 : SF := sSeq (sIf (tVal (eOp eqD (eOp ixA (eVar 1) (eC (.int 0))) (eC (.str "trial")))) (sSeq (sIf (tVal (eVar 2)) (sRet (eTup (aCons (eCall (callP F__law_out) (aCons (eVar 0) (aCons (eOp ixA (eVar 1) (eC (.int 1))) (aNil)))) (aCons (eC (.str "felt")) (aCons (eC (.bl false)) (aNil)))))) (sNop)) (f__law_turn_3)) (sNop)) (f__law_turn_8)
abbrev f__law_turn : SF := sSeq (sIf (tVal (eOp eqD (eOp ixA (eVar 1) (eC (.int 0))) (eC (.str "out")))) (sSeq (sAsg (eIf (tVal (eVar 2)) (eC (.str "skip")) (eC (.str "missed"))) (gNm 4)) (f__law_turn_2)) (sNop)) (f__law_turn_9)
def F__law_turn := runP 4 10 f__law_turn
abbrev f__law_word_1 : SF := sRet (eIf (tVal (eVar 2)) (eTup (aCons (eCall (callP F__law_out) (aCons (eVar 0) (aCons (eOp ixA (eVar 1) (eC (.int 2))) (aNil)))) (aCons (eC (.bl false)) (aNil)))) (eTup (aCons (eVar 1) (aCons (eC (.bl true)) (aNil)))))
abbrev f__law_word_2 : SF := sSeq (sIf (tVal (eOp eqD (eOp ixA (eVar 0) (eC (.str "hears"))) (eC (.str "fault")))) (sRet (eCall (callP F__law_faulted) (aCons (eVar 0) (aCons (eVar 1) (aCons (eVar 2) (aNil)))))) (sNop)) (f__law_word_1)
abbrev f__law_word : SF := sSeq (sIf (tOr (tVal (eOp neD (eOp ixA (eVar 1) (eC (.int 0))) (eC (.str "in")))) (tVal (eOp eqD (eOp ixA (eVar 0) (eC (.str "hears"))) (eC (.str "no"))))) (sRet (eTup (aCons (eVar 1) (aCons (eC (.bl false)) (aNil))))) (sNop)) (f__law_word_2)
def F__law_word := runP 3 3 f__law_word
abbrev f__law_go_1 : SF := sAsg (eOp eqD (eVar 7) (eC (.str "missed"))) (gSetA (eOp ixA (eOp ixA (eVar 1) (eC (.str "last"))) (eVar 3)) (eVar 4))
def f__law_go_2 : SF := sIf (tAnd (tVal (eOp neD (eOp ixA (eVar 10) (eC (.int 0))) (eC (.str "in")))) (tAnd (tVal (eOp ixA (eOp ixA (eOp ixA (eVar 1) (eC (.str "last"))) (eVar 3)) (eVar 12))) (tVal (eOp ninA (eC (.str "swap")) (eVar 11))))) (sDrop (eLm0 (fun _ => appL) (eVar 11) (aCons (eC (.str "swap")) (aNil)))) (sNop)
def f__law_go_3 : SF := sForV big (lEn (aCons (eOp ixA (eOp ixA (eVar 1) (eC (.str "now"))) (eVar 3)) (aNil))) (gTgt (.many [12, 10])) (f__law_go_2)
def f__law_go_4 : SF := sSeq (sIf (tVal (eVar 9)) (sSeq (sDrop (eLm0 (fun _ => appL) (eVar 11) (aCons (eC (.str "kept")) (aNil)))) (f__law_go_3)) (sNop)) (sRet (eTup (aCons (eVar 11) (aCons (eVar 7) (aNil)))))
def f__law_go_5 : SF := sSeq (sAsg (eIf (tVal (eOp eqD (eLcV false (lIt (eOp ixA (eOp ixA (eVar 1) (eC (.str "now"))) (eVar 3))) (.one 10) (tVal (eOp neD (eOp ixA (eVar 10) (eC (.int 0))) (eC (.str "out")))) (eVar 10)) (eLst (aNil)))) (eNewL (aCons (eC (.str "all")) (aNil))) (eNewL (aNil))) (gNm 11)) (f__law_go_4)
def f__law_go_6 : SF := sSeq (sIf (tVal (eOp eqD (eOp ixA (eVar 8) (eC (.int 0))) (eC (.str "out")))) (sAsg (eC (.bl true)) (gSetA (eOp ixA (eOp ixA (eVar 1) (eC (.str "ever"))) (eVar 3)) (eVar 4))) (sNop)) (f__law_go_5)
def f__law_go_7 : SF := sSeq (sAsg (eVar 8) (gSetA (eOp ixA (eOp ixA (eVar 1) (eC (.str "now"))) (eVar 3)) (eVar 4))) (f__law_go_6)
def f__law_go_8 : SF := sSeq (sIf (tVal (eOp eqD (eOp ixA (eVar 2) (eC (.int 0))) (eC (.str "turn")))) (sSeq (sAsg (eCall (callP F__law_turn) (aCons (eVar 0) (aCons (eVar 5) (aCons (eOp ixA (eVar 2) (eC (.int 3))) (aCons (eVar 6) (aNil)))))) (gTgt (.many [8, 7, 9]))) (f__law_go_1)) (sAsg (eCall (callP F__law_word) (aCons (eVar 0) (aCons (eVar 5) (aCons (eVar 6) (aNil))))) (gTgt (.many [8, 9])))) (f__law_go_7)
def f__law_go_9 : SF := sSeq (sAsg (eOp ltD (eCallM F__law_outs (aCons (eVar 1) (aCons (eVar 3) (aNil)))) (eCall (callP F__law_limit) (aCons (eVar 0) (aCons (eCall lenD (aCons (eOp ixA (eOp ixA (eVar 1) (eC (.str "now"))) (eVar 3)) (aNil))) (aNil))))) (gNm 6)) (sSeq (sAsg (eC (.str "told")) (gNm 7)) (f__law_go_8))
def f__law_go_10 : SF := sSeq (sAsg (eOp ixA (eOp ixA (eOp ixA (eVar 1) (eC (.str "now"))) (eVar 3)) (eVar 4)) (gNm 5)) (f__law_go_9)
abbrev f__law_go : SF := sSeq (sPar [3, 4] (aCons (eOp ixA (eVar 2) (eC (.int 1))) (aCons (eIf (tVal (eOp eqD (eOp ixA (eVar 2) (eC (.int 0))) (eC (.str "turn")))) (eOp ixA (eVar 2) (eC (.int 2))) (eOp ixA (eVar 2) (eC (.int 3)))) (aNil)))) (f__law_go_10)
def F__law_go := runM 3 13 f__law_go
abbrev f__law_can : SF := sRet (eOr (eOp eqD (eOp ixA (eVar 1) (eC (.int 0))) (eC (.str "turn"))) (eOp ixA (eOp ixA (eOp ixA (eVar 0) (eC (.str "ever"))) (eOp ixA (eVar 1) (eC (.int 2)))) (eOp ixA (eVar 1) (eC (.int 3)))))
def F__law_can := runM 2 2 f__law_can
def f__law_drawn_event_1 : SF := sAsg (eIf (tVal (eCallM F__law_can (aCons (eVar 1) (aCons (eVar 6) (aNil))))) (eVar 6) (eVar 4)) (gNm 4)
def f__law_drawn_event_2 : SF := sSeq (sAsg (eTup (aCons (eC (.str "told")) (aCons (eOp ixA (eVar 4) (eC (.int 1))) (aCons (eVar 5) (aCons (eOp ixA (eVar 4) (eC (.int 2))) (aNil)))))) (gNm 6)) (f__law_drawn_event_1)
def f__law_drawn_event_3 : SF := sSeq (sIf (tAnd (tVal (eOp gtD (eVar 2) (eC (.int 1)))) (tVal (eOp eqD (eCallM F__law_take (aCons (eVar 0) (aCons (eC (.int 4)) (aNil)))) (eC (.int 0))))) (sSeq (sAsg (eOp modD (eCall intD (aCons (eOp addD (eOp addD (eOp ixA (eVar 4) (eC (.int 1))) (eC (.int 1))) (eCallM F__law_take (aCons (eVar 0) (aCons (eOp subD (eVar 2) (eC (.int 1))) (aNil))))) (aNil))) (eVar 2)) (gNm 5)) (f__law_drawn_event_2)) (sNop)) (sRet (eVar 4))
abbrev f__law_drawn_event_4 : SF := sSeq (sAsg (eTup (aCons (eC (.str "turn")) (aCons (eCallM F__law_take (aCons (eVar 0) (aCons (eVar 2) (aNil)))) (aCons (eCallM F__law_take (aCons (eVar 0) (aCons (eVar 3) (aNil)))) (aCons (eOp gtD (eCallM F__law_take (aCons (eVar 0) (aCons (eC (.int 3)) (aNil)))) (eC (.int 0))) (aNil)))))) (gNm 4)) (f__law_drawn_event_3)
abbrev f__law_drawn_event : SF := sSeq (sPar [2, 3] (aCons (eCall lenD (aCons (eOp ixA (eVar 1) (eC (.str "now"))) (aNil))) (aCons (eCall lenD (aCons (eOp ixA (eOp ixA (eVar 1) (eC (.str "now"))) (eC (.int 0))) (aNil))) (aNil)))) (f__law_drawn_event_4)
def F__law_drawn_event := runM 2 7 f__law_drawn_event
abbrev f_need_goal : SF := sIf (tOr (tNot (tVal (eCall isiD (aCons (eVar 0) (aCons (eC (.ty "str")) (aNil)))))) (tVal (eOp ninA (eVar 0) (eC (.tup [.str "all", .str "kept", .str "swap"]))))) (sNo) (sNop)
def F_need_goal := runP 1 1 f_need_goal
abbrev f_up_to : SF := sRet (eUn negD (eOp fdivD (eUn negD (eVar 0)) (eVar 1)))
def F_up_to := runP 2 2 f_up_to
abbrev f_least_short : SF := sRet (eIf (tVal (eFld ["Rule"] "up" (eVar 0))) (eCall (callP F_up_to) (aCons (eFld ["Rule"] "under" (eVar 0)) (aCons (eOp subD (eFld ["Rule"] "under" (eVar 0)) (eFld ["Rule"] "top" (eVar 0))) (aNil)))) (eC (.int 1)))
def F_least_short := runP 1 1 f_least_short
def f_Rule_time : SF := sRet (eCall min2D (aCons (eCall intD (aCons (eOp addD (eFld ["Rule"] "base" (eVar 0)) (eOp mulD (eFld ["Rule"] "more" (eVar 0)) (eOp subD (eVar 1) (eC (.int 1))))) (aNil))) (aCons (eCall intD (aCons (eFld ["Rule"] "most" (eVar 0)) (aNil))) (aNil))))
def F_Rule_time := runP 2 2 f_Rule_time
abbrev f_is_lasting : SF := sRet (eOr (eOp eqD (eFld ["Rule"] "back" (eVar 0)) (eC (.str "trial"))) (eOp gtD (eMth "Rule" "time" (callP F_Rule_time) (eVar 0) (aCons (eFld ["Rule"] "cap" (eVar 0)) (aNil))) (eC (.int 1))))
def F_is_lasting := runP 1 1 f_is_lasting
abbrev f_is_missable : SF := sRet (eOr (eCall (callP F_is_lasting) (aCons (eVar 0) (aNil))) (eOp neD (eFld ["Rule"] "hears" (eVar 0)) (eC (.str "no"))))
def F_is_missable := runP 1 1 f_is_missable
abbrev f_numbers_1 : SF := sRet (eIf (tAnd (tVal (eFld ["Rule"] "up" (eVar 0))) (tVal (eOp gtD (eFld ["Rule"] "top" (eVar 0)) (eC (.int 0))))) (eTup (aCons (eC (.int 1)) (aCons (eOp subD (eCall (callP F_least_short) (aCons (eVar 0) (aNil))) (eC (.int 1))) (aNil)))) (eC .non))
abbrev f_numbers_2 : SF := sRet (eTup (aCons (eIf (tOr (tVal (eOp eqD (eVar 1) (eC (.str "kept")))) (tVal (eFld ["Rule"] "up" (eVar 0)))) (eVar 3) (eCall (callP F_up_to) (aCons (eFld ["Rule"] "under" (eVar 0)) (aCons (eFld ["Rule"] "top" (eVar 0)) (aNil))))) (aCons (eC .non) (aNil))))
abbrev f_numbers_3 : SF := sSeq (sAsg (eCall (callP F_least_short) (aCons (eVar 0) (aNil))) (gNm 3)) (f_numbers_2)
abbrev f_numbers_4 : SF := sSeq (sIf (tOr (tVal (eVar 2)) (tAnd (tVal (eOp eqD (eVar 1) (eC (.str "swap")))) (tOr (tVal (eOp eqD (eFld ["Rule"] "top" (eVar 0)) (eC (.int 0)))) (tNot (tVal (eCall (callP F_is_missable) (aCons (eVar 0) (aNil)))))))) (sRet (eC .non)) (sNop)) (f_numbers_3)
abbrev f_numbers_5 : SF := sSeq (sIf (tVal (eOp eqD (eVar 1) (eC (.str "all")))) (sSeq (sIf (tVal (eVar 2)) (sRet (eTup (aCons (eC (.int 1)) (aCons (eC .non) (aNil))))) (sNop)) (f_numbers_1)) (sNop)) (f_numbers_4)
abbrev f_numbers_6 : SF := sSeq (sAsg (eOp eqD (eFld ["Rule"] "top" (eVar 0)) (eFld ["Rule"] "under" (eVar 0))) (gNm 2)) (f_numbers_5)
abbrev f_numbers : SF := sSeq (sDrop (eCall (callP F_need_goal) (aCons (eVar 1) (aNil)))) (f_numbers_6)
def F_numbers := runP 2 4 f_numbers
abbrev f_happens : SF := sRet (eNotN (eCall (callP F_numbers) (aCons (eVar 0) (aCons (eVar 1) (aNil)))))
def F_happens := runP 2 2 f_happens
abbrev f_law_1 : SF := sIf (tAnd (tVal (eNotN (eOp ixA (eVar 10) (eC (.int 1))))) (tVal (eOp ltD (eOp ixA (eVar 10) (eC (.int 1))) (eVar 6)))) (sRet (eC (.bl false))) (sNop)
abbrev f_law_2 : SF := sSeq (sIf (tOr (tVal (eIsN (eVar 10))) (tOr (tNot (tVal (eCall (callP F_happens) (aCons (eVar 5) (aCons (eVar 9) (aNil)))))) (tVal (eOp gtD (eOp ixA (eVar 10) (eC (.int 0))) (eVar 6))))) (sRet (eC (.bl false))) (sNop)) (f_law_1)
def f_law_3 : SF := sSeq (sAsg (eCall (callP F_numbers) (aCons (eVar 5) (aCons (eVar 9) (aNil)))) (gNm 10)) (f_law_2)
def f_law_4 : SF := sForA big (eOp ixA (eCallM F__law_go (aCons (eVar 4) (aCons (eVar 7) (aCons (eCallM F__law_drawn_event (aCons (eVar 2) (aCons (eVar 7) (aNil)))) (aNil))))) (eC (.int 0))) (gTgt (.one 9)) (f_law_3)
def f_law_5 : SF := sFor (iR1 (aCons (eC (.int 60)) (aNil))) (gTgt (.one 8)) (f_law_4)
def f_law_6 : SF := sSeq (sAsg (eCallM F__law_begin (aCons (eOp addD (eC (.int 1)) (eCallM F__law_take (aCons (eVar 2) (aCons (eC (.int 2)) (aNil))))) (aCons (eVar 6) (aNil)))) (gNm 7)) (f_law_5)
abbrev f_law_7 : SF := sSeq (sPar [5, 6] (aCons (eCall (callK F__law_rule_of) (aCons (eVar 4) (aNil))) (aCons (eOp addD (eC (.int 1)) (eCallM F__law_take (aCons (eVar 2) (aCons (eC (.int 6)) (aNil))))) (aNil)))) (f_law_6)
def f_law_8 : SF := sSeq (sAsg (eCallM F__law_rule (aCons (eVar 2) (aCons (eC (.int 2)) (aCons (eC (.int 4)) (aCons (eC (.int 2)) (aNil)))))) (gNm 4)) (f_law_7)
abbrev f_law_9 : SF := sFor (iR1 (aCons (eC (.int 3)) (aNil))) (gTgt (.one 3)) (f_law_8)
def f_law_10 : SF := sSeq (sAsg (eCallM F__law_box (aCons (eVar 0) (aCons (eVar 1) (aNil)))) (gNm 2)) (f_law_9)
abbrev f_law : SF := sSeq (sFor (iR1 (aCons (eCall max2D (aCons (eC (.int 1)) (aCons (eCall min2D (aCons (eC (.int 3)) (aCons (eCall lenD (aCons (eVar 0) (aNil))) (aNil)))) (aNil)))) (aNil))) (gTgt (.one 1)) (f_law_10)) (sRet (eC (.bl true)))
def F_law := runP 1 11 f_law
end L4
namespace L4
open PySem
inductive Bk where | half | opn | trial
inductive Hr where | fault | no | out
structure Ru where
  need : Int
  of : Int
  base : Int
  more : Int
  most : Int
  calm : Int
  back : Bk
  top : Int
  under : Int
  up : Bool
  hears : Hr
  cap : Int
def Bk.s : Bk → Str
  | .half => "half"
  | .opn => "open"
  | .trial => "trial"
def Hr.s : Hr → Str
  | .fault => "fault"
  | .no => "no"
  | .out => "out"
def ruNames : List Str := ["need", "of", "base", "more", "most", "calm", "back", "top", "under", "up", "hears", "cap"]
def Ru.vals (r : Ru) : List D := [.int r.need, .int r.of, .int r.base, .int r.more, .int r.most, .int r.calm, .str r.back.s, .int r.top, .int r.under, .bl r.up, .str r.hears.s, .int r.cap]
def Ru.d (r : Ru) : D := .obj "Rule" ruNames r.vals
/-- small numbers -/
structure Ru.Ok (r : Ru) : Prop where
  n1 : 1 ≤ r.need
  n2 : r.need ≤ r.of
  n3 : r.of ≤ 100
  m1 : 0 ≤ r.more
  m2 : r.more ≤ 1000
  b1 : 1 ≤ r.base
  b2 : r.base ≤ r.most
  c0 : 0 ≤ r.calm
  k1 : 1 ≤ r.cap
inductive Sd where
  | inn (w : List Bool) (times calm : Int)
  | out (left times : Int)
  | trial (times : Int)
deriving DecidableEq
def Sd.d : Sd → D
  | .inn w t c => .tup [.str "in", .tup (w.map .bl), .int t, .int c]
  | .out l t => .tup [.str "out", .int l, .int t]
  | .trial t => .tup [.str "trial", .int t]
inductive Lt where | fault | faultFull | ok | told | toldFull
deriving DecidableEq
def Lt.s : Lt → Str
  | .fault => "fault"
  | .faultFull => "fault full"
  | .ok => "ok"
  | .told => "told"
  | .toldFull => "told full"
inductive Wh where | felt | missed | skip | ok | told
deriving DecidableEq
def Wh.s : Wh → Str
  | .felt => "felt"
  | .missed => "missed"
  | .skip => "skip"
  | .ok => "ok"
  | .told => "told"
section
variable {r : Ru} {m : M}
theorem ru_ins : insOf m r.d = some (("Rule" : Str), ruNames, r.vals) := rfl
theorem ru_pure : pureD r.d = true := rfl
theorem ru_c1 : (["Rule"] : List Str).contains "Rule" = true := by decide +kernel
theorem ru_need : fldAt ruNames r.vals "need" = some (.int r.need) := by kernel_rfl
theorem ru_of : fldAt ruNames r.vals "of" = some (.int r.of) := by kernel_rfl
theorem ru_base : fldAt ruNames r.vals "base" = some (.int r.base) := by kernel_rfl
theorem ru_more : fldAt ruNames r.vals "more" = some (.int r.more) := by kernel_rfl
theorem ru_most : fldAt ruNames r.vals "most" = some (.int r.most) := by kernel_rfl
theorem ru_calm : fldAt ruNames r.vals "calm" = some (.int r.calm) := by kernel_rfl
theorem ru_back : fldAt ruNames r.vals "back" = some (.str r.back.s) := by kernel_rfl
theorem ru_top : fldAt ruNames r.vals "top" = some (.int r.top) := by kernel_rfl
theorem ru_under : fldAt ruNames r.vals "under" = some (.int r.under) := by kernel_rfl
theorem ru_up : fldAt ruNames r.vals "up" = some (.bl r.up) := by kernel_rfl
theorem ru_hears : fldAt ruNames r.vals "hears" = some (.str r.hears.s) := by kernel_rfl
theorem ru_cap : fldAt ruNames r.vals "cap" = some (.int r.cap) := by kernel_rfl
theorem ru_ntime : ruNames.contains "time" = false := by kernel_rfl
theorem eqB {o : Option D} {b : Bool} (h : (match o with | some (.bl c) => c == b | _ => false) = true) : o = some (.bl b) := by
  split at h
  · rw [eq_of_beq h]
  · cases h
theorem eq_int {i j : Int} : eqD m (.int i) (.int j) = some (.bl (i == j)) := by
  have hi : ∀ i : Int, pdM m (.int i) = some (.int i) := fun i => by
    have h1 : SeqAt.shaped (PyData.int i) = true := rfl
    simp [pdM, frz, pureD, pd, h1]
  simp [eqD, hi, PyData.eqv]
theorem callP_pure {F : List D → Option D} {ds : List D} (h : pureL ds = true) : callP F m ds = F ds := by unfold callP; rw [if_pos h]
end
def Ru.time (r : Ru) (j : Int) : Int := if r.most < r.base + r.more * (j - 1) then r.most else r.base + r.more * (j - 1)
theorem runP_rt {a n : Nat} {b : SF} {ds : List D} {d : D} {m : M} (e : b (startD n ds) [] = some (.rt d, m)) (hl : ds.length = a) (hp : pureD d = true) : runP a n b ds = some d := by
  unfold runP
  rw [if_pos hl, e]
  show frz m d = some d
  unfold frz
  rw [if_pos hp]
theorem time_ok {r : Ru} (h : r.Ok) (j : Int) : F_Rule_time [r.d, .int j] = some (.int (r.time j)) := by
  have hm : (-(2 ^ 64) < r.more ∧ r.more < 2 ^ 64) ∨ (-(2 ^ 64) < j - 1 ∧ j - 1 < 2 ^ 64) := .inl (by have := h.m1; have := h.m2; omega)
  have e : f_Rule_time [some r.d, some (.int j)] [] = some (.rt (.int (r.time j)), []) := by
    simp only [f_Rule_time, sRet, eCall, aCons, aNil, eOp, eFld, eVar, eC, List.getD_cons_zero, List.getD_cons_succ, pu_go, bd_go, ru_ins, ru_c1, if_true, ru_base, ru_more, ru_most, subD, mulD, if_pos hm, addD, intD, min2D]
    rfl
  exact runP_rt (b := f_Rule_time) e rfl rfl
def Ru.leftOut (r : Ru) (t : Int) : Sd := .out (r.time (if r.cap < t + 1 then r.cap else t + 1)) (if r.cap < t + 1 then r.cap else t + 1)
section
variable {r : Ru} {m : M}
def Ru.faults (r : Ru) : Int := if r.back matches .half then r.need - (r.need + 1) / 2 else 0
def Ru.comeBack (r : Ru) (t : Int) : Sd := if r.back matches .trial then .trial t else .inn (List.replicate r.faults.toNat true) t 0
theorem pure_bls (w : List Bool) : pureL (w.map D.bl) = true := by
  induction w with
  | nil => rfl
  | cons b w ih => simp [pureL, pureD, ih]
theorem sd_pure (s : Sd) : pureD s.d = true := by
  cases s <;> simp [Sd.d, pureD, pureL, pure_bls]
theorem faults_ok (h : r.Ok) : 0 ≤ r.faults ∧ r.faults ≤ 100 := by
  have := h.n1; have := h.n2; have := h.n3
  unfold Ru.faults
  split <;> omega
def Ru.atTry (r : Ru) (s : Sd) (t : Int) (room : Bool) : Sd × Bool := if room then (r.leftOut t, false) else (s, true)
/-- the last answers -/
def Ru.cut (r : Ru) (w : List Bool) (b : Bool) : List Bool := cutD (w ++ [b]) (some (-r.of)) none
theorem cutD_map {α β : Type} (f : α → β) (xs : List α) (lo hi : Option Int) : cutD (xs.map f) lo hi = (cutD xs lo hi).map f := by
  unfold cutD
  rw [List.length_map, ← List.map_drop, ← List.map_take]
theorem cut_bls (r : Ru) (w : List Bool) (b : Bool) : cutD (w.map D.bl ++ [D.bl b]) (some (-r.of)) none = (r.cut w b).map D.bl := by
  unfold Ru.cut
  rw [← cutD_map, List.map_append]
  rfl
theorem ix0 {m : M} {w : List Bool} {t c : Int} : ixA m (Sd.inn w t c).d (.int 0) = some (.str "in") := rfl
theorem ix1 {m : M} {w : List Bool} {t c : Int} : ixA m (Sd.inn w t c).d (.int 1) = some (.tup (w.map .bl)) := rfl
theorem ix2 {m : M} {w : List Bool} {t c : Int} : ixA m (Sd.inn w t c).d (.int 2) = some (.int t) := rfl
def Ru.afterOk (r : Ru) (w : List Bool) (t c : Int) : Sd := if (t == 0 || r.calm == 0) = true then .inn (r.cut w false) t 0 else if r.calm ≤ c + 1 then .inn (r.cut w false) 0 0 else .inn (r.cut w false) t (c + 1)
def nTrue (w : List Bool) : Int := ((w.filter id).length : Nat)
def Ru.afterFault (r : Ru) (w : List Bool) (t : Int) (room : Bool) : Sd × Bool := if nTrue (r.cut w true) < r.need then (.inn (r.cut w true) t 0, false) else r.atTry (.inn (r.cut w true) t 0) t room
theorem ixo0 {m : M} {l t : Int} : ixA m (Sd.out l t).d (.int 0) = some (.str "out") := rfl
theorem ixt0 {m : M} {t : Int} : ixA m (Sd.trial t).d (.int 0) = some (.str "trial") := rfl
theorem ixt1 {m : M} {t : Int} : ixA m (Sd.trial t).d (.int 1) = some (.int t) := rfl
theorem eq_in_out : eqD m (.str "in") (.str "out") = some (.bl false) := eqB (by kernel_rfl)
theorem eq_in_trial : eqD m (.str "in") (.str "trial") = some (.bl false) := eqB (by kernel_rfl)
theorem eq_out_out : eqD m (.str "out") (.str "out") = some (.bl true) := eqB (by kernel_rfl)
theorem eq_trial_out : eqD m (.str "trial") (.str "out") = some (.bl false) := eqB (by kernel_rfl)
theorem eq_trial_trial : eqD m (.str "trial") (.str "trial") = some (.bl true) := eqB (by kernel_rfl)
theorem ne_in_in : neD m (.str "in") (.str "in") = some (.bl false) := eqB (by kernel_rfl)
theorem ne_out_in : neD m (.str "out") (.str "in") = some (.bl true) := eqB (by kernel_rfl)
theorem ne_trial_in : neD m (.str "trial") (.str "in") = some (.bl true) := eqB (by kernel_rfl)
def Ru.afterTurn (r : Ru) (s : Sd) (fault room : Bool) : Sd × Wh × Bool := match s with
  | .out l t => (if l == 1 then r.comeBack t else .out (l - 1) t, if fault then .skip else .missed, false)
  | .trial t => if fault then (r.leftOut t, .felt, false) else (.inn [] t 0, .ok, false)
  | .inn w t c => if fault then ((r.afterFault w t room).1, .felt, (r.afterFault w t room).2) else (r.afterOk w t c, .ok, false)
def tw (x : Sd × Wh × Bool) : D := .tup [x.1.d, .str x.2.1.s, .bl x.2.2]
def Ru.afterWord (r : Ru) (s : Sd) (room : Bool) : Sd × Bool := match s with
  | .inn w t c => if r.hears matches .no then (.inn w t c, false) else if r.hears matches .out then r.atTry (.inn w t c) t room else r.afterFault w t room
  | s => (s, false)
def Ru.room (r : Ru) (full : Bool) : Bool := decide (0 < r.top) && (!full || r.top == r.under)
def Lt.full : Lt → Bool
  | .faultFull => true
  | .toldFull => true
  | _ => false
def Lt.isTold : Lt → Bool
  | .told => true
  | .toldFull => true
  | _ => false
def Lt.isFault : Lt → Bool
  | .fault => true
  | .faultFull => true
  | _ => false
def Ru.step (r : Ru) (s : Sd) (l : Lt) : Sd × Wh := if l.isTold then ((r.afterWord s (r.room l.full)).1, .told) else ((r.afterTurn s l.isFault (r.room l.full)).1, (r.afterTurn s l.isFault (r.room l.full)).2.1)
end
end L4
namespace L4
open PySem
def Sd.In (r : Ru) : Sd → Prop
  | .inn w t c => (w.length : Int) ≤ r.of ∧ 0 ≤ t ∧ t ≤ r.cap ∧ 0 ≤ c ∧ c ≤ r.calm
  | .out l t => 1 ≤ l ∧ l ≤ r.most ∧ 1 ≤ t ∧ t ≤ r.cap
  | .trial t => 1 ≤ t ∧ t ≤ r.cap
def begun : Sd := .inn [] 0 0
section
variable {r : Ru}
theorem cut_of (h : r.Ok) (w : List Bool) (b : Bool) : ((r.cut w b).length : Int) ≤ r.of := by
  have h1 := h.n1
  have h2 := h.n2
  unfold Ru.cut cutD
  rw [List.length_take, List.length_drop]
  unfold HT.sIx
  simp only [List.length_append, List.length_singleton]
  repeat' split
  all_goals omega
theorem time_in (h : r.Ok) {j : Int} (hj : 1 ≤ j) : 1 ≤ r.time j ∧ r.time j ≤ r.most := by
  have h1 := h.b1
  have h2 := h.b2
  have h3 : 0 ≤ r.more * (j - 1) := Int.mul_nonneg h.m1 (by omega)
  unfold Ru.time
  split <;> omega
theorem left_in (h : r.Ok) {t : Int} (ht : 0 ≤ t) : (r.leftOut t).In r := by
  have hk := h.k1
  unfold Ru.leftOut
  split
  · exact ⟨(time_in h hk).1, (time_in h hk).2, hk, Int.le_refl _⟩
  · next hc => exact ⟨(time_in h (by omega)).1, (time_in h (by omega)).2, by omega, by omega⟩
theorem begun_in (h : r.Ok) : begun.In r := by
  have := h.k1; have := h.c0; have := h.n1; have := h.n2
  refine ⟨?_, by omega, by omega, by omega, by omega⟩
  show (0 : Int) ≤ r.of
  omega
theorem back_in (h : r.Ok) {t : Int} (h1 : 1 ≤ t) (h2 : t ≤ r.cap) : (r.comeBack t).In r := by
  have hf := faults_ok h
  have := h.n1; have := h.n2; have := h.c0
  unfold Ru.comeBack
  split
  · exact ⟨h1, h2⟩
  · refine ⟨?_, by omega, h2, by omega, by omega⟩
    rw [List.length_replicate]
    have : r.faults ≤ r.of := by
      unfold Ru.faults
      split <;> omega
    omega
theorem try_in (h : r.Ok) {w : List Bool} {t c : Int} {room : Bool} (q : (Sd.inn w t c).In r) : (r.atTry (.inn w t c) t room).1.In r := by
  unfold Ru.atTry
  split
  · exact left_in h q.2.1
  · exact q
theorem fault_in (h : r.Ok) {w : List Bool} {t c : Int} {room : Bool} (q : (Sd.inn w t c).In r) : (r.afterFault w t room).1.In r := by
  have h0 : (Sd.inn (r.cut w true) t 0).In r := ⟨cut_of h w true, q.2.1, q.2.2.1, by omega, h.c0⟩
  unfold Ru.afterFault
  split
  · exact h0
  · exact try_in h h0
theorem okk_in (h : r.Ok) {w : List Bool} {t c : Int} (q : (Sd.inn w t c).In r) : (r.afterOk w t c).In r := by
  obtain ⟨_, q1, q2, q3, q4⟩ := q
  have := h.c0; have := h.k1
  have hc := cut_of h w false
  unfold Ru.afterOk
  split
  · exact ⟨hc, q1, q2, by omega, by omega⟩
  · split
    · exact ⟨hc, by omega, by omega, by omega, by omega⟩
    · exact ⟨hc, q1, q2, by omega, by omega⟩
end
end L4
namespace L4
namespace Bf
variable {α β : Type} [DecidableEq α]
structure Gr (α β : Type) where
  ls : List β
  nx : α → β → α
  hit : α → β → Bool
  b0 : α
variable (g : Gr α β)
def run (x : α) : List β → α
  | [] => x
  | l :: w => run (g.nx x l) w
abbrev Vs (α β : Type) := List (Option (α × β))
/-- what is known: ws found so far (in turn), by vs, at depths ds -/
structure Known (ws : List α) (vs : Vs α β) (ds : List Nat) : Prop where
  lv : vs.length = ws.length
  ld : ds.length = ws.length
  nd : ws.Nodup
  h0 : ws[0]? = some g.b0 ∧ vs[0]? = some none ∧ ds[0]? = some 0
  by_ : ∀ (i : Nat) x, 0 < i → ws[i]? = some x → ∃ j y l d, j < i ∧ ws[j]? = some y ∧ vs[i]? = some (some (y, l)) ∧ x = g.nx y l ∧ l ∈ g.ls ∧ ds[j]? = some d ∧ ds[i]? = some (d + 1)
  up : ∀ (i j a b : Nat), i ≤ j → ds[i]? = some a → ds[j]? = some b → a ≤ b
/-- the letters of one place are dealt with -/
def Done (ws : List α) (ds : List Nat) (i : Nat) (ls : List β) : Prop := ∀ x d, ws[i]? = some x → ds[i]? = some d → ∀ l ∈ ls, g.hit x l = false ∧ ∃ (k : Nat) (e : Nat), ws[k]? = some (g.nx x l) ∧ ds[k]? = some e ∧ e ≤ d + 1
structure Inv (at_ : Nat) (pre : List β) (ws : List α) (vs : Vs α β) (ds : List Nat) : Prop extends Known g ws vs ds where
  low : ∀ i, i < at_ → Done g ws ds i g.ls
  cur : Done g ws ds at_ pre
  near : ∀ (j : Nat) a b, ds[at_]? = some a → ds[j]? = some b → b ≤ a + 1
variable {g}
theorem getq {γ : Type} {l : List γ} {x : γ} (k : Nat) : (l ++ [x])[k]? = if k < l.length then l[k]? else if k = l.length then some x else none := by
  by_cases h : k < l.length
  · rw [if_pos h, List.getElem?_append_left h]
  · rw [if_neg h, List.getElem?_append_right (by omega)]
    by_cases h2 : k = l.length
    · rw [if_pos h2, h2]; simp
    · rw [if_neg h2]
      rw [List.getElem?_eq_none (by simp; omega)]
theorem old {γ : Type} {l : List γ} {x y : γ} {k : Nat} (h : l[k]? = some y) : (l ++ [x])[k]? = some y := by
  rw [getq, if_pos (List.getElem?_eq_some_iff.mp h).1]; exact h
theorem new {γ : Type} {l : List γ} {x : γ} : (l ++ [x])[l.length]? = some x := by rw [getq, if_neg (Nat.lt_irrefl _), if_pos rfl]
theorem was {γ : Type} {l : List γ} {x y : γ} {k : Nat} (h : (l ++ [x])[k]? = some y) : l[k]? = some y ∨ (k = l.length ∧ y = x) := by
  rw [getq] at h
  split at h
  · exact .inl h
  · split at h
    · next e => cases h; exact .inr ⟨e, rfl⟩
    · cases h
theorem Done.more {ws : List α} {ds : List Nat} {i : Nat} {ls : List β} (h : Done g ws ds i ls) (hl : ds.length = ws.length) (hi : i < ws.length) (y : α) (e : Nat) : Done g (ws ++ [y]) (ds ++ [e]) i ls := by
  intro x d hx hd l hl2
  rw [List.getElem?_append_left hi] at hx
  rw [List.getElem?_append_left (by omega)] at hd
  obtain ⟨h1, k, f, h2, h3, h4⟩ := h x d hx hd l hl2
  exact ⟨h1, k, f, old h2, old h3, h4⟩
/-- one letter that hits nothing -/
theorem Inv.step {at_ : Nat} {pre : List β} {ws : List α} {vs : Vs α β} {ds : List Nat} {x : α} {l : β} {d : Nat} (I : Inv g at_ pre ws vs ds) (hx : ws[at_]? = some x) (hd : ds[at_]? = some d) (hl : l ∈ g.ls) (hh : g.hit x l = false) :
    (g.nx x l ∈ ws → Inv g at_ (pre ++ [l]) ws vs ds) ∧ (g.nx x l ∉ ws → Inv g at_ (pre ++ [l]) (ws ++ [g.nx x l]) (vs ++ [some (x, l)]) (ds ++ [d + 1])) := by
  have ha : at_ < ws.length := (List.getElem?_eq_some_iff.mp hx).1
  refine ⟨fun hm => ?_, fun hm => ?_⟩
  · refine ⟨I.toKnown, I.low, ?_, I.near⟩
    intro y e hy he l2 hl2
    rcases List.mem_append.mp hl2 with h | h
    · exact I.cur y e hy he l2 h
    · rw [List.mem_singleton.mp h]
      rw [hx] at hy; cases hy
      rw [hd] at he; cases he
      obtain ⟨k, hk, ek⟩ := List.getElem_of_mem hm
      have hk2 : k < ds.length := by rw [I.ld]; exact hk
      exact ⟨hh, k, ds[k], by rw [List.getElem?_eq_getElem hk, ek], List.getElem?_eq_getElem hk2, I.near k _ _ hd (List.getElem?_eq_getElem hk2)⟩
  · have lv := I.lv
    have ld := I.ld
    refine ⟨⟨by simp [lv], by simp [ld], ?_, ⟨old I.h0.1, old I.h0.2.1, old I.h0.2.2⟩, ?_, ?_⟩, fun i hi => (I.low i hi).more ld (by omega) _ _, ?_, ?_⟩
    · exact List.nodup_append.mpr ⟨I.nd, by simp, fun a ha b hb => by rw [List.mem_singleton.mp hb]; rintro rfl; exact hm ha⟩
    · intro i y hi hy
      rcases was hy with h | ⟨h, rfl⟩
      · obtain ⟨j, z, l2, e, q1, q2, q3, q4, q5, q6, q7⟩ := I.by_ i y hi h
        exact ⟨j, z, l2, e, q1, old q2, old q3, q4, q5, old q6, old q7⟩
      · refine ⟨at_, x, l, d, by omega, old hx, ?_, rfl, hl, old hd, ?_⟩
        · rw [h, ← lv]; exact new
        · rw [h, ← ld]; exact new
    · intro i j a b hij h1 h2
      rcases was h1 with h1 | ⟨e1, rfl⟩ <;> rcases was h2 with h2 | ⟨e2, rfl⟩
      · exact I.up i j a b hij h1 h2
      · exact I.near i _ _ hd h1
      · have := (List.getElem?_eq_some_iff.mp h2).1
        omega
      · exact Nat.le_refl _
    · intro y e hy he l2 hl2
      rw [List.getElem?_append_left ha] at hy
      rw [List.getElem?_append_left (by omega)] at he
      rcases List.mem_append.mp hl2 with h | h
      · obtain ⟨h1, k, f, h2, h3, h4⟩ := I.cur y e hy he l2 h
        exact ⟨h1, k, f, old h2, old h3, h4⟩
      · rw [List.mem_singleton.mp h]
        rw [hx] at hy; cases hy
        rw [hd] at he; cases he
        refine ⟨hh, ws.length, d + 1, new, ?_, Nat.le_refl _⟩
        rw [← ld]; exact new
    · intro j a b h1 h2
      rw [List.getElem?_append_left (by omega), hd] at h1
      cases h1
      rcases was h2 with h2 | ⟨_, rfl⟩
      · exact I.near j _ _ hd h2
      · exact Nat.le_refl _
/-- on to the next place -/
theorem Inv.next {at_ : Nat} {ws : List α} {vs : Vs α β} {ds : List Nat} (I : Inv g at_ g.ls ws vs ds) : Inv g (at_ + 1) [] ws vs ds := by
  refine ⟨I.toKnown, fun i hi => ?_, fun x d _ _ l hl => (nomatch hl), fun j a b h1 h2 => ?_⟩
  · rcases Nat.lt_or_ge i at_ with h | h
    · exact I.low i h
    · have : i = at_ := by omega
      subst this
      exact I.cur
  · have hl : at_ < ds.length := by have := (List.getElem?_eq_some_iff.mp h1).1; omega
    have h3 := I.up at_ (at_ + 1) _ _ (by omega) (List.getElem?_eq_getElem hl) h1
    have h4 := I.near j _ _ (List.getElem?_eq_getElem hl) h2
    omega
end Bf
end L4
namespace L4
open PySem
section
variable {m : M}
abbrev PP := Sd × Sd
def pdd (x : PP) : D := .tup [x.1.d, x.2.d]
def vdd : Option (PP × Lt) → D
  | none => .non
  | some (x, l) => .tup [pdd x, .str l.s]
theorem pureL_map {α : Type} {f : α → D} (h : ∀ a, pureD (f a) = true) : ∀ l : List α, pureL (l.map f) = true
  | [] => rfl
  | a :: l => by simp [pureL, h a, pureL_map h l]
theorem mapO_self {f : D → Option D} : ∀ {ds : List D}, (∀ d ∈ ds, f d = some d) → mapO f ds = some ds
  | [], _ => rfl
  | d :: ds, h => by
    unfold mapO
    rw [h d (List.mem_cons_self ..), mapO_self fun e he => h e (List.mem_cons_of_mem _ he)]
def hm (ws : List PP) (vs : Bf.Vs PP Lt) : M := [.dic (ws.map pdd) (vs.map vdd), .lst (ws.map pdd)]
end
end L4
namespace L4
open PySem
section
variable {r : Ru} {m : M} {n : Nat} {L : List Lt} {fr : D}
def pdS : Sd → PyData
  | .inn w t c => .tuple [.str "in", .tuple (w.map .bool), .int t, .int c]
  | .out l t => .tuple [.str "out", .int l, .int t]
  | .trial t => .tuple [.str "trial", .int t]
theorem pdL_bls : ∀ w : List Bool, pdL (w.map D.bl) = some (w.map PyData.bool)
  | [] => rfl
  | b :: w => by rw [List.map_cons, pdL, pdL_bls w]; rfl
theorem bls_can : ∀ w : List Bool, PyData.canLayAll0 (w.map PyData.bool) = true ∧ PyData.depthAll (w.map PyData.bool) ≤ 0
  | [] => ⟨rfl, by simp [PyData.depthAll]⟩
  | b :: w => by
    obtain ⟨h1, h2⟩ := bls_can w
    exact ⟨by rw [List.map_cons, PyData.canLayAll0, h1]; rfl, by rw [List.map_cons, PyData.depthAll]; simp only [PyData.depth]; omega⟩
theorem sd_pd (s : Sd) : pd s.d = some (pdS s) ∧ (pdS s).canLay0 = true ∧ (pdS s).depth ≤ 5 := by
  have k1 : PyData.strOk "in" = true := by decide +kernel
  have k2 : PyData.strOk "out" = true := by decide +kernel
  have k3 : PyData.strOk "trial" = true := by decide +kernel
  cases s with
  | inn w t c =>
    obtain ⟨h1, h2⟩ := bls_can w
    refine ⟨?_, ?_, ?_⟩
    · simp only [Sd.d, pd, pdL, pdL_bls, Option.map_some, pdS]
    · simp [pdS, PyData.canLay0, PyData.canLayAll0, h1, k1]
    · simp only [pdS, PyData.depth, PyData.depthAll]; omega
  | out l t => exact ⟨rfl, by simp [pdS, PyData.canLay0, PyData.canLayAll0, k2], by simp only [pdS, PyData.depth, PyData.depthAll]; omega⟩
  | trial t => exact ⟨rfl, by simp [pdS, PyData.canLay0, PyData.canLayAll0, k3], by simp only [pdS, PyData.depth, PyData.depthAll]; omega⟩
theorem pdL_sds : ∀ ws : List Sd, pdL (ws.map Sd.d) = some (ws.map pdS) ∧ PyData.canLayAll0 (ws.map pdS) = true ∧ PyData.depthAll (ws.map pdS) ≤ 5
  | [] => ⟨rfl, rfl, by simp [PyData.depthAll]⟩
  | s :: ws => by
    obtain ⟨h1, h2, h3⟩ := pdL_sds ws
    obtain ⟨s1, s2, s3⟩ := sd_pd s
    exact ⟨by rw [List.map_cons, pdL, s1, h1]; rfl, by rw [List.map_cons, PyData.canLayAll0, s2, h2]; rfl, by rw [List.map_cons, PyData.depthAll]; omega⟩
end
end L4
namespace L4
open PySem
def capOf (base more most : Int) : Int := if more == 0 then 1 else 1 + (most - base + more - 1) / more
/-- arguments that make a rule -/
structure Ru.Va (r : Ru) : Prop where
  a1 : 1 ≤ r.need
  a2 : r.need ≤ r.of
  a3 : 1 ≤ r.base
  a4 : 0 ≤ r.more
  a5 : r.base ≤ r.most
  a6 : 0 ≤ r.calm
  a7 : 0 ≤ r.top
  a8 : 1 ≤ r.under
  a9 : r.top ≤ r.under
  b1 : r.more < 1073741824
  b2 : r.cap = capOf r.base r.more r.most
/-- the arguments as a tuple -/
def Ru.args (r : Ru) : List D := [.int r.need, .int r.of, .int r.base, .int r.more, .int r.most, .int r.calm, .str r.back.s, .int r.top, .int r.under, .bl r.up, .str r.hears.s]
section
variable {r : Ru} {m : M}
theorem isi_int (i : Int) : isiD m [.int i, .ty "int"] = some (.bl true) := by kernel_rfl
theorem isi_intb (i : Int) : isiD m [.int i, .ty "bool"] = some (.bl false) := by kernel_rfl
theorem isi_bl (b : Bool) : isiD m [.bl b, .ty "bool"] = some (.bl true) := by kernel_rfl
theorem isint_ok (i : Int) : F_is_integer [.int i] = some (.bl true) := by
  refine runP_rt (b := f_is_integer) (m := []) ?_ rfl rfl
  show f_is_integer [some (.int i)] [] = _
  simp only [f_is_integer, sRet, eAnd, eNot, eCall, aCons, aNil, eVar, eC, List.getD_cons_zero, pu_go, bd_go, isi_int, isi_intb, Bool.not_false]
theorem isfrom_ok (i j : Int) : F_is_from [.int i, .int j] = some (.bl (decide (j ≤ i))) := by
  have hp : ∀ i : Int, pureL [.int i] = true := fun i => rfl
  refine runP_rt (b := f_is_from) (m := []) ?_ rfl rfl
  show f_is_from [some (.int i), some (.int j)] [] = _
  simp only [f_is_from, sRet, eAnd, eCall, eOp, aCons, aNil, eVar, eC, List.getD_cons_zero, List.getD_cons_succ, pu_go, bd_go, callP_pure (hp _), isint_ok, geD]
theorem isnum_ok (i : Int) : F_is_number [.int i] = some (.bl (decide (0 ≤ i))) := by
  have hp : ∀ i : Int, pureL [.int i] = true := fun i => rfl
  refine runP_rt (b := f_is_number) (m := []) ?_ rfl rfl
  show f_is_number [some (.int i)] [] = _
  simp only [f_is_number, sRet, eAnd, eCall, eOp, aCons, aNil, eVar, eC, List.getD_cons_zero, List.getD_cons_succ, pu_go, bd_go, callP_pure (hp _), isint_ok, geD]
theorem isback_ok (b : Bk) : F_is_word [.str b.s, .tup [.str "half", .str "open", .str "trial"]] = some (.bl true) := by cases b <;> exact eqB (by kernel_rfl)
theorem ishears_ok (b : Hr) : F_is_word [.str b.s, .tup [.str "fault", .str "no", .str "out"]] = some (.bl true) := by cases b <;> exact eqB (by kernel_rfl)
theorem wnum_ok (h : r.Va) : F_wrong_number [.int r.need, .int r.of, .int r.base, .int r.more, .int r.most, .int r.calm] = some .non := by
  have hp : ∀ i : Int, pureL [.int i] = true := fun i => rfl
  have hp2 : ∀ i j : Int, pureL [.int i, .int j] = true := fun i j => rfl
  refine runP_rt (b := f_wrong_number) (m := []) ?_ rfl rfl
  show f_wrong_number [some (.int r.need), some (.int r.of), some (.int r.base), some (.int r.more), some (.int r.most), some (.int r.calm)] [] = _
  simp only [f_wrong_number, f_wrong_number_5, f_wrong_number_4, f_wrong_number_3, f_wrong_number_2, f_wrong_number_1, sSeq, sIf, tNot, tVal, sNop, sRet, eIf, eCall, aCons, aNil, eVar, eC, List.getD_cons_zero, List.getD_cons_succ, pu_go, bd_go, callP_pure (hp _), callP_pure (hp2 _ _), isfrom_ok, isnum_ok, h.a1, h.a2, h.a3, h.a4, h.a5, h.a6, decide_true, Bool.not_true, Bool.false_eq_true, if_false, if_true]
theorem wword_ok (h : r.Va) : F_wrong_word [.str r.back.s, .int r.top, .int r.under, .bl r.up, .str r.hears.s] = some .non := by
  have hp : ∀ i : Int, pureL [.int i] = true := fun i => rfl
  have hp2 : ∀ x : Str, ∀ a b c : Str, pureL [.str x, .tup [.str a, .str b, .str c]] = true := fun x a b c => rfl
  have h1 : ¬ r.under < 1 := by have := h.a8; omega
  have h2 : ¬ r.under < r.top := by have := h.a9; omega
  refine runP_rt (b := f_wrong_word) (m := []) ?_ rfl rfl
  show f_wrong_word [some (.str r.back.s), some (.int r.top), some (.int r.under), some (.bl r.up), some (.str r.hears.s)] [] = _
  simp only [f_wrong_word, f_wrong_word_4, f_wrong_word_3, f_wrong_word_2, f_wrong_word_1, sSeq, sIf, tNot, tOr, tVal, sNop, sRet, eIf, eCall, eOp, aCons, aNil, eVar, eC, List.getD_cons_zero, List.getD_cons_succ, pu_go, bd_go, callP_pure (hp _), callP_pure (hp2 _ _ _ _), isback_ok, ishears_ok, isnum_ok, isint_ok, isi_bl, ltD, cmpI, h1, h2, h.a7, decide_true, decide_false, Bool.not_true, Bool.false_eq_true, if_false, if_true]
theorem runM_nx {a n : Nat} {b : SF} {ds : List D} {ρ : Ss} {m m' : M} (e : b (startD n ds) m = some (.nx ρ, m')) (hl : ds.length = a) : runM a n b ds m = some (.non, m') := by
  unfold runM
  rw [if_pos hl, e]
  rfl
theorem init_put : f_Rule___init___12 [some (.ref 0), some (.int r.need), some (.int r.of), some (.int r.base), some (.int r.more), some (.int r.most), some (.int r.calm), some (.str r.back.s), some (.int r.top), some (.int r.under), some (.bl r.up), some (.str r.hears.s), some .non] [.ins "Rule" [] []] =
    f_Rule___init___1 [some (.ref 0), some (.int r.need), some (.int r.of), some (.int r.base), some (.int r.more), some (.int r.most), some (.int r.calm), some (.str r.back.s), some (.int r.top), some (.int r.under), some (.bl r.up), some (.str r.hears.s), some .non] [.ins "Rule" ["need", "of", "base", "more", "most", "calm", "back", "top", "under", "up", "hears"] r.args] := by kernel_rfl
theorem init_cap (z : D) : putD "cap" z (["need", "of", "base", "more", "most", "calm", "back", "top", "under", "up", "hears"] : List Str) r.args = (ruNames, r.args ++ [z]) := by kernel_rfl
theorem init_gen {f : SF} {Wn Ww : List D → Option D} {m : M} (hn : Wn [.int r.need, .int r.of, .int r.base, .int r.more, .int r.most, .int r.calm] = some .non) (hw : Ww [.str r.back.s, .int r.top, .int r.under, .bl r.up, .str r.hears.s] = some .non) :
    sSeq (sAsg (eCall (callP Wn) (aCons (eVar 1) (aCons (eVar 2) (aCons (eVar 3) (aCons (eVar 4) (aCons (eVar 5) (aCons (eVar 6) (aNil)))))))) (gNm 12)) (sSeq (sIf (tVal (eIsN (eVar 12))) (sAsg (eCall (callP Ww) (aCons (eVar 7) (aCons (eVar 8) (aCons (eVar 9) (aCons (eVar 10) (aCons (eVar 11) (aNil))))))) (gNm 12)) (sNop)) (sSeq (sIf (tVal (eNotN (eVar 12))) (sNo) (sNop)) f)) [some (.ref 0), some (.int r.need), some (.int r.of), some (.int r.base), some (.int r.more), some (.int r.most), some (.int r.calm), some (.str r.back.s), some (.int r.top), some (.int r.under), some (.bl r.up), some (.str r.hears.s), none] m = f [some (.ref 0), some (.int r.need), some (.int r.of), some (.int r.base), some (.int r.more), some (.int r.most), some (.int r.calm), some (.str r.back.s), some (.int r.top), some (.int r.under), some (.bl r.up), some (.str r.hears.s), some .non] m := by
  have hpn : pureL [.int r.need, .int r.of, .int r.base, .int r.more, .int r.most, .int r.calm] = true := rfl
  have hpw : pureL [.str r.back.s, .int r.top, .int r.under, .bl r.up, .str r.hears.s] = true := rfl
  simp only [sSeq, sAsg, sIf, tVal, eIsN, eNotN, isNon, sNop, eCall, aCons, aNil, eVar, gNm, List.getD_cons_zero, List.getD_cons_succ, List.set_cons_succ, List.set_cons_zero, pu_go, bd_go, callP_pure hpn, callP_pure hpw, hn, hw, if_true, Bool.not_true, Bool.false_eq_true, if_false]
theorem init_e1 (h : r.Va) : f_Rule___init__ [some (.ref 0), some (.int r.need), some (.int r.of), some (.int r.base), some (.int r.more), some (.int r.most), some (.int r.calm), some (.str r.back.s), some (.int r.top), some (.int r.under), some (.bl r.up), some (.str r.hears.s), none] [.ins "Rule" [] []] =
      f_Rule___init___12 [some (.ref 0), some (.int r.need), some (.int r.of), some (.int r.base), some (.int r.more), some (.int r.most), some (.int r.calm), some (.str r.back.s), some (.int r.top), some (.int r.under), some (.bl r.up), some (.str r.hears.s), some .non] [.ins "Rule" [] []] :=
  init_gen (f := f_Rule___init___12) (Wn := F_wrong_number) (Ww := F_wrong_word) (wnum_ok h) (wword_ok h)
theorem init_e2 (h : r.Va) : f_Rule___init___1 [some (.ref 0), some (.int r.need), some (.int r.of), some (.int r.base), some (.int r.more), some (.int r.most), some (.int r.calm), some (.str r.back.s), some (.int r.top), some (.int r.under), some (.bl r.up), some (.str r.hears.s), some .non] [.ins "Rule" ["need", "of", "base", "more", "most", "calm", "back", "top", "under", "up", "hears"] r.args] =
      some (.nx [some (.ref 0), some (.int r.need), some (.int r.of), some (.int r.base), some (.int r.more), some (.int r.most), some (.int r.calm), some (.str r.back.s), some (.int r.top), some (.int r.under), some (.bl r.up), some (.str r.hears.s), some .non], [.ins "Rule" ruNames r.vals]) := by
  have hl : r.args.length < 1000 := by show 11 < 1000; decide
  have hv : r.args ++ [.int r.cap] = r.vals := rfl
  by_cases h0 : (r.more == 0) = true
  · have hc : r.cap = 1 := by rw [h.b2]; unfold capOf; rw [if_pos h0]
    simp only [f_Rule___init___1, sFldM, eIf, tVal, eOp, eVar, eC, List.getD_cons_zero, List.getD_cons_succ, pu_go, bd_go, eq_int, h0, if_true, List.getElem?_cons_zero, ru_c1, hl, and_self, init_cap, List.set_cons_zero, ← hc, hv]
  · have h0' : (r.more == 0) = false := by simpa using h0
    have h2 : r.more ≠ 0 := by simpa using h0
    have h3 := h.a4
    have h1 : 0 < r.more ∧ r.more < 1073741824 := ⟨by omega, h.b1⟩
    have hc : r.cap = 1 + (r.most - r.base + r.more - 1) / r.more := by rw [h.b2]; unfold capOf; rw [if_neg h0]
    simp only [f_Rule___init___1, sFldM, eIf, tVal, eOp, eVar, eC, List.getD_cons_zero, List.getD_cons_succ, pu_go, bd_go, eq_int, h0', Bool.false_eq_true, if_false, subD, addD, fdivD, if_pos h1, List.getElem?_cons_zero, ru_c1, hl, and_self, if_true, init_cap, List.set_cons_zero, ← hc, hv]
theorem init_ok (h : r.Va) : F_Rule___init__ (.ref 0 :: r.args) [.ins "Rule" [] []] = some (.non, [.ins "Rule" ruNames r.vals]) :=
  runM_nx (b := f_Rule___init__) (n := 13) (ds := .ref 0 :: r.args) (((init_e1 h).trans init_put).trans (init_e2 h)) rfl
theorem new_ok (h : r.Va) : pureC (newP "Rule" F_Rule___init__) m r.args = some r.d := by
  have hp : pureL r.args = true := rfl
  unfold pureC
  rw [if_pos hp]
  unfold newP
  rw [init_ok h]
  rfl
end
end L4
namespace L4
open PySem
def nS (i : Int) : Str := toString i
theorem w_str_i {m : M} {i : Int} (h0 : 0 ≤ i) (h1 : i < 100) : strT m [.int i] = some (.str (nS i)) := by
  have hz : i.natAbs.log2 < 1920 := by
    have : i.natAbs.log2 ≤ i.natAbs := Nat.log2_le_self _
    omega
  show (if i.natAbs.log2 < 1920 then some (D.str (toString i)) else none) = _
  rw [if_pos hz]
  rfl
def okN (o : Option D) (n : Nat) : Bool := match o with
  | some (.int i) => i == (n : Int)
  | _ => false
theorem okN_eq {o : Option D} {n : Nat} (h : okN o n = true) : o = some (.int n) := by
  unfold okN at h
  split at h
  · rw [eq_of_beq h]
  · cases h
theorem nin_tbl : ((List.range 100).all fun n => okN (F_number_in [.str (nS (n : Nat)), .int 2]) n) = true := by decide +kernel
theorem nsg_tbl : ((List.range 100).all fun n => !(nS (n : Nat)).cps.toList.contains 32 && !(nS (n : Nat)).cps.toList.contains 47 && decide ((nS (n : Nat)).cps.toList.length ≤ 2) && PyData.strOk (nS (n : Nat))) = true := by decide +kernel
theorem nin_ok {i : Int} (h0 : 0 ≤ i) (h1 : i < 100) : F_number_in [.str (nS i), .int 2] = some (.int i) := by
  obtain ⟨n, rfl⟩ := Int.eq_ofNat_of_zero_le h0
  have hn : n < 100 := by omega
  exact okN_eq (List.all_eq_true.mp nin_tbl n (List.mem_range.mpr hn))
structure NSg (i : Int) : Prop where
  b : 32 ∉ (nS i).cps.toList
  s : 47 ∉ (nS i).cps.toList
  l : (nS i).cps.toList.length ≤ 2
  ok : PyData.strOk (nS i) = true
theorem nsg_ok {i : Int} (h0 : 0 ≤ i) (h1 : i < 100) : NSg i := by
  obtain ⟨n, rfl⟩ := Int.eq_ofNat_of_zero_le h0
  have hn : n < 100 := by omega
  have h := List.all_eq_true.mp nsg_tbl n (List.mem_range.mpr hn)
  simp only [Bool.and_eq_true, Bool.not_eq_true', decide_eq_true_eq, List.contains_eq_mem, decide_eq_false_iff_not] at h
  obtain ⟨⟨⟨a, b⟩, c⟩, d⟩ := h
  exact ⟨a, b, c, d⟩
/-- small numbers for texts -/
structure Ru.Tn (r : Ru) : Prop where
  need : 0 ≤ r.need ∧ r.need < 100
  of : 0 ≤ r.of ∧ r.of < 100
  base : 0 ≤ r.base ∧ r.base < 100
  more : 0 ≤ r.more ∧ r.more < 100
  most : 0 ≤ r.most ∧ r.most < 100
  calm : 0 ≤ r.calm ∧ r.calm < 100
  top : 0 ≤ r.top ∧ r.top < 100
  under : 0 ≤ r.under ∧ r.under < 100
def upS (b : Bool) : Str := if b then "up" else "down"
def Ru.share (r : Ru) : Str := catS (catS (nS r.top) "/") (nS r.under)
def Ru.words (r : Ru) : List Str := ["leave", nS r.need, "of", nS r.of, "out", nS r.base, "more", nS r.more, "most", nS r.most, "calm", nS r.calm, "back", r.back.s, "share", r.share, upS r.up, "hears", r.hears.s]
def Ru.txt (r : Ru) : Str := joinT " " r.words
theorem one_blank : (" " : Str).cps.toList = [32] := by kernel_rfl
theorem one_slash : ("/" : Str).cps.toList = [47] := by kernel_rfl
section
variable {r : Ru} {m : M}
theorem nob_lit : 32 ∉ ("leave" : Str).cps.toList ∧ 32 ∉ ("of" : Str).cps.toList ∧ 32 ∉ ("out" : Str).cps.toList ∧ 32 ∉ ("more" : Str).cps.toList ∧ 32 ∉ ("most" : Str).cps.toList ∧ 32 ∉ ("calm" : Str).cps.toList ∧ 32 ∉ ("back" : Str).cps.toList ∧ 32 ∉ ("share" : Str).cps.toList ∧ 32 ∉ ("hears" : Str).cps.toList := by decide +kernel
theorem nob_back (b : Bk) : 32 ∉ b.s.cps.toList := by cases b <;> decide +kernel
theorem nob_hears (b : Hr) : 32 ∉ b.s.cps.toList := by cases b <;> decide +kernel
theorem nob_up (b : Bool) : 32 ∉ (upS b).cps.toList := by cases b <;> decide +kernel
theorem nob_share (h : r.Tn) : 32 ∉ r.share.cps.toList := by
  have h1 := (nsg_ok h.top.1 h.top.2).b
  have h2 := (nsg_ok h.under.1 h.under.2).b
  unfold Ru.share
  rw [catS_l, catS_l, one_slash]
  simp [h1, h2]
theorem words_nob (h : r.Tn) : ∀ w ∈ r.words, 32 ∉ w.cps.toList := by
  obtain ⟨n1, n2, n3, n4, n5, n6, n7, n8, n9⟩ := nob_lit
  intro w hw
  simp only [Ru.words, List.mem_cons, List.not_mem_nil, or_false] at hw
  rcases hw with rfl | rfl | rfl | rfl | rfl | rfl | rfl | rfl | rfl | rfl | rfl | rfl | rfl | rfl | rfl | rfl | rfl | rfl | rfl
  · exact n1
  · exact (nsg_ok h.need.1 h.need.2).b
  · exact n2
  · exact (nsg_ok h.of.1 h.of.2).b
  · exact n3
  · exact (nsg_ok h.base.1 h.base.2).b
  · exact n4
  · exact (nsg_ok h.more.1 h.more.2).b
  · exact n5
  · exact (nsg_ok h.most.1 h.most.2).b
  · exact n6
  · exact (nsg_ok h.calm.1 h.calm.2).b
  · exact n7
  · exact nob_back _
  · exact n8
  · exact nob_share h
  · exact nob_up _
  · exact n9
  · exact nob_hears _
theorem split_words (h : r.Tn) : splitS r.txt 32 = r.words := split_join one_blank (by simp [Ru.words]) (words_nob h)
theorem split_share (h : r.Tn) : splitS r.share 47 = [nS r.top, nS r.under] := by
  have e : r.share = joinT "/" [nS r.top, nS r.under] := str_ext (by
    unfold Ru.share
    rw [catS_l, catS_l, joinT_l]
    simp [TL.joinL])
  rw [e]
  refine split_join one_slash (by simp) fun w hw => ?_
  simp only [List.mem_cons, List.not_mem_nil, or_false] at hw
  rcases hw with rfl | rfl
  · exact (nsg_ok h.top.1 h.top.2).s
  · exact (nsg_ok h.under.1 h.under.2).s
theorem len_back (b : Bk) : b.s.length ≤ 5 := by cases b <;> decide +kernel
theorem len_hears (b : Hr) : b.s.length ≤ 5 := by cases b <;> decide +kernel
theorem len_up (b : Bool) : (upS b).length ≤ 4 := by cases b <;> decide +kernel
theorem len_lit : ("leave" : Str).length = 5 ∧ ("of" : Str).length = 2 ∧ ("out" : Str).length = 3 ∧ ("more" : Str).length = 4 ∧ ("most" : Str).length = 4 ∧ ("calm" : Str).length = 4 ∧ ("back" : Str).length = 4 ∧ ("share" : Str).length = 5 ∧ ("hears" : Str).length = 5 ∧ (" " : Str).length = 1 ∧ ("/" : Str).length = 1 := by decide +kernel
theorem len_nS {i : Int} (h : 0 ≤ i ∧ i < 100) : (nS i).length ≤ 2 := by rw [slen]; exact (nsg_ok h.1 h.2).l
theorem len_share (h : r.Tn) : r.share.length ≤ 5 := by
  have h1 := (nsg_ok h.top.1 h.top.2).l
  have h2 := (nsg_ok h.under.1 h.under.2).l
  rw [slen]
  unfold Ru.share
  rw [catS_l, catS_l, one_slash]
  simp only [List.length_append, List.length_singleton]
  generalize (nS r.top).cps.toList.length = x at *
  generalize (nS r.under).cps.toList.length = y at *
  omega
theorem sum19 {x1 x2 x3 x4 x5 x6 x7 x8 x9 x10 : Nat} (a1 : x1 ≤ 2) (a2 : x2 ≤ 2) (a3 : x3 ≤ 2) (a4 : x4 ≤ 2) (a5 : x5 ≤ 2) (a6 : x6 ≤ 2) (a7 : x7 ≤ 5) (a8 : x8 ≤ 5) (a9 : x9 ≤ 4) (b1 : x10 ≤ 5) : 5 + (x1 + (2 + (x2 + (3 + (x3 + (4 + (x4 + (4 + (x5 + (4 + (x6 + (4 + (x7 + (5 + (x8 + (x9 + (5 + (x10 + 0)))))))))))))))))) ≤ 90 := Nat.le_trans (Nat.add_le_add_left (Nat.add_le_add a1 (Nat.add_le_add_left (Nat.add_le_add a2 (Nat.add_le_add_left (Nat.add_le_add a3 (Nat.add_le_add_left (Nat.add_le_add a4 (Nat.add_le_add_left (Nat.add_le_add a5 (Nat.add_le_add_left (Nat.add_le_add a6 (Nat.add_le_add_left (Nat.add_le_add a7 (Nat.add_le_add_left (Nat.add_le_add a8 (Nat.add_le_add a9 (Nat.add_le_add_left (Nat.add_le_add b1 (Nat.le_refl 0)) _))) _)) _)) _)) _)) _)) _)) _)) _) (by decide)
theorem words_sum (h : r.Tn) : (r.words.map (·.length)).sum ≤ 90 := by
  obtain ⟨n1, n2, n3, n4, n5, n6, n7, n8, n9, n10, n11⟩ := len_lit
  simp only [Ru.words, List.map_cons, List.map_nil, List.sum_cons, List.sum_nil, n1, n2, n3, n4, n5, n6, n7, n8, n9]
  exact sum19 (len_nS h.need) (len_nS h.of) (len_nS h.base) (len_nS h.more) (len_nS h.most) (len_nS h.calm) (len_back r.back) (len_share h) (len_up r.up) (len_hears r.hears)
theorem txt_len (h : r.Tn) : r.txt.length ≤ 200 := by
  have h1 := joinL_len 32 (r.words.map fun y => y.cps.toList)
  have h2 := words_sum h
  rw [slen]
  unfold Ru.txt
  rw [joinT_l, one_blank]
  refine Nat.le_trans h1 ?_
  have e : ((r.words.map fun y => y.cps.toList).map fun w => w.length + 1) = r.words.map fun y => y.length + 1 := by
    rw [List.map_map]
    exact List.map_congr_left fun y _ => by simp [slen]
  rw [e]
  have e2 : ∀ l : List Str, (l.map fun y => y.length + 1).sum = (l.map (·.length)).sum + l.length := fun l => by
    induction l with
    | nil => rfl
    | cons a l ih => simp only [List.map_cons, List.sum_cons, ih, List.length_cons]; omega
  rw [e2]
  have e3 : r.words.length = 19 := rfl
  rw [e3]
  clear h1 e e2 e3
  generalize (r.words.map (·.length)).sum = x at *
  omega
theorem strOk_l (x : Str) : PyData.strOk x = x.cps.toList.all (· < 0x110000) := by
  cases x
  simp [PyData.strOk]
theorem strOk_cat {a b : Str} (ha : PyData.strOk a = true) (hb : PyData.strOk b = true) : PyData.strOk (catS a b) = true := by
  rw [strOk_l] at ha hb ⊢
  rw [catS_l, List.all_append, ha, hb]
  rfl
theorem ok_back (b : Bk) : PyData.strOk b.s = true := by cases b <;> decide +kernel
theorem ok_hears (b : Hr) : PyData.strOk b.s = true := by cases b <;> decide +kernel
theorem ok_up (b : Bool) : PyData.strOk (upS b) = true := by cases b <;> decide +kernel
theorem ok_lit : PyData.strOk "leave" = true ∧ PyData.strOk "of" = true ∧ PyData.strOk "out" = true ∧ PyData.strOk "more" = true ∧ PyData.strOk "most" = true ∧ PyData.strOk "calm" = true ∧ PyData.strOk "back" = true ∧ PyData.strOk "share" = true ∧ PyData.strOk "hears" = true ∧ PyData.strOk "/" = true := by decide +kernel
theorem words_strOk (h : r.Tn) : ∀ w ∈ r.words, PyData.strOk w = true := by
  obtain ⟨n1, n2, n3, n4, n5, n6, n7, n8, n9, n10⟩ := ok_lit
  intro w hw
  simp only [Ru.words, List.mem_cons, List.not_mem_nil, or_false] at hw
  rcases hw with rfl | rfl | rfl | rfl | rfl | rfl | rfl | rfl | rfl | rfl | rfl | rfl | rfl | rfl | rfl | rfl | rfl | rfl | rfl
  · exact n1
  · exact (nsg_ok h.need.1 h.need.2).ok
  · exact n2
  · exact (nsg_ok h.of.1 h.of.2).ok
  · exact n3
  · exact (nsg_ok h.base.1 h.base.2).ok
  · exact n4
  · exact (nsg_ok h.more.1 h.more.2).ok
  · exact n5
  · exact (nsg_ok h.most.1 h.most.2).ok
  · exact n6
  · exact (nsg_ok h.calm.1 h.calm.2).ok
  · exact n7
  · exact ok_back _
  · exact n8
  · exact strOk_cat (strOk_cat (nsg_ok h.top.1 h.top.2).ok n10) (nsg_ok h.under.1 h.under.2).ok
  · exact ok_up _
  · exact n9
  · exact ok_hears _
theorem pdL_strs : ∀ ws : List Str, pdL (ws.map D.str) = some (ws.map PyData.str)
  | [] => rfl
  | w :: ws => by rw [List.map_cons, pdL, pd, pdL_strs ws]; rfl
theorem pureL_strs : ∀ ws : List Str, pureL (ws.map D.str) = true
  | [] => rfl
  | w :: ws => by rw [List.map_cons, pureL, pureD, pureL_strs ws]; rfl
theorem lay_strs : ∀ ws : List Str, (∀ w ∈ ws, PyData.strOk w = true) → PyData.canLayAll0 (ws.map PyData.str) = true ∧ PyData.depthAll (ws.map PyData.str) ≤ 1
  | [], _ => ⟨rfl, by simp [PyData.depthAll]⟩
  | w :: ws, h => by
    obtain ⟨h1, h2⟩ := lay_strs ws fun u hu => h u (List.mem_cons_of_mem _ hu)
    have h3 := h w List.mem_cons_self
    refine ⟨by simp [PyData.canLayAll0, PyData.canLay0, h1, h3], ?_⟩
    simp only [List.map_cons, PyData.depthAll, PyData.depth]
    omega
theorem pdM_ls {ws : List Str} (h : ∀ w ∈ ws, PyData.strOk w = true) : pdM m (.lst (ws.map .str)) = some (.list (ws.map .str)) := by
  obtain ⟨h1, h2⟩ := lay_strs ws h
  have hd : (PyData.list (ws.map .str)).depth ≤ 64 := by simp only [PyData.depth]; omega
  exact pdM_pure (pureL_strs ws) (by rw [pd, pdL_strs]; rfl) (by simp [SeqAt.shaped, PyData.canLay0, h1, hd])
end
end L4
namespace L4
open PySem
section
variable {r : Ru} {m : M}
theorem pure1s {x : Str} : pureL [.str x] = true := rfl
theorem pure2si {x : Str} {i : Int} : pureL [.str x, .int i] = true := rfl
theorem pure1l {ws : List Str} : pureL [.lst (ws.map .str)] = true := by
  show (pureL (ws.map .str) && true) = true
  rw [pureL_strs]; rfl
theorem pureD_li {is : List Int} : pureD (.lst (is.map .int)) = true := pureL_ints is
theorem frz_p {x : D} (h : pureD x = true) : frz m x = some x := by unfold frz; rw [if_pos h]
theorem words_between_ok (a1 a2 a3 a4 a5 a6 a7 a8 : Str) (b : Bk) (h : Hr) : F_words_between [.lst ((["leave", a1, "of", a2, "out", a3, "more", a4, "most", a5, "calm", a6, "back", b.s, "share", a7, a8, "hears", h.s] : List Str).map .str)] = some (.lst ((["leave", a1, "of", a2, "out", a3, "more", a4, "most", a5, "calm", a6, "back", b.s, "share", a7, a8, "hears", h.s] : List Str).map .str)) := by
  have key : ∀ (b : Bk) (h : Hr), some (D.lst ((["leave", a1, "of", a2, "out", a3, "more", a4, "most", a5, "calm", a6, "back", b.s, "share", a7, a8, "hears", h.s] : List Str).map .str)) = F_words_between [.lst ((["leave", a1, "of", a2, "out", a3, "more", a4, "most", a5, "calm", a6, "back", b.s, "share", a7, a8, "hears", h.s] : List Str).map .str)] := by
    intro b h
    cases b <;> cases h <;> kernel_rfl
  exact (key b h).symm
theorem rounds_up (b : Bool) : tblGet tb_ROUNDS (.str (upS b)) = some (.bl b) ∧ (tb_ROUNDS.lookup (upS b)).isSome = true := by
  cases b <;> exact ⟨by kernel_rfl, by kernel_rfl⟩
theorem ne_words (h : r.Tn) : neD m (.lst (r.words.map .str)) (.lst (r.words.map .str)) = some (.bl false) := ne_same (pdM_ls (words_strOk h))
local macro_rules | `(tactic| trivial) => `(tactic| (repeat (first | with_reducible refine WS.seq ?_ | with_reducible refine WS.nx ?_ | with_reducible refine WS.rt ?_ | with_reducible refine WS.asg ?_ | with_reducible refine WS.drop ?_ | with_reducible refine WS.ret ?_ | with_reducible refine WS.nop ?_ | with_reducible refine WS.retN ?_ | with_reducible refine WS.brk ?_ | with_reducible refine WS.cont ?_ | with_reducible refine WS.sif ?_ | with_reducible refine WS.par ?_ | with_reducible refine WG.setA ?_ | with_reducible refine WE.c ?_ | with_reducible refine WE.op ?_ | with_reducible refine WE.call ?_ | with_reducible refine WE.callM ?_ | with_reducible refine WE.un ?_ | with_reducible refine WE.tup ?_ | with_reducible refine WE.lst ?_ | with_reducible refine WE.newL ?_ | with_reducible refine WE.eif ?_ | with_reducible refine WE.sl ?_ | with_reducible refine WE.isN ?_ | with_reducible refine WE.notN ?_ | with_reducible refine WE.not ?_ | with_reducible refine WE.and ?_ | with_reducible refine WE.or ?_ | with_reducible refine WE.app ?_ | with_reducible refine WE.tupR ?_ | with_reducible refine WE.lisR ?_ | with_reducible refine WE.m1 ?_ | with_reducible refine WE.tbl ?_ | with_reducible refine WE.tblNin ?_ | with_reducible refine WE.chain ?_ | with_reducible refine WE.fldF ?_ | with_reducible refine WE.mth ?_ | with_reducible refine WE.disp ?_ | with_reducible refine WE.dicC ?_ | with_reducible refine WP.nil ?_ | with_reducible refine WP.cons ?_ | with_reducible refine WE.upd ?_ | with_reducible refine WA.nil ?_ | with_reducible refine WA.cons ?_ | with_reducible refine WA.star ?_ | with_reducible refine WO.no ?_ | with_reducible refine WO.yes ?_ | with_reducible refine WT.val ?_ | with_reducible refine WT.and ?_ | with_reducible refine WT.or ?_ | with_reducible refine WT.not ?_ | with_reducible refine WT.tt ?_ | with_reducible refine WI.it ?_ | with_reducible refine Kn.add_i ?_ | with_reducible refine Kn.sub ?_ | with_reducible refine Kn.neg ?_ | with_reducible refine Kn.eq_i ?_ | with_reducible refine Kn.ne_i ?_ | with_reducible refine Kn.lt ?_ | with_reducible refine Kn.le ?_ | with_reducible refine Kn.gt ?_ | with_reducible refine Kn.ge ?_ | with_reducible refine Kn.int_i ?_ | with_reducible refine Kn.int_b ?_ | with_reducible refine Kn.abs ?_ | with_reducible refine Kn.min2 ?_ | with_reducible refine Kn.max2 ?_ | with_reducible refine Kn.len_t ?_ | with_reducible refine Kn.len_l ?_ | with_reducible refine Kn.len_s ?_ | with_reducible refine Kn.tup_t ?_ | with_reducible refine Kn.tup_l ?_ | with_reducible refine Kn.lis_t ?_ | with_reducible refine Kn.lis_l ?_ | with_reducible refine Kn.seq_t ?_ | with_reducible refine Kn.seq_l ?_ | with_reducible refine Kn.it_t ?_ | with_reducible refine Kn.it_l ?_ | with_reducible refine Kn.it_s ?_ | with_reducible refine Kn.str_s ?_ | with_reducible refine Kn.sl_t ?_ | with_reducible refine Kn.sl_l ?_ | with_reducible refine Kn.sl_rt ?_ | with_reducible refine Kn.ix_rt1 ?_ | with_reducible refine Kn.ix_rt2 ?_ | with_reducible refine Kn.kx_need ?_ | with_reducible refine Kn.kx_of ?_ | with_reducible refine Kn.kx_base ?_ | with_reducible refine Kn.kx_more ?_ | with_reducible refine Kn.kx_most ?_ | with_reducible refine Kn.kx_calm ?_ | with_reducible refine Kn.kx_back ?_ | with_reducible refine Kn.kx_under ?_ | with_reducible refine Kn.kx_top ?_ | with_reducible refine Kn.kx_up ?_ | with_reducible refine Kn.kx_hears ?_ | with_reducible refine Fld.need ?_ | with_reducible refine Fld.of ?_ | with_reducible refine Fld.base ?_ | with_reducible refine Fld.more ?_ | with_reducible refine Fld.most ?_ | with_reducible refine Fld.calm ?_ | with_reducible refine Fld.back ?_ | with_reducible refine Fld.top ?_ | with_reducible refine Fld.under ?_ | with_reducible refine Fld.up ?_ | with_reducible refine Fld.hears ?_ | with_reducible refine Fld.cap ?_ | with_reducible refine Mth.time ?_ | ((with_reducible refine WG.nm ?_); dsimp only [setMany, List.set_cons_succ, List.set_cons_zero]) | ((with_reducible refine WG.one ?_); dsimp only [setMany, List.set_cons_succ, List.set_cons_zero]) | ((with_reducible refine WG.tup ?_ ?_); exact rfl; dsimp only [setMany, List.set_cons_succ, List.set_cons_zero]) | ((with_reducible apply WE.var); exact rfl) | ((with_reducible apply WS.aug); exact rfl) | ((with_reducible apply WE.newPL); exact rfl) | ((with_reducible refine WS.ite_t ?_ ?_); exact rfl) | ((with_reducible refine WS.ite_f ?_ ?_); exact rfl) | ((with_reducible refine WE.ite_t ?_ ?_); exact rfl) | ((with_reducible refine WE.ite_f ?_ ?_); exact rfl) | ((with_reducible refine w_and_t ?_ ?_); exact rfl) | ((with_reducible refine w_and_f ?_ ?_); exact rfl) | ((with_reducible refine w_or_t ?_ ?_); exact rfl) | ((with_reducible refine w_or_f ?_ ?_); exact rfl) | ((with_reducible refine Kn.fdiv ?_ ?_); exact ⟨by decide, by decide⟩) | ((with_reducible refine Kn.mod ?_ ?_); decide) | ((with_reducible refine And.intro (a := (_ && _) = true) ?_ ?_); exact rfl) | ((with_reducible refine And.intro (a := List.length _ = List.length _) ?_ ?_); exact rfl; dsimp only [setMany, List.set_cons_succ, List.set_cons_zero]) | ((with_reducible refine ⟨wsz ?_, ?_⟩); first | decide | (show (_ : Nat) ≤ 1000; simp only [List.length_cons, List.length_nil]; decide)) | with_reducible refine ⟨_, rfl, ?_⟩)))
/-- a list of numbers that are written -/
theorem numbers_ok (is : List Int) (hl : is.length ≤ 100) (h : ∀ i ∈ is, 0 ≤ i ∧ i < 100) : F_numbers_in [.lst ((is.map nS).map .str)] = some (.lst (is.map .int)) := by
  refine WS.runP (n := 3) (b := f_numbers_in) ?_ rfl
  show WS _ [some (.lst ((is.map nS).map .str)), none, none] [] _
  trivial
  refine WE.lcM (fun i : Int => .str (nS i)) (fun i => .int i) (xs := is) ?_ (by omega) (fun i hi => ?_) ?_
  · trivial
    exact ⟨by rw [List.map_map]; rfl, rfl⟩
  · dsimp only [List.set_cons_succ, List.set_cons_zero]
    trivial
    refine Kn.call pure2si (nin_ok (h i hi).1 (h i hi).2) ?_
    exact ⟨rfl, rfl⟩
  · trivial
    refine Kn.mk in_non ?_
    trivial
    exact frz_p pureD_li
theorem share_ok (h : r.Tn) : F_share_in [.str r.share] = some (.lst (([r.top, r.under] : List Int).map .int)) := by
  have hs := len_share h
  refine WS.runP (n := 2) (b := f_share_in) ?_ rfl
  show WS _ [some (.str r.share), none] [] _
  trivial
  refine Kn.split one_slash (by decide) (wsz (by omega)) (split_share h) ?_
  trivial
  refine Kn.call (pure1l (ws := [nS r.top, nS r.under])) (numbers_ok [r.top, r.under] (by show 2 ≤ 100; decide) fun i hi => ?_) ?_
  · simp only [List.mem_cons, List.not_mem_nil, or_false] at hi
    rcases hi with rfl | rfl
    · exact h.top
    · exact h.under
  trivial
  exact frz_p pureD_li
theorem read_ok (h : r.Tn) (hv : r.Va) : F_Rule_read [.glo "Rule", .str r.txt] = some r.d := by
  have hs := txt_len h
  refine WS.runP (n := 9) (b := f_Rule_read) ?_ rfl
  show WS _ [some (.glo "Rule"), some (.str r.txt), none, none, none, none, none, none, none] [] _
  trivial
  refine Kn.split one_blank (by decide) (wsz (by omega)) (split_words h) ?_
  trivial
  refine WE.lcM (fun i : Nat => .int (i : Nat)) (fun i => .str (r.words.getD i "")) (xs := [1, 3, 5, 7, 9, 11]) ?_ (by show 6 ≤ 1000000; decide) (fun i hi => ?_) ?_
  · trivial
    exact ⟨rfl, rfl⟩
  · dsimp only [List.set_cons_succ, List.set_cons_zero]
    trivial
    simp only [List.mem_cons, List.not_mem_nil, or_false] at hi
    rcases hi with rfl | rfl | rfl | rfl | rfl | rfl <;> exact Kn.ix_l rfl ⟨rfl, rfl⟩
  trivial
  refine Kn.call (pure1l (ws := ([1, 3, 5, 7, 9, 11] : List Nat).map fun i => r.words.getD i "")) (numbers_ok [r.need, r.of, r.base, r.more, r.most, r.calm] (by show 6 ≤ 100; decide) fun i hi => ?_) ?_
  · simp only [List.mem_cons, List.not_mem_nil, or_false] at hi
    rcases hi with rfl | rfl | rfl | rfl | rfl | rfl
    · exact h.need
    · exact h.of
    · exact h.base
    · exact h.more
    · exact h.most
    · exact h.calm
  trivial
  refine Kn.ix_l (i := 15) (d := .str r.share) rfl ?_
  trivial
  refine Kn.call pure1s (share_ok h) ?_
  trivial
  refine Kn.ix_l (i := 16) (d := .str (upS r.up)) rfl ?_
  trivial
  rw [(rounds_up r.up).2]
  trivial
  refine Kn.call (pure1l (ws := r.words)) (words_between_ok _ _ _ _ _ _ _ _ r.back r.hears) ?_
  refine Kn.mk (ne_words h) ?_
  trivial
  refine Kn.ix_l (i := 13) (d := .str r.back.s) rfl ?_
  trivial
  refine Kn.ix_l (i := 16) (d := .str (upS r.up)) rfl ?_
  refine Kn.mk (rounds_up r.up).1 ?_
  trivial
  refine Kn.ix_l (i := 18) (d := .str r.hears.s) rfl ?_
  trivial
  refine Kn.mk (new_ok hv) ?_
  trivial
  exact frz_p ru_pure
end
end L4
namespace L4
open PySem
structure BX (n : Nat) (m0 m : M) : Prop where
  at_ : ∃ a b c : Int, m[n]? = some (.lst [.int a, .int b, .int c]) ∧ 0 ≤ a
  le : m0.length ≤ m.length
  fr : ∀ i, i < m0.length → i ≠ n → m[i]? = m0[i]?
  ni : noIns m = true
def okO : O → Bool
  | .ins _ _ _ => false
  | _ => true
theorem noIns_eq (m : M) : noIns m = m.all okO := by
  unfold noIns
  congr 1
  try (funext o; cases o <;> rfl)
theorem noIns_more {m k : M} (h : noIns m = true) (hk : k.all okO = true) : noIns (m ++ k) = true := by
  rw [noIns_eq] at h ⊢
  rw [List.all_append, h, hk]; try rfl
theorem all_set : ∀ {m : M} {i : Nat} {o : O}, m.all okO = true → okO o = true → (m.set i o).all okO = true
  | [], _, _, h, _ => h
  | x :: m, 0, o, h, ho => by
    rw [List.set_cons_zero, List.all_cons, ho]
    rw [List.all_cons] at h
    exact (and2 h).2
  | x :: m, i + 1, o, h, ho => by
    rw [List.all_cons] at h
    rw [List.set_cons_succ, List.all_cons, (and2 h).1, all_set (and2 h).2 ho]
    rfl
theorem noIns_set {m : M} {i : Nat} {o : O} (h : noIns m = true) (ho : okO o = true) : noIns (m.set i o) = true := by
  rw [noIns_eq] at h ⊢
  exact all_set h ho
section
variable {m m0 : M} {n : Nat} {Q : D → M → Prop}
theorem BX.lt (h : BX n m0 m) : n < m.length := by obtain ⟨a, b, c, h, _⟩ := h.at_; exact (List.getElem?_eq_some_iff.mp h).1
theorem BX.refl (h : BX n m0 m) : BX n m m := ⟨h.at_, Nat.le_refl _, fun _ _ _ => rfl, h.ni⟩
theorem BX.trans {m1 m2 : M} (h : BX n m0 m1) (k : BX n m1 m2) : BX n m0 m2 := ⟨k.at_, Nat.le_trans h.le k.le, fun i h1 h2 => (k.fr i (Nat.lt_of_lt_of_le h1 h.le) h2).trans (h.fr i h1 h2), k.ni⟩
theorem BX.more (h : BX n m0 m) (k : M) (hk : k.all okO = true) : BX n m0 (m ++ k) := by
  obtain ⟨a, b, c, h1, h2⟩ := h.at_
  exact ⟨⟨a, b, c, by rw [List.getElem?_append_left h.lt]; exact h1, h2⟩, by have := h.le; simp; omega, fun i h3 h4 => by rw [List.getElem?_append_left (Nat.lt_of_lt_of_le h3 h.le)]; exact h.fr i h3 h4, noIns_more h.ni hk⟩
theorem BX.set (h : BX n m0 m) {i : Nat} (o : O) (h0 : i ≠ n) (h1 : m0.length ≤ i) (ho : okO o = true := by rfl) : BX n m0 (m.set i o) := by
  obtain ⟨a, b, c, h2, h3⟩ := h.at_
  exact ⟨⟨a, b, c, by rw [List.getElem?_set_ne h0]; exact h2, h3⟩, by simp; exact h.le, fun j h4 h5 => by rw [List.getElem?_set_ne (by omega)]; exact h.fr j h4 h5, noIns_set h.ni ho⟩
theorem ixr_0 {a b c : D} (h : m[n]? = some (.lst [a, b, c])) : ixA m (.ref n) (.int 0) = some a := by rw [ixA_ref h]; exact L2.atI_nat (j := 0) rfl
theorem ixr_1 {a b c : D} (h : m[n]? = some (.lst [a, b, c])) : ixA m (.ref n) (.int 1) = some b := by rw [ixA_ref h]; exact L2.atI_nat (j := 1) rfl
theorem ixr_2 {a b c : D} (h : m[n]? = some (.lst [a, b, c])) : ixA m (.ref n) (.int 2) = some c := by rw [ixA_ref h]; exact L2.atI_nat (j := 2) rfl
theorem setr {a b c x : D} (h : m[n]? = some (.lst [a, b, c])) : setM m (.ref n) (.int 0) x = some (m.set n (.lst [x, b, c])) ∧ setM m (.ref n) (.int 1) x = some (m.set n (.lst [a, x, c])) ∧ setM m (.ref n) (.int 2) x = some (m.set n (.lst [a, b, x])) := by
  have key : ∀ (i : Int) (o : O), setO (.lst [a, b, c]) (.int i) x = some o → setM m (.ref n) (.int i) x = some (m.set n o) := fun i o e => by
    show ((m[n]?).bind fun o => setO o (.int i) x).map (fun o => m.set n o) = _
    rw [h]
    show (setO (.lst [a, b, c]) (.int i) x).map (fun o => m.set n o) = _
    rw [e]
    rfl
  exact ⟨key 0 _ rfl, key 1 _ rfl, key 2 _ rfl⟩
theorem set_at {o o' : O} (h : m[n]? = some o) : (m.set n o')[n]? = some o' := List.getElem?_set_self (List.getElem?_eq_some_iff.mp h).1
theorem mlt : (-(2 ^ 64) < (2147483647 : Int) ∧ (2147483647 : Int) < 2 ^ 64) := by decide
local macro_rules | `(tactic| trivial) => `(tactic| (repeat (first | with_reducible refine WS.seq ?_ | with_reducible refine WS.nx ?_ | with_reducible refine WS.rt ?_ | with_reducible refine WS.asg ?_ | with_reducible refine WS.drop ?_ | with_reducible refine WS.ret ?_ | with_reducible refine WS.nop ?_ | with_reducible refine WS.retN ?_ | with_reducible refine WS.brk ?_ | with_reducible refine WS.cont ?_ | with_reducible refine WS.sif ?_ | with_reducible refine WS.par ?_ | with_reducible refine WG.setA ?_ | with_reducible refine WE.c ?_ | with_reducible refine WE.op ?_ | with_reducible refine WE.call ?_ | with_reducible refine WE.callM ?_ | with_reducible refine WE.un ?_ | with_reducible refine WE.tup ?_ | with_reducible refine WE.lst ?_ | with_reducible refine WE.newL ?_ | with_reducible refine WE.eif ?_ | with_reducible refine WE.sl ?_ | with_reducible refine WE.isN ?_ | with_reducible refine WE.notN ?_ | with_reducible refine WE.not ?_ | with_reducible refine WE.and ?_ | with_reducible refine WE.or ?_ | with_reducible refine WE.app ?_ | with_reducible refine WE.tupR ?_ | with_reducible refine WE.lisR ?_ | with_reducible refine WE.m1 ?_ | with_reducible refine WE.tbl ?_ | with_reducible refine WE.tblNin ?_ | with_reducible refine WE.chain ?_ | with_reducible refine WE.fldF ?_ | with_reducible refine WE.mth ?_ | with_reducible refine WE.disp ?_ | with_reducible refine WE.dicC ?_ | with_reducible refine WP.nil ?_ | with_reducible refine WP.cons ?_ | with_reducible refine WE.upd ?_ | with_reducible refine WA.nil ?_ | with_reducible refine WA.cons ?_ | with_reducible refine WA.star ?_ | with_reducible refine WO.no ?_ | with_reducible refine WO.yes ?_ | with_reducible refine WT.val ?_ | with_reducible refine WT.and ?_ | with_reducible refine WT.or ?_ | with_reducible refine WT.not ?_ | with_reducible refine WT.tt ?_ | with_reducible refine WI.it ?_ | with_reducible refine Kn.add_i ?_ | with_reducible refine Kn.sub ?_ | with_reducible refine Kn.neg ?_ | with_reducible refine Kn.eq_i ?_ | with_reducible refine Kn.ne_i ?_ | with_reducible refine Kn.lt ?_ | with_reducible refine Kn.le ?_ | with_reducible refine Kn.gt ?_ | with_reducible refine Kn.ge ?_ | with_reducible refine Kn.int_i ?_ | with_reducible refine Kn.int_b ?_ | with_reducible refine Kn.abs ?_ | with_reducible refine Kn.min2 ?_ | with_reducible refine Kn.max2 ?_ | with_reducible refine Kn.len_t ?_ | with_reducible refine Kn.len_l ?_ | with_reducible refine Kn.len_s ?_ | with_reducible refine Kn.tup_t ?_ | with_reducible refine Kn.tup_l ?_ | with_reducible refine Kn.lis_t ?_ | with_reducible refine Kn.lis_l ?_ | with_reducible refine Kn.seq_t ?_ | with_reducible refine Kn.seq_l ?_ | with_reducible refine Kn.it_t ?_ | with_reducible refine Kn.it_l ?_ | with_reducible refine Kn.it_s ?_ | with_reducible refine Kn.str_s ?_ | with_reducible refine Kn.sl_t ?_ | with_reducible refine Kn.sl_l ?_ | with_reducible refine Kn.sl_rt ?_ | with_reducible refine Kn.ix_rt1 ?_ | with_reducible refine Kn.ix_rt2 ?_ | with_reducible refine Kn.kx_need ?_ | with_reducible refine Kn.kx_of ?_ | with_reducible refine Kn.kx_base ?_ | with_reducible refine Kn.kx_more ?_ | with_reducible refine Kn.kx_most ?_ | with_reducible refine Kn.kx_calm ?_ | with_reducible refine Kn.kx_back ?_ | with_reducible refine Kn.kx_under ?_ | with_reducible refine Kn.kx_top ?_ | with_reducible refine Kn.kx_up ?_ | with_reducible refine Kn.kx_hears ?_ | with_reducible refine Fld.need ?_ | with_reducible refine Fld.of ?_ | with_reducible refine Fld.base ?_ | with_reducible refine Fld.more ?_ | with_reducible refine Fld.most ?_ | with_reducible refine Fld.calm ?_ | with_reducible refine Fld.back ?_ | with_reducible refine Fld.top ?_ | with_reducible refine Fld.under ?_ | with_reducible refine Fld.up ?_ | with_reducible refine Fld.hears ?_ | with_reducible refine Fld.cap ?_ | with_reducible refine Mth.time ?_ | ((with_reducible refine WG.nm ?_); dsimp only [setMany, List.set_cons_succ, List.set_cons_zero]) | ((with_reducible refine WG.one ?_); dsimp only [setMany, List.set_cons_succ, List.set_cons_zero]) | ((with_reducible refine WG.tup ?_ ?_); exact rfl; dsimp only [setMany, List.set_cons_succ, List.set_cons_zero]) | ((with_reducible apply WE.var); exact rfl) | ((with_reducible apply WS.aug); exact rfl) | ((with_reducible apply WE.newPL); exact rfl) | ((with_reducible refine WS.ite_t ?_ ?_); exact rfl) | ((with_reducible refine WS.ite_f ?_ ?_); exact rfl) | ((with_reducible refine WE.ite_t ?_ ?_); exact rfl) | ((with_reducible refine WE.ite_f ?_ ?_); exact rfl) | ((with_reducible refine w_and_t ?_ ?_); exact rfl) | ((with_reducible refine w_and_f ?_ ?_); exact rfl) | ((with_reducible refine w_or_t ?_ ?_); exact rfl) | ((with_reducible refine w_or_f ?_ ?_); exact rfl) | ((with_reducible refine Kn.fdiv ?_ ?_); exact ⟨by decide, by decide⟩) | ((with_reducible refine Kn.mod ?_ ?_); decide) | ((with_reducible refine And.intro (a := (_ && _) = true) ?_ ?_); exact rfl) | ((with_reducible refine And.intro (a := List.length _ = List.length _) ?_ ?_); exact rfl; dsimp only [setMany, List.set_cons_succ, List.set_cons_zero]) | ((with_reducible refine ⟨wsz ?_, ?_⟩); first | decide | (show (_ : Nat) ≤ 1000; simp only [List.length_cons, List.length_nil]; decide)) | with_reducible refine ⟨_, rfl, ?_⟩)))
theorem take_b (h : BX n m0 m) {k : Int} (h1 : 1 ≤ k) (h2 : k < 1073741824) (q : ∀ (r : Int) m', 0 ≤ r → r < k → BX n m0 m' → Q (.int r) m') : Wr (F__law_take [.ref n, .int k] m) Q := by
  obtain ⟨a, b, c, h3, h4⟩ := h.at_
  have hn := h.lt
  have hle := h.le
  refine WS.runM (b := f__law_take) (n := 4) ?_ rfl
  show WS _ [some (.ref n), some (.int k), none, none] m _
  unfold f__law_take
  trivial
  refine Kn.mk (ixr_0 h3) ?_
  trivial
  cases hd : decide (0 < a)
  · trivial
    unfold f__law_take_5
    trivial
    refine Kn.mk (ixr_2 h3) ?_
    trivial
    refine Kn.mk (setr h3).2.2 ?_
    have e1 := set_at (o' := .lst [.int a, .int b, .int (c + 1)]) h3
    trivial
    unfold f__law_take_4
    trivial
    refine Kn.mk (ixr_1 e1) ?_
    trivial
    refine Kn.mk (ixr_2 e1) ?_
    refine Kn.mul_i (.inl (by decide)) ?_
    trivial
    refine Kn.mul_i (.inr (by decide)) ?_
    trivial
    unfold f__law_take_3
    trivial
    refine Kn.mul_i (.inr (by decide)) ?_
    trivial
    refine Kn.mk (setr e1).2.1 ?_
    generalize hx : ((((b + 98641 * (c + 1)) * 70381) % 2147483647) * 46021 + 28051) % 2147483629 + 1 = x
    have e2 := set_at (o' := .lst [.int a, .int x, .int (c + 1)]) e1
    trivial
    unfold f__law_take_2
    trivial
    refine Kn.mul_i (.inr mlt) ?_
    trivial
    refine Kn.mk (ixr_1 e2) ?_
    trivial
    refine Kn.mod (by omega) ?_
    trivial
    refine .inl ⟨_, rfl, q _ _ (Int.emod_nonneg _ (by omega)) (Int.emod_lt_of_pos _ (by omega)) ⟨⟨a, x, c + 1, e2, h4⟩, by simp; exact hle, fun i h5 h6 => ?_, noIns_set (noIns_set h.ni rfl) rfl⟩⟩
    rw [List.getElem?_set_ne (Ne.symm h6), List.getElem?_set_ne (Ne.symm h6)]
    exact h.fr i h5 h6
  · trivial
    refine Kn.mk (ixr_0 h3) ?_
    trivial
    refine Kn.mod (by omega) ?_
    trivial
    unfold f__law_take_1
    trivial
    refine Kn.mk (ixr_0 h3) ?_
    trivial
    refine Kn.fdiv ⟨by omega, h2⟩ ?_
    trivial
    refine Kn.mk (setr h3).1 ?_
    trivial
    refine .inl ⟨_, rfl, q _ _ (Int.emod_nonneg _ (by omega)) (Int.emod_lt_of_pos _ (by omega)) ⟨⟨a / k, b, c, set_at h3, Int.ediv_nonneg h4 (by omega)⟩, by simp; exact hle, fun i h5 h6 => ?_, noIns_set h.ni rfl⟩⟩
    rw [List.getElem?_set_ne (Ne.symm h6)]
    exact h.fr i h5 h6
theorem pick_b (h : BX n m0 m) {ds : List D} (h1 : 1 ≤ ds.length) (h2 : ds.length < 1000) (q : ∀ d m', d ∈ ds → BX n m0 m' → Q d m') : Wr (F__law_pick [.ref n, .lst ds] m) Q := by
  refine WS.runM (b := f__law_pick) (n := 2) ?_ rfl
  show WS _ [some (.ref n), some (.lst ds)] m _
  trivial
  refine take_b h (by omega) (by omega) fun r m1 a b h1 => ?_
  have hr : r.toNat < ds.length := by omega
  have e2 : ((r.toNat : Nat) : Int) = r := by omega
  rw [← e2]
  refine Kn.ix_l (List.getElem?_eq_getElem hr) ?_
  exact .inl ⟨_, rfl, q _ _ (List.getElem_mem hr) h1⟩
theorem take_bd (h : BX n m0 m) {d : Nat} {o : O} (hd : m[d]? = some o) (dn : d ≠ n) {k : Int} (h1 : 1 ≤ k) (h2 : k < 1073741824) (q : ∀ (r : Int) m', 0 ≤ r → r < k → BX n m0 m' → m'[d]? = some o → Q (.int r) m') : Wr (F__law_take [.ref n, .int k] m) Q :=
  take_b h.refl h1 h2 fun r m' a b h3 => q r m' a b (h.trans h3) ((h3.fr d (List.getElem?_eq_some_iff.mp hd).1 dn).trans hd)
theorem pick_bd (h : BX n m0 m) {d : Nat} {o : O} (hd : m[d]? = some o) (dn : d ≠ n) {ds : List D} (h1 : 1 ≤ ds.length) (h2 : ds.length < 1000) (q : ∀ e m', e ∈ ds → BX n m0 m' → m'[d]? = some o → Q e m') : Wr (F__law_pick [.ref n, .lst ds] m) Q :=
  pick_b h.refl h1 h2 fun e m' a h3 => q e m' a (h.trans h3) ((h3.fr d (List.getElem?_eq_some_iff.mp hd).1 dn).trans hd)
end
end L4
namespace L4
open PySem
abbrev rK : List D := [.str "need", .str "of", .str "base", .str "more", .str "most", .str "calm", .str "back", .str "under", .str "top", .str "up", .str "hears"]
def Ru.kv (r : Ru) : List D := [.int r.need, .int r.of, .int r.base, .int r.more, .int r.most, .int r.calm, .str r.back.s, .int r.under, .int r.top, .bl r.up, .str r.hears.s]
def Ru.k (r : Ru) : D := .dic rK r.kv
/-- what a law draws -/
structure Ru.Wd (r : Ru) (size long calms : Int) : Prop where
  a1 : 1 ≤ r.need
  a2 : r.need ≤ r.of
  a3 : r.of ≤ size
  b1 : 1 ≤ r.base
  b2 : r.base ≤ r.most
  b3 : r.most ≤ long
  m1 : 0 ≤ r.more
  m2 : r.more ≤ 9
  c1 : 0 ≤ r.calm
  c2 : r.calm ≤ calms
  t1 : 0 ≤ r.top
  t2 : r.top ≤ r.under
  u1 : 1 ≤ r.under
  u2 : r.under ≤ 20
  cap : r.cap = capOf r.base r.more r.most
section
variable {m m0 : M} {n d : Nat} {Q : D → M → Prop}
theorem Ru.Wd.va {r : Ru} {s l c : Int} (h : r.Wd s l c) : r.Va := ⟨h.a1, h.a2, h.b1, h.m1, h.b2, h.c1, h.t1, h.u1, h.t2, by have := h.m2; omega, h.cap⟩
theorem Ru.Wd.tn {r : Ru} {s l c : Int} (h : r.Wd s l c) (hs : s ≤ 90) (hl : l ≤ 90) (hc : c ≤ 90) : r.Tn := by
  obtain ⟨a1, a2, a3, b1, b2, b3, m1, m2, c1, c2, t1, t2, u1, u2, _⟩ := h
  exact ⟨by omega, by omega, by omega, by omega, by omega, by omega, by omega, by omega⟩
theorem ix_dr {ks vs : List D} {y x : D} (h : m[d]? = some (.dic ks vs)) (e : (if headOk ks y then dGet ks vs y else none) = some x) : ixA m (.ref d) y = some x := by
  have e1 : dicOf m (.ref d) = some (ks, vs) := by
    show (m[d]?).bind dicO = _
    rw [h]; rfl
  unfold ixA
  rw [e1]
  exact e
theorem put_dr {ks vs ks2 vs2 : List D} {y x : D} (h : m[d]? = some (.dic ks vs)) (e : setO (.dic ks vs) y x = some (.dic ks2 vs2)) : setM m (.ref d) y x = some (m.set d (.dic ks2 vs2)) := by
  show ((m[d]?).bind fun o => setO o y x).map (fun o => m.set d o) = _
  rw [h]
  show (setO (.dic ks vs) y x).map (fun o => m.set d o) = _
  rw [e]
  rfl
theorem p_more {a b c x : D} : setO (.dic [.str "need", .str "of", .str "base"] [a, b, c]) (.str "more") x = some (.dic [.str "need", .str "of", .str "base", .str "more"] [a, b, c, x]) := by kernel_rfl
theorem p_most {a b c e x : D} : setO (.dic [.str "need", .str "of", .str "base", .str "more"] [a, b, c, e]) (.str "most") x = some (.dic [.str "need", .str "of", .str "base", .str "more", .str "most"] [a, b, c, e, x]) := by kernel_rfl
theorem p_under {a b c e f g h x : D} : setO (.dic [.str "need", .str "of", .str "base", .str "more", .str "most", .str "calm", .str "back"] [a, b, c, e, f, g, h]) (.str "under") x = some (.dic [.str "need", .str "of", .str "base", .str "more", .str "most", .str "calm", .str "back", .str "under"] [a, b, c, e, f, g, h, x]) := by kernel_rfl
theorem p_top {a b c e f g h i x : D} : setO (.dic [.str "need", .str "of", .str "base", .str "more", .str "most", .str "calm", .str "back", .str "under"] [a, b, c, e, f, g, h, i]) (.str "top") x = some (.dic [.str "need", .str "of", .str "base", .str "more", .str "most", .str "calm", .str "back", .str "under", .str "top"] [a, b, c, e, f, g, h, i, x]) := by kernel_rfl
theorem g_base4 {a b c e : D} : (if headOk [.str "need", .str "of", .str "base", .str "more"] (.str "base") then dGet [.str "need", .str "of", .str "base", .str "more"] [a, b, c, e] (.str "base") else none) = some c := by kernel_rfl
theorem g_under8 {a b c e f g h i : D} : (if headOk [.str "need", .str "of", .str "base", .str "more", .str "most", .str "calm", .str "back", .str "under"] (.str "under") then dGet [.str "need", .str "of", .str "base", .str "more", .str "most", .str "calm", .str "back", .str "under"] [a, b, c, e, f, g, h, i] (.str "under") else none) = some i := by kernel_rfl
theorem mg3 {a b c : D} : mergeD [(.str "need", a), (.str "of", b), (.str "base", c)] ([], []) = ([.str "need", .str "of", .str "base"], [a, b, c]) := by kernel_rfl
theorem mg2a {a b : D} : mergeD [(.str "calm", a), (.str "back", b)] ([], []) = ([.str "calm", .str "back"], [a, b]) := by kernel_rfl
theorem mg2b {a b : D} : mergeD [(.str "up", a), (.str "hears", b)] ([], []) = ([.str "up", .str "hears"], [a, b]) := by kernel_rfl
theorem mg7 {a b c e f g h : D} : mergeD (([.str "calm", .str "back"] : List D).zip [g, h]) ([.str "need", .str "of", .str "base", .str "more", .str "most"], [a, b, c, e, f]) = ([.str "need", .str "of", .str "base", .str "more", .str "most", .str "calm", .str "back"], [a, b, c, e, f, g, h]) := by kernel_rfl
theorem mg11 {a b c e f g h i j k l : D} : mergeD (([.str "up", .str "hears"] : List D).zip [k, l]) ([.str "need", .str "of", .str "base", .str "more", .str "most", .str "calm", .str "back", .str "under", .str "top"], [a, b, c, e, f, g, h, i, j]) = (rK, [a, b, c, e, f, g, h, i, j, k, l]) := by kernel_rfl
theorem fl5 : flatL [.str "need", .str "of", .str "base", .str "more", .str "most"] = true := rfl
theorem fl9 : flatL [.str "need", .str "of", .str "base", .str "more", .str "most", .str "calm", .str "back", .str "under", .str "top"] = true := rfl
theorem okU {ks ks2 vs2 : List D} (h1 : flatL ks = true) (h2 : flatL ks2 = true) (h3 : ks.length + ks2.length ≤ 1000) (h4 : ks2.length = vs2.length) : (flatL ks && flatL ks2 && decide (ks.length + ks2.length ≤ sizeLine) && decide (ks2.length = vs2.length)) = true := by
  simp only [h1, h2, Bool.true_and, Bool.and_eq_true, decide_eq_true_eq]
  exact ⟨wsz h3, h4⟩
theorem hr_b {d : D} (h : d ∈ ([.str "fault", .str "no", .str "out"] : List D)) : ∃ b : Hr, d = .str b.s := by
  simp only [List.mem_cons, List.not_mem_nil, or_false] at h
  rcases h with rfl | rfl | rfl
  · exact ⟨.fault, rfl⟩
  · exact ⟨.no, rfl⟩
  · exact ⟨.out, rfl⟩
theorem bk_b {d : D} (h : d ∈ ([.str "half", .str "open", .str "trial"] : List D)) : ∃ b : Bk, d = .str b.s := by
  simp only [List.mem_cons, List.not_mem_nil, or_false] at h
  rcases h with rfl | rfl | rfl
  · exact ⟨.half, rfl⟩
  · exact ⟨.opn, rfl⟩
  · exact ⟨.trial, rfl⟩
theorem more_b {d : D} (h : d ∈ ([.int 0, .int 1, .int 2, .int 1, .int 0, .int 5, .int 9] : List D)) : ∃ i : Int, d = .int i ∧ 0 ≤ i ∧ i ≤ 9 := by
  simp only [List.mem_cons, List.not_mem_nil, or_false] at h
  rcases h with rfl | rfl | rfl | rfl | rfl | rfl | rfl <;> exact ⟨_, rfl, by decide, by decide⟩
theorem pow18b : powD m (.int 10) (.int 18) = some (.int (10 ^ 18)) := by kernel_rfl
theorem ix_scr {ds : List D} {i : Nat} {x : D} (h : ds[i]? = some x) : ixA m (.scr ds) (.int (i : Nat)) = some x := by
  rw [ixA_scr]
  exact L2.atI_nat h
local macro_rules | `(tactic| trivial) => `(tactic| (repeat (first | with_reducible refine WS.seq ?_ | with_reducible refine WS.nx ?_ | with_reducible refine WS.rt ?_ | with_reducible refine WS.asg ?_ | with_reducible refine WS.drop ?_ | with_reducible refine WS.ret ?_ | with_reducible refine WS.nop ?_ | with_reducible refine WS.retN ?_ | with_reducible refine WS.brk ?_ | with_reducible refine WS.cont ?_ | with_reducible refine WS.sif ?_ | with_reducible refine WS.par ?_ | with_reducible refine WG.setA ?_ | with_reducible refine WE.c ?_ | with_reducible refine WE.op ?_ | with_reducible refine WE.call ?_ | with_reducible refine WE.callM ?_ | with_reducible refine WE.un ?_ | with_reducible refine WE.tup ?_ | with_reducible refine WE.lst ?_ | with_reducible refine WE.newL ?_ | with_reducible refine WE.eif ?_ | with_reducible refine WE.sl ?_ | with_reducible refine WE.isN ?_ | with_reducible refine WE.notN ?_ | with_reducible refine WE.not ?_ | with_reducible refine WE.and ?_ | with_reducible refine WE.or ?_ | with_reducible refine WE.app ?_ | with_reducible refine WE.tupR ?_ | with_reducible refine WE.lisR ?_ | with_reducible refine WE.m1 ?_ | with_reducible refine WE.tbl ?_ | with_reducible refine WE.tblNin ?_ | with_reducible refine WE.chain ?_ | with_reducible refine WE.fldF ?_ | with_reducible refine WE.mth ?_ | with_reducible refine WE.disp ?_ | with_reducible refine WE.dicC ?_ | with_reducible refine WP.nil ?_ | with_reducible refine WP.cons ?_ | with_reducible refine WE.upd ?_ | with_reducible refine WA.nil ?_ | with_reducible refine WA.cons ?_ | with_reducible refine WA.star ?_ | with_reducible refine WO.no ?_ | with_reducible refine WO.yes ?_ | with_reducible refine WT.val ?_ | with_reducible refine WT.and ?_ | with_reducible refine WT.or ?_ | with_reducible refine WT.not ?_ | with_reducible refine WT.tt ?_ | with_reducible refine WI.it ?_ | with_reducible refine Kn.add_i ?_ | with_reducible refine Kn.sub ?_ | with_reducible refine Kn.neg ?_ | with_reducible refine Kn.eq_i ?_ | with_reducible refine Kn.ne_i ?_ | with_reducible refine Kn.lt ?_ | with_reducible refine Kn.le ?_ | with_reducible refine Kn.gt ?_ | with_reducible refine Kn.ge ?_ | with_reducible refine Kn.int_i ?_ | with_reducible refine Kn.int_b ?_ | with_reducible refine Kn.abs ?_ | with_reducible refine Kn.min2 ?_ | with_reducible refine Kn.max2 ?_ | with_reducible refine Kn.len_t ?_ | with_reducible refine Kn.len_l ?_ | with_reducible refine Kn.len_s ?_ | with_reducible refine Kn.tup_t ?_ | with_reducible refine Kn.tup_l ?_ | with_reducible refine Kn.lis_t ?_ | with_reducible refine Kn.lis_l ?_ | with_reducible refine Kn.seq_t ?_ | with_reducible refine Kn.seq_l ?_ | with_reducible refine Kn.it_t ?_ | with_reducible refine Kn.it_l ?_ | with_reducible refine Kn.it_s ?_ | with_reducible refine Kn.str_s ?_ | with_reducible refine Kn.sl_t ?_ | with_reducible refine Kn.sl_l ?_ | with_reducible refine Kn.sl_rt ?_ | with_reducible refine Kn.ix_rt1 ?_ | with_reducible refine Kn.ix_rt2 ?_ | with_reducible refine Kn.kx_need ?_ | with_reducible refine Kn.kx_of ?_ | with_reducible refine Kn.kx_base ?_ | with_reducible refine Kn.kx_more ?_ | with_reducible refine Kn.kx_most ?_ | with_reducible refine Kn.kx_calm ?_ | with_reducible refine Kn.kx_back ?_ | with_reducible refine Kn.kx_under ?_ | with_reducible refine Kn.kx_top ?_ | with_reducible refine Kn.kx_up ?_ | with_reducible refine Kn.kx_hears ?_ | with_reducible refine Fld.need ?_ | with_reducible refine Fld.of ?_ | with_reducible refine Fld.base ?_ | with_reducible refine Fld.more ?_ | with_reducible refine Fld.most ?_ | with_reducible refine Fld.calm ?_ | with_reducible refine Fld.back ?_ | with_reducible refine Fld.top ?_ | with_reducible refine Fld.under ?_ | with_reducible refine Fld.up ?_ | with_reducible refine Fld.hears ?_ | with_reducible refine Fld.cap ?_ | with_reducible refine Mth.time ?_ | ((with_reducible refine WG.nm ?_); dsimp only [setMany, List.set_cons_succ, List.set_cons_zero]) | ((with_reducible refine WG.one ?_); dsimp only [setMany, List.set_cons_succ, List.set_cons_zero]) | ((with_reducible refine WG.tup ?_ ?_); exact rfl; dsimp only [setMany, List.set_cons_succ, List.set_cons_zero]) | ((with_reducible apply WE.var); exact rfl) | ((with_reducible apply WS.aug); exact rfl) | ((with_reducible apply WE.newPL); exact rfl) | ((with_reducible refine WS.ite_t ?_ ?_); exact rfl) | ((with_reducible refine WS.ite_f ?_ ?_); exact rfl) | ((with_reducible refine WE.ite_t ?_ ?_); exact rfl) | ((with_reducible refine WE.ite_f ?_ ?_); exact rfl) | ((with_reducible refine w_and_t ?_ ?_); exact rfl) | ((with_reducible refine w_and_f ?_ ?_); exact rfl) | ((with_reducible refine w_or_t ?_ ?_); exact rfl) | ((with_reducible refine w_or_f ?_ ?_); exact rfl) | ((with_reducible refine Kn.fdiv ?_ ?_); exact ⟨by decide, by decide⟩) | ((with_reducible refine Kn.mod ?_ ?_); decide) | ((with_reducible refine And.intro (a := (_ && _) = true) ?_ ?_); exact rfl) | ((with_reducible refine And.intro (a := List.length _ = List.length _) ?_ ?_); exact rfl; dsimp only [setMany, List.set_cons_succ, List.set_cons_zero]) | ((with_reducible refine ⟨wsz ?_, ?_⟩); first | decide | (show (_ : Nat) ≤ 1000; simp only [List.length_cons, List.length_nil]; decide)) | with_reducible refine ⟨_, rfl, ?_⟩)))
theorem rule_b (h : BX n m0 m) (hn : n < m0.length) {size long calms : Int} (hs : 1 ≤ size ∧ size ≤ 90) (hl : 1 ≤ long ∧ long ≤ 90) (hc : 0 ≤ calms ∧ calms ≤ 90) (q : ∀ (r : Ru) d m', r.Wd size long calms → r.under ≤ 6 → BX n m0 m' → m0.length ≤ d → m'[d]? = some (.dic rK r.kv) → Q (.ref d) m') : Wr (F__law_rule [.ref n, .int size, .int long, .int calms] m) Q := by
  refine WS.runM (b := f__law_rule) (n := 6) ?_ rfl
  show WS _ [some (.ref n), some (.int size), some (.int long), some (.int calms), none, none] m _
  trivial
  refine take_b h (by omega) (by omega) fun i1 m1 a1 b1 h => ?_
  trivial
  refine take_b h (by omega) (by omega) fun i2 m2 a2 b2 h => ?_
  trivial
  refine take_b h (by omega) (by omega) fun i3 m3 a3 b3 h => ?_
  trivial
  have hlt := h.lt
  have hle := h.le
  have hb := h.more [.dic [.str "need", .str "of", .str "base"] [.int (1 + i1), .int (1 + i1 + i2), .int (1 + i3)]] rfl
  have hd : (m3 ++ [.dic [.str "need", .str "of", .str "base"] [.int (1 + i1), .int (1 + i1 + i2), .int (1 + i3)]])[m3.length]? = some (O.dic [.str "need", .str "of", .str "base"] [.int (1 + i1), .int (1 + i1 + i2), .int (1 + i3)]) := by simp
  rw [mg3]
  dsimp only [cond_true]
  generalize (m3 ++ [.dic [.str "need", .str "of", .str "base"] [.int (1 + i1), .int (1 + i1 + i2), .int (1 + i3)]]) = mb at *
  generalize m3.length = d at *
  have dn : d ≠ n := by omega
  have dl : m0.length ≤ d := by omega
  trivial
  refine pick_bd hb hd dn (by show 1 ≤ 7; decide) (by show 7 < 1000; decide) fun e m4 he hb hd => ?_
  obtain ⟨more, rfl, e1, e2⟩ := more_b he
  trivial
  refine Kn.mk (put_dr hd p_more) ?_
  have hb := hb.set (.dic [.str "need", .str "of", .str "base", .str "more"] [.int (1 + i1), .int (1 + i1 + i2), .int (1 + i3), .int more]) dn dl
  have hd := set_at (o' := .dic [.str "need", .str "of", .str "base", .str "more"] [.int (1 + i1), .int (1 + i1 + i2), .int (1 + i3), .int more]) hd
  trivial
  refine Kn.mk (ix_dr hd g_base4) ?_
  trivial
  refine Kn.mk (ix_dr hd g_base4) ?_
  trivial
  refine take_bd hb hd dn (by omega) (by omega) fun i5 m5 a5 b5 hb hd => ?_
  trivial
  refine Kn.mk (put_dr hd p_most) ?_
  have hb := hb.set (.dic [.str "need", .str "of", .str "base", .str "more", .str "most"] [.int (1 + i1), .int (1 + i1 + i2), .int (1 + i3), .int more, .int (1 + i3 + i5)]) dn dl
  have hd := set_at (o' := .dic [.str "need", .str "of", .str "base", .str "more", .str "most"] [.int (1 + i1), .int (1 + i1 + i2), .int (1 + i3), .int more, .int (1 + i3 + i5)]) hd
  trivial
  refine ⟨⟨_, _, hd, fl5⟩, ?_⟩
  trivial
  refine take_bd hb hd dn (by omega) (by omega) fun i6 m6 a6 b6 hb hd => ?_
  trivial
  refine pick_bd hb hd dn (by show 1 ≤ 3; decide) (by show 3 < 1000; decide) fun e m7 he hb hd => ?_
  obtain ⟨bk, rfl⟩ := bk_b he
  trivial
  rw [mg2a]
  refine ⟨_, _, _, _, hd, rfl, okU fl5 rfl (by show 7 ≤ 1000; decide) rfl, ?_⟩
  rw [mg7]
  have hb := hb.set (.dic [.str "need", .str "of", .str "base", .str "more", .str "most", .str "calm", .str "back"] [.int (1 + i1), .int (1 + i1 + i2), .int (1 + i3), .int more, .int (1 + i3 + i5), .int i6, .str bk.s]) dn dl
  have hd := set_at (o' := .dic [.str "need", .str "of", .str "base", .str "more", .str "most", .str "calm", .str "back"] [.int (1 + i1), .int (1 + i1 + i2), .int (1 + i3), .int more, .int (1 + i3 + i5), .int i6, .str bk.s]) hd
  trivial
  refine take_bd hb hd dn (by decide) (by decide) fun i8 m8 a8 b8 hb hd => ?_
  trivial
  refine Kn.mk (put_dr hd p_under) ?_
  have hb := hb.set (.dic [.str "need", .str "of", .str "base", .str "more", .str "most", .str "calm", .str "back", .str "under"] [.int (1 + i1), .int (1 + i1 + i2), .int (1 + i3), .int more, .int (1 + i3 + i5), .int i6, .str bk.s, .int (1 + i8)]) dn dl
  have hd := set_at (o' := .dic [.str "need", .str "of", .str "base", .str "more", .str "most", .str "calm", .str "back", .str "under"] [.int (1 + i1), .int (1 + i1 + i2), .int (1 + i3), .int more, .int (1 + i3 + i5), .int i6, .str bk.s, .int (1 + i8)]) hd
  trivial
  refine Kn.mk (ix_dr hd g_under8) ?_
  trivial
  refine take_bd hb hd dn (by omega) (by omega) fun i9 m9 a9 b9 hb hd => ?_
  trivial
  refine Kn.mk (put_dr hd p_top) ?_
  have hb := hb.set (.dic [.str "need", .str "of", .str "base", .str "more", .str "most", .str "calm", .str "back", .str "under", .str "top"] [.int (1 + i1), .int (1 + i1 + i2), .int (1 + i3), .int more, .int (1 + i3 + i5), .int i6, .str bk.s, .int (1 + i8), .int i9]) dn dl
  have hd := set_at (o' := .dic [.str "need", .str "of", .str "base", .str "more", .str "most", .str "calm", .str "back", .str "under", .str "top"] [.int (1 + i1), .int (1 + i1 + i2), .int (1 + i3), .int more, .int (1 + i3 + i5), .int i6, .str bk.s, .int (1 + i8), .int i9]) hd
  trivial
  refine ⟨⟨_, _, hd, fl9⟩, ?_⟩
  trivial
  refine take_bd hb hd dn (by decide) (by decide) fun i10 m10 a10 b10 hb hd => ?_
  trivial
  refine pick_bd hb hd dn (by show 1 ≤ 3; decide) (by show 3 < 1000; decide) fun e m11 he hb hd => ?_
  obtain ⟨hh, rfl⟩ := hr_b he
  trivial
  rw [mg2b]
  refine ⟨_, _, _, _, hd, rfl, okU fl9 rfl (by show 11 ≤ 1000; decide) rfl, ?_⟩
  rw [mg11]
  have hb := hb.set (.dic rK [.int (1 + i1), .int (1 + i1 + i2), .int (1 + i3), .int more, .int (1 + i3 + i5), .int i6, .str bk.s, .int (1 + i8), .int i9, .bl (i10 == 0), .str hh.s]) dn dl
  have hd := set_at (o' := .dic rK [.int (1 + i1), .int (1 + i1 + i2), .int (1 + i3), .int more, .int (1 + i3 + i5), .int i6, .str bk.s, .int (1 + i8), .int i9, .bl (i10 == 0), .str hh.s]) hd
  trivial
  exact .inl ⟨_, rfl, q ⟨1 + i1, 1 + i1 + i2, 1 + i3, more, 1 + i3 + i5, i6, bk, i9, 1 + i8, i10 == 0, hh, capOf (1 + i3) more (1 + i3 + i5)⟩ d _ ⟨by show 1 ≤ 1 + i1; omega, by show 1 + i1 ≤ 1 + i1 + i2; omega, by show 1 + i1 + i2 ≤ size; omega, by show 1 ≤ 1 + i3; omega, by show 1 + i3 ≤ 1 + i3 + i5; omega, by show 1 + i3 + i5 ≤ long; omega, e1, e2, a6, by show i6 ≤ calms; omega, a9, by show i9 ≤ 1 + i8; omega, by show 1 ≤ 1 + i8; omega, by show 1 + i8 ≤ 20; omega, rfl⟩ (by show 1 + i8 ≤ 6; omega) hb dl hd⟩
theorem box_b (ns : List Int) (hni : noIns m = true) {k : Int} (hk : 0 ≤ k ∧ (k < ns.length ∨ ns.length = 0)) (q : ∀ n m', n < m'.length → BX n m' m' → Q (.ref n) m') : Wr (F__law_box [.scr (ns.map D.int), .int k] m) Q := by
  refine WS.runM (b := f__law_box) (n := 4) ?_ rfl
  show WS _ [some (.scr (ns.map D.int)), some (.int k), none, none] m _
  have fin : ∀ a : Int, 0 ≤ a → WS f__law_box_2 [some (.scr (ns.map D.int)), some (.int k), some (.int a), none] m fun r m1 => (∃ y, r = .rt y ∧ Q y m1) ∨ ∃ ρ, r = .nx ρ ∧ Q .non m1 := fun a ha => by
    have last : ∀ (m1 : M) (b : Int), noIns m1 = true → 0 ≤ b → (fun d m2 => (∃ y, Fl.rt d = .rt y ∧ Q y m2) ∨ ∃ ρ, Fl.rt d = .nx ρ ∧ Q .non m2) (.ref m1.length) (m1 ++ [.lst [.int b, .int ((a % 2147483629 * 45427 + 38201 * k + 17) % 2147483629 + 1), .int 0]])    := fun m1 b hm1 hb =>
      .inl ⟨_, rfl, q m1.length _ (by simp) ⟨⟨b, (a % 2147483629 * 45427 + 38201 * k + 17) % 2147483629 + 1, 0, by simp, hb⟩, Nat.le_refl _, fun _ _ _ => rfl, noIns_more hm1 rfl⟩⟩
    unfold f__law_box_2
    trivial
    refine Kn.mul_i (.inr (by decide)) ?_
    trivial
    refine Kn.mul_i (.inl (by decide)) ?_
    trivial
    unfold f__law_box_1
    trivial
    refine Kn.mk pow18b ?_
    trivial
    cases hd : decide ((10 : Int) ^ 18 ≤ a)
    · refine Kn.ix_l (i := 0) (d := .int 0) rfl ?_
      trivial
      exact last m 0 hni (by decide)
    · refine Kn.ix_l (i := 1) (d := .int a) rfl ?_
      trivial
      exact last m a hni ha
  unfold f__law_box
  trivial
  refine Kn.mul_i (.inl (by decide)) ?_
  trivial
  unfold f__law_box_3
  trivial
  rw [List.length_map]
  cases hd : decide (k < (ns.length : Int))
  · have h0 : ns.length = 0 := by
      have := of_decide_eq_false hd
      omega
    trivial
    rw [List.length_map, h0]
    trivial
    exact fin _ (by omega)
  · have h1 : k < ns.length := of_decide_eq_true hd
    have h2 : k.toNat < ns.length := by omega
    have e2 : ((k.toNat : Nat) : Int) = k := by omega
    trivial
    rw [← e2]
    refine Kn.mk (d := .int ns[k.toNat]) (ix_scr (by simp [h2])) ?_
    trivial
    rw [e2]
    exact fin _ (by split <;> omega)
end
end L4
namespace L4
open PySem
section
variable {m : M} {r : Ru} {Q : D → Prop} {d : Nat}
theorem kx_need : ixA m (.dic rK r.kv) (.str "need") = some (.int r.need) := ix_dp (by kernel_rfl)
theorem kx_of : ixA m (.dic rK r.kv) (.str "of") = some (.int r.of) := ix_dp (by kernel_rfl)
theorem kx_base : ixA m (.dic rK r.kv) (.str "base") = some (.int r.base) := ix_dp (by kernel_rfl)
theorem kx_more : ixA m (.dic rK r.kv) (.str "more") = some (.int r.more) := ix_dp (by kernel_rfl)
theorem kx_most : ixA m (.dic rK r.kv) (.str "most") = some (.int r.most) := ix_dp (by kernel_rfl)
theorem kx_calm : ixA m (.dic rK r.kv) (.str "calm") = some (.int r.calm) := ix_dp (by kernel_rfl)
theorem kx_back : ixA m (.dic rK r.kv) (.str "back") = some (.str r.back.s) := ix_dp (by kernel_rfl)
theorem kx_under : ixA m (.dic rK r.kv) (.str "under") = some (.int r.under) := ix_dp (by kernel_rfl)
theorem kx_top : ixA m (.dic rK r.kv) (.str "top") = some (.int r.top) := ix_dp (by kernel_rfl)
theorem kx_up : ixA m (.dic rK r.kv) (.str "up") = some (.bl r.up) := ix_dp (by kernel_rfl)
theorem kx_hears : ixA m (.dic rK r.kv) (.str "hears") = some (.str r.hears.s) := ix_dp (by kernel_rfl)
theorem Kn.kx_need (q : Q (.int r.need)) : Kn (ixA m (.dic rK r.kv) (.str "need")) Q := .mk L4.kx_need q
theorem Kn.kx_of (q : Q (.int r.of)) : Kn (ixA m (.dic rK r.kv) (.str "of")) Q := .mk L4.kx_of q
theorem Kn.kx_base (q : Q (.int r.base)) : Kn (ixA m (.dic rK r.kv) (.str "base")) Q := .mk L4.kx_base q
theorem Kn.kx_more (q : Q (.int r.more)) : Kn (ixA m (.dic rK r.kv) (.str "more")) Q := .mk L4.kx_more q
theorem Kn.kx_most (q : Q (.int r.most)) : Kn (ixA m (.dic rK r.kv) (.str "most")) Q := .mk L4.kx_most q
theorem Kn.kx_calm (q : Q (.int r.calm)) : Kn (ixA m (.dic rK r.kv) (.str "calm")) Q := .mk L4.kx_calm q
theorem Kn.kx_back (q : Q (.str r.back.s)) : Kn (ixA m (.dic rK r.kv) (.str "back")) Q := .mk L4.kx_back q
theorem Kn.kx_under (q : Q (.int r.under)) : Kn (ixA m (.dic rK r.kv) (.str "under")) Q := .mk L4.kx_under q
theorem Kn.kx_top (q : Q (.int r.top)) : Kn (ixA m (.dic rK r.kv) (.str "top")) Q := .mk L4.kx_top q
theorem Kn.kx_up (q : Q (.bl r.up)) : Kn (ixA m (.dic rK r.kv) (.str "up")) Q := .mk L4.kx_up q
theorem Kn.kx_hears (q : Q (.str r.hears.s)) : Kn (ixA m (.dic rK r.kv) (.str "hears")) Q := .mk L4.kx_hears q
theorem pure1k : pureL [.dic rK r.kv] = true := rfl
theorem frz_rule (h : m[d]? = some (.dic rK r.kv)) : mapO (frz m) [.ref d] = some [.dic rK r.kv] := by
  have e : frz m (.ref d) = some (.dic rK r.kv) := by
    show frzGo m (39 + 1) (.ref d) = _
    unfold frzGo
    rw [h]
    rfl
  simp only [mapO, e]
theorem pure_ref {d : Nat} : pureL [.ref d] = false := rfl
theorem noLd_ru : noLd r.d = true := rfl
theorem lsl {ds : List D} : lstOf m (.lst ds) = some ds := rfl
theorem words_join (h : r.Tn) : (r.words.map (·.length)).sum + r.words.length * (" " : Str).length ≤ 16777216 := by
  have h1 := words_sum h
  have e1 : (" " : Str).length = 1 := len_lit.2.2.2.2.2.2.2.2.2.1
  have e2 : r.words.length = 19 := rfl
  rw [e1, e2]
  generalize (r.words.map (·.length)).sum = x at *
  omega
theorem sl1 (h : r.Tn) : (nS r.top).length + ("/" : Str).length ≤ sizeLine := by
  have h1 := len_nS h.top
  have h2 : ("/" : Str).length = 1 := len_lit.2.2.2.2.2.2.2.2.2.2
  rw [h2]
  generalize (nS r.top).length = x at *
  exact wsz (by omega)
theorem sl2 (h : r.Tn) : (catS (nS r.top) "/").length + (nS r.under).length ≤ sizeLine := by
  have h1 := len_share h
  have e : (catS (nS r.top) "/").length + (nS r.under).length = r.share.length := by
    rw [slen, slen, slen]
    unfold Ru.share
    simp only [catS_l, List.length_append]
  rw [e]
  generalize r.share.length = x at *
  exact wsz (by omega)
local macro_rules | `(tactic| trivial) => `(tactic| (repeat (first | with_reducible refine WS.seq ?_ | with_reducible refine WS.nx ?_ | with_reducible refine WS.rt ?_ | with_reducible refine WS.asg ?_ | with_reducible refine WS.drop ?_ | with_reducible refine WS.ret ?_ | with_reducible refine WS.nop ?_ | with_reducible refine WS.retN ?_ | with_reducible refine WS.brk ?_ | with_reducible refine WS.cont ?_ | with_reducible refine WS.sif ?_ | with_reducible refine WS.par ?_ | with_reducible refine WG.setA ?_ | with_reducible refine WE.c ?_ | with_reducible refine WE.op ?_ | with_reducible refine WE.call ?_ | with_reducible refine WE.callM ?_ | with_reducible refine WE.un ?_ | with_reducible refine WE.tup ?_ | with_reducible refine WE.lst ?_ | with_reducible refine WE.newL ?_ | with_reducible refine WE.eif ?_ | with_reducible refine WE.sl ?_ | with_reducible refine WE.isN ?_ | with_reducible refine WE.notN ?_ | with_reducible refine WE.not ?_ | with_reducible refine WE.and ?_ | with_reducible refine WE.or ?_ | with_reducible refine WE.app ?_ | with_reducible refine WE.tupR ?_ | with_reducible refine WE.lisR ?_ | with_reducible refine WE.m1 ?_ | with_reducible refine WE.tbl ?_ | with_reducible refine WE.tblNin ?_ | with_reducible refine WE.chain ?_ | with_reducible refine WE.fldF ?_ | with_reducible refine WE.mth ?_ | with_reducible refine WE.disp ?_ | with_reducible refine WE.dicC ?_ | with_reducible refine WP.nil ?_ | with_reducible refine WP.cons ?_ | with_reducible refine WE.upd ?_ | with_reducible refine WA.nil ?_ | with_reducible refine WA.cons ?_ | with_reducible refine WA.star ?_ | with_reducible refine WO.no ?_ | with_reducible refine WO.yes ?_ | with_reducible refine WT.val ?_ | with_reducible refine WT.and ?_ | with_reducible refine WT.or ?_ | with_reducible refine WT.not ?_ | with_reducible refine WT.tt ?_ | with_reducible refine WI.it ?_ | with_reducible refine Kn.add_i ?_ | with_reducible refine Kn.sub ?_ | with_reducible refine Kn.neg ?_ | with_reducible refine Kn.eq_i ?_ | with_reducible refine Kn.ne_i ?_ | with_reducible refine Kn.lt ?_ | with_reducible refine Kn.le ?_ | with_reducible refine Kn.gt ?_ | with_reducible refine Kn.ge ?_ | with_reducible refine Kn.int_i ?_ | with_reducible refine Kn.int_b ?_ | with_reducible refine Kn.abs ?_ | with_reducible refine Kn.min2 ?_ | with_reducible refine Kn.max2 ?_ | with_reducible refine Kn.len_t ?_ | with_reducible refine Kn.len_l ?_ | with_reducible refine Kn.len_s ?_ | with_reducible refine Kn.tup_t ?_ | with_reducible refine Kn.tup_l ?_ | with_reducible refine Kn.lis_t ?_ | with_reducible refine Kn.lis_l ?_ | with_reducible refine Kn.seq_t ?_ | with_reducible refine Kn.seq_l ?_ | with_reducible refine Kn.it_t ?_ | with_reducible refine Kn.it_l ?_ | with_reducible refine Kn.it_s ?_ | with_reducible refine Kn.str_s ?_ | with_reducible refine Kn.sl_t ?_ | with_reducible refine Kn.sl_l ?_ | with_reducible refine Kn.sl_rt ?_ | with_reducible refine Kn.ix_rt1 ?_ | with_reducible refine Kn.ix_rt2 ?_ | with_reducible refine Kn.kx_need ?_ | with_reducible refine Kn.kx_of ?_ | with_reducible refine Kn.kx_base ?_ | with_reducible refine Kn.kx_more ?_ | with_reducible refine Kn.kx_most ?_ | with_reducible refine Kn.kx_calm ?_ | with_reducible refine Kn.kx_back ?_ | with_reducible refine Kn.kx_under ?_ | with_reducible refine Kn.kx_top ?_ | with_reducible refine Kn.kx_up ?_ | with_reducible refine Kn.kx_hears ?_ | with_reducible refine Fld.need ?_ | with_reducible refine Fld.of ?_ | with_reducible refine Fld.base ?_ | with_reducible refine Fld.more ?_ | with_reducible refine Fld.most ?_ | with_reducible refine Fld.calm ?_ | with_reducible refine Fld.back ?_ | with_reducible refine Fld.top ?_ | with_reducible refine Fld.under ?_ | with_reducible refine Fld.up ?_ | with_reducible refine Fld.hears ?_ | with_reducible refine Fld.cap ?_ | with_reducible refine Mth.time ?_ | ((with_reducible refine WG.nm ?_); dsimp only [setMany, List.set_cons_succ, List.set_cons_zero]) | ((with_reducible refine WG.one ?_); dsimp only [setMany, List.set_cons_succ, List.set_cons_zero]) | ((with_reducible refine WG.tup ?_ ?_); exact rfl; dsimp only [setMany, List.set_cons_succ, List.set_cons_zero]) | ((with_reducible apply WE.var); exact rfl) | ((with_reducible apply WS.aug); exact rfl) | ((with_reducible apply WE.newPL); exact rfl) | ((with_reducible refine WS.ite_t ?_ ?_); exact rfl) | ((with_reducible refine WS.ite_f ?_ ?_); exact rfl) | ((with_reducible refine WE.ite_t ?_ ?_); exact rfl) | ((with_reducible refine WE.ite_f ?_ ?_); exact rfl) | ((with_reducible refine w_and_t ?_ ?_); exact rfl) | ((with_reducible refine w_and_f ?_ ?_); exact rfl) | ((with_reducible refine w_or_t ?_ ?_); exact rfl) | ((with_reducible refine w_or_f ?_ ?_); exact rfl) | ((with_reducible refine Kn.fdiv ?_ ?_); exact ⟨by decide, by decide⟩) | ((with_reducible refine Kn.mod ?_ ?_); decide) | ((with_reducible refine And.intro (a := (_ && _) = true) ?_ ?_); exact rfl) | ((with_reducible refine And.intro (a := List.length _ = List.length _) ?_ ?_); exact rfl; dsimp only [setMany, List.set_cons_succ, List.set_cons_zero]) | ((with_reducible refine ⟨wsz ?_, ?_⟩); first | decide | (show (_ : Nat) ≤ 1000; simp only [List.length_cons, List.length_nil]; decide)) | with_reducible refine ⟨_, rfl, ?_⟩)))
theorem rule_text_ok (h : r.Tn) : F__law_rule_text [.dic rK r.kv] = some (.str r.txt) := by
  refine WS.runP (n := 2) (b := f__law_rule_text) ?_ rfl
  show WS _ [some (.dic rK r.kv), none] [] _
  trivial
  refine Kn.mk (w_str_i h.need.1 h.need.2) ?_
  trivial
  refine Kn.mk (w_str_i h.of.1 h.of.2) ?_
  trivial
  refine Kn.mk (w_str_i h.base.1 h.base.2) ?_
  trivial
  refine Kn.mk (w_str_i h.more.1 h.more.2) ?_
  trivial
  refine Kn.mk (w_str_i h.most.1 h.most.2) ?_
  trivial
  refine Kn.mk (w_str_i h.calm.1 h.calm.2) ?_
  trivial
  refine Kn.add_l lsl lsl (wsz (by show 14 ≤ 1000; decide)) ?_
  trivial
  refine Kn.mk (w_str_i h.top.1 h.top.2) ?_
  trivial
  refine Kn.add_s (sl1 h) ?_
  trivial
  refine Kn.mk (w_str_i h.under.1 h.under.2) ?_
  refine Kn.add_s (sl2 h) ?_
  trivial
  have fin : ∀ (x : Str), x = upS r.up → WE (if r.up = true then eC (.str "up") else eC (.str "down")) [some (.dic rK r.kv), some (.lst (([.str "leave", .str (nS r.need), .str "of", .str (nS r.of), .str "out", .str (nS r.base), .str "more", .str (nS r.more)] : List D) ++ [.str "most", .str (nS r.most), .str "calm", .str (nS r.calm), .str "back", .str r.back.s]))] [] (fun d m' => d = .str x ∧ m' = []) := fun x hx => by
    subst hx
    cases hu : r.up
    · trivial
      exact ⟨rfl, rfl⟩
    · trivial
      exact ⟨rfl, rfl⟩
  obtain ⟨dd, mm, e1, rfl, rfl⟩ := fin _ rfl
  refine ⟨_, _, e1, ?_⟩
  trivial
  refine Kn.add_l lsl lsl (wsz (by show 17 ≤ 1000; decide)) ?_
  trivial
  refine Kn.add_l lsl lsl (wsz (by show 19 ≤ 1000; decide)) ?_
  refine Kn.join (ws := r.words) rfl (words_join h) ?_
  trivial
  exact frz_p rfl
theorem rule_of_ok (h : r.Tn) (hv : r.Va) : F__law_rule_of [.dic rK r.kv] = some r.d := by
  refine WS.runP (n := 1) (b := f__law_rule_of) ?_ rfl
  show WS _ [some (.dic rK r.kv)] [] _
  trivial
  refine Kn.call pure1k (rule_text_ok h) ?_
  trivial
  refine Kn.call pure1s (read_ok h hv) ?_
  trivial
  exact frz_p ru_pure
theorem rule_of_b (hd : m[d]? = some (.dic rK r.kv)) (hi : noIns m = true) (h : r.Tn) (hv : r.Va) (q : Q r.d) : Kn (callK F__law_rule_of m [.ref d]) Q := Kn.callK pure_ref hi (frz_rule hd) (rule_of_ok h hv) noLd_ru q
end
end L4
namespace L4
open PySem
section
variable {m : M} {r : Ru} {Q : D → Prop}
/-- what is drawn for steps -/
structure Ru.B9 (r : Ru) : Prop where
  b1 : 1 ≤ r.base
  b2 : r.base ≤ r.most
  b3 : r.most ≤ 90
  m1 : 0 ≤ r.more
  m2 : r.more ≤ 9
  cap : r.cap = capOf r.base r.more r.most
theorem capB_lt (h : r.B9) {j : Int} (h1 : 1 ≤ j) (h2 : j ≤ r.cap) : (r.time j < r.time (j + 1)) ↔ j < r.cap := by
  obtain ⟨b1, b2, b3, m1, m2, hc⟩ := h
  rw [hc] at h2 ⊢
  unfold Ru.time
  unfold capOf at h2 ⊢
  have hm : r.more = 0 ∨ r.more = 1 ∨ r.more = 2 ∨ r.more = 3 ∨ r.more = 4 ∨ r.more = 5 ∨ r.more = 6 ∨ r.more = 7 ∨ r.more = 8 ∨ r.more = 9 := by omega
  rcases hm with e | e | e | e | e | e | e | e | e | e <;> rw [e] at h2 ⊢
  · rw [if_pos (show ((0 : Int) == 0) = true from rfl)] at h2 ⊢
    split <;> split <;> omega
  · rw [if_neg (show ¬ ((1 : Int) == 0) = true by decide)] at h2 ⊢
    split <;> split <;> omega
  · rw [if_neg (show ¬ ((2 : Int) == 0) = true by decide)] at h2 ⊢
    split <;> split <;> omega
  · rw [if_neg (show ¬ ((3 : Int) == 0) = true by decide)] at h2 ⊢
    split <;> split <;> omega
  · rw [if_neg (show ¬ ((4 : Int) == 0) = true by decide)] at h2 ⊢
    split <;> split <;> omega
  · rw [if_neg (show ¬ ((5 : Int) == 0) = true by decide)] at h2 ⊢
    split <;> split <;> omega
  · rw [if_neg (show ¬ ((6 : Int) == 0) = true by decide)] at h2 ⊢
    split <;> split <;> omega
  · rw [if_neg (show ¬ ((7 : Int) == 0) = true by decide)] at h2 ⊢
    split <;> split <;> omega
  · rw [if_neg (show ¬ ((8 : Int) == 0) = true by decide)] at h2 ⊢
    split <;> split <;> omega
  · rw [if_neg (show ¬ ((9 : Int) == 0) = true by decide)] at h2 ⊢
    split <;> split <;> omega
theorem capB_pos (h : r.B9) : 1 ≤ r.cap ∧ r.cap ≤ 100 := by
  obtain ⟨b1, b2, b3, m1, m2, hc⟩ := h
  rw [hc]
  unfold capOf
  have hm : r.more = 0 ∨ r.more = 1 ∨ r.more = 2 ∨ r.more = 3 ∨ r.more = 4 ∨ r.more = 5 ∨ r.more = 6 ∨ r.more = 7 ∨ r.more = 8 ∨ r.more = 9 := by omega
  rcases hm with e | e | e | e | e | e | e | e | e | e <;> rw [e]
  · rw [if_pos (by decide)]; omega
  · rw [if_neg (show ¬ ((1 : Int) == 0) = true by decide)]
    omega
  · rw [if_neg (show ¬ ((2 : Int) == 0) = true by decide)]
    omega
  · rw [if_neg (show ¬ ((3 : Int) == 0) = true by decide)]
    omega
  · rw [if_neg (show ¬ ((4 : Int) == 0) = true by decide)]
    omega
  · rw [if_neg (show ¬ ((5 : Int) == 0) = true by decide)]
    omega
  · rw [if_neg (show ¬ ((6 : Int) == 0) = true by decide)]
    omega
  · rw [if_neg (show ¬ ((7 : Int) == 0) = true by decide)]
    omega
  · rw [if_neg (show ¬ ((8 : Int) == 0) = true by decide)]
    omega
  · rw [if_neg (show ¬ ((9 : Int) == 0) = true by decide)]
    omega
theorem time_if (a b : Int) : (if a < b then a else b) = if b < a then b else a := by split <;> split <;> omega
end
end L4
namespace L4
open PySem
section
variable {m : M} {r : Ru} {Q : D → Prop}
theorem Ru.Wd.b9 {s l c : Int} (h : r.Wd s l c) (hl : l ≤ 90) : r.B9 := ⟨h.b1, h.b2, by have := h.b3; omega, h.m1, h.m2, h.cap⟩
theorem pure2ki {i : Int} : pureL [.dic rK r.kv, .int i] = true := rfl
local macro_rules | `(tactic| trivial) => `(tactic| (repeat (first | with_reducible refine WS.seq ?_ | with_reducible refine WS.nx ?_ | with_reducible refine WS.rt ?_ | with_reducible refine WS.asg ?_ | with_reducible refine WS.drop ?_ | with_reducible refine WS.ret ?_ | with_reducible refine WS.nop ?_ | with_reducible refine WS.retN ?_ | with_reducible refine WS.brk ?_ | with_reducible refine WS.cont ?_ | with_reducible refine WS.sif ?_ | with_reducible refine WS.par ?_ | with_reducible refine WG.setA ?_ | with_reducible refine WE.c ?_ | with_reducible refine WE.op ?_ | with_reducible refine WE.call ?_ | with_reducible refine WE.callM ?_ | with_reducible refine WE.un ?_ | with_reducible refine WE.tup ?_ | with_reducible refine WE.lst ?_ | with_reducible refine WE.newL ?_ | with_reducible refine WE.eif ?_ | with_reducible refine WE.sl ?_ | with_reducible refine WE.isN ?_ | with_reducible refine WE.notN ?_ | with_reducible refine WE.not ?_ | with_reducible refine WE.and ?_ | with_reducible refine WE.or ?_ | with_reducible refine WE.app ?_ | with_reducible refine WE.tupR ?_ | with_reducible refine WE.lisR ?_ | with_reducible refine WE.m1 ?_ | with_reducible refine WE.tbl ?_ | with_reducible refine WE.tblNin ?_ | with_reducible refine WE.chain ?_ | with_reducible refine WE.fldF ?_ | with_reducible refine WE.mth ?_ | with_reducible refine WE.disp ?_ | with_reducible refine WE.dicC ?_ | with_reducible refine WP.nil ?_ | with_reducible refine WP.cons ?_ | with_reducible refine WE.upd ?_ | with_reducible refine WA.nil ?_ | with_reducible refine WA.cons ?_ | with_reducible refine WA.star ?_ | with_reducible refine WO.no ?_ | with_reducible refine WO.yes ?_ | with_reducible refine WT.val ?_ | with_reducible refine WT.and ?_ | with_reducible refine WT.or ?_ | with_reducible refine WT.not ?_ | with_reducible refine WT.tt ?_ | with_reducible refine WI.it ?_ | with_reducible refine Kn.add_i ?_ | with_reducible refine Kn.sub ?_ | with_reducible refine Kn.neg ?_ | with_reducible refine Kn.eq_i ?_ | with_reducible refine Kn.ne_i ?_ | with_reducible refine Kn.lt ?_ | with_reducible refine Kn.le ?_ | with_reducible refine Kn.gt ?_ | with_reducible refine Kn.ge ?_ | with_reducible refine Kn.int_i ?_ | with_reducible refine Kn.int_b ?_ | with_reducible refine Kn.abs ?_ | with_reducible refine Kn.min2 ?_ | with_reducible refine Kn.max2 ?_ | with_reducible refine Kn.len_t ?_ | with_reducible refine Kn.len_l ?_ | with_reducible refine Kn.len_s ?_ | with_reducible refine Kn.tup_t ?_ | with_reducible refine Kn.tup_l ?_ | with_reducible refine Kn.lis_t ?_ | with_reducible refine Kn.lis_l ?_ | with_reducible refine Kn.seq_t ?_ | with_reducible refine Kn.seq_l ?_ | with_reducible refine Kn.it_t ?_ | with_reducible refine Kn.it_l ?_ | with_reducible refine Kn.it_s ?_ | with_reducible refine Kn.str_s ?_ | with_reducible refine Kn.sl_t ?_ | with_reducible refine Kn.sl_l ?_ | with_reducible refine Kn.sl_rt ?_ | with_reducible refine Kn.ix_rt1 ?_ | with_reducible refine Kn.ix_rt2 ?_ | with_reducible refine Kn.kx_need ?_ | with_reducible refine Kn.kx_of ?_ | with_reducible refine Kn.kx_base ?_ | with_reducible refine Kn.kx_more ?_ | with_reducible refine Kn.kx_most ?_ | with_reducible refine Kn.kx_calm ?_ | with_reducible refine Kn.kx_back ?_ | with_reducible refine Kn.kx_under ?_ | with_reducible refine Kn.kx_top ?_ | with_reducible refine Kn.kx_up ?_ | with_reducible refine Kn.kx_hears ?_ | with_reducible refine Fld.need ?_ | with_reducible refine Fld.of ?_ | with_reducible refine Fld.base ?_ | with_reducible refine Fld.more ?_ | with_reducible refine Fld.most ?_ | with_reducible refine Fld.calm ?_ | with_reducible refine Fld.back ?_ | with_reducible refine Fld.top ?_ | with_reducible refine Fld.under ?_ | with_reducible refine Fld.up ?_ | with_reducible refine Fld.hears ?_ | with_reducible refine Fld.cap ?_ | with_reducible refine Mth.time ?_ | ((with_reducible refine WG.nm ?_); dsimp only [setMany, List.set_cons_succ, List.set_cons_zero]) | ((with_reducible refine WG.one ?_); dsimp only [setMany, List.set_cons_succ, List.set_cons_zero]) | ((with_reducible refine WG.tup ?_ ?_); exact rfl; dsimp only [setMany, List.set_cons_succ, List.set_cons_zero]) | ((with_reducible apply WE.var); exact rfl) | ((with_reducible apply WS.aug); exact rfl) | ((with_reducible apply WE.newPL); exact rfl) | ((with_reducible refine WS.ite_t ?_ ?_); exact rfl) | ((with_reducible refine WS.ite_f ?_ ?_); exact rfl) | ((with_reducible refine WE.ite_t ?_ ?_); exact rfl) | ((with_reducible refine WE.ite_f ?_ ?_); exact rfl) | ((with_reducible refine w_and_t ?_ ?_); exact rfl) | ((with_reducible refine w_and_f ?_ ?_); exact rfl) | ((with_reducible refine w_or_t ?_ ?_); exact rfl) | ((with_reducible refine w_or_f ?_ ?_); exact rfl) | ((with_reducible refine Kn.fdiv ?_ ?_); exact ⟨by decide, by decide⟩) | ((with_reducible refine Kn.mod ?_ ?_); decide) | ((with_reducible refine And.intro (a := (_ && _) = true) ?_ ?_); exact rfl) | ((with_reducible refine And.intro (a := List.length _ = List.length _) ?_ ?_); exact rfl; dsimp only [setMany, List.set_cons_succ, List.set_cons_zero]) | ((with_reducible refine ⟨wsz ?_, ?_⟩); first | decide | (show (_ : Nat) ≤ 1000; simp only [List.length_cons, List.length_nil]; decide)) | with_reducible refine ⟨_, rfl, ?_⟩)))
theorem ltime_b (h : r.B9) (j : Int) : F__law_time [.dic rK r.kv, .int j] = some (.int (r.time j)) := by
  refine WS.runP (n := 3) (b := f__law_time) ?_ rfl
  show WS _ [some (.dic rK r.kv), some (.int j), none] [] _
  trivial
  refine Kn.mul_i (.inl ⟨by have := h.m1; omega, by have := h.m2; omega⟩) ?_
  trivial
  have e : r.time j = if r.base + r.more * (j - 1) < r.most then r.base + r.more * (j - 1) else r.most := (time_if _ _).symm
  rw [e]
  by_cases hd : r.base + r.more * (j - 1) < r.most
  · rw [if_pos hd, decide_eq_true hd]
    trivial
    exact frz_p rfl
  · rw [if_neg hd, decide_eq_false hd]
    trivial
    exact frz_p rfl
theorem lcap_b (h : r.B9) : F__law_cap [.dic rK r.kv] = some (.int r.cap) := by
  obtain ⟨hc1, hc2⟩ := capB_pos h
  refine WS.runP (n := 2) (b := f__law_cap) ?_ rfl
  show WS _ [some (.dic rK r.kv), none] [] _
  trivial
  refine WS.whileI (fun k ρ m => ∃ j : Int, 1 ≤ j ∧ j ≤ r.cap ∧ k = (r.cap - j).toNat ∧ ρ = [some (.dic rK r.kv), some (.int j)]) (r.cap - 1).toNat big _ _ (by unfold big; omega) ⟨1, by omega, hc1, rfl, rfl⟩ ?_
  rintro k ρ m1 ⟨j, j1, j2, rfl, rfl⟩
  trivial
  refine Kn.call pure2ki (ltime_b h _) ?_
  trivial
  refine Kn.call pure2ki (ltime_b h _) ?_
  trivial
  have hj := capB_lt h j1 j2
  refine ⟨fun hx => ?_, fun hx => ?_⟩
  · have h3 := hj.mp (of_decide_eq_true hx)
    trivial
    exact .inl ⟨_, _, .inl rfl, by omega, j + 1, by omega, by omega, rfl, rfl⟩
  · have h3 : ¬ j < r.cap := fun z => (of_decide_eq_false hx) (hj.mpr z)
    have : j = r.cap := by omega
    subst this
    trivial
    exact frz_p rfl
end
end L4
namespace L4
open PySem
section
variable {m : M} {r : Ru} {Q : D → Prop}
theorem Fld.need (q : Q (.int r.need)) : Fld m r.d ["Rule"] "need" Q := ⟨_, _, _, _, ru_ins, ru_c1, ru_need, q⟩
theorem Fld.of (q : Q (.int r.of)) : Fld m r.d ["Rule"] "of" Q := ⟨_, _, _, _, ru_ins, ru_c1, ru_of, q⟩
theorem Fld.base (q : Q (.int r.base)) : Fld m r.d ["Rule"] "base" Q := ⟨_, _, _, _, ru_ins, ru_c1, ru_base, q⟩
theorem Fld.more (q : Q (.int r.more)) : Fld m r.d ["Rule"] "more" Q := ⟨_, _, _, _, ru_ins, ru_c1, ru_more, q⟩
theorem Fld.most (q : Q (.int r.most)) : Fld m r.d ["Rule"] "most" Q := ⟨_, _, _, _, ru_ins, ru_c1, ru_most, q⟩
theorem Fld.calm (q : Q (.int r.calm)) : Fld m r.d ["Rule"] "calm" Q := ⟨_, _, _, _, ru_ins, ru_c1, ru_calm, q⟩
theorem Fld.back (q : Q (.str r.back.s)) : Fld m r.d ["Rule"] "back" Q := ⟨_, _, _, _, ru_ins, ru_c1, ru_back, q⟩
theorem Fld.top (q : Q (.int r.top)) : Fld m r.d ["Rule"] "top" Q := ⟨_, _, _, _, ru_ins, ru_c1, ru_top, q⟩
theorem Fld.under (q : Q (.int r.under)) : Fld m r.d ["Rule"] "under" Q := ⟨_, _, _, _, ru_ins, ru_c1, ru_under, q⟩
theorem Fld.up (q : Q (.bl r.up)) : Fld m r.d ["Rule"] "up" Q := ⟨_, _, _, _, ru_ins, ru_c1, ru_up, q⟩
theorem Fld.hears (q : Q (.str r.hears.s)) : Fld m r.d ["Rule"] "hears" Q := ⟨_, _, _, _, ru_ins, ru_c1, ru_hears, q⟩
theorem Fld.cap (q : Q (.int r.cap)) : Fld m r.d ["Rule"] "cap" Q := ⟨_, _, _, _, ru_ins, ru_c1, ru_cap, q⟩
theorem Mth.time {P : List Str → List D → Prop} (q : P ruNames r.vals) : ∃ ns vs, insOf m r.d = some (("Rule" : Str), ns, vs) ∧ ns.contains "time" = false ∧ P ns vs := ⟨_, _, ru_ins, ru_ntime, q⟩
end
end L4
namespace L4
open PySem
section
variable {m : M} {r : Ru} {Q : D → Prop}
theorem pure_kk : pureL [.dic rK r.kv] = true := rfl
theorem pure_ks {s : Sd} {b : Bool} : pureL [.dic rK r.kv, s.d, .bl b] = true := by
  have h2 : pureL r.kv = true := rfl
  simp only [pureL, h2, sd_pure, pureD, Bool.and_true]
theorem leftOut_lt {t : Int} (h : t ≤ r.cap) : r.leftOut t = .out (r.time (if t < r.cap then t + 1 else t)) (if t < r.cap then t + 1 else t) := by
  have e : (if r.cap < t + 1 then r.cap else t + 1) = if t < r.cap then t + 1 else t := by split <;> split <;> omega
  unfold Ru.leftOut
  rw [e]
theorem flL_bls : ∀ w : List Bool, flL (w.map D.bl) = some (w.map L2.V.bl)
  | [] => rfl
  | b :: w => by
    have ih := flL_bls w
    rw [List.map_cons, flL, ih]
    rfl
theorem cnt_bls : ∀ w : List Bool, (w.map L2.V.bl).countP (fun z => L2.eqV z (.bl true)) = (w.filter id).length
  | [] => rfl
  | b :: w => by
    have ih := cnt_bls w
    rw [List.map_cons, List.countP_cons, ih]
    cases b <;> rfl
theorem cntT_bls (w : List Bool) : cntT (w.map D.bl) = some (.int (nTrue w)) := by
  unfold cntT
  rw [flL_bls]
  show some (D.int _) = _
  rw [cnt_bls]
  rfl
theorem WE.cntT {ρ : Ss} {i : Nat} {ds : List D} {Q : D → M → Prop} {d : D} (h : ρ.getD i none = some (.tup ds)) (e : L4.cntT ds = some d) (q : Q d m) : WE (eCntT i) ρ m Q := ⟨d, m, by
  unfold eCntT
  rw [h]
  show pu (L4.cntT ds) m = _
  rw [e]
  rfl, q⟩
theorem WE.repT {a : AF} {ρ : Ss} {i : Nat} {k : Int} {Q : D → M → Prop} (h : WA a ρ m fun xs m1 => xs = [.int k] ∧ m1 = m) (h0 : 0 ≤ k) (h1 : k ≤ 1000) (q : Q (.lst ((List.replicate k.toNat true).map D.bl)) m) : WE (eLcK false (iR1 a) (.one i) tTrue (eC (.bl true))) ρ m Q := by
  refine WE.lcI (fun m' acc => m' = m ∧ acc = (List.replicate acc.length true).map D.bl) (WI.r1 ?_)
  obtain ⟨xs, m1, e1, rfl, rfl⟩ := h
  refine ⟨_, _, e1, k, rfl, by omega, by simp [rngD]; omega, ⟨rfl, rfl⟩, ?_, ?_⟩
  · rintro j x m2 acc _ _ ⟨rfl, e⟩
    refine ⟨[x], rfl, WE.c ⟨rfl, ?_⟩⟩
    rw [List.length_append, List.length_singleton, List.replicate_succ', List.map_append, ← e]
    rfl
  · rintro m2 acc hl ⟨rfl, e⟩
    rw [e, hl, show (rngD 0 k.toNat).length = k.toNat from by simp [rngD]]
    exact q
theorem frz_pair {s : Sd} {b : Bool} : frz [] (.tup [s.d, .bl b]) = some (.tup [s.d, .bl b]) := frz_p (by simp [pureD, pureL, sd_pure])
local macro_rules | `(tactic| trivial) => `(tactic| (repeat (first | with_reducible refine WS.seq ?_ | with_reducible refine WS.nx ?_ | with_reducible refine WS.rt ?_ | with_reducible refine WS.asg ?_ | with_reducible refine WS.drop ?_ | with_reducible refine WS.ret ?_ | with_reducible refine WS.nop ?_ | with_reducible refine WS.retN ?_ | with_reducible refine WS.brk ?_ | with_reducible refine WS.cont ?_ | with_reducible refine WS.sif ?_ | with_reducible refine WS.par ?_ | with_reducible refine WG.setA ?_ | with_reducible refine WE.c ?_ | with_reducible refine WE.op ?_ | with_reducible refine WE.call ?_ | with_reducible refine WE.callM ?_ | with_reducible refine WE.un ?_ | with_reducible refine WE.tup ?_ | with_reducible refine WE.lst ?_ | with_reducible refine WE.newL ?_ | with_reducible refine WE.eif ?_ | with_reducible refine WE.sl ?_ | with_reducible refine WE.isN ?_ | with_reducible refine WE.notN ?_ | with_reducible refine WE.not ?_ | with_reducible refine WE.and ?_ | with_reducible refine WE.or ?_ | with_reducible refine WE.app ?_ | with_reducible refine WE.tupR ?_ | with_reducible refine WE.lisR ?_ | with_reducible refine WE.m1 ?_ | with_reducible refine WE.tbl ?_ | with_reducible refine WE.tblNin ?_ | with_reducible refine WE.chain ?_ | with_reducible refine WE.fldF ?_ | with_reducible refine WE.mth ?_ | with_reducible refine WE.disp ?_ | with_reducible refine WE.dicC ?_ | with_reducible refine WP.nil ?_ | with_reducible refine WP.cons ?_ | with_reducible refine WE.upd ?_ | with_reducible refine WA.nil ?_ | with_reducible refine WA.cons ?_ | with_reducible refine WA.star ?_ | with_reducible refine WO.no ?_ | with_reducible refine WO.yes ?_ | with_reducible refine WT.val ?_ | with_reducible refine WT.and ?_ | with_reducible refine WT.or ?_ | with_reducible refine WT.not ?_ | with_reducible refine WT.tt ?_ | with_reducible refine WI.it ?_ | with_reducible refine Kn.add_i ?_ | with_reducible refine Kn.sub ?_ | with_reducible refine Kn.neg ?_ | with_reducible refine Kn.eq_i ?_ | with_reducible refine Kn.ne_i ?_ | with_reducible refine Kn.lt ?_ | with_reducible refine Kn.le ?_ | with_reducible refine Kn.gt ?_ | with_reducible refine Kn.ge ?_ | with_reducible refine Kn.int_i ?_ | with_reducible refine Kn.int_b ?_ | with_reducible refine Kn.abs ?_ | with_reducible refine Kn.min2 ?_ | with_reducible refine Kn.max2 ?_ | with_reducible refine Kn.len_t ?_ | with_reducible refine Kn.len_l ?_ | with_reducible refine Kn.len_s ?_ | with_reducible refine Kn.tup_t ?_ | with_reducible refine Kn.tup_l ?_ | with_reducible refine Kn.lis_t ?_ | with_reducible refine Kn.lis_l ?_ | with_reducible refine Kn.seq_t ?_ | with_reducible refine Kn.seq_l ?_ | with_reducible refine Kn.it_t ?_ | with_reducible refine Kn.it_l ?_ | with_reducible refine Kn.it_s ?_ | with_reducible refine Kn.str_s ?_ | with_reducible refine Kn.sl_t ?_ | with_reducible refine Kn.sl_l ?_ | with_reducible refine Kn.sl_rt ?_ | with_reducible refine Kn.ix_rt1 ?_ | with_reducible refine Kn.ix_rt2 ?_ | with_reducible refine Kn.kx_need ?_ | with_reducible refine Kn.kx_of ?_ | with_reducible refine Kn.kx_base ?_ | with_reducible refine Kn.kx_more ?_ | with_reducible refine Kn.kx_most ?_ | with_reducible refine Kn.kx_calm ?_ | with_reducible refine Kn.kx_back ?_ | with_reducible refine Kn.kx_under ?_ | with_reducible refine Kn.kx_top ?_ | with_reducible refine Kn.kx_up ?_ | with_reducible refine Kn.kx_hears ?_ | with_reducible refine Fld.need ?_ | with_reducible refine Fld.of ?_ | with_reducible refine Fld.base ?_ | with_reducible refine Fld.more ?_ | with_reducible refine Fld.most ?_ | with_reducible refine Fld.calm ?_ | with_reducible refine Fld.back ?_ | with_reducible refine Fld.top ?_ | with_reducible refine Fld.under ?_ | with_reducible refine Fld.up ?_ | with_reducible refine Fld.hears ?_ | with_reducible refine Fld.cap ?_ | with_reducible refine Mth.time ?_ | ((with_reducible refine WG.nm ?_); dsimp only [setMany, List.set_cons_succ, List.set_cons_zero]) | ((with_reducible refine WG.one ?_); dsimp only [setMany, List.set_cons_succ, List.set_cons_zero]) | ((with_reducible refine WG.tup ?_ ?_); exact rfl; dsimp only [setMany, List.set_cons_succ, List.set_cons_zero]) | ((with_reducible apply WE.var); exact rfl) | ((with_reducible apply WS.aug); exact rfl) | ((with_reducible apply WE.newPL); exact rfl) | ((with_reducible refine WS.ite_t ?_ ?_); exact rfl) | ((with_reducible refine WS.ite_f ?_ ?_); exact rfl) | ((with_reducible refine WE.ite_t ?_ ?_); exact rfl) | ((with_reducible refine WE.ite_f ?_ ?_); exact rfl) | ((with_reducible refine w_and_t ?_ ?_); exact rfl) | ((with_reducible refine w_and_f ?_ ?_); exact rfl) | ((with_reducible refine w_or_t ?_ ?_); exact rfl) | ((with_reducible refine w_or_f ?_ ?_); exact rfl) | ((with_reducible refine Kn.fdiv ?_ ?_); exact ⟨by decide, by decide⟩) | ((with_reducible refine Kn.mod ?_ ?_); decide) | ((with_reducible refine And.intro (a := (_ && _) = true) ?_ ?_); exact rfl) | ((with_reducible refine And.intro (a := List.length _ = List.length _) ?_ ?_); exact rfl; dsimp only [setMany, List.set_cons_succ, List.set_cons_zero]) | ((with_reducible refine ⟨wsz ?_, ?_⟩); first | decide | (show (_ : Nat) ≤ 1000; simp only [List.length_cons, List.length_nil]; decide)) | with_reducible refine ⟨_, rfl, ?_⟩)))
theorem lout_b (h : r.B9) {t : Int} (ht : t ≤ r.cap) : F__law_out [.dic rK r.kv, .int t] = some (r.leftOut t).d := by
  rw [leftOut_lt ht]
  refine WS.runP (n := 3) (b := f__law_out) ?_ rfl
  show WS _ [some (.dic rK r.kv), some (.int t), none] [] _
  trivial
  refine Kn.call pure_kk (lcap_b h) ?_
  trivial
  by_cases hd : t < r.cap
  · rw [decide_eq_true hd, if_pos hd]
    trivial
    refine Kn.call pure2ki (ltime_b h _) ?_
    trivial
    exact frz_p rfl
  · rw [decide_eq_false hd, if_neg hd]
    trivial
    refine Kn.call pure2ki (ltime_b h _) ?_
    trivial
    exact frz_p rfl
theorem lback_b (h : r.Ok) (t : Int) : F__law_back [.dic rK r.kv, .int t] = some (r.comeBack t).d := by
  refine WS.runP (n := 4) (b := f__law_back) ?_ rfl
  show WS _ [some (.dic rK r.kv), some (.int t), none, none] [] _
  trivial
  have hf := faults_ok h
  have e : r.need - (r.need + 1) / 2 = r.need / 2 := by omega
  cases hb : r.back with
  | trial =>
    refine Kn.mk (d := .bl true) (eqB (by kernel_rfl)) ?_
    trivial
    unfold Ru.comeBack
    rw [hb]
    exact frz_p rfl
  | half =>
    refine Kn.mk (d := .bl false) (eqB (by kernel_rfl)) ?_
    trivial
    rw [hb]
    refine Kn.mk (d := .bl true) (eqB (by kernel_rfl)) ?_
    trivial
    have ef : r.faults = r.need / 2 := by
      unfold Ru.faults
      rw [hb, e] <;> rfl
    rw [ef] at hf
    refine WE.repT (k := r.need / 2) ?_ hf.1 (by omega) ?_
    · trivial
      exact ⟨rfl, rfl⟩
    trivial
    unfold Ru.comeBack
    rw [hb, ef]
    exact frz_p (sd_pure (.inn _ t 0))
  | opn =>
    refine Kn.mk (d := .bl false) (eqB (by kernel_rfl)) ?_
    trivial
    rw [hb]
    refine Kn.mk (d := .bl false) (eqB (by kernel_rfl)) ?_
    trivial
    have ef : r.faults = 0 := by
      unfold Ru.faults
      rw [hb] <;> rfl
    refine WE.repT (k := 0) ?_ (by decide) (by decide) ?_
    · trivial
      exact ⟨rfl, rfl⟩
    trivial
    unfold Ru.comeBack
    rw [hb, ef]
    exact frz_p (sd_pure (.inn _ t 0))
theorem lfaulted_b (h : r.Ok) (h9 : r.B9) {w : List Bool} {t c : Int} (hw : w.length ≤ 200) (ht : t ≤ r.cap) (room : Bool) : F__law_faulted [.dic rK r.kv, (Sd.inn w t c).d, .bl room] = some (.tup [(r.afterFault w t room).1.d, .bl (r.afterFault w t room).2]) := by
  have hz : (w.map D.bl).length + [D.bl true].length ≤ sizeLine := wsz (by simp; omega)
  have e0 : (0 : Int) - r.of = -r.of := by omega
  refine WS.runP (n := 5) (b := f__law_faulted) ?_ rfl
  show WS _ [some (.dic rK r.kv), some (Sd.inn w t c).d, some (.bl room), none, none] [] _
  trivial
  refine Kn.mk (ix1 (m := [])) ?_
  trivial
  refine Kn.add_t hz ?_
  trivial
  rw [e0, cut_bls]
  trivial
  refine Kn.mk (ix2 (m := [])) ?_
  trivial
  refine WE.cntT rfl (cntT_bls _) ?_
  trivial
  unfold Ru.afterFault
  by_cases h1 : nTrue (r.cut w true) < r.need
  · rw [decide_eq_true h1, if_pos h1]
    trivial
    exact frz_p (by simp [pureD, pureL, sd_pure, pure_bls])
  · rw [decide_eq_false h1, if_neg h1]
    trivial
    unfold Ru.atTry
    cases room
    · trivial
      exact frz_p (by simp [pureD, pureL, sd_pure, pure_bls])
    · trivial
      refine Kn.mk (ix2 (m := [])) ?_
      trivial
      refine Kn.call pure2ki (lout_b h9 ht) ?_
      trivial
      exact frz_p (by simp [pureD, pureL, sd_pure])
theorem lturn_out (h : r.Ok) {l t : Int} (hl : 1 ≤ l) (fault room : Bool) : F__law_turn [.dic rK r.kv, (Sd.out l t).d, .bl fault, .bl room] = some (tw (r.afterTurn (.out l t) fault room)) := by
  refine WS.runP (n := 10) (b := f__law_turn) ?_ rfl
  show WS _ [some (.dic rK r.kv), some (Sd.out l t).d, some (.bl fault), some (.bl room), none, none, none, none, none, none] [] _
  trivial
  refine Kn.mk (ixo0 (m := [])) ?_
  trivial
  refine Kn.mk (eq_out_out (m := [])) ?_
  trivial
  have key : ∀ e : Wh, WS f__law_turn_2 [some (.dic rK r.kv), some (Sd.out l t).d, some (.bl fault), some (.bl room), some (.str e.s), none, none, none, none, none] [] (sqk f__law_turn_9 fun rr m => ∃ y, rr = .rt y ∧ frz m y = some (.tup [(if l == 1 then r.comeBack t else .out (l - 1) t).d, .str e.s, .bl false])) := fun e => by
    unfold f__law_turn_2
    trivial
    refine Kn.mk (show ixA [] (Sd.out l t).d (.int 1) = some (.int l) from rfl) ?_
    trivial
    by_cases h1 : 1 < l
    · rw [decide_eq_true h1, if_neg (show ¬ (l == 1) = true by simp; omega)]
      trivial
      refine Kn.mk (show ixA [] (Sd.out l t).d (.int 1) = some (.int l) from rfl) ?_
      trivial
      refine Kn.mk (show ixA [] (Sd.out l t).d (.int 2) = some (.int t) from rfl) ?_
      trivial
      exact frz_p rfl
    · rw [decide_eq_false h1, if_pos (show (l == 1) = true by simp; omega)]
      trivial
      refine Kn.mk (show ixA [] (Sd.out l t).d (.int 2) = some (.int t) from rfl) ?_
      trivial
      refine Kn.call pure2ki (lback_b h t) ?_
      trivial
      exact frz_p (by simp [pureD, pureL, sd_pure])
  cases fault
  · show WE (eC (.str "missed")) _ _ _
    exact WE.c (WG.nm (WS.nx (key .missed)))
  · show WE (eC (.str "skip")) _ _ _
    exact WE.c (WG.nm (WS.nx (key .skip)))
theorem lturn_trial (h : r.Ok) (h9 : r.B9) {t : Int} (ht : t ≤ r.cap) (fault room : Bool) : F__law_turn [.dic rK r.kv, (Sd.trial t).d, .bl fault, .bl room] = some (tw (r.afterTurn (.trial t) fault room)) := by
  refine WS.runP (n := 10) (b := f__law_turn) ?_ rfl
  show WS _ [some (.dic rK r.kv), some (Sd.trial t).d, some (.bl fault), some (.bl room), none, none, none, none, none, none] [] _
  trivial
  refine Kn.mk (ixt0 (m := [])) ?_
  trivial
  refine Kn.mk (eq_trial_out (m := [])) ?_
  trivial
  refine Kn.mk (ixt0 (m := [])) ?_
  trivial
  refine Kn.mk (eq_trial_trial (m := [])) ?_
  trivial
  cases fault
  · trivial
    refine Kn.mk (ixt1 (m := [])) ?_
    trivial
    exact frz_p rfl
  · trivial
    refine Kn.mk (ixt1 (m := [])) ?_
    trivial
    refine Kn.call pure2ki (lout_b h9 ht) ?_
    trivial
    exact frz_p (by simp [pureD, pureL, sd_pure])
theorem lturn_in (h : r.Ok) (h9 : r.B9) {w : List Bool} {t c : Int} (hw : w.length ≤ 200) (ht : t ≤ r.cap) (hc : c = 0 ∨ (t ≠ 0 ∧ c < r.calm)) (fault room : Bool) : F__law_turn [.dic rK r.kv, (Sd.inn w t c).d, .bl fault, .bl room] = some (tw (r.afterTurn (.inn w t c) fault room)) := by
  have hz : (w.map D.bl).length + [D.bl false].length ≤ sizeLine := wsz (by simp; omega)
  have e0 : (0 : Int) - r.of = -r.of := by omega
  have c0 := h.c0
  refine WS.runP (n := 10) (b := f__law_turn) ?_ rfl
  show WS _ [some (.dic rK r.kv), some (Sd.inn w t c).d, some (.bl fault), some (.bl room), none, none, none, none, none, none] [] _
  trivial
  refine Kn.mk (ix0 (m := [])) ?_
  trivial
  refine Kn.mk (eq_in_out (m := [])) ?_
  trivial
  refine Kn.mk (ix0 (m := [])) ?_
  trivial
  refine Kn.mk (eq_in_trial (m := [])) ?_
  trivial
  cases fault
  · trivial
    refine Kn.mk (ix1 (m := [])) ?_
    trivial
    refine Kn.add_t hz ?_
    trivial
    rw [e0, cut_bls]
    trivial
    refine Kn.mk (ix2 (m := [])) ?_
    trivial
    refine Kn.mk (show ixA [] (Sd.inn w t c).d (.int 3) = some (.int c) from rfl) ?_
    trivial
    have fin : ∀ t' c' : Int, Sd.inn (r.cut w false) t' c' = r.afterOk w t c → frz [] (.tup [.tup [.str "in", .tup ((r.cut w false).map .bl), .int t', .int c'], .str "ok", .bl false]) = some (tw (r.afterTurn (.inn w t c) false room)) := fun t' c' e => by
      have e2 : tw (r.afterTurn (.inn w t c) false room) = .tup [(r.afterOk w t c).d, .str "ok", .bl false] := rfl
      rw [e2, ← e]
      exact frz_p (by simp [pureD, pureL, sd_pure, pure_bls, Sd.d])
    have hok : r.afterOk w t c = if (t == 0 || r.calm == 0) = true then .inn (r.cut w false) t 0 else if r.calm ≤ c + 1 then .inn (r.cut w false) 0 0 else .inn (r.cut w false) t (c + 1) := rfl
    by_cases a1 : t = 0
    · subst a1
      rw [show ((0 : Int) == 0) = true from rfl]
      trivial
      have ea : r.afterOk w 0 c = .inn (r.cut w false) 0 0 := by rw [hok, if_pos (show ((0 : Int) == 0 || r.calm == 0) = true from rfl)]
      cases hq : decide (0 < r.calm)
      · trivial
        exact fin _ _ ea.symm
      · trivial
        exact fin _ _ ea.symm
    · rw [show (t == 0) = false from by simpa using a1]
      trivial
      by_cases a2 : r.calm = 0
      · rw [show (r.calm == 0) = true from by simpa using a2]
        trivial
        rw [decide_eq_false (show ¬ 0 < r.calm by omega)]
        trivial
        exact fin _ _ (by rw [hok, if_pos (by simp [a2])])
      · rw [show (r.calm == 0) = false from by simpa using a2]
        have eb : (t == 0 || r.calm == 0) = false := by simp [a1, a2]
        trivial
        by_cases a3 : c + 1 = r.calm
        · rw [show (c + 1 == r.calm) = true from by simpa using a3]
          trivial
          rw [decide_eq_true (show 0 < r.calm by omega)]
          trivial
          exact fin _ _ (by rw [hok, eb, if_neg (by decide), if_pos (by omega)])
        · rw [show (c + 1 == r.calm) = false from by simpa using a3]
          trivial
          exact fin _ _ (by rw [hok, eb, if_neg (by decide), if_neg (by omega)])
  · trivial
    refine Kn.call pure_ks (lfaulted_b h h9 hw ht room) ?_
    trivial
    exact frz_p (by simp [pureD, pureL, sd_pure])
/-- what the law's own steps ask of a standing -/
def Sd.Lb (r : Ru) : Sd → Prop
  | .inn w t c => w.length ≤ 200 ∧ t ≤ r.cap ∧ (c = 0 ∨ (t ≠ 0 ∧ c < r.calm))
  | .out l _ => 1 ≤ l
  | .trial t => t ≤ r.cap
theorem lturn_b (h : r.Ok) (h9 : r.B9) {s : Sd} (hs : s.Lb r) (fault room : Bool) : F__law_turn [.dic rK r.kv, s.d, .bl fault, .bl room] = some (tw (r.afterTurn s fault room)) := by
  cases s with
  | inn w t c => exact lturn_in h h9 hs.1 hs.2.1 hs.2.2 fault room
  | out l t => exact lturn_out h hs fault room
  | trial t => exact lturn_trial h h9 hs fault room
theorem lword_b (h : r.Ok) (h9 : r.B9) {s : Sd} (hs : s.Lb r) (room : Bool) : F__law_word [.dic rK r.kv, s.d, .bl room] = some (.tup [(r.afterWord s room).1.d, .bl (r.afterWord s room).2]) := by
  refine WS.runP (n := 3) (b := f__law_word) ?_ rfl
  show WS _ [some (.dic rK r.kv), some s.d, some (.bl room)] [] _
  cases s with
  | out l t =>
    trivial
    refine Kn.mk (ixo0 (m := [])) ?_
    trivial
    refine Kn.mk (ne_out_in (m := [])) ?_
    trivial
    exact frz_pair (s := .out l t)
  | trial t =>
    trivial
    refine Kn.mk (ixt0 (m := [])) ?_
    trivial
    refine Kn.mk (ne_trial_in (m := [])) ?_
    trivial
    exact frz_pair (s := .trial t)
  | inn w t c =>
    trivial
    refine Kn.mk (ix0 (m := [])) ?_
    trivial
    refine Kn.mk (ne_in_in (m := [])) ?_
    trivial
    unfold Ru.afterWord
    cases hh : r.hears with
    | no =>
      refine Kn.mk (d := .bl true) (eqB (by kernel_rfl)) ?_
      trivial
      exact frz_pair (s := .inn w t c)
    | fault =>
      refine Kn.mk (d := .bl false) (eqB (by kernel_rfl)) ?_
      trivial
      rw [hh]
      refine Kn.mk (d := .bl true) (eqB (by kernel_rfl)) ?_
      trivial
      refine Kn.call pure_ks (lfaulted_b h h9 hs.1 hs.2.1 room) ?_
      trivial
      exact frz_pair
    | out =>
      refine Kn.mk (d := .bl false) (eqB (by kernel_rfl)) ?_
      trivial
      rw [hh]
      refine Kn.mk (d := .bl false) (eqB (by kernel_rfl)) ?_
      trivial
      cases room
      · trivial
        exact frz_pair (s := .inn w t c)
      · trivial
        refine Kn.mk (ix2 (m := [])) ?_
        trivial
        refine Kn.call pure2ki (lout_b h9 hs.2.1) ?_
        trivial
        exact frz_pair
end
end L4
namespace L4
open PySem
structure Ca where
  st : List Sd
  la : List Str
  fe : List Int
  mi : List Int
structure Wo where
  cs : List Ca
  lo : List (Nat × Nat)
inductive Ev where
  | turn (c s : Nat) (f : Bool)
  | told (c d s : Nat)
inductive Go where | all | kept | swap
deriving DecidableEq
def Go.s : Go → Str
  | .all => "all"
  | .kept => "kept"
  | .swap => "swap"
def Ev.c : Ev → Nat
  | .turn c _ _ => c
  | .told c _ _ => c
def Ev.s : Ev → Nat
  | .turn _ s _ => s
  | .told _ _ s => s
def Ev.d : Ev → D
  | .turn c s f => .tup [.str "turn", .int (c : Nat), .int (s : Nat), .bl f]
  | .told c d s => .tup [.str "told", .int (c : Nat), .int (d : Nat), .int (s : Nat)]
def Sd.isIn : Sd → Bool
  | .inn _ _ _ => true
  | _ => false
def Sd.isOut : Sd → Bool
  | .out _ _ => true
  | _ => false
def Ca.outs (c : Ca) : Nat := (c.st.filter fun s => !s.isIn).length
def caN : Ca := ⟨[], [], [], []⟩
def Wo.at_ (w : Wo) (i : Nat) : Ca := w.cs.getD i caN
section
variable (r : Ru) (most : Int) (w : Wo)
/-- the standing behind an event, what a turn was, whether the server is kept -/
def Ru.hap : Ev → Sd × Option Wh × Bool
  | .turn c s f => let x := r.afterTurn ((w.at_ c).st.getD s begun) f (decide (((w.at_ c).outs : Int) < most)); (x.1, some x.2.1, x.2.2)
  | .told c _ s => let x := r.afterWord ((w.at_ c).st.getD s begun) (decide (((w.at_ c).outs : Int) < most)); (x.1, none, x.2)
def Ca.put (c : Ca) (s : Nat) (x : Sd) : Option Wh → Ca
  | some v => ⟨c.st.set s x, c.la.set s v.s, c.fe.set s (c.fe.getD s 0 + if v = .felt then 1 else 0), c.mi.set s (c.mi.getD s 0 + if v = .missed then 1 else 0)⟩
  | none => ⟨c.st.set s x, c.la, c.fe, c.mi⟩
def addLo (lo : List (Nat × Nat)) (k : Nat × Nat) : List (Nat × Nat) := if k ∈ lo then lo else lo ++ [k]
def Ru.nxt (e : Ev) : Wo := ⟨w.cs.set e.c ((w.at_ e.c).put e.s (r.hap most w e).1 (r.hap most w e).2.1), if (r.hap most w e).1.isOut then addLo w.lo (e.c, e.s) else w.lo⟩
/-- other servers that are out or on trial -/
def spots (s : Nat) : Nat → List Sd → List Nat
  | _, [] => []
  | i, x :: xs => (bif !x.isIn && !(i == s) then [i] else []) ++ spots s (i + 1) xs
def Ca.better (c : Ca) (s : Nat) : Bool := (spots s 0 c.st).any fun i => decide (c.la.getD i Str.empty = "missed")
def Ca.goals (c : Ca) (s : Nat) (kept : Bool) : List Go := (bif c.st.all Sd.isOut then [.all] else []) ++ (bif kept then .kept :: (bif c.better s then [.swap] else []) else [])
def Ru.goals (e : Ev) : List Go := ((w.at_ e.c).put e.s (r.hap most w e).1 (r.hap most w e).2.1).goals e.s (r.hap most w e).2.2
def Wo.can : Ev → Prop
  | .turn _ _ _ => True
  | .told _ d s => (d, s) ∈ w.lo
end
instance (w : Wo) (e : Ev) : Decidable (w.can e) := by cases e <;> unfold Wo.can <;> infer_instance
/-- a row of events -/
def Ru.go (r : Ru) (most : Int) : Nat → Wo → List Ev → Wo × List (Nat × Go)
  | _, w, [] => (w, [])
  | i, w, e :: es => ((r.go most (i + 1) (r.nxt most w e) es).1, (r.goals most w e).map (fun g => (i, g)) ++ (r.go most (i + 1) (r.nxt most w e) es).2)
def Ev.In (nc ns : Nat) : Ev → Prop
  | .turn c s _ => c < nc ∧ s < ns
  | .told c d s => c < nc ∧ d < nc ∧ s < ns ∧ c ≠ d
structure Ca.Ok (r : Ru) (ns : Nat) (c : Ca) : Prop where
  st : c.st.length = ns
  la : c.la.length = ns
  fe : c.fe.length = ns
  mi : c.mi.length = ns
  sn : ∀ s ∈ c.st, s.In r
  lz : ∀ z ∈ c.la, PyData.strOk z = true
structure Wo.Ok (r : Ru) (nc ns : Nat) (w : Wo) : Prop where
  cs : w.cs.length = nc
  ca : ∀ c ∈ w.cs, c.Ok r ns
  lo : w.lo.Nodup
  lb : ∀ k ∈ w.lo, k.1 < nc ∧ k.2 < ns
def ca0 (ns : Nat) : Ca := ⟨List.replicate ns begun, List.replicate ns ("" : Str), List.replicate ns 0, List.replicate ns 0⟩
def wo0 (nc ns : Nat) : Wo := ⟨List.replicate nc (ca0 ns), []⟩
section
variable {r : Ru} {most : Int} {w : Wo} {nc ns : Nat} {e : Ev}
theorem wh_strOk (v : Wh) : PyData.strOk v.s = true := by cases v <;> decide +kernel
theorem Ev.In.c (h : e.In nc ns) : e.c < nc := by cases e <;> exact h.1
theorem Ev.In.s (h : e.In nc ns) : e.s < ns := by
  cases e with
  | turn => exact h.2
  | told => exact h.2.2.1
theorem wo0_ok (h : r.Ok) : (wo0 nc ns).Ok r nc ns := ⟨List.length_replicate .., fun c hc => by
  rw [List.eq_of_mem_replicate hc]
  exact ⟨List.length_replicate .., List.length_replicate .., List.length_replicate .., List.length_replicate .., fun s hs => by rw [List.eq_of_mem_replicate hs]; exact begun_in h, fun z hz => by rw [List.eq_of_mem_replicate hz]; decide +kernel⟩, List.nodup_nil, fun k hk => nomatch hk⟩
theorem Wo.Ok.get (h : w.Ok r nc ns) {i : Nat} (hi : i < nc) : w.cs[i]? = some (w.at_ i) := by
  have := h.cs
  unfold Wo.at_
  rw [List.getD_eq_getElem?_getD, List.getElem?_eq_getElem (by omega)]
  rfl
theorem Wo.Ok.at_ (h : w.Ok r nc ns) {i : Nat} (hi : i < nc) : (w.at_ i).Ok r ns := h.ca _ (List.mem_of_getElem? (h.get hi))
theorem getD_in {l : List Sd} {s : Nat} (hs : s < l.length) : l.getD s begun ∈ l := by
  rw [List.getD_eq_getElem?_getD, List.getElem?_eq_getElem hs]
  exact List.getElem_mem hs
theorem turn_in (h : r.Ok) {s : Sd} (q : s.In r) (f b : Bool) : (r.afterTurn s f b).1.In r := by
  cases s with
  | inn w t c =>
    unfold Ru.afterTurn
    dsimp only
    split
    · exact fault_in h q
    · exact okk_in h q
  | out l t =>
    obtain ⟨q1, q2, q3, q4⟩ := q
    unfold Ru.afterTurn
    dsimp only
    split
    · exact back_in h q3 q4
    · next hl =>
      have : l ≠ 1 := by simpa using hl
      exact ⟨by omega, by omega, q3, q4⟩
  | trial t =>
    obtain ⟨q1, q2⟩ := q
    have := h.c0; have := h.n1; have := h.n2
    unfold Ru.afterTurn
    dsimp only
    split
    · exact left_in h (by omega)
    · refine ⟨?_, by omega, q2, by omega, by omega⟩
      show (0 : Int) ≤ r.of
      omega
theorem word_in (h : r.Ok) {s : Sd} (q : s.In r) (b : Bool) : (r.afterWord s b).1.In r := by
  cases s with
  | inn w t c =>
    show (if (r.hears matches .no) = true then ((.inn w t c : Sd), false) else if (r.hears matches .out) = true then r.atTry (.inn w t c) t b else r.afterFault w t b).1.In r
    by_cases h1 : (r.hears matches .no) = true
    · rw [if_pos h1]; exact q
    · rw [if_neg h1]
      by_cases h2 : (r.hears matches .out) = true
      · rw [if_pos h2]; exact try_in h q
      · rw [if_neg h2]; exact fault_in h q
  | out l t => exact q
  | trial t => exact q
theorem hap_in (h : r.Ok) (W : w.Ok r nc ns) (he : e.In nc ns) : (r.hap most w e).1.In r := by
  have hs := he.s
  have hc := W.at_ he.c
  cases e with
  | turn c s f => exact turn_in h (hc.sn _ (getD_in (by rw [hc.st]; exact hs))) _ _
  | told c d s => exact word_in h (hc.sn _ (getD_in (by rw [hc.st]; exact hs))) _
theorem put_ok {c : Ca} (C : c.Ok r ns) {s : Nat} {x : Sd} (hx : x.In r) (v : Option Wh) : (c.put s x v).Ok r ns := by
  have hm : ∀ t ∈ c.st.set s x, t.In r := fun t ht => (List.mem_or_eq_of_mem_set ht).elim (C.sn t) fun e => e ▸ hx
  cases v with
  | none => exact ⟨by simp [Ca.put, C.st], C.la, C.fe, C.mi, hm, C.lz⟩
  | some v => exact ⟨by simp [Ca.put, C.st], by simp [Ca.put, C.la], by simp [Ca.put, C.fe], by simp [Ca.put, C.mi], hm, fun z hz => (List.mem_or_eq_of_mem_set hz).elim (C.lz z) fun e => e ▸ wh_strOk v⟩
theorem addLo_nd {lo : List (Nat × Nat)} {k : Nat × Nat} (h : lo.Nodup) : (addLo lo k).Nodup := by
  unfold addLo
  split
  · exact h
  · next hk => exact List.nodup_append.mpr ⟨h, by simp, fun a ha b hb => by rw [List.mem_singleton.mp hb]; rintro rfl; exact hk ha⟩
theorem addLo_mem {lo : List (Nat × Nat)} {k x : Nat × Nat} (h : x ∈ addLo lo k) : x ∈ lo ∨ x = k := by
  unfold addLo at h
  split at h
  · exact .inl h
  · exact (List.mem_append.mp h).imp id fun z => List.mem_singleton.mp z
theorem nxt_ok (h : r.Ok) (W : w.Ok r nc ns) (he : e.In nc ns) : (r.nxt most w e).Ok r nc ns := by
  refine ⟨by simp [Ru.nxt, W.cs], fun c hc => ?_, ?_, fun k hk => ?_⟩
  · rcases List.mem_or_eq_of_mem_set (show c ∈ w.cs.set e.c _ from hc) with hc | rfl
    · exact W.ca c hc
    · exact put_ok (W.at_ he.c) (hap_in h W he) _
  · show (if _ then addLo w.lo _ else w.lo).Nodup
    split
    · exact addLo_nd W.lo
    · exact W.lo
  · change k ∈ (if _ then addLo w.lo _ else w.lo) at hk
    split at hk
    · rcases addLo_mem hk with hk | rfl
      · exact W.lb k hk
      · exact ⟨he.c, he.s⟩
    · exact W.lb k hk
end
end L4
namespace L4
open PySem
section
variable {m : M} {ρ : Ss}
theorem insOf_ref {n : Nat} {c : Str} {ns : List Str} {vs : List D} (h : m[n]? = some (.ins c ns vs)) : insOf m (.ref n) = some (c, ns, vs) := by
  show (m[n]?).bind insO = _
  rw [h]
  rfl
theorem Fld.ref {n : Nat} {c f : Str} {cs ns : List Str} {vs : List D} {v : D} {Q : D → Prop} (h : m[n]? = some (.ins c ns vs)) (hc : cs.contains c = true) (hv : fldAt ns vs f = some v) (q : Q v) : Fld m (.ref n) cs f Q := ⟨c, ns, vs, v, insOf_ref h, hc, hv, q⟩
theorem WE.ext {o e : EF} {Q : D → M → Prop} (h : WE o ρ m fun x m1 => ∃ n, x = .ref n ∧ (∃ ds0, m1[n]? = some (.lst ds0)) ∧ WE e ρ m1 fun y m2 => ∃ ds es, m2[n]? = some (.lst ds) ∧ lstOf m2 y = some es ∧ ds.length + es.length ≤ sizeLine ∧ Q .non (m2.set n (.lst (ds ++ es)))) : WE (eLm0 extL o (aCons e aNil)) ρ m Q := by
  obtain ⟨x, m1, e1, n, rfl, ⟨ds0, h0⟩, y, m2, e2, ds, es, h1, h2, h3, q⟩ := h
  refine ⟨.non, _, ?_, q⟩
  have ea : aCons e aNil ρ m1 = some ([y], m2) := by unfold aCons; rw [e2]; rfl
  unfold eLm0
  rw [e1]
  simp only [bd_go, h0, ea, h1, extL, h2, if_pos h3, Option.map_some]
/-- [e for x in xs if c], xs a list in the heap, nothing drawn -/
theorem WE.lcR {a : EF} {t : Tgt} {c : TF} {e : EF} {α : Type} {enc : α → D} {xs : List α} {n : Nat} (b : α → Bool) (f : α → D) {Q : D → M → Prop} (h1 : WE a ρ m fun x m1 => x = .ref n ∧ m1 = m) (h2 : m[n]? = some (.lst (xs.map enc))) (hl : xs.length < 1000000)
    (h : ∀ x ∈ xs, ∃ ys, t.un (enc x) = some ys ∧ WT c (setMany ρ t.is ys) m (fun v m1 => v = b x ∧ m1 = m) ∧ (b x = true → WE e (setMany ρ t.is ys) m fun v m1 => v = f x ∧ m1 = m)) (q : Q (.lst ((xs.filter b).map f)) m) : WE (eLcV false (lIt a) t c e) ρ m Q := by
  obtain ⟨x, m1, e1, rfl, rfl⟩ := h1
  refine WE.lcT (fun _ => b) (fun _ => f) (lIt_R e1 h2) (tells_R h2) hl (fun i x hx => h x (List.mem_of_getElem? hx)) ?_
  have ep : ∀ (i : Nat) (l : List α), pickF (fun _ => b) (fun _ => f) i l = (l.filter b).map f := fun i l => by
    induction l generalizing i with
    | nil => rfl
    | cons x l ih =>
      rw [pickF, ih]
      cases hb : b x <;> simp [hb]
  rw [ep]
  exact q
end
end L4
namespace L4
open PySem
section
variable {m m0 : M} {ρ : Ss} {r : Ru} {most : Int} {w : Wo} {nc ns n b : Nat} {c : Ca} {e : Ev} {B : List Sd} {met : List (Nat × Go)} {many : Nat}
def Sd.tag : Sd → Str
  | .inn _ _ _ => "in"
  | .out _ _ => "out"
  | .trial _ => "trial"
theorem ix_tag (s : Sd) : ixA m s.d (.int 0) = some (.str s.tag) := by cases s <;> rfl
theorem ne_tag (s : Sd) : neD m (.str s.tag) (.str "in") = some (.bl (!s.isIn)) := by cases s <;> first | exact ne_in_in | exact ne_out_in | exact ne_trial_in
theorem eq_tag (s : Sd) : eqD m (.str s.tag) (.str "out") = some (.bl s.isOut) := by cases s <;> first | exact eq_in_out | exact eq_out_out | exact eq_trial_out
theorem ne_tago (s : Sd) : neD m (.str s.tag) (.str "out") = some (.bl (!s.isOut)) := by cases s <;> exact eqB (by kernel_rfl)
theorem eq_missed (v : Wh) : eqD m (.str v.s) (.str "missed") = some (.bl (decide (v = .missed))) := by cases v <;> exact eqB (by kernel_rfl)
theorem ixN_nat {n j : Nat} (h : j < n) : L2.ixN n ((j : Nat) : Int) = some j := by
  unfold L2.ixN
  rw [if_pos (by omega), if_pos (by omega)]
  rfl
theorem set_r {n j : Nat} {ds : List D} {x : D} (h : m[n]? = some (.lst ds)) (hj : j < ds.length) : setM m (.ref n) (.int (j : Nat)) x = some (m.set n (.lst (ds.set j x))) := by
  show ((m[n]?).bind fun o => setO o (.int (j : Nat)) x).map (fun o => m.set n o) = _
  rw [h]
  show ((L2.ixN ds.length ((j : Nat) : Int)).map fun j => O.lst (ds.set j x)).map (fun o => m.set n o) = _
  rw [ixN_nat hj]
  rfl
theorem lstR_r {n : Nat} {ds : List D} (h : m[n]? = some (.lst ds)) : lstR m (.ref n) = some ds := by
  show lstOf m (.ref n) = _
  exact lstOf_r h
theorem ix_r {n j : Nat} {ds : List D} {x : D} (h : m[n]? = some (.lst ds)) (hj : ds[j]? = some x) : ixA m (.ref n) (.int (j : Nat)) = some x := by
  have e1 : dicOf m (.ref n) = none := by
    show (m[n]?).bind dicO = _
    rw [h]
    rfl
  unfold ixA
  rw [e1]
  show (lstR m (.ref n)).bind (fun ds => L2.atI ds ((j : Nat) : Int)) = _
  rw [lstR_r h]
  exact L2.atI_nat hj
theorem ca_ix {α : Type} {l : List α} {f : α → D} {j : Nat} {x : α} (h : l[j]? = some x) : (l.map f)[j]? = some (f x) := by rw [List.getElem?_map, h]; rfl
theorem map_set {α : Type} (f : α → D) (l : List α) (j : Nat) (x : α) : (l.map f).set j (f x) = (l.set j x).map f := by rw [List.map_set]
def goD (gs : List Go) : List D := gs.map fun g => .str g.s
def Ru.lim (r : Ru) (n : Int) : Int := (n * r.top + (if r.up then r.under - 1 else 0)) / r.under
theorem WE.lcIw {nw : Bool} {it : AF} {t : Tgt} {e : EF} {Q : D → M → Prop} (I : M → List D → Prop) (h : WI it ρ m fun xs m1 => xs.length ≤ 1000000 ∧ I m1 [] ∧ (∀ i x m acc, xs[i]? = some x → acc.length = i → I m acc → ∃ ys, t.un x = some ys ∧ WE e (setMany ρ t.is ys) m fun d m1 => I m1 (acc ++ [d])) ∧ ∀ m acc, acc.length = xs.length → I m acc → Q (bif nw then .ref m.length else .lst acc) (bif nw then m ++ [.lst acc] else m)) : WE (eLcK nw it t tTrue e) ρ m Q := by
  have h2 : WE (eLcK false it t tTrue e) ρ m fun d m1 => ∃ acc, d = .lst acc ∧ Q (bif nw then .ref m1.length else .lst acc) (bif nw then m1 ++ [.lst acc] else m1) := by
    refine WE.lcI I ?_
    obtain ⟨xs, m1, e1, hz, h0, hs, hq⟩ := h
    exact ⟨xs, m1, e1, hz, h0, hs, fun m acc h1 h2 => ⟨acc, rfl, hq m acc h1 h2⟩⟩
  obtain ⟨d, m1, e1, acc, rfl, q⟩ := h2
  cases nw with
  | false => exact ⟨_, m1, e1, q⟩
  | true =>
    refine ⟨_, _, ?_, q⟩
    unfold eLcK at e1 ⊢
    obtain ⟨xs, m2, g1, g2⟩ := bd_some e1
    rw [g1, bd_go]
    obtain ⟨g3, g4⟩ := ite_some g2
    rw [if_pos g3]
    obtain ⟨ys, m3, g5, g6⟩ := bd_some g4
    rw [g5, bd_go]
    cases g6
    rfl
def rfs (b n : Nat) : List D := (List.range n).map fun i => D.ref (b + i)
theorem rfs_at {i : Nat} (h : i < n) : (rfs b n)[i]? = some (.ref (b + i)) := by
  unfold rfs
  rw [List.getElem?_map, List.getElem?_range h]
  rfl
theorem rfs_len : (rfs b n).length = n := by simp [rfs]
/-- servers that are out or on trial -/
def outI : Nat → List Sd → List Nat
  | _, [] => []
  | i, x :: xs => (bif !x.isIn then [i] else []) ++ outI (i + 1) xs
theorem outI_spots (s : Nat) : ∀ (i : Nat) (l : List Sd), (outI i l).filter (fun j => !(j == s)) = spots s i l
  | _, [] => rfl
  | i, x :: l => by
    rw [outI, spots, List.filter_append, outI_spots s (i + 1) l]
    congr 1
    cases h : !x.isIn
    · rfl
    · show List.filter (fun j => !(j == s)) [i] = bif (true && !(i == s)) then [i] else []
      cases h2 : (i == s) <;> simp [h2]
theorem eq_nilS (l : List Sd) : eqD m (.lst (l.map Sd.d)) (.lst []) = some (.bl l.isEmpty) := by
  obtain ⟨h1, h2, h3⟩ := pdL_sds l
  have hd : (PyData.list (l.map pdS)).depth ≤ 64 := by simp only [PyData.depth]; omega
  have e1 : pdM m (.lst (l.map Sd.d)) = some (.list (l.map pdS)) := pdM_pure (pureL_map sd_pure l) (by rw [pd, h1]; rfl) (by simp [SeqAt.shaped, PyData.canLay0, h2, hd])
  have e2 : pdM m (.lst []) = some (.list []) := pdM_pure rfl rfl (by simp [SeqAt.shaped, PyData.canLay0, PyData.canLayAll0, PyData.depth, PyData.depthAll])
  unfold eqD
  rw [e1, e2]
  cases l <;> rfl
theorem filt_all (l : List Sd) : (l.filter fun s => !s.isOut).isEmpty = l.all Sd.isOut := by
  induction l with
  | nil => rfl
  | cons a l ih =>
    rw [List.filter_cons, List.all_cons]
    cases h : a.isOut
    · simp
    · simpa using ih
theorem forRf_inv {f : GF} {b : SF} {n : Nat} {xs : List D} {Q : Fl → M → Prop} (I : Nat → Ss → M → Prop) (hn : ∀ i ρ m, I i ρ m → m[n]? = some (.lst xs)) (h : ∀ i x ρ m, xs[i]? = some x → I i ρ m → WG f x ρ m fun ρ1 m1 => WS b ρ1 m1 fun r m2 => ∃ ρ2, (r = .nx ρ2 ∨ r = .ct ρ2) ∧ I (i + 1) ρ2 m2) (q : ∀ ρ m, I xs.length ρ m → Q (.nx ρ) m) : ∀ (k i : Nat) (ρ : Ss) (m : M), i ≤ xs.length → xs.length < k + i → I i ρ m → WS (forRef f b n k i) ρ m Q
  | 0, i, ρ, m, h1, h2, _ => by omega
  | k + 1, i, ρ, m, h1, h2, hI => by
    have e0 : (m[n]?).bind lstO = some xs := by rw [hn i ρ m hI]; rfl
    by_cases hi : i < xs.length
    · have hx : xs[i]? = some xs[i] := List.getElem?_eq_getElem hi
      obtain ⟨ρ1, m1, e1, rr, m2, e2, ρ2, hr, h3⟩ := h i _ ρ m hx hI
      obtain ⟨r3, m3, e3, h4⟩ := forRf_inv I hn h q k (i + 1) ρ2 m2 hi (by omega) h3
      refine ⟨r3, m3, ?_, h4⟩
      unfold forRef
      rw [e0]
      dsimp only
      rw [hx]
      dsimp only
      rw [e1]
      show bd (b ρ1 m1) _ = _
      rw [e2]
      rcases hr with rfl | rfl <;> exact e3
    · have hx : xs[i]? = none := List.getElem?_eq_none (by omega)
      have : i = xs.length := by omega
      subst this
      refine ⟨.nx ρ, m, ?_, q ρ m hI⟩
      unfold forRef
      rw [e0]
      dsimp only
      rw [hx]
theorem WS.forRfE {fuel : Nat} {a : EF} {g : GF} {b : SF} {Q : Fl → M → Prop} (h : WE a ρ m fun x m1 => ∃ (n : Nat) (xs : List D) (I : Nat → Ss → M → Prop), x = .ref n ∧ xs.length < fuel ∧ I 0 ρ m1 ∧ (∀ i ρ m, I i ρ m → m[n]? = some (.lst xs)) ∧ (∀ i x ρ m, xs[i]? = some x → I i ρ m → WG g x ρ m fun ρ1 m1 => WS b ρ1 m1 fun r m2 => ∃ ρ2, (r = .nx ρ2 ∨ r = .ct ρ2) ∧ I (i + 1) ρ2 m2) ∧ ∀ ρ m, I xs.length ρ m → Q (.nx ρ) m) : WS (sForA fuel a g b) ρ m Q := by
  obtain ⟨x, m1, e, n, xs, I, rfl, h1, h2, hn, hs, q⟩ := h
  obtain ⟨rr, m2, e2, h3⟩ := forRf_inv (Q := Q) I hn hs q fuel 0 ρ m1 (Nat.zero_le _) (by omega) h2
  refine ⟨rr, m2, ?_, h3⟩
  unfold sForA
  rw [e]
  exact e2
theorem enGoR {g : GF} {bd' : SF} {n : Nat} {Q : Fl → M → Prop} {ds : List D} (I : Nat → Ss → M → Prop) (hn : ∀ i ρ m, I i ρ m → m[n]? = some (.lst ds)) (hs : ∀ i x ρ m, ds[i]? = some x → I i ρ m → WG g (.tup [.int (i : Nat), x]) ρ m fun ρ1 m1 => WS bd' ρ1 m1 fun r m2 => ∃ ρ2, (r = .nx ρ2 ∨ r = .ct ρ2) ∧ I (i + 1) ρ2 m2) (hq : ∀ ρ m, I ds.length ρ m → Q (.nx ρ) m) :
    ∀ (k i : Nat) (ρ : Ss) (m : M), i ≤ ds.length → ds.length - i < k → I i ρ m → WS (forLv g bd' (nxE (nxR n)) k i) ρ m Q
  | 0, _, _, _, _, h, _ => by omega
  | k + 1, i, ρ, m, hi, hk, hI => by
    unfold WS forLv
    have e1 : nxE (nxR n) m i = some ((ds[i]?).map fun d => .tup [.int (i : Nat), d]) := by
      unfold nxE nxR
      rw [hn i ρ m hI]
      rfl
    show Wr (match nxE (nxR n) m i with
      | none => none
      | some none => some (.nx ρ, m)
      | some (some x) => bd (g x ρ m) fun ρ1 m1 => bd (bd' ρ1 m1) fun r m2 => match r with
        | .nx ρ2 => forLv g bd' (nxE (nxR n)) k (i + 1) ρ2 m2
        | .ct ρ2 => forLv g bd' (nxE (nxR n)) k (i + 1) ρ2 m2
        | .bk ρ2 => some (.nx ρ2, m2)
        | .rt d => some (.rt d, m2)) Q
    rw [e1]
    cases hx : ds[i]? with
    | none =>
      have : ds.length ≤ i := List.getElem?_eq_none_iff.mp hx
      have ei : i = ds.length := by omega
      subst ei
      exact ⟨_, m, rfl, hq ρ m hI⟩
    | some x =>
      have hl : i < ds.length := (List.getElem?_eq_some_iff.mp hx).1
      obtain ⟨ρ1, m1, g1, r, m2, g2, ρ2, hr, hI2⟩ := hs i x ρ m hx hI
      show Wr (bd (g _ ρ m) _) Q
      rw [g1]
      show Wr (bd (bd' ρ1 m1) _) Q
      rw [g2]
      have ih := enGoR (g := g) (bd' := bd') I hn hs hq k (i + 1) ρ2 m2 (by omega) (by omega) hI2
      rcases hr with rfl | rfl <;> exact ih
theorem WS.forEnR {fuel : Nat} {a : EF} {g : GF} {bd' : SF} {Q : Fl → M → Prop} (n : Nat) (ds : List D) (I : Nat → Ss → M → Prop) (h : WE a ρ m fun x m1 => x = .ref n ∧ ds.length < fuel ∧ I 0 ρ m1) (hn : ∀ i ρ m, I i ρ m → m[n]? = some (.lst ds)) (hs : ∀ i x ρ m, ds[i]? = some x → I i ρ m → WG g (.tup [.int (i : Nat), x]) ρ m fun ρ1 m1 => WS bd' ρ1 m1 fun r m2 => ∃ ρ2, (r = .nx ρ2 ∨ r = .ct ρ2) ∧ I (i + 1) ρ2 m2) (q : ∀ ρ m, I ds.length ρ m → Q (.nx ρ) m) : WS (sForV fuel (lEn (aCons a aNil)) g bd') ρ m Q := by
  obtain ⟨x, m1, e, rfl, hf, h0⟩ := h
  have e2 : lEn (aCons a aNil) ρ m = some (nxE (nxR n), m1) := by
    have ea : aCons a aNil ρ m = some ([.ref n], m1) := by unfold aCons; rw [e]; rfl
    unfold lEn
    rw [ea]
    show ((m1[n]?).bind lstO).map _ = _
    rw [hn 0 ρ m1 h0]
    rfl
  unfold WS sForV
  rw [e2]
  exact enGoR I hn hs q fuel 0 ρ m1 (Nat.zero_le _) (by omega) h0
/-- calm is told only while it counts -/
def Sd.Cn (r : Ru) : Sd → Prop
  | .inn _ t c => c = 0 ∨ (t ≠ 0 ∧ c < r.calm)
  | _ => True
theorem cn_lb (h : r.Ok) {s : Sd} (q : s.In r) (z : s.Cn r) : s.Lb r := by
  cases s with
  | inn w t c =>
    obtain ⟨h1, h2, h3, _⟩ := q
    exact ⟨by have := h.n3; omega, h3, z⟩
  | out l t => exact q.1
  | trial t => exact q.2
theorem cn_try {w : List Bool} {t : Int} {room : Bool} : (r.atTry (.inn w t 0) t room).1.Cn r := by
  unfold Ru.atTry
  cases room
  · exact .inl rfl
  · exact trivial
theorem cn_fault {w : List Bool} {t : Int} {room : Bool} : (r.afterFault w t room).1.Cn r := by
  unfold Ru.afterFault
  split
  · exact .inl rfl
  · exact cn_try
theorem cn_ok {w : List Bool} {t c : Int} : (r.afterOk w t c).Cn r := by
  unfold Ru.afterOk
  split
  · exact .inl rfl
  · next h =>
    split
    · exact .inl rfl
    · next h2 =>
      refine .inr ⟨fun z => h (by simp [z]), by omega⟩
theorem cn_back {t : Int} : (r.comeBack t).Cn r := by
  unfold Ru.comeBack
  split
  · exact trivial
  · exact .inl rfl
theorem cn_turn (s : Sd) (f room : Bool) : (r.afterTurn s f room).1.Cn r := by
  cases s with
  | inn w t c =>
    unfold Ru.afterTurn
    cases f
    · exact cn_ok
    · exact cn_fault
  | out l t =>
    unfold Ru.afterTurn
    dsimp only
    split
    · exact cn_back
    · exact trivial
  | trial t =>
    unfold Ru.afterTurn
    cases f
    · exact .inl rfl
    · exact trivial
theorem cn_word {s : Sd} (z : s.Cn r) (room : Bool) : (r.afterWord s room).1.Cn r := by
  cases s with
  | inn w t c =>
    show (if (r.hears matches .no) = true then ((.inn w t c : Sd), false) else if (r.hears matches .out) = true then r.atTry (.inn w t c) t room else r.afterFault w t room).1.Cn r
    by_cases h1 : (r.hears matches .no) = true
    · rw [if_pos h1]; exact z
    · rw [if_neg h1]
      by_cases h2 : (r.hears matches .out) = true
      · rw [if_pos h2]
        unfold Ru.atTry
        cases room
        · exact z
        · exact trivial
      · rw [if_neg h2]; exact cn_fault
  | out l t => exact trivial
  | trial t => exact trivial
def Wo.Cn (r : Ru) (w : Wo) : Prop := ∀ c ∈ w.cs, ∀ s ∈ c.st, s.Cn r
theorem wo0_cn : (wo0 nc ns).Cn r := fun c hc s hs => by
  rw [List.eq_of_mem_replicate hc] at hs
  rw [List.eq_of_mem_replicate hs]
  exact .inl rfl
theorem nxt_cn (K : w.Ok r nc ns) (z : w.Cn r) (he : e.In nc ns) : (r.nxt most w e).Cn r := by
  have hcs := K.cs
  have hst := (K.at_ he.c).st
  have hes := he.s
  have zs : ∀ s ∈ (w.at_ e.c).st, s.Cn r := z _ (List.mem_of_getElem? (K.get he.c))
  have hh : (r.hap most w e).1.Cn r := by
    cases e with
    | turn c s f => exact cn_turn _ _ _
    | told c d s => exact cn_word (zs _ (getD_in (by rw [hst]; exact hes))) _
  intro c hc s hs
  rcases List.mem_or_eq_of_mem_set (show c ∈ w.cs.set e.c _ from hc) with hc | rfl
  · exact z c hc s hs
  · have hs2 : s ∈ (w.at_ e.c).st.set e.s (r.hap most w e).1 := by
      revert hs
      cases (r.hap most w e).2.1 <;> exact id
    rcases List.mem_or_eq_of_mem_set hs2 with h | rfl
    · exact zs s h
    · exact hh
theorem getD_set {l : List Sd} {s : Nat} {x : Sd} (h : s < l.length) : (l.set s x).getD s begun = x := by
  rw [List.getD_eq_getElem?_getD, List.getElem?_set_self h]
  rfl
theorem at_set {i : Nat} {c' : Ca} {lo : List (Nat × Nat)} (h : i < w.cs.length) : (⟨w.cs.set i c', lo⟩ : Wo).at_ i = c' := by
  unfold Wo.at_
  rw [List.getD_eq_getElem?_getD, List.getElem?_set_self h]
  rfl
theorem put_st {x : Sd} {s : Nat} {v : Option Wh} : (c.put s x v).st = c.st.set s x := by cases v <;> rfl
def win28 (r : Ru) : Sd → Bool
  | .inn w _ _ => decide (r.need ≤ nTrue (r.cut w true))
  | _ => false
def cnt28 (r : Ru) : Ev → Bool
  | .turn _ _ f => f
  | .told _ _ _ => r.hears matches .fault
def out28 (r : Ru) : Ev → Bool
  | .turn _ _ _ => false
  | .told _ _ _ => r.hears matches .out
def tried28 (r : Ru) (x : Sd) (e : Ev) : Bool := (cnt28 r e && win28 r x) || out28 r e
def kept28 (r : Ru) (x y : Sd) (e : Ev) (full : Bool) : Bool := x.isIn && (y.isIn && (tried28 r x e && full))
theorem left_nin {t : Int} : (r.leftOut t).isIn = false := by unfold Ru.leftOut; rfl
theorem fault28 {w : List Bool} {t c : Int} {room : Bool} : (r.afterFault w t room).2 = ((r.afterFault w t room).1.isIn && (win28 r (.inn w t c) && !room)) := by
  have e : win28 r (.inn w t c) = decide (r.need ≤ nTrue (r.cut w true)) := rfl
  rw [e]
  unfold Ru.afterFault
  by_cases h : nTrue (r.cut w true) < r.need
  · rw [if_pos h, show decide (r.need ≤ nTrue (r.cut w true)) = false from decide_eq_false (by omega)]
    rfl
  · rw [if_neg h, show decide (r.need ≤ nTrue (r.cut w true)) = true from decide_eq_true (by omega)]
    unfold Ru.atTry
    cases room
    · rfl
    · show false = ((r.leftOut t).isIn && _)
      rw [left_nin]
      rfl
theorem try28 {w : List Bool} {t c : Int} {room : Bool} : (r.atTry (.inn w t c) t room).2 = ((r.atTry (.inn w t c) t room).1.isIn && !room) := by
  unfold Ru.atTry
  cases room
  · rfl
  · show false = ((r.leftOut t).isIn && _)
    rw [left_nin]
    rfl
theorem kept_eq : (r.hap most w e).2.2 = kept28 r ((w.at_ e.c).st.getD e.s begun) (r.hap most w e).1 e (!decide (((w.at_ e.c).outs : Int) < most)) := by
  unfold kept28 tried28
  cases e with
  | turn c s f =>
    show (r.afterTurn ((w.at_ c).st.getD s begun) f (decide (((w.at_ c).outs : Int) < most))).2.2 = (((w.at_ c).st.getD s begun).isIn && ((r.afterTurn ((w.at_ c).st.getD s begun) f (decide (((w.at_ c).outs : Int) < most))).1.isIn && (((f && win28 r ((w.at_ c).st.getD s begun)) || false) && !decide (((w.at_ c).outs : Int) < most))))
    generalize decide (((w.at_ c).outs : Int) < most) = room
    cases (w.at_ c).st.getD s begun with
    | out l t => rfl
    | trial t => cases f <;> rfl
    | inn v t k =>
      cases f with
      | false =>
        show false = (true && (_ && (((false && _) || false) && _)))
        simp
      | true =>
        show (r.afterFault v t room).2 = (true && ((r.afterFault v t room).1.isIn && (((true && _) || false) && _)))
        rw [Bool.true_and, Bool.true_and, Bool.or_false]
        exact fault28
  | told c d s =>
    show (r.afterWord ((w.at_ c).st.getD s begun) (decide (((w.at_ c).outs : Int) < most))).2 = (((w.at_ c).st.getD s begun).isIn && ((r.afterWord ((w.at_ c).st.getD s begun) (decide (((w.at_ c).outs : Int) < most))).1.isIn && ((((r.hears matches .fault) && win28 r ((w.at_ c).st.getD s begun)) || (r.hears matches .out)) && !decide (((w.at_ c).outs : Int) < most))))
    generalize decide (((w.at_ c).outs : Int) < most) = room
    cases (w.at_ c).st.getD s begun with
    | out l t => rfl
    | trial t => rfl
    | inn v t k =>
      unfold Ru.afterWord
      cases r.hears with
      | no => rfl
      | out =>
        show (r.atTry (.inn v t k) t room).2 = (true && ((r.atTry (.inn v t k) t room).1.isIn && (((false && _) || true) && _)))
        rw [Bool.true_and, Bool.or_true, Bool.true_and]
        exact try28
      | fault =>
        show (r.afterFault v t room).2 = (true && ((r.afterFault v t room).1.isIn && (((true && _) || false) && _)))
        rw [Bool.true_and, Bool.true_and, Bool.or_false]
        exact fault28
theorem outI_at : ∀ (i : Nat) (l : List Sd) (j : Nat), j ∈ outI i l → ∃ k x, l[k]? = some x ∧ j = i + k ∧ x.isIn = false
  | i, [], j, h => nomatch h
  | i, x :: l, j, h => by
    rw [outI] at h
    rcases List.mem_append.mp h with h | h
    · cases hx : x.isIn with
      | true => rw [hx] at h; cases h
      | false =>
        rw [hx] at h
        exact ⟨0, x, rfl, List.mem_singleton.mp h, hx⟩
    · obtain ⟨k, y, h1, h2, h3⟩ := outI_at (i + 1) l j h
      exact ⟨k + 1, y, h1, by omega, h3⟩
theorem outI_spots28 {s : Nat} (hin : (B.getD s begun).isIn = true) : spots s 0 B = outI 0 B := by
  rw [← outI_spots s 0 B]
  refine List.filter_eq_self.mpr fun j hj => ?_
  obtain ⟨k, x, h1, h2, h3⟩ := outI_at 0 B j hj
  cases hjs : (j == s) with
  | false => rfl
  | true =>
    have e : j = s := by simpa using hjs
    rw [Nat.zero_add] at h2
    subst h2 e
    rw [List.getD_eq_getElem?_getD, h1] at hin
    rw [show (some x).getD begun = x from rfl, h3] at hin
    cases hin
/-- a list made anew out of a plain one -/
theorem WE.lcPw {it : AF} {t : Tgt} {e : EF} {Q : D → M → Prop} {α : Type} (enc : α → D) (f : α → D) {xs : List α} (hi : WI it ρ m fun ys m1 => ys = xs.map enc ∧ m1 = m) (hl : xs.length ≤ 1000000)
    (h : ∀ x ∈ xs, ∃ ds, t.un (enc x) = some ds ∧ WE e (setMany ρ t.is ds) m fun v m1 => v = f x ∧ m1 = m) (q : Q (.ref m.length) (m ++ [.lst (xs.map f)])) : WE (eLcK true it t tTrue e) ρ m Q := by
  refine WE.lcIw (fun m1 acc => m1 = m ∧ acc = (xs.take acc.length).map f) ?_
  obtain ⟨ys, m1, e1, rfl, rfl⟩ := hi
  refine ⟨_, _, e1, by rw [List.length_map]; exact hl, ⟨rfl, rfl⟩, ?_, ?_⟩
  · rintro i x m acc hx hai ⟨rfl, ha⟩
    rw [List.getElem?_map] at hx
    obtain ⟨a, ha1, rfl⟩ := Option.map_eq_some_iff.mp hx
    obtain ⟨ds, h1, h2⟩ := h a (List.mem_of_getElem? ha1)
    refine ⟨ds, h1, ?_⟩
    obtain ⟨v, m2, e2, rfl, rfl⟩ := h2
    refine ⟨_, _, e2, rfl, ?_⟩
    rw [List.length_append, List.length_singleton, hai, List.take_add_one, ha1, List.map_append]
    rw [hai] at ha
    rw [← ha]
    rfl
  · rintro m acc hlen ⟨rfl, ha⟩
    rw [List.length_map] at hlen
    rw [ha, hlen, List.take_length]
    exact q
/-- new lists, one behind another -/
theorem rows_w {nw : Bool} {a f : EF} {i n : Nat} {L : List D} {Q : D → M → Prop} (hn : n ≤ 1000) (h0 : WA (aCons a aNil) ρ m fun xs m1 => xs = [.int (n : Nat)] ∧ m1 = m) (he : ∀ (x : D) (m1 : M), WE f (ρ.set i (some x)) m1 fun d m2 => d = .ref m1.length ∧ m2 = m1 ++ [.lst L]) (q : Q (bif nw then .ref (m.length + n) else .lst (rfs m.length n)) (bif nw then (m ++ List.replicate n (.lst L)) ++ [.lst (rfs m.length n)] else m ++ List.replicate n (.lst L))) : WE (eLcK nw (iR1 (aCons a aNil)) (.one i) tTrue f) ρ m Q := by
  refine WE.lcIw (fun m' acc => m' = m ++ List.replicate acc.length (.lst L) ∧ acc = rfs m.length acc.length) (WI.r1 ?_)
  obtain ⟨xs, m1, e1, rfl, rfl⟩ := h0
  refine ⟨_, _, e1, (n : Nat), rfl, ⟨by omega, by omega⟩, ?_⟩
  rw [Int.toNat_natCast]
  refine ⟨by simp [rngD]; omega, ⟨by simp, rfl⟩, ?_, ?_⟩
  · rintro j x m2 acc _ _ ⟨rfl, e⟩
    refine ⟨[x], rfl, ?_⟩
    obtain ⟨d, m3, e3, rfl, rfl⟩ := he x (m1 ++ List.replicate acc.length (.lst L))
    refine ⟨_, _, e3, ?_, ?_⟩
    · rw [List.length_append, List.length_singleton, List.replicate_succ', List.append_assoc]
    · have hla : (acc ++ [D.ref (m1 ++ List.replicate acc.length (O.lst L)).length]).length = acc.length + 1 := by simp
      rw [hla]
      conv => lhs; lhs; rw [e]
      unfold rfs
      rw [List.range_succ, List.map_append]
      simp
  · rintro m2 acc hl ⟨rfl, e⟩
    have hl2 : acc.length = n := by rw [hl]; simp [rngD]
    rw [hl2] at e ⊢
    subst e
    cases nw
    · exact q
    · rw [List.length_append, List.length_replicate]
      exact q
theorem at_rep {x y : M} {o : O} {n j : Nat} (h : j < n) : ((x ++ List.replicate n o) ++ y)[x.length + j]? = some o := by
  rw [List.append_assoc, List.getElem?_append_right (by omega), show x.length + j - x.length = j by omega, List.getElem?_append_left (by simpa using h), List.getElem?_replicate_of_lt h]
theorem WE.lisNr {a : EF} {Q : D → M → Prop} (h : WE a ρ m fun x m1 => ∃ n ds, x = .ref n ∧ m1[n]? = some (.lst ds) ∧ Q (.ref m1.length) (m1 ++ [.lst ds])) : WE (eLisN a) ρ m Q := by
  obtain ⟨x, m1, e1, n, ds, rfl, h, q⟩ := h
  refine ⟨_, _, ?_, q⟩
  have e : lisD m1 [D.ref n] = some (D.lst ds) := by
    show (lstR m1 (D.ref n)).map _ = _
    have e : lstR m1 (D.ref n) = some ds := by show (m1[n]?).bind lstO = _; rw [h]; rfl
    rw [e]; rfl
  unfold eLisN
  rw [e1]
  show (match lisD m1 [D.ref n] with
    | some (.lst ds) => some (D.ref m1.length, m1 ++ [O.lst ds])
    | _ => none) = _
  rw [e]
end
end L4
namespace L4
open PySem
inductive Gl where | all | kept | swap
def Gl.s : Gl → Str
  | .all => "all"
  | .kept => "kept"
  | .swap => "swap"
def limN (t u : Nat) (up : Bool) (n : Nat) : Nat := (n * t + (if up then u - 1 else 0)) / u
def duP (g : Gl) (ls : Bool) (t u : Nat) (up : Bool) (n : Nat) : Bool := match g with
  | .all => Nat.ble n (limN t u up n)
  | .kept => Nat.blt (limN t u up n) n
  | .swap => ls && (Nat.blt 0 (limN t u up n) && Nat.blt (limN t u up n) n)
def ns60 : List Nat := (List.range 60).map (· + 1)
def duL (g : Gl) (ls : Bool) (t u : Nat) (up : Bool) : List Nat := ns60.filter (duP g ls t u up)
def lstN (t u : Nat) (up : Bool) : Nat := if up then (u + (u - t) - 1) / (u - t) else 1
def nuR (g : Gl) (ls : Bool) (t u : Nat) (up : Bool) : Option (Nat × Option Nat) := match g with
  | .all => if t = u then some (1, none) else if up = true ∧ 0 < t then some (1, some (lstN t u up - 1)) else none
  | .kept => if t = u then none else some (lstN t u up, none)
  | .swap => if t = u ∨ t = 0 ∨ ls = false then none else some (if up then lstN t u up else (u + t - 1) / t, none)
/-- the numbers from a to e -/
def upto (a e : Nat) : List Nat := (List.range (e + 1 - a)).map (a + ·)
def chk (g : Gl) (ls : Bool) (t u : Nat) (up : Bool) : Bool := match nuR g ls t u up with
  | none => decide (duL g ls t u up = [])
  | some (a, b) => decide (duL g ls t u up = upto a (b.getD 60)) && decide (a ≤ b.getD 60) && decide (b ≠ some 60) && decide (b.getD 60 ≤ 60)
theorem chk_tbl : ((List.range 21).all fun u => (List.range (u + 1)).all fun t => u == 0 || [true, false].all fun up => [true, false].all fun ls => [Gl.all, .kept, .swap].all fun g => chk g ls t u up) = true := by decide +kernel
end L4
namespace L4
open PySem
section
variable {m : M} {r : Ru} {Q : D → Prop}
theorem chk_all (g : Gl) (ls : Bool) {t u : Nat} (up : Bool) (hu : 1 ≤ u ∧ u ≤ 20) (ht : t ≤ u) : chk g ls t u up = true := by
  have h1 := List.all_eq_true.mp chk_tbl u (List.mem_range.mpr (by omega))
  have h2 := List.all_eq_true.mp h1 t (List.mem_range.mpr (by omega))
  have h3 : (u == 0) = false := by
    have : u ≠ 0 := by omega
    simpa using this
  rw [h3, Bool.false_or] at h2
  have h4 := List.all_eq_true.mp h2 up (by cases up <;> simp)
  have h5 := List.all_eq_true.mp h4 ls (by cases ls <;> simp)
  exact List.all_eq_true.mp h5 g (by cases g <;> simp)
def Bk.tr : Bk → Bool
  | .trial => true
  | _ => false
def Hr.isNo : Hr → Bool
  | .no => true
  | _ => false
def Gl.isAll : Gl → Bool
  | .all => true
  | _ => false
def Gl.isKept : Gl → Bool
  | .kept => true
  | _ => false
def Gl.isSwap : Gl → Bool
  | .swap => true
  | _ => false
def Ru.lasts (r : Ru) : Bool := r.back.tr || (decide (1 < r.time r.cap) || !r.hears.isNo)
theorem eq_tr (b : Bk) : eqD m (.str b.s) (.str "trial") = some (.bl b.tr) := by cases b <;> exact eqB (by kernel_rfl)
structure Sh (r : Ru) : Prop where
  t : ((r.top.toNat : Nat) : Int) = r.top
  u : ((r.under.toNat : Nat) : Int) = r.under
  tu : r.top.toNat ≤ r.under.toNat
  u1 : 1 ≤ r.under.toNat
  u2 : r.under.toNat ≤ 20
theorem Ru.Wd.sh {s l c : Int} (h : r.Wd s l c) : Sh r := by
  obtain ⟨a1, a2, a3, b1, b2, b3, m1, m2, c1, c2, t1, t2, u1, u2, _⟩ := h
  exact ⟨by omega, by omega, by omega, by omega, by omega⟩
theorem eq_goal (g : Gl) : eqD m (.str g.s) (.str "all") = some (.bl g.isAll) ∧ eqD m (.str g.s) (.str "kept") = some (.bl g.isKept) ∧ eqD m (.str g.s) (.str "swap") = some (.bl g.isSwap) := by
  cases g <;> exact ⟨eqB (by kernel_rfl), eqB (by kernel_rfl), eqB (by kernel_rfl)⟩
theorem ne_hears (b : Hr) : neD m (.str b.s) (.str "no") = some (.bl (!b.isNo)) := by cases b <;> exact eqB (by kernel_rfl)
theorem need_goal_ok (g : Gl) : F_need_goal [.str g.s] = some .non := by
  have key : ∀ g : Gl, some D.non = F_need_goal [.str g.s] := fun g => by cases g <;> kernel_rfl
  exact (key g).symm
theorem pure2ii {i j : Int} : pureL [.int i, .int j] = true := rfl
theorem pure1r : pureL [r.d] = true := rfl
theorem pure2ri {i : Int} : pureL [r.d, .int i] = true := rfl
theorem pure2rs {x : Str} : pureL [r.d, .str x] = true := rfl
theorem frz_i {i : Int} : frz m (.int i) = some (.int i) := frz_p rfl
theorem frz_b {i : Bool} : frz m (.bl i) = some (.bl i) := frz_p rfl
theorem ceil_nat {a b : Nat} (hb : 0 < b) : -(-((a : Nat) : Int) / ((b : Nat) : Int)) = (((a + b - 1) / b : Nat) : Int) := by
  have hb' : (0 : Int) < (b : Int) := by omega
  have h1 : -((a : Nat) : Int) / (b : Int) = -((((a + b - 1) / b : Nat)) : Int) := by
    have q := Nat.div_add_mod (a + b - 1) b
    have q2 := Nat.mod_lt (a + b - 1) hb
    generalize (a + b - 1) / b = c at *
    generalize (a + b - 1) % b = e at *
    have e1 : ((b : Int) * (c : Int)) + (e : Int) = (a : Int) + (b : Int) - 1 := by
      have : ((b * c + e : Nat) : Int) = ((a + b - 1 : Nat) : Int) := by rw [q]
      rw [Int.natCast_add, Int.natCast_mul] at this
      omega
    have e2 : -((a : Nat) : Int) = (b : Int) * (-(c : Int)) + ((b : Int) - 1 - (e : Int)) := by
      rw [Int.mul_neg]
      omega
    rw [e2, Int.mul_add_ediv_left _ _ (by omega), Int.ediv_eq_zero_of_lt (by omega) (by omega)]
    omega
  rw [h1]
  omega
def nuD : Option (Nat × Option Nat) → D
  | none => .non
  | some (a, none) => .tup [.int (a : Nat), .non]
  | some (a, some b) => .tup [.int (a : Nat), .int (b : Nat)]
theorem lstN_pos {t u : Nat} {up : Bool} (h : t < u) : 1 ≤ lstN t u up := by
  unfold lstN
  cases up
  · exact Nat.le_refl _
  · show 1 ≤ (u + (u - t) - 1) / (u - t)
    exact (Nat.le_div_iff_mul_le (by omega)).mpr (by omega)
theorem nr_all1 {ls up : Bool} {t u : Nat} (h : t = u) : nuR .all ls t u up = some (1, none) := if_pos h
theorem nr_all2 {ls : Bool} {t u : Nat} (h : t ≠ u) (h2 : 0 < t) : nuR .all ls t u true = some (1, some (lstN t u true - 1)) := (if_neg h).trans (if_pos ⟨rfl, h2⟩)
theorem nr_all3 {ls up : Bool} {t u : Nat} (h : t ≠ u) (h2 : ¬ (up = true ∧ 0 < t)) : nuR .all ls t u up = none := (if_neg h).trans (if_neg h2)
theorem nr_k1 {ls up : Bool} {t u : Nat} (h : t = u) : nuR .kept ls t u up = none := if_pos h
theorem nr_k2 {ls up : Bool} {t u : Nat} (h : t ≠ u) : nuR .kept ls t u up = some (lstN t u up, none) := if_neg h
theorem nr_s1 {ls up : Bool} {t u : Nat} (h : t = u ∨ t = 0 ∨ ls = false) : nuR .swap ls t u up = none := if_pos h
theorem nr_s2 {t u : Nat} (h : t ≠ u) (h2 : t ≠ 0) : nuR .swap true t u true = some (lstN t u true, none) := if_neg (by rintro (h | h | h); exact absurd h ‹_›; exact absurd h h2; cases h)
theorem nr_s3 {t u : Nat} (h : t ≠ u) (h2 : t ≠ 0) : nuR .swap true t u false = some ((u + t - 1) / t, none) := if_neg (by rintro (h | h | h); exact absurd h ‹_›; exact absurd h h2; cases h)
theorem isNon_nu (x : Option (Nat × Option Nat)) : (!isNon (nuD x)) = x.isSome := by rcases x with _ | ⟨a, _ | b⟩ <;> rfl
local macro_rules | `(tactic| trivial) => `(tactic| (repeat (first | with_reducible refine WS.seq ?_ | with_reducible refine WS.nx ?_ | with_reducible refine WS.rt ?_ | with_reducible refine WS.asg ?_ | with_reducible refine WS.drop ?_ | with_reducible refine WS.ret ?_ | with_reducible refine WS.nop ?_ | with_reducible refine WS.retN ?_ | with_reducible refine WS.brk ?_ | with_reducible refine WS.cont ?_ | with_reducible refine WS.sif ?_ | with_reducible refine WS.par ?_ | with_reducible refine WG.setA ?_ | with_reducible refine WE.c ?_ | with_reducible refine WE.op ?_ | with_reducible refine WE.call ?_ | with_reducible refine WE.callM ?_ | with_reducible refine WE.un ?_ | with_reducible refine WE.tup ?_ | with_reducible refine WE.lst ?_ | with_reducible refine WE.newL ?_ | with_reducible refine WE.eif ?_ | with_reducible refine WE.sl ?_ | with_reducible refine WE.isN ?_ | with_reducible refine WE.notN ?_ | with_reducible refine WE.not ?_ | with_reducible refine WE.and ?_ | with_reducible refine WE.or ?_ | with_reducible refine WE.app ?_ | with_reducible refine WE.tupR ?_ | with_reducible refine WE.lisR ?_ | with_reducible refine WE.m1 ?_ | with_reducible refine WE.tbl ?_ | with_reducible refine WE.tblNin ?_ | with_reducible refine WE.chain ?_ | with_reducible refine WE.fldF ?_ | with_reducible refine WE.mth ?_ | with_reducible refine WE.disp ?_ | with_reducible refine WE.dicC ?_ | with_reducible refine WP.nil ?_ | with_reducible refine WP.cons ?_ | with_reducible refine WE.upd ?_ | with_reducible refine WA.nil ?_ | with_reducible refine WA.cons ?_ | with_reducible refine WA.star ?_ | with_reducible refine WO.no ?_ | with_reducible refine WO.yes ?_ | with_reducible refine WT.val ?_ | with_reducible refine WT.and ?_ | with_reducible refine WT.or ?_ | with_reducible refine WT.not ?_ | with_reducible refine WT.tt ?_ | with_reducible refine WI.it ?_ | with_reducible refine Kn.add_i ?_ | with_reducible refine Kn.sub ?_ | with_reducible refine Kn.neg ?_ | with_reducible refine Kn.eq_i ?_ | with_reducible refine Kn.ne_i ?_ | with_reducible refine Kn.lt ?_ | with_reducible refine Kn.le ?_ | with_reducible refine Kn.gt ?_ | with_reducible refine Kn.ge ?_ | with_reducible refine Kn.int_i ?_ | with_reducible refine Kn.int_b ?_ | with_reducible refine Kn.abs ?_ | with_reducible refine Kn.min2 ?_ | with_reducible refine Kn.max2 ?_ | with_reducible refine Kn.len_t ?_ | with_reducible refine Kn.len_l ?_ | with_reducible refine Kn.len_s ?_ | with_reducible refine Kn.tup_t ?_ | with_reducible refine Kn.tup_l ?_ | with_reducible refine Kn.lis_t ?_ | with_reducible refine Kn.lis_l ?_ | with_reducible refine Kn.seq_t ?_ | with_reducible refine Kn.seq_l ?_ | with_reducible refine Kn.it_t ?_ | with_reducible refine Kn.it_l ?_ | with_reducible refine Kn.it_s ?_ | with_reducible refine Kn.str_s ?_ | with_reducible refine Kn.sl_t ?_ | with_reducible refine Kn.sl_l ?_ | with_reducible refine Kn.sl_rt ?_ | with_reducible refine Kn.ix_rt1 ?_ | with_reducible refine Kn.ix_rt2 ?_ | with_reducible refine Kn.kx_need ?_ | with_reducible refine Kn.kx_of ?_ | with_reducible refine Kn.kx_base ?_ | with_reducible refine Kn.kx_more ?_ | with_reducible refine Kn.kx_most ?_ | with_reducible refine Kn.kx_calm ?_ | with_reducible refine Kn.kx_back ?_ | with_reducible refine Kn.kx_under ?_ | with_reducible refine Kn.kx_top ?_ | with_reducible refine Kn.kx_up ?_ | with_reducible refine Kn.kx_hears ?_ | with_reducible refine Fld.need ?_ | with_reducible refine Fld.of ?_ | with_reducible refine Fld.base ?_ | with_reducible refine Fld.more ?_ | with_reducible refine Fld.most ?_ | with_reducible refine Fld.calm ?_ | with_reducible refine Fld.back ?_ | with_reducible refine Fld.top ?_ | with_reducible refine Fld.under ?_ | with_reducible refine Fld.up ?_ | with_reducible refine Fld.hears ?_ | with_reducible refine Fld.cap ?_ | with_reducible refine Mth.time ?_ | ((with_reducible refine WG.nm ?_); dsimp only [setMany, List.set_cons_succ, List.set_cons_zero]) | ((with_reducible refine WG.one ?_); dsimp only [setMany, List.set_cons_succ, List.set_cons_zero]) | ((with_reducible refine WG.tup ?_ ?_); exact rfl; dsimp only [setMany, List.set_cons_succ, List.set_cons_zero]) | ((with_reducible apply WE.var); exact rfl) | ((with_reducible apply WS.aug); exact rfl) | ((with_reducible apply WE.newPL); exact rfl) | ((with_reducible refine WS.ite_t ?_ ?_); exact rfl) | ((with_reducible refine WS.ite_f ?_ ?_); exact rfl) | ((with_reducible refine WE.ite_t ?_ ?_); exact rfl) | ((with_reducible refine WE.ite_f ?_ ?_); exact rfl) | ((with_reducible refine w_and_t ?_ ?_); exact rfl) | ((with_reducible refine w_and_f ?_ ?_); exact rfl) | ((with_reducible refine w_or_t ?_ ?_); exact rfl) | ((with_reducible refine w_or_f ?_ ?_); exact rfl) | ((with_reducible refine Kn.fdiv ?_ ?_); exact ⟨by decide, by decide⟩) | ((with_reducible refine Kn.mod ?_ ?_); decide) | ((with_reducible refine And.intro (a := (_ && _) = true) ?_ ?_); exact rfl) | ((with_reducible refine And.intro (a := List.length _ = List.length _) ?_ ?_); exact rfl; dsimp only [setMany, List.set_cons_succ, List.set_cons_zero]) | ((with_reducible refine ⟨wsz ?_, ?_⟩); first | decide | (show (_ : Nat) ≤ 1000; simp only [List.length_cons, List.length_nil]; decide)) | with_reducible refine ⟨_, rfl, ?_⟩)))
theorem up_to_ok {a b : Nat} (hb : 0 < b) (hb2 : b < 1000) : F_up_to [.int (a : Nat), .int (b : Nat)] = some (.int (((a + b - 1) / b : Nat) : Nat)) := by
  refine WS.runP (n := 2) (b := f_up_to) ?_ rfl
  show WS _ [some (.int (a : Nat)), some (.int (b : Nat))] [] _
  trivial
  refine Kn.fdiv ⟨by omega, by omega⟩ ?_
  trivial
  rw [ceil_nat hb]
  exact frz_i
theorem short_ok (h : Sh r) (hlt : r.top.toNat < r.under.toNat) : F_least_short [r.d] = some (.int (lstN r.top.toNat r.under.toNat r.up : Nat)) := by
  refine WS.runP (n := 1) (b := f_least_short) ?_ rfl
  show WS _ [some r.d] [] _
  have hu2 := h.u2
  unfold lstN
  trivial
  cases hu : r.up
  · trivial
    exact frz_i
  · trivial
    rw [← h.u, ← h.t]
    have e : ((r.under.toNat : Nat) : Int) - ((r.top.toNat : Nat) : Int) = ((r.under.toNat - r.top.toNat : Nat) : Int) := by omega
    rw [e]
    refine Kn.call pure2ii (up_to_ok (by omega) (by omega)) ?_
    trivial
    exact frz_i
theorem lasting_ok (h : r.Ok) : F_is_lasting [r.d] = some (.bl (r.back.tr || decide (1 < r.time r.cap))) := by
  refine WS.runP (n := 1) (b := f_is_lasting) ?_ rfl
  show WS _ [some r.d] [] _
  trivial
  refine Kn.mk (eq_tr r.back) ?_
  trivial
  refine ⟨fun hx => ?_, fun hx => ?_⟩
  · rw [hx]
    trivial
    refine Kn.call pure2ri (time_ok h r.cap) ?_
    trivial
    exact frz_b
  · rw [hx]
    trivial
    exact frz_b
theorem missable_ok (h : r.Ok) : F_is_missable [r.d] = some (.bl r.lasts) := by
  refine WS.runP (n := 1) (b := f_is_missable) ?_ rfl
  show WS _ [some r.d] [] _
  unfold Ru.lasts
  trivial
  refine Kn.call pure1r (lasting_ok h) ?_
  trivial
  rw [← Bool.or_assoc]
  refine ⟨fun hx => ?_, fun hx => ?_⟩
  · rw [hx]
    trivial
    refine Kn.mk (ne_hears r.hears) ?_
    trivial
    exact frz_b
  · rw [hx]
    trivial
    exact frz_b
theorem numbers_g (h : Sh r) (hok : r.Ok) (g : Gl) : F_numbers [r.d, .str g.s] = some (nuD (nuR g r.lasts r.top.toNat r.under.toNat r.up)) := by
  refine WS.runP (n := 4) (b := f_numbers) ?_ rfl
  show WS _ [some r.d, some (.str g.s), none, none] [] _
  have hu1 := h.u1
  have hu2 := h.u2
  have htu := h.tu
  have et : (r.top == r.under) = decide (r.top.toNat = r.under.toNat) := by
    have := h.t; have := h.u
    by_cases hh : r.top = r.under
    · rw [hh]; simp
    · have h2 : ¬ r.top.toNat = r.under.toNat := by omega
      simp [hh, h2]
  have e0 : (r.top == 0) = decide (r.top.toNat = 0) := by
    have := h.t
    by_cases hh : r.top = 0
    · rw [hh]; rfl
    · have h2 : ¬ r.top.toNat = 0 := by omega
      simp [hh, h2]
  have e1 : decide (0 < r.top) = decide (0 < r.top.toNat) := by
    have := h.t
    by_cases hh : 0 < r.top
    · have h2 : 0 < r.top.toNat := by omega
      simp [hh, h2]
    · have h2 : ¬ 0 < r.top.toNat := by omega
      simp only [hh, h2]
  have el : ∀ {a : Nat}, 1 ≤ a → ((a : Nat) : Int) - 1 = ((a - 1 : Nat) : Int) := fun {a} ha => by omega
  trivial
  refine Kn.call (pure1s) (need_goal_ok g) ?_
  trivial
  rw [et]
  refine Kn.mk (eq_goal g).1 ?_
  trivial
  cases hg : g
  · trivial
    cases hd : decide (r.top.toNat = r.under.toNat)
    · have hd := of_decide_eq_false hd
      trivial
      cases hu : r.up
      · trivial
        rw [nr_all3 hd (by simp)]
        exact frz_p rfl
      · trivial
        rw [e1]
        cases h0 : decide (0 < r.top.toNat)
        · have h0 := of_decide_eq_false h0
          trivial
          rw [nr_all3 hd (fun hh => h0 hh.2)]
          exact frz_p rfl
        · have h0 := of_decide_eq_true h0
          trivial
          refine Kn.call pure1r (short_ok h (by omega)) ?_
          trivial
          rw [hu, nr_all2 hd h0, el (lstN_pos (by omega))]
          exact frz_p rfl
    · have hd := of_decide_eq_true hd
      trivial
      rw [nr_all1 hd]
      exact frz_p rfl
  · trivial
    refine ⟨fun hd => ?_, fun hd => ?_⟩
    · rw [hd]
      have hd := of_decide_eq_false hd
      trivial
      refine Kn.mk (eq_goal Gl.kept).2.2 ?_
      trivial
      refine Kn.call pure1r (short_ok h (by omega)) ?_
      trivial
      refine Kn.mk (eq_goal Gl.kept).2.1 ?_
      trivial
      rw [nr_k2 hd]
      exact frz_p rfl
    · rw [hd]
      have hd := of_decide_eq_true hd
      trivial
      rw [nr_k1 hd]
      exact frz_p rfl
  · trivial
    refine ⟨fun hd => ?_, fun hd => ?_⟩
    · rw [hd]
      have hd := of_decide_eq_false hd
      trivial
      refine Kn.mk (eq_goal Gl.swap).2.2 ?_
      trivial
      rw [e0]
      refine ⟨fun h0 => ?_, fun h0 => ?_⟩
      · have h0 := of_decide_eq_false h0
        trivial
        refine Kn.call pure1r (missable_ok hok) ?_
        trivial
        cases hl : r.lasts
        · trivial
          rw [nr_s1 (.inr (.inr rfl))]
          exact frz_p rfl
        · trivial
          refine Kn.call pure1r (short_ok h (by omega)) ?_
          trivial
          refine Kn.mk (eq_goal Gl.swap).2.1 ?_
          trivial
          cases hu : r.up
          · trivial
            rw [nr_s3 hd h0, ← h.u, ← h.t]
            refine Kn.call pure2ii (up_to_ok (by omega) (by omega)) ?_
            trivial
            exact frz_p rfl
          · trivial
            rw [nr_s2 hd h0]
            exact frz_p rfl
      · have h0 := of_decide_eq_true h0
        trivial
        rw [nr_s1 (.inr (.inl h0))]
        exact frz_p rfl
    · rw [hd]
      have hd := of_decide_eq_true hd
      trivial
      rw [nr_s1 (.inl hd)]
      exact frz_p rfl
theorem happens_g (h : Sh r) (hok : r.Ok) (g : Gl) : F_happens [r.d, .str g.s] = some (.bl (nuR g r.lasts r.top.toNat r.under.toNat r.up).isSome) := by
  refine WS.runP (n := 2) (b := f_happens) ?_ rfl
  show WS _ [some r.d, some (.str g.s)] [] _
  trivial
  refine Kn.call pure2rs (numbers_g h hok g) ?_
  trivial
  rw [isNon_nu]
  exact frz_b
end
end L4
namespace L4
open PySem
section
variable {m : M} {r : Ru}
theorem lim_up {t u n : Nat} (hu : 1 ≤ u) (ht : t ≤ u) : limN t u true n ≤ n := by
  unfold limN
  rw [if_pos rfl]
  have : n * t + (u - 1) < u * (n + 1) := by
    have h1 : n * t ≤ n * u := Nat.mul_le_mul_left _ ht
    have h2 : u * (n + 1) = n * u + u := by rw [Nat.mul_add, Nat.mul_one, Nat.mul_comm]
    omega
  have := (Nat.div_lt_iff_lt_mul (by omega)).mpr (by rw [Nat.mul_comm (n + 1)]; exact this : n * t + (u - 1) < (n + 1) * u)
  omega
theorem lim_dn {t u n : Nat} (hu : 1 ≤ u) (ht : t ≤ u) : limN t u false n ≤ n := by
  unfold limN
  rw [if_neg (by decide), Nat.add_zero]
  have h1 : n * t ≤ n * u := Nat.mul_le_mul_left _ ht
  exact Nat.div_le_of_le_mul (by rw [Nat.mul_comm u n]; exact h1)
theorem ge_iff {t u n x : Nat} (hu : 1 ≤ u) : n * t ≤ x * u ↔ limN t u true n ≤ x := by
  unfold limN
  rw [if_pos rfl]
  constructor
  · intro h
    have := (Nat.div_lt_iff_lt_mul (by omega : 0 < u)).mpr (by rw [Nat.add_mul, Nat.one_mul]; omega : n * t + (u - 1) < (x + 1) * u)
    omega
  · intro h
    have := (Nat.div_lt_iff_lt_mul (by omega : 0 < u)).mp (by omega : (n * t + (u - 1)) / u < x + 1)
    rw [Nat.add_mul, Nat.one_mul] at this
    omega
theorem le_iff {t u n x : Nat} (hu : 1 ≤ u) : x * u ≤ n * t ↔ x ≤ limN t u false n := by
  unfold limN
  rw [if_neg (by decide), Nat.add_zero]
  exact (Nat.le_div_iff_mul_le (by omega)).symm
theorem rng_map {n : Nat} : rngD 0 n = (List.range n).map fun (i : Nat) => D.int (i : Nat) := by
  unfold rngD
  congr 1
  funext i
  rw [Int.zero_add]
theorem un_one {i : Nat} {d : D} : (Tgt.one i).un d = some [d] := rfl
theorem rng_at {i n : Nat} {a : Int} {x : D} (h : (rngD a n)[i]? = some x) : i < n ∧ x = .int (a + i) := by
  unfold rngD at h
  rw [List.getElem?_map] at h
  obtain ⟨j, h1, rfl⟩ := Option.map_eq_some_iff.mp h
  have h2 : i < n := by
    have := (List.getElem?_eq_some_iff.mp h1).1
    simpa using this
  rw [List.getElem?_range h2] at h1
  cases h1
  exact ⟨h2, rfl⟩
theorem ble_dec (a b : Nat) : Nat.ble a b = decide ((a : Int) ≤ (b : Int)) := by
  rw [Bool.eq_iff_iff, Nat.ble_eq, decide_eq_true_eq]
  omega
theorem blt_dec (a b : Nat) : Nat.blt a b = decide ((a : Int) < (b : Int)) := by
  unfold Nat.blt
  rw [ble_dec, Bool.eq_iff_iff, decide_eq_true_eq, decide_eq_true_eq]
  omega
theorem du_a {ls up : Bool} {t u n : Nat} : duP .all ls t u up n = decide ((n : Int) ≤ (limN t u up n : Nat)) := ble_dec _ _
theorem du_k {ls up : Bool} {t u n : Nat} : duP .kept ls t u up n = decide ((limN t u up n : Nat) < (n : Int)) := blt_dec _ _
theorem du_s {ls up : Bool} {t u n : Nat} : duP .swap ls t u up n = (ls && (decide ((0 : Int) < (limN t u up n : Nat)) && decide ((limN t u up n : Nat) < (n : Int)))) := by
  show (ls && (Nat.blt 0 _ && Nat.blt _ n)) = _
  rw [blt_dec, blt_dec]
  rfl
local macro_rules | `(tactic| trivial) => `(tactic| (repeat (first | with_reducible refine WS.seq ?_ | with_reducible refine WS.nx ?_ | with_reducible refine WS.rt ?_ | with_reducible refine WS.asg ?_ | with_reducible refine WS.drop ?_ | with_reducible refine WS.ret ?_ | with_reducible refine WS.nop ?_ | with_reducible refine WS.retN ?_ | with_reducible refine WS.brk ?_ | with_reducible refine WS.cont ?_ | with_reducible refine WS.sif ?_ | with_reducible refine WS.par ?_ | with_reducible refine WG.setA ?_ | with_reducible refine WE.c ?_ | with_reducible refine WE.op ?_ | with_reducible refine WE.call ?_ | with_reducible refine WE.callM ?_ | with_reducible refine WE.un ?_ | with_reducible refine WE.tup ?_ | with_reducible refine WE.lst ?_ | with_reducible refine WE.newL ?_ | with_reducible refine WE.eif ?_ | with_reducible refine WE.sl ?_ | with_reducible refine WE.isN ?_ | with_reducible refine WE.notN ?_ | with_reducible refine WE.not ?_ | with_reducible refine WE.and ?_ | with_reducible refine WE.or ?_ | with_reducible refine WE.app ?_ | with_reducible refine WE.tupR ?_ | with_reducible refine WE.lisR ?_ | with_reducible refine WE.m1 ?_ | with_reducible refine WE.tbl ?_ | with_reducible refine WE.tblNin ?_ | with_reducible refine WE.chain ?_ | with_reducible refine WE.fldF ?_ | with_reducible refine WE.mth ?_ | with_reducible refine WE.disp ?_ | with_reducible refine WE.dicC ?_ | with_reducible refine WP.nil ?_ | with_reducible refine WP.cons ?_ | with_reducible refine WE.upd ?_ | with_reducible refine WA.nil ?_ | with_reducible refine WA.cons ?_ | with_reducible refine WA.star ?_ | with_reducible refine WO.no ?_ | with_reducible refine WO.yes ?_ | with_reducible refine WT.val ?_ | with_reducible refine WT.and ?_ | with_reducible refine WT.or ?_ | with_reducible refine WT.not ?_ | with_reducible refine WT.tt ?_ | with_reducible refine WI.it ?_ | with_reducible refine Kn.add_i ?_ | with_reducible refine Kn.sub ?_ | with_reducible refine Kn.neg ?_ | with_reducible refine Kn.eq_i ?_ | with_reducible refine Kn.ne_i ?_ | with_reducible refine Kn.lt ?_ | with_reducible refine Kn.le ?_ | with_reducible refine Kn.gt ?_ | with_reducible refine Kn.ge ?_ | with_reducible refine Kn.int_i ?_ | with_reducible refine Kn.int_b ?_ | with_reducible refine Kn.abs ?_ | with_reducible refine Kn.min2 ?_ | with_reducible refine Kn.max2 ?_ | with_reducible refine Kn.len_t ?_ | with_reducible refine Kn.len_l ?_ | with_reducible refine Kn.len_s ?_ | with_reducible refine Kn.tup_t ?_ | with_reducible refine Kn.tup_l ?_ | with_reducible refine Kn.lis_t ?_ | with_reducible refine Kn.lis_l ?_ | with_reducible refine Kn.seq_t ?_ | with_reducible refine Kn.seq_l ?_ | with_reducible refine Kn.it_t ?_ | with_reducible refine Kn.it_l ?_ | with_reducible refine Kn.it_s ?_ | with_reducible refine Kn.str_s ?_ | with_reducible refine Kn.sl_t ?_ | with_reducible refine Kn.sl_l ?_ | with_reducible refine Kn.sl_rt ?_ | with_reducible refine Kn.ix_rt1 ?_ | with_reducible refine Kn.ix_rt2 ?_ | with_reducible refine Kn.kx_need ?_ | with_reducible refine Kn.kx_of ?_ | with_reducible refine Kn.kx_base ?_ | with_reducible refine Kn.kx_more ?_ | with_reducible refine Kn.kx_most ?_ | with_reducible refine Kn.kx_calm ?_ | with_reducible refine Kn.kx_back ?_ | with_reducible refine Kn.kx_under ?_ | with_reducible refine Kn.kx_top ?_ | with_reducible refine Kn.kx_up ?_ | with_reducible refine Kn.kx_hears ?_ | with_reducible refine Fld.need ?_ | with_reducible refine Fld.of ?_ | with_reducible refine Fld.base ?_ | with_reducible refine Fld.more ?_ | with_reducible refine Fld.most ?_ | with_reducible refine Fld.calm ?_ | with_reducible refine Fld.back ?_ | with_reducible refine Fld.top ?_ | with_reducible refine Fld.under ?_ | with_reducible refine Fld.up ?_ | with_reducible refine Fld.hears ?_ | with_reducible refine Fld.cap ?_ | with_reducible refine Mth.time ?_ | ((with_reducible refine WG.nm ?_); dsimp only [setMany, List.set_cons_succ, List.set_cons_zero]) | ((with_reducible refine WG.one ?_); dsimp only [setMany, List.set_cons_succ, List.set_cons_zero]) | ((with_reducible refine WG.tup ?_ ?_); exact rfl; dsimp only [setMany, List.set_cons_succ, List.set_cons_zero]) | ((with_reducible apply WE.var); exact rfl) | ((with_reducible apply WS.aug); exact rfl) | ((with_reducible apply WE.newPL); exact rfl) | ((with_reducible refine WS.ite_t ?_ ?_); exact rfl) | ((with_reducible refine WS.ite_f ?_ ?_); exact rfl) | ((with_reducible refine WE.ite_t ?_ ?_); exact rfl) | ((with_reducible refine WE.ite_f ?_ ?_); exact rfl) | ((with_reducible refine w_and_t ?_ ?_); exact rfl) | ((with_reducible refine w_and_f ?_ ?_); exact rfl) | ((with_reducible refine w_or_t ?_ ?_); exact rfl) | ((with_reducible refine w_or_f ?_ ?_); exact rfl) | ((with_reducible refine Kn.fdiv ?_ ?_); exact ⟨by decide, by decide⟩) | ((with_reducible refine Kn.mod ?_ ?_); decide) | ((with_reducible refine And.intro (a := (_ && _) = true) ?_ ?_); exact rfl) | ((with_reducible refine And.intro (a := List.length _ = List.length _) ?_ ?_); exact rfl; dsimp only [setMany, List.set_cons_succ, List.set_cons_zero]) | ((with_reducible refine ⟨wsz ?_, ?_⟩); first | decide | (show (_ : Nat) ≤ 1000; simp only [List.length_cons, List.length_nil]; decide)) | with_reducible refine ⟨_, rfl, ?_⟩)))
theorem limit_ok (h : Sh r) {n : Nat} (hn : n < 1000) : F__law_limit [.dic rK r.kv, .int (n : Nat)] = some (.int (limN r.top.toNat r.under.toNat r.up n : Nat)) := by
  have hu1 := h.u1
  have hu2 := h.u2
  have htu := h.tu
  have ht := h.t
  have hu := h.u
  refine WS.runP (n := 3) (b := f__law_limit) ?_ rfl
  show WS _ [some (.dic rK r.kv), some (.int (n : Nat)), none] [] _
  have en : ((n : Nat) : Int) + 1 = ((n + 1 : Nat) : Int) := by omega
  have wi : ∀ x2, WI (iR1 (aCons (eOp addD (eVar 1) (eC (.int 1))) aNil)) [some (.dic rK r.kv), some (.int (n : Nat)), x2] [] fun ys m1 => ys = (List.range (n + 1)).map (fun (i : Nat) => D.int (i : Nat)) ∧ m1 = [] := fun x2 => by
    refine WI.r1 ?_
    trivial
    refine ⟨by omega, ?_, rfl⟩
    rw [en, Int.toNat_natCast]
    exact rng_map
  have small : ∀ {i : Nat}, i < 1000 → -(2 ^ 64) < (i : Int) ∧ (i : Int) < 2 ^ 64 := fun h => by omega
  have et : ∀ {x y : Nat}, ((x : Nat) : Int) * ((y : Nat) : Int) = ((x * y : Nat) : Int) := fun {x y} => by rw [Int.natCast_mul]
  trivial
  cases hup : r.up
  · trivial
    refine WE.lcP (fun (i : Nat) => D.int (i : Nat)) (fun x => decide (x ≤ limN r.top.toNat r.under.toNat false n)) (fun (i : Nat) => D.int (i : Nat)) (wi _) (by simp; omega) (fun x hx => ⟨_, un_one, ?_, fun _ => ?_⟩) ?_
    · dsimp only [Tgt.is, setMany, List.set_cons_succ, List.set_cons_zero]
      have hx := List.mem_range.mp hx
      trivial
      refine Kn.mul_i (.inl (small (by omega))) ?_
      trivial
      refine Kn.mul_i (.inl (small (by omega))) ?_
      trivial
      refine ⟨?_, rfl⟩
      rw [← hu, ← ht, et, et]
      exact decide_eq_decide.mpr (Iff.trans Int.ofNat_le (le_iff hu1))
    · dsimp only [Tgt.is, setMany, List.set_cons_succ, List.set_cons_zero]
      trivial
      exact ⟨rfl, rfl⟩
    rw [filt_le _ _ (Nat.lt_succ_of_le (lim_dn hu1 htu))]
    trivial
    refine Kn.ix_ln (d := .int (limN r.top.toNat r.under.toNat false n : Nat)) (by simp [List.range_succ]) ?_
    trivial
    exact frz_p rfl
  · trivial
    refine WE.lcP (fun (i : Nat) => D.int (i : Nat)) (fun x => decide (limN r.top.toNat r.under.toNat true n ≤ x)) (fun (i : Nat) => D.int (i : Nat)) (wi _) (by simp; omega) (fun x hx => ⟨_, un_one, ?_, fun _ => ?_⟩) ?_
    · dsimp only [Tgt.is, setMany, List.set_cons_succ, List.set_cons_zero]
      have hx := List.mem_range.mp hx
      trivial
      refine Kn.mul_i (.inl (small (by omega))) ?_
      trivial
      refine Kn.mul_i (.inl (small (by omega))) ?_
      trivial
      refine ⟨?_, rfl⟩
      rw [← hu, ← ht, et, et]
      exact decide_eq_decide.mpr (Iff.trans Int.ofNat_le (ge_iff hu1))
    · dsimp only [Tgt.is, setMany, List.set_cons_succ, List.set_cons_zero]
      trivial
      exact ⟨rfl, rfl⟩
    have hl := lim_up (n := n) hu1 htu
    rw [filt_ge _ _ (by omega)]
    trivial
    refine Kn.ix_l (i := 0) (d := .int (limN r.top.toNat r.under.toNat true n : Nat)) (by rw [List.getElem?_map, List.getElem?_map, List.getElem?_range (by omega)]; rfl) ?_
    trivial
    exact frz_p rfl
end
end L4
namespace L4
open PySem
section
variable {m m0 : M} {ρ : Ss} {r : Ru} {most : Int} {w : Wo} {nc ns n b d : Nat} {c : Ca} {e : Ev}
def wbK : List D := [.str "now", .str "ever", .str "last"]
def wbV (b n : Nat) : List D := [.lst (rfs b n), .lst (rfs (b + n) n), .ref (b + 3 * n)]
def evR (lo : List (Nat × Nat)) (i k : Nat) : List Bool := (List.range k).map fun s => decide ((i, s) ∈ lo)
def laR (c : Ca) : List Bool := c.la.map fun z => decide (z = ("missed" : Str))
structure LB (m : M) (b : Nat) (w : Wo) : Prop where
  st : ∀ (i : Nat) c, w.cs[i]? = some c → m[b + i]? = some (.lst (c.st.map Sd.d))
  ev : ∀ (i : Nat) c, w.cs[i]? = some c → m[b + w.cs.length + i]? = some (.lst ((evR w.lo i c.st.length).map D.bl))
  la : ∀ (i : Nat) c, w.cs[i]? = some c → m[b + 2 * w.cs.length + i]? = some (.lst ((laR c).map D.bl))
  lo : m[b + 3 * w.cs.length]? = some (.lst (rfs (b + 2 * w.cs.length) w.cs.length))
  wd : m[b + 3 * w.cs.length + 1]? = some (.dic wbK (wbV b w.cs.length))
theorem LB.lt (W : LB m b w) : b + 3 * w.cs.length + 1 < m.length := (List.getElem?_eq_some_iff.mp W.wd).1
theorem LB.off {m' : M} (W : LB m b w) (h : ∀ j, b ≤ j → j < b + 3 * w.cs.length + 2 → m'[j]? = m[j]?) : LB m' b w := by
  refine ⟨fun i c hi => ?_, fun i c hi => ?_, fun i c hi => ?_, (h _ (by omega) (by omega)).trans W.lo, (h _ (by omega) (by omega)).trans W.wd⟩ <;> have hl := (List.getElem?_eq_some_iff.mp hi).1
  · exact (h _ (by omega) (by omega)).trans (W.st i c hi)
  · exact (h _ (by omega) (by omega)).trans (W.ev i c hi)
  · exact (h _ (by omega) (by omega)).trans (W.la i c hi)
theorem LB.upd {m' : M} (W : LB m b w) {i : Nat} (hi : i < w.cs.length) {c' : Ca} {lo' : List (Nat × Nat)} (h1 : m'[b + i]? = some (.lst (c'.st.map Sd.d))) (h2 : m'[b + w.cs.length + i]? = some (.lst ((evR lo' i c'.st.length).map D.bl))) (h3 : m'[b + 2 * w.cs.length + i]? = some (.lst ((laR c').map D.bl)))
    (hj : ∀ j s, j ≠ i → ((j, s) ∈ lo' ↔ (j, s) ∈ w.lo)) (h : ∀ j, b ≤ j → j < b + 3 * w.cs.length + 2 → j ≠ b + i → j ≠ b + w.cs.length + i → j ≠ b + 2 * w.cs.length + i → m'[j]? = m[j]?) : LB m' b ⟨w.cs.set i c', lo'⟩ := by
  have hl : (w.cs.set i c').length = w.cs.length := List.length_set ..
  have key : ∀ (j : Nat) c, (w.cs.set i c')[j]? = some c → (j = i ∧ c = c') ∨ (j ≠ i ∧ w.cs[j]? = some c) := fun j c hc => by
    by_cases hji : j = i
    · subst hji
      rw [List.getElem?_set_self hi] at hc
      exact .inl ⟨rfl, (Option.some.inj hc).symm⟩
    · rw [List.getElem?_set_ne (fun z => hji z.symm)] at hc
      exact .inr ⟨hji, hc⟩
  refine ⟨fun j c hc => ?_, fun j c hc => ?_, fun j c hc => ?_, ?_, ?_⟩ <;> (try simp only [hl])
  · rcases key j c hc with ⟨rfl, rfl⟩ | ⟨hne, hc⟩
    · exact h1
    · have := (List.getElem?_eq_some_iff.mp hc).1
      exact (h _ (by omega) (by omega) (by omega) (by omega) (by omega)).trans (W.st j c hc)
  · rcases key j c hc with ⟨rfl, rfl⟩ | ⟨hne, hc⟩
    · exact h2
    · have := (List.getElem?_eq_some_iff.mp hc).1
      have e1 : evR lo' j c.st.length = evR w.lo j c.st.length := List.map_congr_left fun s _ => by
        rw [decide_eq_decide]
        exact hj j s hne
      rw [e1]
      exact (h _ (by omega) (by omega) (by omega) (by omega) (by omega)).trans (W.ev j c hc)
  · rcases key j c hc with ⟨rfl, rfl⟩ | ⟨hne, hc⟩
    · exact h3
    · have := (List.getElem?_eq_some_iff.mp hc).1
      exact (h _ (by omega) (by omega) (by omega) (by omega) (by omega)).trans (W.la j c hc)
  · exact (h _ (by omega) (by omega) (by omega) (by omega) (by omega)).trans W.lo
  · exact (h _ (by omega) (by omega) (by omega) (by omega) (by omega)).trans W.wd
section
theorem wb_now (h : m[d]? = some (.dic wbK (wbV b n))) : ixA m (.ref d) (.str "now") = some (.lst (rfs b n)) := ix_dr h (by kernel_rfl)
theorem wb_ever (h : m[d]? = some (.dic wbK (wbV b n))) : ixA m (.ref d) (.str "ever") = some (.lst (rfs (b + n) n)) := ix_dr h (by kernel_rfl)
theorem wb_last (h : m[d]? = some (.dic wbK (wbV b n))) : ixA m (.ref d) (.str "last") = some (.ref (b + 3 * n)) := ix_dr h (by kernel_rfl)
end
theorem ed_0t {c s : Nat} {f : Bool} : ixA m (Ev.turn c s f).d (.int 0) = some (.str "turn") := rfl
theorem ed_2t {c s : Nat} {f : Bool} : ixA m (Ev.turn c s f).d (.int 2) = some (.int (s : Nat)) := rfl
theorem ed_3t {c s : Nat} {f : Bool} : ixA m (Ev.turn c s f).d (.int 3) = some (.bl f) := rfl
theorem ed_0w {c d s : Nat} : ixA m (Ev.told c d s).d (.int 0) = some (.str "told") := rfl
theorem ed_2w {c d s : Nat} : ixA m (Ev.told c d s).d (.int 2) = some (.int (d : Nat)) := rfl
theorem ed_3w {c d s : Nat} : ixA m (Ev.told c d s).d (.int 3) = some (.int (s : Nat)) := rfl
theorem ed_1 (e : Ev) : ixA m e.d (.int 1) = some (.int (e.c : Nat)) := by cases e <;> rfl
theorem eqb_tt : eqD m (.str "turn") (.str "turn") = some (.bl true) := eqB (by kernel_rfl)
theorem eqb_wt : eqD m (.str "told") (.str "turn") = some (.bl false) := eqB (by kernel_rfl)
theorem evR_set {lo : List (Nat × Nat)} {i k s : Nat} (h : s < k) : (evR lo i k).set s true = evR (addLo lo (i, s)) i k := by
  apply List.ext_getElem?
  intro j
  unfold evR
  rw [List.getElem?_map]
  have hm : ∀ x : Nat × Nat, x ∈ addLo lo (i, s) ↔ x ∈ lo ∨ x = (i, s) := fun x => ⟨addLo_mem, fun hx => by
    unfold addLo
    split
    · rcases hx with hx | rfl
      · exact hx
      · assumption
    · exact hx.elim (fun z => List.mem_append_left _ z) fun z => List.mem_append_right _ (List.mem_singleton.mpr z)⟩
  by_cases hj : j = s
  · subst hj
    rw [List.getElem?_set_self (by simpa using h), List.getElem?_range h]
    show some true = some (decide ((i, j) ∈ addLo lo (i, j)))
    rw [decide_eq_true ((hm _).mpr (.inr rfl))]
  · rw [List.getElem?_set_ne (fun z => hj z.symm), List.getElem?_map]
    rcases Nat.lt_or_ge j k with hk | hk
    · rw [List.getElem?_range hk]
      show some (decide ((i, j) ∈ lo)) = some (decide ((i, j) ∈ addLo lo (i, s)))
      congr 1
      rw [decide_eq_decide]
      exact ⟨fun z => (hm _).mpr (.inl z), fun z => ((hm _).mp z).elim id fun y => absurd (Prod.mk.inj y).2 hj⟩
    · rw [List.getElem?_eq_none (by simpa using hk)]
      rfl
/-- what came of an event, as told -/
def toldS : Option Wh → Str
  | some v => v.s
  | none => "told"
def hitI (st : List Sd) (la : List Str) (i : Nat) : Bool := (List.range i).any fun j => !(st.getD j begun).isIn && decide (la.getD j Str.empty = "missed")
theorem hit_succ (st : List Sd) (la : List Str) (i : Nat) : hitI st la (i + 1) = (hitI st la i || (!(st.getD i begun).isIn && decide (la.getD i Str.empty = "missed"))) := by
  unfold hitI
  rw [List.range_succ, List.any_append]
  simp
theorem outI_of : ∀ (i : Nat) (l : List Sd) (k : Nat) (x : Sd), l[k]? = some x → x.isIn = false → i + k ∈ outI i l
  | i, [], k, x, h, _ => by cases h
  | i, y :: l, 0, x, h, hx => by
    cases h
    rw [outI, hx]
    exact List.mem_append_left _ (List.mem_singleton.mpr rfl)
  | i, y :: l, k + 1, x, h, hx => by
    rw [outI]
    refine List.mem_append_right _ ?_
    have := outI_of (i + 1) l k x h hx
    rwa [show i + (k + 1) = i + 1 + k by omega]
theorem hit_out (st : List Sd) (la : List Str) : hitI st la st.length = (outI 0 st).any fun i => decide (la.getD i Str.empty = "missed") := by
  unfold hitI
  rw [Bool.eq_iff_iff, List.any_eq_true, List.any_eq_true]
  constructor
  · rintro ⟨j, hj, h⟩
    have hl := List.mem_range.mp hj
    have e : st[j]? = some (st.getD j begun) := by
      rw [List.getD_eq_getElem?_getD, List.getElem?_eq_getElem hl]
      rfl
    rw [Bool.and_eq_true] at h
    refine ⟨j, ?_, h.2⟩
    have := outI_of 0 st j _ e (by simpa using h.1)
    rwa [Nat.zero_add] at this
  · rintro ⟨j, hj, h⟩
    obtain ⟨k, x, h1, h2, h3⟩ := outI_at 0 st j hj
    rw [Nat.zero_add] at h2
    subst h2
    refine ⟨j, List.mem_range.mpr (List.getElem?_eq_some_iff.mp h1).1, ?_⟩
    rw [List.getD_eq_getElem?_getD, h1]
    show (!x.isIn && _) = true
    rw [h3, h]
    rfl
/-- a list of goals that grows -/
theorem frz_goR {k : Nat} {gs : List Go} (h : m[k]? = some (.lst (goD gs))) : frz m (.ref k) = some (.lst (goD gs)) := by
  have q : mapO (frzGo m 39) (goD gs) = some (goD gs) := mapO_self fun d hd => by
    obtain ⟨s, _, rfl⟩ := List.mem_map.mp hd
    rfl
  have p : pureD (.ref k) = false := rfl
  unfold frz
  rw [p]
  show frzGo m (39 + 1) (.ref k) = _
  unfold frzGo
  rw [h]
  show (mapO (frzGo m 39) (goD gs)).map D.lst = _
  rw [q]
  rfl
theorem nin_swap {k : Nat} {hit : Bool} (h : m[k]? = some (.lst (goD (.kept :: bif hit then [.swap] else [])))) : ninA m (.str "swap") (.ref k) = some (.bl (!hit)) := by
  have e1 : dicOf m (.ref k) = none := by
    show (m[k]?).bind dicO = _
    rw [h]
    rfl
  have f := frz_goR h
  have e2 : inB m (.str "swap") (.ref k) = some hit := by
    have h3 : inB m (.str "swap") (.ref k) = (match pdM m (.str "swap"), pdM m (.ref k) with
      | some a, some (.tuple ds) => some (ds.any fun z => PyData.eqv z a)
      | some a, some (.list ds) => some (ds.any fun z => PyData.eqv z a)
      | _, _ => none) := rfl
    have h4 : pdM m (.ref k) = pdM [] (.lst (goD (.kept :: bif hit then [.swap] else []))) := by
      unfold pdM
      rw [f, frz_p (by cases hit <;> rfl)]
    have h5 : pdM m (.str "swap") = some (.str "swap") := pdM_pure rfl rfl (by decide +kernel)
    rw [h3, h4, h5]
    cases hit <;> kernel_rfl
  unfold ninA inAB
  rw [e1, e2]
  rfl
end
end L4
namespace L4
open PySem
section
variable {m m0 : M} {ρ : Ss} {r : Ru} {most : Int} {w : Wo} {nc ns n b d : Nat} {c : Ca} {e : Ev}
theorem wo0_LB (h1 : ∀ i, i < nc → m[b + i]? = some (.lst ((List.replicate ns begun).map Sd.d))) (h2 : ∀ i, i < nc → m[b + nc + i]? = some (.lst ((List.replicate ns false).map D.bl))) (h3 : ∀ i, i < nc → m[b + 2 * nc + i]? = some (.lst ((List.replicate ns false).map D.bl))) (h4 : m[b + 3 * nc]? = some (.lst (rfs (b + 2 * nc) nc))) (h5 : m[b + 3 * nc + 1]? = some (.dic wbK (wbV b nc))) : LB m b (wo0 nc ns) := by
  have hl : (wo0 nc ns).cs.length = nc := List.length_replicate ..
  have key : ∀ (i : Nat) c, (wo0 nc ns).cs[i]? = some c → i < nc ∧ c = ca0 ns := fun i c hc => by
    have h1 := (List.getElem?_eq_some_iff.mp hc).1
    rw [hl] at h1
    exact ⟨h1, List.eq_of_mem_replicate (List.mem_of_getElem? hc)⟩
  refine ⟨fun i c hc => ?_, fun i c hc => ?_, fun i c hc => ?_, ?_, ?_⟩ <;> (try rw [hl])
  · obtain ⟨hi, rfl⟩ := key i c hc
    exact h1 i hi
  · obtain ⟨hi, rfl⟩ := key i c hc
    have e : evR (wo0 nc ns).lo i (ca0 ns).st.length = List.replicate ns false := by
      unfold evR
      rw [show (ca0 ns).st.length = ns from List.length_replicate ..]
      refine List.eq_replicate_iff.mpr ⟨by simp, fun b hb => ?_⟩
      obtain ⟨s, _, rfl⟩ := List.mem_map.mp hb
      exact decide_eq_false (by simp [wo0])
    rw [e]
    exact h2 i hi
  · obtain ⟨hi, rfl⟩ := key i c hc
    have e : laR (ca0 ns) = List.replicate ns false := by
      unfold laR
      refine List.eq_replicate_iff.mpr ⟨by simp [ca0], fun b hb => ?_⟩
      obtain ⟨s, hs, rfl⟩ := List.mem_map.mp hb
      rw [List.eq_of_mem_replicate hs]
      decide +kernel
    rw [e]
    exact h3 i hi
  · exact h4
  · exact h5
theorem la_at {s : Nat} (h : s < c.la.length) : (laR c)[s]? = some (decide (c.la.getD s Str.empty = ("missed" : Str))) := by
  unfold laR
  rw [List.getElem?_map, List.getElem?_eq_getElem h, List.getD_eq_getElem?_getD, List.getElem?_eq_getElem h]
  rfl
theorem la_set {s : Nat} {v : Wh} : (laR c).set s (decide (v = .missed)) = laR ⟨c.st, c.la.set s v.s, c.fe, c.mi⟩ := by
  unfold laR
  rw [List.map_set]
  congr 1
  cases v <;> decide +kernel
theorem ev_at {lo : List (Nat × Nat)} {i k s : Nat} (h : s < k) : (evR lo i k)[s]? = some (decide ((i, s) ∈ lo)) := by
  unfold evR
  rw [List.getElem?_map, List.getElem?_range h]
  rfl
theorem ml_at {s : Nat} {l : List Sd} (h : s < l.length) : l[s]? = some (l.getD s begun) := by
  rw [List.getD_eq_getElem?_getD, List.getElem?_eq_getElem h]
  rfl
theorem mb_bl {l : List Bool} {s : Nat} {x : Bool} : (l.map D.bl).set s (.bl x) = (l.set s x).map D.bl := by rw [List.map_set]
theorem set_lastB {o o2 : O} : (m ++ [o]).set m.length o2 = m ++ [o2] := by simp
theorem frz_rd {d : Nat} (hd : m[d]? = some (.dic rK r.kv)) : frz m (.ref d) = some (.dic rK r.kv) := by
  have := frz_rule hd
  rw [mapO] at this
  cases h : frz m (.ref d) with
  | none => rw [h] at this; cases this
  | some x => rw [h] at this; cases this; rfl
local macro_rules | `(tactic| trivial) => `(tactic| (repeat (first | with_reducible refine WS.seq ?_ | with_reducible refine WS.nx ?_ | with_reducible refine WS.rt ?_ | with_reducible refine WS.asg ?_ | with_reducible refine WS.drop ?_ | with_reducible refine WS.ret ?_ | with_reducible refine WS.nop ?_ | with_reducible refine WS.retN ?_ | with_reducible refine WS.brk ?_ | with_reducible refine WS.cont ?_ | with_reducible refine WS.sif ?_ | with_reducible refine WS.par ?_ | with_reducible refine WG.setA ?_ | with_reducible refine WE.c ?_ | with_reducible refine WE.op ?_ | with_reducible refine WE.call ?_ | with_reducible refine WE.callM ?_ | with_reducible refine WE.un ?_ | with_reducible refine WE.tup ?_ | with_reducible refine WE.lst ?_ | with_reducible refine WE.newL ?_ | with_reducible refine WE.eif ?_ | with_reducible refine WE.sl ?_ | with_reducible refine WE.isN ?_ | with_reducible refine WE.notN ?_ | with_reducible refine WE.not ?_ | with_reducible refine WE.and ?_ | with_reducible refine WE.or ?_ | with_reducible refine WE.app ?_ | with_reducible refine WE.tupR ?_ | with_reducible refine WE.lisR ?_ | with_reducible refine WE.m1 ?_ | with_reducible refine WE.tbl ?_ | with_reducible refine WE.tblNin ?_ | with_reducible refine WE.chain ?_ | with_reducible refine WE.fldF ?_ | with_reducible refine WE.mth ?_ | with_reducible refine WE.disp ?_ | with_reducible refine WE.dicC ?_ | with_reducible refine WP.nil ?_ | with_reducible refine WP.cons ?_ | with_reducible refine WE.upd ?_ | with_reducible refine WA.nil ?_ | with_reducible refine WA.cons ?_ | with_reducible refine WA.star ?_ | with_reducible refine WO.no ?_ | with_reducible refine WO.yes ?_ | with_reducible refine WT.val ?_ | with_reducible refine WT.and ?_ | with_reducible refine WT.or ?_ | with_reducible refine WT.not ?_ | with_reducible refine WT.tt ?_ | with_reducible refine WI.it ?_ | with_reducible refine Kn.add_i ?_ | with_reducible refine Kn.sub ?_ | with_reducible refine Kn.neg ?_ | with_reducible refine Kn.eq_i ?_ | with_reducible refine Kn.ne_i ?_ | with_reducible refine Kn.lt ?_ | with_reducible refine Kn.le ?_ | with_reducible refine Kn.gt ?_ | with_reducible refine Kn.ge ?_ | with_reducible refine Kn.int_i ?_ | with_reducible refine Kn.int_b ?_ | with_reducible refine Kn.abs ?_ | with_reducible refine Kn.min2 ?_ | with_reducible refine Kn.max2 ?_ | with_reducible refine Kn.len_t ?_ | with_reducible refine Kn.len_l ?_ | with_reducible refine Kn.len_s ?_ | with_reducible refine Kn.tup_t ?_ | with_reducible refine Kn.tup_l ?_ | with_reducible refine Kn.lis_t ?_ | with_reducible refine Kn.lis_l ?_ | with_reducible refine Kn.seq_t ?_ | with_reducible refine Kn.seq_l ?_ | with_reducible refine Kn.it_t ?_ | with_reducible refine Kn.it_l ?_ | with_reducible refine Kn.it_s ?_ | with_reducible refine Kn.str_s ?_ | with_reducible refine Kn.sl_t ?_ | with_reducible refine Kn.sl_l ?_ | with_reducible refine Kn.sl_rt ?_ | with_reducible refine Kn.ix_rt1 ?_ | with_reducible refine Kn.ix_rt2 ?_ | with_reducible refine Kn.kx_need ?_ | with_reducible refine Kn.kx_of ?_ | with_reducible refine Kn.kx_base ?_ | with_reducible refine Kn.kx_more ?_ | with_reducible refine Kn.kx_most ?_ | with_reducible refine Kn.kx_calm ?_ | with_reducible refine Kn.kx_back ?_ | with_reducible refine Kn.kx_under ?_ | with_reducible refine Kn.kx_top ?_ | with_reducible refine Kn.kx_up ?_ | with_reducible refine Kn.kx_hears ?_ | with_reducible refine Fld.need ?_ | with_reducible refine Fld.of ?_ | with_reducible refine Fld.base ?_ | with_reducible refine Fld.more ?_ | with_reducible refine Fld.most ?_ | with_reducible refine Fld.calm ?_ | with_reducible refine Fld.back ?_ | with_reducible refine Fld.top ?_ | with_reducible refine Fld.under ?_ | with_reducible refine Fld.up ?_ | with_reducible refine Fld.hears ?_ | with_reducible refine Fld.cap ?_ | with_reducible refine Mth.time ?_ | ((with_reducible refine WG.nm ?_); dsimp only [setMany, List.set_cons_succ, List.set_cons_zero]) | ((with_reducible refine WG.one ?_); dsimp only [setMany, List.set_cons_succ, List.set_cons_zero]) | ((with_reducible refine WG.tup ?_ ?_); exact rfl; dsimp only [setMany, List.set_cons_succ, List.set_cons_zero]) | ((with_reducible apply WE.var); exact rfl) | ((with_reducible apply WS.aug); exact rfl) | ((with_reducible apply WE.newPL); exact rfl) | ((with_reducible refine WS.ite_t ?_ ?_); exact rfl) | ((with_reducible refine WS.ite_f ?_ ?_); exact rfl) | ((with_reducible refine WE.ite_t ?_ ?_); exact rfl) | ((with_reducible refine WE.ite_f ?_ ?_); exact rfl) | ((with_reducible refine w_and_t ?_ ?_); exact rfl) | ((with_reducible refine w_and_f ?_ ?_); exact rfl) | ((with_reducible refine w_or_t ?_ ?_); exact rfl) | ((with_reducible refine w_or_f ?_ ?_); exact rfl) | ((with_reducible refine Kn.fdiv ?_ ?_); exact ⟨by decide, by decide⟩) | ((with_reducible refine Kn.mod ?_ ?_); decide) | ((with_reducible refine And.intro (a := (_ && _) = true) ?_ ?_); exact rfl) | ((with_reducible refine And.intro (a := List.length _ = List.length _) ?_ ?_); exact rfl; dsimp only [setMany, List.set_cons_succ, List.set_cons_zero]) | ((with_reducible refine ⟨wsz ?_, ?_⟩); first | decide | (show (_ : Nat) ≤ 1000; simp only [List.length_cons, List.length_nil]; decide)) | with_reducible refine ⟨_, rfl, ?_⟩)))
theorem lbegin_b (hns : ns ≤ 1000) (hnc : nc ≤ 1000) {Q : D → M → Prop} (q : ∀ m', LB m' m.length (wo0 nc ns) → m'.length = m.length + 3 * nc + 2 → (∀ j, j < m.length → m'[j]? = m[j]?) → (noIns m = true → noIns m' = true) → Q (.ref (m.length + 3 * nc + 1)) m') : Wr (F__law_begin [.int (nc : Nat), .int (ns : Nat)] m) Q := by
  refine WS.runM (n := 8) (b := f__law_begin) ?_ rfl
  show WS _ [some (.int (nc : Nat)), some (.int (ns : Nat)), none, none, none, none, none, none] m _
  generalize hA : (O.lst ((List.replicate ns begun).map Sd.d)) = A
  generalize hB : (O.lst ((List.replicate ns false).map D.bl)) = B
  have eA : ((List.range ns).map fun _ => begun.d) = (List.replicate ns begun).map Sd.d := by rw [List.map_replicate, List.map_const', List.length_range]
  have eB : ((List.range ns).map fun _ => D.bl false) = (List.replicate ns false).map D.bl := by rw [List.map_replicate, List.map_const', List.length_range]
  trivial
  unfold f__law_begin_3
  refine WS.seq (WS.asg ?_)
  refine rows_w (nw := false) (n := nc) (L := (List.replicate ns begun).map Sd.d) hnc ?_ ?_ ?_
  · trivial
    exact ⟨rfl, rfl⟩
  · intro x m1
    dsimp only [List.set_cons_succ, List.set_cons_zero]
    refine WE.lcPw (fun i : Nat => .int (i : Nat)) (fun _ => begun.d) (xs := List.range ns) ?_ (by simp; omega) (fun i _ => ⟨_, rfl, ?_⟩) ?_
    · refine WI.r1 ?_
      trivial
      refine ⟨⟨by omega, by omega⟩, ?_, rfl⟩
      rw [Int.toNat_natCast, rng_map]
    · dsimp only [Tgt.is, setMany, List.set_cons_succ, List.set_cons_zero]
      trivial
      exact ⟨rfl, rfl⟩
    · rw [eA]
      exact ⟨rfl, rfl⟩
  rw [hA]
  dsimp only [cond_false]
  trivial
  unfold f__law_begin_2
  refine WS.seq (WS.asg ?_)
  refine rows_w (nw := false) (n := nc) (L := (List.replicate ns false).map D.bl) hnc ?_ ?_ ?_
  · trivial
    exact ⟨rfl, rfl⟩
  · intro x m1
    dsimp only [List.set_cons_succ, List.set_cons_zero]
    refine WE.lcPw (fun i : Nat => .int (i : Nat)) (fun _ => .bl false) (xs := List.range ns) ?_ (by simp; omega) (fun i _ => ⟨_, rfl, ?_⟩) ?_
    · refine WI.r1 ?_
      trivial
      refine ⟨⟨by omega, by omega⟩, ?_, rfl⟩
      rw [Int.toNat_natCast, rng_map]
    · dsimp only [Tgt.is, setMany, List.set_cons_succ, List.set_cons_zero]
      trivial
      exact ⟨rfl, rfl⟩
    · rw [eB]
      exact ⟨rfl, rfl⟩
  rw [hB]
  dsimp only [cond_false]
  trivial
  unfold f__law_begin_1
  have l1 : (m ++ List.replicate nc A).length = m.length + nc := by simp
  rw [l1]
  have hm2l : (m ++ List.replicate nc A ++ List.replicate nc B).length = m.length + 2 * nc := by simp; omega
  have hA2 : ∀ i, i < nc → (m ++ List.replicate nc A ++ List.replicate nc B)[m.length + i]? = some A := fun i hi => at_rep hi
  have hB2 : ∀ i, i < nc → (m ++ List.replicate nc A ++ List.replicate nc B)[m.length + nc + i]? = some B := fun i hi => by
    rw [List.getElem?_append_right (by rw [l1]; omega), l1, show m.length + nc + i - (m.length + nc) = i by omega, List.getElem?_replicate_of_lt hi]
  have hm2o : ∀ j, j < m.length → (m ++ List.replicate nc A ++ List.replicate nc B)[j]? = m[j]? := fun j hj => by
    rw [List.append_assoc, List.getElem?_append_left hj]
  have hni2 : noIns m = true → noIns (m ++ List.replicate nc A ++ List.replicate nc B) = true := fun h => by
    rw [List.append_assoc]
    refine noIns_more h ?_
    rw [List.all_append, List.all_replicate, List.all_replicate, ← hA, ← hB]
    cases nc <;> rfl
  generalize m ++ List.replicate nc A ++ List.replicate nc B = m2 at *
  refine WS.ret (WE.disp ?_)
  trivial
  refine WE.lcIw (fun m' acc => m' = m2 ++ List.replicate acc.length B ∧ acc = rfs m2.length acc.length) ?_
  refine WI.it ?_
  trivial
  refine ⟨by rw [rfs_len]; omega, ⟨by simp, rfl⟩, ?_, ?_⟩
  · rintro j x m3 acc hx hj ⟨rfl, e⟩
    have hjl : j < nc := by
      have := (List.getElem?_eq_some_iff.mp hx).1
      rwa [rfs_len] at this
    rw [rfs_at hjl] at hx
    cases hx
    refine ⟨_, rfl, ?_⟩
    dsimp only [Tgt.is, setMany, List.set_cons_succ, List.set_cons_zero]
    refine WE.lisNr ?_
    trivial
    refine ⟨_, (List.replicate ns false).map D.bl, rfl, ?_, ?_⟩
    · rw [List.getElem?_append_left (by omega), hB2 j hjl, ← hB]
    · rw [hB]
      refine ⟨?_, ?_⟩
      · rw [List.length_append, List.length_singleton, List.replicate_succ', List.append_assoc]
      · have hla : (acc ++ [D.ref (m2 ++ List.replicate acc.length B).length]).length = acc.length + 1 := by simp
        rw [hla]
        conv => lhs; lhs; rw [e]
        unfold rfs
        rw [List.range_succ, List.map_append]
        simp
  · rintro m3 acc hl ⟨rfl, e⟩
    rw [rfs_len] at hl
    rw [hl] at e ⊢
    subst e
    dsimp only [cond_true]
    trivial
    have e0 : mergeD [(.str "now", .lst (rfs m.length nc)), (.str "ever", .lst (rfs (m.length + nc) nc)), (.str "last", .ref (m2 ++ List.replicate nc B).length)] ([], []) = (wbK, wbV m.length nc) := by
      have : (m2 ++ List.replicate nc B).length = m.length + 3 * nc := by simp; omega
      rw [this]
      kernel_rfl
    rw [e0]
    have hm3l : (m2 ++ List.replicate nc B ++ [O.lst (rfs m2.length nc)]).length = m.length + 3 * nc + 1 := by simp; omega
    have hm3b : (m2 ++ List.replicate nc B).length = m.length + 3 * nc := by simp; omega
    dsimp only [cond_true]
    refine .inl ⟨_, rfl, ?_⟩
    rw [hm3l]
    refine q _ (wo0_LB (fun i hi => ?_) (fun i hi => ?_) (fun i hi => ?_) ?_ ?_) ?_ (fun j hj => ?_) fun h => ?_
    · rw [hA, List.append_assoc, List.append_assoc, List.getElem?_append_left (by omega)]
      exact hA2 i hi
    · rw [hB, List.append_assoc, List.append_assoc, List.getElem?_append_left (by omega)]
      exact hB2 i hi
    · rw [hB, List.append_assoc, ← hm2l]
      exact at_rep hi
    · rw [List.append_assoc, List.getElem?_append_right (by omega), hm3b, Nat.sub_self, hm2l]
      rfl
    · rw [List.getElem?_append_right (by omega), hm3l, Nat.sub_self]
      rfl
    · rw [List.length_append, hm3l]
      rfl
    · rw [List.append_assoc, List.append_assoc, List.getElem?_append_left (by omega)]
      exact hm2o j hj
    · rw [List.append_assoc, List.append_assoc]
      refine noIns_more (hni2 h) ?_
      rw [List.all_append, List.all_replicate, ← hB]
      cases nc <;> rfl
end
end L4
namespace L4
open PySem
section
variable {m m0 : M} {ρ : Ss} {r : Ru} {most : Int} {w : Wo} {nc ns n b d : Nat} {c : Ca} {e : Ev}
theorem lim_nat (h : Sh r) (n : Nat) : ((limN r.top.toNat r.under.toNat r.up n : Nat) : Int) = r.lim (n : Nat) := by
  have e1 := h.t
  have e2 := h.u
  have u1 := h.u1
  unfold limN Ru.lim
  rw [Int.natCast_ediv, e2]
  congr 1
  cases r.up
  · simp [e1]
  · have e3 : ((r.under.toNat - 1 : Nat) : Int) = r.under - 1 := by omega
    simp only [if_true]
    rw [Int.natCast_add, Int.natCast_mul, e1, e3]
theorem gr_bls : ∀ w : List Bool, groundL (w.map D.bl) = true
  | [] => rfl
  | b :: w => by rw [List.map_cons, groundL, groundD, gr_bls w]; rfl
theorem gr_sd (s : Sd) : groundD s.d = true := by cases s <;> simp [Sd.d, groundD, groundL, gr_bls]
theorem frz_rs {xs : List D} (hd : m[d]? = some (.dic rK r.kv)) (hx : pureL xs = true) : mapO (frz m) (.ref d :: xs) = some (.dic rK r.kv :: xs) := by
  have h : mapO (frz m) xs = some xs := by
    induction xs with
    | nil => rfl
    | cons x xs ih =>
      rw [pureL, Bool.and_eq_true] at hx
      rw [mapO, frz_p hx.1, ih hx.2]
  rw [mapO, frz_rd hd, h]
theorem kept_in (h : (r.hap most w e).2.2 = true) : (r.hap most w e).1.isIn = true := by
  rw [kept_eq] at h
  unfold kept28 at h
  cases hx : (r.hap most w e).1.isIn
  · rw [hx] at h
    simp at h
  · rfl
local macro_rules | `(tactic| trivial) => `(tactic| (repeat (first | with_reducible refine WS.seq ?_ | with_reducible refine WS.nx ?_ | with_reducible refine WS.rt ?_ | with_reducible refine WS.asg ?_ | with_reducible refine WS.drop ?_ | with_reducible refine WS.ret ?_ | with_reducible refine WS.nop ?_ | with_reducible refine WS.retN ?_ | with_reducible refine WS.brk ?_ | with_reducible refine WS.cont ?_ | with_reducible refine WS.sif ?_ | with_reducible refine WS.par ?_ | with_reducible refine WG.setA ?_ | with_reducible refine WE.c ?_ | with_reducible refine WE.op ?_ | with_reducible refine WE.call ?_ | with_reducible refine WE.callM ?_ | with_reducible refine WE.un ?_ | with_reducible refine WE.tup ?_ | with_reducible refine WE.lst ?_ | with_reducible refine WE.newL ?_ | with_reducible refine WE.eif ?_ | with_reducible refine WE.sl ?_ | with_reducible refine WE.isN ?_ | with_reducible refine WE.notN ?_ | with_reducible refine WE.not ?_ | with_reducible refine WE.and ?_ | with_reducible refine WE.or ?_ | with_reducible refine WE.app ?_ | with_reducible refine WE.tupR ?_ | with_reducible refine WE.lisR ?_ | with_reducible refine WE.m1 ?_ | with_reducible refine WE.tbl ?_ | with_reducible refine WE.tblNin ?_ | with_reducible refine WE.chain ?_ | with_reducible refine WE.fldF ?_ | with_reducible refine WE.mth ?_ | with_reducible refine WE.disp ?_ | with_reducible refine WE.dicC ?_ | with_reducible refine WP.nil ?_ | with_reducible refine WP.cons ?_ | with_reducible refine WE.upd ?_ | with_reducible refine WA.nil ?_ | with_reducible refine WA.cons ?_ | with_reducible refine WA.star ?_ | with_reducible refine WO.no ?_ | with_reducible refine WO.yes ?_ | with_reducible refine WT.val ?_ | with_reducible refine WT.and ?_ | with_reducible refine WT.or ?_ | with_reducible refine WT.not ?_ | with_reducible refine WT.tt ?_ | with_reducible refine WI.it ?_ | with_reducible refine Kn.add_i ?_ | with_reducible refine Kn.sub ?_ | with_reducible refine Kn.neg ?_ | with_reducible refine Kn.eq_i ?_ | with_reducible refine Kn.ne_i ?_ | with_reducible refine Kn.lt ?_ | with_reducible refine Kn.le ?_ | with_reducible refine Kn.gt ?_ | with_reducible refine Kn.ge ?_ | with_reducible refine Kn.int_i ?_ | with_reducible refine Kn.int_b ?_ | with_reducible refine Kn.abs ?_ | with_reducible refine Kn.min2 ?_ | with_reducible refine Kn.max2 ?_ | with_reducible refine Kn.len_t ?_ | with_reducible refine Kn.len_l ?_ | with_reducible refine Kn.len_s ?_ | with_reducible refine Kn.tup_t ?_ | with_reducible refine Kn.tup_l ?_ | with_reducible refine Kn.lis_t ?_ | with_reducible refine Kn.lis_l ?_ | with_reducible refine Kn.seq_t ?_ | with_reducible refine Kn.seq_l ?_ | with_reducible refine Kn.it_t ?_ | with_reducible refine Kn.it_l ?_ | with_reducible refine Kn.it_s ?_ | with_reducible refine Kn.str_s ?_ | with_reducible refine Kn.sl_t ?_ | with_reducible refine Kn.sl_l ?_ | with_reducible refine Kn.sl_rt ?_ | with_reducible refine Kn.ix_rt1 ?_ | with_reducible refine Kn.ix_rt2 ?_ | with_reducible refine Kn.kx_need ?_ | with_reducible refine Kn.kx_of ?_ | with_reducible refine Kn.kx_base ?_ | with_reducible refine Kn.kx_more ?_ | with_reducible refine Kn.kx_most ?_ | with_reducible refine Kn.kx_calm ?_ | with_reducible refine Kn.kx_back ?_ | with_reducible refine Kn.kx_under ?_ | with_reducible refine Kn.kx_top ?_ | with_reducible refine Kn.kx_up ?_ | with_reducible refine Kn.kx_hears ?_ | with_reducible refine Fld.need ?_ | with_reducible refine Fld.of ?_ | with_reducible refine Fld.base ?_ | with_reducible refine Fld.more ?_ | with_reducible refine Fld.most ?_ | with_reducible refine Fld.calm ?_ | with_reducible refine Fld.back ?_ | with_reducible refine Fld.top ?_ | with_reducible refine Fld.under ?_ | with_reducible refine Fld.up ?_ | with_reducible refine Fld.hears ?_ | with_reducible refine Fld.cap ?_ | with_reducible refine Mth.time ?_ | ((with_reducible refine WG.nm ?_); dsimp only [setMany, List.set_cons_succ, List.set_cons_zero]) | ((with_reducible refine WG.one ?_); dsimp only [setMany, List.set_cons_succ, List.set_cons_zero]) | ((with_reducible refine WG.tup ?_ ?_); exact rfl; dsimp only [setMany, List.set_cons_succ, List.set_cons_zero]) | ((with_reducible apply WE.var); exact rfl) | ((with_reducible apply WS.aug); exact rfl) | ((with_reducible apply WE.newPL); exact rfl) | ((with_reducible refine WS.ite_t ?_ ?_); exact rfl) | ((with_reducible refine WS.ite_f ?_ ?_); exact rfl) | ((with_reducible refine WE.ite_t ?_ ?_); exact rfl) | ((with_reducible refine WE.ite_f ?_ ?_); exact rfl) | ((with_reducible refine w_and_t ?_ ?_); exact rfl) | ((with_reducible refine w_and_f ?_ ?_); exact rfl) | ((with_reducible refine w_or_t ?_ ?_); exact rfl) | ((with_reducible refine w_or_f ?_ ?_); exact rfl) | ((with_reducible refine Kn.fdiv ?_ ?_); exact ⟨by decide, by decide⟩) | ((with_reducible refine Kn.mod ?_ ?_); decide) | ((with_reducible refine And.intro (a := (_ && _) = true) ?_ ?_); exact rfl) | ((with_reducible refine And.intro (a := List.length _ = List.length _) ?_ ?_); exact rfl; dsimp only [setMany, List.set_cons_succ, List.set_cons_zero]) | ((with_reducible refine ⟨wsz ?_, ?_⟩); first | decide | (show (_ : Nat) ≤ 1000; simp only [List.length_cons, List.length_nil]; decide)) | with_reducible refine ⟨_, rfl, ?_⟩)))
theorem louts_b (W : LB m b w) (hcs : w.cs.length = nc) {i : Nat} (hi : w.cs[i]? = some c) (hl : c.st.length ≤ 1000) {Q : D → M → Prop} (q : Q (.int (c.outs : Nat)) m) : Wr (F__law_outs [.ref (b + 3 * nc + 1), .int (i : Nat)] m) Q := by
  have hwd := W.wd
  have hst := W.st i c hi
  have hil := (List.getElem?_eq_some_iff.mp hi).1
  rw [hcs] at hwd hil
  refine WS.runM (n := 3) (b := f__law_outs) ?_ rfl
  show WS _ [some (.ref (b + 3 * nc + 1)), some (.int (i : Nat)), none] m _
  unfold f__law_outs
  trivial
  refine WE.lcR (enc := Sd.d) (xs := c.st) (n := b + i) (fun s => !s.isIn) Sd.d ?_ hst (by omega) (fun y hy => ⟨[y.d], rfl, ?_, fun _ => ?_⟩) ?_
  · trivial
    refine Kn.mk (wb_now hwd) ?_
    trivial
    refine Kn.ix_l (rfs_at hil) ?_
    exact ⟨rfl, rfl⟩
  · dsimp only [Tgt.is, setMany, List.set_cons_succ, List.set_cons_zero]
    trivial
    refine Kn.mk (ix_tag y) ?_
    trivial
    refine Kn.mk (ne_tag y) ?_
    trivial
    exact ⟨rfl, rfl⟩
  · dsimp only [Tgt.is, setMany, List.set_cons_succ, List.set_cons_zero]
    trivial
    exact ⟨rfl, rfl⟩
  trivial
  rw [List.length_map]
  exact .inl ⟨_, rfl, q⟩
theorem lgo_tail_b (hd : m[d]? = some (.dic rK r.kv)) (W : LB m b w) (K : w.Ok r nc ns) (hns : ns < 1000) {cr s : Nat} (hcr : cr < nc) (hs : s < ns) {told : Str} {kept : Bool} (hk : kept = true → ((w.at_ cr).st.getD s begun).isIn = true) (x5 x6 x8 x10 : Option D) {Q : D → M → Prop}
    (q : ∀ m', m'.length = m.length + 1 → (∀ j, j < m.length → m'[j]? = m[j]?) → m'[m.length]? = some (.lst (goD ((w.at_ cr).goals s kept))) → Q (.tup [.ref m.length, .str told]) m') :
    WS f__law_go_5 [some (.ref d), some (.ref (b + 3 * nc + 1)), some e.d, some (.int (cr : Nat)), some (.int (s : Nat)), x5, x6, some (.str told), x8, some (.bl kept), x10, none, none] m fun rr m1 => (∃ y, rr = .rt y ∧ Q y m1) ∨ ∃ ρ, rr = .nx ρ ∧ Q .non m1 := by
  have hcs := K.cs
  have KC := K.at_ hcr
  have hst := W.st cr _ (K.get hcr)
  have hla := W.la cr _ (K.get hcr)
  have hwd := W.wd
  have hlo := W.lo
  have hlt := W.lt
  rw [hcs] at hwd hla hlo hlt
  have hlen := KC.st
  have hlz : (w.at_ cr).la.length = ns := KC.la
  have eg : (w.at_ cr).goals s kept = (bif (w.at_ cr).st.all Sd.isOut then [.all] else []) ++ (bif kept then .kept :: (bif hitI (w.at_ cr).st (w.at_ cr).la (w.at_ cr).st.length then [.swap] else []) else []) := by
    unfold Ca.goals
    cases hkk : kept with
    | false => rfl
    | true =>
      rw [hit_out]
      unfold Ca.better
      rw [outI_spots28 (hk hkk)]
  rw [eg] at q
  generalize w.at_ cr = c at *
  unfold f__law_go_5
  trivial
  refine WE.lcR (enc := Sd.d) (xs := c.st) (n := b + cr) (fun s => !s.isOut) Sd.d ?_ hst (by omega) (fun y hy => ⟨[y.d], rfl, ?_, fun _ => ?_⟩) ?_
  · trivial
    refine Kn.mk (wb_now hwd) ?_
    trivial
    refine Kn.ix_l (rfs_at hcr) ?_
    exact ⟨rfl, rfl⟩
  · dsimp only [Tgt.is, setMany, List.set_cons_succ, List.set_cons_zero]
    trivial
    refine Kn.mk (ix_tag y) ?_
    trivial
    refine Kn.mk (ne_tago y) ?_
    trivial
    exact ⟨rfl, rfl⟩
  · dsimp only [Tgt.is, setMany, List.set_cons_succ, List.set_cons_zero]
    trivial
    exact ⟨rfl, rfl⟩
  trivial
  refine Kn.mk (eq_nilS _) ?_
  rw [filt_all]
  trivial
  have app : ∀ (o : O) (j : Nat), j < m.length → (m ++ [o])[j]? = m[j]? := fun o j hj => List.getElem?_append_left hj
  have at_ : ∀ (o : O), (m ++ [o])[m.length]? = some o := fun o => by simp
  have t4 : ∀ gs : List Go, gs = (bif c.st.all Sd.isOut then [.all] else []) → WS f__law_go_4 [some (.ref d), some (.ref (b + 3 * nc + 1)), some e.d, some (.int (cr : Nat)), some (.int (s : Nat)), x5, x6, some (.str told), x8, some (.bl kept), x10, some (.ref m.length), none] (m ++ [.lst (goD gs)]) fun rr m1 => (∃ y, rr = .rt y ∧ Q y m1) ∨ ∃ ρ, rr = .nx ρ ∧ Q .non m1 := by
    intro gs hgs
    unfold f__law_go_4
    cases hkk : kept with
    | false =>
      rw [hkk] at q
      trivial
      refine .inl ⟨_, rfl, q _ (by simp) (app _) ?_⟩
      rw [at_, hgs, cond_false, List.append_nil]
    | true =>
      rw [hkk] at q
      have hin := hk hkk
      have hall : c.st.all Sd.isOut = false := by
        rw [List.all_eq_false]
        refine ⟨c.st.getD s begun, getD_in (by omega), ?_⟩
        revert hin
        cases c.st.getD s begun <;> simp [Sd.isIn, Sd.isOut]
      rw [hall, cond_false] at hgs q
      subst hgs
      trivial
      refine ⟨⟨_, at_ _⟩, ?_⟩
      trivial
      refine ⟨_, at_ _, wsz (by simp [goD]), ?_⟩
      rw [set_lastB]
      trivial
      unfold f__law_go_3
      have ek : (goD [] ++ [D.str "kept"]) = goD (.kept :: bif hitI c.st c.la 0 then [.swap] else []) := rfl
      rw [ek]
      refine (WS.forEnR (b + cr) (c.st.map Sd.d) (fun i ρ m' => m' = m ++ [.lst (goD (.kept :: bif hitI c.st c.la i then [.swap] else []))] ∧ ∃ y10 y12, ρ = [some (.ref d), some (.ref (b + 3 * nc + 1)), some e.d, some (.int (cr : Nat)), some (.int (s : Nat)), x5, x6, some (.str told), x8, some (.bl true), y10, some (.ref m.length), y12]) ?_ ?_ ?_ ?_)
      · trivial
        refine Kn.mk (wb_now ((app _ _ (by omega)).trans hwd)) ?_
        trivial
        refine Kn.ix_l (rfs_at hcr) ?_
        exact ⟨rfl, by rw [List.length_map]; unfold big; omega, rfl, _, _, rfl⟩
      · rintro i ρ m' ⟨rfl, _⟩
        rw [app _ _ (by omega)]
        exact hst
      · rintro i x ρ m' hi ⟨rfl, y10, y12, rfl⟩
        have hil := (List.getElem?_eq_some_iff.mp hi).1
        rw [List.length_map] at hil
        rw [List.getElem?_map, ml_at hil] at hi
        cases hi
        have hsc := hit_succ c.st c.la i
        have hla2 : (m ++ [O.lst (goD (.kept :: bif hitI c.st c.la i then [.swap] else []))])[b + 2 * nc + cr]? = some (.lst ((laR c).map D.bl)) := (app _ _ (by omega)).trans hla
        have hlo2 : (m ++ [O.lst (goD (.kept :: bif hitI c.st c.la i then [.swap] else []))])[b + 3 * nc]? = some (.lst (rfs (b + 2 * nc) nc)) := (app _ _ (by omega)).trans hlo
        have hwd2 : (m ++ [O.lst (goD (.kept :: bif hitI c.st c.la i then [.swap] else []))])[b + 3 * nc + 1]? = some (.dic wbK (wbV b nc)) := (app _ _ (by omega)).trans hwd
        have hf2 := at_ (O.lst (goD (.kept :: bif hitI c.st c.la i then [.swap] else [])))
        trivial
        unfold f__law_go_2
        generalize c.st.getD i begun = y at *
        have same : hitI c.st c.la (i + 1) = hitI c.st c.la i → (O.lst (goD (.kept :: bif hitI c.st c.la i then [.swap] else [])) = O.lst (goD (.kept :: bif hitI c.st c.la (i + 1) then [.swap] else []))) := fun h => by rw [h]
        trivial
        refine Kn.mk (ix_tag y) ?_
        trivial
        refine Kn.mk (ne_tag y) ?_
        refine ⟨_, rfl, fun hy => ?_, fun hy => ?_⟩
        · rw [hy, Bool.true_and] at hsc
          trivial
          refine Kn.mk (wb_last hwd2) ?_
          trivial
          refine Kn.mk (ix_r hlo2 (rfs_at hcr)) ?_
          trivial
          refine Kn.mk (ix_r hla2 (ca_ix (la_at (by omega)))) ?_
          refine ⟨_, rfl, fun hz => ?_, fun hz => ?_⟩
          · rw [hz, Bool.or_true] at hsc
            trivial
            refine Kn.mk (nin_swap hf2) ?_
            trivial
            cases hh : hitI c.st c.la i with
            | true =>
              rw [hh] at hf2
              trivial
              exact ⟨_, .inl rfl, by rw [hsc], _, _, rfl⟩
            | false =>
              rw [hh] at hf2
              trivial
              refine ⟨⟨_, hf2⟩, ?_⟩
              trivial
              refine ⟨_, hf2, wsz (by simp [goD]), ?_⟩
              rw [set_lastB]
              exact ⟨_, .inl rfl, by rw [hsc]; rfl, _, _, rfl⟩
          · rw [hz, Bool.or_false] at hsc
            trivial
            exact ⟨_, .inl rfl, by rw [hsc], _, _, rfl⟩
        · rw [hy, Bool.false_and, Bool.or_false] at hsc
          trivial
          exact ⟨_, .inl rfl, by rw [hsc], _, _, rfl⟩
      · rintro ρ m' ⟨rfl, y10, y12, rfl⟩
        rw [List.length_map] at *
        refine WS.nx ?_
        trivial
        refine .inl ⟨_, rfl, q _ (by simp) (app _) ?_⟩
        rw [at_]
        rfl
  cases hall : c.st.all Sd.isOut with
  | false =>
    trivial
    exact t4 [] (by rw [hall]; rfl)
  | true =>
    trivial
    exact t4 [.all] (by rw [hall]; rfl)
end
end L4
namespace L4
open PySem
section
variable {m m0 : M} {ρ : Ss} {r : Ru} {most : Int} {w : Wo} {nc ns n b d : Nat} {c : Ca} {e : Ev}
theorem gr_tw (x : Sd × Wh × Bool) : groundD (tw x) = true := by simp [tw, groundD, groundL, gr_sd]
theorem gr_pr (x : Sd) (k : Bool) : groundD (.tup [x.d, .bl k]) = true := by simp [groundD, groundL, gr_sd]
theorem pl_sbb (x : Sd) (f k : Bool) : pureL [x.d, .bl f, .bl k] = true := by simp [pureL, pureD, sd_pure]
theorem pl_sb (x : Sd) (k : Bool) : pureL [x.d, .bl k] = true := by simp [pureL, pureD, sd_pure]
theorem put_len {x : Sd} {s : Nat} {v : Option Wh} : (c.put s x v).st.length = c.st.length := by rw [put_st, List.length_set]
theorem LB.noI {m' : M} (h : ∀ j, j < b ∨ (b + 3 * w.cs.length + 2 ≤ j ∧ j < m.length) → m'[j]? = m[j]?) (W' : LB m' b w) (hl : m'.length = m.length) (hni : noIns m = true) : noIns m' = true := by
  rw [noIns_eq, List.all_eq_true] at hni ⊢
  intro o ho
  obtain ⟨j, hj⟩ := List.mem_iff_getElem?.mp ho
  have hjl := (List.getElem?_eq_some_iff.mp hj).1
  by_cases h1 : j < b ∨ (b + 3 * w.cs.length + 2 ≤ j ∧ j < m.length)
  · rw [h j h1] at hj
    exact hni o (List.mem_of_getElem? hj)
  · have get : ∀ i, i < w.cs.length → ∃ c, w.cs[i]? = some c := fun i hi => ⟨_, List.getElem?_eq_getElem hi⟩
    by_cases c1 : j = b + 3 * w.cs.length + 1
    · rw [c1, W'.wd] at hj; cases hj; rfl
    by_cases c2 : j = b + 3 * w.cs.length
    · rw [c2, W'.lo] at hj; cases hj; rfl
    by_cases c3 : j < b + w.cs.length
    · obtain ⟨c, hc⟩ := get (j - b) (by omega)
      have := W'.st _ c hc
      rw [show b + (j - b) = j by omega, hj] at this
      cases this; rfl
    by_cases c4 : j < b + 2 * w.cs.length
    · obtain ⟨c, hc⟩ := get (j - b - w.cs.length) (by omega)
      have := W'.ev _ c hc
      rw [show b + w.cs.length + (j - b - w.cs.length) = j by omega, hj] at this
      cases this; rfl
    · obtain ⟨c, hc⟩ := get (j - b - 2 * w.cs.length) (by omega)
      have := W'.la _ c hc
      rw [show b + 2 * w.cs.length + (j - b - 2 * w.cs.length) = j by omega, hj] at this
      cases this; rfl
local macro_rules | `(tactic| trivial) => `(tactic| (repeat (first | with_reducible refine WS.seq ?_ | with_reducible refine WS.nx ?_ | with_reducible refine WS.rt ?_ | with_reducible refine WS.asg ?_ | with_reducible refine WS.drop ?_ | with_reducible refine WS.ret ?_ | with_reducible refine WS.nop ?_ | with_reducible refine WS.retN ?_ | with_reducible refine WS.brk ?_ | with_reducible refine WS.cont ?_ | with_reducible refine WS.sif ?_ | with_reducible refine WS.par ?_ | with_reducible refine WG.setA ?_ | with_reducible refine WE.c ?_ | with_reducible refine WE.op ?_ | with_reducible refine WE.call ?_ | with_reducible refine WE.callM ?_ | with_reducible refine WE.un ?_ | with_reducible refine WE.tup ?_ | with_reducible refine WE.lst ?_ | with_reducible refine WE.newL ?_ | with_reducible refine WE.eif ?_ | with_reducible refine WE.sl ?_ | with_reducible refine WE.isN ?_ | with_reducible refine WE.notN ?_ | with_reducible refine WE.not ?_ | with_reducible refine WE.and ?_ | with_reducible refine WE.or ?_ | with_reducible refine WE.app ?_ | with_reducible refine WE.tupR ?_ | with_reducible refine WE.lisR ?_ | with_reducible refine WE.m1 ?_ | with_reducible refine WE.tbl ?_ | with_reducible refine WE.tblNin ?_ | with_reducible refine WE.chain ?_ | with_reducible refine WE.fldF ?_ | with_reducible refine WE.mth ?_ | with_reducible refine WE.disp ?_ | with_reducible refine WE.dicC ?_ | with_reducible refine WP.nil ?_ | with_reducible refine WP.cons ?_ | with_reducible refine WE.upd ?_ | with_reducible refine WA.nil ?_ | with_reducible refine WA.cons ?_ | with_reducible refine WA.star ?_ | with_reducible refine WO.no ?_ | with_reducible refine WO.yes ?_ | with_reducible refine WT.val ?_ | with_reducible refine WT.and ?_ | with_reducible refine WT.or ?_ | with_reducible refine WT.not ?_ | with_reducible refine WT.tt ?_ | with_reducible refine WI.it ?_ | with_reducible refine Kn.add_i ?_ | with_reducible refine Kn.sub ?_ | with_reducible refine Kn.neg ?_ | with_reducible refine Kn.eq_i ?_ | with_reducible refine Kn.ne_i ?_ | with_reducible refine Kn.lt ?_ | with_reducible refine Kn.le ?_ | with_reducible refine Kn.gt ?_ | with_reducible refine Kn.ge ?_ | with_reducible refine Kn.int_i ?_ | with_reducible refine Kn.int_b ?_ | with_reducible refine Kn.abs ?_ | with_reducible refine Kn.min2 ?_ | with_reducible refine Kn.max2 ?_ | with_reducible refine Kn.len_t ?_ | with_reducible refine Kn.len_l ?_ | with_reducible refine Kn.len_s ?_ | with_reducible refine Kn.tup_t ?_ | with_reducible refine Kn.tup_l ?_ | with_reducible refine Kn.lis_t ?_ | with_reducible refine Kn.lis_l ?_ | with_reducible refine Kn.seq_t ?_ | with_reducible refine Kn.seq_l ?_ | with_reducible refine Kn.it_t ?_ | with_reducible refine Kn.it_l ?_ | with_reducible refine Kn.it_s ?_ | with_reducible refine Kn.str_s ?_ | with_reducible refine Kn.sl_t ?_ | with_reducible refine Kn.sl_l ?_ | with_reducible refine Kn.sl_rt ?_ | with_reducible refine Kn.ix_rt1 ?_ | with_reducible refine Kn.ix_rt2 ?_ | with_reducible refine Kn.kx_need ?_ | with_reducible refine Kn.kx_of ?_ | with_reducible refine Kn.kx_base ?_ | with_reducible refine Kn.kx_more ?_ | with_reducible refine Kn.kx_most ?_ | with_reducible refine Kn.kx_calm ?_ | with_reducible refine Kn.kx_back ?_ | with_reducible refine Kn.kx_under ?_ | with_reducible refine Kn.kx_top ?_ | with_reducible refine Kn.kx_up ?_ | with_reducible refine Kn.kx_hears ?_ | with_reducible refine Fld.need ?_ | with_reducible refine Fld.of ?_ | with_reducible refine Fld.base ?_ | with_reducible refine Fld.more ?_ | with_reducible refine Fld.most ?_ | with_reducible refine Fld.calm ?_ | with_reducible refine Fld.back ?_ | with_reducible refine Fld.top ?_ | with_reducible refine Fld.under ?_ | with_reducible refine Fld.up ?_ | with_reducible refine Fld.hears ?_ | with_reducible refine Fld.cap ?_ | with_reducible refine Mth.time ?_ | ((with_reducible refine WG.nm ?_); dsimp only [setMany, List.set_cons_succ, List.set_cons_zero]) | ((with_reducible refine WG.one ?_); dsimp only [setMany, List.set_cons_succ, List.set_cons_zero]) | ((with_reducible refine WG.tup ?_ ?_); exact rfl; dsimp only [setMany, List.set_cons_succ, List.set_cons_zero]) | ((with_reducible apply WE.var); exact rfl) | ((with_reducible apply WS.aug); exact rfl) | ((with_reducible apply WE.newPL); exact rfl) | ((with_reducible refine WS.ite_t ?_ ?_); exact rfl) | ((with_reducible refine WS.ite_f ?_ ?_); exact rfl) | ((with_reducible refine WE.ite_t ?_ ?_); exact rfl) | ((with_reducible refine WE.ite_f ?_ ?_); exact rfl) | ((with_reducible refine w_and_t ?_ ?_); exact rfl) | ((with_reducible refine w_and_f ?_ ?_); exact rfl) | ((with_reducible refine w_or_t ?_ ?_); exact rfl) | ((with_reducible refine w_or_f ?_ ?_); exact rfl) | ((with_reducible refine Kn.fdiv ?_ ?_); exact ⟨by decide, by decide⟩) | ((with_reducible refine Kn.mod ?_ ?_); decide) | ((with_reducible refine And.intro (a := (_ && _) = true) ?_ ?_); exact rfl) | ((with_reducible refine And.intro (a := List.length _ = List.length _) ?_ ?_); exact rfl; dsimp only [setMany, List.set_cons_succ, List.set_cons_zero]) | ((with_reducible refine ⟨wsz ?_, ?_⟩); first | decide | (show (_ : Nat) ≤ 1000; simp only [List.length_cons, List.length_nil]; decide)) | with_reducible refine ⟨_, rfl, ?_⟩)))
theorem lgo_b (hok : r.Ok) (h9 : r.B9) (hsh : Sh r) (hd : m[d]? = some (.dic rK r.kv)) (hdb : d < b) (W : LB m b w) (K : w.Ok r nc ns) (z : w.Cn r) (hns : ns < 1000) (he : e.In nc ns) {Q : D → M → Prop}
    (q : ∀ m', m'.length = m.length + 1 → (∀ j, j < b ∨ (b + 3 * nc + 2 ≤ j ∧ j < m.length) → m'[j]? = m[j]?) → m'[m.length]? = some (.lst (goD (r.goals (r.lim (ns : Nat)) w e))) → LB m' b (r.nxt (r.lim (ns : Nat)) w e) → (noIns m = true → noIns m' = true) → Q (.tup [.ref m.length, .str (toldS (r.hap (r.lim (ns : Nat)) w e).2.1)]) m') : Wr (F__law_go [.ref d, .ref (b + 3 * nc + 1), e.d] m) Q := by
  have hec := he.c
  have hes := he.s
  have hcs := K.cs
  have hat := K.get hec
  have KC := K.at_ hec
  have hst := W.st e.c _ hat
  have hev := W.ev e.c _ hat
  have hla := W.la e.c _ hat
  have hwd := W.wd
  have hlo := W.lo
  have hlt := W.lt
  have KN := nxt_ok (most := r.lim (ns : Nat)) hok K he
  have KNC := KN.at_ hec
  have hcl : e.c < w.cs.length := by omega
  have eat : (r.nxt (r.lim (ns : Nat)) w e).at_ e.c = (w.at_ e.c).put e.s (r.hap (r.lim (ns : Nat)) w e).1 (r.hap (r.lim (ns : Nat)) w e).2.1 := at_set hcl
  have hln := KC.st
  have hll := KC.la
  have hmem := getD_in (l := (w.at_ e.c).st) (s := e.s) (by omega)
  have hLb : ((w.at_ e.c).st.getD e.s begun).Lb r := cn_lb hok (KC.sn _ hmem) (z _ (List.mem_of_getElem? hat) _ hmem)
  have hlim := lim_nat hsh ns
  have hlm := limit_ok hsh hns
  have hkin : (r.hap (r.lim (ns : Nat)) w e).2.2 = true → (((w.at_ e.c).put e.s (r.hap (r.lim (ns : Nat)) w e).1 (r.hap (r.lim (ns : Nat)) w e).2.1).st.getD e.s begun).isIn = true := fun h => by
    rw [put_st, getD_set (by omega)]
    exact kept_in h
  rw [hlim] at hlm
  have egoals : r.goals (r.lim (ns : Nat)) w e = ((r.nxt (r.lim (ns : Nat)) w e).at_ e.c).goals e.s (r.hap (r.lim (ns : Nat)) w e).2.2 := by rw [eat]; rfl
  have rest : ∀ (m1 : M) (x5 x6 x10 : Option D), m1.length = m.length → (∀ j, j ≠ b + 2 * nc + e.c → m1[j]? = m[j]?) → m1[b + 2 * nc + e.c]? = some (.lst ((laR ((w.at_ e.c).put e.s (r.hap (r.lim (ns : Nat)) w e).1 (r.hap (r.lim (ns : Nat)) w e).2.1)).map D.bl)) →
      WS f__law_go_7 [some (.ref d), some (.ref (b + 3 * nc + 1)), some e.d, some (.int (e.c : Nat)), some (.int (e.s : Nat)), x5, x6, some (.str (toldS (r.hap (r.lim (ns : Nat)) w e).2.1)), some (r.hap (r.lim (ns : Nat)) w e).1.d, some (.bl (r.hap (r.lim (ns : Nat)) w e).2.2), x10, none, none] m1 fun rr m1 => (∃ y, rr = .rt y ∧ Q y m1) ∨ ∃ ρ, rr = .nx ρ ∧ Q .non m1 := by
    intro m1 x5 x6 x10 l1 o1 a1
    rw [hcs] at hwd hev hla hlo hlt
    have fin : ∀ m3 : M, m3.length = m.length → (∀ j, j ≠ b + e.c → j ≠ b + nc + e.c → m3[j]? = m1[j]?) → m3[b + e.c]? = some (.lst (((w.at_ e.c).st.set e.s (r.hap (r.lim (ns : Nat)) w e).1).map Sd.d)) → m3[b + nc + e.c]? = some (.lst ((evR (if (r.hap (r.lim (ns : Nat)) w e).1.isOut then addLo w.lo (e.c, e.s) else w.lo) e.c ns).map D.bl)) →
        WS f__law_go_5 [some (.ref d), some (.ref (b + 3 * nc + 1)), some e.d, some (.int (e.c : Nat)), some (.int (e.s : Nat)), x5, x6, some (.str (toldS (r.hap (r.lim (ns : Nat)) w e).2.1)), some (r.hap (r.lim (ns : Nat)) w e).1.d, some (.bl (r.hap (r.lim (ns : Nat)) w e).2.2), x10, none, none] m3 fun rr m1 => (∃ y, rr = .rt y ∧ Q y m1) ∨ ∃ ρ, rr = .nx ρ ∧ Q .non m1 := by
      intro m3 l3 o3 b1 b2
      have W3 : LB m3 b (r.nxt (r.lim (ns : Nat)) w e) := by
        refine W.upd hcl ?_ ?_ ?_ ?_ ?_
        · rw [put_st]; exact b1
        · rw [put_len, hln, hcs]; exact b2
        · rw [hcs, o3 _ (by omega) (by omega)]; exact a1
        · intro j s hj
          split
          · refine ⟨fun h => (addLo_mem h).elim id fun h => absurd (Prod.mk.inj h).1 hj, fun h => ?_⟩
            unfold addLo
            split
            · exact h
            · exact List.mem_append_left _ h
          · exact Iff.rfl
        · intro j h1 h2 h3 h4 h5
          rw [hcs] at h4 h5
          rw [o3 j h3 h4, o1 j h5]
      have hcs3 : (r.nxt (r.lim (ns : Nat)) w e).cs.length = nc := KN.cs
      refine lgo_tail_b (told := toldS (r.hap (r.lim (ns : Nat)) w e).2.1) (kept := (r.hap (r.lim (ns : Nat)) w e).2.2) ?_ W3 KN hns hec hes ?_ x5 x6 _ x10 (Q := Q) fun m' l' o' a' => ?_
      · rw [o3 d (by omega) (by omega), o1 d (by omega)]; exact hd
      · rw [eat]; exact hkin
      · rw [← egoals, l3] at a'
        rw [l3]
        have W4 : LB m' b (r.nxt (r.lim (ns : Nat)) w e) := W3.off fun j h1 h2 => o' j (by rw [hcs3] at h2; omega)
        refine q m' (by omega) (fun j hj => ?_) a' W4 fun hni => ?_
        · rw [o' j (by omega), o3 j (by omega) (by omega), o1 j (by omega)]
        · have h3 : noIns m3 = true := LB.noI (m := m) (w := r.nxt (r.lim (ns : Nat)) w e) (fun j hj => by rw [hcs3] at hj; rw [o3 j (by omega) (by omega), o1 j (by omega)]) W3 l3 hni
          rw [noIns_eq, List.all_eq_true] at h3 ⊢
          intro o ho
          obtain ⟨j, hj⟩ := List.mem_iff_getElem?.mp ho
          have hjl := (List.getElem?_eq_some_iff.mp hj).1
          by_cases hjm : j < m3.length
          · rw [o' j hjm] at hj
            exact h3 o (List.mem_of_getElem? hj)
          · have : j = m.length := by omega
            subst this
            rw [a'] at hj
            cases hj
            rfl
    have hwd1 := (o1 (b + 3 * nc + 1) (by omega)).trans hwd
    have hst1 := (o1 (b + e.c) (by omega)).trans hst
    have hev1 := (o1 (b + nc + e.c) (by omega)).trans hev
    unfold f__law_go_7
    trivial
    refine Kn.mk (wb_now hwd1) ?_
    trivial
    refine Kn.ix_l (rfs_at hec) ?_
    trivial
    refine Kn.mk (set_r hst1 (by rw [List.length_map]; omega)) ?_
    rw [map_set Sd.d]
    trivial
    unfold f__law_go_6
    trivial
    refine Kn.mk (ix_tag _) ?_
    trivial
    refine Kn.mk (eq_tag _) ?_
    trivial
    have s1 : ∀ (o : O) j, j ≠ b + e.c → (m1.set (b + e.c) o)[j]? = m1[j]? := fun o j hj => List.getElem?_set_ne (fun z => hj z.symm)
    have s2 : ∀ (o : O), (m1.set (b + e.c) o)[b + e.c]? = some o := fun o => List.getElem?_set_self (by omega)
    cases hx : (r.hap (r.lim (ns : Nat)) w e).1.isOut with
    | false =>
      rw [hx] at fin
      trivial
      refine fin _ (by rw [List.length_set]; exact l1) (fun j h1 h2 => s1 _ j h1) (s2 _) ?_
      rw [s1 _ _ (by omega), hev1, hln]
      rfl
    | true =>
      rw [hx] at fin
      trivial
      refine Kn.mk (wb_ever ((s1 _ _ (by omega)).trans hwd1)) ?_
      trivial
      refine Kn.ix_l (rfs_at hec) ?_
      trivial
      have hev2 := (s1 (.lst (((w.at_ e.c).st.set e.s (r.hap (r.lim (ns : Nat)) w e).1).map Sd.d)) (b + nc + e.c) (by omega)).trans hev1
      refine Kn.mk (set_r hev2 (by rw [List.length_map, hln]; simp [evR]; omega)) ?_
      rw [mb_bl, hln, evR_set hes]
      trivial
      refine fin _ (by rw [List.length_set, List.length_set]; exact l1) (fun j h1 h2 => ?_) ?_ ?_
      · rw [List.getElem?_set_ne (fun z => h2 z.symm), s1 _ j h1]
      · rw [List.getElem?_set_ne (by omega), s2 _]
      · rw [List.getElem?_set_self (by rw [List.length_set]; omega)]
        rfl
  refine WS.runM (n := 13) (b := f__law_go) ?_ rfl
  show WS _ [some (.ref d), some (.ref (b + 3 * nc + 1)), some e.d, none, none, none, none, none, none, none, none, none, none] m _
  have mid : WS f__law_go_10 [some (.ref d), some (.ref (b + 3 * nc + 1)), some e.d, some (.int (e.c : Nat)), some (.int (e.s : Nat)), none, none, none, none, none, none, none, none] m fun rr m1 => (∃ y, rr = .rt y ∧ Q y m1) ∨ ∃ ρ, rr = .nx ρ ∧ Q .non m1 := by
    rw [hcs] at hwd hlo
    unfold f__law_go_10
    trivial
    refine Kn.mk (wb_now hwd) ?_
    trivial
    refine Kn.ix_l (rfs_at hec) ?_
    trivial
    refine Kn.mk (ix_r (x := ((w.at_ e.c).st.getD e.s begun).d) hst (ca_ix (ml_at (by omega)))) ?_
    trivial
    unfold f__law_go_9
    trivial
    refine louts_b W hcs hat (by omega) ?_
    trivial
    refine Kn.mk (wb_now hwd) ?_
    trivial
    refine Kn.ix_l (rfs_at hec) ?_
    trivial
    refine Kn.len_r hst ?_
    rw [List.length_map, hln]
    trivial
    refine Kn.callR rfl (frz_rs hd rfl) hlm rfl ?_
    trivial
    unfold f__law_go_8
    cases e with
    | turn cr s f =>
      dsimp only [Ev.c, Ev.s] at *
      trivial
      refine Kn.mk ed_0t ?_
      trivial
      refine Kn.mk eqb_tt ?_
      trivial
      refine Kn.mk ed_3t ?_
      trivial
      have hT := lturn_b hok h9 hLb f (decide (((w.at_ cr).outs : Int) < r.lim (ns : Nat)))
      have eh : r.hap (r.lim (ns : Nat)) w (.turn cr s f) = ((r.afterTurn ((w.at_ cr).st.getD s begun) f (decide (((w.at_ cr).outs : Int) < r.lim (ns : Nat)))).1, some (r.afterTurn ((w.at_ cr).st.getD s begun) f (decide (((w.at_ cr).outs : Int) < r.lim (ns : Nat)))).2.1, (r.afterTurn ((w.at_ cr).st.getD s begun) f (decide (((w.at_ cr).outs : Int) < r.lim (ns : Nat)))).2.2) := rfl
      rw [eh] at rest
      refine Kn.callR rfl (frz_rs hd (pl_sbb _ _ _)) hT (gr_tw _) ?_
      generalize r.afterTurn ((w.at_ cr).st.getD s begun) f (decide (((w.at_ cr).outs : Int) < r.lim (ns : Nat))) = X at *
      obtain ⟨x, v, kept⟩ := X
      dsimp only [tw] at *
      trivial
      refine Kn.mk (eq_missed v) ?_
      trivial
      refine Kn.mk (wb_last hwd) ?_
      trivial
      refine Kn.mk (ix_r hlo (rfs_at hec)) ?_
      rw [hcs] at hla
      trivial
      refine Kn.mk (set_r hla (by rw [List.length_map]; simp [laR]; omega)) ?_
      rw [mb_bl, la_set]
      trivial
      refine rest _ _ _ _ (List.length_set ..) (fun j hj => List.getElem?_set_ne (fun z => hj z.symm)) ?_
      rw [List.getElem?_set_self (by have := (List.getElem?_eq_some_iff.mp hla).1; omega)]
      rfl
    | told cr dd s =>
      dsimp only [Ev.c, Ev.s] at *
      trivial
      refine Kn.mk ed_0w ?_
      trivial
      refine Kn.mk eqb_wt ?_
      trivial
      have hT := lword_b hok h9 hLb (decide (((w.at_ cr).outs : Int) < r.lim (ns : Nat)))
      have eh : r.hap (r.lim (ns : Nat)) w (.told cr dd s) = ((r.afterWord ((w.at_ cr).st.getD s begun) (decide (((w.at_ cr).outs : Int) < r.lim (ns : Nat)))).1, none, (r.afterWord ((w.at_ cr).st.getD s begun) (decide (((w.at_ cr).outs : Int) < r.lim (ns : Nat)))).2) := rfl
      rw [eh] at rest
      refine Kn.callR rfl (frz_rs hd (pl_sb _ _)) hT (gr_pr _ _) ?_
      generalize r.afterWord ((w.at_ cr).st.getD s begun) (decide (((w.at_ cr).outs : Int) < r.lim (ns : Nat))) = X at *
      obtain ⟨x, kept⟩ := X
      dsimp only at *
      trivial
      refine rest _ _ _ _ rfl (fun j hj => rfl) ?_
      rw [hcs] at hla
      exact hla
  trivial
  refine Kn.mk (ed_1 e) ?_
  trivial
  cases e with
  | turn cr s f =>
    refine Kn.mk ed_0t ?_
    trivial
    refine Kn.mk eqb_tt ?_
    trivial
    refine Kn.mk ed_2t ?_
    trivial
    exact mid
  | told cr dd s =>
    refine Kn.mk ed_0w ?_
    trivial
    refine Kn.mk eqb_wt ?_
    trivial
    refine Kn.mk ed_3w ?_
    trivial
    exact mid
theorem lcan_b (W : LB m b w) (K : w.Ok r nc ns) (he : e.In nc ns) {Q : D → M → Prop} (q : Q (.bl (decide (w.can e))) m) : Wr (F__law_can [.ref (b + 3 * nc + 1), e.d] m) Q := by
  have hcs := K.cs
  have hwd := W.wd
  rw [hcs] at hwd
  refine WS.runM (n := 2) (b := f__law_can) ?_ rfl
  show WS _ [some (.ref (b + 3 * nc + 1)), some e.d] m _
  unfold f__law_can
  cases e with
  | turn cr s f =>
    trivial
    refine Kn.mk ed_0t ?_
    trivial
    refine Kn.mk eqb_tt ?_
    refine ⟨_, rfl, (fun h => nomatch h), fun _ => ?_⟩
    refine .inl ⟨_, rfl, ?_⟩
    rw [decide_eq_true (show w.can (.turn cr s f) from trivial)] at q
    exact q
  | told cr dd s =>
    have hdd : dd < nc := he.2.1
    have hs : s < ns := he.2.2.1
    have hev := W.ev dd _ (K.get hdd)
    rw [hcs, (K.at_ hdd).st] at hev
    trivial
    refine Kn.mk ed_0w ?_
    trivial
    refine Kn.mk eqb_wt ?_
    refine ⟨_, rfl, fun _ => ?_, fun h => nomatch h⟩
    trivial
    refine Kn.mk (wb_ever hwd) ?_
    trivial
    refine Kn.mk ed_2w ?_
    trivial
    refine Kn.ix_l (rfs_at hdd) ?_
    trivial
    refine Kn.mk ed_3w ?_
    trivial
    refine Kn.mk (ix_r hev (ca_ix (ev_at hs))) ?_
    exact .inl ⟨_, rfl, q⟩
theorem LB.bx {m' : M} (W : LB m b w) (h : BX n m m') (hn : n < b) : LB m' b w := W.off fun j h1 h2 => h.fr j (by have := W.lt; omega) (by omega)
theorem ldrawn_b (h : BX n m m) (hnb : n < b) (W : LB m b w) (K : w.Ok r nc ns) (hc : 1 ≤ nc ∧ nc ≤ 100) (hs : 1 ≤ ns ∧ ns ≤ 100) {Q : D → M → Prop} (q : ∀ (e : Ev) m', e.In nc ns → w.can e → BX n m m' → Q e.d m') : Wr (F__law_drawn_event [.ref n, .ref (b + 3 * nc + 1)] m) Q := by
  have hcs := K.cs
  have hwd := W.wd
  have hst := W.st 0 _ (K.get (i := 0) (by omega))
  rw [hcs] at hwd
  refine WS.runM (n := 7) (b := f__law_drawn_event) ?_ rfl
  show WS _ [some (.ref n), some (.ref (b + 3 * nc + 1)), none, none, none, none, none] m _
  trivial
  refine Kn.mk (wb_now hwd) ?_
  trivial
  rw [rfs_len]
  refine Kn.mk (wb_now hwd) ?_
  trivial
  refine Kn.ix_l (i := 0) (rfs_at (by omega)) ?_
  trivial
  refine Kn.len_r hst ?_
  rw [List.length_map, (K.at_ (by omega)).st]
  trivial
  refine take_b h (by omega) (by omega) fun cr m1 c0 c1 a1 => ?_
  trivial
  refine take_b a1 (by omega) (by omega) fun sv m2 s0 s1 a2 => ?_
  trivial
  refine take_b a2 (by decide) (by decide) fun k m3 k0 k1 a3 => ?_
  obtain ⟨cr, rfl⟩ := Int.eq_ofNat_of_zero_le c0
  obtain ⟨sv, rfl⟩ := Int.eq_ofNat_of_zero_le s0
  have ce : cr < nc := by omega
  have se : sv < ns := by omega
  trivial
  unfold f__law_drawn_event_3
  have stay : Q (Ev.turn cr sv (decide (0 < k))).d m3 := q _ _ ⟨ce, se⟩ trivial a3
  trivial
  cases hn1 : decide ((1 : Int) < ((nc : Nat) : Int)) with
  | false =>
    trivial
    exact .inl ⟨_, rfl, stay⟩
  | true =>
    have hn2 : (1 : Int) < ((nc : Nat) : Int) := of_decide_eq_true hn1
    trivial
    refine take_b a3 (by decide) (by decide) fun t m4 t0 t1 a4 => ?_
    have stay4 : Q (Ev.turn cr sv (decide (0 < k))).d m4 := q _ _ ⟨ce, se⟩ trivial a4
    trivial
    cases ht : (t == 0) with
    | false =>
      trivial
      exact .inl ⟨_, rfl, stay4⟩
    | true =>
      trivial
      refine Kn.mk (ed_1 (.turn cr sv (decide (0 < k)))) ?_
      trivial
      refine take_b a4 (by omega) (by omega) fun u m5 u0 u1 a5 => ?_
      have stay5 : Q (Ev.turn cr sv (decide (0 < k))).d m5 := q _ _ ⟨ce, se⟩ trivial a5
      trivial
      show Kn (modD m5 (.int (((cr : Nat) : Int) + 1 + u)) (.int (nc : Nat))) _
      obtain ⟨un, rfl⟩ := Int.eq_ofNat_of_zero_le u0
      obtain ⟨o, ho, ho1, ho2⟩ : ∃ o : Nat, (((cr : Nat) : Int) + 1 + ((un : Nat) : Int)) % ((nc : Nat) : Int) = ((o : Nat) : Int) ∧ o < nc ∧ o ≠ cr := by
        refine ⟨(cr + 1 + un) % nc, by rw [Int.natCast_emod, Int.natCast_add, Int.natCast_add]; rfl, Nat.mod_lt _ (by omega), ?_⟩
        by_cases hlt : cr + 1 + un < nc
        · rw [Nat.mod_eq_of_lt hlt]
          omega
        · rw [Nat.mod_eq_sub_mod (by omega), Nat.mod_eq_of_lt (by omega)]
          omega
      refine Kn.mod (by omega) ?_
      rw [ho]
      trivial
      unfold f__law_drawn_event_2
      trivial
      refine Kn.mk (ed_1 (.turn cr sv (decide (0 < k)))) ?_
      trivial
      refine Kn.mk ed_2t ?_
      trivial
      unfold f__law_drawn_event_1
      have ein : (Ev.told cr o sv).In nc ns := ⟨ce, ho1, se, fun z => ho2 z.symm⟩
      refine WS.asg (WE.eif (WT.val (WE.callM ?_)))
      trivial
      refine lcan_b (e := .told cr o sv) (W.bx a5 hnb) K ein ?_
      refine ⟨_, rfl, ?_⟩
      cases hcan : decide (w.can (.told cr o sv)) with
      | false =>
        trivial
        exact .inl ⟨_, rfl, stay5⟩
      | true =>
        trivial
        exact .inl ⟨_, rfl, q _ _ ein (of_decide_eq_true hcan) a5⟩
end
end L4
namespace L4
open PySem
section
variable {r : Ru} {most : Int} {w : Wo} {nc ns : Nat} {e : Ev}
def Sd.Lq (r : Ru) : Sd → Prop
  | .out l _ => l ≤ r.time r.cap
  | _ => True
structure I35 (r : Ru) (most : Int) (w : Wo) : Prop where
  outs : ∀ c ∈ w.cs, (c.outs : Int) ≤ most
  lq : ∀ c ∈ w.cs, ∀ x ∈ c.st, x.Lq r
  ms : ∀ c ∈ w.cs, ∀ i, i < c.st.length → (c.st.getD i begun).isIn = false → c.la.getD i Str.empty = ("missed" : Str) → r.lasts = true
theorem time_le {j k : Int} (hm : 0 ≤ r.more) (h : j ≤ k) : r.time j ≤ r.time k := by
  have h1 : r.more * (j - 1) ≤ r.more * (k - 1) := Int.mul_le_mul_of_nonneg_left (by omega) hm
  unfold Ru.time
  omega
theorem left_lq (hm : 0 ≤ r.more) {t : Int} : (r.leftOut t).Lq r := by
  unfold Ru.leftOut
  exact time_le hm (by omega)
theorem try_lq (hm : 0 ≤ r.more) {x : Sd} (hx : x.Lq r) {t : Int} {room : Bool} : (r.atTry x t room).1.Lq r := by
  unfold Ru.atTry
  cases room
  · exact hx
  · exact left_lq hm
theorem fault_lq (hm : 0 ≤ r.more) {v : List Bool} {t : Int} {room : Bool} : (r.afterFault v t room).1.Lq r := by
  unfold Ru.afterFault
  split
  · trivial
  · refine try_lq hm ?_
    trivial
theorem turn_lq (hm : 0 ≤ r.more) {x : Sd} (hx : x.Lq r) (f room : Bool) : (r.afterTurn x f room).1.Lq r := by
  cases x with
  | inn v t c =>
    unfold Ru.afterTurn
    cases f
    · show (r.afterOk v t c).Lq r
      unfold Ru.afterOk
      split
      · trivial
      · split <;> trivial
    · exact fault_lq hm
  | out l t =>
    unfold Ru.afterTurn
    dsimp only
    split
    · unfold Ru.comeBack
      split <;> trivial
    · show l - 1 ≤ _
      have : l ≤ r.time r.cap := hx
      omega
  | trial t =>
    unfold Ru.afterTurn
    cases f
    · trivial
    · exact left_lq hm
theorem word_lq (hm : 0 ≤ r.more) {x : Sd} (hx : x.Lq r) (room : Bool) : (r.afterWord x room).1.Lq r := by
  cases x with
  | inn v t c =>
    show (if (r.hears matches .no) = true then ((.inn v t c : Sd), false) else if (r.hears matches .out) = true then r.atTry (.inn v t c) t room else r.afterFault v t room).1.Lq r
    cases r.hears with
    | no => exact hx
    | out => exact try_lq hm (x := .inn v t c) hx
    | fault => exact fault_lq hm
  | out l t => exact hx
  | trial t => exact hx
/-- who is out behind an event was out ahead, or there was room -/
theorem fault_room {v : List Bool} {t : Int} : (r.afterFault v t false).1.isIn = true := by
  unfold Ru.afterFault
  split <;> rfl
theorem turn_room {x : Sd} {f room : Bool} (h : (r.afterTurn x f room).1.isIn = false) : x.isIn = false ∨ room = true := by
  cases room with
  | true => exact .inr rfl
  | false =>
    left
    cases x with
    | inn v t c =>
      unfold Ru.afterTurn at h
      cases f
      · have : (r.afterOk v t c).isIn = true := by
          unfold Ru.afterOk
          split
          · rfl
          · split <;> rfl
        rw [show (r.afterOk v t c).isIn = false from h] at this
        cases this
      · change (r.afterFault v t false).1.isIn = false at h
        rw [fault_room] at h
        cases h
    | out l t => rfl
    | trial t => rfl
theorem word_room {x : Sd} {room : Bool} (h : (r.afterWord x room).1.isIn = false) : x.isIn = false ∨ (room = true ∧ r.hears.isNo = false) := by
  cases x with
  | inn v t c =>
    change (if (r.hears matches .no) = true then ((.inn v t c : Sd), false) else if (r.hears matches .out) = true then r.atTry (.inn v t c) t room else r.afterFault v t room).1.isIn = false at h
    right
    cases hh : r.hears with
    | no => rw [hh] at h; cases h
    | out =>
      rw [hh] at h
      cases room
      · cases h
      · exact ⟨rfl, rfl⟩
    | fault =>
      rw [hh] at h
      cases room
      · have := fault_room (r := r) (v := v) (t := t)
        change (r.afterFault v t false).1.isIn = false at h
        rw [h] at this
        cases this
      · exact ⟨rfl, rfl⟩
  | out l t => exact .inl rfl
  | trial t => exact .inl rfl
theorem filt_set {l : List Sd} : ∀ {s : Nat} {x : Sd}, s < l.length → (((l.set s x).filter fun y => !y.isIn).length : Int) ≤ ((l.filter fun y => !y.isIn).length : Int) + (if (l.getD s begun).isIn = true ∧ x.isIn = false then 1 else 0) := by
  induction l with
  | nil => intro s x h; cases h
  | cons a l ih =>
    intro s x h
    cases s with
    | zero =>
      show (((x :: l).filter _).length : Int) ≤ _
      rw [List.filter_cons, List.filter_cons]
      show _ ≤ _ + (if a.isIn = true ∧ x.isIn = false then 1 else 0)
      cases hx : x.isIn <;> cases ha : a.isIn <;> simp <;> omega
    | succ s =>
      have := @ih s x (by simpa using h)
      show (((a :: l.set s x).filter _).length : Int) ≤ _
      rw [List.filter_cons, List.filter_cons]
      show _ ≤ _ + (if (l.getD s begun).isIn = true ∧ x.isIn = false then 1 else 0)
      generalize (if (l.getD s begun).isIn = true ∧ x.isIn = false then (1 : Int) else 0) = k at *
      cases ha : a.isIn <;> simp <;> omega
theorem lasts_no (h : r.hears.isNo = false) : r.lasts = true := by
  unfold Ru.lasts
  rw [h]
  simp
theorem missed_lasts {x : Sd} {f room : Bool} (hin : x.In r) (hy : x.Lq r) (h1 : (r.afterTurn x f room).1.isIn = false) (h2 : (r.afterTurn x f room).2.1 = .missed) : r.lasts = true := by
  cases x with
  | inn v t c =>
    unfold Ru.afterTurn at h2
    cases f <;> cases h2
  | trial t =>
    unfold Ru.afterTurn at h2
    cases f <;> cases h2
  | out l t =>
    have hl : l ≤ r.time r.cap := hy
    have hy1 : 1 ≤ l := hin.1
    unfold Ru.afterTurn at h1
    dsimp only at h1
    unfold Ru.lasts
    by_cases h3 : (l == 1) = true
    · rw [if_pos h3] at h1
      unfold Ru.comeBack at h1
      cases hb : r.back with
      | trial => rfl
      | half => rw [hb] at h1; cases h1
      | opn => rw [hb] at h1; cases h1
    · have h4 : l ≠ 1 := by simpa using h3
      rw [decide_eq_true (show 1 < r.time r.cap by omega)]
      simp
theorem I35.nxt (hm : 0 ≤ r.more) (K : w.Ok r nc ns) (I : I35 r most w) (he : e.In nc ns) (h0 : 0 ≤ most) : I35 r most (r.nxt most w e) := by
  have hes := he.s
  have KC := K.at_ he.c
  have hst := KC.st
  have hla := KC.la
  have hmem := List.mem_of_getElem? (K.get he.c)
  have o1 := I.outs _ hmem
  have q1 := I.lq _ hmem
  have s1 := I.ms _ hmem
  have hy := q1 _ (getD_in (l := (w.at_ e.c).st) (s := e.s) (by omega))
  have hin := KC.sn _ (getD_in (l := (w.at_ e.c).st) (s := e.s) (by omega))
  have key : ∀ (x : Sd) (v : Option Wh), x.Lq r → ((((w.at_ e.c).st.getD e.s begun).isIn = true ∧ x.isIn = false) → ((w.at_ e.c).outs : Int) < most) → (x.isIn = false → (v = some .missed → r.lasts = true) ∧ (v = none → ((w.at_ e.c).st.getD e.s begun).isIn = false ∨ r.lasts = true)) →
      ((((w.at_ e.c).put e.s x v).outs : Nat) : Int) ≤ most ∧ (∀ y ∈ ((w.at_ e.c).put e.s x v).st, y.Lq r) ∧ ∀ i, i < ((w.at_ e.c).put e.s x v).st.length → (((w.at_ e.c).put e.s x v).st.getD i begun).isIn = false → ((w.at_ e.c).put e.s x v).la.getD i Str.empty = ("missed" : Str) → r.lasts = true := by
    intro x v hq hr hv
    generalize w.at_ e.c = c at *
    refine ⟨?_, fun y hy2 => ?_, fun i hi h1 h2 => ?_⟩
    · have := filt_set (l := c.st) (s := e.s) (x := x) (by omega)
      show ((((c.put e.s x v).st.filter fun s => !s.isIn).length : Nat) : Int) ≤ most
      rw [put_st]
      have o2 : (((c.st.filter fun s => !s.isIn).length : Nat) : Int) ≤ most := o1
      split at this
      · next h => have h3 : (((c.st.filter fun s => !s.isIn).length : Nat) : Int) < most := hr h; omega
      · omega
    · rw [put_st] at hy2
      exact (List.mem_or_eq_of_mem_set hy2).elim (q1 y) fun h => h ▸ hq
    · rw [put_st] at h1 hi
      rw [List.length_set] at hi
      by_cases his : i = e.s
      · subst his
        rw [getD_set (by omega)] at h1
        cases v with
        | none => exact ((hv h1).2 rfl).elim (fun z => s1 _ hi z h2) id
        | some v =>
          refine (hv h1).1 ?_
          have h3 : (c.la.set e.s v.s).getD e.s Str.empty = ("missed" : Str) := h2
          rw [List.getD_eq_getElem?_getD, List.getElem?_set_self (by omega)] at h3
          have h4 : v.s = ("missed" : Str) := h3
          revert h4
          cases v <;> first | (intro _; rfl) | exact fun h4 => absurd h4 (by decide +kernel)
      · rw [List.getD_eq_getElem?_getD, List.getElem?_set_ne (fun z => his z.symm), ← List.getD_eq_getElem?_getD] at h1
        cases v with
        | none => exact s1 _ hi h1 h2
        | some v =>
          have h3 : (c.la.set e.s v.s).getD i Str.empty = ("missed" : Str) := h2
          rw [List.getD_eq_getElem?_getD, List.getElem?_set_ne (fun z => his z.symm), ← List.getD_eq_getElem?_getD] at h3
          exact s1 _ hi h1 h3
  have all : ((((w.at_ e.c).put e.s (r.hap most w e).1 (r.hap most w e).2.1).outs : Nat) : Int) ≤ most ∧ (∀ y ∈ ((w.at_ e.c).put e.s (r.hap most w e).1 (r.hap most w e).2.1).st, y.Lq r) ∧ ∀ i, i < ((w.at_ e.c).put e.s (r.hap most w e).1 (r.hap most w e).2.1).st.length → (((w.at_ e.c).put e.s (r.hap most w e).1 (r.hap most w e).2.1).st.getD i begun).isIn = false → ((w.at_ e.c).put e.s (r.hap most w e).1 (r.hap most w e).2.1).la.getD i Str.empty = ("missed" : Str) → r.lasts = true := by
    cases e with
    | turn cr s f =>
      refine key _ _ (turn_lq hm hy _ _) ?_ ?_
      · rintro ⟨h1, h2⟩
        rcases turn_room h2 with h | h
        · change ((w.at_ cr).st.getD s begun).isIn = true at h1
          rw [h] at h1
          cases h1
        · exact of_decide_eq_true h
      · intro h1
        refine ⟨fun h2 => ?_, fun h2 => nomatch h2⟩
        change some (r.afterTurn ((w.at_ cr).st.getD s begun) f (decide (((w.at_ cr).outs : Int) < most))).2.1 = some .missed at h2
        change (r.afterTurn ((w.at_ cr).st.getD s begun) f (decide (((w.at_ cr).outs : Int) < most))).1.isIn = false at h1
        change ((w.at_ cr).st.getD s begun).Lq r at hy
        change ((w.at_ cr).st.getD s begun).In r at hin
        exact missed_lasts hin hy h1 (Option.some.inj h2)
    | told cr dd s =>
      refine key _ _ (word_lq hm hy _) ?_ ?_
      · rintro ⟨h1, h2⟩
        rcases word_room h2 with h | ⟨h, _⟩
        · change ((w.at_ cr).st.getD s begun).isIn = true at h1
          rw [h] at h1
          cases h1
        · exact of_decide_eq_true h
      · intro h1
        refine ⟨(fun h2 => nomatch h2), fun _ => ?_⟩
        rcases word_room h1 with h | ⟨_, h⟩
        · exact .inl h
        · exact .inr (lasts_no h)
  refine ⟨fun c hc => ?_, fun c hc => ?_, fun c hc => ?_⟩ <;> rcases List.mem_or_eq_of_mem_set (show c ∈ w.cs.set e.c _ from hc) with hc | rfl
  · exact I.outs c hc
  · exact all.1
  · exact I.lq c hc
  · exact all.2.1
  · exact I.ms c hc
  · exact all.2.2
theorem I35.wo0 (h0 : 0 ≤ most) : I35 r most (wo0 nc ns) := by
  refine ⟨fun c hc => ?_, fun c hc x hx => ?_, fun c hc i hi h1 => ?_⟩ <;> rw [List.eq_of_mem_replicate hc] at *
  · have : (ca0 ns).outs = 0 := by
      show ((List.replicate ns begun).filter fun s => !s.isIn).length = 0
      rw [List.filter_eq_nil_iff.mpr fun x hx => by rw [List.eq_of_mem_replicate hx]; decide]
      rfl
    omega
  · rw [List.eq_of_mem_replicate hx]
    trivial
  · have hi2 : i < ns := by rw [show (ca0 ns).st.length = ns from List.length_replicate ..] at hi; exact hi
    rw [show (ca0 ns).st.getD i begun = begun by
      show (List.replicate ns begun).getD i begun = begun
      rw [List.getD_eq_getElem?_getD, List.getElem?_replicate_of_lt hi2]; rfl] at h1
    cases h1
end
end L4
namespace L4
open PySem
section
variable {m m0 : M} {r : Ru} {w : Wo} {nc ns n b d : Nat} {e : Ev}
def Go.gl : Go → Gl
  | .all => .all
  | .kept => .kept
  | .swap => .swap
theorem go_gl (g : Go) : g.s = g.gl.s := by cases g <;> rfl
theorem outs_all {c : Ca} (h : c.st.all Sd.isOut = true) : c.outs = c.st.length := by
  show (c.st.filter fun s => !s.isIn).length = _
  rw [List.filter_eq_self.mpr fun x hx => ?_]
  have := List.all_eq_true.mp h x hx
  revert this
  cases x <;> simp [Sd.isOut, Sd.isIn]
theorem outs_in {c : Ca} {s : Nat} (hs : s < c.st.length) (h : (c.st.getD s begun).isIn = true) : c.outs < c.st.length := by
  have := filt_set (l := c.st) (s := s) (x := .trial 1) hs
  show (c.st.filter fun s => !s.isIn).length < _
  rcases Nat.lt_or_ge (c.st.filter fun s => !s.isIn).length c.st.length with h1 | h1
  · exact h1
  · have h2 := List.length_filter_eq_length_iff.mp (Nat.le_antisymm (List.length_filter_le ..) h1) _ (getD_in hs)
    rw [h] at h2
    cases h2
theorem outs_pos {c : Ca} {i : Nat} (hi : i < c.st.length) (h : (c.st.getD i begun).isIn = false) : 1 ≤ c.outs := by
  have : c.st.getD i begun ∈ c.st.filter fun s => !s.isIn := List.mem_filter.mpr ⟨getD_in hi, by rw [h]; rfl⟩
  exact List.length_pos_iff.mpr (List.ne_nil_of_mem this)
theorem spots_at (s : Nat) : ∀ (i : Nat) (l : List Sd), ∀ j ∈ spots s i l, ∃ k, j = i + k ∧ k < l.length ∧ (l.getD k begun).isIn = false
  | _, [], _, h => nomatch h
  | i, x :: l, j, h => by
    rw [spots] at h
    rcases List.mem_append.mp h with h | h
    · cases hb : (!x.isIn && !(i == s)) with
      | false => rw [hb] at h; cases h
      | true =>
        rw [hb] at h
        rw [Bool.and_eq_true] at hb
        exact ⟨0, List.mem_singleton.mp h, by simp, by show x.isIn = false; simpa using hb.1⟩
    · obtain ⟨k, h1, h2, h3⟩ := spots_at s (i + 1) l j h
      exact ⟨k + 1, by omega, by simpa using h2, h3⟩
theorem goal_du (hsh : Sh r) (hm : 0 ≤ r.more) (K : w.Ok r nc ns) (hok : r.Ok) (I : I35 r (r.lim (ns : Nat)) w) (he : e.In nc ns) (h0 : 0 ≤ r.lim (ns : Nat)) : ∀ g ∈ r.goals (r.lim (ns : Nat)) w e, duP g.gl r.lasts r.top.toNat r.under.toNat r.up ns = true := by
  intro g hg
  have I2 := I.nxt hm K he h0
  have KN := nxt_ok (most := r.lim (ns : Nat)) hok K he
  have KC := K.at_ he.c
  have KNC := KN.at_ he.c
  have hes := he.s
  have hlim := lim_nat hsh ns
  have hcl : e.c < w.cs.length := by rw [K.cs]; exact he.c
  have eat : (r.nxt (r.lim (ns : Nat)) w e).at_ e.c = (w.at_ e.c).put e.s (r.hap (r.lim (ns : Nat)) w e).1 (r.hap (r.lim (ns : Nat)) w e).2.1 := at_set hcl
  have hmem := List.mem_of_getElem? (KN.get he.c)
  have o2 := I2.outs _ hmem
  have s2 := I2.ms _ hmem
  have eg : r.goals (r.lim (ns : Nat)) w e = ((r.nxt (r.lim (ns : Nat)) w e).at_ e.c).goals e.s (r.hap (r.lim (ns : Nat)) w e).2.2 := by rw [eat]; rfl
  rw [eg] at hg
  have hl2 := KNC.st
  generalize (r.nxt (r.lim (ns : Nat)) w e).at_ e.c = c at *
  have kept_lt : (r.hap (r.lim (ns : Nat)) w e).2.2 = true → r.lim (ns : Nat) < (ns : Nat) := fun h => by
    rw [kept_eq] at h
    unfold kept28 at h
    simp only [Bool.and_eq_true] at h
    have h1 := outs_in (c := w.at_ e.c) (s := e.s) (by rw [KC.st]; exact hes) h.1
    rw [KC.st] at h1
    have h2 : ¬ ((w.at_ e.c).outs : Int) < r.lim (ns : Nat) := by simpa using h.2.2.2
    omega
  unfold Ca.goals at hg
  rcases List.mem_append.mp hg with hg | hg
  · cases ha : c.st.all Sd.isOut with
    | false => rw [ha] at hg; cases hg
    | true =>
      rw [ha] at hg
      rw [List.mem_singleton.mp hg]
      show duP .all _ _ _ _ _ = true
      rw [du_a, hlim]
      have := outs_all ha
      exact decide_eq_true (by omega)
  · cases hk : (r.hap (r.lim (ns : Nat)) w e).2.2 with
    | false => rw [hk] at hg; cases hg
    | true =>
      have klt := kept_lt hk
      rw [hk, cond_true] at hg
      rcases List.mem_cons.mp hg with rfl | hg
      · show duP .kept _ _ _ _ _ = true
        rw [du_k, hlim]
        exact decide_eq_true klt
      · cases hb : c.better e.s with
        | false => rw [hb] at hg; cases hg
        | true =>
          rw [hb] at hg
          rw [List.mem_singleton.mp hg]
          unfold Ca.better at hb
          obtain ⟨j, hj, hz⟩ := List.any_eq_true.mp hb
          obtain ⟨k, h1, h2, h3⟩ := spots_at _ _ _ j hj
          rw [Nat.zero_add] at h1
          subst h1
          have hl := s2 j h2 h3 (of_decide_eq_true hz)
          have hp := outs_pos h2 h3
          show duP .swap _ _ _ _ _ = true
          rw [du_s, hlim, hl, decide_eq_true klt, decide_eq_true (show (0 : Int) < r.lim (ns : Nat) by omega)]
          rfl
theorem chk_casesB {g : Gl} {ls : Bool} {t u : Nat} {up : Bool} (h : chk g ls t u up = true) : (nuR g ls t u up = none ∧ duL g ls t u up = []) ∨ ∃ a b, nuR g ls t u up = some (a, b) ∧ duL g ls t u up = upto a (b.getD 60) := by
  unfold chk at h
  split at h
  · next e => exact .inl ⟨e, of_decide_eq_true h⟩
  · next a b e =>
    simp only [Bool.and_eq_true, decide_eq_true_eq] at h
    exact .inr ⟨a, b, e, h.1.1.1⟩
theorem du_nu (hsh : Sh r) (hns : 1 ≤ ns ∧ ns ≤ 60) {g : Gl} (h : duP g r.lasts r.top.toNat r.under.toNat r.up ns = true) : ∃ a bo, nuR g r.lasts r.top.toNat r.under.toNat r.up = some (a, bo) ∧ a ≤ ns ∧ ∀ x, bo = some x → ns ≤ x := by
  have hin : ns ∈ duL g r.lasts r.top.toNat r.under.toNat r.up := List.mem_filter.mpr ⟨List.mem_map.mpr ⟨ns - 1, List.mem_range.mpr (by omega), by omega⟩, h⟩
  rcases chk_casesB (chk_all g r.lasts r.up ⟨hsh.u1, hsh.u2⟩ hsh.tu) with ⟨_, h2⟩ | ⟨a, bo, h1, h2⟩
  · rw [h2] at hin; cases hin
  · rw [h2] at hin
    obtain ⟨k, hk, rfl⟩ := List.mem_map.mp hin
    have := List.mem_range.mp hk
    refine ⟨a, bo, h1, by omega, fun x hx => ?_⟩
    rw [hx] at this
    have h3 : (some x).getD 60 = x := rfl
    omega
theorem ix_nu0 {a : Nat} {bo : Option Nat} : ixA m (nuD (some (a, bo))) (.int 0) = some (.int (a : Nat)) := by cases bo <;> rfl
theorem ix_nu1n {a : Nat} : ixA m (nuD (some (a, none))) (.int 1) = some .non := rfl
theorem ix_nu1s {a x : Nat} : ixA m (nuD (some (a, some x))) (.int 1) = some (.int (x : Nat)) := rfl
theorem isN_nu {a : Nat} {bo : Option Nat} : isNon (nuD (some (a, bo))) = false := by cases bo <;> rfl
def I35s (s : D) (m : M) (ρ : Ss) : Prop := noIns m = true ∧ ∃ x1 x2 x3 x4 x5 x6 x7 x8 x9 x10, ρ = [some s, x1, x2, x3, x4, x5, x6, x7, x8, x9, x10]
def J35 (s b : D) (n : Nat) (m : M) (ρ : Ss) : Prop := BX n m m ∧ ∃ x3 x4 x5 x6 x7 x8 x9 x10, ρ = [some s, some b, some (.ref n), x3, x4, x5, x6, x7, x8, x9, x10]
local macro_rules | `(tactic| trivial) => `(tactic| (repeat (first | with_reducible refine WS.seq ?_ | with_reducible refine WS.nx ?_ | with_reducible refine WS.rt ?_ | with_reducible refine WS.asg ?_ | with_reducible refine WS.drop ?_ | with_reducible refine WS.ret ?_ | with_reducible refine WS.nop ?_ | with_reducible refine WS.retN ?_ | with_reducible refine WS.brk ?_ | with_reducible refine WS.cont ?_ | with_reducible refine WS.sif ?_ | with_reducible refine WS.par ?_ | with_reducible refine WG.setA ?_ | with_reducible refine WE.c ?_ | with_reducible refine WE.op ?_ | with_reducible refine WE.call ?_ | with_reducible refine WE.callM ?_ | with_reducible refine WE.un ?_ | with_reducible refine WE.tup ?_ | with_reducible refine WE.lst ?_ | with_reducible refine WE.newL ?_ | with_reducible refine WE.eif ?_ | with_reducible refine WE.sl ?_ | with_reducible refine WE.isN ?_ | with_reducible refine WE.notN ?_ | with_reducible refine WE.not ?_ | with_reducible refine WE.and ?_ | with_reducible refine WE.or ?_ | with_reducible refine WE.app ?_ | with_reducible refine WE.tupR ?_ | with_reducible refine WE.lisR ?_ | with_reducible refine WE.m1 ?_ | with_reducible refine WE.tbl ?_ | with_reducible refine WE.tblNin ?_ | with_reducible refine WE.chain ?_ | with_reducible refine WE.fldF ?_ | with_reducible refine WE.mth ?_ | with_reducible refine WE.disp ?_ | with_reducible refine WE.dicC ?_ | with_reducible refine WP.nil ?_ | with_reducible refine WP.cons ?_ | with_reducible refine WE.upd ?_ | with_reducible refine WA.nil ?_ | with_reducible refine WA.cons ?_ | with_reducible refine WA.star ?_ | with_reducible refine WO.no ?_ | with_reducible refine WO.yes ?_ | with_reducible refine WT.val ?_ | with_reducible refine WT.and ?_ | with_reducible refine WT.or ?_ | with_reducible refine WT.not ?_ | with_reducible refine WT.tt ?_ | with_reducible refine WI.it ?_ | with_reducible refine Kn.add_i ?_ | with_reducible refine Kn.sub ?_ | with_reducible refine Kn.neg ?_ | with_reducible refine Kn.eq_i ?_ | with_reducible refine Kn.ne_i ?_ | with_reducible refine Kn.lt ?_ | with_reducible refine Kn.le ?_ | with_reducible refine Kn.gt ?_ | with_reducible refine Kn.ge ?_ | with_reducible refine Kn.int_i ?_ | with_reducible refine Kn.int_b ?_ | with_reducible refine Kn.abs ?_ | with_reducible refine Kn.min2 ?_ | with_reducible refine Kn.max2 ?_ | with_reducible refine Kn.len_t ?_ | with_reducible refine Kn.len_l ?_ | with_reducible refine Kn.len_s ?_ | with_reducible refine Kn.tup_t ?_ | with_reducible refine Kn.tup_l ?_ | with_reducible refine Kn.lis_t ?_ | with_reducible refine Kn.lis_l ?_ | with_reducible refine Kn.seq_t ?_ | with_reducible refine Kn.seq_l ?_ | with_reducible refine Kn.it_t ?_ | with_reducible refine Kn.it_l ?_ | with_reducible refine Kn.it_s ?_ | with_reducible refine Kn.str_s ?_ | with_reducible refine Kn.sl_t ?_ | with_reducible refine Kn.sl_l ?_ | with_reducible refine Kn.sl_rt ?_ | with_reducible refine Kn.ix_rt1 ?_ | with_reducible refine Kn.ix_rt2 ?_ | with_reducible refine Kn.kx_need ?_ | with_reducible refine Kn.kx_of ?_ | with_reducible refine Kn.kx_base ?_ | with_reducible refine Kn.kx_more ?_ | with_reducible refine Kn.kx_most ?_ | with_reducible refine Kn.kx_calm ?_ | with_reducible refine Kn.kx_back ?_ | with_reducible refine Kn.kx_under ?_ | with_reducible refine Kn.kx_top ?_ | with_reducible refine Kn.kx_up ?_ | with_reducible refine Kn.kx_hears ?_ | with_reducible refine Fld.need ?_ | with_reducible refine Fld.of ?_ | with_reducible refine Fld.base ?_ | with_reducible refine Fld.more ?_ | with_reducible refine Fld.most ?_ | with_reducible refine Fld.calm ?_ | with_reducible refine Fld.back ?_ | with_reducible refine Fld.top ?_ | with_reducible refine Fld.under ?_ | with_reducible refine Fld.up ?_ | with_reducible refine Fld.hears ?_ | with_reducible refine Fld.cap ?_ | with_reducible refine Mth.time ?_ | ((with_reducible refine WG.nm ?_); dsimp only [setMany, List.set_cons_succ, List.set_cons_zero]) | ((with_reducible refine WG.one ?_); dsimp only [setMany, List.set_cons_succ, List.set_cons_zero]) | ((with_reducible refine WG.tup ?_ ?_); exact rfl; dsimp only [setMany, List.set_cons_succ, List.set_cons_zero]) | ((with_reducible apply WE.var); exact rfl) | ((with_reducible apply WS.aug); exact rfl) | ((with_reducible apply WE.newPL); exact rfl) | ((with_reducible refine WS.ite_t ?_ ?_); exact rfl) | ((with_reducible refine WS.ite_f ?_ ?_); exact rfl) | ((with_reducible refine WE.ite_t ?_ ?_); exact rfl) | ((with_reducible refine WE.ite_f ?_ ?_); exact rfl) | ((with_reducible refine w_and_t ?_ ?_); exact rfl) | ((with_reducible refine w_and_f ?_ ?_); exact rfl) | ((with_reducible refine w_or_t ?_ ?_); exact rfl) | ((with_reducible refine w_or_f ?_ ?_); exact rfl) | ((with_reducible refine Kn.fdiv ?_ ?_); exact ⟨by decide, by decide⟩) | ((with_reducible refine Kn.mod ?_ ?_); decide) | ((with_reducible refine And.intro (a := (_ && _) = true) ?_ ?_); exact rfl) | ((with_reducible refine And.intro (a := List.length _ = List.length _) ?_ ?_); exact rfl; dsimp only [setMany, List.set_cons_succ, List.set_cons_zero]) | ((with_reducible refine ⟨wsz ?_, ?_⟩); first | decide | (show (_ : Nat) ≤ 1000; simp only [List.length_cons, List.length_nil]; decide)) | with_reducible refine ⟨_, rfl, ?_⟩)))
theorem goal35 (hsh : Sh r) (hok : r.Ok) (hns : 1 ≤ ns ∧ ns ≤ 60) (g : Go) (h : duP g.gl r.lasts r.top.toNat r.under.toNat r.up ns = true) (x0 x1 x2 x3 x4 x7 x8 x10 : Option D) :
    WS f_law_3 [x0, x1, x2, x3, x4, some r.d, some (.int (ns : Nat)), x7, x8, some (.str g.s), x10] m fun rr m' => m' = m ∧ ∃ y10, rr = .nx [x0, x1, x2, x3, x4, some r.d, some (.int (ns : Nat)), x7, x8, some (.str g.s), y10] := by
  obtain ⟨a, bo, h1, h2, h3⟩ := du_nu hsh hns h
  have hn := numbers_g hsh hok g.gl
  have hh := happens_g hsh hok g.gl
  rw [h1] at hn hh
  rw [go_gl]
  unfold f_law_3
  trivial
  refine Kn.call pure2rs hn ?_
  trivial
  rw [isN_nu]
  trivial
  refine Kn.call pure2rs hh ?_
  trivial
  refine Kn.mk ix_nu0 ?_
  trivial
  rw [decide_eq_false (show ¬ ((ns : Nat) : Int) < ((a : Nat) : Int) by omega)]
  trivial
  cases bo with
  | none =>
    refine Kn.mk ix_nu1n ?_
    trivial
    exact ⟨rfl, _, rfl⟩
  | some x =>
    have := h3 x rfl
    refine Kn.mk ix_nu1s ?_
    trivial
    refine Kn.mk ix_nu1s ?_
    trivial
    rw [decide_eq_false (show ¬ ((x : Nat) : Int) < ((ns : Nat) : Int) by omega)]
    trivial
    exact ⟨rfl, _, rfl⟩
end
end L4
namespace L4
open PySem
section
variable {m m0 : M} {r : Ru} {w : Wo} {nc ns n b d : Nat} {e : Ev}
theorem ix_pair0 {x y : D} : ixA m (.tup [x, y]) (.int 0) = some x := rfl
def E35 (r : Ru) (nc ns n b d : Nat) (m : M) : Prop := ∃ w : Wo, BX n m m ∧ m[d]? = some (.dic rK r.kv) ∧ LB m b w ∧ w.Ok r nc ns ∧ w.Cn r ∧ I35 r (r.lim (ns : Nat)) w
local macro_rules | `(tactic| trivial) => `(tactic| (repeat (first | with_reducible refine WS.seq ?_ | with_reducible refine WS.nx ?_ | with_reducible refine WS.rt ?_ | with_reducible refine WS.asg ?_ | with_reducible refine WS.drop ?_ | with_reducible refine WS.ret ?_ | with_reducible refine WS.nop ?_ | with_reducible refine WS.retN ?_ | with_reducible refine WS.brk ?_ | with_reducible refine WS.cont ?_ | with_reducible refine WS.sif ?_ | with_reducible refine WS.par ?_ | with_reducible refine WG.setA ?_ | with_reducible refine WE.c ?_ | with_reducible refine WE.op ?_ | with_reducible refine WE.call ?_ | with_reducible refine WE.callM ?_ | with_reducible refine WE.un ?_ | with_reducible refine WE.tup ?_ | with_reducible refine WE.lst ?_ | with_reducible refine WE.newL ?_ | with_reducible refine WE.eif ?_ | with_reducible refine WE.sl ?_ | with_reducible refine WE.isN ?_ | with_reducible refine WE.notN ?_ | with_reducible refine WE.not ?_ | with_reducible refine WE.and ?_ | with_reducible refine WE.or ?_ | with_reducible refine WE.app ?_ | with_reducible refine WE.tupR ?_ | with_reducible refine WE.lisR ?_ | with_reducible refine WE.m1 ?_ | with_reducible refine WE.tbl ?_ | with_reducible refine WE.tblNin ?_ | with_reducible refine WE.chain ?_ | with_reducible refine WE.fldF ?_ | with_reducible refine WE.mth ?_ | with_reducible refine WE.disp ?_ | with_reducible refine WE.dicC ?_ | with_reducible refine WP.nil ?_ | with_reducible refine WP.cons ?_ | with_reducible refine WE.upd ?_ | with_reducible refine WA.nil ?_ | with_reducible refine WA.cons ?_ | with_reducible refine WA.star ?_ | with_reducible refine WO.no ?_ | with_reducible refine WO.yes ?_ | with_reducible refine WT.val ?_ | with_reducible refine WT.and ?_ | with_reducible refine WT.or ?_ | with_reducible refine WT.not ?_ | with_reducible refine WT.tt ?_ | with_reducible refine WI.it ?_ | with_reducible refine Kn.add_i ?_ | with_reducible refine Kn.sub ?_ | with_reducible refine Kn.neg ?_ | with_reducible refine Kn.eq_i ?_ | with_reducible refine Kn.ne_i ?_ | with_reducible refine Kn.lt ?_ | with_reducible refine Kn.le ?_ | with_reducible refine Kn.gt ?_ | with_reducible refine Kn.ge ?_ | with_reducible refine Kn.int_i ?_ | with_reducible refine Kn.int_b ?_ | with_reducible refine Kn.abs ?_ | with_reducible refine Kn.min2 ?_ | with_reducible refine Kn.max2 ?_ | with_reducible refine Kn.len_t ?_ | with_reducible refine Kn.len_l ?_ | with_reducible refine Kn.len_s ?_ | with_reducible refine Kn.tup_t ?_ | with_reducible refine Kn.tup_l ?_ | with_reducible refine Kn.lis_t ?_ | with_reducible refine Kn.lis_l ?_ | with_reducible refine Kn.seq_t ?_ | with_reducible refine Kn.seq_l ?_ | with_reducible refine Kn.it_t ?_ | with_reducible refine Kn.it_l ?_ | with_reducible refine Kn.it_s ?_ | with_reducible refine Kn.str_s ?_ | with_reducible refine Kn.sl_t ?_ | with_reducible refine Kn.sl_l ?_ | with_reducible refine Kn.sl_rt ?_ | with_reducible refine Kn.ix_rt1 ?_ | with_reducible refine Kn.ix_rt2 ?_ | with_reducible refine Kn.kx_need ?_ | with_reducible refine Kn.kx_of ?_ | with_reducible refine Kn.kx_base ?_ | with_reducible refine Kn.kx_more ?_ | with_reducible refine Kn.kx_most ?_ | with_reducible refine Kn.kx_calm ?_ | with_reducible refine Kn.kx_back ?_ | with_reducible refine Kn.kx_under ?_ | with_reducible refine Kn.kx_top ?_ | with_reducible refine Kn.kx_up ?_ | with_reducible refine Kn.kx_hears ?_ | with_reducible refine Fld.need ?_ | with_reducible refine Fld.of ?_ | with_reducible refine Fld.base ?_ | with_reducible refine Fld.more ?_ | with_reducible refine Fld.most ?_ | with_reducible refine Fld.calm ?_ | with_reducible refine Fld.back ?_ | with_reducible refine Fld.top ?_ | with_reducible refine Fld.under ?_ | with_reducible refine Fld.up ?_ | with_reducible refine Fld.hears ?_ | with_reducible refine Fld.cap ?_ | with_reducible refine Mth.time ?_ | ((with_reducible refine WG.nm ?_); dsimp only [setMany, List.set_cons_succ, List.set_cons_zero]) | ((with_reducible refine WG.one ?_); dsimp only [setMany, List.set_cons_succ, List.set_cons_zero]) | ((with_reducible refine WG.tup ?_ ?_); exact rfl; dsimp only [setMany, List.set_cons_succ, List.set_cons_zero]) | ((with_reducible apply WE.var); exact rfl) | ((with_reducible apply WS.aug); exact rfl) | ((with_reducible apply WE.newPL); exact rfl) | ((with_reducible refine WS.ite_t ?_ ?_); exact rfl) | ((with_reducible refine WS.ite_f ?_ ?_); exact rfl) | ((with_reducible refine WE.ite_t ?_ ?_); exact rfl) | ((with_reducible refine WE.ite_f ?_ ?_); exact rfl) | ((with_reducible refine w_and_t ?_ ?_); exact rfl) | ((with_reducible refine w_and_f ?_ ?_); exact rfl) | ((with_reducible refine w_or_t ?_ ?_); exact rfl) | ((with_reducible refine w_or_f ?_ ?_); exact rfl) | ((with_reducible refine Kn.fdiv ?_ ?_); exact ⟨by decide, by decide⟩) | ((with_reducible refine Kn.mod ?_ ?_); decide) | ((with_reducible refine And.intro (a := (_ && _) = true) ?_ ?_); exact rfl) | ((with_reducible refine And.intro (a := List.length _ = List.length _) ?_ ?_); exact rfl; dsimp only [setMany, List.set_cons_succ, List.set_cons_zero]) | ((with_reducible refine ⟨wsz ?_, ?_⟩); first | decide | (show (_ : Nat) ≤ 1000; simp only [List.length_cons, List.length_nil]; decide)) | with_reducible refine ⟨_, rfl, ?_⟩)))
theorem ev35 (hsh : Sh r) (h9 : r.B9) (hok : r.Ok) (hc : 1 ≤ nc ∧ nc ≤ 100) (hns : 1 ≤ ns ∧ ns ≤ 60) (hnd : n < b) (hdb : d < b) (hdn : d ≠ n) (h : E35 r nc ns n b d m) (h0 : 0 ≤ r.lim (ns : Nat)) (x0 x1 x3 x8 x9 x10 : Option D) :
    WS f_law_4 [x0, x1, some (.ref n), x3, some (.ref d), some r.d, some (.int (ns : Nat)), some (.ref (b + 3 * nc + 1)), x8, x9, x10] m fun rr m' => E35 r nc ns n b d m' ∧ ∃ y9 y10, rr = .nx [x0, x1, some (.ref n), x3, some (.ref d), some r.d, some (.int (ns : Nat)), some (.ref (b + 3 * nc + 1)), x8, y9, y10] := by
  obtain ⟨w, hb, hd, W, K, z, I⟩ := h
  have hlt := W.lt
  have hcs := K.cs
  have hm : 0 ≤ r.more := h9.m1
  unfold f_law_4
  refine WS.forRfE ?_
  trivial
  refine ldrawn_b hb hnd W K hc ⟨hns.1, by omega⟩ fun e m1 he _ a1 => ?_
  have hd1 : m1[d]? = some (.dic rK r.kv) := by rw [a1.fr d (by omega) hdn]; exact hd
  trivial
  refine lgo_b hok h9 hsh hd1 hdb (W.bx a1 hnd) K z (by omega) he fun m2 l2 o2 g2 W2 n2 => ?_
  have hb2 : BX n m2 m2 := by
    obtain ⟨x, y, v, h1, h2⟩ := a1.at_
    exact ⟨⟨x, y, v, (o2 n (.inl hnd)).trans h1, h2⟩, Nat.le_refl _, fun _ _ _ => rfl, n2 a1.ni⟩
  have hd2 : m2[d]? = some (.dic rK r.kv) := (o2 d (.inl hdb)).trans hd1
  trivial
  refine Kn.mk ix_pair0 ?_
  have hdu := goal_du hsh hm K hok I he h0
  have hgl : (r.goals (r.lim (ns : Nat)) w e).length ≤ 3 := by
    unfold Ru.goals Ca.goals
    cases (((w.at_ e.c).put e.s (r.hap (r.lim (ns : Nat)) w e).1 (r.hap (r.lim (ns : Nat)) w e).2.1).st.all Sd.isOut) <;> cases (r.hap (r.lim (ns : Nat)) w e).2.2 <;> cases (((w.at_ e.c).put e.s (r.hap (r.lim (ns : Nat)) w e).1 (r.hap (r.lim (ns : Nat)) w e).2.1).better e.s) <;> decide
  refine ⟨m1.length, goD (r.goals (r.lim (ns : Nat)) w e), fun i ρ m' => m' = m2 ∧ ∃ y9 y10, ρ = [x0, x1, some (.ref n), x3, some (.ref d), some r.d, some (.int (ns : Nat)), some (.ref (b + 3 * nc + 1)), x8, y9, y10], rfl, ?_, ⟨rfl, _, _, rfl⟩, ?_, ?_, ?_⟩
  · show ((r.goals (r.lim (ns : Nat)) w e).map fun g => D.str g.s).length < big
    rw [List.length_map]
    unfold big
    omega
  · rintro i ρ m' ⟨rfl, _⟩
    exact g2
  · rintro i x ρ m' hi ⟨rfl, y9, y10, rfl⟩
    unfold goD at hi
    rw [List.getElem?_map] at hi
    obtain ⟨g, hg, rfl⟩ := Option.map_eq_some_iff.mp hi
    trivial
    refine WS.mono (goal35 hsh hok hns g (hdu g (List.mem_of_getElem? hg)) _ _ _ _ _ _ _ _) ?_
    rintro rr m3 ⟨rfl, z10, rfl⟩
    exact ⟨_, .inl rfl, rfl, _, _, rfl⟩
  · rintro ρ m' ⟨rfl, y9, y10, rfl⟩
    exact ⟨⟨_, hb2, hd2, W2, nxt_ok hok K he, nxt_cn K z he, I.nxt hm K he h0⟩, _, _, rfl⟩
theorem turn35 {s bb : D} (hb : BX n m m) (x3 x4 x5 x6 x7 x8 x9 x10 : Option D) : WS f_law_8 [some s, some bb, some (.ref n), x3, x4, x5, x6, x7, x8, x9, x10] m fun r m' => ∃ ρ, r = .nx ρ ∧ J35 s bb n m' ρ := by
  have hn := hb.lt
  unfold f_law_8
  trivial
  refine rule_b hb hn ⟨by decide, by decide⟩ ⟨by decide, by decide⟩ ⟨by decide, by decide⟩ fun r d m1 hw _ hb hdl hd => ?_
  have dn : d ≠ n := by omega
  have h9 := hw.b9 (by decide)
  have hok : r.Ok := ⟨hw.a1, hw.a2, by have := hw.a3; omega, hw.m1, by have := hw.m2; omega, hw.b1, hw.b2, hw.c1, (capB_pos h9).1⟩
  trivial
  refine rule_of_b hd hb.ni (hw.tn (by decide) (by decide) (by decide)) hw.va ?_
  trivial
  refine take_bd hb hd dn (by decide) (by decide) fun a m2 a0 a1 hb hd => ?_
  obtain ⟨sn, rfl⟩ := Int.eq_ofNat_of_zero_le a0
  have es : (1 : Int) + ((sn : Nat) : Int) = ((1 + sn : Nat) : Int) := by omega
  trivial
  rw [es]
  have hns : 1 ≤ 1 + sn ∧ 1 + sn ≤ 60 := by omega
  generalize 1 + sn = ns at *
  unfold f_law_6
  trivial
  refine take_bd hb hd dn (by decide) (by decide) fun c m3 c0 c1 hb hd => ?_
  obtain ⟨cn, rfl⟩ := Int.eq_ofNat_of_zero_le c0
  have ec : (1 : Int) + ((cn : Nat) : Int) = ((1 + cn : Nat) : Int) := by omega
  trivial
  rw [ec]
  have hnc : 1 ≤ 1 + cn ∧ 1 + cn ≤ 100 := by omega
  generalize 1 + cn = nc at *
  have hsh : Sh r := hw.sh
  have hlim := lim_nat hsh ns
  have hdl3 : d < m3.length := (List.getElem?_eq_some_iff.mp hd).1
  have hn3 : n < m3.length := hb.lt
  refine lbegin_b (by omega) (by omega) fun m4 W4 l4 o4 n4 => ?_
  have hb4 : BX n m4 m4 := by
    obtain ⟨x, y, v, h1, h2⟩ := hb.at_
    exact ⟨⟨x, y, v, (o4 n hn3).trans h1, h2⟩, Nat.le_refl _, fun _ _ _ => rfl, n4 hb.ni⟩
  have hd4 : m4[d]? = some (.dic rK r.kv) := (o4 d hdl3).trans hd
  trivial
  unfold f_law_5
  refine WS.forI (fun i ρ m' => E35 r nc ns n m3.length d m' ∧ ∃ y8 y9 y10, ρ = [some s, some bb, some (.ref n), x3, some (.ref d), some r.d, some (.int (ns : Nat)), some (.ref (m3.length + 3 * nc + 1)), y8, y9, y10]) ?_
  refine WI.r1 ?_
  trivial
  refine ⟨⟨by omega, by omega⟩, ⟨⟨_, hb4, hd4, W4, wo0_ok hok, wo0_cn, I35.wo0 (by omega)⟩, _, _, _, rfl⟩, ?_, ?_⟩
  · rintro i x ρ m' hi ⟨E, y8, y9, y10, rfl⟩
    trivial
    refine WS.mono (ev35 hsh h9 hok hnc hns hn3 hdl3 dn E (by omega) _ _ _ _ _ _) ?_
    rintro rr m5 ⟨E5, z9, z10, rfl⟩
    exact ⟨_, .inl rfl, E5, _, _, _, rfl⟩
  · rintro ρ m' ⟨⟨w, hb5, _⟩, y8, y9, y10, rfl⟩
    exact ⟨_, rfl, hb5, _, _, _, _, _, _, _, _, rfl⟩
theorem box35 {s bb : D} (hb : BX n m m) (x3 x4 x5 x6 x7 x8 x9 x10 : Option D) : WS f_law_9 [some s, some bb, some (.ref n), x3, x4, x5, x6, x7, x8, x9, x10] m fun r m' => ∃ ρ, r = .nx ρ ∧ I35s s m' ρ := by
  unfold f_law_9
  refine WS.forI (fun i ρ m' => J35 s bb n m' ρ) ?_
  refine WI.r1 ?_
  trivial
  refine ⟨⟨by omega, by omega⟩, ⟨hb, _, _, _, _, _, _, _, _, rfl⟩, ?_, ?_⟩
  · rintro i x ρ m1 hi ⟨hb, x3, x4, x5, x6, x7, x8, x9, x10, rfl⟩
    refine WG.one ?_
    dsimp only [setMany, List.set_cons_succ, List.set_cons_zero]
    refine WS.mono (turn35 hb _ _ _ _ _ _ _ _) ?_
    rintro _ m2 ⟨ρ, rfl, h2⟩
    exact ⟨ρ, .inl rfl, h2⟩
  · rintro ρ m1 ⟨hb, x3, x4, x5, x6, x7, x8, x9, x10, rfl⟩
    exact ⟨_, rfl, hb.ni, _, _, _, _, _, _, _, _, _, _, rfl⟩
theorem law_plain : ∀ ns : List Int, ns.length ≤ 63 → F_law [.scr (ns.map D.int)] = some (.bl true) := by
  intro ns hn
  refine WS.runP (n := 11) (b := f_law) ?_ rfl
  show WS _ [some (.scr (ns.map D.int)), none, none, none, none, none, none, none, none, none, none] [] _
  trivial
  refine WS.forI (fun i ρ m' => I35s (.scr (ns.map D.int)) m' ρ) ?_
  refine WI.r1 ?_
  trivial
  rw [List.length_map]
  refine ⟨by (repeat' split) <;> omega, ⟨rfl, _, _, _, _, _, _, _, _, _, _, rfl⟩, ?_, ?_⟩
  · rintro i x ρ m1 hi ⟨hni, x1, x2, x3, x4, x5, x6, x7, x8, x9, x10, rfl⟩
    obtain ⟨hi, rfl⟩ := rng_at hi
    refine WG.one ?_
    dsimp only [setMany, List.set_cons_succ, List.set_cons_zero]
    unfold f_law_10
    refine WS.seq (WS.asg (WE.callM ?_))
    trivial
    refine box_b ns hni (by (repeat' split at hi) <;> omega) fun n m2 hlt hb => ?_
    refine WG.nm ?_
    dsimp only [List.set_cons_succ, List.set_cons_zero]
    refine WS.nx ?_
    refine WS.mono (box35 hb _ _ _ _ _ _ _ _) ?_
    rintro _ m3 ⟨ρ, rfl, h1⟩
    exact ⟨ρ, .inl rfl, h1⟩
  · rintro ρ m1 ⟨hni, x1, x2, x3, x4, x5, x6, x7, x8, x9, x10, rfl⟩
    trivial
    exact frz_b
end
end L4
namespace L4
open PySem L2 TL
open L3 (Df Md Ki Cmd)
structure Tx (w : World) (K : PySem.W.Frag) (mg : Str → Option Value) : Prop where
  b_abs : mg "abs" = none
  b_all : mg "all" = none
  b_bool : mg "bool" = none
  b_enumerate : mg "enumerate" = none
  b_int : mg "int" = none
  b_isinstance : mg "isinstance" = none
  b_len : mg "len" = none
  b_list : mg "list" = none
  b_max : mg "max" = none
  b_min : mg "min" = none
  b_range : mg "range" = none
  b_str : mg "str" = none
  b_tuple : mg "tuple" = none
  b_zip : mg "zip" = none
  c_Rule : Cls K (He.ga K "Rule")
  n_Rule_back : NoAttr K (He.ga K "Rule") "back"
  n_Rule_base : NoAttr K (He.ga K "Rule") "base"
  n_Rule_calm : NoAttr K (He.ga K "Rule") "calm"
  n_Rule_cap : NoAttr K (He.ga K "Rule") "cap"
  n_Rule_hears : NoAttr K (He.ga K "Rule") "hears"
  n_Rule_more : NoAttr K (He.ga K "Rule") "more"
  n_Rule_most : NoAttr K (He.ga K "Rule") "most"
  n_Rule_need : NoAttr K (He.ga K "Rule") "need"
  n_Rule_of : NoAttr K (He.ga K "Rule") "of"
  n_Rule_top : NoAttr K (He.ga K "Rule") "top"
  n_Rule_under : NoAttr K (He.ga K "Rule") "under"
  n_Rule_up : NoAttr K (He.ga K "Rule") "up"
  g_Rule : mg "Rule" = some (.ref (He.ga K "Rule"))
  g_BACKS : mg "BACKS" = some (.ref (He.ga K "BACKS"))
  t_BACKS : ∀ H, SqT K H (He.ga K "BACKS") [.str "half", .str "open", .str "trial"]
  g_DIGITS : ∃ t, mg "DIGITS" = some (.str "0123456789" t)
  g_GOALS : mg "GOALS" = some (.ref (He.ga K "GOALS"))
  t_GOALS : ∀ H, SqT K H (He.ga K "GOALS") [.str "all", .str "kept", .str "swap"]
  g_HEARD : mg "HEARD" = some (.ref (He.ga K "HEARD"))
  t_HEARD : ∀ H, SqT K H (He.ga K "HEARD") [.str "fault", .str "no", .str "out"]
  g_ROUNDS : mg "ROUNDS" = some (.ref (He.ga K "ROUNDS"))
  tbl_ROUNDS : ∀ X : Cx, X.K = K → X.w = w → Tbl X "ROUNDS" tb_ROUNDS
  d__law_box : Df K mg "_law_box" s__law_box
  d__law_take : Df K mg "_law_take" s__law_take
  d__law_pick : Df K mg "_law_pick" s__law_pick
  d__law_rule : Df K mg "_law_rule" s__law_rule
  d_number_in : Df K mg "number_in" s_number_in
  d_numbers_in : Df K mg "numbers_in" s_numbers_in
  d_share_in : Df K mg "share_in" s_share_in
  d_is_word : Df K mg "is_word" s_is_word
  d_words_between : Df K mg "words_between" s_words_between
  d_is_integer : Df K mg "is_integer" s_is_integer
  d_is_from : Df K mg "is_from" s_is_from
  d_is_number : Df K mg "is_number" s_is_number
  d_wrong_number : Df K mg "wrong_number" s_wrong_number
  d_wrong_word : Df K mg "wrong_word" s_wrong_word
  k_Rule : Ki K mg "Rule" (He.ga K "Rule") "Rule.__init__" s_Rule___init__
  cd_Rule_read : Cmd K (He.ga K "Rule") "read" "Rule.read" s_Rule_read
  d__law_rule_text : Df K mg "_law_rule_text" s__law_rule_text
  d__law_rule_of : Df K mg "_law_rule_of" s__law_rule_of
  d__law_begin : Df K mg "_law_begin" s__law_begin
  d__law_outs : Df K mg "_law_outs" s__law_outs
  d__law_limit : Df K mg "_law_limit" s__law_limit
  d__law_back : Df K mg "_law_back" s__law_back
  d__law_time : Df K mg "_law_time" s__law_time
  d__law_cap : Df K mg "_law_cap" s__law_cap
  d__law_out : Df K mg "_law_out" s__law_out
  d__law_faulted : Df K mg "_law_faulted" s__law_faulted
  d__law_turn : Df K mg "_law_turn" s__law_turn
  d__law_word : Df K mg "_law_word" s__law_word
  d__law_go : Df K mg "_law_go" s__law_go
  d__law_can : Df K mg "_law_can" s__law_can
  d__law_drawn_event : Df K mg "_law_drawn_event" s__law_drawn_event
  d_need_goal : Df K mg "need_goal" s_need_goal
  d_up_to : Df K mg "up_to" s_up_to
  d_least_short : Df K mg "least_short" s_least_short
  d_Rule_time : Md K (He.ga K "Rule") "time" "Rule.time" s_Rule_time
  d_is_lasting : Df K mg "is_lasting" s_is_lasting
  d_is_missable : Df K mg "is_missable" s_is_missable
  d_numbers : Df K mg "numbers" s_numbers
  d_happens : Df K mg "happens" s_happens
  d_law : Df K mg "law" s_law
section
variable {P : Program} {w : World} {K : PySem.W.Frag} {mg : Str → Option Value} {base : Heap}
theorem Tx.F__law_box (T : Tx w K mg) : MFn P w K mg base 1 "_law_box" 2 F__law_box :=
  mfn_df T.d__law_box (k := 0) (b := f__law_box) sc__law_box (fun _ _ _ _ _ _ us hl => match us, hl with | [_, _], _ => rfl) fun f cdv A outer s H E gd =>
    dss_cons (ds_set (i := 2) sc__law_box.nd rfl (Or.inl rfl) (de_op op_add' (de_op op_mul' (de_int) (dv 1)) (de_int)))
    (dss_cons (ds_if (dt_cmp op_lt' (dv 1) (de_callB call_len' (by rfl) T.b_len (by decide +kernel) (da_cons (dv 0) (da_nil))) (nomark _)) (dss_one (ds_set (i := 2) sc__law_box.nd rfl (Or.inl rfl) (de_callB call_abs' (by rfl) T.b_abs (by decide +kernel) (da_cons (de_callT call_int' (by rfl) T.b_int (by decide +kernel) (da_cons (de_ixA gd (dv 0) (dv 1)) (da_nil))) (da_nil))))) (dss_one (ds_if (dt_cmp op_gt' (de_callB call_len' (by rfl) T.b_len (by decide +kernel) (da_cons (dv 0) (da_nil))) (de_int) (nomark _)) (dss_one (ds_set (i := 2) sc__law_box.nd rfl (Or.inl rfl) (de_op op_add' (dv 2) (de_op op_mul' (de_op op_mod' (de_callT call_int' (by rfl) T.b_int (by decide +kernel) (da_cons (de_ixA gd (dv 0) (de_op op_mod' (de_callT call_int' (by rfl) T.b_int (by decide +kernel) (da_cons (dv 1) (da_nil))) (de_callB call_len' (by rfl) T.b_len (by decide +kernel) (da_cons (dv 0) (da_nil))))) (da_nil))) (de_int)) (de_int))))) (dss_nil))))
    (dss_cons (ds_set (i := 3) sc__law_box.nd rfl (Or.inl rfl) (de_op op_add' (de_op op_mod' (de_callT call_int' (by rfl) T.b_int (by decide +kernel) (da_cons (de_op op_add' (de_op op_add' (de_op op_mul' (de_op op_mod' (de_callT call_int' (by rfl) T.b_int (by decide +kernel) (da_cons (dv 2) (da_nil))) (de_int)) (de_int)) (de_op op_mul' (de_int) (dv 1))) (de_int)) (da_nil))) (de_int)) (de_int)))
    (dss_one (ds_ret (de_newL (da_cons (de_ixA gd (de_lst (da_cons (de_int) (da_cons (dv 2) (da_nil)))) (de_callT call_int' (by rfl) T.b_int (by decide +kernel) (da_cons (de_cmp op_ge' (dv 2) (de_op op_pow' (de_int) (de_int)) (nomark _)) (da_nil)))) (da_cons (dv 3) (da_cons (de_int) (da_nil)))))))))
theorem Tx.F__law_take (T : Tx w K mg) : MFn P w K mg base 1 "_law_take" 2 F__law_take :=
  mfn_df T.d__law_take (k := 0) (b := f__law_take) sc__law_take (fun _ _ _ _ _ _ us hl => match us, hl with | [_, _], _ => rfl) fun f cdv A outer s H E gd =>
    dss_cons (ds_if (dt_cmp op_gt' (de_ixA gd (dv 0) (de_int)) (de_int) (nomark _)) (dss_cons (ds_set (i := 2) sc__law_take.nd rfl (Or.inl rfl) (de_op op_mod' (de_callT call_int' (by rfl) T.b_int (by decide +kernel) (da_cons (de_ixA gd (dv 0) (de_int)) (da_nil))) (dv 1)))
    (dss_cons (ds_asg (de_op op_fdiv' (de_ixA gd (dv 0) (de_int)) (dv 1)) (dg_subA gd (dv 0) (de_int)))
    (dss_one (ds_ret (dv 2))))) (dss_nil))
    (dss_cons (ds_asg (de_op op_add' (de_ixA gd (dv 0) (de_int)) (de_int)) (dg_subA gd (dv 0) (de_int)))
    (dss_cons (ds_set (i := 3) sc__law_take.nd rfl (Or.inl rfl) (de_op op_mod' (de_callT call_int' (by rfl) T.b_int (by decide +kernel) (da_cons (de_op op_mul' (de_op op_add' (de_ixA gd (dv 0) (de_int)) (de_op op_mul' (de_int) (de_ixA gd (dv 0) (de_int)))) (de_int)) (da_nil))) (de_int)))
    (dss_cons (ds_asg (de_op op_add' (de_op op_mod' (de_callT call_int' (by rfl) T.b_int (by decide +kernel) (da_cons (de_op op_add' (de_op op_mul' (dv 3) (de_int)) (de_int)) (da_nil))) (de_int)) (de_int)) (dg_subA gd (dv 0) (de_int)))
    (dss_one (ds_ret (de_op op_mod' (de_callT call_int' (by rfl) T.b_int (by decide +kernel) (da_cons (de_op op_fdiv' (de_op op_add' (de_op op_mul' (dv 3) (de_int)) (de_ixA gd (dv 0) (de_int))) (de_int)) (da_nil))) (dv 1)))))))
theorem Tx.F__law_pick (T : Tx w K mg) : MFn P w K mg base 2 "_law_pick" 2 F__law_pick :=
  mfn_df T.d__law_pick (k := 1) (b := f__law_pick) sc__law_pick (fun _ _ _ _ _ _ us hl => match us, hl with | [_, _], _ => rfl) fun f cdv A outer s H E gd =>
    dss_one (ds_ret (de_ixA gd (dv 1) (de_mfn T.F__law_take (gd.mono (by decide)) (by rfl) (da_cons (dv 0) (da_cons (de_callB call_len' (by rfl) T.b_len (by decide +kernel) (da_cons (dv 1) (da_nil))) (da_nil))))))
theorem Tx.F__law_rule (T : Tx w K mg) : MFn P w K mg base 3 "_law_rule" 4 F__law_rule :=
  mfn_df T.d__law_rule (k := 2) (b := f__law_rule) sc__law_rule (fun _ _ _ _ _ _ us hl => match us, hl with | [_, _, _, _], _ => rfl) fun f cdv A outer s H E gd =>
    dss_cons (ds_set (i := 4) sc__law_rule.nd rfl (Or.inl rfl) (de_op op_add' (de_int) (de_mfn T.F__law_take (gd.mono (by decide)) (by rfl) (da_cons (dv 0) (da_cons (dv 1) (da_nil))))))
    (dss_cons (ds_set (i := 5) sc__law_rule.nd rfl (Or.inl rfl) (de_disp (dps_cons (de_str) (dv 4) (dps_cons (de_str) (de_op op_add' (dv 4) (de_mfn T.F__law_take (gd.mono (by decide)) (by rfl) (da_cons (dv 0) (da_cons (de_op op_add' (de_op op_sub' (dv 1) (dv 4)) (de_int)) (da_nil))))) (dps_cons (de_str) (de_op op_add' (de_int) (de_mfn T.F__law_take (gd.mono (by decide)) (by rfl) (da_cons (dv 0) (da_cons (dv 2) (da_nil))))) (dps_nil))))))
    (dss_cons (ds_asg (de_mfn T.F__law_pick (gd.mono (by decide)) (by rfl) (da_cons (dv 0) (da_cons (de_lst (da_cons (de_int) (da_cons (de_int) (da_cons (de_int) (da_cons (de_int) (da_cons (de_int) (da_cons (de_int) (da_cons (de_int) (da_nil))))))))) (da_nil)))) (dg_subA gd (dv 5) (de_str)))
    (dss_cons (ds_asg (de_op op_add' (de_ixA gd (dv 5) (de_str)) (de_mfn T.F__law_take (gd.mono (by decide)) (by rfl) (da_cons (dv 0) (da_cons (de_op op_add' (de_op op_sub' (dv 2) (de_ixA gd (dv 5) (de_str))) (de_int)) (da_nil))))) (dg_subA gd (dv 5) (de_str)))
    (dss_cons (ds_expr (de_upd (dv 5) (de_disp (dps_cons (de_str) (de_mfn T.F__law_take (gd.mono (by decide)) (by rfl) (da_cons (dv 0) (da_cons (de_op op_add' (dv 3) (de_int)) (da_nil)))) (dps_cons (de_str) (de_mfn T.F__law_pick (gd.mono (by decide)) (by rfl) (da_cons (dv 0) (da_cons (de_lst (da_cons (de_str) (da_cons (de_str) (da_cons (de_str) (da_nil))))) (da_nil)))) (dps_nil))))))
    (dss_cons (ds_asg (de_op op_add' (de_int) (de_mfn T.F__law_take (gd.mono (by decide)) (by rfl) (da_cons (dv 0) (da_cons (de_int) (da_nil))))) (dg_subA gd (dv 5) (de_str)))
    (dss_cons (ds_asg (de_mfn T.F__law_take (gd.mono (by decide)) (by rfl) (da_cons (dv 0) (da_cons (de_op op_add' (de_ixA gd (dv 5) (de_str)) (de_int)) (da_nil)))) (dg_subA gd (dv 5) (de_str)))
    (dss_cons (ds_expr (de_upd (dv 5) (de_disp (dps_cons (de_str) (de_cmp (op_eq' gd) (de_mfn T.F__law_take (gd.mono (by decide)) (by rfl) (da_cons (dv 0) (da_cons (de_int) (da_nil)))) (de_int) (nomark _)) (dps_cons (de_str) (de_mfn T.F__law_pick (gd.mono (by decide)) (by rfl) (da_cons (dv 0) (da_cons (de_lst (da_cons (de_str) (da_cons (de_str) (da_cons (de_str) (da_nil))))) (da_nil)))) (dps_nil))))))
    (dss_one (ds_ret (dv 5))))))))))
theorem Tx.F_number_in (T : Tx w K mg) : PFn P w K mg base 1 "number_in" 2 F_number_in :=
  pfn_df T.d_number_in (k := 0) (b := f_number_in) sc_number_in (fun _ _ _ _ _ _ us hl => match us, hl with | [_, _], _ => rfl) fun f cdv A outer s H E gd =>
    dss_cons (ds_if (dt_w (dw_or (dt_not (dt_chain op_le' op_le' (de_int) (de_callB call_len' (by rfl) T.b_len (by decide +kernel) (da_cons (dv 0) (da_nil))) (dv 1))) (dw_or1 (dt_not (dt_val (de_callB (call_all' rfl) (by rfl) T.b_all (by decide +kernel) (da_cons (de_lc rfl sc_number_in.nd (di_any (dv 0)) (blkOk_by (own := [("sign", 2)]) (N := ["word", "most", "sign"]) (sc := defScope s_number_in) (by decide +kernel)) (fun _ _ _ _ _ => dgn_name (i := 2) sc_number_in.nd rfl (Or.inl rfl)) (fun _ _ _ _ _ => dts_nil) (fun _ _ _ _ _ => de_cmp (op_inA gd.blk) (dv 2) (de_gstr (by rfl) T.g_DIGITS) (by rfl))) (da_nil)))))))) (dss_one (ds_ret (de_non))) (dss_nil))
    (dss_one (ds_ret (de_if (dt_w (dw_or (dt_cmp (op_eq' gd) (dv 0) (de_str) (nomark _)) (dw_or1 (dt_cmp (op_ne' gd) (de_ixA gd (dv 0) (de_int)) (de_str) (nomark _))))) (de_callT call_int' (by rfl) T.b_int (by decide +kernel) (da_cons (dv 0) (da_nil))) (de_non))))
theorem Tx.F_numbers_in (T : Tx w K mg) : PFn P w K mg base 2 "numbers_in" 1 F_numbers_in :=
  pfn_df T.d_numbers_in (k := 1) (b := f_numbers_in) sc_numbers_in (fun _ _ _ _ _ _ us hl => match us, hl with | [_], _ => rfl) fun f cdv A outer s H E gd =>
    dss_cons (ds_setLc (i := 1) rfl sc_numbers_in.nd rfl rfl (sw_true rfl rfl rfl (by decide +kernel)) (di_any (dv 0)) (blkOk_by (own := [("word", 2)]) (N := ["words", "found", "word"]) (sc := defScope s_numbers_in) (by decide +kernel)) (fun _ _ _ _ _ => dgn_name (i := 2) sc_numbers_in.nd rfl (Or.inl rfl)) (fun _ _ _ _ _ => dts_nil) (fun _ _ _ _ _ => de_pfn T.F_number_in (gd.blk.mono (by decide)) (by rfl) (da_cons (dv 2) (da_cons (de_int) (da_nil)))))
    (dss_one (ds_ret (de_if (dt_cmp (op_inA gd) (de_non) (dv 1) (by rfl)) (de_non) (dv 1))))
theorem Tx.F_share_in (T : Tx w K mg) : PFn P w K mg base 3 "share_in" 1 F_share_in :=
  pfn_df T.d_share_in (k := 2) (b := f_share_in) sc_share_in (fun _ _ _ _ _ _ us hl => match us, hl with | [_], _ => rfl) fun f cdv A outer s H E gd =>
    dss_cons (ds_set (i := 1) sc_share_in.nd rfl (Or.inl rfl) (de_split (dv 0) (de_str)))
    (dss_one (ds_ret (de_if (dt_cmp (op_eq' gd) (de_callB call_len' (by rfl) T.b_len (by decide +kernel) (da_cons (dv 1) (da_nil))) (de_int) (nomark _)) (de_pfn T.F_numbers_in (gd.mono (by decide)) (by rfl) (da_cons (dv 1) (da_nil))) (de_non))))
theorem Tx.F_is_word (T : Tx w K mg) : PFn P w K mg base 1 "is_word" 2 F_is_word :=
  pfn_df T.d_is_word (k := 0) (b := f_is_word) sc_is_word (fun _ _ _ _ _ _ us hl => match us, hl with | [_, _], _ => rfl) fun f cdv A outer s H E gd =>
    dss_one (ds_ret (de_and (de_callB call_isi' (by rfl) T.b_isinstance (by decide +kernel) (da_cons (dv 0) (da_cons (de_ty (t := "str") (by rfl) T.b_str (by decide +kernel)) (da_nil)))) (de_one (de_cmp (op_inA gd) (dv 0) (dv 1) (by rfl)))))
theorem Tx.F_words_between (T : Tx w K mg) : PFn P w K mg base 2 "words_between" 1 F_words_between :=
  pfn_df T.d_words_between (k := 1) (b := f_words_between) sc_words_between (fun _ _ _ _ _ _ us hl => match us, hl with | [_], _ => rfl) fun f cdv A outer s H E gd =>
    dss_cons (ds_set (i := 1) sc_words_between.nd rfl (Or.inl rfl) (de_lisN (by rfl) T.b_list (dv 0)))
    (dss_cons (ds_for PassesOwn.never rfl (di_zipM (by rfl) T.b_zip (da_cons (de_tup (da_cons (de_int) (da_cons (de_int) (da_cons (de_int) (da_cons (de_int) (da_cons (de_int) (da_cons (de_int) (da_cons (de_int) (da_cons (de_int) (da_cons (de_int) (da_nil))))))))))) (da_cons (de_split (de_str) (de_str)) (da_nil)))) (dg_of (dgn_tup rfl (dgns_cons (i := 2) sc_words_between.nd rfl (Or.inl rfl) (dgns_cons (i := 3) sc_words_between.nd rfl (Or.inl rfl) (dgns_nil))))) (dss_one (ds_asg (dv 3) (dg_subA gd (dv 1) (dv 2)))))
    (dss_one (ds_ret (de_if (dt_w (dw_and (dt_val (de_pfn T.F_is_word (gd.mono (by decide)) (by rfl) (da_cons (de_ixA gd (dv 0) (de_int)) (da_cons (de_gtup (ds := [.str "half", .str "open", .str "trial"]) (by rfl) T.g_BACKS T.t_BACKS (fun _ _ => .cons (.str _) (.cons (.str _) (.cons (.str _) (.nil))))) (da_nil))))) (dw_and1 (dt_val (de_pfn T.F_is_word (gd.mono (by decide)) (by rfl) (da_cons (de_ixA gd (dv 0) (de_int)) (da_cons (de_gtup (ds := [.str "fault", .str "no", .str "out"]) (by rfl) T.g_HEARD T.t_HEARD (fun _ _ => .cons (.str _) (.cons (.str _) (.cons (.str _) (.nil))))) (da_nil)))))))) (dv 1) (de_lst (da_nil))))))
theorem Tx.F_is_integer (T : Tx w K mg) : PFn P w K mg base 1 "is_integer" 1 F_is_integer :=
  pfn_df T.d_is_integer (k := 0) (b := f_is_integer) sc_is_integer (fun _ _ _ _ _ _ us hl => match us, hl with | [_], _ => rfl) fun f cdv A outer s H E gd =>
    dss_one (ds_ret (de_and (de_callB call_isi' (by rfl) T.b_isinstance (by decide +kernel) (da_cons (dv 0) (da_cons (de_ty (t := "int") (by rfl) T.b_int (by decide +kernel)) (da_nil)))) (de_one (de_not (de_callB call_isi' (by rfl) T.b_isinstance (by decide +kernel) (da_cons (dv 0) (da_cons (de_ty (t := "bool") (by rfl) T.b_bool (by decide +kernel)) (da_nil))))))))
theorem Tx.F_is_from (T : Tx w K mg) : PFn P w K mg base 2 "is_from" 2 F_is_from :=
  pfn_df T.d_is_from (k := 1) (b := f_is_from) sc_is_from (fun _ _ _ _ _ _ us hl => match us, hl with | [_, _], _ => rfl) fun f cdv A outer s H E gd =>
    dss_one (ds_ret (de_and (de_pfn T.F_is_integer (gd.mono (by decide)) (by rfl) (da_cons (dv 0) (da_nil))) (de_one (de_cmp op_ge' (dv 0) (dv 1) (nomark _)))))
theorem Tx.F_is_number (T : Tx w K mg) : PFn P w K mg base 2 "is_number" 1 F_is_number :=
  pfn_df T.d_is_number (k := 1) (b := f_is_number) sc_is_number (fun _ _ _ _ _ _ us hl => match us, hl with | [_], _ => rfl) fun f cdv A outer s H E gd =>
    dss_one (ds_ret (de_and (de_pfn T.F_is_integer (gd.mono (by decide)) (by rfl) (da_cons (dv 0) (da_nil))) (de_one (de_cmp op_ge' (dv 0) (de_int) (nomark _)))))
theorem Tx.F_wrong_number (T : Tx w K mg) : PFn P w K mg base 3 "wrong_number" 6 F_wrong_number :=
  pfn_df T.d_wrong_number (k := 2) (b := f_wrong_number) sc_wrong_number (fun _ _ _ _ _ _ us hl => match us, hl with | [_, _, _, _, _, _], _ => rfl) fun f cdv A outer s H E gd =>
    dss_cons (ds_if (dt_not (dt_val (de_pfn T.F_is_from (gd.mono (by decide)) (by rfl) (da_cons (dv 0) (da_cons (de_int) (da_nil)))))) (dss_one (ds_ret (de_str))) (dss_nil))
    (dss_cons (ds_if (dt_not (dt_val (de_pfn T.F_is_from (gd.mono (by decide)) (by rfl) (da_cons (dv 1) (da_cons (dv 0) (da_nil)))))) (dss_one (ds_ret (de_str))) (dss_nil))
    (dss_cons (ds_if (dt_not (dt_val (de_pfn T.F_is_from (gd.mono (by decide)) (by rfl) (da_cons (dv 2) (da_cons (de_int) (da_nil)))))) (dss_one (ds_ret (de_str))) (dss_nil))
    (dss_cons (ds_if (dt_not (dt_val (de_pfn T.F_is_number (gd.mono (by decide)) (by rfl) (da_cons (dv 3) (da_nil))))) (dss_one (ds_ret (de_str))) (dss_nil))
    (dss_cons (ds_if (dt_not (dt_val (de_pfn T.F_is_from (gd.mono (by decide)) (by rfl) (da_cons (dv 4) (da_cons (dv 2) (da_nil)))))) (dss_one (ds_ret (de_str))) (dss_nil))
    (dss_one (ds_ret (de_if (dt_val (de_pfn T.F_is_number (gd.mono (by decide)) (by rfl) (da_cons (dv 5) (da_nil)))) (de_non) (de_str))))))))
theorem Tx.F_wrong_word (T : Tx w K mg) : PFn P w K mg base 3 "wrong_word" 5 F_wrong_word :=
  pfn_df T.d_wrong_word (k := 2) (b := f_wrong_word) sc_wrong_word (fun _ _ _ _ _ _ us hl => match us, hl with | [_, _, _, _, _], _ => rfl) fun f cdv A outer s H E gd =>
    dss_cons (ds_if (dt_not (dt_val (de_pfn T.F_is_word (gd.mono (by decide)) (by rfl) (da_cons (dv 0) (da_cons (de_gtup (ds := [.str "half", .str "open", .str "trial"]) (by rfl) T.g_BACKS T.t_BACKS (fun _ _ => .cons (.str _) (.cons (.str _) (.cons (.str _) (.nil))))) (da_nil)))))) (dss_one (ds_ret (de_str))) (dss_nil))
    (dss_cons (ds_if (dt_not (dt_val (de_pfn T.F_is_number (gd.mono (by decide)) (by rfl) (da_cons (dv 1) (da_nil))))) (dss_one (ds_ret (de_str))) (dss_nil))
    (dss_cons (ds_if (dt_w (dw_or (dt_not (dt_val (de_pfn T.F_is_integer (gd.mono (by decide)) (by rfl) (da_cons (dv 2) (da_nil))))) (dw_or (dt_cmp op_lt' (dv 2) (de_int) (nomark _)) (dw_or1 (dt_cmp op_lt' (dv 2) (dv 1) (nomark _)))))) (dss_one (ds_ret (de_str))) (dss_nil))
    (dss_cons (ds_if (dt_not (dt_val (de_callB call_isi' (by rfl) T.b_isinstance (by decide +kernel) (da_cons (dv 3) (da_cons (de_ty (t := "bool") (by rfl) T.b_bool (by decide +kernel)) (da_nil)))))) (dss_one (ds_ret (de_str))) (dss_nil))
    (dss_one (ds_ret (de_if (dt_val (de_pfn T.F_is_word (gd.mono (by decide)) (by rfl) (da_cons (dv 4) (da_cons (de_gtup (ds := [.str "fault", .str "no", .str "out"]) (by rfl) T.g_HEARD T.t_HEARD (fun _ _ => .cons (.str _) (.cons (.str _) (.cons (.str _) (.nil))))) (da_nil))))) (de_non) (de_str)))))))
theorem Tx.F_Rule___init__ (T : Tx w K mg) : MNw P w K mg base 4 "Rule" 12 F_Rule___init__ :=
  mnw_ki T.k_Rule (k := 3) (b := f_Rule___init__) sc_Rule___init__ (fun _ _ _ _ _ _ us hl => match us, hl with | [_, _, _, _, _, _, _, _, _, _, _, _], _ => rfl) fun f cdv A outer s H E gd =>
    dss_cons (ds_set (i := 12) sc_Rule___init__.nd rfl (Or.inl rfl) (de_pfn T.F_wrong_number (gd.mono (by decide)) (by rfl) (da_cons (dv 1) (da_cons (dv 2) (da_cons (dv 3) (da_cons (dv 4) (da_cons (dv 5) (da_cons (dv 6) (da_nil)))))))))
    (dss_cons (ds_if (dt_isN (dv 12)) (dss_one (ds_set (i := 12) sc_Rule___init__.nd rfl (Or.inl rfl) (de_pfn T.F_wrong_word (gd.mono (by decide)) (by rfl) (da_cons (dv 7) (da_cons (dv 8) (da_cons (dv 9) (da_cons (dv 10) (da_cons (dv 11) (da_nil))))))))) (dss_nil))
    (dss_cons (ds_if (dt_notN (dv 12)) (dss_one (ds_never)) (dss_nil))
    (dss_cons (ds_fld (na1 T.c_Rule T.n_Rule_need) (dv 0) (dv 1))
    (dss_cons (ds_fld (na1 T.c_Rule T.n_Rule_of) (dv 0) (dv 2))
    (dss_cons (ds_fld (na1 T.c_Rule T.n_Rule_base) (dv 0) (dv 3))
    (dss_cons (ds_fld (na1 T.c_Rule T.n_Rule_more) (dv 0) (dv 4))
    (dss_cons (ds_fld (na1 T.c_Rule T.n_Rule_most) (dv 0) (dv 5))
    (dss_cons (ds_fld (na1 T.c_Rule T.n_Rule_calm) (dv 0) (dv 6))
    (dss_cons (ds_fld (na1 T.c_Rule T.n_Rule_back) (dv 0) (dv 7))
    (dss_cons (ds_fld (na1 T.c_Rule T.n_Rule_top) (dv 0) (dv 8))
    (dss_cons (ds_fld (na1 T.c_Rule T.n_Rule_under) (dv 0) (dv 9))
    (dss_cons (ds_fld (na1 T.c_Rule T.n_Rule_up) (dv 0) (dv 10))
    (dss_cons (ds_fld (na1 T.c_Rule T.n_Rule_hears) (dv 0) (dv 11))
    (dss_one (ds_fld (na1 T.c_Rule T.n_Rule_cap) (dv 0) (de_if (dt_cmp (op_eq' gd) (dv 4) (de_int) (nomark _)) (de_int) (de_op op_add' (de_int) (de_op op_fdiv' (de_op op_sub' (de_op op_add' (de_op op_sub' (dv 5) (dv 3)) (dv 4)) (de_int)) (dv 4)))))))))))))))))))
theorem Tx.F_Rule_read (T : Tx w K mg) : PCm P w K mg base 6 "Rule" "read" 1 F_Rule_read :=
  pcm_md T.cd_Rule_read (k := 5) (b := f_Rule_read) sc_Rule_read (fun _ _ _ _ _ _ us hl => match us, hl with | [_, _], _ => rfl) fun f cdv A outer s H E gd =>
    dss_cons (ds_set (i := 2) sc_Rule_read.nd rfl (Or.inr rfl) (de_split (dv 1) (de_str)))
    (dss_cons (ds_if (dt_cmp (op_ne' gd) (de_callB call_len' (by rfl) T.b_len (by decide +kernel) (da_cons (dv 2) (da_nil))) (de_int) (nomark _)) (dss_one (ds_never)) (dss_nil))
    (dss_cons (ds_set (i := 3) sc_Rule_read.nd rfl (Or.inl rfl) (de_pfn T.F_numbers_in (gd.mono (by decide)) (by rfl) (da_cons (de_lc rfl sc_Rule_read.nd (di_any (de_tup (da_cons (de_int) (da_cons (de_int) (da_cons (de_int) (da_cons (de_int) (da_cons (de_int) (da_cons (de_int) (da_nil))))))))) (blkOk_by (own := [("at", 8)]) (N := ["cls", "text", "words", "plain", "share", "back", "up", "hears", "at"]) (sc := defScope s_Rule_read) (by decide +kernel)) (fun _ _ _ _ _ => dgn_name (i := 8) sc_Rule_read.nd rfl (Or.inl rfl)) (fun _ _ _ _ _ => dts_nil) (fun _ _ _ _ _ => de_ixA gd.blk (dv 2) (dv 8))) (da_nil))))
    (dss_cons (ds_set (i := 4) sc_Rule_read.nd rfl (Or.inl rfl) (de_pfn T.F_share_in (gd.mono (by decide)) (by rfl) (da_cons (de_ixA gd (dv 2) (de_int)) (da_nil))))
    (dss_cons (ds_if (dt_w (dw_or (dt_isN (dv 3)) (dw_or (dt_isN (dv 4)) (dw_or1 (dt_tblNin (T.tbl_ROUNDS _ rfl rfl) (by rfl) T.g_ROUNDS (de_ixA gd (dv 2) (de_int))))))) (dss_one (ds_never)) (dss_nil))
    (dss_cons (ds_if (dt_cmp (op_ne' gd) (dv 2) (de_pfn T.F_words_between (gd.mono (by decide)) (by rfl) (da_cons (dv 2) (da_nil))) (nomark _)) (dss_one (ds_never)) (dss_nil))
    (dss_cons (ds_par3 (by rfl) sc_Rule_read.nd (i := 5) (j := 6) (l := 7) rfl rfl rfl (by decide) (by decide) (by decide) rfl rfl rfl (da_cons (de_ixA gd (dv 2) (de_int)) (da_cons (de_tbl (T.tbl_ROUNDS _ rfl rfl) (by rfl) T.g_ROUNDS (de_ixA gd (dv 2) (de_int))) (da_cons (de_ixA gd (dv 2) (de_int)) (da_nil)))) (by rfl))
    (dss_one (ds_ret (de_newPL (i := 0) T.F_Rule___init__ (gd.mono (by decide)) rfl (Or.inl rfl) (da_star (dv 3) (da_cons (dv 5) (da_star (dv 4) (da_cons (dv 6) (da_cons (dv 7) (da_nil)))))))))))))))
theorem Tx.F__law_rule_text (T : Tx w K mg) : PFn P w K mg base 1 "_law_rule_text" 1 F__law_rule_text :=
  pfn_df T.d__law_rule_text (k := 0) (b := f__law_rule_text) sc__law_rule_text (fun _ _ _ _ _ _ us hl => match us, hl with | [_], _ => rfl) fun f cdv A outer s H E gd =>
    dss_cons (ds_set (i := 1) sc__law_rule_text.nd rfl (Or.inl rfl) (de_lst (da_cons (de_str) (da_cons (de_callT call_strT' (by rfl) T.b_str (by decide +kernel) (da_cons (de_ixA gd (dv 0) (de_str)) (da_nil))) (da_cons (de_str) (da_cons (de_callT call_strT' (by rfl) T.b_str (by decide +kernel) (da_cons (de_ixA gd (dv 0) (de_str)) (da_nil))) (da_cons (de_str) (da_cons (de_callT call_strT' (by rfl) T.b_str (by decide +kernel) (da_cons (de_ixA gd (dv 0) (de_str)) (da_nil))) (da_cons (de_str) (da_cons (de_callT call_strT' (by rfl) T.b_str (by decide +kernel) (da_cons (de_ixA gd (dv 0) (de_str)) (da_nil))) (da_nil)))))))))))
    (dss_cons (ds_set (i := 1) sc__law_rule_text.nd rfl (Or.inl rfl) (de_op op_add' (dv 1) (de_lst (da_cons (de_str) (da_cons (de_callT call_strT' (by rfl) T.b_str (by decide +kernel) (da_cons (de_ixA gd (dv 0) (de_str)) (da_nil))) (da_cons (de_str) (da_cons (de_callT call_strT' (by rfl) T.b_str (by decide +kernel) (da_cons (de_ixA gd (dv 0) (de_str)) (da_nil))) (da_cons (de_str) (da_cons (de_ixA gd (dv 0) (de_str)) (da_nil))))))))))
    (dss_cons (ds_set (i := 1) sc__law_rule_text.nd rfl (Or.inl rfl) (de_op op_add' (dv 1) (de_lst (da_cons (de_str) (da_cons (de_op op_add' (de_op op_add' (de_callT call_strT' (by rfl) T.b_str (by decide +kernel) (da_cons (de_ixA gd (dv 0) (de_str)) (da_nil))) (de_str)) (de_callT call_strT' (by rfl) T.b_str (by decide +kernel) (da_cons (de_ixA gd (dv 0) (de_str)) (da_nil)))) (da_cons (de_if (dt_val (de_ixA gd (dv 0) (de_str))) (de_str) (de_str)) (da_nil)))))))
    (dss_one (ds_ret (de_join (de_str) (de_op op_add' (dv 1) (de_lst (da_cons (de_str) (da_cons (de_ixA gd (dv 0) (de_str)) (da_nil))))))))))
theorem Tx.F__law_rule_of (T : Tx w K mg) : PFn P w K mg base 7 "_law_rule_of" 1 F__law_rule_of :=
  pfn_df T.d__law_rule_of (k := 6) (b := f__law_rule_of) sc__law_rule_of (fun _ _ _ _ _ _ us hl => match us, hl with | [_], _ => rfl) fun f cdv A outer s H E gd =>
    dss_one (ds_ret (de_pcm T.F_Rule_read (gd.mono (by decide)) (by rfl) T.g_Rule (da_cons (de_pfn T.F__law_rule_text (gd.mono (by decide)) (by rfl) (da_cons (dv 0) (da_nil))) (da_nil))))
theorem Tx.F__law_begin (T : Tx w K mg) : MFn P w K mg base 1 "_law_begin" 2 F__law_begin :=
  mfn_df T.d__law_begin (k := 0) (b := f__law_begin) sc__law_begin (fun _ _ _ _ _ _ us hl => match us, hl with | [_, _], _ => rfl) fun f cdv A outer s H E gd =>
    dss_cons (ds_set (i := 2) sc__law_begin.nd rfl (Or.inr rfl) (de_tup (da_cons (de_str) (da_cons (de_tup (da_nil)) (da_cons (de_int) (da_cons (de_int) (da_nil)))))))
    (dss_cons (ds_setLc (i := 3) rfl sc__law_begin.nd rfl rfl (sw_true rfl rfl rfl (by decide +kernel)) (di_range1 (by rfl) T.b_range (da_cons (dv 0) (da_nil))) (blkOk_by (own := [("_law_caller", 5)]) (N := ["_law_callers", "_law_servers", "_law_first", "_law_rows", "_law_bare", "_law_caller", "_law_server", "_law_row"]) (sc := defScope s__law_begin) (by decide +kernel)) (fun _ _ _ _ _ => dgn_name (i := 5) sc__law_begin.nd rfl (Or.inl rfl)) (fun _ _ _ _ _ => dts_nil) (fun _ _ _ _ _ => de_lc rfl sc__law_begin.nd (di_range1 (by rfl) T.b_range (da_cons (dv 1) (da_nil))) (blkOk_by (own := [("_law_server", 6)]) (N := ["_law_callers", "_law_servers", "_law_first", "_law_rows", "_law_bare", "_law_caller", "_law_server", "_law_row"]) (sc := _) (by kernel_rfl)) (fun _ _ _ _ _ => dgn_name (i := 6) sc__law_begin.nd rfl (Or.inl rfl)) (fun _ _ _ _ _ => dts_nil) (fun _ _ _ _ _ => dv 2)))
    (dss_cons (ds_setLc (i := 4) rfl sc__law_begin.nd rfl rfl (sw_true rfl rfl rfl (by decide +kernel)) (di_range1 (by rfl) T.b_range (da_cons (dv 0) (da_nil))) (blkOk_by (own := [("_law_caller", 5)]) (N := ["_law_callers", "_law_servers", "_law_first", "_law_rows", "_law_bare", "_law_caller", "_law_server", "_law_row"]) (sc := defScope s__law_begin) (by decide +kernel)) (fun _ _ _ _ _ => dgn_name (i := 5) sc__law_begin.nd rfl (Or.inl rfl)) (fun _ _ _ _ _ => dts_nil) (fun _ _ _ _ _ => de_lc rfl sc__law_begin.nd (di_range1 (by rfl) T.b_range (da_cons (dv 1) (da_nil))) (blkOk_by (own := [("_law_server", 6)]) (N := ["_law_callers", "_law_servers", "_law_first", "_law_rows", "_law_bare", "_law_caller", "_law_server", "_law_row"]) (sc := _) (by kernel_rfl)) (fun _ _ _ _ _ => dgn_name (i := 6) sc__law_begin.nd rfl (Or.inl rfl)) (fun _ _ _ _ _ => dts_nil) (fun _ _ _ _ _ => de_bl)))
    (dss_one (ds_ret (de_disp (dps_cons (de_str) (dv 3) (dps_cons (de_str) (dv 4) (dps_cons (de_str) (de_lc rfl sc__law_begin.nd (di_any (dv 4)) (blkOk_by (own := [("_law_row", 7)]) (N := ["_law_callers", "_law_servers", "_law_first", "_law_rows", "_law_bare", "_law_caller", "_law_server", "_law_row"]) (sc := defScope s__law_begin) (by decide +kernel)) (fun _ _ _ _ _ => dgn_name (i := 7) sc__law_begin.nd rfl (Or.inl rfl)) (fun _ _ _ _ _ => dts_nil) (fun _ _ _ _ _ => de_lisN (by rfl) T.b_list (dv 7))) (dps_nil)))))))))
theorem Tx.F__law_outs (T : Tx w K mg) : MFn P w K mg base 1 "_law_outs" 2 F__law_outs :=
  mfn_df T.d__law_outs (k := 0) (b := f__law_outs) sc__law_outs (fun _ _ _ _ _ _ us hl => match us, hl with | [_, _], _ => rfl) fun f cdv A outer s H E gd =>
    dss_one (ds_ret (de_callB call_len' (by rfl) T.b_len (by decide +kernel) (da_cons (de_lcV rfl sc__law_outs.nd (dl_any (de_ixA gd (de_ixA gd (dv 0) (de_str)) (dv 1))) (blkOk_by (own := [("_law_one", 2)]) (N := ["_law_world", "_law_caller", "_law_one"]) (sc := defScope s__law_outs) (by decide +kernel)) (fun _ _ _ _ _ => dgn_name (i := 2) sc__law_outs.nd rfl (Or.inl rfl)) (fun _ _ _ _ _ => dts_one (dt_cmp (op_ne' gd.blk) (de_ixA gd.blk (dv 2) (de_int)) (de_str) (nomark _))) (fun _ _ _ _ _ => dv 2)) (da_nil))))
theorem Tx.F__law_limit (T : Tx w K mg) : PFn P w K mg base 1 "_law_limit" 2 F__law_limit :=
  pfn_df T.d__law_limit (k := 0) (b := f__law_limit) sc__law_limit (fun _ _ _ _ _ _ us hl => match us, hl with | [_, _], _ => rfl) fun f cdv A outer s H E gd =>
    dss_cons (ds_if (dt_val (de_ixA gd (dv 0) (de_str))) (dss_one (ds_ret (de_ixA gd (de_lc rfl sc__law_limit.nd (di_range1 (by rfl) T.b_range (da_cons (de_op op_add' (dv 1) (de_int)) (da_nil))) (blkOk_by (own := [("_law_many", 2)]) (N := ["_law_rule_here", "_law_n", "_law_many"]) (sc := defScope s__law_limit) (by decide +kernel)) (fun _ _ _ _ _ => dgn_name (i := 2) sc__law_limit.nd rfl (Or.inl rfl)) (fun _ _ _ _ _ => dts_one (dt_cmp op_ge' (de_op op_mul' (dv 2) (de_ixA gd.blk (dv 0) (de_str))) (de_op op_mul' (dv 1) (de_ixA gd.blk (dv 0) (de_str))) (nomark _))) (fun _ _ _ _ _ => dv 2)) (de_int)))) (dss_nil))
    (dss_one (ds_ret (de_ixA gd (de_lc rfl sc__law_limit.nd (di_range1 (by rfl) T.b_range (da_cons (de_op op_add' (dv 1) (de_int)) (da_nil))) (blkOk_by (own := [("_law_many", 2)]) (N := ["_law_rule_here", "_law_n", "_law_many"]) (sc := defScope s__law_limit) (by decide +kernel)) (fun _ _ _ _ _ => dgn_name (i := 2) sc__law_limit.nd rfl (Or.inl rfl)) (fun _ _ _ _ _ => dts_one (dt_cmp op_le' (de_op op_mul' (dv 2) (de_ixA gd.blk (dv 0) (de_str))) (de_op op_mul' (dv 1) (de_ixA gd.blk (dv 0) (de_str))) (nomark _))) (fun _ _ _ _ _ => dv 2)) (de_un un_neg' (de_int)))))
theorem Tx.F__law_back (T : Tx w K mg) : PFn P w K mg base 1 "_law_back" 2 F__law_back :=
  pfn_df T.d__law_back (k := 0) (b := f__law_back) sc__law_back (fun _ _ _ _ _ _ us hl => match us, hl with | [_, _], _ => rfl) fun f cdv A outer s H E gd =>
    dss_cons (ds_if (dt_cmp (op_eq' gd) (de_ixA gd (dv 0) (de_str)) (de_str) (nomark _)) (dss_one (ds_ret (de_tup (da_cons (de_str) (da_cons (dv 1) (da_nil)))))) (dss_nil))
    (dss_cons (ds_set (i := 2) sc__law_back.nd rfl (Or.inl rfl) (de_if (dt_cmp (op_eq' gd) (de_ixA gd (dv 0) (de_str)) (de_str) (nomark _)) (de_callT call_int' (by rfl) T.b_int (by decide +kernel) (da_cons (de_op op_fdiv' (de_ixA gd (dv 0) (de_str)) (de_int)) (da_nil))) (de_int)))
    (dss_one (ds_ret (de_tup (da_cons (de_str) (da_cons (de_callT call_tup' (by rfl) T.b_tuple (by decide +kernel) (da_cons (de_lc rfl sc__law_back.nd (di_range1 (by rfl) T.b_range (da_cons (dv 2) (da_nil))) (blkOk_by (own := [("_law_fault", 3)]) (N := ["_law_rule_here", "_law_times", "_law_faults", "_law_fault"]) (sc := defScope s__law_back) (by decide +kernel)) (fun _ _ _ _ _ => dgn_name (i := 3) sc__law_back.nd rfl (Or.inl rfl)) (fun _ _ _ _ _ => dts_nil) (fun _ _ _ _ _ => de_bl)) (da_nil))) (da_cons (dv 1) (da_cons (de_int) (da_nil)))))))))
theorem Tx.F__law_time (T : Tx w K mg) : PFn P w K mg base 1 "_law_time" 2 F__law_time :=
  pfn_df T.d__law_time (k := 0) (b := f__law_time) sc__law_time (fun _ _ _ _ _ _ us hl => match us, hl with | [_, _], _ => rfl) fun f cdv A outer s H E gd =>
    dss_cons (ds_set (i := 2) sc__law_time.nd rfl (Or.inl rfl) (de_op op_add' (de_ixA gd (dv 0) (de_str)) (de_op op_mul' (de_ixA gd (dv 0) (de_str)) (de_op op_sub' (dv 1) (de_int)))))
    (dss_one (ds_ret (de_if (dt_cmp op_lt' (dv 2) (de_ixA gd (dv 0) (de_str)) (nomark _)) (dv 2) (de_ixA gd (dv 0) (de_str)))))
theorem Tx.F__law_cap (T : Tx w K mg) : PFn P w K mg base 2 "_law_cap" 1 F__law_cap :=
  pfn_df T.d__law_cap (k := 1) (b := f__law_cap) sc__law_cap (fun _ _ _ _ _ _ us hl => match us, hl with | [_], _ => rfl) fun f cdv A outer s H E gd =>
    dss_cons (ds_set (i := 1) sc__law_cap.nd rfl (Or.inl rfl) (de_int))
    (dss_cons (ds_while big PassesOwn.never (dt_cmp op_gt' (de_pfn T.F__law_time (gd.mono (by decide)) (by rfl) (da_cons (dv 0) (da_cons (de_op op_add' (dv 1) (de_int)) (da_nil)))) (de_pfn T.F__law_time (gd.mono (by decide)) (by rfl) (da_cons (dv 0) (da_cons (dv 1) (da_nil)))) (nomark _)) (dss_one (ds_set (i := 1) sc__law_cap.nd rfl (Or.inl rfl) (de_op op_add' (dv 1) (de_int)))))
    (dss_one (ds_ret (dv 1))))
theorem Tx.F__law_out (T : Tx w K mg) : PFn P w K mg base 3 "_law_out" 2 F__law_out :=
  pfn_df T.d__law_out (k := 2) (b := f__law_out) sc__law_out (fun _ _ _ _ _ _ us hl => match us, hl with | [_, _], _ => rfl) fun f cdv A outer s H E gd =>
    dss_cons (ds_set (i := 2) sc__law_out.nd rfl (Or.inl rfl) (de_if (dt_cmp op_lt' (dv 1) (de_pfn T.F__law_cap (gd.mono (by decide)) (by rfl) (da_cons (dv 0) (da_nil))) (nomark _)) (de_op op_add' (dv 1) (de_int)) (dv 1)))
    (dss_one (ds_ret (de_tup (da_cons (de_str) (da_cons (de_pfn T.F__law_time (gd.mono (by decide)) (by rfl) (da_cons (dv 0) (da_cons (dv 2) (da_nil)))) (da_cons (dv 2) (da_nil)))))))
theorem Tx.F__law_faulted (T : Tx w K mg) : PFn P w K mg base 4 "_law_faulted" 3 F__law_faulted :=
  pfn_df T.d__law_faulted (k := 3) (b := f__law_faulted) sc__law_faulted (fun _ _ _ _ _ _ us hl => match us, hl with | [_, _, _], _ => rfl) fun f cdv A outer s H E gd =>
    dss_win (i := 3) (j := 4) sc__law_faulted.nd rfl rfl (by decide) (Or.inl rfl) (Or.inl rfl) (by first | exact .inl rfl | exact .inr (.inl rfl) | exact .inr (.inr rfl)) (by first | exact .inl rfl | exact .inr rfl) (by first | exact .inl rfl | exact .inr rfl) (de_ixA gd (dv 1) (de_int)) (de_op op_sub' (de_int) (de_ixA gd (dv 0) (de_str))) (de_tup (da_cons (de_str) (da_cons (dv 3) (da_cons (de_ixA gd (dv 1) (de_int)) (da_cons (de_int) (da_nil)))))) (de_ixA gd (dv 0) (de_str)) (dss_one (ds_ret (de_tup (da_cons (dv 4) (da_cons (de_bl) (da_nil))))))
    (dss_one (ds_ret (de_if (dt_val (dv 2)) (de_tup (da_cons (de_pfn T.F__law_out (gd.mono (by decide)) (by rfl) (da_cons (dv 0) (da_cons (de_ixA gd (dv 1) (de_int)) (da_nil)))) (da_cons (de_bl) (da_nil)))) (de_tup (da_cons (dv 4) (da_cons (de_bl) (da_nil))))))) (nomark _)
theorem Tx.F__law_turn (T : Tx w K mg) : PFn P w K mg base 5 "_law_turn" 4 F__law_turn :=
  pfn_df T.d__law_turn (k := 4) (b := f__law_turn) sc__law_turn (fun _ _ _ _ _ _ us hl => match us, hl with | [_, _, _, _], _ => rfl) fun f cdv A outer s H E gd =>
    dss_cons (ds_if (dt_cmp (op_eq' gd) (de_ixA gd (dv 1) (de_int)) (de_str) (nomark _)) (dss_cons (ds_set (i := 4) sc__law_turn.nd rfl (Or.inl rfl) (de_if (dt_val (dv 2)) (de_str) (de_str)))
    (dss_cons (ds_if (dt_cmp op_gt' (de_ixA gd (dv 1) (de_int)) (de_int) (nomark _)) (dss_one (ds_ret (de_tup (da_cons (de_tup (da_cons (de_str) (da_cons (de_op op_sub' (de_ixA gd (dv 1) (de_int)) (de_int)) (da_cons (de_ixA gd (dv 1) (de_int)) (da_nil))))) (da_cons (dv 4) (da_cons (de_bl) (da_nil))))))) (dss_nil))
    (dss_one (ds_ret (de_tup (da_cons (de_pfn T.F__law_back (gd.mono (by decide)) (by rfl) (da_cons (dv 0) (da_cons (de_ixA gd (dv 1) (de_int)) (da_nil)))) (da_cons (dv 4) (da_cons (de_bl) (da_nil))))))))) (dss_nil))
    (dss_cons (ds_if (dt_cmp (op_eq' gd) (de_ixA gd (dv 1) (de_int)) (de_str) (nomark _)) (dss_cons (ds_if (dt_val (dv 2)) (dss_one (ds_ret (de_tup (da_cons (de_pfn T.F__law_out (gd.mono (by decide)) (by rfl) (da_cons (dv 0) (da_cons (de_ixA gd (dv 1) (de_int)) (da_nil)))) (da_cons (de_str) (da_cons (de_bl) (da_nil))))))) (dss_nil))
    (dss_one (ds_ret (de_tup (da_cons (de_tup (da_cons (de_str) (da_cons (de_tup (da_nil)) (da_cons (de_ixA gd (dv 1) (de_int)) (da_cons (de_int) (da_nil)))))) (da_cons (de_str) (da_cons (de_bl) (da_nil)))))))) (dss_nil))
    (dss_cons (ds_if (dt_val (dv 2)) (dss_cons (ds_asg (de_pfn T.F__law_faulted (gd.mono (by decide)) (by rfl) (da_cons (dv 0) (da_cons (dv 1) (da_cons (dv 3) (da_nil))))) (dg_of (dgn_tup rfl (dgns_cons (i := 5) sc__law_turn.nd rfl (Or.inl rfl) (dgns_cons (i := 6) sc__law_turn.nd rfl (Or.inl rfl) (dgns_nil))))))
    (dss_one (ds_ret (de_tup (da_cons (dv 5) (da_cons (de_str) (da_cons (dv 6) (da_nil)))))))) (dss_nil))
    (dss_cons (ds_par3 (by rfl) sc__law_turn.nd (i := 7) (j := 8) (l := 9) rfl rfl rfl (by decide) (by decide) (by decide) rfl rfl rfl (da_cons (de_sl (de_op op_add' (de_ixA gd (dv 1) (de_int)) (de_tup (da_cons (de_bl) (da_nil)))) (dp_yes (de_op op_sub' (de_int) (de_ixA gd (dv 0) (de_str)))) (dp_no)) (da_cons (de_ixA gd (dv 1) (de_int)) (da_cons (de_op op_add' (de_ixA gd (dv 1) (de_int)) (de_int)) (da_nil)))) (by rfl))
    (dss_cons (ds_if (dt_w (dw_or (dt_cmp (op_eq' gd) (dv 8) (de_int) (nomark _)) (dw_or (dt_cmp (op_eq' gd) (de_ixA gd (dv 0) (de_str)) (de_int) (nomark _)) (dw_or1 (dt_cmp (op_eq' gd) (dv 9) (de_ixA gd (dv 0) (de_str)) (nomark _)))))) (dss_one (ds_par (by rfl) sc__law_turn.nd (i := 8) (j := 9) rfl rfl (by decide) rfl rfl (da_cons (de_if (dt_cmp op_gt' (de_ixA gd (dv 0) (de_str)) (de_int) (nomark _)) (de_int) (dv 8)) (da_cons (de_int) (da_nil))) (by rfl))) (dss_nil))
    (dss_one (ds_ret (de_tup (da_cons (de_tup (da_cons (de_str) (da_cons (dv 7) (da_cons (dv 8) (da_cons (dv 9) (da_nil)))))) (da_cons (de_str) (da_cons (de_bl) (da_nil)))))))))))
theorem Tx.F__law_word (T : Tx w K mg) : PFn P w K mg base 5 "_law_word" 3 F__law_word :=
  pfn_df T.d__law_word (k := 4) (b := f__law_word) sc__law_word (fun _ _ _ _ _ _ us hl => match us, hl with | [_, _, _], _ => rfl) fun f cdv A outer s H E gd =>
    dss_cons (ds_if (dt_w (dw_or (dt_cmp (op_ne' gd) (de_ixA gd (dv 1) (de_int)) (de_str) (nomark _)) (dw_or1 (dt_cmp (op_eq' gd) (de_ixA gd (dv 0) (de_str)) (de_str) (nomark _))))) (dss_one (ds_ret (de_tup (da_cons (dv 1) (da_cons (de_bl) (da_nil)))))) (dss_nil))
    (dss_cons (ds_if (dt_cmp (op_eq' gd) (de_ixA gd (dv 0) (de_str)) (de_str) (nomark _)) (dss_one (ds_ret (de_pfn T.F__law_faulted (gd.mono (by decide)) (by rfl) (da_cons (dv 0) (da_cons (dv 1) (da_cons (dv 2) (da_nil))))))) (dss_nil))
    (dss_one (ds_ret (de_if (dt_val (dv 2)) (de_tup (da_cons (de_pfn T.F__law_out (gd.mono (by decide)) (by rfl) (da_cons (dv 0) (da_cons (de_ixA gd (dv 1) (de_int)) (da_nil)))) (da_cons (de_bl) (da_nil)))) (de_tup (da_cons (dv 1) (da_cons (de_bl) (da_nil))))))))
theorem Tx.F__law_go (T : Tx w K mg) : MFn P w K mg base 6 "_law_go" 3 F__law_go :=
  mfn_df T.d__law_go (k := 5) (b := f__law_go) sc__law_go (fun _ _ _ _ _ _ us hl => match us, hl with | [_, _, _], _ => rfl) fun f cdv A outer s H E gd =>
    dss_cons (ds_par (by rfl) sc__law_go.nd (i := 3) (j := 4) rfl rfl (by decide) rfl rfl (da_cons (de_ixA gd (dv 2) (de_int)) (da_cons (de_if (dt_cmp (op_eq' gd) (de_ixA gd (dv 2) (de_int)) (de_str) (nomark _)) (de_ixA gd (dv 2) (de_int)) (de_ixA gd (dv 2) (de_int))) (da_nil))) (by rfl))
    (dss_cons (ds_set (i := 5) sc__law_go.nd rfl (Or.inl rfl) (de_ixA gd (de_ixA gd (de_ixA gd (dv 1) (de_str)) (dv 3)) (dv 4)))
    (dss_cons (ds_set (i := 6) sc__law_go.nd rfl (Or.inl rfl) (de_cmp op_lt' (de_mfn T.F__law_outs (gd.mono (by decide)) (by rfl) (da_cons (dv 1) (da_cons (dv 3) (da_nil)))) (de_pfn T.F__law_limit (gd.mono (by decide)) (by rfl) (da_cons (dv 0) (da_cons (de_callB call_len' (by rfl) T.b_len (by decide +kernel) (da_cons (de_ixA gd (de_ixA gd (dv 1) (de_str)) (dv 3)) (da_nil))) (da_nil)))) (nomark _)))
    (dss_cons (ds_set (i := 7) sc__law_go.nd rfl (Or.inl rfl) (de_str))
    (dss_cons (ds_if (dt_cmp (op_eq' gd) (de_ixA gd (dv 2) (de_int)) (de_str) (nomark _)) (dss_cons (ds_asg (de_pfn T.F__law_turn (gd.mono (by decide)) (by rfl) (da_cons (dv 0) (da_cons (dv 5) (da_cons (de_ixA gd (dv 2) (de_int)) (da_cons (dv 6) (da_nil)))))) (dg_of (dgn_tup rfl (dgns_cons (i := 8) sc__law_go.nd rfl (Or.inl rfl) (dgns_cons (i := 7) sc__law_go.nd rfl (Or.inl rfl) (dgns_cons (i := 9) sc__law_go.nd rfl (Or.inl rfl) (dgns_nil)))))))
    (dss_one (ds_asg (de_cmp (op_eq' gd) (dv 7) (de_str) (nomark _)) (dg_subA gd (de_ixA gd (de_ixA gd (dv 1) (de_str)) (dv 3)) (dv 4))))) (dss_one (ds_asg (de_pfn T.F__law_word (gd.mono (by decide)) (by rfl) (da_cons (dv 0) (da_cons (dv 5) (da_cons (dv 6) (da_nil))))) (dg_of (dgn_tup rfl (dgns_cons (i := 8) sc__law_go.nd rfl (Or.inl rfl) (dgns_cons (i := 9) sc__law_go.nd rfl (Or.inl rfl) (dgns_nil))))))))
    (dss_cons (ds_asg (dv 8) (dg_subA gd (de_ixA gd (de_ixA gd (dv 1) (de_str)) (dv 3)) (dv 4)))
    (dss_cons (ds_if (dt_cmp (op_eq' gd) (de_ixA gd (dv 8) (de_int)) (de_str) (nomark _)) (dss_one (ds_asg (de_bl) (dg_subA gd (de_ixA gd (de_ixA gd (dv 1) (de_str)) (dv 3)) (dv 4)))) (dss_nil))
    (dss_cons (ds_set (i := 11) sc__law_go.nd rfl (Or.inl rfl) (de_if (dt_cmp (op_eq' gd) (de_lcV rfl sc__law_go.nd (dl_any (de_ixA gd (de_ixA gd (dv 1) (de_str)) (dv 3))) (blkOk_by (own := [("_law_one", 10)]) (N := ["_law_rule_here", "_law_world", "_law_event", "_law_caller", "_law_server", "_law_here", "_law_is_room", "_law_told", "_law_later", "_law_is_kept", "_law_one", "_law_found", "_law_other"]) (sc := defScope s__law_go) (by decide +kernel)) (fun _ _ _ _ _ => dgn_name (i := 10) sc__law_go.nd rfl (Or.inl rfl)) (fun _ _ _ _ _ => dts_one (dt_cmp (op_ne' gd.blk) (de_ixA gd.blk (dv 10) (de_int)) (de_str) (nomark _))) (fun _ _ _ _ _ => dv 10)) (de_lst (da_nil)) (nomark _)) (de_newL (da_cons (de_str) (da_nil))) (de_newL (da_nil))))
    (dss_cons (ds_if (dt_val (dv 9)) (dss_cons (ds_expr (de_append (dv 11) (da_cons (de_str) (da_nil))))
    (dss_one (ds_forV big PassesOwn.never rfl (dl_enum (by rfl) T.b_enumerate (da_cons (de_ixA gd (de_ixA gd (dv 1) (de_str)) (dv 3)) (da_nil))) (dg_of (dgn_tup rfl (dgns_cons (i := 12) sc__law_go.nd rfl (Or.inl rfl) (dgns_cons (i := 10) sc__law_go.nd rfl (Or.inl rfl) (dgns_nil))))) (dss_one (ds_if (dt_w (dw_and (dt_cmp (op_ne' gd) (de_ixA gd (dv 10) (de_int)) (de_str) (nomark _)) (dw_and (dt_val (de_ixA gd (de_ixA gd (de_ixA gd (dv 1) (de_str)) (dv 3)) (dv 12))) (dw_and1 (dt_cmp (op_ninA gd) (de_str) (dv 11) (by rfl)))))) (dss_one (ds_expr (de_append (dv 11) (da_cons (de_str) (da_nil))))) (dss_nil)))))) (dss_nil))
    (dss_one (ds_ret (de_tup (da_cons (dv 11) (da_cons (dv 7) (da_nil))))))))))))))
theorem Tx.F__law_can (T : Tx w K mg) : MFn P w K mg base 1 "_law_can" 2 F__law_can :=
  mfn_df T.d__law_can (k := 0) (b := f__law_can) sc__law_can (fun _ _ _ _ _ _ us hl => match us, hl with | [_, _], _ => rfl) fun f cdv A outer s H E gd =>
    dss_one (ds_ret (de_or (de_cmp (op_eq' gd) (de_ixA gd (dv 1) (de_int)) (de_str) (nomark _)) (de_one (de_ixA gd (de_ixA gd (de_ixA gd (dv 0) (de_str)) (de_ixA gd (dv 1) (de_int))) (de_ixA gd (dv 1) (de_int))))))
theorem Tx.F__law_drawn_event (T : Tx w K mg) : MFn P w K mg base 2 "_law_drawn_event" 2 F__law_drawn_event :=
  mfn_df T.d__law_drawn_event (k := 1) (b := f__law_drawn_event) sc__law_drawn_event (fun _ _ _ _ _ _ us hl => match us, hl with | [_, _], _ => rfl) fun f cdv A outer s H E gd =>
    dss_cons (ds_par (by rfl) sc__law_drawn_event.nd (i := 2) (j := 3) rfl rfl (by decide) rfl rfl (da_cons (de_callB call_len' (by rfl) T.b_len (by decide +kernel) (da_cons (de_ixA gd (dv 1) (de_str)) (da_nil))) (da_cons (de_callB call_len' (by rfl) T.b_len (by decide +kernel) (da_cons (de_ixA gd (de_ixA gd (dv 1) (de_str)) (de_int)) (da_nil))) (da_nil))) (by rfl))
    (dss_cons (ds_set (i := 4) sc__law_drawn_event.nd rfl (Or.inl rfl) (de_tup (da_cons (de_str) (da_cons (de_mfn T.F__law_take (gd.mono (by decide)) (by rfl) (da_cons (dv 0) (da_cons (dv 2) (da_nil)))) (da_cons (de_mfn T.F__law_take (gd.mono (by decide)) (by rfl) (da_cons (dv 0) (da_cons (dv 3) (da_nil)))) (da_cons (de_cmp op_gt' (de_mfn T.F__law_take (gd.mono (by decide)) (by rfl) (da_cons (dv 0) (da_cons (de_int) (da_nil)))) (de_int) (nomark _)) (da_nil)))))))
    (dss_cons (ds_if (dt_w (dw_and (dt_cmp op_gt' (dv 2) (de_int) (nomark _)) (dw_and1 (dt_cmp (op_eq' gd) (de_mfn T.F__law_take (gd.mono (by decide)) (by rfl) (da_cons (dv 0) (da_cons (de_int) (da_nil)))) (de_int) (nomark _))))) (dss_cons (ds_set (i := 5) sc__law_drawn_event.nd rfl (Or.inl rfl) (de_op op_mod' (de_callT call_int' (by rfl) T.b_int (by decide +kernel) (da_cons (de_op op_add' (de_op op_add' (de_ixA gd (dv 4) (de_int)) (de_int)) (de_mfn T.F__law_take (gd.mono (by decide)) (by rfl) (da_cons (dv 0) (da_cons (de_op op_sub' (dv 2) (de_int)) (da_nil))))) (da_nil))) (dv 2)))
    (dss_cons (ds_set (i := 6) sc__law_drawn_event.nd rfl (Or.inl rfl) (de_tup (da_cons (de_str) (da_cons (de_ixA gd (dv 4) (de_int)) (da_cons (dv 5) (da_cons (de_ixA gd (dv 4) (de_int)) (da_nil)))))))
    (dss_one (ds_set (i := 4) sc__law_drawn_event.nd rfl (Or.inl rfl) (de_if (dt_val (de_mfn T.F__law_can (gd.mono (by decide)) (by rfl) (da_cons (dv 1) (da_cons (dv 6) (da_nil))))) (dv 6) (dv 4)))))) (dss_nil))
    (dss_one (ds_ret (dv 4)))))
theorem Tx.F_need_goal (T : Tx w K mg) : PFn P w K mg base 1 "need_goal" 1 F_need_goal :=
  pfn_df T.d_need_goal (k := 0) (b := f_need_goal) sc_need_goal (fun _ _ _ _ _ _ us hl => match us, hl with | [_], _ => rfl) fun f cdv A outer s H E gd =>
    dss_one (ds_if (dt_w (dw_or (dt_not (dt_val (de_callB call_isi' (by rfl) T.b_isinstance (by decide +kernel) (da_cons (dv 0) (da_cons (de_ty (t := "str") (by rfl) T.b_str (by decide +kernel)) (da_nil)))))) (dw_or1 (dt_cmp (op_ninA gd) (dv 0) (de_gtup (ds := [.str "all", .str "kept", .str "swap"]) (by rfl) T.g_GOALS T.t_GOALS (fun _ _ => .cons (.str _) (.cons (.str _) (.cons (.str _) (.nil))))) (by rfl))))) (dss_one (ds_never)) (dss_nil))
theorem Tx.F_up_to (T : Tx w K mg) : PFn P w K mg base 1 "up_to" 2 F_up_to :=
  pfn_df T.d_up_to (k := 0) (b := f_up_to) sc_up_to (fun _ _ _ _ _ _ us hl => match us, hl with | [_, _], _ => rfl) fun f cdv A outer s H E gd =>
    dss_one (ds_ret (de_un un_neg' (de_op op_fdiv' (de_un un_neg' (dv 0)) (dv 1))))
theorem Tx.F_least_short (T : Tx w K mg) : PFn P w K mg base 2 "least_short" 1 F_least_short :=
  pfn_df T.d_least_short (k := 1) (b := f_least_short) sc_least_short (fun _ _ _ _ _ _ us hl => match us, hl with | [_], _ => rfl) fun f cdv A outer s H E gd =>
    dss_one (ds_ret (de_if (dt_val (de_fld (na1 T.c_Rule T.n_Rule_up) (dv 0))) (de_pfn T.F_up_to (gd.mono (by decide)) (by rfl) (da_cons (de_fld (na1 T.c_Rule T.n_Rule_under) (dv 0)) (da_cons (de_op op_sub' (de_fld (na1 T.c_Rule T.n_Rule_under) (dv 0)) (de_fld (na1 T.c_Rule T.n_Rule_top) (dv 0))) (da_nil)))) (de_int)))
theorem Tx.F_Rule_time (T : Tx w K mg) : PMt P w K mg base 1 "Rule" "time" 2 F_Rule_time :=
  pmt_md T.d_Rule_time T.c_Rule (k := 0) (b := f_Rule_time) sc_Rule_time (fun _ _ _ _ _ _ us hl => match us, hl with | [_, _], _ => rfl) fun f cdv A outer s H E gd =>
    dss_one (ds_ret (de_callB (call_min2'' rfl) (by rfl) T.b_min (by decide +kernel) (da_cons (de_callT call_int' (by rfl) T.b_int (by decide +kernel) (da_cons (de_op op_add' (de_fld (na1 T.c_Rule T.n_Rule_base) (dv 0)) (de_op op_mul' (de_fld (na1 T.c_Rule T.n_Rule_more) (dv 0)) (de_op op_sub' (dv 1) (de_int)))) (da_nil))) (da_cons (de_callT call_int' (by rfl) T.b_int (by decide +kernel) (da_cons (de_fld (na1 T.c_Rule T.n_Rule_most) (dv 0)) (da_nil))) (da_nil)))))
theorem Tx.F_is_lasting (T : Tx w K mg) : PFn P w K mg base 2 "is_lasting" 1 F_is_lasting :=
  pfn_df T.d_is_lasting (k := 1) (b := f_is_lasting) sc_is_lasting (fun _ _ _ _ _ _ us hl => match us, hl with | [_], _ => rfl) fun f cdv A outer s H E gd =>
    dss_one (ds_ret (de_or (de_cmp (op_eq' gd) (de_fld (na1 T.c_Rule T.n_Rule_back) (dv 0)) (de_str) (nomark _)) (de_one (de_cmp op_gt' (de_pmt T.F_Rule_time (gd.mono (by decide)) (dv 0) (da_cons (de_fld (na1 T.c_Rule T.n_Rule_cap) (dv 0)) (da_nil))) (de_int) (nomark _)))))
theorem Tx.F_is_missable (T : Tx w K mg) : PFn P w K mg base 3 "is_missable" 1 F_is_missable :=
  pfn_df T.d_is_missable (k := 2) (b := f_is_missable) sc_is_missable (fun _ _ _ _ _ _ us hl => match us, hl with | [_], _ => rfl) fun f cdv A outer s H E gd =>
    dss_one (ds_ret (de_or (de_pfn T.F_is_lasting (gd.mono (by decide)) (by rfl) (da_cons (dv 0) (da_nil))) (de_one (de_cmp (op_ne' gd) (de_fld (na1 T.c_Rule T.n_Rule_hears) (dv 0)) (de_str) (nomark _)))))
theorem Tx.F_numbers (T : Tx w K mg) : PFn P w K mg base 4 "numbers" 2 F_numbers :=
  pfn_df T.d_numbers (k := 3) (b := f_numbers) sc_numbers (fun _ _ _ _ _ _ us hl => match us, hl with | [_, _], _ => rfl) fun f cdv A outer s H E gd =>
    dss_cons (ds_expr (de_pfn T.F_need_goal (gd.mono (by decide)) (by rfl) (da_cons (dv 1) (da_nil))))
    (dss_cons (ds_set (i := 2) sc_numbers.nd rfl (Or.inl rfl) (de_cmp (op_eq' gd) (de_fld (na1 T.c_Rule T.n_Rule_top) (dv 0)) (de_fld (na1 T.c_Rule T.n_Rule_under) (dv 0)) (nomark _)))
    (dss_cons (ds_if (dt_cmp (op_eq' gd) (dv 1) (de_str) (nomark _)) (dss_cons (ds_if (dt_val (dv 2)) (dss_one (ds_ret (de_tup (da_cons (de_int) (da_cons (de_non) (da_nil)))))) (dss_nil))
    (dss_one (ds_ret (de_if (dt_w (dw_and (dt_val (de_fld (na1 T.c_Rule T.n_Rule_up) (dv 0))) (dw_and1 (dt_cmp op_gt' (de_fld (na1 T.c_Rule T.n_Rule_top) (dv 0)) (de_int) (nomark _))))) (de_tup (da_cons (de_int) (da_cons (de_op op_sub' (de_pfn T.F_least_short (gd.mono (by decide)) (by rfl) (da_cons (dv 0) (da_nil))) (de_int)) (da_nil)))) (de_non))))) (dss_nil))
    (dss_cons (ds_if (dt_w (dw_or (dt_val (dv 2)) (dw_or1 (dt_w (dw_and (dt_cmp (op_eq' gd) (dv 1) (de_str) (nomark _)) (dw_and1 (dt_w (dw_or (dt_cmp (op_eq' gd) (de_fld (na1 T.c_Rule T.n_Rule_top) (dv 0)) (de_int) (nomark _)) (dw_or1 (dt_not (dt_val (de_pfn T.F_is_missable (gd.mono (by decide)) (by rfl) (da_cons (dv 0) (da_nil)))))))))))))) (dss_one (ds_ret (de_non))) (dss_nil))
    (dss_cons (ds_set (i := 3) sc_numbers.nd rfl (Or.inl rfl) (de_pfn T.F_least_short (gd.mono (by decide)) (by rfl) (da_cons (dv 0) (da_nil))))
    (dss_one (ds_ret (de_tup (da_cons (de_if (dt_w (dw_or (dt_cmp (op_eq' gd) (dv 1) (de_str) (nomark _)) (dw_or1 (dt_val (de_fld (na1 T.c_Rule T.n_Rule_up) (dv 0)))))) (dv 3) (de_pfn T.F_up_to (gd.mono (by decide)) (by rfl) (da_cons (de_fld (na1 T.c_Rule T.n_Rule_under) (dv 0)) (da_cons (de_fld (na1 T.c_Rule T.n_Rule_top) (dv 0)) (da_nil))))) (da_cons (de_non) (da_nil))))))))))
theorem Tx.F_happens (T : Tx w K mg) : PFn P w K mg base 5 "happens" 2 F_happens :=
  pfn_df T.d_happens (k := 4) (b := f_happens) sc_happens (fun _ _ _ _ _ _ us hl => match us, hl with | [_, _], _ => rfl) fun f cdv A outer s H E gd =>
    dss_one (ds_ret (de_notN (de_pfn T.F_numbers (gd.mono (by decide)) (by rfl) (da_cons (dv 0) (da_cons (dv 1) (da_nil))))))
theorem Tx.law_fn (T : Tx w K mg) {f : Addr} {fd : FuncData} (F : Fun K "law" "law" s_law f fd) : FnG P w K mg base CX0 8 f fd ["_law_script"] (spP ⟨P, w, K⟩ 1 F_law) := by
  have h := law_df (k := 7) (b := f_law) (P := P) (w := w) (mg := mg) (base := base) F sc_law fun f cdv A outer s H E gd =>
    dss_cons (ds_for PassesOwn.never rfl (di_range1 (by rfl) T.b_range (da_cons (de_callB (call_max2'' rfl) (by rfl) T.b_max (by decide +kernel) (da_cons (de_int) (da_cons (de_callB (call_min2'' rfl) (by rfl) T.b_min (by decide +kernel) (da_cons (de_int) (da_cons (de_callB call_len' (by rfl) T.b_len (by decide +kernel) (da_cons (dv 0) (da_nil))) (da_nil)))) (da_nil)))) (da_nil))) (dg_of (dgn_name (i := 1) sc_law.nd rfl (Or.inl rfl))) (dss_cons (ds_set (i := 2) sc_law.nd rfl (Or.inl rfl) (de_mfn T.F__law_box (gd.mono (by decide)) (by rfl) (da_cons (dv 0) (da_cons (dv 1) (da_nil)))))
    (dss_one (ds_for PassesOwn.never rfl (di_range1 (by rfl) T.b_range (da_cons (de_int) (da_nil))) (dg_of (dgn_name (i := 3) sc_law.nd rfl (Or.inl rfl))) (dss_cons (ds_set (i := 4) sc_law.nd rfl (Or.inl rfl) (de_mfn T.F__law_rule (gd.mono (by decide)) (by rfl) (da_cons (dv 2) (da_cons (de_int) (da_cons (de_int) (da_cons (de_int) (da_nil)))))))
    (dss_cons (ds_par (by rfl) sc_law.nd (i := 5) (j := 6) rfl rfl (by decide) rfl rfl (da_cons (de_pfnK T.F__law_rule_of (gd.mono (by decide)) (by rfl) (da_cons (dv 4) (da_nil))) (da_cons (de_op op_add' (de_int) (de_mfn T.F__law_take (gd.mono (by decide)) (by rfl) (da_cons (dv 2) (da_cons (de_int) (da_nil))))) (da_nil))) (by rfl))
    (dss_cons (ds_set (i := 7) sc_law.nd rfl (Or.inl rfl) (de_mfn T.F__law_begin (gd.mono (by decide)) (by rfl) (da_cons (de_op op_add' (de_int) (de_mfn T.F__law_take (gd.mono (by decide)) (by rfl) (da_cons (dv 2) (da_cons (de_int) (da_nil))))) (da_cons (dv 6) (da_nil)))))
    (dss_one (ds_for PassesOwn.never rfl (di_range1 (by rfl) T.b_range (da_cons (de_int) (da_nil))) (dg_of (dgn_name (i := 8) sc_law.nd rfl (Or.inl rfl))) (dss_one (ds_forA big PassesOwn.never rfl (de_ixA gd (de_mfn T.F__law_go (gd.mono (by decide)) (by rfl) (da_cons (dv 4) (da_cons (dv 7) (da_cons (de_mfn T.F__law_drawn_event (gd.mono (by decide)) (by rfl) (da_cons (dv 2) (da_cons (dv 7) (da_nil)))) (da_nil))))) (de_int)) (dg_of (dgn_name (i := 9) sc_law.nd rfl (Or.inl rfl))) (dss_cons (ds_set (i := 10) sc_law.nd rfl (Or.inl rfl) (de_pfn T.F_numbers (gd.mono (by decide)) (by rfl) (da_cons (dv 5) (da_cons (dv 9) (da_nil)))))
    (dss_cons (ds_if (dt_w (dw_or (dt_isN (dv 10)) (dw_or (dt_not (dt_val (de_pfn T.F_happens (gd.mono (by decide)) (by rfl) (da_cons (dv 5) (da_cons (dv 9) (da_nil)))))) (dw_or1 (dt_cmp op_gt' (de_ixA gd (dv 10) (de_int)) (dv 6) (nomark _)))))) (dss_one (ds_ret (de_bl))) (dss_nil))
    (dss_one (ds_if (dt_w (dw_and (dt_notN (de_ixA gd (dv 10) (de_int))) (dw_and1 (dt_cmp op_lt' (de_ixA gd (dv 10) (de_int)) (dv 6) (nomark _))))) (dss_one (ds_ret (de_bl))) (dss_nil))))))))))))))))
    (dss_one (ds_ret (de_bl)))
  exact h
end
end L4
namespace L4
open PySem PySem.Spec PyProof.Rows L2
open L3 (Fx fx_at SaysW hookW obsWG obsWG_eq Tabs gdef mdef cdef cmB df_of md_of ki_of cmd_of)
theorem tx_of {w : World} {K : PySem.W.Frag} {h : Heap} {mg : Str → Option Value} (X : K.In h) (G : h.Ns mainGlobals mg) (c : SaysW exs fns htabs w K) : Tx w K mg := by
  have s := c.b
  have hx : (fxs.all fun f => f.ok K) = true := s.fx
  exact ⟨He.free_ok X G (fx_at hx 0 (f := .fa (.free "abs"))),
    He.free_ok X G (fx_at hx 1 (f := .fa (.free "all"))),
    He.free_ok X G (fx_at hx 2 (f := .fa (.free "bool"))),
    He.free_ok X G (fx_at hx 3 (f := .fa (.free "enumerate"))),
    He.free_ok X G (fx_at hx 4 (f := .fa (.free "int"))),
    He.free_ok X G (fx_at hx 5 (f := .fa (.free "isinstance"))),
    He.free_ok X G (fx_at hx 6 (f := .fa (.free "len"))),
    He.free_ok X G (fx_at hx 7 (f := .fa (.free "list"))),
    He.free_ok X G (fx_at hx 8 (f := .fa (.free "max"))),
    He.free_ok X G (fx_at hx 9 (f := .fa (.free "min"))),
    He.free_ok X G (fx_at hx 10 (f := .fa (.free "range"))),
    He.free_ok X G (fx_at hx 11 (f := .fa (.free "str"))),
    He.free_ok X G (fx_at hx 12 (f := .fa (.free "tuple"))),
    He.free_ok X G (fx_at hx 13 (f := .fa (.free "zip"))),
    He.cls_ok (fx_at hx 14 (f := .fa (.cls "Rule"))),
    He.noat_ok (fx_at hx 15 (f := .fa (.noat "Rule" "back"))),
    He.noat_ok (fx_at hx 16 (f := .fa (.noat "Rule" "base"))),
    He.noat_ok (fx_at hx 17 (f := .fa (.noat "Rule" "calm"))),
    He.noat_ok (fx_at hx 18 (f := .fa (.noat "Rule" "cap"))),
    He.noat_ok (fx_at hx 19 (f := .fa (.noat "Rule" "hears"))),
    He.noat_ok (fx_at hx 20 (f := .fa (.noat "Rule" "more"))),
    He.noat_ok (fx_at hx 21 (f := .fa (.noat "Rule" "most"))),
    He.noat_ok (fx_at hx 22 (f := .fa (.noat "Rule" "need"))),
    He.noat_ok (fx_at hx 23 (f := .fa (.noat "Rule" "of"))),
    He.noat_ok (fx_at hx 24 (f := .fa (.noat "Rule" "top"))),
    He.noat_ok (fx_at hx 25 (f := .fa (.noat "Rule" "under"))),
    He.noat_ok (fx_at hx 26 (f := .fa (.noat "Rule" "up"))),
    He.glo_ok X G (fx_at hx 27 (f := .fa (.glo "Rule"))),
    He.glo_ok X G (fx_at hx 28 (f := .fa (.glo "BACKS"))),
    fun H => He.tupB_ok (fx_at hx 29 (f := .tup "BACKS" [.str "half", .str "open", .str "trial"])) H,
    He.str_ok X G (fx_at hx 30 (f := .fa (.str "DIGITS" "0123456789"))),
    He.glo_ok X G (fx_at hx 31 (f := .fa (.glo "GOALS"))),
    fun H => He.tupB_ok (fx_at hx 32 (f := .tup "GOALS" [.str "all", .str "kept", .str "swap"])) H,
    He.glo_ok X G (fx_at hx 33 (f := .fa (.glo "HEARD"))),
    fun H => He.tupB_ok (fx_at hx 34 (f := .tup "HEARD" [.str "fault", .str "no", .str "out"])) H,
    He.glo_ok X G (fx_at hx 35 (f := .fa (.glo "ROUNDS"))),
    fun X hK hW => tbl_of hK hW (c.tab 0) (fx_at hx 36 (f := .bo (fun K => tblB K (He.ga K "ROUNDS") tb_ROUNDS))) (fx_at hx 37 (f := .bo (fun K => nsOnly K (He.ga K "ROUNDS") ["down", "up"]))),
    df_of X G (fx_at hx 38 (f := .fa (.glo "_law_box"))) s 0,
    df_of X G (fx_at hx 39 (f := .fa (.glo "_law_take"))) s 1,
    df_of X G (fx_at hx 40 (f := .fa (.glo "_law_pick"))) s 2,
    df_of X G (fx_at hx 41 (f := .fa (.glo "_law_rule"))) s 3,
    df_of X G (fx_at hx 42 (f := .fa (.glo "number_in"))) s 4,
    df_of X G (fx_at hx 43 (f := .fa (.glo "numbers_in"))) s 5,
    df_of X G (fx_at hx 44 (f := .fa (.glo "share_in"))) s 6,
    df_of X G (fx_at hx 45 (f := .fa (.glo "is_word"))) s 7,
    df_of X G (fx_at hx 46 (f := .fa (.glo "words_between"))) s 8,
    df_of X G (fx_at hx 47 (f := .fa (.glo "is_integer"))) s 9,
    df_of X G (fx_at hx 48 (f := .fa (.glo "is_from"))) s 10,
    df_of X G (fx_at hx 49 (f := .fa (.glo "is_number"))) s 11,
    df_of X G (fx_at hx 50 (f := .fa (.glo "wrong_number"))) s 12,
    df_of X G (fx_at hx 51 (f := .fa (.glo "wrong_word"))) s 13,
    ki_of X G (fx_at hx 27 (f := .fa (.glo "Rule"))) (fx_at hx 14 (f := .fa (.cls "Rule"))) (fx_at hx 52 (f := .fa (.mkr "Rule"))) s 14,
    cmd_of (fx_at hx 53 (f := .bo (cmB "Rule" "read"))) s 15,
    df_of X G (fx_at hx 54 (f := .fa (.glo "_law_rule_text"))) s 16,
    df_of X G (fx_at hx 55 (f := .fa (.glo "_law_rule_of"))) s 17,
    df_of X G (fx_at hx 56 (f := .fa (.glo "_law_begin"))) s 18,
    df_of X G (fx_at hx 57 (f := .fa (.glo "_law_outs"))) s 19,
    df_of X G (fx_at hx 58 (f := .fa (.glo "_law_limit"))) s 20,
    df_of X G (fx_at hx 59 (f := .fa (.glo "_law_back"))) s 21,
    df_of X G (fx_at hx 60 (f := .fa (.glo "_law_time"))) s 22,
    df_of X G (fx_at hx 61 (f := .fa (.glo "_law_cap"))) s 23,
    df_of X G (fx_at hx 62 (f := .fa (.glo "_law_out"))) s 24,
    df_of X G (fx_at hx 63 (f := .fa (.glo "_law_faulted"))) s 25,
    df_of X G (fx_at hx 64 (f := .fa (.glo "_law_turn"))) s 26,
    df_of X G (fx_at hx 65 (f := .fa (.glo "_law_word"))) s 27,
    df_of X G (fx_at hx 66 (f := .fa (.glo "_law_go"))) s 28,
    df_of X G (fx_at hx 67 (f := .fa (.glo "_law_can"))) s 29,
    df_of X G (fx_at hx 68 (f := .fa (.glo "_law_drawn_event"))) s 30,
    df_of X G (fx_at hx 69 (f := .fa (.glo "need_goal"))) s 31,
    df_of X G (fx_at hx 70 (f := .fa (.glo "up_to"))) s 32,
    df_of X G (fx_at hx 71 (f := .fa (.glo "least_short"))) s 33,
    md_of (fx_at hx 72 (f := .fa (.meth "Rule" "time"))) s 34,
    df_of X G (fx_at hx 73 (f := .fa (.glo "is_lasting"))) s 35,
    df_of X G (fx_at hx 74 (f := .fa (.glo "is_missable"))) s 36,
    df_of X G (fx_at hx 75 (f := .fa (.glo "numbers"))) s 37,
    df_of X G (fx_at hx 76 (f := .fa (.glo "happens"))) s 38,
    df_of X G (fx_at hx 77 (f := .fa (.glo "law"))) s 39⟩
theorem facts {P : Program} {w : World} {K : PySem.W.Frag} {h : Heap} {mg : Str → Option Value} {f : Addr} (X : K.In h) (G : h.Ns mainGlobals mg) (hfa : mg ("law" : Str) = some (.ref f)) (c : SaysW exs fns htabs w K) :
    ∃ fd : FuncData, (∀ (s : Shared) (v : Value), BindsTo s fd ⟨[v], []⟩ [("_law_script", v)]) ∧ ∀ base : Heap, K.In base → base.Ns mainGlobals mg → FnG P w K mg base CX0 8 f fd ["_law_script"] (spP ⟨P, w, K⟩ 1 F_law) := by
  have T := tx_of X G c
  obtain ⟨f1, fd, F, g⟩ := T.d_law.ex
  have e := hfa.symm.trans g
  cases e
  refine ⟨fd, fun s v => ?_, fun base _ _ => T.law_fn F⟩
  obtain ⟨oc, od, kV, doc, pm, an, cdv, ct, osl, rfl, lk, hcd⟩ := F.ex
  exact .of_eq rfl
end L4
open PySem PySem.W PySem.Calls PyProof.Rows in
set_option maxRecDepth 100000 in
set_option maxHeartbeats 0 in
theorem PySem.Challenge.cw_sitout_k35_goals_that_are_met_holds : PySem.Challenge.rw_sitout_k35_goals_that_are_met.Holds := by
  w_on; o_law
  refine HandSHeadRun.head_any (r := OpenLaw.row PySem.Challenge.rw_sitout_k35_goals_that_are_met) (q := view (OpenLaw.row PySem.Challenge.rw_sitout_k35_goals_that_are_met).prog [52]) (H := L4.hk) (ob := L4.hob) (M := 8000) (loose := L4.hnames) (d := HandSHeadRun.topDef (OpenLaw.row PySem.Challenge.rw_sitout_k35_goals_that_are_met).prog 52) (kwd := []) L4.hob_eq
    (by kernel_rfl) (fun s => by kernel_rfl) L4.hrun (by kernel_rfl) (by kernel_rfl) (by kernel_rfl) (by rfl) (by first | assumption | decide +kernel) (by decide +kernel) ⟨rfl, rfl, rfl, rfl, rfl, by decide +kernel⟩ ?hw ?hc
  case hw => w_witness2
  case hc =>
    refine L4.walkL (l := PySem.Challenge.rw_sitout_k35_goals_that_are_met) (n := 63) (k := 8) (x := "_law_script") (FL := L4.F_law) rfl (by decide) (by kernel_rfl) ⟨rfl, by decide, by decide⟩ L4.law_plain ?F
    intro w mg fa h Y G hmg0
    obtain ⟨K, KX, c⟩ := Y
    have hmg : mg ("law" : PySem.Str) = some (.ref fa) := by
      have e : (HandSHeadRun.topDef (OpenLaw.row PySem.Challenge.rw_sitout_k35_goals_that_are_met).prog 52).name = ("law" : PySem.Str) := by kernel_rfl
      rw [← e]
      exact hmg0
    obtain ⟨fd, hb, hF⟩ := L4.facts (P := (PySem.Challenge.rw_sitout_k35_goals_that_are_met).prog) (w := w) KX G hmg c
    exact ⟨K, fd, KX, hb, hF⟩
#print axioms PySem.Challenge.cw_sitout_k35_goals_that_are_met_holds
