import PyProof.Rows.All
import Wide.All
import OpenK.AllK
import Wide.FinOn
import HandS.Base
import HandS.Lambda
import HandS.ExcInit
import OpenK.KCls
import KE.KExcPX
import KE.KStateDown
import HandS.Words
import HandS.Head0
import HandS.Head1
import HandS.Head2
import HandS.HeadHook1
import HandS.HeadHook2
import HandS.ForMost
import HandS.Wide
import KE.KDictKeyed
import HandS.SortInts
import HandS.RevRange
import HandS.Exc
import HandS.List
import PyProof.SumWalkG
import PyProof.WalkInts
import PyProof.WalksMore
import PyProof.TupleOfSeq
import HandS.Flow
import HandS.Style
import HandS.IsInst
import HandS.Conv
import PyProof.ReprRoads
import KE.SortKeyHeap
import PyProof.MinMaxWalk
import HandS.Text
import HandS.TupAny
import HandS.Ends
import HandS.ExcOwn
import HandS.ExcIs
import HandS.ExcField
import HandS.TryOnly
import HandS.More
import HandS.Zip
import HandS.Iter
import KE.GoesMore
import HandS.Small
import HandS.DictComp
import PyProof.ReprReads
import HandS.WordsDict
import HandS.SortKw
import KE.DataMinMax
import PyProof.Rows.SetFrom
import PyProof.SetRoads
import KE.KDictCopyH
import HandS.Finally
import KE.KEqNest
import PyProof.NeKinds
import HandS.SetFor
import HandS.DictTup
import HandS.SortRule
import KE.SortKeyed
import HandS.ExcValue
import KE.DataMinKey
import KE.DataFind
import KE.KDictDisplayH
import HandS.Deep
import KE.SortData
import KE.SortUse
import KE.KDictPairs
import HandS.EndBits
import HandS.EndTab
import PySem.Challenge.RW_cutboughs_k06_refusals
set_option Elab.async false
set_option linter.all false
set_option maxRecDepth 100000
set_option maxHeartbeats 4000000
namespace VL
open PySem PySem.Spec PyProof.Rows L2
/-- the defs of a program that make lambdas -/
def lamNames : List Str := ["order_by_marks", "grown"]
/-- a def's code object and its table -/
def tabOf (K : PySem.W.Frag) (f : Addr) : Option (Addr × Addr) := match K.lookup f with
  | some ⟨_, _, .func fd, _⟩ => match fd.code with
    | .ref c => match K.lookup c with
      | some ⟨_, _, .fields vs, _⟩ => match (vs[11]? : Option Value) with
        | some (.ref P) => some (c, P)
        | _ => none
      | _ => none
    | _ => none
  | _ => none
/-- the tables of code objects that may grow, with the name of what is made -/
def tabsK (K : PySem.W.Frag) : List (Addr × Str) := lamNames.filterMap fun nm => match PySem.W.nsIn K mainGlobals nm with
  | some (some (.ref f)) => (tabOf K f).map fun p => (p.2, (nm ++ (".<locals>." : Str)) ++ ("<lambda>" : Str))
  | _ => none
def tabA (K : PySem.W.Frag) : List Addr := (tabsK K).map (·.1)
/-- the code objects and their tables -/
def tabsC (K : PySem.W.Frag) : List (Addr × Addr) := lamNames.filterMap fun nm => match PySem.W.nsIn K mainGlobals nm with
  | some (some (.ref f)) => tabOf K f
  | _ => none
theorem tabA_C {K : PySem.W.Frag} {a : Addr} (h : a ∈ tabA K) : ∃ c, (c, a) ∈ tabsC K := by
  obtain ⟨p, hp, rfl⟩ := List.mem_map.mp h
  obtain ⟨nm, hn, e⟩ := List.mem_filterMap.mp hp
  split at e
  · rename_i f hf
    obtain ⟨q, hq, rfl⟩ := Option.map_eq_some_iff.mp e
    exact ⟨q.1, List.mem_filterMap.mpr ⟨nm, hn, by rw [hf]; exact hq⟩⟩
  · cases e
/-- an own class of exceptions with an __init__ -/
def xoG (K : PySem.W.Frag) (C : Addr) : Bool := match K.lookup C with
  | some o => (match o.cls, o.data, o.slots.toList with
    | .type ty, .cls cd, [_, _, _, _, some (.builtin nw), _] => decide (ty = "type") && (decide (nw = "ValueError.__new__") && (!cd.hasDel && (cd.hasDict && (match cd.mro with
      | .ref C1 :: bs => decide (C1 = C) && PySem.HandSPX.refsVE bs
      | _ => false))))
    | _, _, _ => false)
  | none => false
theorem xoG_ok {K : PySem.W.Frag} {C : Addr} (h : xoG K C = true) : ∃ nm q N bs bm sn sub ab col dd k0 k1 k2 k3 k5, K.lookup C = some (excClassObj nm q C N bs bm true sn sub ab col dd k0 k1 k2 k3 k5 "ValueError.__new__") ∧ PySem.HandSPX.refsVE bm = true := by
  unfold xoG at h
  split at h
  · rename_i o e
    split at h
    · rename_i ty cd k0 k1 k2 k3 nw k5 e1 e2 e3
      simp only [Bool.and_eq_true, decide_eq_true_eq, Bool.not_eq_true'] at h
      obtain ⟨rfl, rfl, hd, hh, h⟩ := h
      split at h
      · rename_i C1 bs e4
        simp only [Bool.and_eq_true, decide_eq_true_eq] at h
        obtain ⟨rfl, h⟩ := h
        obtain ⟨cls, dict, data, slots⟩ := o
        obtain ⟨l⟩ := slots
        dsimp only at e1 e2 e3
        subst e1 e2 e3
        obtain ⟨nm, bases, mro, ns, qn, hasd, sn, sub, ab, col, del⟩ := cd
        dsimp only at hd hh e4
        subst hd hh e4
        exact ⟨nm, qn, ns, bases, bs, sn, sub, ab, col, dict, k0, k1, k2, k3, k5, e, h⟩
      · cases h
    · cases h
  · cases h
/-- .. whose own base's __init__ is ValueError's -/
def fcG (K : PySem.W.Frag) (C : Addr) : Bool := match PySem.W.findCls K (.ref C) (.type "type") "__init__" with
  | some (.val (.builtin b)) => decide (b = "ValueError.__init__")
  | _ => false
theorem fcG_ok {K : PySem.W.Frag} {C : Addr} (h : fcG K C = true) : PySem.W.findCls K (.ref C) (.type "type") "__init__" = some (.val (.builtin "ValueError.__init__")) := by
  unfold fcG at h
  split at h
  · rename_i b e
    rw [e, of_decide_eq_true h]
  · cases h
/-- what a namespace names -/
def nsRefs (g : Addr → Option Obj) (a : Addr) : List Addr := match g a with
  | some ⟨_, _, .dict es _, _⟩ => es.toList.flatMap fun e => He.refV e.val
  | _ => []
/-- the code of a function -/
def codeRef (g : Addr → Option Obj) (a : Addr) : List Addr := match g a with
  | some ⟨_, _, .func fd, _⟩ => He.refV fd.code
  | _ => []
/-- the module's objects, the functions' code, the classes' methods and their code: each name once -/
def asP (g : Addr → Option Obj) : List Addr := mainGlobals :: cStatics :: (nsRefs g mainGlobals).flatMap fun a => a :: match g a with
  | some ⟨_, _, .func fd, _⟩ => He.refV fd.code
  | some ⟨_, _, .cls cd, _⟩ => cd.ns :: (nsRefs g cd.ns).flatMap fun f => f :: codeRef g f
  | _ => []
def obsH (fa : List (PySem.W.Frag → Bool)) (fn : List He.DefD) (K : PySem.W.Frag) : He.AlD := ((fa.all fun f => f K) && fn.all fun d => d.ok K, fn.map fun d => He.fnW K d.at_)
/-- an empty table -/
def tab0B (g : Addr → Option Obj) (P : Addr) : Bool := match g P with
  | some ⟨.none, none, .fields vs, sl⟩ => decide (vs.size = 0) && decide (sl.size = 0)
  | _ => false
theorem tab0_ok {g : Addr → Option Obj} {P : Addr} (h : tab0B g P = true) : g P = some (PySem.W.tabObj #[]) := by
  unfold tab0B at h
  split at h
  · rename_i vs sl e
    rw [Bool.and_eq_true, decide_eq_true_eq, decide_eq_true_eq] at h
    rw [e]
    have h1 := Array.eq_empty_of_size_eq_zero h.1
    have h2 := Array.eq_empty_of_size_eq_zero h.2
    subst h1 h2
    rfl
  · cases h
/-- a code object with a table -/
def codeHB (g : Addr → Option Obj) (c P : Addr) : Bool := match g c with
  | some ⟨.type t, _, .fields vs, _⟩ => decide (t = "code") && ((match (vs[11]? : Option Value) with | some (.ref q) => decide (q = P) | _ => false) && ((match vs.getD 11 .none with | .ref q => decide (q = P) | _ => false) && ((match vs.getD 18 .none with | .str _ _ => true | _ => false) && ((match vs.getD 7 .none with | .int _ _ => true | _ => false) && ((match vs.getD 9 .none with | .bool _ => true | _ => false) && ((match vs.getD 10 .none with | .int _ _ => true | _ => false) && decide (c ≠ P)))))))
  | _ => false
theorem codeH_ok {h : Heap} {c P : Addr} (e : codeHB h.get? c P = true) : PySem.W.CodeHd h c P := by
  unfold codeHB at e
  split at e
  · rename_i t d vs sl e0
    simp only [Bool.and_eq_true, decide_eq_true_eq] at e
    obtain ⟨rfl, e1, e2, e3, e4, e5, e6, e7⟩ := e
    split at e1 <;> first | (cases e1; done) | skip
    split at e2 <;> first | (cases e2; done) | skip
    split at e3 <;> first | (cases e3; done) | skip
    split at e4 <;> first | (cases e4; done) | skip
    split at e5 <;> first | (cases e5; done) | skip
    split at e6 <;> first | (cases e6; done) | skip
    rename_i a1 b1 _ a2 b2 _ _ _ b3 _ _ _ b4 _ _ b5 _ _ _ b6
    have e1 := of_decide_eq_true e1
    have e2 := of_decide_eq_true e2
    subst e1
    rw [e2] at b2
    exact ⟨_, vs, _, _, _, _, _, _, _, e0, rfl, rfl, b1, b2, b3, b4, b5, b6, e7⟩
  · cases e
def tabsB (g : Addr → Option Obj) (K : PySem.W.Frag) : Bool := (tabsC K).all fun p => codeHB g p.1 p.2 && (tab0B g p.2 && (K.lookup p.2).isNone)
/-- the tables as they are at the law's begin -/
def TabsH (K : PySem.W.Frag) (h : Heap) : Prop := ∀ p ∈ tabsC K, PySem.W.CodeHd h p.1 p.2 ∧ h.get? p.2 = some (PySem.W.tabObj #[]) ∧ K.lookup p.2 = none
theorem tabsB_ok {h : Heap} {K : PySem.W.Frag} (e : tabsB h.get? K = true) : TabsH K h := fun p hp => by
  have := List.all_eq_true.mp e p hp
  simp only [Bool.and_eq_true] at this
  exact ⟨codeH_ok this.1, tab0_ok this.2.1, by simpa using this.2.2⟩
def obsT (g : Addr → Option Obj) (fa : List (PySem.W.Frag → Bool)) (fn : List He.DefD) (K : PySem.W.Frag) : He.AlD := ((obsH fa fn K).1 && tabsB g K, (obsH fa fn K).2)
theorem obsT_ok {g : Addr → Option Obj} {fa : List (PySem.W.Frag → Bool)} {fn : List He.DefD} {K : PySem.W.Frag} (e : obsT g fa fn K = He.valD fn) : obsH fa fn K = He.valD fn ∧ tabsB g K = true := by
  unfold obsT He.valD at e
  have a := congrArg Prod.fst e
  have b := congrArg Prod.snd e
  simp only [Bool.and_eq_true] at a
  exact ⟨Prod.ext a.1 b, a.2⟩
def hookH (_n : Nat) (fa : List (PySem.W.Frag → Bool)) (fn : List He.DefD) : PySem.W.Hook where
  α := He.AlD
  obs := fun s => obsT s.heap.get? fa fn (He.frG s.heap.get? (asP s.heap.get?))
  val := fun _ => He.valD fn
  says := fun _ h => ∃ K : PySem.W.Frag, K.In h ∧ obsH fa fn K = He.valD fn ∧ TabsH K h
  of := fun _ _ e => ⟨_, He.frG_in, (obsT_ok e).1, tabsB_ok (obsT_ok e).2⟩
  keeps := fun _ _ _ ⟨K, hK, c, t⟩ k => ⟨K, PySem.W.Frag.In.keeps hK k, c, fun p hp => ⟨(t p hp).1.keeps k, k _ _ (t p hp).2.1, (t p hp).2.2⟩⟩
def obG (_n : Nat) (fa : List (PySem.W.Frag → Bool)) (fn : List He.DefD) (s : PySem.W.SharedT) : He.AlD := obsT (HandSHeadRun.getT s) fa fn (He.frG (HandSHeadRun.getT s) (asP (HandSHeadRun.getT s)))
theorem obG_eq {n : Nat} {fa : List (PySem.W.Frag → Bool)} {fn : List He.DefD} (s : PySem.W.SharedT) : obG n fa fn s = (hookH n fa fn).obs s.abs := by
  have e : HandSHeadRun.getT s = s.abs.heap.get? := funext (HandSHeadRun.getT_eq s)
  unfold obG
  rw [e] <;> rfl
section
variable {fa : List (PySem.W.Frag → Bool)} {fn : List He.DefD} {K : PySem.W.Frag}
theorem factH (c : obsH fa fn K = He.valD fn) (i : Nat) {f : PySem.W.Frag → Bool} (h : fa[i]? = some f) : f K = true := by
  have c1 := (Bool.and_eq_true_iff.mp (show ((fa.all fun f => f K) && fn.all fun d => d.ok K) = true from congrArg (fun z : He.AlD => z.1) c)).1
  exact List.all_eq_true.mp c1 f (List.mem_of_getElem? h)
theorem defH (c : obsH fa fn K = He.valD fn) (i : Nat) {d : He.DefD} (h : fn[i]? = some d) : ∃ fd, FunD K d.name d.qual d.params d.body d.scope (d.dvs K) (d.kws K) (He.fAd K d.at_) fd := by
  have c2 := (Bool.and_eq_true_iff.mp (show ((fa.all fun f => f K) && fn.all fun d => d.ok K) = true from congrArg (fun z : He.AlD => z.1) c)).2
  have e : fn.map (fun d => He.fnW K d.at_) = fn.map He.DefD.val := congrArg (fun z : He.AlD => z.2) c
  have e2 : (fn.map fun d => He.fnW K d.at_)[i]? = (fn.map He.DefD.val)[i]? := by rw [e]
  rw [List.getElem?_map, List.getElem?_map, h] at e2
  exact He.DefD.funD (Option.some.inj e2) (List.all_eq_true.mp c2 d (List.mem_of_getElem? h))
end
theorem map_pair {α β γ : Type} {x : Option α} {f : α → β} {g : α → γ} {b : β} {c : γ} (h : x.map f = some b) (k : x.map g = some c) : x.map (fun s => (f s, g s)) = some (b, c) := by
  cases x with
  | none => simp at h
  | some s => simp only [Option.map_some, Option.some.injEq] at h k ⊢; rw [h, k]
theorem ob_cut {n m k : Nat} {x : Option PySem.W.SharedT} {f : List (PySem.W.Frag → Bool)} {d : List He.DefD} (h : x.map (obG n (f.take m) (d.take k)) = some (He.valD (d.take k)))
    (h2 : x.map (obG n (f.drop m) (d.drop k)) = some (He.valD (d.drop k))) : x.map (obG n f d) = some (He.valD d) := by
  cases x with
  | none => simp at h
  | some s =>
    simp only [Option.map_some, Option.some.injEq] at h h2 ⊢
    unfold obG obsT obsH He.valD at *
    have a := congrArg Prod.fst h; have a' := congrArg Prod.fst h2
    have b := congrArg Prod.snd h; have b' := congrArg Prod.snd h2
    simp only [Bool.and_eq_true] at a a' b b'
    apply Prod.ext
    · show (((f.all _) && (d.all _)) && _) = true
      rw [← List.take_append_drop m f, ← List.take_append_drop k d, List.all_append, List.all_append, a.1.1, a.1.2, a'.1.1, a'.1.2, a.2]
      rfl
    · show d.map _ = d.map _
      rw [← List.take_append_drop k d, List.map_append, List.map_append, b, b']
abbrev s_law_pool : Stmt := PySem.Challenge.pw_cutboughs_k06_refusals.main.body.getD 21 (.Pass ⟨0, 0, 0, 0⟩)
abbrev s_law_take : Stmt := PySem.Challenge.pw_cutboughs_k06_refusals.main.body.getD 22 (.Pass ⟨0, 0, 0, 0⟩)
abbrev s_law_made : Stmt := PySem.Challenge.pw_cutboughs_k06_refusals.main.body.getD 23 (.Pass ⟨0, 0, 0, 0⟩)
abbrev s_law_sorts : Stmt := PySem.Challenge.pw_cutboughs_k06_refusals.main.body.getD 24 (.Pass ⟨0, 0, 0, 0⟩)
abbrev s_law : Stmt := PySem.Challenge.pw_cutboughs_k06_refusals.main.body.getD 25 (.Pass ⟨0, 0, 0, 0⟩)
abbrev s_NoPlay_init : Stmt := inClass (PySem.Challenge.pw_cutboughs_k06_refusals.main.body.getD 2 (.Pass ⟨0, 0, 0, 0⟩)) 0
abbrev s_NoText_init : Stmt := inClass (PySem.Challenge.pw_cutboughs_k06_refusals.main.body.getD 3 (.Pass ⟨0, 0, 0, 0⟩)) 0
def dH : List He.DefD := [⟨⟨"_law_pool", none⟩, "_law_pool", "_law_pool", defArgs s_law_pool, defBody s_law_pool, defScope s_law_pool, [], []⟩, ⟨⟨"_law_take", none⟩, "_law_take", "_law_take", defArgs s_law_take, defBody s_law_take, defScope s_law_take, [], []⟩, ⟨⟨"_law_made", none⟩, "_law_made", "_law_made", defArgs s_law_made, defBody s_law_made, defScope s_law_made, [], []⟩, ⟨⟨"_law_sorts", none⟩, "_law_sorts", "_law_sorts", defArgs s_law_sorts, defBody s_law_sorts, defScope s_law_sorts, [], []⟩, ⟨⟨"law", none⟩, "law", "law", defArgs s_law, defBody s_law, defScope s_law, [], []⟩, ⟨⟨"NoPlay", some "__init__"⟩, "__init__", "NoPlay.__init__", defArgs s_NoPlay_init, defBody s_NoPlay_init, defScope s_NoPlay_init, [], []⟩, ⟨⟨"NoText", some "__init__"⟩, "__init__", "NoText.__init__", defArgs s_NoText_init, defBody s_NoText_init, defScope s_NoText_init, [], []⟩]
def fH : List (PySem.W.Frag → Bool) := [fun K => decide (PySem.W.nsIn K mainGlobals "NoWay" = some (some (.ref (He.ga K "NoWay")))),
  fun K => decide (PySem.W.nsIn K mainGlobals "NoPlay" = some (some (.ref (He.ga K "NoPlay")))),
  fun K => decide (PySem.W.nsIn K mainGlobals "NoText" = some (some (.ref (He.ga K "NoText")))),
  fun K => decide (PySem.W.nsIn K mainGlobals "NoRule" = some (some (.ref (He.ga K "NoRule")))),
  fun K => decide (PySem.W.nsIn K mainGlobals "NoOrder" = some (some (.ref (He.ga K "NoOrder")))),
  fun K => decide (PySem.W.nsIn K mainGlobals "NoEnds" = some (some (.ref (He.ga K "NoEnds")))),
  fun K => decide (PySem.W.nsIn K mainGlobals "NoTree" = some (some (.ref (He.ga K "NoTree")))),
  fun K => decide (PySem.W.nsIn K mainGlobals "NoWindow" = some (some (.ref (He.ga K "NoWindow")))),
  fun K => decide (PySem.W.nsIn K mainGlobals "TooMany" = some (some (.ref (He.ga K "TooMany")))),
  fun K => decide (PySem.W.nsIn K mainGlobals "NoSize" = some (some (.ref (He.ga K "NoSize")))),
  fun K => decide (PySem.W.nsIn K mainGlobals "NoStand" = some (some (.ref (He.ga K "NoStand")))),
  fun K => decide (PySem.W.nsIn K mainGlobals "NoNumber" = some (some (.ref (He.ga K "NoNumber")))),
  fun K => decide (PySem.W.nsIn K mainGlobals "NoEnd" = some (some (.ref (He.ga K "NoEnd")))),
  fun K => decide (PySem.W.nsIn K mainGlobals "NoDepth" = some (some (.ref (He.ga K "NoDepth")))),
  fun K => decide (PySem.W.nsIn K mainGlobals "NoWorth" = some (some (.ref (He.ga K "NoWorth")))),
  fun K => decide (PySem.W.nsIn K mainGlobals "NoChange" = some (some (.ref (He.ga K "NoChange")))),
  fun K => decide (PySem.W.nsIn K mainGlobals "NoRow" = some (some (.ref (He.ga K "NoRow")))),
  fun K => decide (PySem.W.nsIn K mainGlobals "NoName" = some (some (.ref (He.ga K "NoName")))),
  fun K => decide (PySem.W.nsIn K mainGlobals "BoughError" = some (some (.ref (He.ga K "BoughError")))),
  fun K => decide (PySem.W.specialIn K (.builtin "object.__class__") "__get__" = some (some (.builtin "getset_descriptor.__get__"))),
  fun K => decide (PySem.W.takesIn K (.builtin "object.__class__") = some true),
  fun K => decide (PySem.W.keepIn K (.ref (He.ga K "NoWay")) = true),
  fun K => decide (PySem.W.findIn K (.ref (He.ga K "NoWay")) "__getattribute__" = some (some (.builtin "BaseException.__getattribute__"))),
  fun K => decide (PySem.W.findIn K (.ref (He.ga K "NoWay")) "__getattr__" = some none),
  fun K => decide (PySem.W.subIn K (.ref (He.ga K "NoWay")) (.type "BaseException") = some true),
  fun K => decide (PySem.W.hasDictIn K (He.ga K "NoWay") = true),
  fun K => decide (PySem.W.findIn K (.ref (He.ga K "NoWay")) "__class__" = some (some (.builtin "object.__class__"))),
  fun K => decide (PySem.W.mroIn K (He.ga K "NoWay") (.type "object") = some true),
  fun K => decide (PySem.W.typeIn K (.ref (He.ga K "NoWay")) = some (.type "type")),
  fun K => decide (PySem.W.excIn K (He.ga K "NoWay") [.type "ValueError", .type "Exception", .type "BaseException", .type "object"] "ValueError.__new__" = true),
  fun K => decide (PySem.W.keepIn K (.ref (He.ga K "NoRule")) = true),
  fun K => decide (PySem.W.findIn K (.ref (He.ga K "NoRule")) "__getattribute__" = some (some (.builtin "BaseException.__getattribute__"))),
  fun K => decide (PySem.W.findIn K (.ref (He.ga K "NoRule")) "__getattr__" = some none),
  fun K => decide (PySem.W.subIn K (.ref (He.ga K "NoRule")) (.type "BaseException") = some true),
  fun K => decide (PySem.W.hasDictIn K (He.ga K "NoRule") = true),
  fun K => decide (PySem.W.findIn K (.ref (He.ga K "NoRule")) "__class__" = some (some (.builtin "object.__class__"))),
  fun K => decide (PySem.W.mroIn K (He.ga K "NoRule") (.type "object") = some true),
  fun K => decide (PySem.W.typeIn K (.ref (He.ga K "NoRule")) = some (.type "type")),
  fun K => decide (PySem.W.excIn K (He.ga K "NoRule") [.type "ValueError", .type "Exception", .type "BaseException", .type "object"] "ValueError.__new__" = true),
  fun K => decide (PySem.W.keepIn K (.ref (He.ga K "NoOrder")) = true),
  fun K => decide (PySem.W.findIn K (.ref (He.ga K "NoOrder")) "__getattribute__" = some (some (.builtin "BaseException.__getattribute__"))),
  fun K => decide (PySem.W.findIn K (.ref (He.ga K "NoOrder")) "__getattr__" = some none),
  fun K => decide (PySem.W.subIn K (.ref (He.ga K "NoOrder")) (.type "BaseException") = some true),
  fun K => decide (PySem.W.hasDictIn K (He.ga K "NoOrder") = true),
  fun K => decide (PySem.W.findIn K (.ref (He.ga K "NoOrder")) "__class__" = some (some (.builtin "object.__class__"))),
  fun K => decide (PySem.W.mroIn K (He.ga K "NoOrder") (.type "object") = some true),
  fun K => decide (PySem.W.typeIn K (.ref (He.ga K "NoOrder")) = some (.type "type")),
  fun K => decide (PySem.W.excIn K (He.ga K "NoOrder") [.type "ValueError", .type "Exception", .type "BaseException", .type "object"] "ValueError.__new__" = true),
  fun K => decide (PySem.W.keepIn K (.ref (He.ga K "NoEnds")) = true),
  fun K => decide (PySem.W.findIn K (.ref (He.ga K "NoEnds")) "__getattribute__" = some (some (.builtin "BaseException.__getattribute__"))),
  fun K => decide (PySem.W.findIn K (.ref (He.ga K "NoEnds")) "__getattr__" = some none),
  fun K => decide (PySem.W.subIn K (.ref (He.ga K "NoEnds")) (.type "BaseException") = some true),
  fun K => decide (PySem.W.hasDictIn K (He.ga K "NoEnds") = true),
  fun K => decide (PySem.W.findIn K (.ref (He.ga K "NoEnds")) "__class__" = some (some (.builtin "object.__class__"))),
  fun K => decide (PySem.W.mroIn K (He.ga K "NoEnds") (.type "object") = some true),
  fun K => decide (PySem.W.typeIn K (.ref (He.ga K "NoEnds")) = some (.type "type")),
  fun K => decide (PySem.W.excIn K (He.ga K "NoEnds") [.type "ValueError", .type "Exception", .type "BaseException", .type "object"] "ValueError.__new__" = true),
  fun K => decide (PySem.W.keepIn K (.ref (He.ga K "NoTree")) = true),
  fun K => decide (PySem.W.findIn K (.ref (He.ga K "NoTree")) "__getattribute__" = some (some (.builtin "BaseException.__getattribute__"))),
  fun K => decide (PySem.W.findIn K (.ref (He.ga K "NoTree")) "__getattr__" = some none),
  fun K => decide (PySem.W.subIn K (.ref (He.ga K "NoTree")) (.type "BaseException") = some true),
  fun K => decide (PySem.W.hasDictIn K (He.ga K "NoTree") = true),
  fun K => decide (PySem.W.findIn K (.ref (He.ga K "NoTree")) "__class__" = some (some (.builtin "object.__class__"))),
  fun K => decide (PySem.W.mroIn K (He.ga K "NoTree") (.type "object") = some true),
  fun K => decide (PySem.W.typeIn K (.ref (He.ga K "NoTree")) = some (.type "type")),
  fun K => decide (PySem.W.excIn K (He.ga K "NoTree") [.type "ValueError", .type "Exception", .type "BaseException", .type "object"] "ValueError.__new__" = true),
  fun K => decide (PySem.W.keepIn K (.ref (He.ga K "NoWindow")) = true),
  fun K => decide (PySem.W.findIn K (.ref (He.ga K "NoWindow")) "__getattribute__" = some (some (.builtin "BaseException.__getattribute__"))),
  fun K => decide (PySem.W.findIn K (.ref (He.ga K "NoWindow")) "__getattr__" = some none),
  fun K => decide (PySem.W.subIn K (.ref (He.ga K "NoWindow")) (.type "BaseException") = some true),
  fun K => decide (PySem.W.hasDictIn K (He.ga K "NoWindow") = true),
  fun K => decide (PySem.W.findIn K (.ref (He.ga K "NoWindow")) "__class__" = some (some (.builtin "object.__class__"))),
  fun K => decide (PySem.W.mroIn K (He.ga K "NoWindow") (.type "object") = some true),
  fun K => decide (PySem.W.typeIn K (.ref (He.ga K "NoWindow")) = some (.type "type")),
  fun K => decide (PySem.W.excIn K (He.ga K "NoWindow") [.type "ValueError", .type "Exception", .type "BaseException", .type "object"] "ValueError.__new__" = true),
  fun K => decide (PySem.W.keepIn K (.ref (He.ga K "TooMany")) = true),
  fun K => decide (PySem.W.findIn K (.ref (He.ga K "TooMany")) "__getattribute__" = some (some (.builtin "BaseException.__getattribute__"))),
  fun K => decide (PySem.W.findIn K (.ref (He.ga K "TooMany")) "__getattr__" = some none),
  fun K => decide (PySem.W.subIn K (.ref (He.ga K "TooMany")) (.type "BaseException") = some true),
  fun K => decide (PySem.W.hasDictIn K (He.ga K "TooMany") = true),
  fun K => decide (PySem.W.findIn K (.ref (He.ga K "TooMany")) "__class__" = some (some (.builtin "object.__class__"))),
  fun K => decide (PySem.W.mroIn K (He.ga K "TooMany") (.type "object") = some true),
  fun K => decide (PySem.W.typeIn K (.ref (He.ga K "TooMany")) = some (.type "type")),
  fun K => decide (PySem.W.excIn K (He.ga K "TooMany") [.type "ValueError", .type "Exception", .type "BaseException", .type "object"] "ValueError.__new__" = true),
  fun K => decide (PySem.W.keepIn K (.ref (He.ga K "NoSize")) = true),
  fun K => decide (PySem.W.findIn K (.ref (He.ga K "NoSize")) "__getattribute__" = some (some (.builtin "BaseException.__getattribute__"))),
  fun K => decide (PySem.W.findIn K (.ref (He.ga K "NoSize")) "__getattr__" = some none),
  fun K => decide (PySem.W.subIn K (.ref (He.ga K "NoSize")) (.type "BaseException") = some true),
  fun K => decide (PySem.W.hasDictIn K (He.ga K "NoSize") = true),
  fun K => decide (PySem.W.findIn K (.ref (He.ga K "NoSize")) "__class__" = some (some (.builtin "object.__class__"))),
  fun K => decide (PySem.W.mroIn K (He.ga K "NoSize") (.type "object") = some true),
  fun K => decide (PySem.W.typeIn K (.ref (He.ga K "NoSize")) = some (.type "type")),
  fun K => decide (PySem.W.excIn K (He.ga K "NoSize") [.type "ValueError", .type "Exception", .type "BaseException", .type "object"] "ValueError.__new__" = true),
  fun K => decide (PySem.W.keepIn K (.ref (He.ga K "NoStand")) = true),
  fun K => decide (PySem.W.findIn K (.ref (He.ga K "NoStand")) "__getattribute__" = some (some (.builtin "BaseException.__getattribute__"))),
  fun K => decide (PySem.W.findIn K (.ref (He.ga K "NoStand")) "__getattr__" = some none),
  fun K => decide (PySem.W.subIn K (.ref (He.ga K "NoStand")) (.type "BaseException") = some true),
  fun K => decide (PySem.W.hasDictIn K (He.ga K "NoStand") = true),
  fun K => decide (PySem.W.findIn K (.ref (He.ga K "NoStand")) "__class__" = some (some (.builtin "object.__class__"))),
  fun K => decide (PySem.W.mroIn K (He.ga K "NoStand") (.type "object") = some true),
  fun K => decide (PySem.W.typeIn K (.ref (He.ga K "NoStand")) = some (.type "type")),
  fun K => decide (PySem.W.excIn K (He.ga K "NoStand") [.type "ValueError", .type "Exception", .type "BaseException", .type "object"] "ValueError.__new__" = true),
  fun K => decide (PySem.W.keepIn K (.ref (He.ga K "NoNumber")) = true),
  fun K => decide (PySem.W.findIn K (.ref (He.ga K "NoNumber")) "__getattribute__" = some (some (.builtin "BaseException.__getattribute__"))),
  fun K => decide (PySem.W.findIn K (.ref (He.ga K "NoNumber")) "__getattr__" = some none),
  fun K => decide (PySem.W.subIn K (.ref (He.ga K "NoNumber")) (.type "BaseException") = some true),
  fun K => decide (PySem.W.hasDictIn K (He.ga K "NoNumber") = true),
  fun K => decide (PySem.W.findIn K (.ref (He.ga K "NoNumber")) "__class__" = some (some (.builtin "object.__class__"))),
  fun K => decide (PySem.W.mroIn K (He.ga K "NoNumber") (.type "object") = some true),
  fun K => decide (PySem.W.typeIn K (.ref (He.ga K "NoNumber")) = some (.type "type")),
  fun K => decide (PySem.W.excIn K (He.ga K "NoNumber") [.type "ValueError", .type "Exception", .type "BaseException", .type "object"] "ValueError.__new__" = true),
  fun K => decide (PySem.W.keepIn K (.ref (He.ga K "NoEnd")) = true),
  fun K => decide (PySem.W.findIn K (.ref (He.ga K "NoEnd")) "__getattribute__" = some (some (.builtin "BaseException.__getattribute__"))),
  fun K => decide (PySem.W.findIn K (.ref (He.ga K "NoEnd")) "__getattr__" = some none),
  fun K => decide (PySem.W.subIn K (.ref (He.ga K "NoEnd")) (.type "BaseException") = some true),
  fun K => decide (PySem.W.hasDictIn K (He.ga K "NoEnd") = true),
  fun K => decide (PySem.W.findIn K (.ref (He.ga K "NoEnd")) "__class__" = some (some (.builtin "object.__class__"))),
  fun K => decide (PySem.W.mroIn K (He.ga K "NoEnd") (.type "object") = some true),
  fun K => decide (PySem.W.typeIn K (.ref (He.ga K "NoEnd")) = some (.type "type")),
  fun K => decide (PySem.W.excIn K (He.ga K "NoEnd") [.type "ValueError", .type "Exception", .type "BaseException", .type "object"] "ValueError.__new__" = true),
  fun K => decide (PySem.W.keepIn K (.ref (He.ga K "NoDepth")) = true),
  fun K => decide (PySem.W.findIn K (.ref (He.ga K "NoDepth")) "__getattribute__" = some (some (.builtin "BaseException.__getattribute__"))),
  fun K => decide (PySem.W.findIn K (.ref (He.ga K "NoDepth")) "__getattr__" = some none),
  fun K => decide (PySem.W.subIn K (.ref (He.ga K "NoDepth")) (.type "BaseException") = some true),
  fun K => decide (PySem.W.hasDictIn K (He.ga K "NoDepth") = true),
  fun K => decide (PySem.W.findIn K (.ref (He.ga K "NoDepth")) "__class__" = some (some (.builtin "object.__class__"))),
  fun K => decide (PySem.W.mroIn K (He.ga K "NoDepth") (.type "object") = some true),
  fun K => decide (PySem.W.typeIn K (.ref (He.ga K "NoDepth")) = some (.type "type")),
  fun K => decide (PySem.W.excIn K (He.ga K "NoDepth") [.type "ValueError", .type "Exception", .type "BaseException", .type "object"] "ValueError.__new__" = true),
  fun K => decide (PySem.W.keepIn K (.ref (He.ga K "NoWorth")) = true),
  fun K => decide (PySem.W.findIn K (.ref (He.ga K "NoWorth")) "__getattribute__" = some (some (.builtin "BaseException.__getattribute__"))),
  fun K => decide (PySem.W.findIn K (.ref (He.ga K "NoWorth")) "__getattr__" = some none),
  fun K => decide (PySem.W.subIn K (.ref (He.ga K "NoWorth")) (.type "BaseException") = some true),
  fun K => decide (PySem.W.hasDictIn K (He.ga K "NoWorth") = true),
  fun K => decide (PySem.W.findIn K (.ref (He.ga K "NoWorth")) "__class__" = some (some (.builtin "object.__class__"))),
  fun K => decide (PySem.W.mroIn K (He.ga K "NoWorth") (.type "object") = some true),
  fun K => decide (PySem.W.typeIn K (.ref (He.ga K "NoWorth")) = some (.type "type")),
  fun K => decide (PySem.W.excIn K (He.ga K "NoWorth") [.type "ValueError", .type "Exception", .type "BaseException", .type "object"] "ValueError.__new__" = true),
  fun K => decide (PySem.W.keepIn K (.ref (He.ga K "NoChange")) = true),
  fun K => decide (PySem.W.findIn K (.ref (He.ga K "NoChange")) "__getattribute__" = some (some (.builtin "BaseException.__getattribute__"))),
  fun K => decide (PySem.W.findIn K (.ref (He.ga K "NoChange")) "__getattr__" = some none),
  fun K => decide (PySem.W.subIn K (.ref (He.ga K "NoChange")) (.type "BaseException") = some true),
  fun K => decide (PySem.W.hasDictIn K (He.ga K "NoChange") = true),
  fun K => decide (PySem.W.findIn K (.ref (He.ga K "NoChange")) "__class__" = some (some (.builtin "object.__class__"))),
  fun K => decide (PySem.W.mroIn K (He.ga K "NoChange") (.type "object") = some true),
  fun K => decide (PySem.W.typeIn K (.ref (He.ga K "NoChange")) = some (.type "type")),
  fun K => decide (PySem.W.excIn K (He.ga K "NoChange") [.type "ValueError", .type "Exception", .type "BaseException", .type "object"] "ValueError.__new__" = true),
  fun K => decide (PySem.W.keepIn K (.ref (He.ga K "NoRow")) = true),
  fun K => decide (PySem.W.findIn K (.ref (He.ga K "NoRow")) "__getattribute__" = some (some (.builtin "BaseException.__getattribute__"))),
  fun K => decide (PySem.W.findIn K (.ref (He.ga K "NoRow")) "__getattr__" = some none),
  fun K => decide (PySem.W.subIn K (.ref (He.ga K "NoRow")) (.type "BaseException") = some true),
  fun K => decide (PySem.W.hasDictIn K (He.ga K "NoRow") = true),
  fun K => decide (PySem.W.findIn K (.ref (He.ga K "NoRow")) "__class__" = some (some (.builtin "object.__class__"))),
  fun K => decide (PySem.W.mroIn K (He.ga K "NoRow") (.type "object") = some true),
  fun K => decide (PySem.W.typeIn K (.ref (He.ga K "NoRow")) = some (.type "type")),
  fun K => decide (PySem.W.excIn K (He.ga K "NoRow") [.type "ValueError", .type "Exception", .type "BaseException", .type "object"] "ValueError.__new__" = true),
  fun K => decide (PySem.W.keepIn K (.ref (He.ga K "NoName")) = true),
  fun K => decide (PySem.W.findIn K (.ref (He.ga K "NoName")) "__getattribute__" = some (some (.builtin "BaseException.__getattribute__"))),
  fun K => decide (PySem.W.findIn K (.ref (He.ga K "NoName")) "__getattr__" = some none),
  fun K => decide (PySem.W.subIn K (.ref (He.ga K "NoName")) (.type "BaseException") = some true),
  fun K => decide (PySem.W.hasDictIn K (He.ga K "NoName") = true),
  fun K => decide (PySem.W.findIn K (.ref (He.ga K "NoName")) "__class__" = some (some (.builtin "object.__class__"))),
  fun K => decide (PySem.W.mroIn K (He.ga K "NoName") (.type "object") = some true),
  fun K => decide (PySem.W.typeIn K (.ref (He.ga K "NoName")) = some (.type "type")),
  fun K => decide (PySem.W.excIn K (He.ga K "NoName") [.type "ValueError", .type "Exception", .type "BaseException", .type "object"] "ValueError.__new__" = true),
  fun K => decide (PySem.W.keepIn K (.ref (He.ga K "NoPlay")) = true),
  fun K => decide (PySem.W.findIn K (.ref (He.ga K "NoPlay")) "__getattribute__" = some (some (.builtin "BaseException.__getattribute__"))),
  fun K => decide (PySem.W.findIn K (.ref (He.ga K "NoPlay")) "__getattr__" = some none),
  fun K => decide (PySem.W.subIn K (.ref (He.ga K "NoPlay")) (.type "BaseException") = some true),
  fun K => decide (PySem.W.hasDictIn K (He.ga K "NoPlay") = true),
  fun K => decide (PySem.W.findIn K (.ref (He.ga K "NoPlay")) "__class__" = some (some (.builtin "object.__class__"))),
  fun K => decide (PySem.W.mroIn K (He.ga K "NoPlay") (.type "object") = some true),
  fun K => decide (PySem.W.typeIn K (.ref (He.ga K "NoPlay")) = some (.type "type")),
  fun K => decide (PySem.W.findIn K (.ref (He.ga K "NoPlay")) "__setattr__" = some (some (.builtin "object.__setattr__"))),
  fun K => decide (xoG K (He.ga K "NoPlay") = true),
  fun K => decide (PySem.W.findIn K (.ref (He.ga K "NoPlay")) "place" = some none),
  fun K => decide (PySem.W.keepIn K (.ref (He.ga K "NoText")) = true),
  fun K => decide (PySem.W.findIn K (.ref (He.ga K "NoText")) "__getattribute__" = some (some (.builtin "BaseException.__getattribute__"))),
  fun K => decide (PySem.W.findIn K (.ref (He.ga K "NoText")) "__getattr__" = some none),
  fun K => decide (PySem.W.subIn K (.ref (He.ga K "NoText")) (.type "BaseException") = some true),
  fun K => decide (PySem.W.hasDictIn K (He.ga K "NoText") = true),
  fun K => decide (PySem.W.findIn K (.ref (He.ga K "NoText")) "__class__" = some (some (.builtin "object.__class__"))),
  fun K => decide (PySem.W.mroIn K (He.ga K "NoText") (.type "object") = some true),
  fun K => decide (PySem.W.typeIn K (.ref (He.ga K "NoText")) = some (.type "type")),
  fun K => decide (PySem.W.findIn K (.ref (He.ga K "NoText")) "__setattr__" = some (some (.builtin "object.__setattr__"))),
  fun K => decide (xoG K (He.ga K "NoText") = true),
  fun K => decide (PySem.W.findIn K (.ref (He.ga K "NoText")) "row" = some none),
  fun K => decide (PySem.W.readsIn K (He.ga K "BoughError") (.type "type") = true),
  fun K => decide (PySem.W.specialIn K (.ref (He.ga K "BoughError")) "__getattribute__" = some (some (.builtin "type.__getattribute__"))),
  fun K => decide (fcG K (He.ga K "BoughError") = true),
  fun K => decide (PySem.W.isClsIn K (He.ga K "BoughError") = true),
  fun K => decide (PySem.W.typeIn K (.ref (He.ga K "BoughError")) = some (.type "type")),
  fun K => decide (PySem.W.subIn K (.ref (He.ga K "BoughError")) (.type "BaseException") = some true),
  fun K => decide (PySem.W.subIn K (.ref (He.ga K "BoughError")) (.ref (He.ga K "BoughError")) = some true),
  fun K => decide (PySem.W.isClsIn K (He.ga K "NoChange") = true),
  fun K => decide (PySem.W.typeIn K (.ref (He.ga K "NoChange")) = some (.type "type")),
  fun K => decide (PySem.W.subIn K (.ref (He.ga K "NoChange")) (.type "BaseException") = some true),
  fun K => decide (PySem.W.subIn K (.ref (He.ga K "NoChange")) (.ref (He.ga K "NoChange")) = some true),
  fun K => decide (PySem.W.isClsIn K (He.ga K "NoDepth") = true),
  fun K => decide (PySem.W.typeIn K (.ref (He.ga K "NoDepth")) = some (.type "type")),
  fun K => decide (PySem.W.subIn K (.ref (He.ga K "NoDepth")) (.type "BaseException") = some true),
  fun K => decide (PySem.W.subIn K (.ref (He.ga K "NoDepth")) (.ref (He.ga K "NoDepth")) = some true),
  fun K => decide (PySem.W.isClsIn K (He.ga K "NoEnd") = true),
  fun K => decide (PySem.W.typeIn K (.ref (He.ga K "NoEnd")) = some (.type "type")),
  fun K => decide (PySem.W.subIn K (.ref (He.ga K "NoEnd")) (.type "BaseException") = some true),
  fun K => decide (PySem.W.subIn K (.ref (He.ga K "NoEnd")) (.ref (He.ga K "NoEnd")) = some true),
  fun K => decide (PySem.W.isClsIn K (He.ga K "NoEnds") = true),
  fun K => decide (PySem.W.typeIn K (.ref (He.ga K "NoEnds")) = some (.type "type")),
  fun K => decide (PySem.W.subIn K (.ref (He.ga K "NoEnds")) (.type "BaseException") = some true),
  fun K => decide (PySem.W.subIn K (.ref (He.ga K "NoEnds")) (.ref (He.ga K "NoEnds")) = some true),
  fun K => decide (PySem.W.isClsIn K (He.ga K "NoName") = true),
  fun K => decide (PySem.W.typeIn K (.ref (He.ga K "NoName")) = some (.type "type")),
  fun K => decide (PySem.W.subIn K (.ref (He.ga K "NoName")) (.type "BaseException") = some true),
  fun K => decide (PySem.W.subIn K (.ref (He.ga K "NoName")) (.ref (He.ga K "NoName")) = some true),
  fun K => decide (PySem.W.isClsIn K (He.ga K "NoNumber") = true),
  fun K => decide (PySem.W.typeIn K (.ref (He.ga K "NoNumber")) = some (.type "type")),
  fun K => decide (PySem.W.subIn K (.ref (He.ga K "NoNumber")) (.type "BaseException") = some true),
  fun K => decide (PySem.W.subIn K (.ref (He.ga K "NoNumber")) (.ref (He.ga K "NoNumber")) = some true),
  fun K => decide (PySem.W.isClsIn K (He.ga K "NoOrder") = true),
  fun K => decide (PySem.W.typeIn K (.ref (He.ga K "NoOrder")) = some (.type "type")),
  fun K => decide (PySem.W.subIn K (.ref (He.ga K "NoOrder")) (.type "BaseException") = some true),
  fun K => decide (PySem.W.subIn K (.ref (He.ga K "NoOrder")) (.ref (He.ga K "NoOrder")) = some true),
  fun K => decide (PySem.W.isClsIn K (He.ga K "NoPlay") = true),
  fun K => decide (PySem.W.typeIn K (.ref (He.ga K "NoPlay")) = some (.type "type")),
  fun K => decide (PySem.W.subIn K (.ref (He.ga K "NoPlay")) (.type "BaseException") = some true),
  fun K => decide (PySem.W.subIn K (.ref (He.ga K "NoPlay")) (.ref (He.ga K "NoPlay")) = some true),
  fun K => decide (PySem.W.isClsIn K (He.ga K "NoRow") = true),
  fun K => decide (PySem.W.typeIn K (.ref (He.ga K "NoRow")) = some (.type "type")),
  fun K => decide (PySem.W.subIn K (.ref (He.ga K "NoRow")) (.type "BaseException") = some true),
  fun K => decide (PySem.W.subIn K (.ref (He.ga K "NoRow")) (.ref (He.ga K "NoRow")) = some true),
  fun K => decide (PySem.W.isClsIn K (He.ga K "NoRule") = true),
  fun K => decide (PySem.W.typeIn K (.ref (He.ga K "NoRule")) = some (.type "type")),
  fun K => decide (PySem.W.subIn K (.ref (He.ga K "NoRule")) (.type "BaseException") = some true),
  fun K => decide (PySem.W.subIn K (.ref (He.ga K "NoRule")) (.ref (He.ga K "NoRule")) = some true),
  fun K => decide (PySem.W.isClsIn K (He.ga K "NoSize") = true),
  fun K => decide (PySem.W.typeIn K (.ref (He.ga K "NoSize")) = some (.type "type")),
  fun K => decide (PySem.W.subIn K (.ref (He.ga K "NoSize")) (.type "BaseException") = some true),
  fun K => decide (PySem.W.subIn K (.ref (He.ga K "NoSize")) (.ref (He.ga K "NoSize")) = some true),
  fun K => decide (PySem.W.isClsIn K (He.ga K "NoStand") = true),
  fun K => decide (PySem.W.typeIn K (.ref (He.ga K "NoStand")) = some (.type "type")),
  fun K => decide (PySem.W.subIn K (.ref (He.ga K "NoStand")) (.type "BaseException") = some true),
  fun K => decide (PySem.W.subIn K (.ref (He.ga K "NoStand")) (.ref (He.ga K "NoStand")) = some true),
  fun K => decide (PySem.W.isClsIn K (He.ga K "NoText") = true),
  fun K => decide (PySem.W.typeIn K (.ref (He.ga K "NoText")) = some (.type "type")),
  fun K => decide (PySem.W.subIn K (.ref (He.ga K "NoText")) (.type "BaseException") = some true),
  fun K => decide (PySem.W.subIn K (.ref (He.ga K "NoText")) (.ref (He.ga K "NoText")) = some true),
  fun K => decide (PySem.W.isClsIn K (He.ga K "NoTree") = true),
  fun K => decide (PySem.W.typeIn K (.ref (He.ga K "NoTree")) = some (.type "type")),
  fun K => decide (PySem.W.subIn K (.ref (He.ga K "NoTree")) (.type "BaseException") = some true),
  fun K => decide (PySem.W.subIn K (.ref (He.ga K "NoTree")) (.ref (He.ga K "NoTree")) = some true),
  fun K => decide (PySem.W.isClsIn K (He.ga K "NoWay") = true),
  fun K => decide (PySem.W.typeIn K (.ref (He.ga K "NoWay")) = some (.type "type")),
  fun K => decide (PySem.W.subIn K (.ref (He.ga K "NoWay")) (.type "BaseException") = some true),
  fun K => decide (PySem.W.subIn K (.ref (He.ga K "NoWay")) (.ref (He.ga K "NoWay")) = some true),
  fun K => decide (PySem.W.isClsIn K (He.ga K "NoWindow") = true),
  fun K => decide (PySem.W.typeIn K (.ref (He.ga K "NoWindow")) = some (.type "type")),
  fun K => decide (PySem.W.subIn K (.ref (He.ga K "NoWindow")) (.type "BaseException") = some true),
  fun K => decide (PySem.W.subIn K (.ref (He.ga K "NoWindow")) (.ref (He.ga K "NoWindow")) = some true),
  fun K => decide (PySem.W.isClsIn K (He.ga K "NoWorth") = true),
  fun K => decide (PySem.W.typeIn K (.ref (He.ga K "NoWorth")) = some (.type "type")),
  fun K => decide (PySem.W.subIn K (.ref (He.ga K "NoWorth")) (.type "BaseException") = some true),
  fun K => decide (PySem.W.subIn K (.ref (He.ga K "NoWorth")) (.ref (He.ga K "NoWorth")) = some true),
  fun K => decide (PySem.W.isClsIn K (He.ga K "TooMany") = true),
  fun K => decide (PySem.W.typeIn K (.ref (He.ga K "TooMany")) = some (.type "type")),
  fun K => decide (PySem.W.subIn K (.ref (He.ga K "TooMany")) (.type "BaseException") = some true),
  fun K => decide (PySem.W.subIn K (.ref (He.ga K "TooMany")) (.ref (He.ga K "TooMany")) = some true),
  fun K => decide (PySem.W.subIn K (.ref (He.ga K "NoWay")) (.ref (He.ga K "NoPlay")) = some false),
  fun K => decide (PySem.W.subIn K (.ref (He.ga K "NoWay")) (.ref (He.ga K "NoText")) = some false),
  fun K => decide (PySem.W.subIn K (.ref (He.ga K "NoWay")) (.ref (He.ga K "NoWay")) = some true),
  fun K => decide (PySem.W.subIn K (.ref (He.ga K "NoWay")) (.ref (He.ga K "NoRule")) = some false),
  fun K => decide (PySem.W.subIn K (.ref (He.ga K "NoWay")) (.ref (He.ga K "NoOrder")) = some false),
  fun K => decide (PySem.W.subIn K (.ref (He.ga K "NoWay")) (.ref (He.ga K "NoEnds")) = some false),
  fun K => decide (PySem.W.subIn K (.ref (He.ga K "NoWay")) (.ref (He.ga K "NoTree")) = some false),
  fun K => decide (PySem.W.subIn K (.ref (He.ga K "NoWay")) (.ref (He.ga K "NoWindow")) = some false),
  fun K => decide (PySem.W.subIn K (.ref (He.ga K "NoWay")) (.ref (He.ga K "TooMany")) = some false),
  fun K => decide (PySem.W.subIn K (.ref (He.ga K "NoWay")) (.ref (He.ga K "NoSize")) = some false),
  fun K => decide (PySem.W.subIn K (.ref (He.ga K "NoWay")) (.ref (He.ga K "NoStand")) = some false),
  fun K => decide (PySem.W.subIn K (.ref (He.ga K "NoWay")) (.ref (He.ga K "NoNumber")) = some false),
  fun K => decide (PySem.W.subIn K (.ref (He.ga K "NoWay")) (.ref (He.ga K "NoEnd")) = some false),
  fun K => decide (PySem.W.subIn K (.ref (He.ga K "NoWay")) (.ref (He.ga K "NoDepth")) = some false),
  fun K => decide (PySem.W.subIn K (.ref (He.ga K "NoWay")) (.ref (He.ga K "NoWorth")) = some false),
  fun K => decide (PySem.W.subIn K (.ref (He.ga K "NoWay")) (.ref (He.ga K "NoChange")) = some false),
  fun K => decide (PySem.W.subIn K (.ref (He.ga K "NoWay")) (.ref (He.ga K "NoRow")) = some false),
  fun K => decide (PySem.W.subIn K (.ref (He.ga K "NoWay")) (.ref (He.ga K "NoName")) = some false),
  fun K => decide (PySem.W.subIn K (.ref (He.ga K "NoWay")) (.ref (He.ga K "BoughError")) = some true),
  fun K => decide (PySem.W.subIn K (.ref (He.ga K "NoRule")) (.ref (He.ga K "NoPlay")) = some false),
  fun K => decide (PySem.W.subIn K (.ref (He.ga K "NoRule")) (.ref (He.ga K "NoText")) = some false),
  fun K => decide (PySem.W.subIn K (.ref (He.ga K "NoRule")) (.ref (He.ga K "NoWay")) = some false),
  fun K => decide (PySem.W.subIn K (.ref (He.ga K "NoRule")) (.ref (He.ga K "NoRule")) = some true),
  fun K => decide (PySem.W.subIn K (.ref (He.ga K "NoRule")) (.ref (He.ga K "NoOrder")) = some false),
  fun K => decide (PySem.W.subIn K (.ref (He.ga K "NoRule")) (.ref (He.ga K "NoEnds")) = some false),
  fun K => decide (PySem.W.subIn K (.ref (He.ga K "NoRule")) (.ref (He.ga K "NoTree")) = some false),
  fun K => decide (PySem.W.subIn K (.ref (He.ga K "NoRule")) (.ref (He.ga K "NoWindow")) = some false),
  fun K => decide (PySem.W.subIn K (.ref (He.ga K "NoRule")) (.ref (He.ga K "TooMany")) = some false),
  fun K => decide (PySem.W.subIn K (.ref (He.ga K "NoRule")) (.ref (He.ga K "NoSize")) = some false),
  fun K => decide (PySem.W.subIn K (.ref (He.ga K "NoRule")) (.ref (He.ga K "NoStand")) = some false),
  fun K => decide (PySem.W.subIn K (.ref (He.ga K "NoRule")) (.ref (He.ga K "NoNumber")) = some false),
  fun K => decide (PySem.W.subIn K (.ref (He.ga K "NoRule")) (.ref (He.ga K "NoEnd")) = some false),
  fun K => decide (PySem.W.subIn K (.ref (He.ga K "NoRule")) (.ref (He.ga K "NoDepth")) = some false),
  fun K => decide (PySem.W.subIn K (.ref (He.ga K "NoRule")) (.ref (He.ga K "NoWorth")) = some false),
  fun K => decide (PySem.W.subIn K (.ref (He.ga K "NoRule")) (.ref (He.ga K "NoChange")) = some false),
  fun K => decide (PySem.W.subIn K (.ref (He.ga K "NoRule")) (.ref (He.ga K "NoRow")) = some false),
  fun K => decide (PySem.W.subIn K (.ref (He.ga K "NoRule")) (.ref (He.ga K "NoName")) = some false),
  fun K => decide (PySem.W.subIn K (.ref (He.ga K "NoRule")) (.ref (He.ga K "BoughError")) = some true),
  fun K => decide (PySem.W.subIn K (.ref (He.ga K "NoOrder")) (.ref (He.ga K "NoPlay")) = some false),
  fun K => decide (PySem.W.subIn K (.ref (He.ga K "NoOrder")) (.ref (He.ga K "NoText")) = some false),
  fun K => decide (PySem.W.subIn K (.ref (He.ga K "NoOrder")) (.ref (He.ga K "NoWay")) = some false),
  fun K => decide (PySem.W.subIn K (.ref (He.ga K "NoOrder")) (.ref (He.ga K "NoRule")) = some false),
  fun K => decide (PySem.W.subIn K (.ref (He.ga K "NoOrder")) (.ref (He.ga K "NoOrder")) = some true),
  fun K => decide (PySem.W.subIn K (.ref (He.ga K "NoOrder")) (.ref (He.ga K "NoEnds")) = some false),
  fun K => decide (PySem.W.subIn K (.ref (He.ga K "NoOrder")) (.ref (He.ga K "NoTree")) = some false),
  fun K => decide (PySem.W.subIn K (.ref (He.ga K "NoOrder")) (.ref (He.ga K "NoWindow")) = some false),
  fun K => decide (PySem.W.subIn K (.ref (He.ga K "NoOrder")) (.ref (He.ga K "TooMany")) = some false),
  fun K => decide (PySem.W.subIn K (.ref (He.ga K "NoOrder")) (.ref (He.ga K "NoSize")) = some false),
  fun K => decide (PySem.W.subIn K (.ref (He.ga K "NoOrder")) (.ref (He.ga K "NoStand")) = some false),
  fun K => decide (PySem.W.subIn K (.ref (He.ga K "NoOrder")) (.ref (He.ga K "NoNumber")) = some false),
  fun K => decide (PySem.W.subIn K (.ref (He.ga K "NoOrder")) (.ref (He.ga K "NoEnd")) = some false),
  fun K => decide (PySem.W.subIn K (.ref (He.ga K "NoOrder")) (.ref (He.ga K "NoDepth")) = some false),
  fun K => decide (PySem.W.subIn K (.ref (He.ga K "NoOrder")) (.ref (He.ga K "NoWorth")) = some false),
  fun K => decide (PySem.W.subIn K (.ref (He.ga K "NoOrder")) (.ref (He.ga K "NoChange")) = some false),
  fun K => decide (PySem.W.subIn K (.ref (He.ga K "NoOrder")) (.ref (He.ga K "NoRow")) = some false),
  fun K => decide (PySem.W.subIn K (.ref (He.ga K "NoOrder")) (.ref (He.ga K "NoName")) = some false),
  fun K => decide (PySem.W.subIn K (.ref (He.ga K "NoOrder")) (.ref (He.ga K "BoughError")) = some true),
  fun K => decide (PySem.W.subIn K (.ref (He.ga K "NoEnds")) (.ref (He.ga K "NoPlay")) = some false),
  fun K => decide (PySem.W.subIn K (.ref (He.ga K "NoEnds")) (.ref (He.ga K "NoText")) = some false),
  fun K => decide (PySem.W.subIn K (.ref (He.ga K "NoEnds")) (.ref (He.ga K "NoWay")) = some false),
  fun K => decide (PySem.W.subIn K (.ref (He.ga K "NoEnds")) (.ref (He.ga K "NoRule")) = some false),
  fun K => decide (PySem.W.subIn K (.ref (He.ga K "NoEnds")) (.ref (He.ga K "NoOrder")) = some false),
  fun K => decide (PySem.W.subIn K (.ref (He.ga K "NoEnds")) (.ref (He.ga K "NoEnds")) = some true),
  fun K => decide (PySem.W.subIn K (.ref (He.ga K "NoEnds")) (.ref (He.ga K "NoTree")) = some false),
  fun K => decide (PySem.W.subIn K (.ref (He.ga K "NoEnds")) (.ref (He.ga K "NoWindow")) = some false),
  fun K => decide (PySem.W.subIn K (.ref (He.ga K "NoEnds")) (.ref (He.ga K "TooMany")) = some false),
  fun K => decide (PySem.W.subIn K (.ref (He.ga K "NoEnds")) (.ref (He.ga K "NoSize")) = some false),
  fun K => decide (PySem.W.subIn K (.ref (He.ga K "NoEnds")) (.ref (He.ga K "NoStand")) = some false),
  fun K => decide (PySem.W.subIn K (.ref (He.ga K "NoEnds")) (.ref (He.ga K "NoNumber")) = some false),
  fun K => decide (PySem.W.subIn K (.ref (He.ga K "NoEnds")) (.ref (He.ga K "NoEnd")) = some false),
  fun K => decide (PySem.W.subIn K (.ref (He.ga K "NoEnds")) (.ref (He.ga K "NoDepth")) = some false),
  fun K => decide (PySem.W.subIn K (.ref (He.ga K "NoEnds")) (.ref (He.ga K "NoWorth")) = some false),
  fun K => decide (PySem.W.subIn K (.ref (He.ga K "NoEnds")) (.ref (He.ga K "NoChange")) = some false),
  fun K => decide (PySem.W.subIn K (.ref (He.ga K "NoEnds")) (.ref (He.ga K "NoRow")) = some false),
  fun K => decide (PySem.W.subIn K (.ref (He.ga K "NoEnds")) (.ref (He.ga K "NoName")) = some false),
  fun K => decide (PySem.W.subIn K (.ref (He.ga K "NoEnds")) (.ref (He.ga K "BoughError")) = some true),
  fun K => decide (PySem.W.subIn K (.ref (He.ga K "NoTree")) (.ref (He.ga K "NoPlay")) = some false),
  fun K => decide (PySem.W.subIn K (.ref (He.ga K "NoTree")) (.ref (He.ga K "NoText")) = some false),
  fun K => decide (PySem.W.subIn K (.ref (He.ga K "NoTree")) (.ref (He.ga K "NoWay")) = some false),
  fun K => decide (PySem.W.subIn K (.ref (He.ga K "NoTree")) (.ref (He.ga K "NoRule")) = some false),
  fun K => decide (PySem.W.subIn K (.ref (He.ga K "NoTree")) (.ref (He.ga K "NoOrder")) = some false),
  fun K => decide (PySem.W.subIn K (.ref (He.ga K "NoTree")) (.ref (He.ga K "NoEnds")) = some false),
  fun K => decide (PySem.W.subIn K (.ref (He.ga K "NoTree")) (.ref (He.ga K "NoTree")) = some true),
  fun K => decide (PySem.W.subIn K (.ref (He.ga K "NoTree")) (.ref (He.ga K "NoWindow")) = some false),
  fun K => decide (PySem.W.subIn K (.ref (He.ga K "NoTree")) (.ref (He.ga K "TooMany")) = some false),
  fun K => decide (PySem.W.subIn K (.ref (He.ga K "NoTree")) (.ref (He.ga K "NoSize")) = some false),
  fun K => decide (PySem.W.subIn K (.ref (He.ga K "NoTree")) (.ref (He.ga K "NoStand")) = some false),
  fun K => decide (PySem.W.subIn K (.ref (He.ga K "NoTree")) (.ref (He.ga K "NoNumber")) = some false),
  fun K => decide (PySem.W.subIn K (.ref (He.ga K "NoTree")) (.ref (He.ga K "NoEnd")) = some false),
  fun K => decide (PySem.W.subIn K (.ref (He.ga K "NoTree")) (.ref (He.ga K "NoDepth")) = some false),
  fun K => decide (PySem.W.subIn K (.ref (He.ga K "NoTree")) (.ref (He.ga K "NoWorth")) = some false),
  fun K => decide (PySem.W.subIn K (.ref (He.ga K "NoTree")) (.ref (He.ga K "NoChange")) = some false),
  fun K => decide (PySem.W.subIn K (.ref (He.ga K "NoTree")) (.ref (He.ga K "NoRow")) = some false),
  fun K => decide (PySem.W.subIn K (.ref (He.ga K "NoTree")) (.ref (He.ga K "NoName")) = some false),
  fun K => decide (PySem.W.subIn K (.ref (He.ga K "NoTree")) (.ref (He.ga K "BoughError")) = some true),
  fun K => decide (PySem.W.subIn K (.ref (He.ga K "NoWindow")) (.ref (He.ga K "NoPlay")) = some false),
  fun K => decide (PySem.W.subIn K (.ref (He.ga K "NoWindow")) (.ref (He.ga K "NoText")) = some false),
  fun K => decide (PySem.W.subIn K (.ref (He.ga K "NoWindow")) (.ref (He.ga K "NoWay")) = some false),
  fun K => decide (PySem.W.subIn K (.ref (He.ga K "NoWindow")) (.ref (He.ga K "NoRule")) = some false),
  fun K => decide (PySem.W.subIn K (.ref (He.ga K "NoWindow")) (.ref (He.ga K "NoOrder")) = some false),
  fun K => decide (PySem.W.subIn K (.ref (He.ga K "NoWindow")) (.ref (He.ga K "NoEnds")) = some false),
  fun K => decide (PySem.W.subIn K (.ref (He.ga K "NoWindow")) (.ref (He.ga K "NoTree")) = some false),
  fun K => decide (PySem.W.subIn K (.ref (He.ga K "NoWindow")) (.ref (He.ga K "NoWindow")) = some true),
  fun K => decide (PySem.W.subIn K (.ref (He.ga K "NoWindow")) (.ref (He.ga K "TooMany")) = some false),
  fun K => decide (PySem.W.subIn K (.ref (He.ga K "NoWindow")) (.ref (He.ga K "NoSize")) = some false),
  fun K => decide (PySem.W.subIn K (.ref (He.ga K "NoWindow")) (.ref (He.ga K "NoStand")) = some false),
  fun K => decide (PySem.W.subIn K (.ref (He.ga K "NoWindow")) (.ref (He.ga K "NoNumber")) = some false),
  fun K => decide (PySem.W.subIn K (.ref (He.ga K "NoWindow")) (.ref (He.ga K "NoEnd")) = some false),
  fun K => decide (PySem.W.subIn K (.ref (He.ga K "NoWindow")) (.ref (He.ga K "NoDepth")) = some false),
  fun K => decide (PySem.W.subIn K (.ref (He.ga K "NoWindow")) (.ref (He.ga K "NoWorth")) = some false),
  fun K => decide (PySem.W.subIn K (.ref (He.ga K "NoWindow")) (.ref (He.ga K "NoChange")) = some false),
  fun K => decide (PySem.W.subIn K (.ref (He.ga K "NoWindow")) (.ref (He.ga K "NoRow")) = some false),
  fun K => decide (PySem.W.subIn K (.ref (He.ga K "NoWindow")) (.ref (He.ga K "NoName")) = some false),
  fun K => decide (PySem.W.subIn K (.ref (He.ga K "NoWindow")) (.ref (He.ga K "BoughError")) = some true),
  fun K => decide (PySem.W.subIn K (.ref (He.ga K "TooMany")) (.ref (He.ga K "NoPlay")) = some false),
  fun K => decide (PySem.W.subIn K (.ref (He.ga K "TooMany")) (.ref (He.ga K "NoText")) = some false),
  fun K => decide (PySem.W.subIn K (.ref (He.ga K "TooMany")) (.ref (He.ga K "NoWay")) = some false),
  fun K => decide (PySem.W.subIn K (.ref (He.ga K "TooMany")) (.ref (He.ga K "NoRule")) = some false),
  fun K => decide (PySem.W.subIn K (.ref (He.ga K "TooMany")) (.ref (He.ga K "NoOrder")) = some false),
  fun K => decide (PySem.W.subIn K (.ref (He.ga K "TooMany")) (.ref (He.ga K "NoEnds")) = some false),
  fun K => decide (PySem.W.subIn K (.ref (He.ga K "TooMany")) (.ref (He.ga K "NoTree")) = some false),
  fun K => decide (PySem.W.subIn K (.ref (He.ga K "TooMany")) (.ref (He.ga K "NoWindow")) = some false),
  fun K => decide (PySem.W.subIn K (.ref (He.ga K "TooMany")) (.ref (He.ga K "TooMany")) = some true),
  fun K => decide (PySem.W.subIn K (.ref (He.ga K "TooMany")) (.ref (He.ga K "NoSize")) = some false),
  fun K => decide (PySem.W.subIn K (.ref (He.ga K "TooMany")) (.ref (He.ga K "NoStand")) = some false),
  fun K => decide (PySem.W.subIn K (.ref (He.ga K "TooMany")) (.ref (He.ga K "NoNumber")) = some false),
  fun K => decide (PySem.W.subIn K (.ref (He.ga K "TooMany")) (.ref (He.ga K "NoEnd")) = some false),
  fun K => decide (PySem.W.subIn K (.ref (He.ga K "TooMany")) (.ref (He.ga K "NoDepth")) = some false),
  fun K => decide (PySem.W.subIn K (.ref (He.ga K "TooMany")) (.ref (He.ga K "NoWorth")) = some false),
  fun K => decide (PySem.W.subIn K (.ref (He.ga K "TooMany")) (.ref (He.ga K "NoChange")) = some false),
  fun K => decide (PySem.W.subIn K (.ref (He.ga K "TooMany")) (.ref (He.ga K "NoRow")) = some false),
  fun K => decide (PySem.W.subIn K (.ref (He.ga K "TooMany")) (.ref (He.ga K "NoName")) = some false),
  fun K => decide (PySem.W.subIn K (.ref (He.ga K "TooMany")) (.ref (He.ga K "BoughError")) = some true),
  fun K => decide (PySem.W.subIn K (.ref (He.ga K "NoSize")) (.ref (He.ga K "NoPlay")) = some false),
  fun K => decide (PySem.W.subIn K (.ref (He.ga K "NoSize")) (.ref (He.ga K "NoText")) = some false),
  fun K => decide (PySem.W.subIn K (.ref (He.ga K "NoSize")) (.ref (He.ga K "NoWay")) = some false),
  fun K => decide (PySem.W.subIn K (.ref (He.ga K "NoSize")) (.ref (He.ga K "NoRule")) = some false),
  fun K => decide (PySem.W.subIn K (.ref (He.ga K "NoSize")) (.ref (He.ga K "NoOrder")) = some false),
  fun K => decide (PySem.W.subIn K (.ref (He.ga K "NoSize")) (.ref (He.ga K "NoEnds")) = some false),
  fun K => decide (PySem.W.subIn K (.ref (He.ga K "NoSize")) (.ref (He.ga K "NoTree")) = some false),
  fun K => decide (PySem.W.subIn K (.ref (He.ga K "NoSize")) (.ref (He.ga K "NoWindow")) = some false),
  fun K => decide (PySem.W.subIn K (.ref (He.ga K "NoSize")) (.ref (He.ga K "TooMany")) = some false),
  fun K => decide (PySem.W.subIn K (.ref (He.ga K "NoSize")) (.ref (He.ga K "NoSize")) = some true),
  fun K => decide (PySem.W.subIn K (.ref (He.ga K "NoSize")) (.ref (He.ga K "NoStand")) = some false),
  fun K => decide (PySem.W.subIn K (.ref (He.ga K "NoSize")) (.ref (He.ga K "NoNumber")) = some false),
  fun K => decide (PySem.W.subIn K (.ref (He.ga K "NoSize")) (.ref (He.ga K "NoEnd")) = some false),
  fun K => decide (PySem.W.subIn K (.ref (He.ga K "NoSize")) (.ref (He.ga K "NoDepth")) = some false),
  fun K => decide (PySem.W.subIn K (.ref (He.ga K "NoSize")) (.ref (He.ga K "NoWorth")) = some false),
  fun K => decide (PySem.W.subIn K (.ref (He.ga K "NoSize")) (.ref (He.ga K "NoChange")) = some false),
  fun K => decide (PySem.W.subIn K (.ref (He.ga K "NoSize")) (.ref (He.ga K "NoRow")) = some false),
  fun K => decide (PySem.W.subIn K (.ref (He.ga K "NoSize")) (.ref (He.ga K "NoName")) = some false),
  fun K => decide (PySem.W.subIn K (.ref (He.ga K "NoSize")) (.ref (He.ga K "BoughError")) = some true),
  fun K => decide (PySem.W.subIn K (.ref (He.ga K "NoStand")) (.ref (He.ga K "NoPlay")) = some false),
  fun K => decide (PySem.W.subIn K (.ref (He.ga K "NoStand")) (.ref (He.ga K "NoText")) = some false),
  fun K => decide (PySem.W.subIn K (.ref (He.ga K "NoStand")) (.ref (He.ga K "NoWay")) = some false),
  fun K => decide (PySem.W.subIn K (.ref (He.ga K "NoStand")) (.ref (He.ga K "NoRule")) = some false),
  fun K => decide (PySem.W.subIn K (.ref (He.ga K "NoStand")) (.ref (He.ga K "NoOrder")) = some false),
  fun K => decide (PySem.W.subIn K (.ref (He.ga K "NoStand")) (.ref (He.ga K "NoEnds")) = some false),
  fun K => decide (PySem.W.subIn K (.ref (He.ga K "NoStand")) (.ref (He.ga K "NoTree")) = some false),
  fun K => decide (PySem.W.subIn K (.ref (He.ga K "NoStand")) (.ref (He.ga K "NoWindow")) = some false),
  fun K => decide (PySem.W.subIn K (.ref (He.ga K "NoStand")) (.ref (He.ga K "TooMany")) = some false),
  fun K => decide (PySem.W.subIn K (.ref (He.ga K "NoStand")) (.ref (He.ga K "NoSize")) = some false),
  fun K => decide (PySem.W.subIn K (.ref (He.ga K "NoStand")) (.ref (He.ga K "NoStand")) = some true),
  fun K => decide (PySem.W.subIn K (.ref (He.ga K "NoStand")) (.ref (He.ga K "NoNumber")) = some false),
  fun K => decide (PySem.W.subIn K (.ref (He.ga K "NoStand")) (.ref (He.ga K "NoEnd")) = some false),
  fun K => decide (PySem.W.subIn K (.ref (He.ga K "NoStand")) (.ref (He.ga K "NoDepth")) = some false),
  fun K => decide (PySem.W.subIn K (.ref (He.ga K "NoStand")) (.ref (He.ga K "NoWorth")) = some false),
  fun K => decide (PySem.W.subIn K (.ref (He.ga K "NoStand")) (.ref (He.ga K "NoChange")) = some false),
  fun K => decide (PySem.W.subIn K (.ref (He.ga K "NoStand")) (.ref (He.ga K "NoRow")) = some false),
  fun K => decide (PySem.W.subIn K (.ref (He.ga K "NoStand")) (.ref (He.ga K "NoName")) = some false),
  fun K => decide (PySem.W.subIn K (.ref (He.ga K "NoStand")) (.ref (He.ga K "BoughError")) = some true),
  fun K => decide (PySem.W.subIn K (.ref (He.ga K "NoNumber")) (.ref (He.ga K "NoPlay")) = some false),
  fun K => decide (PySem.W.subIn K (.ref (He.ga K "NoNumber")) (.ref (He.ga K "NoText")) = some false),
  fun K => decide (PySem.W.subIn K (.ref (He.ga K "NoNumber")) (.ref (He.ga K "NoWay")) = some false),
  fun K => decide (PySem.W.subIn K (.ref (He.ga K "NoNumber")) (.ref (He.ga K "NoRule")) = some false),
  fun K => decide (PySem.W.subIn K (.ref (He.ga K "NoNumber")) (.ref (He.ga K "NoOrder")) = some false),
  fun K => decide (PySem.W.subIn K (.ref (He.ga K "NoNumber")) (.ref (He.ga K "NoEnds")) = some false),
  fun K => decide (PySem.W.subIn K (.ref (He.ga K "NoNumber")) (.ref (He.ga K "NoTree")) = some false),
  fun K => decide (PySem.W.subIn K (.ref (He.ga K "NoNumber")) (.ref (He.ga K "NoWindow")) = some false),
  fun K => decide (PySem.W.subIn K (.ref (He.ga K "NoNumber")) (.ref (He.ga K "TooMany")) = some false),
  fun K => decide (PySem.W.subIn K (.ref (He.ga K "NoNumber")) (.ref (He.ga K "NoSize")) = some false),
  fun K => decide (PySem.W.subIn K (.ref (He.ga K "NoNumber")) (.ref (He.ga K "NoStand")) = some false),
  fun K => decide (PySem.W.subIn K (.ref (He.ga K "NoNumber")) (.ref (He.ga K "NoNumber")) = some true),
  fun K => decide (PySem.W.subIn K (.ref (He.ga K "NoNumber")) (.ref (He.ga K "NoEnd")) = some false),
  fun K => decide (PySem.W.subIn K (.ref (He.ga K "NoNumber")) (.ref (He.ga K "NoDepth")) = some false),
  fun K => decide (PySem.W.subIn K (.ref (He.ga K "NoNumber")) (.ref (He.ga K "NoWorth")) = some false),
  fun K => decide (PySem.W.subIn K (.ref (He.ga K "NoNumber")) (.ref (He.ga K "NoChange")) = some false),
  fun K => decide (PySem.W.subIn K (.ref (He.ga K "NoNumber")) (.ref (He.ga K "NoRow")) = some false),
  fun K => decide (PySem.W.subIn K (.ref (He.ga K "NoNumber")) (.ref (He.ga K "NoName")) = some false),
  fun K => decide (PySem.W.subIn K (.ref (He.ga K "NoNumber")) (.ref (He.ga K "BoughError")) = some true),
  fun K => decide (PySem.W.subIn K (.ref (He.ga K "NoEnd")) (.ref (He.ga K "NoPlay")) = some false),
  fun K => decide (PySem.W.subIn K (.ref (He.ga K "NoEnd")) (.ref (He.ga K "NoText")) = some false),
  fun K => decide (PySem.W.subIn K (.ref (He.ga K "NoEnd")) (.ref (He.ga K "NoWay")) = some false),
  fun K => decide (PySem.W.subIn K (.ref (He.ga K "NoEnd")) (.ref (He.ga K "NoRule")) = some false),
  fun K => decide (PySem.W.subIn K (.ref (He.ga K "NoEnd")) (.ref (He.ga K "NoOrder")) = some false),
  fun K => decide (PySem.W.subIn K (.ref (He.ga K "NoEnd")) (.ref (He.ga K "NoEnds")) = some false),
  fun K => decide (PySem.W.subIn K (.ref (He.ga K "NoEnd")) (.ref (He.ga K "NoTree")) = some false),
  fun K => decide (PySem.W.subIn K (.ref (He.ga K "NoEnd")) (.ref (He.ga K "NoWindow")) = some false),
  fun K => decide (PySem.W.subIn K (.ref (He.ga K "NoEnd")) (.ref (He.ga K "TooMany")) = some false),
  fun K => decide (PySem.W.subIn K (.ref (He.ga K "NoEnd")) (.ref (He.ga K "NoSize")) = some false),
  fun K => decide (PySem.W.subIn K (.ref (He.ga K "NoEnd")) (.ref (He.ga K "NoStand")) = some false),
  fun K => decide (PySem.W.subIn K (.ref (He.ga K "NoEnd")) (.ref (He.ga K "NoNumber")) = some false),
  fun K => decide (PySem.W.subIn K (.ref (He.ga K "NoEnd")) (.ref (He.ga K "NoEnd")) = some true),
  fun K => decide (PySem.W.subIn K (.ref (He.ga K "NoEnd")) (.ref (He.ga K "NoDepth")) = some false),
  fun K => decide (PySem.W.subIn K (.ref (He.ga K "NoEnd")) (.ref (He.ga K "NoWorth")) = some false),
  fun K => decide (PySem.W.subIn K (.ref (He.ga K "NoEnd")) (.ref (He.ga K "NoChange")) = some false),
  fun K => decide (PySem.W.subIn K (.ref (He.ga K "NoEnd")) (.ref (He.ga K "NoRow")) = some false),
  fun K => decide (PySem.W.subIn K (.ref (He.ga K "NoEnd")) (.ref (He.ga K "NoName")) = some false),
  fun K => decide (PySem.W.subIn K (.ref (He.ga K "NoEnd")) (.ref (He.ga K "BoughError")) = some true),
  fun K => decide (PySem.W.subIn K (.ref (He.ga K "NoDepth")) (.ref (He.ga K "NoPlay")) = some false),
  fun K => decide (PySem.W.subIn K (.ref (He.ga K "NoDepth")) (.ref (He.ga K "NoText")) = some false),
  fun K => decide (PySem.W.subIn K (.ref (He.ga K "NoDepth")) (.ref (He.ga K "NoWay")) = some false),
  fun K => decide (PySem.W.subIn K (.ref (He.ga K "NoDepth")) (.ref (He.ga K "NoRule")) = some false),
  fun K => decide (PySem.W.subIn K (.ref (He.ga K "NoDepth")) (.ref (He.ga K "NoOrder")) = some false),
  fun K => decide (PySem.W.subIn K (.ref (He.ga K "NoDepth")) (.ref (He.ga K "NoEnds")) = some false),
  fun K => decide (PySem.W.subIn K (.ref (He.ga K "NoDepth")) (.ref (He.ga K "NoTree")) = some false),
  fun K => decide (PySem.W.subIn K (.ref (He.ga K "NoDepth")) (.ref (He.ga K "NoWindow")) = some false),
  fun K => decide (PySem.W.subIn K (.ref (He.ga K "NoDepth")) (.ref (He.ga K "TooMany")) = some false),
  fun K => decide (PySem.W.subIn K (.ref (He.ga K "NoDepth")) (.ref (He.ga K "NoSize")) = some false),
  fun K => decide (PySem.W.subIn K (.ref (He.ga K "NoDepth")) (.ref (He.ga K "NoStand")) = some false),
  fun K => decide (PySem.W.subIn K (.ref (He.ga K "NoDepth")) (.ref (He.ga K "NoNumber")) = some false),
  fun K => decide (PySem.W.subIn K (.ref (He.ga K "NoDepth")) (.ref (He.ga K "NoEnd")) = some false),
  fun K => decide (PySem.W.subIn K (.ref (He.ga K "NoDepth")) (.ref (He.ga K "NoDepth")) = some true),
  fun K => decide (PySem.W.subIn K (.ref (He.ga K "NoDepth")) (.ref (He.ga K "NoWorth")) = some false),
  fun K => decide (PySem.W.subIn K (.ref (He.ga K "NoDepth")) (.ref (He.ga K "NoChange")) = some false),
  fun K => decide (PySem.W.subIn K (.ref (He.ga K "NoDepth")) (.ref (He.ga K "NoRow")) = some false),
  fun K => decide (PySem.W.subIn K (.ref (He.ga K "NoDepth")) (.ref (He.ga K "NoName")) = some false),
  fun K => decide (PySem.W.subIn K (.ref (He.ga K "NoDepth")) (.ref (He.ga K "BoughError")) = some true),
  fun K => decide (PySem.W.subIn K (.ref (He.ga K "NoWorth")) (.ref (He.ga K "NoPlay")) = some false),
  fun K => decide (PySem.W.subIn K (.ref (He.ga K "NoWorth")) (.ref (He.ga K "NoText")) = some false),
  fun K => decide (PySem.W.subIn K (.ref (He.ga K "NoWorth")) (.ref (He.ga K "NoWay")) = some false),
  fun K => decide (PySem.W.subIn K (.ref (He.ga K "NoWorth")) (.ref (He.ga K "NoRule")) = some false),
  fun K => decide (PySem.W.subIn K (.ref (He.ga K "NoWorth")) (.ref (He.ga K "NoOrder")) = some false),
  fun K => decide (PySem.W.subIn K (.ref (He.ga K "NoWorth")) (.ref (He.ga K "NoEnds")) = some false),
  fun K => decide (PySem.W.subIn K (.ref (He.ga K "NoWorth")) (.ref (He.ga K "NoTree")) = some false),
  fun K => decide (PySem.W.subIn K (.ref (He.ga K "NoWorth")) (.ref (He.ga K "NoWindow")) = some false),
  fun K => decide (PySem.W.subIn K (.ref (He.ga K "NoWorth")) (.ref (He.ga K "TooMany")) = some false),
  fun K => decide (PySem.W.subIn K (.ref (He.ga K "NoWorth")) (.ref (He.ga K "NoSize")) = some false),
  fun K => decide (PySem.W.subIn K (.ref (He.ga K "NoWorth")) (.ref (He.ga K "NoStand")) = some false),
  fun K => decide (PySem.W.subIn K (.ref (He.ga K "NoWorth")) (.ref (He.ga K "NoNumber")) = some false),
  fun K => decide (PySem.W.subIn K (.ref (He.ga K "NoWorth")) (.ref (He.ga K "NoEnd")) = some false),
  fun K => decide (PySem.W.subIn K (.ref (He.ga K "NoWorth")) (.ref (He.ga K "NoDepth")) = some false),
  fun K => decide (PySem.W.subIn K (.ref (He.ga K "NoWorth")) (.ref (He.ga K "NoWorth")) = some true),
  fun K => decide (PySem.W.subIn K (.ref (He.ga K "NoWorth")) (.ref (He.ga K "NoChange")) = some false),
  fun K => decide (PySem.W.subIn K (.ref (He.ga K "NoWorth")) (.ref (He.ga K "NoRow")) = some false),
  fun K => decide (PySem.W.subIn K (.ref (He.ga K "NoWorth")) (.ref (He.ga K "NoName")) = some false),
  fun K => decide (PySem.W.subIn K (.ref (He.ga K "NoWorth")) (.ref (He.ga K "BoughError")) = some true),
  fun K => decide (PySem.W.subIn K (.ref (He.ga K "NoChange")) (.ref (He.ga K "NoPlay")) = some false),
  fun K => decide (PySem.W.subIn K (.ref (He.ga K "NoChange")) (.ref (He.ga K "NoText")) = some false),
  fun K => decide (PySem.W.subIn K (.ref (He.ga K "NoChange")) (.ref (He.ga K "NoWay")) = some false),
  fun K => decide (PySem.W.subIn K (.ref (He.ga K "NoChange")) (.ref (He.ga K "NoRule")) = some false),
  fun K => decide (PySem.W.subIn K (.ref (He.ga K "NoChange")) (.ref (He.ga K "NoOrder")) = some false),
  fun K => decide (PySem.W.subIn K (.ref (He.ga K "NoChange")) (.ref (He.ga K "NoEnds")) = some false),
  fun K => decide (PySem.W.subIn K (.ref (He.ga K "NoChange")) (.ref (He.ga K "NoTree")) = some false),
  fun K => decide (PySem.W.subIn K (.ref (He.ga K "NoChange")) (.ref (He.ga K "NoWindow")) = some false),
  fun K => decide (PySem.W.subIn K (.ref (He.ga K "NoChange")) (.ref (He.ga K "TooMany")) = some false),
  fun K => decide (PySem.W.subIn K (.ref (He.ga K "NoChange")) (.ref (He.ga K "NoSize")) = some false),
  fun K => decide (PySem.W.subIn K (.ref (He.ga K "NoChange")) (.ref (He.ga K "NoStand")) = some false),
  fun K => decide (PySem.W.subIn K (.ref (He.ga K "NoChange")) (.ref (He.ga K "NoNumber")) = some false),
  fun K => decide (PySem.W.subIn K (.ref (He.ga K "NoChange")) (.ref (He.ga K "NoEnd")) = some false),
  fun K => decide (PySem.W.subIn K (.ref (He.ga K "NoChange")) (.ref (He.ga K "NoDepth")) = some false),
  fun K => decide (PySem.W.subIn K (.ref (He.ga K "NoChange")) (.ref (He.ga K "NoWorth")) = some false),
  fun K => decide (PySem.W.subIn K (.ref (He.ga K "NoChange")) (.ref (He.ga K "NoChange")) = some true),
  fun K => decide (PySem.W.subIn K (.ref (He.ga K "NoChange")) (.ref (He.ga K "NoRow")) = some false),
  fun K => decide (PySem.W.subIn K (.ref (He.ga K "NoChange")) (.ref (He.ga K "NoName")) = some false),
  fun K => decide (PySem.W.subIn K (.ref (He.ga K "NoChange")) (.ref (He.ga K "BoughError")) = some true),
  fun K => decide (PySem.W.subIn K (.ref (He.ga K "NoRow")) (.ref (He.ga K "NoPlay")) = some false),
  fun K => decide (PySem.W.subIn K (.ref (He.ga K "NoRow")) (.ref (He.ga K "NoText")) = some false),
  fun K => decide (PySem.W.subIn K (.ref (He.ga K "NoRow")) (.ref (He.ga K "NoWay")) = some false),
  fun K => decide (PySem.W.subIn K (.ref (He.ga K "NoRow")) (.ref (He.ga K "NoRule")) = some false),
  fun K => decide (PySem.W.subIn K (.ref (He.ga K "NoRow")) (.ref (He.ga K "NoOrder")) = some false),
  fun K => decide (PySem.W.subIn K (.ref (He.ga K "NoRow")) (.ref (He.ga K "NoEnds")) = some false),
  fun K => decide (PySem.W.subIn K (.ref (He.ga K "NoRow")) (.ref (He.ga K "NoTree")) = some false),
  fun K => decide (PySem.W.subIn K (.ref (He.ga K "NoRow")) (.ref (He.ga K "NoWindow")) = some false),
  fun K => decide (PySem.W.subIn K (.ref (He.ga K "NoRow")) (.ref (He.ga K "TooMany")) = some false),
  fun K => decide (PySem.W.subIn K (.ref (He.ga K "NoRow")) (.ref (He.ga K "NoSize")) = some false),
  fun K => decide (PySem.W.subIn K (.ref (He.ga K "NoRow")) (.ref (He.ga K "NoStand")) = some false),
  fun K => decide (PySem.W.subIn K (.ref (He.ga K "NoRow")) (.ref (He.ga K "NoNumber")) = some false),
  fun K => decide (PySem.W.subIn K (.ref (He.ga K "NoRow")) (.ref (He.ga K "NoEnd")) = some false),
  fun K => decide (PySem.W.subIn K (.ref (He.ga K "NoRow")) (.ref (He.ga K "NoDepth")) = some false),
  fun K => decide (PySem.W.subIn K (.ref (He.ga K "NoRow")) (.ref (He.ga K "NoWorth")) = some false),
  fun K => decide (PySem.W.subIn K (.ref (He.ga K "NoRow")) (.ref (He.ga K "NoChange")) = some false),
  fun K => decide (PySem.W.subIn K (.ref (He.ga K "NoRow")) (.ref (He.ga K "NoRow")) = some true),
  fun K => decide (PySem.W.subIn K (.ref (He.ga K "NoRow")) (.ref (He.ga K "NoName")) = some false),
  fun K => decide (PySem.W.subIn K (.ref (He.ga K "NoRow")) (.ref (He.ga K "BoughError")) = some true),
  fun K => decide (PySem.W.subIn K (.ref (He.ga K "NoName")) (.ref (He.ga K "NoPlay")) = some false),
  fun K => decide (PySem.W.subIn K (.ref (He.ga K "NoName")) (.ref (He.ga K "NoText")) = some false),
  fun K => decide (PySem.W.subIn K (.ref (He.ga K "NoName")) (.ref (He.ga K "NoWay")) = some false),
  fun K => decide (PySem.W.subIn K (.ref (He.ga K "NoName")) (.ref (He.ga K "NoRule")) = some false),
  fun K => decide (PySem.W.subIn K (.ref (He.ga K "NoName")) (.ref (He.ga K "NoOrder")) = some false),
  fun K => decide (PySem.W.subIn K (.ref (He.ga K "NoName")) (.ref (He.ga K "NoEnds")) = some false),
  fun K => decide (PySem.W.subIn K (.ref (He.ga K "NoName")) (.ref (He.ga K "NoTree")) = some false),
  fun K => decide (PySem.W.subIn K (.ref (He.ga K "NoName")) (.ref (He.ga K "NoWindow")) = some false),
  fun K => decide (PySem.W.subIn K (.ref (He.ga K "NoName")) (.ref (He.ga K "TooMany")) = some false),
  fun K => decide (PySem.W.subIn K (.ref (He.ga K "NoName")) (.ref (He.ga K "NoSize")) = some false),
  fun K => decide (PySem.W.subIn K (.ref (He.ga K "NoName")) (.ref (He.ga K "NoStand")) = some false),
  fun K => decide (PySem.W.subIn K (.ref (He.ga K "NoName")) (.ref (He.ga K "NoNumber")) = some false),
  fun K => decide (PySem.W.subIn K (.ref (He.ga K "NoName")) (.ref (He.ga K "NoEnd")) = some false),
  fun K => decide (PySem.W.subIn K (.ref (He.ga K "NoName")) (.ref (He.ga K "NoDepth")) = some false),
  fun K => decide (PySem.W.subIn K (.ref (He.ga K "NoName")) (.ref (He.ga K "NoWorth")) = some false),
  fun K => decide (PySem.W.subIn K (.ref (He.ga K "NoName")) (.ref (He.ga K "NoChange")) = some false),
  fun K => decide (PySem.W.subIn K (.ref (He.ga K "NoName")) (.ref (He.ga K "NoRow")) = some false),
  fun K => decide (PySem.W.subIn K (.ref (He.ga K "NoName")) (.ref (He.ga K "NoName")) = some true),
  fun K => decide (PySem.W.subIn K (.ref (He.ga K "NoName")) (.ref (He.ga K "BoughError")) = some true),
  fun K => decide (PySem.W.subIn K (.ref (He.ga K "NoPlay")) (.ref (He.ga K "NoPlay")) = some true),
  fun K => decide (PySem.W.subIn K (.ref (He.ga K "NoPlay")) (.ref (He.ga K "NoText")) = some false),
  fun K => decide (PySem.W.subIn K (.ref (He.ga K "NoPlay")) (.ref (He.ga K "NoWay")) = some false),
  fun K => decide (PySem.W.subIn K (.ref (He.ga K "NoPlay")) (.ref (He.ga K "NoRule")) = some false),
  fun K => decide (PySem.W.subIn K (.ref (He.ga K "NoPlay")) (.ref (He.ga K "NoOrder")) = some false),
  fun K => decide (PySem.W.subIn K (.ref (He.ga K "NoPlay")) (.ref (He.ga K "NoEnds")) = some false),
  fun K => decide (PySem.W.subIn K (.ref (He.ga K "NoPlay")) (.ref (He.ga K "NoTree")) = some false),
  fun K => decide (PySem.W.subIn K (.ref (He.ga K "NoPlay")) (.ref (He.ga K "NoWindow")) = some false),
  fun K => decide (PySem.W.subIn K (.ref (He.ga K "NoPlay")) (.ref (He.ga K "TooMany")) = some false),
  fun K => decide (PySem.W.subIn K (.ref (He.ga K "NoPlay")) (.ref (He.ga K "NoSize")) = some false),
  fun K => decide (PySem.W.subIn K (.ref (He.ga K "NoPlay")) (.ref (He.ga K "NoStand")) = some false),
  fun K => decide (PySem.W.subIn K (.ref (He.ga K "NoPlay")) (.ref (He.ga K "NoNumber")) = some false),
  fun K => decide (PySem.W.subIn K (.ref (He.ga K "NoPlay")) (.ref (He.ga K "NoEnd")) = some false),
  fun K => decide (PySem.W.subIn K (.ref (He.ga K "NoPlay")) (.ref (He.ga K "NoDepth")) = some false),
  fun K => decide (PySem.W.subIn K (.ref (He.ga K "NoPlay")) (.ref (He.ga K "NoWorth")) = some false),
  fun K => decide (PySem.W.subIn K (.ref (He.ga K "NoPlay")) (.ref (He.ga K "NoChange")) = some false),
  fun K => decide (PySem.W.subIn K (.ref (He.ga K "NoPlay")) (.ref (He.ga K "NoRow")) = some false),
  fun K => decide (PySem.W.subIn K (.ref (He.ga K "NoPlay")) (.ref (He.ga K "NoName")) = some false),
  fun K => decide (PySem.W.subIn K (.ref (He.ga K "NoPlay")) (.ref (He.ga K "BoughError")) = some true),
  fun K => decide (PySem.W.subIn K (.ref (He.ga K "NoText")) (.ref (He.ga K "NoPlay")) = some false),
  fun K => decide (PySem.W.subIn K (.ref (He.ga K "NoText")) (.ref (He.ga K "NoText")) = some true),
  fun K => decide (PySem.W.subIn K (.ref (He.ga K "NoText")) (.ref (He.ga K "NoWay")) = some false),
  fun K => decide (PySem.W.subIn K (.ref (He.ga K "NoText")) (.ref (He.ga K "NoRule")) = some false),
  fun K => decide (PySem.W.subIn K (.ref (He.ga K "NoText")) (.ref (He.ga K "NoOrder")) = some false),
  fun K => decide (PySem.W.subIn K (.ref (He.ga K "NoText")) (.ref (He.ga K "NoEnds")) = some false),
  fun K => decide (PySem.W.subIn K (.ref (He.ga K "NoText")) (.ref (He.ga K "NoTree")) = some false),
  fun K => decide (PySem.W.subIn K (.ref (He.ga K "NoText")) (.ref (He.ga K "NoWindow")) = some false),
  fun K => decide (PySem.W.subIn K (.ref (He.ga K "NoText")) (.ref (He.ga K "TooMany")) = some false),
  fun K => decide (PySem.W.subIn K (.ref (He.ga K "NoText")) (.ref (He.ga K "NoSize")) = some false),
  fun K => decide (PySem.W.subIn K (.ref (He.ga K "NoText")) (.ref (He.ga K "NoStand")) = some false),
  fun K => decide (PySem.W.subIn K (.ref (He.ga K "NoText")) (.ref (He.ga K "NoNumber")) = some false),
  fun K => decide (PySem.W.subIn K (.ref (He.ga K "NoText")) (.ref (He.ga K "NoEnd")) = some false),
  fun K => decide (PySem.W.subIn K (.ref (He.ga K "NoText")) (.ref (He.ga K "NoDepth")) = some false),
  fun K => decide (PySem.W.subIn K (.ref (He.ga K "NoText")) (.ref (He.ga K "NoWorth")) = some false),
  fun K => decide (PySem.W.subIn K (.ref (He.ga K "NoText")) (.ref (He.ga K "NoChange")) = some false),
  fun K => decide (PySem.W.subIn K (.ref (He.ga K "NoText")) (.ref (He.ga K "NoRow")) = some false),
  fun K => decide (PySem.W.subIn K (.ref (He.ga K "NoText")) (.ref (He.ga K "NoName")) = some false),
  fun K => decide (PySem.W.subIn K (.ref (He.ga K "NoText")) (.ref (He.ga K "BoughError")) = some true),
  fun K => decide (PySem.W.nsIn K mainGlobals "ValueError" = some none),
  fun K => decide (PySem.W.subIn K (.type "ValueError") (.type "BaseException") = some true),
  fun K => decide (PySem.W.subIn K (.ref (He.ga K "NoWay")) (.type "ValueError") = some true),
  fun K => decide (PySem.W.subIn K (.ref (He.ga K "NoRule")) (.type "ValueError") = some true),
  fun K => decide (PySem.W.subIn K (.ref (He.ga K "NoOrder")) (.type "ValueError") = some true),
  fun K => decide (PySem.W.subIn K (.ref (He.ga K "NoEnds")) (.type "ValueError") = some true),
  fun K => decide (PySem.W.subIn K (.ref (He.ga K "NoTree")) (.type "ValueError") = some true),
  fun K => decide (PySem.W.subIn K (.ref (He.ga K "NoWindow")) (.type "ValueError") = some true),
  fun K => decide (PySem.W.subIn K (.ref (He.ga K "TooMany")) (.type "ValueError") = some true),
  fun K => decide (PySem.W.subIn K (.ref (He.ga K "NoSize")) (.type "ValueError") = some true),
  fun K => decide (PySem.W.subIn K (.ref (He.ga K "NoStand")) (.type "ValueError") = some true),
  fun K => decide (PySem.W.subIn K (.ref (He.ga K "NoNumber")) (.type "ValueError") = some true),
  fun K => decide (PySem.W.subIn K (.ref (He.ga K "NoEnd")) (.type "ValueError") = some true),
  fun K => decide (PySem.W.subIn K (.ref (He.ga K "NoDepth")) (.type "ValueError") = some true),
  fun K => decide (PySem.W.subIn K (.ref (He.ga K "NoWorth")) (.type "ValueError") = some true),
  fun K => decide (PySem.W.subIn K (.ref (He.ga K "NoChange")) (.type "ValueError") = some true),
  fun K => decide (PySem.W.subIn K (.ref (He.ga K "NoRow")) (.type "ValueError") = some true),
  fun K => decide (PySem.W.subIn K (.ref (He.ga K "NoName")) (.type "ValueError") = some true),
  fun K => decide (PySem.W.subIn K (.ref (He.ga K "NoPlay")) (.type "ValueError") = some true),
  fun K => decide (PySem.W.subIn K (.ref (He.ga K "NoText")) (.type "ValueError") = some true),
  fun K => decide (PySem.W.nsIn K mainGlobals "_law_pool" = some (some (.ref (He.ga K "_law_pool")))),
  fun K => decide (PySem.W.nsIn K mainGlobals "_law_take" = some (some (.ref (He.ga K "_law_take")))),
  fun K => decide (PySem.W.nsIn K mainGlobals "_law_made" = some (some (.ref (He.ga K "_law_made")))),
  fun K => decide (PySem.W.nsIn K mainGlobals "_law_sorts" = some (some (.ref (He.ga K "_law_sorts")))),
  fun K => decide (PySem.W.nsIn K mainGlobals "law" = some (some (.ref (He.ga K "law")))),
  fun K => decide (PySem.W.findIn K (.ref (He.ga K "NoPlay")) "__init__" = some (some (.ref (He.ma K (He.ga K "NoPlay") "__init__")))),
  fun K => decide (PySem.W.typeIn K (.ref (He.ma K (He.ga K "NoPlay") "__init__")) = some (.type "function")),
  fun K => decide (PySem.W.findIn K (.ref (He.ga K "NoText")) "__init__" = some (some (.ref (He.ma K (He.ga K "NoText") "__init__")))),
  fun K => decide (PySem.W.typeIn K (.ref (He.ma K (He.ga K "NoText") "__init__")) = some (.type "function")),
  fun K => decide (PySem.W.nsIn K mainGlobals "len" = some none),
  fun K => decide (PySem.W.nsIn K mainGlobals "int" = some none),
  fun K => decide (PySem.W.nsIn K mainGlobals "isinstance" = some none),
  fun K => decide (PySem.W.nsIn K mainGlobals "range" = some none)]
def nmH0 : List PySem.Str := ["__name__", "BoughError", "NoPlay", "NoText", "NoWay", "NoRule", "NoOrder", "NoEnds", "NoTree", "NoWindow", "TooMany", "NoSize", "NoStand", "NoNumber", "NoEnd", "NoDepth", "NoWorth", "NoChange", "NoRow", "NoName"]
def nmH1 : List PySem.Str := ["__name__", "_law_pool", "_law_take", "_law_made", "_law_sorts"]
def nmH : List PySem.Str := nmH0 ++ (nmH1)
abbrev rowH : PySem.W.OpenRow := PySem.W.OpenLaw.row PySem.Challenge.rw_cutboughs_k06_refusals
open PySem PySem.W PySem.Calls PyProof.Rows HandSHeadRun in
theorem runA (w : World) (os : PySem.OsState) : (HandSHeadRun.endF (HandSHeadRun.stepQ (HandSHeadRun.denQ HandSHeadRun.tabQ) rowH.prog w) 6000 rowH.prog w os).map (fun s => HandSHeadRun.looksF rowH.prog (PySem.W.boot_heap w.params) s.abs) = some true := by kernel_rfl
open PySem PySem.W PySem.Calls PyProof.Rows HandSHeadRun in
theorem runB (w : World) (os : PySem.OsState) : (HandSHeadRun.endF (HandSHeadRun.stepQ (HandSHeadRun.denQ HandSHeadRun.tabQ) rowH.prog w) 6000 rowH.prog w os).map (fun s => HandSHeadRun.seenQ (PySem.W.view rowH.prog [25]) nmH (importedModules rowH.prog.main.body) (fun s => PySem.W.xlAt (PySem.W.view rowH.prog [25]) [] s && PySem.W.recOk rowH.toRowW.records s) s.abs) = some (PySem.W.openGood (PySem.W.view rowH.prog [25]) nmH) := by kernel_rfl
open PySem PySem.W PySem.Calls PyProof.Rows HandSHeadRun in
theorem runC0 (w : World) (os : PySem.OsState) : (HandSHeadRun.endF (HandSHeadRun.stepQ (HandSHeadRun.denQ HandSHeadRun.tabQ) rowH.prog w) 6000 rowH.prog w os).map (obG 5 (fH.take 161) (dH.take 2)) = some (He.valD (dH.take 2)) := by kernel_rfl
open PySem PySem.W PySem.Calls PyProof.Rows HandSHeadRun in
theorem runC1 (w : World) (os : PySem.OsState) : (HandSHeadRun.endF (HandSHeadRun.stepQ (HandSHeadRun.denQ HandSHeadRun.tabQ) rowH.prog w) 6000 rowH.prog w os).map (obG 5 ((fH.drop 161).take 161) ((dH.drop 2).take 2)) = some (He.valD ((dH.drop 2).take 2)) := by kernel_rfl
open PySem PySem.W PySem.Calls PyProof.Rows HandSHeadRun in
theorem runC2 (w : World) (os : PySem.OsState) : (HandSHeadRun.endF (HandSHeadRun.stepQ (HandSHeadRun.denQ HandSHeadRun.tabQ) rowH.prog w) 6000 rowH.prog w os).map (obG 5 (((fH.drop 161).drop 161).take 161) (((dH.drop 2).drop 2).take 2)) = some (He.valD (((dH.drop 2).drop 2).take 2)) := by kernel_rfl
open PySem PySem.W PySem.Calls PyProof.Rows HandSHeadRun in
theorem runC3 (w : World) (os : PySem.OsState) : (HandSHeadRun.endF (HandSHeadRun.stepQ (HandSHeadRun.denQ HandSHeadRun.tabQ) rowH.prog w) 6000 rowH.prog w os).map (obG 5 (((fH.drop 161).drop 161).drop 161) (((dH.drop 2).drop 2).drop 2)) = some (He.valD (((dH.drop 2).drop 2).drop 2)) := by kernel_rfl
theorem runH (w : World) : HandSHeadRun.RunEq rowH (PySem.W.view rowH.prog [25]) (hookH 5 fH dH) (obG 5 fH dH) 6000 nmH w := fun os => map_pair (runA w os) (map_pair (runB w os) (ob_cut (m := 161) (k := 2) (runC0 w os) (ob_cut (m := 161) (k := 2) (runC1 w os) (ob_cut (m := 161) (k := 2) (runC2 w os) (runC3 w os)))))
/-- objects of other kinds: tkd: a dict whose keys are tuples; its values are the keys' tuples, then what stands under them -/
inductive AK where
  | tkd (ks : List NestedKey)
/-- what stands at an address, with the values that it holds -/
def AK.pr (w : World) (k : AK) (a : Addr) (vs : List V) (h : Heap) : Prop := match k with
  | .tkd ks => (a == sysModules) = false ∧ ∃ (qs : List Addr) (us : List V) (xs : List Value) (o : Obj) (es : Array DictEntry) (ep : Nat), vs = qs.map V.ref ++ us ∧ ks.length = qs.length ∧ us.length = qs.length ∧ Vals us xs ∧ ks.Nodup ∧ h.get? a = some o ∧ o.ExactDict ∧ o.data = .dict es ep ∧
    es.toList = (ks.zip (qs.zip xs)).map fun p => ⟨p.1.hash w, .ref p.2.1, p.2.2⟩
def keyD : Key → PyData
  | .inl i => .int i
  | .inr x => .str x
def zipD (ks : List Key) (ds : List PyData) : List (PyData × PyData) := (ks.map keyD).zip ds
mutual
inductive Rp (K : PySem.W.Frag) (H : Hp) : V → PyData → Prop
  | non : Rp K H .non .none
  | bl (b : Bool) : Rp K H (.bl b) (.bool b)
  | int (i : Int) : Rp K H (.int i) (.int i)
  | str (x : Str) : Rp K H (.str x) (.str x)
  | lst {a : Addr} {xs : List V} {ds : List PyData} : SqL K H a xs → RpAll K H xs ds → Rp K H (.ref a) (.list ds)
  | tup {a : Addr} {xs : List V} {ds : List PyData} : SqT K H a xs → RpAll K H xs ds → Rp K H (.ref a) (.tuple ds)
  | dct {a : Addr} {ks : List Key} {xs : List V} {ds : List PyData} : ks.length = xs.length → Rd H a (.dK (ks.zip xs)) → RpAll K H xs ds → Rp K H (.ref a) (.dict (zipD ks ds))
inductive RpAll (K : PySem.W.Frag) (H : Hp) : List V → List PyData → Prop
  | nil : RpAll K H [] []
  | cons {v : V} {vs : List V} {d : PyData} {ds : List PyData} : Rp K H v d → RpAll K H vs ds → RpAll K H (v :: vs) (d :: ds)
end
theorem Rd.mono {H H' : Hp} {a : Addr} {o : HO} (e : Same H H') (h : Rd H a o) : Rd H' a o := by
  rcases h with h | ⟨u, h⟩
  · exact .inl (e _ _ h)
  · exact .inr ⟨u, e _ _ h⟩
theorem SqL.mono {K : PySem.W.Frag} {H H' : Hp} {a : Addr} {xs : List V} (e : Same H H') (h : SqL K H a xs) : SqL K H' a xs := h.elim (fun z => .inl (Rd.mono e z)) .inr
theorem SqT.mono {K : PySem.W.Frag} {H H' : Hp} {a : Addr} {xs : List V} (e : Same H H') (h : SqT K H a xs) : SqT K H' a xs := by
  rcases h with (h | ⟨o, h⟩) | h
  · exact .inl (.inl (e _ _ h))
  · exact .inl (.inr ⟨o, e _ _ h⟩)
  · exact .inr h
mutual
theorem Rp.mono {K : PySem.W.Frag} {H H' : Hp} (e : Same H H') : ∀ {v : V} {x : PyData}, Rp K H v x → Rp K H' v x
  | _, _, .non => .non
  | _, _, .bl b => .bl b
  | _, _, .int i => .int i
  | _, _, .str s => .str s
  | _, _, .lst a b => .lst (SqL.mono e a) (RpAll.mono e b)
  | _, _, .tup a b => .tup (SqT.mono e a) (RpAll.mono e b)
  | _, _, .dct l a b => .dct l (Rd.mono e a) (RpAll.mono e b)
theorem RpAll.mono {K : PySem.W.Frag} {H H' : Hp} (e : Same H H') : ∀ {vs : List V} {xs : List PyData}, RpAll K H vs xs → RpAll K H' vs xs
  | _, _, .nil => .nil
  | _, _, .cons a b => .cons (Rp.mono e a) (RpAll.mono e b)
end
mutual
theorem Rp.dp {K : PySem.W.Frag} {H : Hp} : ∀ {v : V} {x : PyData}, Rp K H v x → x.canLay0 = true → Dp K H v x
  | _, _, .non, _ => .non
  | _, _, .bl b, _ => .bl b
  | _, _, .int i, _ => .int i
  | _, _, .str s, _ => .str s
  | _, _, .lst a b, h => .lst a (RpAll.dp b (by simpa [PyData.canLay0] using h))
  | _, _, .tup a b, h => .tup a (RpAll.dp b (by simpa [PyData.canLay0] using h))
  | _, _, .dct l a b, h => by simp [PyData.canLay0] at h
theorem RpAll.dp {K : PySem.W.Frag} {H : Hp} : ∀ {vs : List V} {xs : List PyData}, RpAll K H vs xs → PyData.canLayAll0 xs = true → DpAll K H vs xs
  | _, _, .nil, _ => .nil
  | _, _, .cons a b, h => by
    simp only [PyData.canLayAll0, Bool.and_eq_true] at h
    exact .cons (Rp.dp a h.1) (RpAll.dp b h.2)
end
theorem RpAll.length {K : PySem.W.Frag} {H : Hp} : ∀ {vs : List V} {xs : List PyData}, RpAll K H vs xs → vs.length = xs.length
  | _, _, .nil => rfl
  | _, _, .cons a b => by rw [List.length_cons, List.length_cons, RpAll.length b]
theorem RpAll.get {K : PySem.W.Frag} {H : Hp} : ∀ {vs : List V} {xs : List PyData} {i : Nat} {x : PyData}, RpAll K H vs xs → xs[i]? = some x → ∃ v, vs[i]? = some v ∧ Rp K H v x
  | _, _, i, x, .nil, h => by simp at h
  | _, _, 0, x, .cons a b, h => by simp at h; subst h; exact ⟨_, rfl, a⟩
  | _, _, i + 1, x, .cons a b, h => by
    obtain ⟨v, h1, h2⟩ := RpAll.get (i := i) (x := x) b (by simpa using h)
    exact ⟨v, by simpa using h1, h2⟩
inductive Kd where
  | list | tup | tupw
  | dict (ks : List Key)
  | inst (C : Addr) (ns : List Str)
  | exc (n : Str) (C : Addr)
  | exo (n : Str) (C : Addr)
  | exd (f : Str)
  | rsd (n : Str)
  | abs (w : World) (k : AK)
inductive T where
  | dead
  | d (x : PyData)
  | nd (k : Kd) (ts : List T)
inductive TA where
  | dead (v : V)
  | d (v : V) (x : PyData)
  | nd (k : Kd) (a : Addr) (ts : List TA)
instance : Inhabited T := ⟨.dead⟩
instance : Inhabited TA := ⟨.dead .non⟩
def TA.v : TA → V
  | .dead v => v
  | .d v _ => v
  | .nd _ a _ => .ref a
def TA.isDead : TA → Bool
  | .dead _ => true
  | _ => false
def T.isDead : T → Bool
  | .dead => true
  | _ => false
/-- an exception of the class at C that was caught and is kept -/
def ExK (C a : Addr) : HO := .ext fun h => ∃ (oe : Obj) (vs : Array Value), h.get? a = some oe ∧ Zc (.ref C) none oe ∧ oe.data = .fields vs
def Kd.at (H : Hp) (k : Kd) (a : Addr) (vs : List V) : Prop := match k with
  | .list => H a = some (.lst vs)
  | .tup => H a = some (.tup vs)
  | .tupw => H a = some (.tup vs)
  | .dict ks => ks.length = vs.length ∧ H a = some (.dK (ks.zip vs))
  | .inst C ns => ns.length = vs.length ∧ ∃ dx, H a = some (.ins C dx (ns.zip vs))
  | .exc _ C => vs = [] ∧ H a = some (ExK C a)
  | .exo _ C => ∃ d, vs = [.ref d] ∧ H a = some (L2.exo a C (some d))
  | .exd f => ∃ v, vs = [v] ∧ H a = some (L2.exd a [(f, v)])
  | .rsd _ => False
  | .abs w k => H a = some (.ext (k.pr w a vs))
def Kd.isTup : Kd → Bool
  | .tup => true
  | _ => false
mutual
def TA.t : TA → T
  | .dead _ => .dead
  | .d _ x => .d x
  | .nd k _ ts => .nd k (TA.tl ts)
def TA.tl : List TA → List T
  | [] => []
  | t :: r => t.t :: TA.tl r
end
mutual
def TA.fp : TA → List Addr
  | .dead _ => []
  | .d _ _ => []
  | .nd _ a ts => a :: TA.fpl ts
def TA.fpl : List TA → List Addr
  | [] => []
  | t :: r => t.fp ++ TA.fpl r
end
mutual
def TA.ok (K : PySem.W.Frag) (Hs H : Hp) : TA → Prop
  | .dead _ => True
  | .d v x => Rp K Hs v x
  | .nd k a ts => k.at H a (ts.map TA.v) ∧ TA.okl K Hs H ts
def TA.okl (K : PySem.W.Frag) (Hs H : Hp) : List TA → Prop
  | [] => True
  | t :: r => t.ok K Hs H ∧ TA.okl K Hs H r
end
mutual
def TA.noTup : TA → Bool
  | .dead _ => true
  | .d _ _ => true
  | .nd k _ ts => !k.isTup && TA.noTupl ts
def TA.noTupl : List TA → Bool
  | [] => true
  | t :: r => t.noTup && TA.noTupl r
end
mutual
def T.noTup : T → Bool
  | .dead => true
  | .d _ => true
  | .nd k ts => !k.isTup && T.noTupl ts
def T.noTupl : List T → Bool
  | [] => true
  | t :: r => t.noTup && T.noTupl r
end
mutual
def T.data : T → Option PyData
  | .dead => none
  | .d x => some x
  | .nd k ts => match k with
    | .list => (T.datal ts).map .list
    | .tup => (T.datal ts).map .tuple
    | .tupw => none
    | .dict ks => (T.datal ts).map fun xs => .dict (zipD ks xs)
    | .inst _ _ => none
    | .exc _ _ => none
    | .exo _ _ => none
    | .exd _ => none
    | .rsd _ => none
    | .abs _ _ => none
def T.datal : List T → Option (List PyData)
  | [] => some []
  | t :: r => match t.data, T.datal r with
    | some x, some xs => some (x :: xs)
    | _, _ => none
end
theorem TA.tl_map : ∀ ts : List TA, TA.tl ts = ts.map TA.t
  | [] => rfl
  | t :: r => by rw [TA.tl, TA.tl_map r]; rfl
theorem TA.fpl_flat : ∀ ts : List TA, TA.fpl ts = ts.flatMap TA.fp
  | [] => rfl
  | t :: r => by rw [TA.fpl, TA.fpl_flat r]; rfl
theorem TA.fpl_append : ∀ ts us : List TA, TA.fpl (ts ++ us) = TA.fpl ts ++ TA.fpl us
  | [], us => by simp [TA.fpl]
  | t :: r, us => by rw [List.cons_append, TA.fpl, TA.fpl_append r us, TA.fpl, List.append_assoc]
theorem TA.okl_all {K : PySem.W.Frag} {Hs H : Hp} : ∀ {ts : List TA}, TA.okl K Hs H ts ↔ ∀ t ∈ ts, t.ok K Hs H
  | [] => by simp [TA.okl]
  | t :: r => by rw [TA.okl, TA.okl_all (ts := r)]; simp
theorem TA.okl_append {K : PySem.W.Frag} {Hs H : Hp} {ts us : List TA} : TA.okl K Hs H (ts ++ us) ↔ TA.okl K Hs H ts ∧ TA.okl K Hs H us := by
  rw [TA.okl_all, TA.okl_all, TA.okl_all]
  constructor
  · intro h
    exact ⟨fun t ht => h t (List.mem_append_left _ ht), fun t ht => h t (List.mem_append_right _ ht)⟩
  · rintro ⟨h1, h2⟩ t ht
    rcases List.mem_append.mp ht with z | z
    · exact h1 t z
    · exact h2 t z
theorem TA.noTupl_all : ∀ {ts : List TA}, TA.noTupl ts = true ↔ ∀ t ∈ ts, t.noTup = true
  | [] => by simp [TA.noTupl]
  | t :: r => by rw [TA.noTupl, Bool.and_eq_true, TA.noTupl_all (ts := r)]; simp
mutual
theorem TA.noTup_t : ∀ t : TA, t.t.noTup = t.noTup
  | .dead _ => rfl
  | .d _ _ => rfl
  | .nd k a ts => by rw [TA.t, T.noTup, TA.noTup, TA.noTup_tl ts]
theorem TA.noTup_tl : ∀ ts : List TA, T.noTupl (TA.tl ts) = TA.noTupl ts
  | [] => rfl
  | t :: r => by rw [TA.tl, T.noTupl, TA.noTupl, TA.noTup_t t, TA.noTup_tl r]
end
theorem TA.isDead_t (t : TA) : t.t.isDead = t.isDead := by cases t <;> rfl
theorem Kd.at_same {H H' : Hp} {k : Kd} {a : Addr} {vs : List V} (h : k.at H a vs) (e : H' a = H a) : k.at H' a vs := by
  cases k with
  | list => exact e.trans h
  | tup => exact e.trans h
  | tupw => exact e.trans h
  | dict ks => exact ⟨h.1, e.trans h.2⟩
  | inst C ns => obtain ⟨l, dx, q⟩ := h; exact ⟨l, dx, e.trans q⟩
  | exc n C => exact ⟨h.1, e.trans h.2⟩
  | exo n C => obtain ⟨d, q1, q2⟩ := h; exact ⟨d, q1, e.trans q2⟩
  | exd f => obtain ⟨d, q1, q2⟩ := h; exact ⟨d, q1, e.trans q2⟩
  | rsd n => exact h
  | abs w k => exact e.trans h
theorem Kd.at_some {H : Hp} {k : Kd} {a : Addr} {vs : List V} (h : k.at H a vs) : H a ≠ none := by
  intro z
  cases k with
  | list => rw [show H a = some (.lst vs) from h] at z; cases z
  | tup => rw [show H a = some (.tup vs) from h] at z; cases z
  | tupw => rw [show H a = some (.tup vs) from h] at z; cases z
  | dict ks => rw [show H a = some _ from h.2] at z; cases z
  | inst C ns => obtain ⟨l, dx, q⟩ := h; rw [q] at z; cases z
  | exc n C => rw [show H a = some _ from h.2] at z; cases z
  | exo n C => obtain ⟨d, q1, q2⟩ := h; rw [q2] at z; cases z
  | exd f => obtain ⟨d, q1, q2⟩ := h; rw [q2] at z; cases z
  | rsd n => exact h.elim
  | abs w k => rw [show H a = some _ from h] at z; cases z
mutual
theorem TA.fp_some {K : PySem.W.Frag} {Hs H : Hp} : ∀ (t : TA), t.ok K Hs H → ∀ a ∈ t.fp, H a ≠ none
  | .dead _, _, a, h => by simp [TA.fp] at h
  | .d _ _, _, a, h => by simp [TA.fp] at h
  | .nd k b ts, ok, a, h => by
    rw [TA.ok] at ok
    rw [TA.fp] at h
    rcases List.mem_cons.mp h with rfl | h
    · exact Kd.at_some ok.1
    · exact TA.fpl_some ts ok.2 a h
theorem TA.fpl_some {K : PySem.W.Frag} {Hs H : Hp} : ∀ (ts : List TA), TA.okl K Hs H ts → ∀ a ∈ TA.fpl ts, H a ≠ none
  | [], _, a, h => by simp [TA.fpl] at h
  | t :: r, ok, a, h => by
    rw [TA.okl] at ok
    rw [TA.fpl] at h
    rcases List.mem_append.mp h with h | h
    · exact TA.fp_some t ok.1 a h
    · exact TA.fpl_some r ok.2 a h
end
mutual
theorem TA.ok_mono {K : PySem.W.Frag} {Hs H Hs' H' : Hp} (e : Same Hs Hs') : ∀ (t : TA), t.ok K Hs H → (∀ a ∈ t.fp, H' a = H a) → t.ok K Hs' H'
  | .dead _, _, _ => by rw [TA.ok]; trivial
  | .d v x, h, _ => by rw [TA.ok] at h ⊢; exact Rp.mono e h
  | .nd k a ts, h, hf => by
    rw [TA.ok] at h ⊢
    exact ⟨Kd.at_same h.1 (hf a (by rw [TA.fp]; exact List.mem_cons_self)), TA.okl_mono e ts h.2 fun b hb => hf b (by rw [TA.fp]; exact List.mem_cons_of_mem _ hb)⟩
theorem TA.okl_mono {K : PySem.W.Frag} {Hs H Hs' H' : Hp} (e : Same Hs Hs') : ∀ (ts : List TA), TA.okl K Hs H ts → (∀ a ∈ TA.fpl ts, H' a = H a) → TA.okl K Hs' H' ts
  | [], _, _ => by rw [TA.okl]; trivial
  | t :: r, h, hf => by
    rw [TA.okl] at h ⊢
    exact ⟨TA.ok_mono e t h.1 fun b hb => hf b (by rw [TA.fpl]; exact List.mem_append_left _ hb), TA.okl_mono e r h.2 fun b hb => hf b (by rw [TA.fpl]; exact List.mem_append_right _ hb)⟩
end
mutual
/-- a tree's data stands in the whole heap -/
theorem TA.reads {K : PySem.W.Frag} {Hs H : Hp} (e : Same Hs H) : ∀ (t : TA) (x : PyData), t.ok K Hs H → t.t.data = some x → Rp K H t.v x
  | .dead _, x, _, h => by rw [TA.t, T.data] at h; cases h
  | .d v y, x, ok, h => by
    rw [TA.t, T.data] at h
    cases h
    rw [TA.ok] at ok
    exact Rp.mono e ok
  | .nd k a ts, x, ok, h => by
    rw [TA.ok] at ok
    rw [TA.t] at h
    cases k with
    | list =>
      rw [T.data, Option.map_eq_some_iff] at h
      obtain ⟨xs, h1, rfl⟩ := h
      exact .lst (.inl (.inl ok.1)) (TA.readsl e ts xs ok.2 h1)
    | tup =>
      rw [T.data, Option.map_eq_some_iff] at h
      obtain ⟨xs, h1, rfl⟩ := h
      exact .tup (SqT.of ok.1) (TA.readsl e ts xs ok.2 h1)
    | dict ks =>
      rw [T.data, Option.map_eq_some_iff] at h
      obtain ⟨xs, h1, rfl⟩ := h
      exact .dct ok.1.1 (.inl ok.1.2) (TA.readsl e ts xs ok.2 h1)
    | tupw => simp [T.data] at h
    | inst C ns => simp [T.data] at h
    | exc n C => simp [T.data] at h
    | exo n C => simp [T.data] at h
    | exd f => simp [T.data] at h
    | rsd n => simp [T.data] at h
    | abs w k => simp [T.data] at h
theorem TA.readsl {K : PySem.W.Frag} {Hs H : Hp} (e : Same Hs H) : ∀ (ts : List TA) (xs : List PyData), TA.okl K Hs H ts → T.datal (TA.tl ts) = some xs → RpAll K H (ts.map TA.v) xs
  | [], xs, _, h => by
    rw [TA.tl, T.datal] at h
    cases h
    exact .nil
  | t :: r, xs, ok, h => by
    rw [TA.okl] at ok
    rw [TA.tl, T.datal] at h
    split at h
    · rename_i x ys e1 e2
      cases h
      exact .cons (TA.reads e t x ok.1 e1) (TA.readsl e r ys ok.2 e2)
    · cases h
end
def T.at (t : T) : List Nat → Option T
  | [] => some t
  | j :: p => match t with
    | .nd _ ts => match ts[j]? with
      | some c => c.at p
      | none => none
    | _ => none
def T.put (t : T) (s : T) : List Nat → T
  | [] => s
  | j :: p => match t with
    | .nd k ts => match ts[j]? with
      | some c => .nd k (ts.set j (c.put s p))
      | none => t
    | _ => t
def TA.at (t : TA) : List Nat → Option TA
  | [] => some t
  | j :: p => match t with
    | .nd _ _ ts => match ts[j]? with
      | some c => c.at p
      | none => none
    | _ => none
def TA.put (t : TA) (s : TA) : List Nat → TA
  | [] => s
  | j :: p => match t with
    | .nd k a ts => match ts[j]? with
      | some c => .nd k a (ts.set j (c.put s p))
      | none => t
    | _ => t
theorem TA.at_t : ∀ (p : List Nat) (t : TA), t.t.at p = (t.at p).map TA.t
  | [], t => rfl
  | j :: p, t => by
    cases t with
    | dead => rfl
    | d v x => rfl
    | nd k a ts =>
      rw [TA.t, T.at, TA.at, TA.tl_map, List.getElem?_map]
      cases e : ts[j]? with
      | none => rfl
      | some c => exact TA.at_t p c
theorem TA.put_t (s : TA) : ∀ (p : List Nat) (t : TA), (t.put s p).t = t.t.put s.t p
  | [], t => rfl
  | j :: p, t => by
    cases t with
    | dead => rfl
    | d v x => rfl
    | nd k a ts =>
      rw [TA.put, TA.t, T.put, TA.tl_map, List.getElem?_map]
      cases e : ts[j]? with
      | none => simp only [Option.map_none, TA.t, TA.tl_map]
      | some c => simp only [Option.map_some, TA.t, TA.tl_map, List.map_set, TA.put_t s p c]
theorem TA.put_v (s : TA) : ∀ (p : List Nat) (t : TA) (c : TA), t.at p = some c → s.v = c.v → (t.put s p).v = t.v
  | [], t, c, h, e => by
    rw [TA.at] at h
    cases h
    exact e
  | j :: p, t, c, h, e => by
    cases t with
    | dead => rfl
    | d v x => rfl
    | nd k a ts =>
      rw [TA.put]
      cases q : ts[j]? <;> rfl
theorem getElem?_split {α : Type} {l : List α} {i : Nat} {x : α} (h : l[i]? = some x) : ∃ l1 l2, l = l1 ++ x :: l2 ∧ l1.length = i := by
  obtain ⟨hi, e⟩ := List.getElem?_eq_some_iff.mp h
  refine ⟨l.take i, l.drop (i + 1), ?_, by simp; omega⟩
  rw [← e, List.getElem_cons_drop, List.take_append_drop]
theorem set_split {α : Type} {l1 l2 : List α} {x y : α} : (l1 ++ x :: l2).set l1.length y = l1 ++ y :: l2 := by
  rw [List.set_append_right _ _ (Nat.le_refl _), Nat.sub_self]
  rfl
/-- a place's footprint lies within its tree's -/
theorem TA.lens : ∀ (p : List Nat) (t c : TA), t.at p = some c → ∃ l1 l2, t.fp = l1 ++ c.fp ++ l2 ∧ ∀ s : TA, (t.put s p).fp = l1 ++ s.fp ++ l2
  | [], t, c, h => by
    rw [TA.at] at h
    cases h
    exact ⟨[], [], by simp, fun s => by simp [TA.put]⟩
  | j :: p, t, c, h => by
    cases t with
    | dead => cases h
    | d v x => cases h
    | nd k a ts =>
      rw [TA.at] at h
      cases q : ts[j]? with
      | none => rw [q] at h; cases h
      | some b =>
        rw [q] at h
        obtain ⟨l1, l2, e1, e2⟩ := TA.lens p b c h
        obtain ⟨u1, u2, eu, hu⟩ := getElem?_split q
        refine ⟨a :: (TA.fpl u1 ++ l1), l2 ++ TA.fpl u2, ?_, fun s => ?_⟩
        · rw [TA.fp, eu, TA.fpl_append, TA.fpl, e1]
          simp
        · simp only [TA.put, q]
          rw [TA.fp, eu, ← hu, set_split, TA.fpl_append, TA.fpl, e2 s]
          simp
theorem TA.at_ok {K : PySem.W.Frag} {Hs H : Hp} : ∀ (p : List Nat) (t c : TA), t.at p = some c → t.ok K Hs H → c.ok K Hs H
  | [], t, c, h, ok => by
    rw [TA.at] at h
    cases h
    exact ok
  | j :: p, t, c, h, ok => by
    cases t with
    | dead => cases h
    | d v x => cases h
    | nd k a ts =>
      rw [TA.at] at h
      cases q : ts[j]? with
      | none => rw [q] at h; cases h
      | some b =>
        rw [q] at h
        rw [TA.ok] at ok
        exact TA.at_ok p b c h (TA.okl_all.mp ok.2 b (List.mem_of_getElem? q))
theorem TA.at_noTup : ∀ (p : List Nat) (t c : TA), t.at p = some c → t.noTup = true → c.noTup = true
  | [], t, c, h, ok => by
    rw [TA.at] at h
    cases h
    exact ok
  | j :: p, t, c, h, ok => by
    cases t with
    | dead => cases h
    | d v x => cases h
    | nd k a ts =>
      rw [TA.at] at h
      cases q : ts[j]? with
      | none => rw [q] at h; cases h
      | some b =>
        rw [q] at h
        rw [TA.noTup, Bool.and_eq_true] at ok
        exact TA.at_noTup p b c h (TA.noTupl_all.mp ok.2 b (List.mem_of_getElem? q))
theorem mem_set_or {α : Type} {l : List α} {i : Nat} {x y : α} (h : y ∈ l.set i x) : y = x ∨ y ∈ l := by
  rcases List.mem_or_eq_of_mem_set h with z | z
  · exact .inr z
  · exact .inl z
theorem TA.put_noTup (s : TA) (hs : s.noTup = true) : ∀ (p : List Nat) (t : TA), t.noTup = true → (t.put s p).noTup = true
  | [], t, ok => hs
  | j :: p, t, ok => by
    cases t with
    | dead => exact ok
    | d v x => exact ok
    | nd k a ts =>
      rw [TA.put]
      cases q : ts[j]? with
      | none => exact ok
      | some b =>
        rw [TA.noTup, Bool.and_eq_true] at ok
        simp only [TA.noTup, Bool.and_eq_true]
        refine ⟨ok.1, TA.noTupl_all.mpr fun u hu => ?_⟩
        rcases mem_set_or hu with rfl | hu
        · exact TA.put_noTup s hs p b (TA.noTupl_all.mp ok.2 b (List.mem_of_getElem? q))
        · exact TA.noTupl_all.mp ok.2 u hu
theorem map_set_same {α β : Type} (f : α → β) {l : List α} {i : Nat} {x y : α} (h : l[i]? = some x) (e : f y = f x) : (l.set i y).map f = l.map f := by
  obtain ⟨l1, l2, rfl, rfl⟩ := getElem?_split h
  rw [set_split]
  simp [e]
theorem nodup_mid {l1 m l2 : List Addr} (h : (l1 ++ m ++ l2).Nodup) : (∀ a ∈ m, a ∉ l1 ∧ a ∉ l2) ∧ m.Nodup ∧ (l1 ++ l2).Nodup := by
  rw [List.append_assoc, List.nodup_append] at h
  obtain ⟨h1, h2, h3⟩ := h
  rw [List.nodup_append] at h2
  obtain ⟨h4, h5, h6⟩ := h2
  refine ⟨fun a ha => ⟨fun z => h3 a z a (List.mem_append_left _ ha) rfl, fun z => h6 a ha a z rfl⟩, h4, ?_⟩
  rw [List.nodup_append]
  exact ⟨h1, h5, fun a ha b hb => h3 a ha b (List.mem_append_right _ hb)⟩
/-- the tree with another one at a place, in a heap that is another one there alone -/
theorem TA.put_ok {K : PySem.W.Frag} {Hs H Hs' H' : Hp} (e : Same Hs Hs') (s : TA) (hs : s.ok K Hs' H') : ∀ (p : List Nat) (t c : TA), t.at p = some c → s.v = c.v → t.ok K Hs H → t.fp.Nodup → (∀ a ∈ t.fp, a ∉ c.fp → H' a = H a) → (t.put s p).ok K Hs' H'
  | [], t, c, h, hv, ok, hn, hf => by
    exact hs
  | j :: p, t, c, h, hv, ok, hn, hf => by
    cases t with
    | dead => cases h
    | d v x => cases h
    | nd k a ts =>
      rw [TA.at] at h
      cases q : ts[j]? with
      | none => rw [q] at h; cases h
      | some b =>
        rw [q] at h
        obtain ⟨l1, l2, e1, e2⟩ := TA.lens p b c h
        obtain ⟨u1, u2, eu, hu⟩ := getElem?_split q
        rw [TA.ok] at ok
        have hcb : ∀ z ∈ c.fp, z ∈ b.fp := fun z hz => by rw [e1]; exact List.mem_append_left _ (List.mem_append_right _ hz)
        have nd' := hn
        rw [TA.fp, eu, TA.fpl_append, TA.fpl, List.nodup_cons] at nd'
        obtain ⟨n1, n2⟩ := nd'
        have n3 := nodup_mid (l1 := TA.fpl u1) (m := b.fp) (l2 := TA.fpl u2) (by rw [List.append_assoc]; exact n2)
        simp only [TA.put, q]
        rw [TA.ok]
        refine ⟨?_, ?_⟩
        · have hav : (ts.set j (b.put s p)).map TA.v = ts.map TA.v := map_set_same TA.v q (TA.put_v s p b c h hv)
          rw [hav]
          refine Kd.at_same ok.1 (hf a (by rw [TA.fp]; exact List.mem_cons_self) fun z => n1 ?_)
          exact List.mem_append_right _ (List.mem_append_left _ (hcb a z))
        · refine TA.okl_all.mpr fun u hu' => ?_
          subst eu
          subst hu
          rw [set_split] at hu'
          rw [TA.okl_append, TA.okl] at ok
          have hmem : ∀ z, z ∈ TA.fpl u1 ∨ z ∈ b.fp ∨ z ∈ TA.fpl u2 → z ∈ (TA.nd k a (u1 ++ b :: u2)).fp := fun z hz => by
            rw [TA.fp, TA.fpl_append, TA.fpl]
            refine List.mem_cons_of_mem _ ?_
            rcases hz with hz | hz | hz
            · exact List.mem_append_left _ hz
            · exact List.mem_append_right _ (List.mem_append_left _ hz)
            · exact List.mem_append_right _ (List.mem_append_right _ hz)
          have side : ∀ w : TA, w.ok K Hs H → (∀ z ∈ w.fp, z ∈ TA.fpl u1 ∨ z ∈ TA.fpl u2) → w.ok K Hs' H' := fun w hw hz => by
            refine TA.ok_mono e w hw fun z hzz => hf z ?_ ?_
            · rcases hz z hzz with y | y
              · exact hmem z (.inl y)
              · exact hmem z (.inr (.inr y))
            · intro hc
              have := n3.1 z (hcb z hc)
              rcases hz z hzz with y | y
              · exact this.1 y
              · exact this.2 y
          have inl : ∀ (us : List TA) (w : TA), w ∈ us → ∀ z ∈ w.fp, z ∈ TA.fpl us := fun us w hw z hz => by
            rw [TA.fpl_flat]
            exact List.mem_flatMap.mpr ⟨w, hw, hz⟩
          rcases List.mem_append.mp hu' with hu' | hu'
          · exact side u (TA.okl_all.mp ok.2.1 u hu') fun z hz => .inl (inl u1 u hu' z hz)
          · rcases List.mem_cons.mp hu' with rfl | hu'
            · exact TA.put_ok e s hs p b c h hv ok.2.2.1 n3.2.1 fun z hz hzc => hf z (hmem z (.inr (.inl hz))) hzc
            · exact side u (TA.okl_all.mp ok.2.2.2 u hu') fun z hz => .inr (inl u2 u hu' z hz)
/-- each table is known; what it tells are code objects of that name, which stay -/
structure TabsV (K : PySem.W.Frag) (Hs H : Hp) : Prop where
  t : ∀ p ∈ tabsK K, ∃ ps : Array Value, H p.1 = some (.tbl ps) ∧ TriplesOk ps.toList ∧ ∀ (pos : Pos) (cv : Value), codeAmong pos ps.toList = some cv → ∃ c, cv = .ref c ∧ Hs c = some (LamX.CodeO c p.2)
  n : ∀ a ∈ tabA K, Hs a = none
theorem TabsV.some_ {K : PySem.W.Frag} {Hs H : Hp} (t : TabsV K Hs H) {a : Addr} (h : a ∈ tabA K) : ∃ ps, H a = some (.tbl ps) := by
  obtain ⟨p, hp, rfl⟩ := List.mem_map.mp h
  obtain ⟨ps, e, _⟩ := t.t p hp
  exact ⟨ps, e⟩
/-- the tables stay, the shared heap grows -/
theorem TabsV.to {K : PySem.W.Frag} {Hs H Hs' H' : Hp} (t : TabsV K Hs H) (h1 : ∀ a ps, H a = some (.tbl ps) → H' a = some (.tbl ps)) (h2 : ∀ c q, Hs c = some (LamX.CodeO c q) → Hs' c = some (LamX.CodeO c q)) (h3 : ∀ a ∈ tabA K, Hs' a = none) : TabsV K Hs' H' := ⟨fun p hp => by
  obtain ⟨ps, e1, e2, e3⟩ := t.t p hp
  refine ⟨ps, h1 _ _ e1, e2, fun pos cv h => ?_⟩
  obtain ⟨c, rfl, e⟩ := e3 pos cv h
  exact ⟨c, rfl, h2 _ _ e⟩, h3⟩
theorem TabsV.grow {K : PySem.W.Frag} {Hs H Hs' H' : Hp} (t : TabsV K Hs H) (h1 : Same H H') (h2 : Same Hs Hs') (h3 : ∀ a ∈ tabA K, Hs' a = none) : TabsV K Hs' H' := t.to (fun a ps e => h1 a _ e) (fun c q e => h2 c _ e) h3
theorem TabsV.growH {K : PySem.W.Frag} {Hs H H' : Hp} (t : TabsV K Hs H) (h1 : Same H H') : TabsV K Hs H' := t.grow h1 (Same.refl _) t.n
/-- a shared object that is new -/
theorem TabsV.new {K : PySem.W.Frag} {Hs H : Hp} {p : Addr} {o : HO} (t : TabsV K Hs H) (hp : H p = none) : ∀ a ∈ tabA K, upd Hs p o a = none := fun a ha => by
  obtain ⟨ps, e⟩ := t.some_ ha
  rw [upd_ne fun z => by rw [z, hp] at e; cases e]
  exact t.n a ha
mutual
theorem TA.fp_tbl {K : PySem.W.Frag} {Hs H : Hp} : ∀ t : TA, t.ok K Hs H → ∀ a ∈ t.fp, ∀ ps, H a ≠ some (.tbl ps)
  | .dead _, _, a, h => by simp [TA.fp] at h
  | .d _ _, _, a, h => by simp [TA.fp] at h
  | .nd k b ts, ok, a, h => by
    rw [TA.ok] at ok
    rw [TA.fp] at h
    rcases List.mem_cons.mp h with rfl | h
    · intro ps
      cases k with
      | list => rw [show H a = _ from ok.1]; intro z; cases z
      | tup => rw [show H a = _ from ok.1]; intro z; cases z
      | tupw => rw [show H a = _ from ok.1]; intro z; cases z
      | dict ks => rw [show H a = _ from ok.1.2]; intro z; cases z
      | inst C ns => obtain ⟨_, dx, e⟩ := ok.1; rw [e]; intro z; cases z
      | exc n C => rw [show H a = _ from ok.1.2]; intro z; cases z
      | exo n C => obtain ⟨d, _, e⟩ := ok.1; rw [e]; intro z; cases z
      | exd f => obtain ⟨d, _, e⟩ := ok.1; rw [e]; intro z; cases z
      | rsd n => exact ok.1.elim
      | abs w k => rw [show H a = _ from ok.1]; intro z; cases z
    · exact TA.fpl_tbl ts ok.2 a h
theorem TA.fpl_tbl {K : PySem.W.Frag} {Hs H : Hp} : ∀ ts : List TA, TA.okl K Hs H ts → ∀ a ∈ TA.fpl ts, ∀ ps, H a ≠ some (.tbl ps)
  | [], _, a, h => by simp [TA.fpl] at h
  | t :: r, ok, a, h => by
    rw [TA.okl] at ok
    rw [TA.fpl] at h
    rcases List.mem_append.mp h with h | h
    · exact TA.fp_tbl t ok.1 a h
    · exact TA.fpl_tbl r ok.2 a h
end
structure B0 where
  H0 : Hp
  Hs0 : Hp
  A0 : List Addr
  pin : List (Nat × V)
structure Bs extends B0 where
  ix : List Nat
structure Rel (K : PySem.W.Frag) (B : Bs) (Hs H : Hp) (σ : L2.St) (sl tp : List TA) : Prop where
  len : sl.length = σ.length
  val : ∀ (i : Nat) (t : TA), sl[i]? = some t → t.isDead = false → σ[i]? = some (some t.v)
  ok : TA.okl K Hs H (sl ++ tp)
  uq : (TA.fpl (sl ++ tp)).Nodup
  out : ∀ a ∈ TA.fpl (sl ++ tp), Hs a = none
  sub : Same Hs H
  keep : ∀ a o, B.H0 a = some o → a ∉ B.A0 → H a = some o
  fresh : ∀ a ∈ TA.fpl (sl ++ tp), a ∈ B.A0 ∨ B.H0 a = none
  hs : Same B.Hs0 Hs
  hsNew : ∀ a, Hs a ≠ none → B.Hs0 a ≠ none ∨ a ∈ B.A0 ∨ B.H0 a = none
  ntup : ∀ t ∈ sl, t.noTup = true
  pin : ∀ p ∈ B.pin, p.1 ∈ B.ix ∧ ∃ t, sl[p.1]? = some t ∧ t.v = p.2 ∧ σ[p.1]? = some (some p.2)
  tab : TabsV K Hs H
  tabB : ∀ a ∈ tabA K, a ∈ B.A0
section
variable {K : PySem.W.Frag} {B : Bs} {Hs H Hs' H' : Hp} {σ σ' : L2.St} {sl sl' tp tp' ts xs : List TA} {t c s x : TA} {p : Addr} {i : Nat}
theorem Rel.no_tab (R : Rel K B Hs H σ sl tp) {a : Addr} (h : a ∈ TA.fpl (sl ++ tp)) : a ∉ tabA K := fun z => by
  obtain ⟨ps, e⟩ := R.tab.some_ z
  exact TA.fpl_tbl _ R.ok a h ps e
theorem fpl_mem {ts : List TA} {t : TA} {a : Addr} (h : t ∈ ts) (ha : a ∈ t.fp) : a ∈ TA.fpl ts := by
  rw [TA.fpl_flat]
  exact List.mem_flatMap.mpr ⟨t, h, ha⟩
theorem fpl_one (t : TA) : TA.fpl [t] = t.fp := by rw [TA.fpl, TA.fpl, List.append_nil]
theorem Rel.some_of (R : Rel K B Hs H σ sl tp) {a : Addr} (h : a ∈ TA.fpl (sl ++ tp)) : H a ≠ none := TA.fpl_some _ R.ok a h
theorem Rel.not_new (R : Rel K B Hs H σ sl tp) (hp : H p = none) : p ∉ TA.fpl (sl ++ tp) := fun h => R.some_of h hp
theorem Rel.new_free (R : Rel K B Hs H σ sl tp) (hp : H p = none) : p ∈ B.A0 ∨ B.H0 p = none := by
  cases q : B.H0 p with
  | none => exact .inr rfl
  | some o =>
    by_cases ha : p ∈ B.A0
    · exact .inl ha
    · have := R.keep p o q ha
      rw [hp] at this
      cases this
theorem Rel.hs_none (R : Rel K B Hs H σ sl tp) (hp : H p = none) : Hs p = none := R.sub.free hp
theorem same_upd {H : Hp} {p : Addr} {o : HO} (h : H p = none) : Same H (upd H p o) := fun b x e => by
  rw [upd_ne (ne_of_none e h)]
  exact e
theorem same_upd2 {Hs H : Hp} {p : Addr} {o : HO} (e : Same Hs H) : Same (upd Hs p o) (upd H p o) := fun b x h => by
  by_cases hb : b = p
  · subst hb; rw [upd_same] at h ⊢; exact h
  · rw [upd_ne hb] at h ⊢; exact e b x h
/-- a new frozen object -/
theorem Rel.allocF (R : Rel K B Hs H σ sl tp) (hp : H p = none) (o : HO) : Rel K B (upd Hs p o) (upd H p o) σ sl tp := by
  have hn := R.not_new hp
  have hne : ∀ a ∈ TA.fpl (sl ++ tp), a ≠ p := fun a ha e => hn (e ▸ ha)
  refine ⟨R.len, R.val, TA.okl_mono (same_upd (R.hs_none hp)) _ R.ok fun a ha => upd_ne (hne a ha), R.uq, fun a ha => by rw [upd_ne (hne a ha)]; exact R.out a ha,
    same_upd2 R.sub, fun a u h1 h2 => by rw [upd_ne (ne_of_none (R.keep a u h1 h2) hp)]; exact R.keep a u h1 h2, R.fresh, R.hs.trans (same_upd (R.hs_none hp)), fun a ha => ?_, R.ntup, R.pin, R.tab.grow (same_upd hp) (same_upd (R.hs_none hp)) (R.tab.new hp), R.tabB⟩
  by_cases e : a = p
  · subst e; exact .inr (R.new_free hp)
  · rw [upd_ne e] at ha; exact R.hsNew a ha
/-- the heap grows by things that nobody here knows -/
theorem Rel.allocN (R : Rel K B Hs H σ sl tp) (hp : H p = none) (o : HO) : Rel K B Hs (upd H p o) σ sl tp := by
  have hn := R.not_new hp
  have hne : ∀ a ∈ TA.fpl (sl ++ tp), a ≠ p := fun a ha e => hn (e ▸ ha)
  exact ⟨R.len, R.val, TA.okl_mono (Same.refl _) _ R.ok fun a ha => upd_ne (hne a ha), R.uq, R.out,
    R.sub.trans (same_upd hp), fun a u h1 h2 => by rw [upd_ne (ne_of_none (R.keep a u h1 h2) hp)]; exact R.keep a u h1 h2, R.fresh, R.hs, R.hsNew, R.ntup, R.pin, R.tab.growH (same_upd hp), R.tabB⟩
/-- all but the tables stay -/
def ExtT (K : PySem.W.Frag) (H H' : Hp) : Prop := ∀ a o, H a = some o → a ∉ tabA K → H' a = some o
theorem ExtT.of {K : PySem.W.Frag} {H H' : Hp} (h : Same H H') : ExtT K H H' := fun a o e _ => h a o e
theorem ExtT.trans {K : PySem.W.Frag} {H H' H'' : Hp} (h : ExtT K H H') (k : ExtT K H' H'') : ExtT K H H'' := fun a o e n => k a o (h a o e n) n
theorem Rel.grow (R : Rel K B Hs H σ sl tp) (e : Same H H') : Rel K B Hs H' σ sl tp := by
  refine ⟨R.len, R.val, TA.okl_mono (Same.refl _) _ R.ok fun a ha => ?_, R.uq, R.out, R.sub.trans e, fun a u h1 h2 => e _ _ (R.keep a u h1 h2), R.fresh, R.hs, R.hsNew, R.ntup, R.pin, R.tab.growH e, R.tabB⟩
  cases q : H a with
  | none => exact absurd q (R.some_of ha)
  | some o => exact e _ _ q
/-- other temporaries, out of the ones there are -/
theorem Rel.temps (R : Rel K B Hs H σ sl tp) (ok : TA.okl K Hs H tp') (sub : ∀ a ∈ TA.fpl tp', a ∈ TA.fpl tp) (uq : (TA.fpl tp').Nodup) : Rel K B Hs H σ sl tp' := by
  have hsub : ∀ a ∈ TA.fpl (sl ++ tp'), a ∈ TA.fpl (sl ++ tp) := fun a ha => by
    rw [TA.fpl_append] at ha ⊢
    rcases List.mem_append.mp ha with z | z
    · exact List.mem_append_left _ z
    · exact List.mem_append_right _ (sub a z)
  have hu := R.uq
  rw [TA.fpl_append, List.nodup_append] at hu
  refine ⟨R.len, R.val, TA.okl_append.mpr ⟨(TA.okl_append.mp R.ok).1, ok⟩, ?_, fun a ha => R.out a (hsub a ha), R.sub, R.keep, fun a ha => R.fresh a (hsub a ha), R.hs, R.hsNew, R.ntup, R.pin, R.tab, R.tabB⟩
  rw [TA.fpl_append, List.nodup_append]
  exact ⟨hu.1, uq, fun a ha b hb => hu.2.2 a ha b (sub b hb)⟩
theorem Rel.okT (R : Rel K B Hs H σ sl tp) : TA.okl K Hs H tp := (TA.okl_append.mp R.ok).2
theorem Rel.okS (R : Rel K B Hs H σ sl tp) : TA.okl K Hs H sl := (TA.okl_append.mp R.ok).1
theorem Rel.uqT (R : Rel K B Hs H σ sl tp) : (TA.fpl tp).Nodup := by
  have hu := R.uq
  rw [TA.fpl_append, List.nodup_append] at hu
  exact hu.2.1
theorem Rel.uqS (R : Rel K B Hs H σ sl tp) : (TA.fpl sl).Nodup := by
  have hu := R.uq
  rw [TA.fpl_append, List.nodup_append] at hu
  exact hu.1
theorem Rel.drop (R : Rel K B Hs H σ sl (tp ++ ts)) : Rel K B Hs H σ sl tp := by
  refine R.temps (TA.okl_append.mp R.okT).1 (fun a ha => ?_) ?_
  · rw [TA.fpl_append]; exact List.mem_append_left _ ha
  · have := R.uqT
    rw [TA.fpl_append, List.nodup_append] at this
    exact this.1
theorem Rel.leaf {v : V} {y : PyData} (R : Rel K B Hs H σ sl tp) (h : Rp K Hs v y) : Rel K B Hs H σ sl (tp ++ [.d v y]) := by
  have e : TA.fpl (tp ++ [TA.d v y]) = TA.fpl tp := by rw [TA.fpl_append, fpl_one, TA.fp, List.append_nil]
  refine R.temps (TA.okl_append.mpr ⟨R.okT, ?_⟩) (fun a ha => by rw [e] at ha; exact ha) (by rw [e]; exact R.uqT)
  rw [TA.okl, TA.ok, TA.okl]
  exact ⟨h, trivial⟩
theorem Rel.child {k : Kd} {a : Addr} {j : Nat} (R : Rel K B Hs H σ sl (tp ++ [.nd k a ts])) (h : ts[j]? = some c) : Rel K B Hs H σ sl (tp ++ [c]) := by
  have ok := R.okT
  rw [TA.okl_append, TA.okl, TA.ok] at ok
  have uq := R.uqT
  rw [TA.fpl_append, fpl_one, TA.fp] at uq
  obtain ⟨l1, l2, rfl, _⟩ := getElem?_split h
  have sub : ∀ z ∈ c.fp, z ∈ TA.fpl (l1 ++ c :: l2) := fun z hz => fpl_mem (by simp) hz
  refine R.temps (TA.okl_append.mpr ⟨ok.1, ?_⟩) (fun z hz => ?_) ?_
  · rw [TA.okl, TA.okl]
    exact ⟨TA.okl_all.mp ok.2.1.2 c (by simp), trivial⟩
  · rw [TA.fpl_append, fpl_one] at hz ⊢
    rcases List.mem_append.mp hz with z' | z'
    · exact List.mem_append_left _ z'
    · exact List.mem_append_right _ (by rw [TA.fp]; exact List.mem_cons_of_mem _ (sub z z'))
  · rw [TA.fpl_append, fpl_one]
    rw [List.nodup_append] at uq ⊢
    refine ⟨uq.1, ?_, fun z hz w hw => uq.2.2 z hz w (List.mem_cons_of_mem _ (sub w hw))⟩
    have := (List.nodup_cons.mp uq.2.1).2
    rw [TA.fpl_append, TA.fpl, ← List.append_assoc] at this
    exact (nodup_mid this).2.1
theorem Rel.kids {k : Kd} {a : Addr} (R : Rel K B Hs H σ sl (tp ++ [.nd k a ts])) : Rel K B Hs H σ sl (tp ++ ts) := by
  have ok := R.okT
  rw [TA.okl_append, TA.okl, TA.ok] at ok
  have uq := R.uqT
  rw [TA.fpl_append, fpl_one, TA.fp] at uq
  refine R.temps (TA.okl_append.mpr ⟨ok.1, ok.2.1.2⟩) (fun z hz => ?_) ?_
  · rw [TA.fpl_append] at hz ⊢
    rw [fpl_one, TA.fp]
    rcases List.mem_append.mp hz with z' | z'
    · exact List.mem_append_left _ z'
    · exact List.mem_append_right _ (List.mem_cons_of_mem _ z')
  · rw [TA.fpl_append]
    rw [List.nodup_append] at uq ⊢
    exact ⟨uq.1, (List.nodup_cons.mp uq.2.1).2, fun z hz w hw => uq.2.2 z hz w (List.mem_cons_of_mem _ hw)⟩
/-- a new node of one's own, out of temporaries -/
theorem Rel.allocO {k : Kd} {o : HO} (R : Rel K B Hs H σ sl (tp ++ ts)) (hp : H p = none) (h : k.at (upd H p o) p (ts.map TA.v)) : Rel K B Hs (upd H p o) σ sl (tp ++ [.nd k p ts]) := by
  have R' := R.allocN hp o
  have hn := R.not_new hp
  have ok := R'.okT
  rw [TA.okl_append] at ok
  have e1 : TA.fpl (sl ++ (tp ++ [.nd k p ts])) = TA.fpl sl ++ (TA.fpl tp ++ p :: TA.fpl ts) := by rw [TA.fpl_append, TA.fpl_append, fpl_one, TA.fp]
  have e2 : TA.fpl (sl ++ (tp ++ ts)) = TA.fpl sl ++ (TA.fpl tp ++ TA.fpl ts) := by rw [TA.fpl_append, TA.fpl_append]
  have pm : (TA.fpl (sl ++ (tp ++ [.nd k p ts]))).Perm (p :: TA.fpl (sl ++ (tp ++ ts))) := by
    rw [e1, e2, ← List.append_assoc, ← List.append_assoc]
    exact List.perm_middle
  have mem : ∀ a ∈ TA.fpl (sl ++ (tp ++ [.nd k p ts])), a = p ∨ a ∈ TA.fpl (sl ++ (tp ++ ts)) := fun a ha => List.mem_cons.mp (pm.mem_iff.mp ha)
  refine ⟨R'.len, R'.val, TA.okl_append.mpr ⟨R'.okS, TA.okl_append.mpr ⟨ok.1, ?_⟩⟩, pm.nodup_iff.mpr (List.nodup_cons.mpr ⟨hn, R.uq⟩), fun a ha => ?_, R'.sub, R'.keep, fun a ha => ?_, R'.hs, R'.hsNew, R'.ntup, R'.pin, R'.tab, R'.tabB⟩
  · rw [TA.okl, TA.ok, TA.okl]
    exact ⟨⟨h, ok.2⟩, trivial⟩
  · rcases mem a ha with rfl | z
    · exact R.hs_none hp
    · exact R.out a z
  · rcases mem a ha with rfl | z
    · exact R.new_free hp
    · exact R.fresh a z
/-- the shared heap with some of the owned objects in it -/
def frzH (Hs H : Hp) (A : List Addr) : Hp := fun a => if a ∈ A then H a else Hs a
theorem frzH_same {A : List Addr} (h : ∀ a ∈ A, Hs a = none) : Same Hs (frzH Hs H A) := fun a o e => by
  unfold frzH
  rw [if_neg]
  · exact e
  · intro z
    rw [h a z] at e
    cases e
theorem frzH_sub {A : List Addr} (h : Same Hs H) : Same (frzH Hs H A) H := fun a o e => by
  unfold frzH at e
  split at e
  · exact e
  · exact h a o e
/-- a whole tree as data of a heap that holds it -/
theorem TA.reads_frz (e : Same Hs H) (t : TA) {y : PyData} (ok : t.ok K Hs H) (hy : t.t.data = some y) (out : ∀ a ∈ t.fp, Hs a = none) : Rp K (frzH Hs H t.fp) t.v y := by
  refine TA.reads (frzH_same out) t y (TA.ok_mono (Same.refl _) t ok fun a ha => ?_) hy
  unfold frzH
  rw [if_pos ha]
/-- freezing: general -/
theorem Rel.frz {A : List Addr} (R : Rel K B Hs H σ sl tp) (hA : ∀ a ∈ A, a ∈ TA.fpl (sl ++ tp)) (len : sl'.length = σ.length)
    (val : ∀ (i : Nat) (t : TA), sl'[i]? = some t → t.isDead = false → σ[i]? = some (some t.v)) (ok : TA.okl K (frzH Hs H A) H (sl' ++ tp')) (uq : (TA.fpl (sl' ++ tp')).Nodup)
    (sub : ∀ a ∈ TA.fpl (sl' ++ tp'), a ∈ TA.fpl (sl ++ tp) ∧ a ∉ A) (nt : ∀ t ∈ sl', t.noTup = true) (pin : ∀ p ∈ B.pin, p.1 ∈ B.ix ∧ ∃ t, sl'[p.1]? = some t ∧ t.v = p.2 ∧ σ[p.1]? = some (some p.2)) : Rel K B (frzH Hs H A) H σ sl' tp' := by
  refine ⟨len, val, ok, uq, fun a ha => ?_, frzH_sub R.sub, R.keep, fun a ha => R.fresh a (sub a ha).1, R.hs.trans (frzH_same fun a ha => R.out a (hA a ha)), fun a ha => ?_, nt, pin, R.tab.grow (Same.refl _) (frzH_same fun a ha => R.out a (hA a ha)) (fun a ha => by unfold frzH; rw [if_neg fun z => R.no_tab (hA a z) ha]; exact R.tab.n a ha), R.tabB⟩
  · unfold frzH
    rw [if_neg (sub a ha).2]
    exact R.out a (sub a ha).1
  · unfold frzH at ha
    split at ha
    · rename_i z
      exact .inr (R.fresh a (hA a z))
    · exact R.hsNew a ha
theorem Rel.frzT {y : PyData} (R : Rel K B Hs H σ sl (tp ++ [t])) (hy : t.t.data = some y) : Rel K B (frzH Hs H t.fp) H σ sl (tp ++ [.d t.v y]) := by
  have hin : ∀ a ∈ t.fp, a ∈ TA.fpl (sl ++ (tp ++ [t])) := fun a ha => fpl_mem (by simp) ha
  have ok := TA.okl_append.mp R.ok
  have okt := TA.okl_append.mp ok.2
  have okt' : t.ok K Hs H := by have := okt.2; rw [TA.okl] at this; exact this.1
  have uq := R.uq
  rw [TA.fpl_append, TA.fpl_append, fpl_one, ← List.append_assoc, List.nodup_append] at uq
  have e1 : TA.fpl (sl ++ (tp ++ [TA.d t.v y])) = TA.fpl sl ++ TA.fpl tp := by rw [TA.fpl_append, TA.fpl_append, fpl_one, TA.fp, List.append_nil]
  have sm : Same Hs (frzH Hs H t.fp) := frzH_same fun a ha => R.out a (hin a ha)
  refine R.frz hin R.len R.val (TA.okl_append.mpr ⟨TA.okl_mono sm _ ok.1 fun _ _ => rfl, TA.okl_append.mpr ⟨TA.okl_mono sm _ okt.1 fun _ _ => rfl, ?_⟩⟩) (by rw [e1]; exact uq.1) (fun a ha => ?_) R.ntup R.pin
  · rw [TA.okl, TA.ok, TA.okl]
    exact ⟨TA.reads_frz R.sub t okt' hy fun a ha => R.out a (hin a ha), trivial⟩
  · rw [e1] at ha
    refine ⟨?_, fun z => uq.2.2 a ha a z rfl⟩
    rw [TA.fpl_append, TA.fpl_append, ← List.append_assoc]
    exact List.mem_append_left _ ha
theorem set_pre {α : Type} {l : List α} {i : Nat} {x y : α} (h : l[i]? = some x) : ∃ l1 l2, l = l1 ++ x :: l2 ∧ l.set i y = l1 ++ y :: l2 ∧ l1.length = i := by
  obtain ⟨l1, l2, rfl, rfl⟩ := getElem?_split h
  exact ⟨l1, l2, rfl, set_split, rfl⟩
theorem Rel.lens {q : List Nat} (h : sl[i]? = some t) (hc : t.at q = some c) : ∃ l1 l2, TA.fpl (sl ++ tp) = l1 ++ c.fp ++ l2 ∧ ∀ s : TA, TA.fpl (sl.set i (t.put s q) ++ tp) = l1 ++ s.fp ++ l2 := by
  obtain ⟨m1, m2, e1, e2⟩ := TA.lens q t c hc
  obtain ⟨u1, u2, eu, -, hu⟩ := set_pre (y := t) h
  refine ⟨TA.fpl u1 ++ m1, m2 ++ TA.fpl u2 ++ TA.fpl tp, ?_, fun s => ?_⟩
  · rw [eu, TA.fpl_append, TA.fpl_append, TA.fpl, e1]
    simp
  · rw [eu, ← hu, set_split, TA.fpl_append, TA.fpl_append, TA.fpl, e2]
    simp
theorem Rel.slot_ok (R : Rel K B Hs H σ sl tp) (h : sl[i]? = some t) : t.ok K Hs H := TA.okl_all.mp R.okS t (List.mem_of_getElem? h)
theorem Rel.slot_uq (R : Rel K B Hs H σ sl tp) (h : sl[i]? = some t) : t.fp.Nodup := by
  obtain ⟨l1, l2, e1, _⟩ := Rel.lens (tp := tp) (q := []) h rfl
  have := R.uq
  rw [e1] at this
  exact (nodup_mid this).2.1
/-- slots with a tree exchanged at a place for one of the same value: val, pin -/
theorem Rel.put_val {q : List Nat} (R : Rel K B Hs H σ sl tp) (h : sl[i]? = some t) (hc : t.at q = some c) (hv : s.v = c.v) (hdd : q = [] → s.isDead = false → σ[i]? = some (some s.v)) : (∀ (j : Nat) (u : TA), (sl.set i (t.put s q))[j]? = some u → u.isDead = false → σ[j]? = some (some u.v)) ∧
    ∀ p ∈ B.pin, p.1 ∈ B.ix ∧ ∃ u, (sl.set i (t.put s q))[p.1]? = some u ∧ u.v = p.2 ∧ σ[p.1]? = some (some p.2) := by
  have hi : i < sl.length := (List.getElem?_eq_some_iff.mp h).1
  have ev : (t.put s q).v = t.v := TA.put_v s q t c hc hv
  refine ⟨fun j u hu hud => ?_, fun p hp => ?_⟩
  · by_cases hj : j = i
    · subst hj
      rw [List.getElem?_set_self hi] at hu
      cases hu
      cases q with
      | nil => exact hdd rfl hud
      | cons m q =>
        rw [ev]
        refine R.val _ t h ?_
        cases t with
        | dead _ => cases hc
        | d v x => rfl
        | nd k a ts => rfl
    · rw [List.getElem?_set_ne (Ne.symm hj)] at hu
      exact R.val j u hu hud
  · obtain ⟨hx, u, h1, h3⟩ := R.pin p hp
    refine ⟨hx, ?_⟩
    by_cases hj : p.1 = i
    · rw [hj] at h1
      rw [h] at h1
      cases h1
      exact ⟨_, by rw [hj]; exact List.getElem?_set_self hi, by rw [ev]; exact h3.1, h3.2⟩
    · exact ⟨u, by rw [List.getElem?_set_ne (Ne.symm hj)]; exact h1, h3⟩
/-- something is done to the object at a place -/
theorem Rel.put {q : List Nat} (R : Rel K B Hs H σ sl (tp ++ xs)) (h : sl[i]? = some t) (hc : t.at q = some c) (hv : s.v = c.v) (hdd : q = [] → s.isDead = false → σ[i]? = some (some s.v)) (hn : s.noTup = true)
    (hH : ∀ a, a ∉ c.fp → H' a = H a) (ok : s.ok K Hs H') (uq : s.fp.Nodup) (sub : ∀ a ∈ s.fp, a ∈ c.fp ∨ a ∈ TA.fpl xs) : Rel K B Hs H' σ (sl.set i (t.put s q)) tp := by
  obtain ⟨l1, l2, e1, e2⟩ := Rel.lens (tp := tp ++ xs) h hc
  obtain ⟨m1, m2, f1, f2⟩ := Rel.lens (tp := tp) h hc
  have uq0 := R.uq
  rw [e1] at uq0
  have nm := nodup_mid uq0
  have hi : i < sl.length := (List.getElem?_eq_some_iff.mp h).1
  have hout : ∀ a ∈ c.fp, a ∈ TA.fpl (sl ++ (tp ++ xs)) := fun a ha => by rw [e1]; exact List.mem_append_left _ (List.mem_append_right _ ha)
  have hxs : ∀ a ∈ TA.fpl xs, a ∈ TA.fpl (sl ++ (tp ++ xs)) := fun a ha => by rw [TA.fpl_append, TA.fpl_append]; exact List.mem_append_right _ (List.mem_append_right _ ha)
  have hm : ∀ a ∈ m1 ++ m2, a ∉ c.fp ∧ a ∉ TA.fpl xs ∧ a ∈ TA.fpl (sl ++ (tp ++ xs)) := fun a ha => by
    have uq1 : (TA.fpl (sl ++ tp) ++ TA.fpl xs).Nodup := by rw [← TA.fpl_append, List.append_assoc]; exact R.uq
    rw [List.nodup_append] at uq1
    have hmem : a ∈ TA.fpl (sl ++ tp) := by
      rw [f1]
      rcases List.mem_append.mp ha with z | z
      · exact List.mem_append_left _ (List.mem_append_left _ z)
      · exact List.mem_append_right _ z
    have u2 := uq1.1
    rw [f1] at u2
    refine ⟨fun z => ?_, fun z => uq1.2.2 a hmem a z rfl, by rw [← List.append_assoc, TA.fpl_append]; exact List.mem_append_left _ hmem⟩
    have := (nodup_mid u2).1 a z
    rcases List.mem_append.mp ha with y | y
    · exact this.1 y
    · exact this.2 y
  have mem : ∀ a ∈ TA.fpl (sl.set i (t.put s q) ++ tp), a ∈ TA.fpl (sl ++ (tp ++ xs)) := fun a ha => by
    rw [f2 s] at ha
    rcases List.mem_append.mp ha with z | z
    · rcases List.mem_append.mp z with z | z
      · exact (hm a (List.mem_append_left _ z)).2.2
      · rcases sub a z with y | y
        · exact hout a y
        · exact hxs a y
    · exact (hm a (List.mem_append_right _ z)).2.2
  have uqS := R.uqS
  have same : Same Hs H' := fun a o e => by
    rw [hH a fun z => ?_]
    · exact R.sub a o e
    · rw [R.out a (hout a z)] at e
      cases e
  obtain ⟨pv1, pv2⟩ := R.put_val h hc hv hdd
  refine ⟨by rw [List.length_set]; exact R.len, pv1, ?_, ?_, fun a ha => R.out a (mem a ha), same, fun a o h1 h2 => ?_, fun a ha => R.fresh a (mem a ha), R.hs, R.hsNew, fun u hu => ?_, pv2, R.tab.to (fun a ps e => by rw [hH a fun z => TA.fpl_tbl _ R.ok a (hout a z) ps e]; exact e) (fun c q e => e) R.tab.n, R.tabB⟩
  · rw [TA.okl_append]
    constructor
    · refine TA.okl_all.mpr fun u hu => ?_
      obtain ⟨u1, u2, eu, es, hl⟩ := set_pre (y := t.put s q) h
      rw [es] at hu
      have okS := R.okS
      have uqS' := uqS
      rw [eu, TA.fpl_append, TA.fpl, ← List.append_assoc] at uqS'
      have nm' := nodup_mid uqS'
      obtain ⟨g1, g2, ge, _⟩ := TA.lens q t c hc
      have cin : ∀ a ∈ c.fp, a ∈ t.fp := fun a ha => by rw [ge]; exact List.mem_append_left _ (List.mem_append_right _ ha)
      have side : ∀ w : TA, w.ok K Hs H → (∀ a ∈ w.fp, a ∈ TA.fpl u1 ∨ a ∈ TA.fpl u2) → w.ok K Hs H' := fun w hw hz =>
        TA.ok_mono (Same.refl _) w hw fun a ha => hH a fun hc' => by
          have := nm'.1 a (cin a hc')
          rcases hz a ha with y | y
          · exact this.1 y
          · exact this.2 y
      rcases List.mem_append.mp hu with hu | hu
      · exact side u (TA.okl_all.mp okS u (by rw [eu]; exact List.mem_append_left _ hu)) fun a ha => .inl (fpl_mem hu ha)
      · rcases List.mem_cons.mp hu with rfl | hu
        · exact TA.put_ok (Same.refl _) s ok q t c hc hv (R.slot_ok h) (R.slot_uq h) fun a _ ha => hH a ha
        · exact side u (TA.okl_all.mp okS u (by rw [eu]; exact List.mem_append_right _ (List.mem_cons_of_mem _ hu))) fun a ha => .inr (fpl_mem hu ha)
    · refine TA.okl_mono (Same.refl _) _ (TA.okl_append.mp R.okT).1 fun a ha => hH a fun z => ?_
      have u1 := R.uq
      rw [← List.append_assoc, TA.fpl_append, List.nodup_append] at u1
      have u2 := u1.1
      rw [TA.fpl_append, List.nodup_append] at u2
      refine u2.2.2 a ?_ a ha rfl
      obtain ⟨g1, g2, ge, _⟩ := TA.lens q t c hc
      exact fpl_mem (List.mem_of_getElem? h) (by rw [ge]; exact List.mem_append_left _ (List.mem_append_right _ z))
  · rw [f2 s]
    have u0 : (TA.fpl (sl ++ tp)).Nodup := by
      have := R.uq
      rw [← List.append_assoc, TA.fpl_append, List.nodup_append] at this
      exact this.1
    rw [f1] at u0
    have nn := (nodup_mid u0).2.2
    rw [List.nodup_append] at nn
    have dis : ∀ a ∈ s.fp, a ∉ m1 ∧ a ∉ m2 := fun a ha => by
      refine ⟨fun z => ?_, fun z => ?_⟩
      · have := hm a (List.mem_append_left _ z)
        rcases sub a ha with y | y
        · exact this.1 y
        · exact this.2.1 y
      · have := hm a (List.mem_append_right _ z)
        rcases sub a ha with y | y
        · exact this.1 y
        · exact this.2.1 y
    rw [List.append_assoc, List.nodup_append]
    refine ⟨nn.1, List.nodup_append.mpr ⟨uq, nn.2.1, fun a ha b hb e => (dis a ha).2 (e ▸ hb)⟩, fun a ha b hb e => ?_⟩
    rcases List.mem_append.mp hb with y | y
    · exact (dis b y).1 (e ▸ ha)
    · exact nn.2.2 a ha b y e
  · by_cases z : a ∈ c.fp
    · rcases R.fresh a (hout a z) with y | y
      · exact absurd y h2
      · rw [h1] at y; cases y
    · rw [hH a z]
      exact R.keep a o h1 h2
  · rcases mem_set_or hu with rfl | hu
    · exact TA.put_noTup s hn q t (R.ntup t (List.mem_of_getElem? h))
    · exact R.ntup u hu
/-- the object at a place is frozen -/
theorem Rel.frzP {q : List Nat} {y : PyData} (R : Rel K B Hs H σ sl tp) (h : sl[i]? = some t) (hc : t.at q = some c) (hcd : c.isDead = false) (hy : c.t.data = some y) :
    Rel K B (frzH Hs H c.fp) H σ (sl.set i (t.put (.d c.v y) q)) tp ∧ Rp K (frzH Hs H c.fp) c.v y := by
  obtain ⟨l1, l2, e1, e2⟩ := Rel.lens (tp := tp) h hc
  have uq := R.uq
  rw [e1] at uq
  have nm := nodup_mid uq
  have hin : ∀ a ∈ c.fp, a ∈ TA.fpl (sl ++ tp) := fun a ha => by rw [e1]; exact List.mem_append_left _ (List.mem_append_right _ ha)
  have sm : Same Hs (frzH Hs H c.fp) := frzH_same fun a ha => R.out a (hin a ha)
  have okc : c.ok K Hs H := TA.at_ok q t c hc (R.slot_ok h)
  have dp : Rp K (frzH Hs H c.fp) c.v y := TA.reads_frz R.sub c okc hy fun a ha => R.out a (hin a ha)
  obtain ⟨pv1, pv2⟩ := R.put_val (s := .d c.v y) h hc rfl (fun e _ => by subst e; rw [TA.at] at hc; cases hc; exact R.val i t h hcd)
  have e3 : TA.fpl (sl.set i (t.put (.d c.v y) q) ++ tp) = l1 ++ l2 := by rw [e2, TA.fp, List.append_nil]
  refine ⟨R.frz hin (by rw [List.length_set]; exact R.len) pv1 ?_ (by rw [e3]; exact nm.2.2) (fun a ha => ?_) (fun u hu => ?_) pv2, dp⟩
  · refine TA.okl_append.mpr ⟨TA.okl_all.mpr fun u hu => ?_, TA.okl_mono sm _ R.okT fun _ _ => rfl⟩
    rcases mem_set_or hu with rfl | hu
    · exact TA.put_ok sm (.d c.v y) (by rw [TA.ok]; exact dp) q t c hc rfl (R.slot_ok h) (R.slot_uq h) fun _ _ _ => rfl
    · exact TA.ok_mono sm u (TA.okl_all.mp R.okS u hu) fun _ _ => rfl
  · rw [e3] at ha
    rw [e1]
    refine ⟨?_, fun z => ?_⟩
    · rcases List.mem_append.mp ha with y' | y'
      · exact List.mem_append_left _ (List.mem_append_left _ y')
      · exact List.mem_append_right _ y'
    · have := nm.1 a z
      rcases List.mem_append.mp ha with y' | y'
      · exact this.1 y'
      · exact this.2 y'
  · rcases mem_set_or hu with rfl | hu
    · exact TA.put_noTup _ rfl q t (R.ntup t (List.mem_of_getElem? h))
    · exact R.ntup u hu
/-- a temporary goes into a slot -/
theorem Rel.setS (R : Rel K B Hs H σ sl (tp ++ [x])) (hi : i < sl.length) (hpi : i ∉ B.ix) (hn : x.noTup = true) : Rel K B Hs H (σ.set i (some x.v)) (sl.set i x) tp := by
  have hg : sl[i]? = some sl[i] := List.getElem?_eq_getElem hi
  obtain ⟨u1, u2, eu, es, hl⟩ := set_pre (y := x) hg
  have e1 : TA.fpl (sl ++ (tp ++ [x])) = TA.fpl u1 ++ sl[i].fp ++ (TA.fpl u2 ++ TA.fpl tp ++ x.fp) := by
    conv => lhs; rw [eu]
    rw [TA.fpl_append, TA.fpl_append, TA.fpl, TA.fpl_append, fpl_one]
    simp
  have e2 : TA.fpl (sl.set i x ++ tp) = TA.fpl u1 ++ x.fp ++ (TA.fpl u2 ++ TA.fpl tp) := by
    rw [es, TA.fpl_append, TA.fpl_append, TA.fpl]
    simp
  have uq := R.uq
  rw [e1] at uq
  have nn := (nodup_mid uq).2.2
  have pm : (TA.fpl u1 ++ x.fp ++ (TA.fpl u2 ++ TA.fpl tp)).Perm (TA.fpl u1 ++ (TA.fpl u2 ++ TA.fpl tp ++ x.fp)) := by
    rw [List.append_assoc]
    exact List.Perm.append_left _ List.perm_append_comm
  have mem : ∀ a ∈ TA.fpl (sl.set i x ++ tp), a ∈ TA.fpl (sl ++ (tp ++ [x])) := fun a ha => by
    rw [e2] at ha
    rw [e1]
    have := pm.mem_iff.mp ha
    rcases List.mem_append.mp this with z | z
    · exact List.mem_append_left _ (List.mem_append_left _ z)
    · exact List.mem_append_right _ z
  have okT := TA.okl_append.mp R.okT
  have hiσ : i < σ.length := by rw [← R.len]; exact hi
  refine ⟨by rw [List.length_set, List.length_set]; exact R.len, fun j u hu hud => ?_, ?_, by rw [e2]; exact pm.nodup_iff.mpr nn, fun a ha => R.out a (mem a ha), R.sub, R.keep, fun a ha => R.fresh a (mem a ha), R.hs, R.hsNew, fun u hu => ?_, fun p hp' => ?_, R.tab, R.tabB⟩
  · by_cases hj : j = i
    · subst hj
      rw [List.getElem?_set_self hi] at hu
      cases hu
      rw [List.getElem?_set_self hiσ]
    · rw [List.getElem?_set_ne (Ne.symm hj)] at hu ⊢
      exact R.val j u hu hud
  · refine TA.okl_append.mpr ⟨TA.okl_all.mpr fun u hu => ?_, okT.1⟩
    rcases mem_set_or hu with rfl | hu
    · have := okT.2
      rw [TA.okl] at this
      exact this.1
    · exact TA.okl_all.mp R.okS u hu
  · rcases mem_set_or hu with rfl | hu
    · exact hn
    · exact R.ntup u hu
  · obtain ⟨hx, u, h1, h2⟩ := R.pin p hp'
    exact ⟨hx, u, by rw [List.getElem?_set_ne (fun z => hpi (by rw [z]; exact hx))]; exact h1, h2.1, by rw [List.getElem?_set_ne (fun z => hpi (by rw [z]; exact hx))]; exact h2.2⟩
/-- a slot's content put by, the slot dead -/
theorem Rel.hide (R : Rel K B Hs H σ sl tp) (h : sl[i]? = some t) (hpi : i ∉ B.ix) (hl : σ'.length = σ.length) (hσ : ∀ j, j ≠ i → σ'[j]? = σ[j]?) : Rel K B Hs H σ' (sl.set i (.dead .non)) (tp ++ [t]) := by
  have hi : i < sl.length := (List.getElem?_eq_some_iff.mp h).1
  obtain ⟨u1, u2, eu, es, hl'⟩ := set_pre (y := TA.dead .non) h
  have e1 : TA.fpl (sl ++ tp) = TA.fpl u1 ++ t.fp ++ (TA.fpl u2 ++ TA.fpl tp) := by
    conv => lhs; rw [eu]
    rw [TA.fpl_append, TA.fpl_append, TA.fpl]
    simp
  have e2 : TA.fpl (sl.set i (.dead .non) ++ (tp ++ [t])) = TA.fpl u1 ++ ((TA.fpl u2 ++ TA.fpl tp) ++ t.fp) := by
    rw [es, TA.fpl_append, TA.fpl_append, TA.fpl, TA.fpl_append, fpl_one, TA.fp]
    simp
  have pm : (TA.fpl (sl.set i (.dead .non) ++ (tp ++ [t]))).Perm (TA.fpl (sl ++ tp)) := by
    rw [e1, e2, List.append_assoc (TA.fpl u1) t.fp]
    exact List.Perm.append_left _ List.perm_append_comm
  have mem : ∀ a, a ∈ TA.fpl (sl.set i (.dead .non) ++ (tp ++ [t])) → a ∈ TA.fpl (sl ++ tp) := fun a => pm.mem_iff.mp
  refine ⟨by rw [List.length_set, hl]; exact R.len, fun j u hu hud => ?_, ?_, pm.nodup_iff.mpr R.uq, fun a ha => R.out a (mem a ha), R.sub, R.keep, fun a ha => R.fresh a (mem a ha), R.hs, R.hsNew, fun u hu => ?_, fun p hp' => ?_, R.tab, R.tabB⟩
  · by_cases hj : j = i
    · subst hj
      rw [List.getElem?_set_self hi] at hu
      cases hu
      cases hud
    · rw [List.getElem?_set_ne (Ne.symm hj)] at hu
      rw [hσ j hj]
      exact R.val j u hu hud
  · refine TA.okl_append.mpr ⟨TA.okl_all.mpr fun u hu => ?_, TA.okl_append.mpr ⟨R.okT, ?_⟩⟩
    · rcases mem_set_or hu with rfl | hu
      · rw [TA.ok]; trivial
      · exact TA.okl_all.mp R.okS u hu
    · rw [TA.okl, TA.okl]
      exact ⟨R.slot_ok h, trivial⟩
  · rcases mem_set_or hu with rfl | hu
    · rfl
    · exact R.ntup u hu
  · obtain ⟨hx, u, h1, h2⟩ := R.pin p hp'
    exact ⟨hx, u, by rw [List.getElem?_set_ne (fun z => hpi (by rw [z]; exact hx))]; exact h1, h2.1, by rw [hσ _ (fun z => hpi (by rw [← z]; exact hx))]; exact h2.2⟩
/-- and back again -/
theorem Rel.unhide (R : Rel K B Hs H σ' sl (tp ++ [t])) (hi : i < sl.length) (hpi : i ∉ B.ix) (hn : t.noTup = true) (hl : σ'.length = σ.length) (hσ : ∀ j, j ≠ i → σ'[j]? = σ[j]?) (ht : t.isDead = false → σ[i]? = some (some t.v)) : Rel K B Hs H σ (sl.set i t) tp := by
  have R1 := R.setS hi hpi hn
  refine ⟨by rw [List.length_set]; exact R.len.trans hl, fun j u hu hud => ?_, R1.ok, R1.uq, R1.out, R1.sub, R1.keep, R1.fresh, R1.hs, R1.hsNew, R1.ntup, fun p hp => by
    obtain ⟨hx, u, h1, h2, h3⟩ := R1.pin p hp
    have hne : p.1 ≠ i := fun z => hpi (by rw [← z]; exact hx)
    rw [List.getElem?_set_ne (Ne.symm hne)] at h3
    exact ⟨hx, u, h1, h2, by rw [← hσ _ hne]; exact h3⟩, R1.tab, R1.tabB⟩
  by_cases hj : j = i
  · subst hj
    rw [List.getElem?_set_self hi] at hu
    cases hu
    exact ht hud
  · rw [List.getElem?_set_ne (Ne.symm hj)] at hu
    rw [← hσ j hj]
    exact R.val j u hu hud
end
set_option maxHeartbeats 2000000
section
variable {prog : Program} {w : World} {A : Around} {E : Value → Shared → Prop} {s : Shared}
theorem sum_tup {t : Addr} {its : List Value} {ns : List Int} {Q : Value → Shared → Prop} (hh : A.handled = none) (ht : s.heap.IsTuple t its.toArray) (hi : IntsAre its ns) (h : ∀ h' tk t', (∀ b o, s.heap.get? b = some o → h'.get? b = some o) → Q (.int ns.sum t') { s with heap := h', toks := tk }) :
    wpAny (model prog w) A (call (.builtin "sum") [.ref t]) Q E s := by
  obtain ⟨xs, e⟩ := hi.allInts.items
  have hn : numsOf (intItems xs).toList = ns := by
    rw [← e]
    exact hi.numsOf
  rw [nums_intItems] at hn
  rw [e] at ht
  have hlt : t < s.heap.objs.size := by
    obtain ⟨_, e, _⟩ := ht
    exact Heap.lt_size e
  refine call_sum_walkG (wpAny_pyIter_tuple ht ?_)
  refine ⟨s.heap.objs.size, [s.heap.objs.size, t], [s.heap.objs.size], _, _, _, numAt xs, rfl, Walks.tuple (A := A.in1) hh _ t (Nat.ne_of_lt hlt) (intItems xs), ⟨⟨_, Heap.get?_push_size _ rfl, rfl, rfl⟩, ht.push _⟩, fun c hc => ?_, fun _ _ => intItems_at, fun h' tk t' hk => ?_⟩
  · show c < (s.heap.push _).objs.size
    rw [Heap.size_push]
    rcases List.mem_cons.mp hc with rfl | hc
    · exact Nat.lt_succ_self _
    · rcases List.mem_cons.mp hc with rfl | hc
      · exact Nat.lt_succ_of_lt hlt
      · cases hc
  · have := h h' tk t' fun b o eb => hk b o (by
      rw [List.mem_singleton]
      intro z
      have := Heap.lt_size eb
      rw [z] at this
      exact Nat.lt_irrefl _ this) (Heap.get?_push_of_some _ eb)
    rw [preSum_eq, List.take_of_length_le (by simp [intItems]), hn]
    exact this
/-- a tuple is collected: the heap grows -/
theorem collect_tupS {Q : List Value → Shared → Prop} {t : Addr} {ob : Obj} {its : Array Value} {n : Nat} (g1 : s.heap.get? t = some ob) (g2 : ob.cls = .type "tuple") (g3 : ob.data = .seq its n) (hz : its.size ≤ sizeLine)
    (hq : ∀ h', (∀ b o', s.heap.get? b = some o' → h'.get? b = some o') → s.heap.objs.size ≤ h'.objs.size → Q its.toList { s with heap := h' }) : wpAny (model prog w) A (collect (.ref t)) Q E s := by
  unfold collect; refine wpAny_bind (wpAny_runValue (codeAny_builtin F.entry_proto_collect ?_))
  rw [Around.under_plainId (id := "proto.collect") F.plain_proto_collect]
  show wpAny _ A.in1 (newList [] >>= fun u => again (.builtin "list.__iadd__" ⟨[u, .ref t], []⟩)) _ _ s
  refine wpAny_bind (wpAny_newObj_type (wpAny_pure ⟨plainId_quiet F.plain_list_iadd _, codeAny_builtin F.entry_list_iadd ?_⟩))
  rw [Around.under_plainId (id := "list.__iadd__") F.plain_list_iadd]
  generalize eh : s.heap.push { cls := .type "list", data := .seq ([] : List Value).toArray } = hp
  have hS : hp.get? s.heap.objs.size = some { cls := .type "list", data := .seq #[] 0 } := by
    rw [← eh]
    exact Heap.get?_push_size _ rfl
  have kp : ∀ b o', s.heap.get? b = some o' → hp.get? b = some o' := fun b o' e => by
    rw [← eh]
    exact Heap.get?_push_of_some _ e
  have sz : hp.objs.size = s.heap.objs.size + 1 := by
    rw [← eh]
    exact Heap.size_push ..
  show wpAny _ A.in1 (Builtin.List.listExtendWith (.ref s.heap.objs.size) (.ref t) (.ref s.heap.objs.size)) _ _ { s with heap := hp }
  have hS2 := Heap.get?_update_self (Obj.mapSeq (· ++ its)) hS rfl
  have fin : wpAny (model prog w) A (do
      match (← load s.heap.objs.size).data with
        | Data.seq xs _ => pure xs.toList
        | _ => unsupported "internal:collect") Q E { s with heap := hp.update s.heap.objs.size (Obj.mapSeq (· ++ its)) } := by
    refine wpAny_bind (wpAny_load hS2 (wpAny_pure ?_))
    show Q ((#[] : Array Value) ++ its).toList { s with heap := hp.update s.heap.objs.size (Obj.mapSeq (· ++ its)) }
    rw [show ((#[] : Array Value) ++ its).toList = its.toList by simp]
    refine hq _ (fun b o' e => (Heap.get?_update_other _ _ (Nat.ne_of_gt (Heap.lt_size e))).trans (kp b o' e)) ?_
    rw [Heap.size_update, sz]
    exact Nat.le_succ _
  refine wpAny_mono (wpAny_extend_seq (hsz := hz) (A := A) (R := fun r s2 => r = .ok (.ret (.ref s.heap.objs.size)) ∧ s2 = { s with heap := hp.update s.heap.objs.size (Obj.mapSeq (· ++ its)) }) (s := { s with heap := hp }) _ t _ 0 (.inr rfl) hS (kp _ _ g1) g2 g3 ⟨rfl, rfl⟩) (fun fn s2 q => ?_) (fun _ _ q => absurd q.1 (by simp))
  cases fn with
  | done f =>
    obtain ⟨e1, rfl⟩ := q
    cases e1
    exact fin
  | again c2 => exact ⟨q.1, codeAny_mono q.2 fun r s3 hr => by
      obtain ⟨rfl, rfl⟩ := hr
      exact fin⟩
theorem sorted_tup {t : Addr} {its : List Value} {ns : List Int} {Q : Value → Shared → Prop} (ht : s.heap.IsTuple t its.toArray) (hi : IntsAre its ns) (hz : its.length ≤ sizeLine)
    (h : ∀ (h' : Heap) (a : Addr) (out : List Value) (ep : Nat), (∀ b o, s.heap.get? b = some o → h'.get? b = some o) → s.heap.objs.size ≤ a → h'.get? a = some (seqObj "list" out.toArray ep) → IntsAre out (out.map SrtO.iv) → (out.map SrtO.iv).Perm ns → (out.map SrtO.iv).Pairwise (· ≤ ·) → Q (.ref a) { s with heap := h' }) :
    wpAny (model prog w) A (call (.builtin "sorted") [.ref t]) Q E s := by
  obtain ⟨o, g1, g2, n, g3⟩ := id ht
  refine Calls.call_function_entry (id := "sorted") kind_sorted plain_sorted entry_sorted (args_sorted1 (.ref t)) ?_
  unfold Builtin.«sorted»
  refine wpAny_bind (m := checkCount "sorted" 1 1 1) (wpAny_pure (wpAny_bind (collect_tupS g1 g2 g3 (by simpa using hz) fun h1 k1 hge => ?_)))
  refine wpAny_bind (wpAny_newList (items := its) ?_ hz)
  have hoL : (h1.push (seqObj "list" its.toArray 0)).get? h1.objs.size = some (seqObj "list" its.toArray 0) := Heap.get?_push_size _ rfl
  refine wpAny_bind (wpAny_holding (wpAny_call_entry slot_list_sort ⟨_, hoL, rfl⟩ entry_list_sort (SrtO.list_sort_ord SrtO.swo_int hoL hz (fun h2 => SrtO.ints_sortable hi h2) fun out q1 q2 => ⟨_, rfl, wpAny_pure ⟨_, rfl, ?_⟩⟩) (args_list_sort (.ref h1.objs.size))))
  obtain ⟨k2, k3, k4⟩ := SrtO.ints_out hi q1 q2
  obtain ⟨ep, he'⟩ := PyProof.Rows.sortedHeap_at (vs := its) (out := out.toArray) hoL
  refine h _ h1.objs.size out ep (fun b ob eb => ?_) hge he' k2 k3 k4
  have hb := k1 b ob eb
  have hbl := Heap.lt_size hb
  rw [PyProof.Rows.sortedHeap_old (Nat.ne_of_lt hbl) (by rw [Heap.size_push]; exact Nat.lt_succ_of_lt hbl)]
  exact Heap.get?_push_of_some _ hb
end
section
variable {X : Cx}
theorem cr_sumT (hc : X.calm = true) : CallR X (.builtin "sum") (fun vs H Q => ∃ (a : Addr) (ns : List Int), vs = [.ref a] ∧ SqT X.K H a (ns.map V.int) ∧ Q (.int ns.sum) H) := by
  intro pins s σ H vs us Q I r h
  obtain ⟨a, ns, rfl, hs, q⟩ := h
  obtain ⟨its, rv, hl, _⟩ := I.tuple hs
  rw [Vals.ref1 r]
  exact sum_tup (I.ok.hd hc) hl rv.ints fun h' tk t' hk => ⟨.int _, H, I.kept hk, ⟨_, rfl⟩, q⟩
theorem cr_sortedT : CallR X (.builtin "sorted") (fun vs H Q => ∃ (a : Addr) (ns : List Int), vs = [.ref a] ∧ SqT X.K H a (ns.map V.int) ∧ ∀ (ns' : List Int) (p : Addr), ns'.Perm ns → ns'.Pairwise (· ≤ ·) → H p = none → Q (.ref p) (upd H p (.lst (ns'.map V.int)))) := by
  intro pins s σ H vs us Q I r h
  obtain ⟨a, ns, rfl, hs, q⟩ := h
  obtain ⟨its, rv, hl, hz⟩ := I.tuple hs
  rw [Vals.ref1 r]
  have hz' : its.length ≤ sizeLine := by rw [← rv.length]; exact hz
  refine sorted_tup hl rv.ints hz' fun h' p out ep hk hp ho k1 k2 k3 => ?_
  have hlen : ((out.map SrtO.iv).map V.int).length ≤ sizeLine := by
    rw [List.length_map, k2.length_eq]
    rw [List.length_map] at hz
    exact hz
  exact ⟨.ref p, upd H p (.lst ((out.map SrtO.iv).map V.int)), I.laid (t' := s.toks) hk hp ⟨hlen, out, ep, vals_of_ints k1, ho⟩, rfl, q _ _ k2 k3 (I.hok.fresh hp)⟩
end
set_option maxHeartbeats 4000000
/-- a branch -/
def br (z : Bool) (A B : Prop) : Prop := (z = true → A) ∧ (z = false → B)
theorem br_t {A B : Prop} : br true A B = A := propext ⟨fun h => h.1 rfl, fun h => ⟨fun _ => h, fun z => by cases z⟩⟩
theorem br_f {A B : Prop} : br false A B = B := propext ⟨fun h => h.2 rfl, fun h => ⟨fun z => (by cases z), fun _ => h⟩⟩
inductive BOp where | add | sub | mul | fdiv | mod | pow | shl | shr | band deriving DecidableEq
inductive COp where | lt | le | gt | ge | eq | ne | isin | notin | is | isnot deriving DecidableEq
inductive Blt where | len | max | min | sum | abs | int | str | tuple | list | sorted | all | any | listRange deriving DecidableEq
inductive ItK where | e | rng1 | rng2 | rng3 | rrng | enum | zip deriving DecidableEq
inductive Md where | own | bor deriving DecidableEq
inductive E where
  | var (i : Nat)
  | k (x : PyData)
  | bin (op : BOp) (a b : E)
  | cmp (op : COp) (a b : E)
  | and (a b : E) | or (a b : E) | not (a : E)
  | ix (o i : E)
  | lst (es : List E) | tup (es : List E)
  | call (f : Str) (es : List E)
  | blt (b : Blt) (es : List E)
  | lc (is : List Nat) (bor : Bool) (elt : E) (it : ItK) (ies : List E) (cond : List E)
  | frz (e : E)
  | isx (e : E) (tu : Bool) (ns : List Str)
  | nex (n : Str) (m : Str)
  | nxo (n f : Str) (e : E)
  | xat (f : Str) (o : E)
inductive S where
  | asg (i : Nat) (e : E)
  | setix (o i e : E)
  | ret (e : E)
  | ife (c : E) (a b : List S)
  | for_ (is : List Nat) (it : ItK) (ies : List E) (body : List S)
  | pass
abbrev St := List T
inductive R where
  | v (t : T)
  | p (i : Nat) (q : List Nat)
structure FS where
  md : List Md
  F : List T → (T → List T → Prop) → Prop
/-- a method that changes nothing, of a class: its promise about its result, which is data -/
structure PMd where
  c : Str
  md : List Md
  F : List T → (PyData → Prop) → Prop
/-- a class: where it stands, its methods (self is the first argument; __init__ among them), the names of its fields -/
structure CI where
  C : Addr
  mt : List (Str × FS)
  fld : List Str
/-- a class of exceptions: where it stands; which classes its exceptions are of, and are not -/
structure XI where
  C : Addr
  is : List (Str × Bool)
/-- a class of exceptions with an __init__ that keeps one field -/
structure XO where
  C : Addr
  f : Str
  is : List (Str × Bool)
structure Ctx where
  fn : List (Str × FS)
  glob : List (Str × PyData)
  bs : List Str
  pin : List Nat
  cls : List (Str × CI) := []
  xfn : List (Str × FS) := []
  xcls : List (Str × CI) := []
  xc : List (Str × XI) := []
  pms : List (Str × PMd) := []
  lam : Bool := false
  xo : List (Str × XO) := []
  wd : Option World := none
/-- the names of a context: all that the checker looks at -/
structure Sk where
  fn : List Str
  bs : List Str
  pin : List Nat
  cls : List (Str × List Str × List Str)
  xfn : List Str
  xcls : List (Str × List Str × List Str)
  xc : List (Str × List Str)
  pms : List (Str × Str)
  lam : Bool
  xo : List (Str × Str)
def Ctx.sk (Γ : Ctx) : Sk := ⟨Γ.fn.map (·.1), Γ.bs, Γ.pin, Γ.cls.map (fun c => (c.1, c.2.mt.map (·.1), c.2.fld)), Γ.xfn.map (·.1), Γ.xcls.map (fun c => (c.1, c.2.mt.map (·.1), c.2.fld)), Γ.xc.map (fun c => (c.1, c.2.is.map (·.1))), Γ.pms.map (fun p => (p.1, p.2.c)), Γ.lam, Γ.xo.map (fun p => (p.1, p.2.f))⟩
def R.get (r : R) (σ : St) : Option T := match r with
  | .v t => some t
  | .p i q => match σ[i]? with
    | some t => t.at q
    | none => none
def R.top : R → Bool
  | .v _ => true
  | .p _ [] => true
  | .p _ (_ :: _) => false
def R.isP : R → Bool
  | .v _ => false
  | .p _ _ => true
def R.data (r : R) (σ : St) : Option PyData := match r.get σ with
  | some t => t.data
  | none => none
def putS (σ : St) (i : Nat) (q : List Nat) (s : T) : St := match σ[i]? with
  | some t => σ.set i (t.put s q)
  | none => σ
/-- a value to be kept: what is seen at a place is frozen there -/
def toV (pu : Bool) (r : R) (σ : St) (K : T → St → Prop) : Prop := match r with
  | .v t => K t σ
  | .p i q => pu = false ∧ match (R.p i q).data σ with
    | some x => K (.d x) (putS σ i q (.d x))
    | none => False
def toVs (pu : Bool) : List R → St → (List T → St → Prop) → Prop
  | [], σ, K => K [] σ
  | r :: rs, σ, K => toV pu r σ fun t σ1 => toVs pu rs σ1 fun ts σ2 => K (t :: ts) σ2
def T.leaves : List T → Option (List PyData)
  | [] => some []
  | .d x :: r => match T.leaves r with
    | some xs => some (x :: xs)
    | none => none
  | _ :: _ => none
/-- the items of a list, to stand in a new one -/
def R.kids (r : R) (σ : St) : Option (List T) := match r.get σ with
  | some (.d (.list xs)) => some (xs.map .d)
  | some (.nd .list ts) => match r with
    | .v _ => some ts
    | .p _ _ => if (T.leaves ts).isSome then some ts else none
  | _ => none
def T.truth : T → Option Bool
  | .d .none => some false
  | .d (.bool b) => some b
  | .d (.int i) => some (i != 0)
  | .d (.str s) => if s.length ≤ sizeLine then some ((s.length : Int) != 0) else none
  | .d (.list xs) => some (!xs.isEmpty)
  | .d (.tuple xs) => some (!xs.isEmpty)
  | .nd .list ts => some (!ts.isEmpty)
  | _ => none
def truW (r : R) (σ : St) (K : Bool → Prop) : Prop := match r.get σ with
  | some t => match t.truth with
    | some b => K b
    | none => False
  | none => False
def binI (op : BOp) (i j : Int) (K : Int → Prop) : Prop := match op with
  | .add => K (i + j)
  | .sub => K (i - j)
  | .mul => CMul i j ∧ K (i * j)
  | .fdiv => CDivW i j ∧ K (i / j)
  | .mod => 0 < j ∧ K (i % j)
  | .pow => CPow i j ∧ K (i ^ j.toNat)
  | .shl => CPow i j ∧ K (i * 2 ^ j.toNat)
  | .shr => 0 ≤ j ∧ K (i / 2 ^ j.toNat)
  | .band => K (Builtin.bitAnd i j)
def binW (op : BOp) (ra rb : R) (σ : St) (K : R → St → Prop) : Prop := match ra.get σ, rb.get σ with
  | some (.d (.int i)), some (.d (.int j)) => binI op i j fun z => K (.v (.d (.int z))) σ
  | some (.d (.str s)), some (.d (.str t)) => op = .add ∧ s.length + t.length ≤ sizeLine ∧ K (.v (.d (.str (s ++ t)))) σ
  | some (.d (.tuple xs)), some (.d (.tuple ys)) => op = .add ∧ xs.length + ys.length ≤ sizeLine ∧ K (.v (.d (.tuple (xs ++ ys)))) σ
  | some (.nd .list ts), some (.d (.int j)) => op = .mul ∧ match T.leaves ts with
    | some xs => -(2 ^ 63) ≤ j ∧ j < 2 ^ 63 ∧ xs.length * j.toNat ≤ sizeLine ∧ K (.v (.nd .list ((List.replicate j.toNat xs).flatten.map .d))) σ
    | none => False
  | _, _ => op = .add ∧ match ra.kids σ, rb.kids σ with
    | some ts, some us => ts.length + us.length ≤ sizeLine ∧ K (.v (.nd .list (ts ++ us))) σ
    | _, _ => False
def flatD : PyData → Bool
  | .none => true
  | .bool _ => true
  | .int _ => true
  | .str _ => true
  | _ => false
def eqW (x y : PyData) (K : Bool → Prop) : Prop := match x, y with
  | .int i, .int j => K (decide (i = j))
  | .str s, .str t => K (decide (s = t))
  | _, _ => SeqAt.shaped x = true ∧ SeqAt.shaped y = true ∧ K (PyData.eqv x y)
def inW (x y : PyData) (K : Bool → Prop) : Prop := match y with
  | .list xs => flatD x = true ∧ xs.all flatD = true ∧ K (xs.any fun z => PyData.eqv z x)
  | .tuple xs => flatD x = true ∧ xs.all flatD = true ∧ K (xs.any fun z => PyData.eqv z x)
  | .str s => match x with
    | .str t => K (!(Builtin.Str.occurrences s t 0 s.length 1).isEmpty)
    | _ => False
  | _ => False
def T.isNone : T → Bool
  | .d .none => true
  | _ => false
def isW (x y : T) (K : Bool → Prop) : Prop := match x, y with
  | .d (.bool a), .d (.bool b) => K (decide (a = b))
  | x, .d .none => K x.isNone
  | _, _ => False
def cmpI (op : COp) (i j : Int) (K : Bool → Prop) : Prop := match op with
  | .lt => K (decide (i < j))
  | .le => K (decide (i ≤ j))
  | .gt => K (decide (j < i))
  | .ge => K (decide (j ≤ i))
  | _ => False
def cmpW (op : COp) (ra rb : R) (σ : St) (K : Bool → Prop) : Prop := match op with
  | .eq => match ra.data σ, rb.data σ with
    | some x, some y => eqW x y K
    | _, _ => False
  | .ne => match ra.data σ, rb.data σ with
    | some x, some y => eqW x y fun b => K (!b)
    | _, _ => False
  | .isin => match ra.data σ, rb.data σ with
    | some x, some y => inW x y K
    | _, _ => False
  | .notin => match ra.data σ, rb.data σ with
    | some x, some y => inW x y fun b => K (!b)
    | _, _ => False
  | .is => match ra.get σ, rb.get σ with
    | some x, some y => isW x y K
    | _, _ => False
  | .isnot => match ra.get σ, rb.get σ with
    | some x, some y => isW x y fun b => K (!b)
    | _, _ => False
  | op => match ra.get σ, rb.get σ with
    | some (.d (.int i)), some (.d (.int j)) => cmpI op i j K
    | _, _ => False
def ixW (ro ri : R) (σ : St) (K : R → St → Prop) : Prop := match ro.get σ, ri.get σ with
  | some (.d (.list xs)), some (.d (.int i)) => match atI xs i with
    | some x => K (.v (.d x)) σ
    | none => False
  | some (.d (.tuple xs)), some (.d (.int i)) => match atI xs i with
    | some x => K (.v (.d x)) σ
    | none => False
  | some (.d (.str s)), some (.d (.int i)) => s.length ≤ sizeLine ∧ match atI s.cps.toList i with
    | some c => K (.v (.d (.str ⟨#[c]⟩))) σ
    | none => False
  | some (.nd .list ts), some (.d (.int i)) => match ixN ts.length i with
    | some j => match ts[j]? with
      | some (.d x) => K (.v (.d x)) σ
      | some (.nd k us) => match ro with
        | .v _ => K (.v (.nd k us)) σ
        | .p a q => K (.p a (q ++ [j])) σ
      | _ => False
    | none => False
  | some (.nd .tupw ts), some (.d (.int i)) => match ixN ts.length i with
    | some j => match ts[j]? with
      | some (.d x) => K (.v (.d x)) σ
      | some (.nd k us) => match ro with
        | .v _ => K (.v (.nd k us)) σ
        | .p a q => K (.p a (q ++ [j])) σ
      | _ => False
    | none => False
  | some (.nd .tup ts), some (.d (.int i)) => match ixN ts.length i with
    | some j => match ts[j]? with
      | some (.d x) => K (.v (.d x)) σ
      | _ => False
    | none => False
  | _, _ => False
def mkTup (ts : List T) : T := match T.leaves ts with
  | some xs => .d (.tuple xs)
  | none => .nd .tup ts
mutual
/-- no list, no dict within: may be shared whatever is done -/
def immD : PyData → Bool
  | .none => true
  | .bool _ => true
  | .int _ => true
  | .str _ => true
  | .tuple xs => immDl xs
  | .list _ => false
  | .dict _ => false
def immDl : List PyData → Bool
  | [] => true
  | x :: xs => immD x && immDl xs
end
mutual
def T.flat : T → Bool
  | .dead => true
  | .d x => immD x
  | .nd _ ts => T.flatl ts
def T.flatl : List T → Bool
  | [] => true
  | t :: r => t.flat && T.flatl r
end
def passes : List Md → List R → St → Option (List T × Bool)
  | [], [], _ => some ([], false)
  | m :: ms, r :: rs, σ => match r.get σ, passes ms rs σ with
    | some (.d x), some (ts, b) => some (.d x :: ts, b)
    | some (.nd k us), some (ts, b) => match m with
      | .own => if r.isP || (T.nd k us).noTup then some (.nd k us :: ts, b) else none
      | .bor => match (T.nd k us).data with
        | some x => some (.d x :: ts, b || r.isP)
        | none => none
    | _, _ => none
  | _, _, _ => none
def backs : List Md → List R → List T → St → St
  | m :: ms, r :: rs, t :: ts, σ => match m, r with
    | .own, .p i q => putS (backs ms rs ts σ) i q t
    | _, _ => backs ms rs ts σ
  | _, _, _, σ => σ
/-- the slots that are handed in by place: those that may be changed, those that are lent -/
def ownPl : List Md → List R → List Nat
  | .own :: ms, .p i _ :: rs => i :: ownPl ms rs
  | _ :: ms, _ :: rs => ownPl ms rs
  | _, _ => []
def borPl : List Md → List R → List Nat
  | .bor :: ms, .p i _ :: rs => i :: borPl ms rs
  | _ :: ms, _ :: rs => borPl ms rs
  | _, _ => []
def apart (md : List Md) (rs : List R) : Bool := decide (ownPl md rs).Nodup && (borPl md rs).all fun i => !(ownPl md rs).contains i
def callW (fs : FS) (pu : Bool) (rs : List R) (σ : St) (K : R → St → Prop) : Prop := match passes fs.md rs σ with
  | some (ts, b) => apart fs.md rs = true ∧ (pu = true → fs.md.all (fun m => decide (m = .bor)) = true) ∧ fs.F ts fun r ts' => (b = true → r.flat = true ∧ T.flatl ts' = true) ∧ K (.v r) (backs fs.md rs ts' σ)
  | none => False
def intsOf : List PyData → Option (List Int)
  | [] => some []
  | .int i :: r => match intsOf r with
    | some ns => some (i :: ns)
    | none => none
  | _ :: _ => none
def boolsOf : List PyData → Option (List Bool)
  | [] => some []
  | .bool i :: r => match boolsOf r with
    | some ns => some (i :: ns)
    | none => none
  | _ :: _ => none
def maxL : List Int → Int
  | [] => 0
  | [x] => x
  | x :: y :: r => max x (maxL (y :: r))
def minL : List Int → Int
  | [] => 0
  | [x] => x
  | x :: y :: r => min x (minL (y :: r))
def sortI (ns : List Int) : List Int := ns.mergeSort fun a b => decide (a ≤ b)
def bltD (b : Blt) (xs : List PyData) (K : T → Prop) : Prop := match b, xs with
  | .max, [.list ys] => match intsOf ys with
    | some ns => ns ≠ [] ∧ K (.d (.int (maxL ns)))
    | none => False
  | .max, [.int i, .int j] => K (.d (.int (max i j)))
  | .min, [.list ys] => match intsOf ys with
    | some ns => ns ≠ [] ∧ K (.d (.int (minL ns)))
    | none => False
  | .min, [.int i, .int j] => K (.d (.int (min i j)))
  | .sum, [.list ys] => match intsOf ys with
    | some ns => K (.d (.int ns.sum))
    | none => False
  | .sum, [.tuple ys] => match intsOf ys with
    | some ns => K (.d (.int ns.sum))
    | none => False
  | .all, [.list ys] => match boolsOf ys with
    | some bs => K (.d (.bool (bs.all id)))
    | none => False
  | .any, [.list ys] => match boolsOf ys with
    | some bs => K (.d (.bool (bs.any id)))
    | none => False
  | .sorted, [.list ys] => match intsOf ys with
    | some ns => K (.nd .list ((sortI ns).map fun i => .d (.int i)))
    | none => False
  | .sorted, [.tuple ys] => match intsOf ys with
    | some ns => K (.nd .list ((sortI ns).map fun i => .d (.int i)))
    | none => False
  | .abs, [.int i] => K (.d (.int (if i < 0 then -i else i)))
  | .int, [.int i] => K (.d (.int i))
  | .int, [.bool k] => K (.d (.int (if k then 1 else 0)))
  | .int, [.str s] => match PySem.intText? s with
    | some n => s.length ≤ 640 ∧ K (.d (.int n))
    | none => False
  | .str, [.int i] => i.natAbs.log2 < 1920 ∧ K (.d (.str (toString i)))
  | .listRange, [.int j] => -(2 ^ 62) ≤ j ∧ j ≤ 1000000 ∧ K (.nd .list ((List.range j.toNat).map fun (n : Nat) => T.d (.int (n : Int))))
  | .len, [.str s] => s.length ≤ sizeLine ∧ K (.d (.int s.length))
  | .len, [.list ys] => K (.d (.int ys.length))
  | .len, [.tuple ys] => K (.d (.int ys.length))
  | _, _ => False
def R.datas (σ : St) : List R → Option (List PyData)
  | [] => some []
  | r :: rs => match r.data σ, R.datas σ rs with
    | some x, some xs => some (x :: xs)
    | _, _ => none
def bltW (b : Blt) (rs : List R) (σ : St) (K : R → St → Prop) : Prop := match b with
  | .list => match rs with
    | [r] => match r.get σ with
      | some (.d (.tuple xs)) => K (.v (.nd .list (xs.map .d))) σ
      | _ => match r.kids σ with
        | some ts => K (.v (.nd .list ts)) σ
        | none => False
    | _ => False
  | .tuple => match rs with
    | [r] => match r.get σ with
      | some (.d (.tuple xs)) => K (.v (.d (.tuple xs))) σ
      | some (.d (.list xs)) => K (.v (.d (.tuple xs))) σ
      | some (.nd .list ts) => match T.leaves ts with
        | some xs => K (.v (.d (.tuple xs))) σ
        | none => False
      | _ => False
    | _ => False
  | .len => match rs with
    | [r] => match r.get σ with
      | some (.nd .list ts) => K (.v (.d (.int ts.length))) σ
      | some (.nd .tupw ts) => K (.v (.d (.int ts.length))) σ
      | some (.d x) => bltD .len [x] fun t => K (.v t) σ
      | _ => False
    | _ => False
  | b => match R.datas σ rs with
    | some xs => bltD b xs fun t => K (.v t) σ
    | none => False
/-- something is done to a list at a place -/
def atList (r : R) (σ : St) (K : List T → (List T → St) → Prop) : Prop := match r with
  | .p i q => match r.get σ with
    | some (.nd .list ts) => K ts fun us => putS σ i q (.nd .list us)
    | _ => False
  | .v _ => False
/-- what a loop goes through -/
def rngL (i : Int) (n : Nat) : List PyData := (List.range n).map fun k => .int (i + (k : Nat))
def rngC (i c : Int) (n : Nat) : List PyData := (List.range n).map fun k => .int (i + (k : Nat) * c)
def inR (i : Int) : Prop := -(2 ^ 62) ≤ i ∧ i < 2 ^ 62
def enumL (xs : List PyData) : List PyData := (List.range xs.length).map fun k => .tuple [.int (k : Nat), xs.getD k .none]
def zipL (xs ys : List PyData) : List PyData := (List.range xs.length).map fun k => .tuple [xs.getD k .none, ys.getD k .none]
def seqW (pu bor : Bool) (r : R) (σ : St) (K : List PyData → St → Prop) : Prop := match r.get σ with
  | some (.d (.list xs)) => K xs σ
  | some (.nd .list ts) => match bor with
    | true => match T.leaves ts with
      | some xs => K xs σ
      | none => False
    | false => match (T.nd .list ts).data with
      | some (.list xs) => match r with
        | .v _ => K xs σ
        | .p i q => pu = false ∧ K xs (putS σ i q (.d (.list xs)))
      | _ => False
  | _ => False
def strIt (s : Str) : List PyData := s.cps.toList.map fun c => .str ⟨#[c]⟩
def itW (pu bor : Bool) (it : ItK) (rs : List R) (σ : St) (K : List PyData → St → Prop) : Prop := match it, rs with
  | .e, [r] => match r.get σ with
    | some (.d (.tuple xs)) => K xs σ
    | some (.d (.str s)) => K (strIt s) σ
    | _ => seqW pu bor r σ K
  | .enum, [r] => match r.get σ with
    | some (.d (.tuple xs)) => K (enumL xs) σ
    | _ => seqW pu bor r σ fun xs σ1 => K (enumL xs) σ1
  | .zip, [r, r'] => match r.get σ, r'.get σ with
    | some (.d (.list xs)), some (.d (.list ys)) => xs.length = ys.length ∧ K (zipL xs ys) σ
    | _, _ => False
  | .rng1, [r] => match r.get σ with
    | some (.d (.int j)) => inR j ∧ K (rngL 0 j.toNat) σ
    | _ => False
  | .rng2, [r, r'] => match r.get σ, r'.get σ with
    | some (.d (.int i)), some (.d (.int j)) => inR i ∧ inR j ∧ K (rngL i (j - i).toNat) σ
    | _, _ => False
  | .rng3, [r, r', r''] => match r.get σ, r'.get σ, r''.get σ with
    | some (.d (.int i)), some (.d (.int j)), some (.d (.int (-1))) => inR i ∧ inR j ∧ K (rngC i (-1) (i - j).toNat) σ
    | some (.d (.int i)), some (.d (.int j)), some (.d (.int c)) => ∃ n, RgC i j c n ∧ K (rngC i c n) σ
    | _, _, _ => False
  | .rrng, [r] => match r.get σ with
    | some (.d (.int j)) => inR j ∧ K (rngC ((j.toNat : Int) - 1) (-1) j.toNat) σ
    | _ => False
  | _, _ => False
/-- an item is given to its names -/
def setsD : List Nat → List PyData → St → Option St
  | [], [], σ => some σ
  | i :: is, x :: xs, σ => if i < σ.length then setsD is xs (σ.set i (.d x)) else none
  | _, _, _ => none
def bindD (is : List Nat) (x : PyData) (σ : St) : Option St := match is with
  | [i] => setsD [i] [x] σ
  | is => match x with
    | .tuple xs => setsD is xs σ
    | _ => none
def wipeT (σ : St) : List Nat → St
  | [] => σ
  | v :: vs => (wipeT σ vs).set v .dead
/-- the names as they were ahead of it -/
def restT (σ0 : St) : List Nat → St → St
  | [], σ => σ
  | i :: is, σ => restT σ0 is (σ.set i (σ0.getD i .dead))
def lcW (is : List Nat) (σ0 : St) (tst : St → (Bool → St → Prop) → Prop) (el : St → (T → St → Prop) → Prop) : List PyData → List T → St → (List T → St → Prop) → Prop
  | [], acc, σ, K => K acc σ
  | x :: xs, acc, σ, K => match bindD is x (wipeT σ is) with
    | some σ1 => tst σ1 fun b σ2 => br b (el σ2 fun t σ3 => acc.length < sizeLine ∧ lcW is σ0 tst el xs (acc ++ [t]) (restT σ0 is σ3) K) (lcW is σ0 tst el xs acc (restT σ0 is σ2) K)
    | none => False
def free (Γ : Ctx) (is : List Nat) : Bool := is.all fun i => !Γ.pin.contains i
/-- of which classes a kept exception is -/
def anyIs (l : List (Str × Bool)) : List Str → Option Bool
  | [] => some false
  | n :: ns => match l.lookup n, anyIs l ns with
    | some b, some c => some (b || c)
    | _, _ => none
def isxW (Γ : Ctx) (r : R) (ns : List Str) (σ : St) (K : Bool → Prop) : Prop := match r.get σ with
  | some (.nd (.exc n C) _) => match Γ.xc.lookup n with
    | some xi => xi.C = C ∧ match anyIs xi.is ns with
      | some b => K b
      | none => False
    | none => False
  | some (.nd (.exo n C) [.nd (.exd _) [.d _]]) => match Γ.xo.lookup n with
    | some xo => xo.C = C ∧ match anyIs xo.is ns with
      | some b => K b
      | none => False
    | none => False
  | _ => False
mutual
def wE (Γ : Ctx) : Bool → E → St → (R → St → Prop) → Prop
  | pu, .var i, σ, K => match σ[i]? with
    | some (.d x) => K (.v (.d x)) σ
    | some (.nd _ _) => K (.p i []) σ
    | _ => False
  | pu, .k x, σ, K => K (.v (.d x)) σ
  | pu, .bin op a b, σ, K => wE Γ pu a σ fun ra σ1 => wE Γ (pu || !ra.top) b σ1 fun rb σ2 => binW op ra rb σ2 K
  | pu, .cmp op a b, σ, K => wE Γ pu a σ fun ra σ1 => wE Γ (pu || !ra.top) b σ1 fun rb σ2 => cmpW op ra rb σ2 fun z => K (.v (.d (.bool z))) σ2
  | pu, .and a b, σ, K => wE Γ pu a σ fun ra σ1 => truW ra σ1 fun c => br c (wE Γ pu b σ1 K) (K ra σ1)
  | pu, .or a b, σ, K => wE Γ pu a σ fun ra σ1 => truW ra σ1 fun c => br c (K ra σ1) (wE Γ pu b σ1 K)
  | pu, .not a, σ, K => wE Γ pu a σ fun ra σ1 => truW ra σ1 fun c => K (.v (.d (.bool (!c)))) σ1
  | pu, .ix o i, σ, K => wE Γ pu o σ fun ro σ1 => wE Γ (pu || !ro.top) i σ1 fun ri σ2 => ixW ro ri σ2 K
  | _, .nex n _, σ, K => match Γ.xc.lookup n with
    | some xi => K (.v (.nd (.exc n xi.C) [])) σ
    | none => False
  | pu, .nxo n f e, σ, K => wE Γ pu e σ fun r σ1 => match r.get σ1, Γ.xo.lookup n with
    | some (.d x), some xo => xo.f = f ∧ K (.v (.nd (.exo n xo.C) [.nd (.exd f) [.d x]])) σ1
    | _, _ => False
  | pu, .xat f o, σ, K => wE Γ pu o σ fun r σ1 => match r.get σ1 with
    | some (.nd (.exo n C) [.nd (.exd g) [.d x]]) => match Γ.xo.lookup n with
      | some xo => (xo.C = C ∧ f = g ∧ xo.f = f) ∧ K (.v (.d x)) σ1
      | none => False
    | _ => False
  | pu, .lst es, σ, K => wA Γ pu es σ fun rs σ1 => toVs pu rs σ1 fun ts σ2 => ts.length ≤ sizeLine ∧ K (.v (.nd .list ts)) σ2
  | pu, .tup es, σ, K => wA Γ pu es σ fun rs σ1 => toVs pu rs σ1 fun ts σ2 => ts.length ≤ sizeLine ∧ K (.v (mkTup ts)) σ2
  | pu, .call f es, σ, K => wA Γ pu es σ fun rs σ1 => match Γ.fn.lookup f with
    | some fs => callW fs pu rs σ1 K
    | none => False
  | pu, .blt b es, σ, K => wA Γ pu es σ fun rs σ1 => bltW b rs σ1 K
  | pu, .lc is bor elt it ies cond, σ, K => wA Γ pu ies σ fun rs σ1 => itW pu bor it rs σ1 fun xs σ2 =>
      lcW is σ2 (fun σ3 Q => wC Γ (pu || bor) cond σ3 Q) (fun σ3 Q => wE Γ (pu || bor) elt σ3 fun r σ4 => toV (pu || bor) r σ4 Q) xs [] σ2 fun acc σ3 => K (.v (.nd .list acc)) σ3
  | pu, .frz e, σ, K => wE Γ pu e σ fun r σ1 => toV pu r σ1 fun t σ2 => match t.data with
    | some x => K (.v (.d x)) σ2
    | none => False
  | pu, .isx e tu ns, σ, K => wE Γ pu e σ fun r σ1 => isxW Γ r ns σ1 fun z => K (.v (.d (.bool z))) σ1
def wA (Γ : Ctx) : Bool → List E → St → (List R → St → Prop) → Prop
  | pu, [], σ, K => K [] σ
  | pu, e :: es, σ, K => wE Γ pu e σ fun r σ1 => wA Γ (pu || !r.top) es σ1 fun rs σ2 => K (r :: rs) σ2
def wN (Γ : Ctx) : Bool → List E → St → (List Int → St → Prop) → Prop
  | pu, [], σ, K => K [] σ
  | pu, e :: es, σ, K => wE Γ pu e σ fun r σ1 => match r.get σ1 with
    | some (.d (.int i)) => wN Γ pu es σ1 fun ns σ2 => K (i :: ns) σ2
    | _ => False
def wL (Γ : Ctx) : Bool → List E → St → (List PyData → St → Prop) → Prop
  | pu, [], σ, K => K [] σ
  | pu, e :: es, σ, K => wE Γ pu e σ fun r σ1 => match r with
    | .v (.d x) => wL Γ pu es σ1 fun xs σ2 => K (x :: xs) σ2
    | _ => False
def wC (Γ : Ctx) : Bool → List E → St → (Bool → St → Prop) → Prop
  | pu, [], σ, K => K true σ
  | pu, e :: es, σ, K => es = [] ∧ wE Γ pu e σ fun r σ1 => truW r σ1 fun b => K b σ1
end
def wT (Γ : Ctx) (pu : Bool) (e : E) (σ : St) (K : Bool → St → Prop) : Prop := wE Γ pu e σ fun r σ1 => truW r σ1 fun b => K b σ1
structure AE where
  nx : St → Prop
  rt : T → St → Prop
  bk : St → Prop := fun _ => False
  ct : St → Prop := fun _ => False
  ex : Str → St → Prop := fun _ _ => False
def forW (is : List Nat) (bd : AE → St → Prop) (D : AE) : List PyData → St → Prop
  | [], σ => D.nx σ
  | x :: xs, σ => match bindD is x σ with
    | some σ1 => bd { nx := forW is bd D xs, rt := D.rt, bk := D.nx, ct := forW is bd D xs, ex := D.ex } σ1
    | none => False
def setixW (ro ri : R) (t : T) (σ : St) (K : St → Prop) : Prop := t.noTup = true ∧ t.isDead = false ∧ atList ro σ fun ts bk => match ri.get σ with
  | some (.d (.int i)) => match ixN ts.length i with
    | some j => K (bk (ts.set j t))
    | none => False
  | _ => False
mutual
def wS (Γ : Ctx) : S → AE → St → Prop
  | .asg i e, D, σ => free Γ [i] = true ∧ wE Γ false e σ fun r σ1 => toV false r σ1 fun t σ2 => t.noTup = true ∧ i < σ2.length ∧ D.nx (σ2.set i t)
  | .setix o i e, D, σ => wE Γ false e σ fun r σ1 => toV false r σ1 fun t σ2 => wE Γ false o σ2 fun ro σ3 => wE Γ (!ro.top) i σ3 fun ri σ4 => setixW ro ri t σ4 D.nx
  | .ret e, D, σ => wE Γ false e σ fun r σ1 => match r with
    | .v t => D.rt t σ1
    | .p i q => if Γ.pin.contains i then toV false r σ1 D.rt else match r.get σ1 with
      | some t => D.rt t (σ1.set i .dead)
      | none => False
  | .ife c a b, D, σ => wT Γ false c σ fun z σ1 => br z (wSs Γ a D σ1) (wSs Γ b D σ1)
  | .for_ is it ies body, D, σ => free Γ is = true ∧ wA Γ false ies σ fun rs σ1 => itW false false it rs σ1 fun xs σ2 => forW is (fun D' σ' => wSs Γ body D' σ') D xs σ2
  | .pass, D, σ => D.nx σ
def wSs (Γ : Ctx) : List S → AE → St → Prop
  | [], D, σ => D.nx σ
  | s :: r, D, σ => wS Γ s { D with nx := fun σ' => wSs Γ r D σ' } σ
end
/-- what a result is, in the trees with addresses -/
def RR (r : R) (v : V) (sl nw : List TA) : Prop := match r with
  | .v t => ∃ x, nw = [x] ∧ x.t = t ∧ x.v = v ∧ x.isDead = false
  | .p i q => nw = [] ∧ ∃ t c, sl[i]? = some t ∧ t.at q = some c ∧ c.v = v ∧ c.isDead = false
/-- from one state of the slots to a later one -/
structure Stp (pu : Bool) (H H' : Hp) (sl sl' : List TA) : Prop where
  pure : pu = true → sl' = sl ∧ LamX.ExtN H H'
  live : ∀ (i : Nat) t, sl[i]? = some t → t.isDead = false → ∃ t', sl'[i]? = some t' ∧ t'.isDead = false
section
variable {K : PySem.W.Frag} {B : Bs} {Hs H H' H1 H2 Hs' : Hp} {σ : L2.St} {sl sl' sl1 sl2 tp tp' nw nw' : List TA} {pu pu' : Bool} {r r' : R} {v v' : V}
theorem Stp.refl : Stp pu H H sl sl := ⟨fun _ => ⟨rfl, LamX.ExtN.refl _⟩, fun i t h d => ⟨t, h, d⟩⟩
theorem Stp.ext (h : LamX.ExtN H H') : Stp pu H H' sl sl := ⟨fun _ => ⟨rfl, h⟩, fun i t h d => ⟨t, h, d⟩⟩
theorem Stp.same (h : Same H H') : Stp pu H H' sl sl := ⟨fun _ => ⟨rfl, LamX.ExtN.of h⟩, fun i t h d => ⟨t, h, d⟩⟩
theorem Stp.trans (a : Stp pu H H1 sl sl1) (b : Stp pu' H1 H2 sl1 sl2) (h : pu = true → pu' = true) : Stp pu H H2 sl sl2 := by
  refine ⟨fun hp => ?_, fun i t ht hd => ?_⟩
  · obtain ⟨e1, s1⟩ := a.pure hp
    obtain ⟨e2, s2⟩ := b.pure (h hp)
    exact ⟨e2.trans e1, s1.trans s2⟩
  · obtain ⟨t1, h1, d1⟩ := a.live i t ht hd
    exact b.live i t1 h1 d1
theorem Stp.weak (a : Stp pu H H' sl sl') (h : pu' = true → pu = true) : Stp pu' H H' sl sl' := ⟨fun hp => a.pure (h hp), a.live⟩
/-- a result stays what it is -/
theorem RR.stay (h : RR r v sl nw) (R1 : Rel K B Hs H σ sl tp) (R2 : Rel K B Hs' H' σ sl' tp') (s : Stp pu H H' sl sl') (ht : r.top = false → pu = true) : RR r v sl' nw := by
  cases r with
  | v t => exact h
  | p i q =>
    obtain ⟨e, t, c, h1, h2, h3, h4⟩ := h
    refine ⟨e, ?_⟩
    cases q with
    | nil =>
      rw [TA.at] at h2
      cases h2
      obtain ⟨t', g1, g2⟩ := s.live i t h1 h4
      refine ⟨t', t', g1, rfl, ?_, g2⟩
      have e1 := R1.val i t h1 h4
      have e2 := R2.val i t' g1 g2
      rw [e1] at e2
      have e3 : t.v = t'.v := by simpa using e2
      rw [← e3]
      exact h3
    | cons j q =>
      have := (s.pure (ht rfl)).1
      rw [this]
      exact ⟨t, c, h1, h2, h3, h4⟩
theorem tl_get (sl : List TA) (i : Nat) : (TA.tl sl)[i]? = (sl[i]?).map TA.t := by rw [TA.tl_map, List.getElem?_map]
theorem RR.get (h : RR r v sl nw) (R1 : Rel K B Hs H σ sl (tp ++ nw)) : ∃ c : TA, r.get (TA.tl sl) = some c.t ∧ c.v = v ∧ c.isDead = false ∧ c.ok K Hs H ∧ (∀ a ∈ c.fp, a ∈ TA.fpl (sl ++ (tp ++ nw))) ∧ (r.isP = false → nw = [c]) ∧ (∀ i q, r = .p i q → ∃ t, sl[i]? = some t ∧ t.at q = some c) := by
  cases r with
  | v t =>
    obtain ⟨x, e1, e2, e3, e4⟩ := h
    subst e1
    refine ⟨x, ?_, e3, e4, ?_, fun a ha => fpl_mem (by simp) ha, fun _ => rfl, fun i q z => by cases z⟩
    · rw [R.get, e2]
    · have := TA.okl_append.mp R1.okT
      have h2 := this.2
      rw [TA.okl] at h2
      exact h2.1
  | p i q =>
    obtain ⟨e, t, c, h1, h2, h3, h4⟩ := h
    refine ⟨c, ?_, h3, h4, TA.at_ok q t c h2 (R1.slot_ok h1), fun a ha => ?_, fun z => (by cases z), fun i' q' z => by cases z; exact ⟨t, h1, h2⟩⟩
    · rw [R.get, tl_get, h1]
      simp only [Option.map_some]
      rw [TA.at_t, h2]
      rfl
    · obtain ⟨l1, l2, e1, _⟩ := TA.lens q t c h2
      exact fpl_mem (List.mem_append_left _ (List.mem_of_getElem? h1)) (by rw [e1]; exact List.mem_append_left _ (List.mem_append_right _ ha))
/-- its data in the heap -/
theorem RR.dp {x : PyData} (h : RR r v sl nw) (R1 : Rel K B Hs H σ sl (tp ++ nw)) (hx : r.data (TA.tl sl) = some x) : Rp K H v x := by
  obtain ⟨c, h1, h2, h3, h4, _⟩ := h.get R1
  rw [R.data, h1] at hx
  rw [← h2]
  exact TA.reads R1.sub c x h4 hx
theorem RR.dpT {x : PyData} (h : RR r v sl nw) (R1 : Rel K B Hs H σ sl (tp ++ nw)) (hx : r.get (TA.tl sl) = some (.d x)) : Rp K Hs v x ∧ Rp K H v x := by
  obtain ⟨c, h1, h2, h3, h4, _⟩ := h.get R1
  rw [h1] at hx
  have e : c.t = .d x := Option.some.inj hx
  cases c with
  | dead => cases h3
  | d w y =>
    rw [TA.t] at e
    cases e
    rw [TA.ok] at h4
    rw [← h2]
    exact ⟨h4, Rp.mono R1.sub h4⟩
  | nd k a ts => rw [TA.t] at e; cases e
end
/-- the reading of a value -/
def LE (X : Cx) (ix : List Nat) (pu : Bool) (w : St → (R → St → Prop) → Prop) : TE := fun σ H Q => ∃ B Hs sl tp P, Rel X.K ⟨B, ix⟩ Hs H σ sl tp ∧ w (TA.tl sl) P ∧
  ∀ r v Hs' H' sl' nw, Rel X.K ⟨B, ix⟩ Hs' H' σ sl' (tp ++ nw) → RR r v sl' nw → Stp pu H H' sl sl' → P r (TA.tl sl') → Q v H'
/-- several results -/
inductive RRs (sl : List TA) : List R → List V → List (List TA) → Prop
  | nil : RRs sl [] [] []
  | cons {r : R} {v : V} {nw : List TA} {rs : List R} {vs : List V} {nws : List (List TA)} : RR r v sl nw → RRs sl rs vs nws → RRs sl (r :: rs) (v :: vs) (nw :: nws)
def LA (X : Cx) (ix : List Nat) (pu : Bool) (w : St → (List R → St → Prop) → Prop) : L2.TA := fun σ H Q => ∃ B Hs sl tp P, Rel X.K ⟨B, ix⟩ Hs H σ sl tp ∧ w (TA.tl sl) P ∧
  ∀ rs vs Hs' H' sl' nws, Rel X.K ⟨B, ix⟩ Hs' H' σ sl' (tp ++ nws.flatten) → RRs sl' rs vs nws → Stp pu H H' sl sl' → P rs (TA.tl sl') → Q vs H'
section
variable {X : Cx} {a b e : Expr} {wa wb w : St → (R → St → Prop) → Prop} {pu : Bool} {pos : Pos} {ix : List Nat}
/-- two values, one behind the other -/
theorem two {σ : L2.St} {H : Hp} {B : B0} {Hs : Hp} {sl tp : List TA} {P : R → R → St → Prop} {pb : R → Bool} {wb : R → St → (R → St → Prop) → Prop} {wb' : Bool → St → (R → St → Prop) → Prop} (R0 : Rel X.K ⟨B, ix⟩ Hs H σ sl tp)
    (hw : wa (TA.tl sl) fun ra σ1 => wb' (pu || !ra.top) σ1 fun rb σ2 => P ra rb σ2) (hb : ∀ pu', PE X b (LE X ix pu' (wb' pu'))) {pins : List (Addr × Obj)} {s : Shared} (I : Inv X pins σ H s) (ha : PE X a (LE X ix pu wa))
    {α : Type} {Q : α → Shared → Prop} {f : Value → Value → Sem α}
    (hf : ∀ v u s2 x y H2 ra rb Hs2 sl2 nw1 nw2, Inv X pins σ H2 s2 → RelV x v → RelV y u → Rel X.K ⟨B, ix⟩ Hs2 H2 σ sl2 ((tp ++ nw1) ++ nw2) → RR ra x sl2 nw1 → RR rb y sl2 nw2 → Stp pu H H2 sl sl2 → P ra rb (TA.tl sl2) → wpAny (model X.prog X.w) X.A (f v u) Q X.xe s2) :
    wpAny (model X.prog X.w) X.A (eval a X.env) (fun v s₁ => wpAny (model X.prog X.w) X.A (eval b X.env) (fun u s₂ => wpAny (model X.prog X.w) X.A (f v u) Q X.xe s₂) X.xe s₁) X.xe s := by
  refine thn (ha.run pins s σ H (fun x H1 => ∃ ra Hs1 sl1 nw1, Rel X.K ⟨B, ix⟩ Hs1 H1 σ sl1 (tp ++ nw1) ∧ RR ra x sl1 nw1 ∧ Stp pu H H1 sl sl1 ∧ wb' (pu || !ra.top) (TA.tl sl1) fun rb σ2 => P ra rb σ2) I ⟨B, Hs, sl, tp, _, R0, hw, fun ra v Hs1 H1 sl1 nw1 R1 rr1 st1 p1 => ⟨ra, Hs1, sl1, nw1, R1, rr1, st1, p1⟩⟩) fun v s1 h1 => ?_
  obtain ⟨x, H1, I1, rx, ra, Hs1, sl1, nw1, R1, rr1, st1, p1⟩ := h1
  refine thn ((hb (pu || !ra.top)).run pins s1 σ H1 (fun y H2 => ∃ rb Hs2 sl2 nw2, Rel X.K ⟨B, ix⟩ Hs2 H2 σ sl2 ((tp ++ nw1) ++ nw2) ∧ RR rb y sl2 nw2 ∧ Stp (pu || !ra.top) H1 H2 sl1 sl2 ∧ P ra rb (TA.tl sl2)) I1 ⟨B, Hs1, sl1, tp ++ nw1, _, R1, p1, fun rb v Hs2 H2 sl2 nw2 R2 rr2 st2 p2 => ⟨rb, Hs2, sl2, nw2, R2, rr2, st2, p2⟩⟩) fun u s2 h2 => ?_
  obtain ⟨y, H2, I2, ry, rb, Hs2, sl2, nw2, R2, rr2, st2, p2⟩ := h2
  exact hf v u s2 x y H2 ra rb Hs2 sl2 nw1 nw2 I2 rx ry R2 (rr1.stay R1 R2 st2 (fun z => by rw [z]; simp)) rr2 (st1.trans st2 (fun z => by rw [z]; rfl)) p2
/-- one value -/
theorem one {σ : L2.St} {H : Hp} {B : B0} {Hs : Hp} {sl tp : List TA} {P : R → St → Prop} (R0 : Rel X.K ⟨B, ix⟩ Hs H σ sl tp) (hw : wa (TA.tl sl) P) {pins : List (Addr × Obj)} {s : Shared} (I : Inv X pins σ H s) (ha : PE X a (LE X ix pu wa))
    {Q : Value → Shared → Prop}
    (hf : ∀ v s1 x H1 ra Hs1 sl1 nw1, Inv X pins σ H1 s1 → RelV x v → Rel X.K ⟨B, ix⟩ Hs1 H1 σ sl1 (tp ++ nw1) → RR ra x sl1 nw1 → Stp pu H H1 sl sl1 → P ra (TA.tl sl1) → Q v s1) :
    wpAny (model X.prog X.w) X.A (eval a X.env) Q X.xe s := by
  refine thn (ha.run pins s σ H (fun x H1 => ∃ ra Hs1 sl1 nw1, Rel X.K ⟨B, ix⟩ Hs1 H1 σ sl1 (tp ++ nw1) ∧ RR ra x sl1 nw1 ∧ Stp pu H H1 sl sl1 ∧ P ra (TA.tl sl1)) I ⟨B, Hs, sl, tp, _, R0, hw, fun ra v Hs1 H1 sl1 nw1 R1 rr1 st1 p1 => ⟨ra, Hs1, sl1, nw1, R1, rr1, st1, p1⟩⟩) fun v s1 h1 => ?_
  obtain ⟨x, H1, I1, rx, ra, Hs1, sl1, nw1, R1, rr1, st1, p1⟩ := h1
  exact hf v s1 x H1 ra Hs1 sl1 nw1 I1 rx R1 rr1 st1 p1
/-- an argument list -/
theorem la_nil : PA X [] (LA X ix pu fun σ K => K [] σ) := ⟨fun pos pins s σ H Q I h => by
  obtain ⟨B, Hs, sl, tp, P, R0, hw, hk⟩ := h
  exact pa_nil.run pos pins s σ H Q I (hk [] [] Hs H sl [] (by simpa using R0) .nil .refl hw)⟩
theorem RRs.stay {K : PySem.W.Frag} {B : Bs} {Hs H H' Hs' : Hp} {σ : L2.St} {sl sl' tp tp' : List TA} (R1 : Rel K B Hs H σ sl tp) (R2 : Rel K B Hs' H' σ sl' tp') (s : Stp pu H H' sl sl') : ∀ {rs : List R} {vs : List V} {nws : List (List TA)}, RRs sl rs vs nws → (∀ r ∈ rs, r.top = false → pu = true) → RRs sl' rs vs nws
  | _, _, _, .nil, _ => .nil
  | _, _, _, .cons h t, ht => .cons (h.stay R1 R2 s (ht _ (by simp))) (RRs.stay R1 R2 s t fun r hr => ht r (by simp [hr]))
theorem la_cons {es : List Expr} {wr : Bool → St → (List R → St → Prop) → Prop} (ha : PE X a (LE X ix pu wa)) (hr : ∀ pu', PA X es (LA X ix pu' (wr pu'))) (hs : starEach (a :: es) X.env = (false, eval a X.env) :: starEach es X.env) :
    PA X (a :: es) (LA X ix pu fun σ K => wa σ fun r σ1 => wr (pu || !r.top) σ1 fun rs σ2 => K (r :: rs) σ2) := by
  refine ⟨fun pos pins s σ H Q I h => ?_⟩
  obtain ⟨B, Hs, sl, tp, P, R0, hw, hk⟩ := h
  refine (pa_cons (te := LE X ix pu wa) (t := fun σ' H1 Q' => ∃ pu', LA X ix pu' (wr pu') σ' H1 Q') ha ⟨fun pos pins s σ H Q I h => ?_⟩ hs).run pos pins s σ H Q I ?_
  · obtain ⟨pu', h⟩ := h
    exact (hr pu').run pos pins s σ H Q I h
  · refine ⟨B, Hs, sl, tp, _, R0, hw, fun ra v Hs1 H1 sl1 nw1 R1 rr1 st1 p1 => ⟨pu || !ra.top, B, Hs1, sl1, tp ++ nw1, _, R1, p1, fun rs vs Hs2 H2 sl2 nws R2 rrs st2 p2 => ?_⟩⟩
    refine hk (ra :: rs) (v :: vs) Hs2 H2 sl2 (nw1 :: nws) ?_ (.cons (rr1.stay R1 R2 st2 (fun z => by rw [z]; simp)) rrs) (st1.trans st2 (fun z => by rw [z]; rfl)) p2
    rw [List.flatten_cons, ← List.append_assoc]
    exact R2
end
/-- what is wanted behind a value -/
abbrev Cont (X : Cx) (B : Bs) (σ : L2.St) (tp : List TA) (pu : Bool) (H : Hp) (sl : List TA) (P : R → St → Prop) (Q : VK) : Prop :=
  ∀ r v Hs' H' sl' nw, Rel X.K B Hs' H' σ sl' (tp ++ nw) → RR r v sl' nw → Stp pu H H' sl sl' → P r (TA.tl sl') → Q v H'
section
variable {X : Cx} {pins : List (Addr × Obj)} {s : Shared} {σ : L2.St} {H H2 Hs2 : Hp} {B : Bs} {sl sl2 tp nw nw1 nw2 as : List TA} {P : R → St → Prop} {Q : VK} {pu : Bool} {ra rb : R} {x y : V} {v u : Value}
theorem Cont.leaf {v : V} {d : PyData} (hk : Cont X B σ tp pu H sl P Q) (R1 : Rel X.K B Hs2 H2 σ sl2 tp) (dp : Rp X.K Hs2 v d) (st : Stp pu H H2 sl sl2) (hp : P (.v (.d d)) (TA.tl sl2)) : Q v H2 :=
  hk (.v (.d d)) v Hs2 H2 sl2 [.d v d] (R1.leaf dp) ⟨.d v d, rfl, rfl, rfl, rfl⟩ st hp
theorem Cont.node {k : Kd} {p : Addr} {o : HO} (hk : Cont X B σ tp pu H sl P Q) (R1 : Rel X.K B Hs2 H2 σ sl2 (tp ++ as)) (hp0 : H2 p = none) (ho : k.at (upd H2 p o) p (as.map TA.v)) (st : Stp pu H H2 sl sl2) (hp : P (.v (.nd k (TA.tl as))) (TA.tl sl2)) : Q (.ref p) (upd H2 p o) :=
  hk (.v (.nd k (TA.tl as))) (.ref p) Hs2 (upd H2 p o) sl2 [.nd k p as] (R1.allocO hp0 ho) ⟨.nd k p as, rfl, by rw [TA.t], rfl, rfl⟩ (st.trans (pu' := pu) (.same (same_upd hp0)) id) hp
theorem Cont.lst {p : Addr} (hk : Cont X B σ tp pu H sl P Q) (R1 : Rel X.K B Hs2 H2 σ sl2 (tp ++ as)) (hp0 : H2 p = none) (st : Stp pu H H2 sl sl2) (hp : P (.v (.nd .list (TA.tl as))) (TA.tl sl2)) : Q (.ref p) (upd H2 p (.lst (as.map TA.v))) :=
  hk.node (k := .list) R1 hp0 (show upd H2 p (.lst (as.map TA.v)) p = some (.lst (as.map TA.v)) from upd_same) st hp
/-- a new tuple of data -/
theorem Cont.tup {p : Addr} {vs : List V} {ds : List PyData} (hk : Cont X B σ tp pu H sl P Q) (R1 : Rel X.K B Hs2 H2 σ sl2 tp) (hp0 : H2 p = none) (dp : RpAll X.K Hs2 vs ds) (st : Stp pu H H2 sl sl2) (hp : P (.v (.d (.tuple ds))) (TA.tl sl2)) : Q (.ref p) (upd H2 p (.tup vs)) :=
  hk.leaf (R1.allocF hp0 (.tup vs)) (.tup (SqT.of upd_same) (dp.mono (same_upd (R1.hs_none hp0)))) (st.trans (pu' := pu) (.same (same_upd hp0)) id) hp
theorem Rel.tempsS {K : PySem.W.Frag} {Hs : Hp} {tp' : List TA} (R1 : Rel K B Hs H σ sl tp) (ok : TA.okl K Hs H tp') (sub : (TA.fpl tp').Sublist (TA.fpl tp)) : Rel K B Hs H σ sl tp' :=
  R1.temps ok (fun a ha => sub.subset ha) (sub.nodup R1.uqT)
theorem Rel.leaves {K : PySem.W.Frag} {Hs : Hp} {ls : List TA} (R1 : Rel K B Hs H σ sl tp) (ok : TA.okl K Hs H ls) (hf : TA.fpl ls = []) : Rel K B Hs H σ sl (tp ++ ls) :=
  R1.tempsS (TA.okl_append.mpr ⟨R1.okT, ok⟩) (by rw [TA.fpl_append, hf, List.append_nil]; exact List.Sublist.refl _)
def leafs (vs : List V) (ds : List PyData) : List TA := List.zipWith TA.d vs ds
theorem leafs_ok {K : PySem.W.Frag} {Hs H : Hp} : ∀ {vs : List V} {ds : List PyData}, RpAll K Hs vs ds → TA.okl K Hs H (leafs vs ds) ∧ TA.fpl (leafs vs ds) = [] ∧ TA.tl (leafs vs ds) = ds.map .d ∧ (leafs vs ds).map TA.v = vs
  | _, _, .nil => ⟨by show TA.okl K Hs H []; rw [TA.okl]; trivial, rfl, rfl, rfl⟩
  | _, _, .cons (v := v) (d := d) (vs := vs) (ds := ds) a b => by
    obtain ⟨h1, h2, h3, h4⟩ := leafs_ok (H := H) b
    have e : leafs (v :: vs) (d :: ds) = .d v d :: leafs vs ds := rfl
    rw [e]
    refine ⟨?_, ?_, ?_, ?_⟩
    · rw [TA.okl, TA.ok]; exact ⟨a, h1⟩
    · rw [TA.fpl, TA.fp, h2]; rfl
    · rw [TA.tl, TA.t, h3]; rfl
    · rw [List.map_cons, h4]; rfl
theorem leaves_of : ∀ {ts : List TA} {xs : List PyData}, T.leaves (TA.tl ts) = some xs → TA.fpl ts = [] ∧ TA.tl ts = xs.map .d ∧ (∀ {K : PySem.W.Frag} {Hs H : Hp}, TA.okl K Hs H ts → RpAll K Hs (ts.map TA.v) xs)
  | [], xs, h => by
    rw [TA.tl, T.leaves] at h
    cases h
    exact ⟨rfl, rfl, fun _ => .nil⟩
  | t :: r, xs, h => by
    rw [TA.tl] at h
    cases t with
    | dead => rw [TA.t, T.leaves] at h; cases h; simp
    | nd k a ts => rw [TA.t, T.leaves] at h; cases h; simp
    | d v x =>
      rw [TA.t, T.leaves] at h
      split at h
      · rename_i ys e
        cases h
        obtain ⟨h1, h2, h3⟩ := leaves_of e
        refine ⟨by rw [TA.fpl, TA.fp, h1]; rfl, by rw [TA.tl, TA.t, h2]; rfl, fun {K Hs H} ok => ?_⟩
        rw [TA.okl, TA.ok] at ok
        exact .cons ok.1 (h3 ok.2)
      · cases h
/-- a result whose tree is a leaf -/
theorem ta_d {c : TA} {x : PyData} (h : c.t = .d x) : ∃ w, c = .d w x := by
  cases c with
  | dead => rw [TA.t] at h; cases h
  | d w y => rw [TA.t] at h; cases h; exact ⟨w, rfl⟩
  | nd k a ts => rw [TA.t] at h; cases h
theorem ta_nd {c : TA} {k : Kd} {ts : List T} (h : c.t = .nd k ts) : ∃ a us, c = .nd k a us ∧ TA.tl us = ts := by
  cases c with
  | dead => rw [TA.t] at h; cases h
  | d w y => rw [TA.t] at h; cases h
  | nd k' a us => rw [TA.t] at h; cases h; exact ⟨a, us, rfl, rfl⟩
/-- a result that is an own node: its object -/
theorem RR.node {K : PySem.W.Frag} {Hs : Hp} {r : R} {v : V} {k : Kd} {ts : List T} (h : RR r v sl nw) (R1 : Rel K B Hs H σ sl (tp ++ nw)) (hx : r.get (TA.tl sl) = some (.nd k ts)) :
    ∃ a us, v = .ref a ∧ TA.tl us = ts ∧ k.at H a (us.map TA.v) ∧ TA.okl K Hs H us ∧ (r.isP = false → nw = [.nd k a us]) ∧ (∀ i q, r = .p i q → ∃ t, sl[i]? = some t ∧ t.at q = some (.nd k a us)) := by
  obtain ⟨c, h1, h2, h3, h4, _, h5, h6⟩ := h.get R1
  rw [h1] at hx
  obtain ⟨a, us, rfl, e⟩ := ta_nd (Option.some.inj hx)
  rw [TA.ok] at h4
  exact ⟨a, us, h2.symm, e, h4.1, h4.2, h5, h6⟩
/-- the items of a list that is a result -/
theorem RR.kids {K : PySem.W.Frag} {Hs : Hp} {r : R} {v : V} {ts : List T} (h : RR r v sl nw) (R1 : Rel K B Hs H σ sl (tp ++ nw)) (hk : r.kids (TA.tl sl) = some ts) :
    ∃ a us, v = .ref a ∧ TA.tl us = ts ∧ SqL K H a (us.map TA.v) ∧ TA.okl K Hs H us ∧ (TA.fpl us).Sublist (TA.fpl nw) := by
  unfold R.kids at hk
  split at hk
  · rename_i xs e
    cases hk
    obtain ⟨d1, d2⟩ := h.dpT R1 e
    cases d1 with
    | lst hr ha =>
      obtain ⟨h1, h2, h3, h4⟩ := leafs_ok (H := H) ha
      exact ⟨_, _, rfl, h3, by rw [h4]; exact SqL.mono R1.sub hr, h1, by rw [h2]; exact List.nil_sublist _⟩
  · rename_i us e
    obtain ⟨a, us', e1, e2, e3, e4, e5, e6⟩ := h.node R1 e
    cases r with
    | v t =>
      cases hk
      refine ⟨a, us', e1, e2, .inl (.inl e3), e4, ?_⟩
      rw [e5 rfl, fpl_one, TA.fp]
      exact List.sublist_cons_self _ _
    | p i q =>
      simp only at hk
      split at hk
      · rename_i hl
        cases hk
        obtain ⟨xs, hxs⟩ := Option.isSome_iff_exists.mp hl
        rw [← e2] at hxs
        obtain ⟨f1, f2, f3⟩ := leaves_of hxs
        exact ⟨a, us', e1, e2, .inl (.inl e3), e4, by rw [f1]; exact List.nil_sublist _⟩
      · cases hk
  · cases hk
end
def bopIs : BOp → Operator → Bool
  | .add, .Add => true
  | .sub, .Sub => true
  | .mul, .Mult => true
  | .fdiv, .FloorDiv => true
  | .mod, .Mod => true
  | .pow, .Pow => true
  | .shl, .LShift => true
  | .shr, .RShift => true
  | .band, .BitAnd => true
  | _, _ => false
def copIs : COp → CmpOp → Bool
  | .lt, .Lt => true
  | .le, .LtE => true
  | .gt, .Gt => true
  | .ge, .GtE => true
  | .eq, .Eq => true
  | .ne, .NotEq => true
  | .isin, .In => true
  | .notin, .NotIn => true
  | .is, .Is => true
  | .isnot, .IsNot => true
  | _, _ => false
section
variable {X : Cx} {pins : List (Addr × Obj)} {s : Shared} {σ : L2.St} {H H2 Hs2 : Hp} {B : Bs} {sl sl2 tp nw nw1 nw2 as : List TA} {P : R → St → Prop} {Q : VK} {pu : Bool} {ra rb : R} {x y : V} {v u : Value}
theorem Rp.int_v {K : PySem.W.Frag} {H : Hp} {v : V} {i : Int} (h : Rp K H v (.int i)) : v = .int i := by cases h; rfl
theorem Rp.str_v {K : PySem.W.Frag} {H : Hp} {v : V} {i : Str} (h : Rp K H v (.str i)) : v = .str i := by cases h; rfl
theorem Rp.bool_v {K : PySem.W.Frag} {H : Hp} {v : V} {i : Bool} (h : Rp K H v (.bool i)) : v = .bl i := by cases h; rfl
theorem Rp.none_v {K : PySem.W.Frag} {H : Hp} {v : V} (h : Rp K H v .none) : v = .non := by cases h; rfl
/-- two lists, one behind the other, also locked ones -/
theorem op_catR : OpR X (binaryOp .Add) (fun x y H Q => ∃ l b xs zs, x = .ref l ∧ y = .ref b ∧ SqL X.K H l xs ∧ SqL X.K H b zs ∧ xs.length + zs.length ≤ sizeLine ∧ ∀ p, H p = none → Q (.ref p) (upd H p (.lst (xs ++ zs)))) := by
  intro pins s σ H x y v u Q I rx ry h
  obtain ⟨l, b, xs, zs, rfl, rfl, hH, hB, hz, q⟩ := h
  cases rx
  cases ry
  obtain ⟨its, r, pl, z⟩ := I.list hH
  obtain ⟨its2, r2, pl2, z2⟩ := I.list hB
  obtain ⟨⟨cls, dd, data, sl⟩, ho, hc, n, hd⟩ := pl.isList
  obtain ⟨⟨cls2, dd2, data2, sl2⟩, ho2, hc2, n2, hd2⟩ := pl2.isList
  simp only at hc hd hc2 hd2
  subst hc hd hc2 hd2
  have e : its.toArray ++ its2.toArray = (its ++ its2).toArray := by simp
  have l1 := r.length
  have l2 := r2.length
  refine concat_meets ⟨_, ho, rfl⟩ ⟨_, ho2, rfl⟩ noFill_list_add seq_list_add PySem.F.slot_list_add PySem.F.entry_list_add (PySem.F.args_list_add_2 _ _) (list_addW l b its.toArray its2.toArray n n2 dd dd2 sl sl2 (by rw [List.size_toArray, List.size_toArray]; omega)) ⟨ho, ho2, ?_⟩
  rw [e]
  exact ⟨.ref _, _, I.lnew (t' := s.toks) (r.append r2) (by rw [List.length_append]; omega), rfl, q _ I.fresh⟩
def bopO : BOp → Operator
  | .add => .Add
  | .sub => .Sub
  | .mul => .Mult
  | .fdiv => .FloorDiv
  | .mod => .Mod
  | .pow => .Pow
  | .shl => .LShift
  | .shr => .RShift
  | .band => .BitAnd
theorem bopIs_eq {op : BOp} {o : Operator} (ho : bopIs op o = true) : o = bopO op := by
  cases op <;> cases o <;> first | rfl | exact (Bool.noConfusion ho)
theorem binI_ok {op : BOp} {i j : Int} {Kk : Int → Prop} (I : Inv X pins σ H s) (rx : RelV (.int i) v) (ry : RelV (.int j) u) (h : binI op i j Kk) (q : ∀ z, Kk z → Q (.int z) H) :
    wpAny (model X.prog X.w) X.A (binaryOp (bopO op) v u) (EP X pins σ Q) X.xe s := by
  cases op with
  | add => exact op_add pins s σ H _ _ v u Q I rx ry ⟨i, j, rfl, rfl, q _ h⟩
  | sub => exact op_sub pins s σ H _ _ v u Q I rx ry ⟨i, j, rfl, rfl, q _ h⟩
  | mul => exact op_mul pins s σ H _ _ v u Q I rx ry ⟨i, j, rfl, rfl, h.1, q _ h.2⟩
  | fdiv => exact op_fdivW pins s σ H _ _ v u Q I rx ry ⟨i, j, rfl, rfl, h.1, q _ h.2⟩
  | mod => exact op_mod pins s σ H _ _ v u Q I rx ry ⟨i, j, rfl, rfl, h.1, q _ h.2⟩
  | pow => exact op_pow pins s σ H _ _ v u Q I rx ry ⟨i, j, rfl, rfl, h.1, q _ h.2⟩
  | shl => exact op_shl pins s σ H _ _ v u Q I rx ry ⟨i, j, rfl, rfl, h.1, q _ h.2⟩
  | shr => exact op_shr pins s σ H _ _ v u Q I rx ry ⟨i, j, rfl, rfl, h.1, q _ h.2⟩
  | band => exact op_and pins s σ H _ _ v u Q I rx ry ⟨i, j, rfl, rfl, q _ h⟩
theorem RpAll.append {K : PySem.W.Frag} {H : Hp} : ∀ {vs ws : List V} {xs ys : List PyData}, RpAll K H vs xs → RpAll K H ws ys → RpAll K H (vs ++ ws) (xs ++ ys)
  | _, _, _, _, .nil, h => h
  | _, _, _, _, .cons a b, h => .cons a (RpAll.append b h)
theorem rep_ok {K : PySem.W.Frag} {Hs : Hp} {vs : List V} {ds : List PyData} (h : RpAll K Hs vs ds) : ∀ n : Nat, RpAll K Hs (List.replicate n vs).flatten (List.replicate n ds).flatten
  | 0 => .nil
  | n + 1 => by
    rw [List.replicate_succ, List.flatten_cons, List.replicate_succ, List.flatten_cons]
    exact h.append (rep_ok h n)
theorem op_binW {op : BOp} (I : Inv X pins σ H2 s) (rx : RelV x v) (ry : RelV y u) (R2 : Rel X.K B Hs2 H2 σ sl2 ((tp ++ nw1) ++ nw2)) (r1 : RR ra x sl2 nw1) (r2 : RR rb y sl2 nw2) (st : Stp pu H H2 sl sl2) (hk : Cont X B σ tp pu H sl P Q) (h : binW op ra rb (TA.tl sl2) P) :
    wpAny (model X.prog X.w) X.A (binaryOp (bopO op) v u) (EP X pins σ Q) X.xe s := by
  have R1 := R2.drop
  have R0 := R1.drop
  unfold binW at h
  split at h
  · rename_i i j e1 e2
    have a1 := (r1.dpT R1 e1).2.int_v
    have a2 := (r2.dpT R2 e2).2.int_v
    subst a1 a2
    exact binI_ok I rx ry h fun z hz => hk.leaf R0 (.int z) st hz
  · rename_i i j e1 e2
    have a1 := (r1.dpT R1 e1).2.str_v
    have a2 := (r2.dpT R2 e2).2.str_v
    subst a1 a2
    obtain ⟨rfl, hz, h⟩ := h
    exact op_add_str pins s σ H2 _ _ v u Q I rx ry ⟨i, j, rfl, rfl, hz, hk.leaf R0 (.str _) st h⟩
  · rename_i xs ys e1 e2
    obtain ⟨rfl, hz, h⟩ := h
    have d1 := (r1.dpT R1 e1).1
    have d2 := (r2.dpT R2 e2).1
    cases d1 with
    | tup h1 a1 =>
      cases d2 with
      | tup h2 a2 =>
        have l1 := a1.length
        have l2 := a2.length
        refine op_catA pins s σ H2 _ _ v u Q I rx ry ⟨_, _, _, _, rfl, rfl, SqT.mono R2.sub h1, SqT.mono R2.sub h2, by omega, fun e => ?_, fun e1 e2 => ?_, fun _ _ p hp => ?_⟩
        · subst e
          have e3 : xs = [] := by cases a1; rfl
          subst e3
          exact hk.leaf R0 (.tup h2 a2) st h
        · subst e2
          have e3 : ys = [] := by cases a2; rfl
          subst e3
          rw [List.append_nil] at h
          exact hk.leaf R0 (.tup h1 a1) st h
        · exact hk.tup R0 hp (a1.append a2) st h
  · rename_i ts j e1 e2
    obtain ⟨rfl, h⟩ := h
    split at h
    · rename_i xs hl
      obtain ⟨b1, b2, hz, h⟩ := h
      obtain ⟨a, us, rfl, e3, e4, e5, _, _⟩ := r1.node R1 e1
      have a2 := (r2.dpT R2 e2).2.int_v
      subst a2
      rw [← e3] at hl
      obtain ⟨f1, f2, f3⟩ := leaves_of hl
      have ra := rep_ok (f3 e5) j.toNat
      obtain ⟨g1, g2, g3, g4⟩ := leafs_ok (H := H2) ra
      have lz : (us.map TA.v).length = xs.length := (f3 e5).length
      refine op_rep pins s σ H2 _ _ v u Q I rx ry ⟨a, j, _, rfl, rfl, e4, b1, b2, by rw [lz]; exact hz, fun p hp => ?_⟩
      have := hk.lst (R0.leaves g1 g2) hp st (by rw [g3]; exact h)
      rw [g4] at this
      exact this
    · exact h.elim
  · obtain ⟨rfl, h⟩ := h
    split at h
    · rename_i ts us e1 e2
      obtain ⟨hz, h⟩ := h
      obtain ⟨a, as1, rfl, t1, d1, o1, s1⟩ := r1.kids R1 e1
      obtain ⟨b, as2, rfl, t2, d2, o2, s2⟩ := r2.kids R2 e2
      have len1 : (as1.map TA.v).length = ts.length := by rw [← t1, TA.tl_map]; simp
      have len2 : (as2.map TA.v).length = us.length := by rw [← t2, TA.tl_map]; simp
      refine op_catR pins s σ H2 _ _ v u Q I rx ry ⟨a, b, _, _, rfl, rfl, d1, d2, by rw [len1, len2]; exact hz, fun p hp => ?_⟩
      have R3 : Rel X.K B Hs2 H2 σ sl2 (tp ++ (as1 ++ as2)) := by
        refine R2.tempsS (TA.okl_append.mpr ⟨R0.okT, TA.okl_append.mpr ⟨o1, o2⟩⟩) ?_
        rw [TA.fpl_append, TA.fpl_append, TA.fpl_append, TA.fpl_append, List.append_assoc]
        exact (List.Sublist.refl _).append (s1.append s2)
      have := hk.lst R3 hp st (by rw [TA.tl_map, List.map_append, ← TA.tl_map, ← TA.tl_map, t1, t2]; exact h)
      rw [List.map_append] at this
      exact this
    · exact h.elim
theorem Rp.eqV {K : PySem.W.Frag} {H : Hp} {v w : V} {a b : PyData} (h1 : Rp K H v a) (h2 : Rp K H w b) (f1 : flatD a = true) (f2 : flatD b = true) : eqV v w = PyData.eqv a b ∧ flatV v = true ∧ flatV w = true := by
  cases h1 <;> cases h2 <;> first | (exact (Bool.noConfusion f1)) | (exact (Bool.noConfusion f2)) | exact ⟨rfl, rfl, rfl⟩
theorem all_flat {K : PySem.W.Frag} {H : Hp} : ∀ {vs : List V} {xs : List PyData}, RpAll K H vs xs → xs.all flatD = true → vs.all flatV = true
  | _, _, .nil, _ => rfl
  | _, _, .cons a b, h => by
    simp only [List.all_cons, Bool.and_eq_true] at h ⊢
    exact ⟨(a.eqV a h.1 h.1).2.1, all_flat b h.2⟩
theorem any_eqV {K : PySem.W.Frag} {H : Hp} {w : V} {x : PyData} (hx : Rp K H w x) (fx : flatD x = true) : ∀ {vs : List V} {xs : List PyData}, RpAll K H vs xs → xs.all flatD = true → inV w vs = xs.any fun z => PyData.eqv z x
  | _, _, .nil, _ => rfl
  | _, _, .cons a b, h => by
    simp only [List.all_cons, Bool.and_eq_true] at h
    have := any_eqV hx fx b h.2
    unfold inV at this ⊢
    rw [List.any_cons, List.any_cons, this, (a.eqV hx h.1 fx).1]
end
def copO : COp → CmpOp
  | .lt => .Lt
  | .le => .LtE
  | .gt => .Gt
  | .ge => .GtE
  | .eq => .Eq
  | .ne => .NotEq
  | .isin => .In
  | .notin => .NotIn
  | .is => .Is
  | .isnot => .IsNot
theorem copIs_eq {op : COp} {o : CmpOp} (ho : copIs op o = true) : o = copO op := by
  cases op <;> cases o <;> first | rfl | exact (Bool.noConfusion ho)
section
variable {X : Cx} {pins : List (Addr × Obj)} {s : Shared} {σ : L2.St} {H H2 Hs2 : Hp} {B : Bs} {sl sl2 tp nw nw1 nw2 as : List TA} {P : R → St → Prop} {Q : VK} {pu : Bool} {ra rb : R} {x y : V} {v u : Value}
theorem isNone_of {K : PySem.W.Frag} {Hs : Hp} {c : TA} (ok : c.ok K Hs H) (hd : c.isDead = false) : decide (c.v = .non) = c.t.isNone := by
  cases c with
  | dead => cases hd
  | nd k a ts => rfl
  | d w z =>
    rw [TA.ok] at ok
    cases ok <;> rfl
theorem eqW_ok {a b : PyData} {Kk : Bool → Prop} {neg : Bool} (hu : X.A.units + 64 < cLine) (I : Inv X pins σ H s) (rx : RelV x v) (ry : RelV y u) (h1 : Rp X.K H x a) (h2 : Rp X.K H y b) (h : eqW a b Kk) (q : ∀ z, Kk z → Q (.bl (if neg = true then !z else z)) H) :
    wpAny (model X.prog X.w) X.A (compareOp (if neg = true then .NotEq else .Eq) v u) (EP X pins σ Q) X.xe s := by
  unfold eqW at h
  split at h
  · have e1 := h1.int_v
    have e2 := h2.int_v
    subst e1 e2
    rename_i i j
    have ed : decide (V.int i = V.int j) = decide (i = j) := by simp
    cases neg with
    | false => exact op_eq pins s σ H _ _ v u Q I rx ry ⟨rfl, by rw [ed]; exact q _ h⟩
    | true => exact op_ne pins s σ H _ _ v u Q I rx ry ⟨rfl, by rw [ed]; exact q _ h⟩
  · have e1 := h1.str_v
    have e2 := h2.str_v
    subst e1 e2
    rename_i i j
    have ed : decide (V.str i = V.str j) = decide (i = j) := by simp
    cases neg with
    | false => exact op_eq pins s σ H _ _ v u Q I rx ry ⟨rfl, by rw [ed]; exact q _ h⟩
    | true => exact op_ne pins s σ H _ _ v u Q I rx ry ⟨rfl, by rw [ed]; exact q _ h⟩
  · obtain ⟨s1, s2, h⟩ := h
    have d1 := h1.dp (SeqAt.canLay_of_shaped s1)
    have d2 := h2.dp (SeqAt.canLay_of_shaped s2)
    cases neg with
    | false => exact op_eqD hu pins s σ H _ _ v u Q I rx ry ⟨a, b, d1, d2, s1, s2, q _ h⟩
    | true => exact op_neD hu pins s σ H _ _ v u Q I rx ry ⟨a, b, d1, d2, s1, s2, q _ h⟩
theorem inW_ok {a b : PyData} {Kk : Bool → Prop} {neg : Bool} (I : Inv X pins σ H s) (rx : RelV x v) (ry : RelV y u) (h1 : Rp X.K H x a) (h2 : Rp X.K H y b) (h : inW a b Kk) (q : ∀ z, Kk z → Q (.bl (if neg = true then !z else z)) H) :
    wpAny (model X.prog X.w) X.A (compareOp (if neg = true then .NotIn else .In) v u) (EP X pins σ Q) X.xe s := by
  unfold inW at h
  split at h
  · obtain ⟨f1, f2, h⟩ := h
    cases h2 with
    | lst hr ha =>
      have e := any_eqV h1 f1 ha f2
      have fx := (h1.eqV h1 f1 f1).2.1
      cases neg with
      | false => exact op_in_seq pins s σ H _ _ v u Q I rx ry ⟨_, _, rfl, .inl hr, fx, all_flat ha f2, by simp only [Bool.false_eq_true, if_false]; rw [e]; exact q _ h⟩
      | true => exact op_notIn_seq pins s σ H _ _ v u Q I rx ry ⟨_, _, rfl, .inl hr, fx, all_flat ha f2, by simp only [if_true]; rw [e]; exact q _ h⟩
  · obtain ⟨f1, f2, h⟩ := h
    cases h2 with
    | tup hr ha =>
      have e := any_eqV h1 f1 ha f2
      have fx := (h1.eqV h1 f1 f1).2.1
      cases neg with
      | false => exact op_in_seq pins s σ H _ _ v u Q I rx ry ⟨_, _, rfl, .inr hr, fx, all_flat ha f2, by simp only [Bool.false_eq_true, if_false]; rw [e]; exact q _ h⟩
      | true => exact op_notIn_seq pins s σ H _ _ v u Q I rx ry ⟨_, _, rfl, .inr hr, fx, all_flat ha f2, by simp only [if_true]; rw [e]; exact q _ h⟩
  · split at h
    · have e1 := h1.str_v
      have e2 := h2.str_v
      subst e1 e2
      cases neg with
      | false => exact op_in_str pins s σ H _ _ v u Q I rx ry ⟨_, _, rfl, rfl, q _ h⟩
      | true => exact op_notin_str pins s σ H _ _ v u Q I rx ry ⟨_, _, rfl, rfl, q _ h⟩
    · exact h.elim
  · exact h.elim
theorem isW_ok {a b : TA} {Hs : Hp} {Kk : Bool → Prop} {neg : Bool} (I : Inv X pins σ H s) (rx : RelV a.v v) (ry : RelV b.v u) (h1 : a.ok X.K Hs H) (d1 : a.isDead = false) (h2 : b.ok X.K Hs H) (h : isW a.t b.t Kk) (q : ∀ z, Kk z → Q (.bl (if neg = true then !z else z)) H) :
    wpAny (model X.prog X.w) X.A (compareOp (if neg = true then .IsNot else .Is) v u) (EP X pins σ Q) X.xe s := by
  unfold isW at h
  split at h
  · rename_i p r e1 e2
    obtain ⟨w1, rfl⟩ := ta_d e1
    obtain ⟨w2, rfl⟩ := ta_d e2
    rw [TA.ok] at h1 h2
    have e1 := h1.bool_v
    have e2 := h2.bool_v
    subst e1 e2
    cases neg with
    | false => exact op_isBl pins s σ H _ _ v u Q I rx ry ⟨p, r, rfl, rfl, q _ h⟩
    | true => exact op_notBl pins s σ H _ _ v u Q I rx ry ⟨p, r, rfl, rfl, q _ h⟩
  · rename_i e2
    obtain ⟨w2, rfl⟩ := ta_d e2
    rw [TA.ok] at h2
    have e2 := h2.none_v
    subst e2
    have e := isNone_of h1 d1
    cases neg with
    | false => exact op_isN pins s σ H _ _ v u Q I rx ry ⟨rfl, by rw [e]; exact q _ h⟩
    | true => exact op_notN pins s σ H _ _ v u Q I rx ry ⟨rfl, by rw [e]; exact q _ h⟩
  · exact h.elim
theorem op_cmpW {op : COp} {Kk : Bool → Prop} (hu : X.A.units + 64 < cLine) (I : Inv X pins σ H2 s) (rx : RelV x v) (ry : RelV y u) (R2 : Rel X.K B Hs2 H2 σ sl2 ((tp ++ nw1) ++ nw2)) (r1 : RR ra x sl2 nw1) (r2 : RR rb y sl2 nw2) (h : cmpW op ra rb (TA.tl sl2) Kk) (q : ∀ z, Kk z → Q (.bl z) H2) :
    wpAny (model X.prog X.w) X.A (compareOp (copO op) v u) (EP X pins σ Q) X.xe s := by
  have R1 := R2.drop
  have intsE : ∀ {i j : Int}, ra.get (TA.tl sl2) = some (.d (.int i)) → rb.get (TA.tl sl2) = some (.d (.int j)) → x = .int i ∧ y = .int j := fun e1 e2 => ⟨(r1.dpT R1 e1).2.int_v, (r2.dpT R2 e2).2.int_v⟩
  cases op with
  | eq =>
    simp only [cmpW] at h
    split at h
    · rename_i e1 e2
      exact eqW_ok (neg := false) hu I rx ry (r1.dp R1 e1) (r2.dp R2 e2) h fun z hz => q _ hz
    · exact h.elim
  | ne =>
    simp only [cmpW] at h
    split at h
    · rename_i e1 e2
      exact eqW_ok (neg := true) hu I rx ry (r1.dp R1 e1) (r2.dp R2 e2) h fun z hz => q _ hz
    · exact h.elim
  | isin =>
    simp only [cmpW] at h
    split at h
    · rename_i e1 e2
      exact inW_ok (neg := false) I rx ry (r1.dp R1 e1) (r2.dp R2 e2) h fun z hz => q _ hz
    · exact h.elim
  | notin =>
    simp only [cmpW] at h
    split at h
    · rename_i e1 e2
      exact inW_ok (neg := true) I rx ry (r1.dp R1 e1) (r2.dp R2 e2) h fun z hz => q _ hz
    · exact h.elim
  | is =>
    simp only [cmpW] at h
    split at h
    · rename_i e1 e2
      obtain ⟨c1, g1, rfl, g3, g4, _⟩ := r1.get R1
      obtain ⟨c2, k1, rfl, k3, k4, _⟩ := r2.get R2
      rw [g1] at e1
      rw [k1] at e2
      cases e1
      cases e2
      exact isW_ok (neg := false) I rx ry g4 g3 k4 h fun z hz => q _ hz
    · exact h.elim
  | isnot =>
    simp only [cmpW] at h
    split at h
    · rename_i e1 e2
      obtain ⟨c1, g1, rfl, g3, g4, _⟩ := r1.get R1
      obtain ⟨c2, k1, rfl, k3, k4, _⟩ := r2.get R2
      rw [g1] at e1
      rw [k1] at e2
      cases e1
      cases e2
      exact isW_ok (neg := true) I rx ry g4 g3 k4 h fun z hz => q _ hz
    · exact h.elim
  | lt =>
    simp only [cmpW] at h
    split at h
    · rename_i i j e1 e2
      obtain ⟨rfl, rfl⟩ := intsE e1 e2
      exact op_lt pins s σ H2 _ _ v u Q I rx ry ⟨i, j, rfl, rfl, q _ h⟩
    · exact h.elim
  | le =>
    simp only [cmpW] at h
    split at h
    · rename_i i j e1 e2
      obtain ⟨rfl, rfl⟩ := intsE e1 e2
      exact op_le pins s σ H2 _ _ v u Q I rx ry ⟨i, j, rfl, rfl, q _ h⟩
    · exact h.elim
  | gt =>
    simp only [cmpW] at h
    split at h
    · rename_i i j e1 e2
      obtain ⟨rfl, rfl⟩ := intsE e1 e2
      exact op_gt pins s σ H2 _ _ v u Q I rx ry ⟨i, j, rfl, rfl, q _ h⟩
    · exact h.elim
  | ge =>
    simp only [cmpW] at h
    split at h
    · rename_i i j e1 e2
      obtain ⟨rfl, rfl⟩ := intsE e1 e2
      exact op_ge pins s σ H2 _ _ v u Q I rx ry ⟨i, j, rfl, rfl, q _ h⟩
    · exact h.elim
/-- truth -/
theorem truth_of {K : PySem.W.Frag} {Hs : Hp} {c : TA} {b : Bool} (sub : Same Hs H) (ok : c.ok K Hs H) (h : c.t.truth = some b) : TruV K c.v H b := by
  cases c with
  | dead => rw [TA.t, T.truth] at h; cases h; all_goals simp
  | d w z =>
    rw [TA.ok] at ok
    rw [TA.t] at h
    have ok' := ok.mono sub
    cases ok' with
    | non => simp only [T.truth, Option.some.injEq] at h; exact h.symm
    | bl k => simp only [T.truth, Option.some.injEq] at h; exact h.symm
    | int i => simp only [T.truth, Option.some.injEq] at h; exact h.symm
    | str z =>
      simp only [T.truth] at h
      split at h
      · rename_i hz
        simp only [Option.some.injEq] at h
        exact ⟨hz, h.symm⟩
      · cases h
    | lst hr ha =>
      simp only [T.truth, Option.some.injEq] at h
      refine .inl ⟨_, hr, ?_⟩
      rw [← h]
      cases ha <;> rfl
    | tup hr ha =>
      simp only [T.truth, Option.some.injEq] at h
      refine .inr (.inl ⟨_, hr, ?_⟩)
      rw [← h]
      cases ha <;> rfl
    | dct l hr ha => simp [T.truth] at h
  | nd k a ts =>
    rw [TA.ok] at ok
    rw [TA.t] at h
    cases k with
    | list =>
      simp only [T.truth, Option.some.injEq] at h
      refine .inl ⟨_, .inl (.inl ok.1), ?_⟩
      rw [← h, TA.tl_map]
      cases ts <;> rfl
    | tup => simp [T.truth] at h
    | tupw => simp [T.truth] at h
    | dict ks => simp [T.truth] at h
    | inst C ns => simp [T.truth] at h
    | exc n C => simp [T.truth] at h
    | exo n C => simp [T.truth] at h
    | exd f => simp [T.truth] at h
    | rsd n => simp [T.truth] at h
    | abs w k => simp [T.truth] at h
theorem truW_of {Kk : Bool → Prop} (R1 : Rel X.K B Hs2 H2 σ sl2 (tp ++ nw)) (r1 : RR ra x sl2 nw) (h : truW ra (TA.tl sl2) Kk) : ∃ b, TruV X.K x H2 b ∧ Kk b := by
  obtain ⟨c, g1, rfl, g3, g4, _⟩ := r1.get R1
  unfold truW at h
  rw [g1] at h
  simp only at h
  split at h
  · rename_i b hb
    exact ⟨b, truth_of R1.sub g4 hb, h⟩
  · exact h.elim
/-- a value of two others, as a reading of values -/
def R2W (X : Cx) (w : R → R → St → (R → St → Prop) → Prop) : R2 := fun x y H2 Q => ∃ σ B Hs2 sl2 tp nw1 nw2 ra rb P H sl pu, Rel X.K B Hs2 H2 σ sl2 ((tp ++ nw1) ++ nw2) ∧ RR ra x sl2 nw1 ∧ RR rb y sl2 nw2 ∧ Stp pu H H2 sl sl2 ∧ w ra rb (TA.tl sl2) P ∧ Cont X B σ tp pu H sl P Q
theorem RpAll.atI {K : PySem.W.Frag} {H : Hp} {vs : List V} {xs : List PyData} {i : Int} {x : PyData} (h : RpAll K H vs xs) (e : L2.atI xs i = some x) : ∃ v, L2.atI vs i = some v ∧ Rp K H v x := by
  unfold L2.atI at e ⊢
  rw [h.length]
  cases q : ixN xs.length i with
  | none => rw [q] at e; cases e
  | some j =>
    rw [q] at e
    exact h.get (show xs[j]? = some x from e)
theorem ix_W : IxR X (R2W X ixW) := by
  intro value slice pins s σ' H2 x y v u Q I rx ry h hs
  obtain ⟨σ, B, Hs2, sl2, tp, nw1, nw2, ra, rb, P, H, sl, pu, R2, r1, r2, st, h, hk⟩ := h
  have R1 := R2.drop
  have R0 := R1.drop
  unfold ixW at h
  split at h
  · rename_i xs i e1 e2
    have a2 := (r2.dpT R2 e2).2.int_v
    subst a2
    have d1 := (r1.dpT R1 e1).1
    cases d1 with
    | lst hr ha =>
      split at h
      · rename_i z hz
        obtain ⟨w, hw, dw⟩ := ha.atI hz
        exact ix_list value slice pins s σ' H2 _ _ v u Q I rx ry ⟨_, _, i, w, rfl, rfl, SqL.mono R2.sub hr, hw, hk.leaf R0 dw st h⟩ hs
      · exact h.elim
  · rename_i xs i e1 e2
    have a2 := (r2.dpT R2 e2).2.int_v
    subst a2
    have d1 := (r1.dpT R1 e1).1
    cases d1 with
    | tup hr ha =>
      split at h
      · rename_i z hz
        obtain ⟨w, hw, dw⟩ := ha.atI hz
        exact ix_tup value slice pins s σ' H2 _ _ v u Q I rx ry ⟨_, _, i, w, rfl, rfl, SqT.mono R2.sub hr, hw, hk.leaf R0 dw st h⟩ hs
      · exact h.elim
  · rename_i z i e1 e2
    have a2 := (r2.dpT R2 e2).2.int_v
    have a1 := (r1.dpT R1 e1).2.str_v
    subst a1 a2
    obtain ⟨hz, h⟩ := h
    split at h
    · rename_i c hc
      exact ix_str value slice pins s σ' H2 _ _ v u Q I rx ry ⟨z, i, c, rfl, rfl, hz, hc, hk.leaf R0 (.str _) st h⟩ hs
    · exact h.elim
  · rename_i ts i e1 e2
    have a2 := (r2.dpT R2 e2).2.int_v
    subst a2
    obtain ⟨a, us, rfl, e3, e4, e5, e6, e7⟩ := r1.node R1 e1
    split at h
    · rename_i j hj
      have hj' : ixN (us.map TA.v).length i = some j := by rw [List.length_map]; rw [← e3, TA.tl_map, List.length_map] at hj; exact hj
      have go : ∀ c : TA, us[j]? = some c → Q c.v H2 → wpAny (model X.prog X.w) X.A (subscriptTail value slice v u) (EP X pins σ' Q) X.xe s := fun c hc q =>
        ix_list value slice pins s σ' H2 _ _ v u Q I rx ry ⟨a, _, i, c.v, rfl, rfl, SqL.of e4, by unfold atI; rw [hj']; show (us.map TA.v)[j]? = some c.v; rw [List.getElem?_map, hc]; rfl, q⟩ hs
      have tj : ts[j]? = (us[j]?).map TA.t := by rw [← e3]; exact tl_get us j
      split at h
      · rename_i d hd
        rw [tj] at hd
        obtain ⟨c, hc, hct⟩ := Option.map_eq_some_iff.mp hd
        obtain ⟨w, rfl⟩ := ta_d hct
        have okc := TA.okl_all.mp e5 _ (List.mem_of_getElem? hc)
        rw [TA.ok] at okc
        exact go _ hc (hk.leaf R0 okc st h)
      · rename_i k2 us2 hd
        rw [tj] at hd
        obtain ⟨c, hc, hct⟩ := Option.map_eq_some_iff.mp hd
        obtain ⟨a2, us3, rfl, e8⟩ := ta_nd hct
        cases ra with
        | v t =>
          have hn := e6 rfl
          subst hn
          exact go _ hc (hk (.v (.nd k2 us2)) _ Hs2 H2 sl2 [.nd k2 a2 us3] (R1.child hc) ⟨_, rfl, by rw [TA.t, e8], rfl, rfl⟩ st h)
        | p i0 q0 =>
          obtain ⟨t0, g1, g2⟩ := e7 i0 q0 rfl
          have hn : nw1 = [] := r1.1
          subst hn
          refine go _ hc (hk (.p i0 (q0 ++ [j])) _ Hs2 H2 sl2 [] (by simpa using R0) ⟨rfl, t0, _, g1, ?_, rfl, rfl⟩ st h)
          have : ∀ (q : List Nat) (t c' : TA), t.at q = some (.nd .list a us) → t.at (q ++ [j]) = some (.nd k2 a2 us3) := by
            intro q
            induction q with
            | nil =>
              intro t c' ht
              rw [TA.at] at ht
              cases ht
              show (TA.nd .list a us).at [j] = _
              simp only [TA.at, hc]
            | cons m q ih =>
              intro t c' ht
              cases t with
              | dead => cases ht
              | d _ _ => cases ht
              | nd kk aa tt =>
                rw [List.cons_append]
                rw [TA.at] at ht ⊢
                cases hm : tt[m]? with
                | none => rw [hm] at ht; cases ht
                | some b => rw [hm] at ht; exact ih b c' ht
          exact this q0 t0 (.dead .non) g2
      · exact h.elim
    · exact h.elim
  · rename_i ts i e1 e2
    have a2 := (r2.dpT R2 e2).2.int_v
    subst a2
    obtain ⟨a, us, rfl, e3, e4, e5, e6, e7⟩ := r1.node R1 e1
    split at h
    · rename_i j hj
      have hj' : ixN (us.map TA.v).length i = some j := by rw [List.length_map]; rw [← e3, TA.tl_map, List.length_map] at hj; exact hj
      have go : ∀ c : TA, us[j]? = some c → Q c.v H2 → wpAny (model X.prog X.w) X.A (subscriptTail value slice v u) (EP X pins σ' Q) X.xe s := fun c hc q =>
        ix_tup value slice pins s σ' H2 _ _ v u Q I rx ry ⟨a, _, i, c.v, rfl, rfl, SqT.of e4, by unfold atI; rw [hj']; show (us.map TA.v)[j]? = some c.v; rw [List.getElem?_map, hc]; rfl, q⟩ hs
      have tj : ts[j]? = (us[j]?).map TA.t := by rw [← e3]; exact tl_get us j
      split at h
      · rename_i d hd
        rw [tj] at hd
        obtain ⟨c, hc, hct⟩ := Option.map_eq_some_iff.mp hd
        obtain ⟨w, rfl⟩ := ta_d hct
        have okc := TA.okl_all.mp e5 _ (List.mem_of_getElem? hc)
        rw [TA.ok] at okc
        exact go _ hc (hk.leaf R0 okc st h)
      · rename_i k2 us2 hd
        rw [tj] at hd
        obtain ⟨c, hc, hct⟩ := Option.map_eq_some_iff.mp hd
        obtain ⟨a2, us3, rfl, e8⟩ := ta_nd hct
        cases ra with
        | v t =>
          have hn := e6 rfl
          subst hn
          exact go _ hc (hk (.v (.nd k2 us2)) _ Hs2 H2 sl2 [.nd k2 a2 us3] (R1.child hc) ⟨_, rfl, by rw [TA.t, e8], rfl, rfl⟩ st h)
        | p i0 q0 =>
          obtain ⟨t0, g1, g2⟩ := e7 i0 q0 rfl
          have hn : nw1 = [] := r1.1
          subst hn
          refine go _ hc (hk (.p i0 (q0 ++ [j])) _ Hs2 H2 sl2 [] (by simpa using R0) ⟨rfl, t0, _, g1, ?_, rfl, rfl⟩ st h)
          have : ∀ (q : List Nat) (t c' : TA), t.at q = some (.nd .tupw a us) → t.at (q ++ [j]) = some (.nd k2 a2 us3) := by
            intro q
            induction q with
            | nil =>
              intro t c' ht
              rw [TA.at] at ht
              cases ht
              show (TA.nd .tupw a us).at [j] = _
              simp only [TA.at, hc]
            | cons m q ih =>
              intro t c' ht
              cases t with
              | dead => cases ht
              | d _ _ => cases ht
              | nd kk aa tt =>
                rw [List.cons_append]
                rw [TA.at] at ht ⊢
                cases hm : tt[m]? with
                | none => rw [hm] at ht; cases ht
                | some b => rw [hm] at ht; exact ih b c' ht
          exact this q0 t0 (.dead .non) g2
      · exact h.elim
    · exact h.elim
  · rename_i ts i e1 e2
    have a2 := (r2.dpT R2 e2).2.int_v
    subst a2
    obtain ⟨a, us, rfl, e3, e4, e5, e6, e7⟩ := r1.node R1 e1
    split at h
    · rename_i j hj
      have hj' : ixN (us.map TA.v).length i = some j := by rw [List.length_map]; rw [← e3, TA.tl_map, List.length_map] at hj; exact hj
      have go : ∀ c : TA, us[j]? = some c → Q c.v H2 → wpAny (model X.prog X.w) X.A (subscriptTail value slice v u) (EP X pins σ' Q) X.xe s := fun c hc q =>
        ix_tup value slice pins s σ' H2 _ _ v u Q I rx ry ⟨a, _, i, c.v, rfl, rfl, SqT.of e4, by unfold atI; rw [hj']; show (us.map TA.v)[j]? = some c.v; rw [List.getElem?_map, hc]; rfl, q⟩ hs
      have tj : ts[j]? = (us[j]?).map TA.t := by rw [← e3]; exact tl_get us j
      split at h
      · rename_i d hd
        rw [tj] at hd
        obtain ⟨c, hc, hct⟩ := Option.map_eq_some_iff.mp hd
        obtain ⟨w, rfl⟩ := ta_d hct
        have okc := TA.okl_all.mp e5 _ (List.mem_of_getElem? hc)
        rw [TA.ok] at okc
        exact go _ hc (hk.leaf R0 okc st h)
      · exact h.elim
    · exact h.elim
  · exact h.elim
theorem RpAll.drop {K : PySem.W.Frag} {H : Hp} : ∀ {vs : List V} {xs : List PyData} (n : Nat), RpAll K H vs xs → RpAll K H (vs.drop n) (xs.drop n)
  | _, _, 0, h => h
  | _, _, _ + 1, .nil => .nil
  | _, _, n + 1, .cons _ b => RpAll.drop n b
theorem RpAll.take {K : PySem.W.Frag} {H : Hp} : ∀ {vs : List V} {xs : List PyData} (n : Nat), RpAll K H vs xs → RpAll K H (vs.take n) (xs.take n)
  | _, _, 0, h => .nil
  | _, _, _ + 1, .nil => .nil
  | _, _, n + 1, .cons a b => .cons a (RpAll.take n b)
end
theorem tl_set (sl : List TA) (i : Nat) (x : TA) : TA.tl (sl.set i x) = (TA.tl sl).set i x.t := by rw [TA.tl_map, TA.tl_map, List.map_set]
theorem tl_app (a b : List TA) : TA.tl (a ++ b) = TA.tl a ++ TA.tl b := by rw [TA.tl_map, TA.tl_map, TA.tl_map, List.map_append]
theorem tl_len (a : List TA) : (TA.tl a).length = a.length := by rw [TA.tl_map, List.length_map]
theorem tl_putS {sl : List TA} {i : Nat} {t s : TA} {q : List Nat} (h : sl[i]? = some t) : TA.tl (sl.set i (t.put s q)) = putS (TA.tl sl) i q s.t := by
  unfold putS
  rw [tl_set, tl_get, h, TA.put_t]
  rfl
/-- as RR, of a place that may be gone -/
def RR' (r : R) (v : V) (sl nw : List TA) : Prop := match r with
  | .v t => ∃ x, nw = [x] ∧ x.t = t ∧ x.v = v ∧ x.isDead = false
  | .p i q => nw = [] ∧ ∀ t c, sl[i]? = some t → t.at q = some c → c.v = v
theorem RR.weak {r : R} {v : V} {sl nw : List TA} (h : RR r v sl nw) : RR' r v sl nw := by
  cases r with
  | v t => exact h
  | p i q =>
    obtain ⟨e, t, c, h1, h2, h3, h4⟩ := h
    refine ⟨e, fun t' c' g1 g2 => ?_⟩
    rw [h1] at g1
    cases g1
    rw [h2] at g2
    cases g2
    exact h3
theorem TA.put_at {v : V} {y : PyData} : ∀ (q q' : List Nat) (t c c' : TA), t.at q = some c → c.v = v → (t.put (.d v y) q).at q' = some c' → ∃ c'', t.at q' = some c'' ∧ c''.v = c'.v
  | [], [], t, c, c', h, hv, h' => by
    rw [TA.at] at h
    cases h
    rw [TA.put, TA.at] at h'
    cases h'
    exact ⟨t, rfl, hv⟩
  | [], j :: q', t, c, c', h, hv, h' => by
    rw [TA.put, TA.at] at h'
    cases h'
    simp
  | j :: q, [], t, c, c', h, hv, h' => by
    rw [TA.at] at h'
    cases h'
    exact ⟨t, rfl, (TA.put_v (.d v y) (j :: q) t c h hv.symm).symm⟩
  | j :: q, j' :: q', t, c, c', h, hv, h' => by
    cases t with
    | dead => cases h
    | d _ _ => cases h
    | nd k a ts =>
      rw [TA.at] at h
      cases e : ts[j]? with
      | none => rw [e] at h; cases h
      | some b =>
        rw [e] at h
        simp only [TA.put, e] at h'
        rw [TA.at] at h' ⊢
        have hj : j < ts.length := (List.getElem?_eq_some_iff.mp e).1
        by_cases hjj : j' = j
        · subst hjj
          rw [List.getElem?_set_self hj] at h'
          rw [e]
          exact TA.put_at q q' b c c' h hv h'
        · rw [List.getElem?_set_ne (Ne.symm hjj)] at h'
          cases e2 : ts[j']? with
          | none => rw [e2] at h'; cases h'
          | some b2 => rw [e2] at h'; exact ⟨c', h', rfl⟩
section
variable {K : PySem.W.Frag} {B : Bs} {Hs H Hs' H' : Hp} {σ : L2.St} {sl sl' tp nw rest : List TA} {pu : Bool} {r r' : R} {v v' : V}
theorem frz_live {i : Nat} {t c : TA} {q : List Nat} {y : PyData} (h1 : sl[i]? = some t) (h2 : t.at q = some c) (hd : c.isDead = false) : ∀ (j : Nat) u, sl[j]? = some u → u.isDead = false → ∃ u', (sl.set i (t.put (.d c.v y) q))[j]? = some u' ∧ u'.isDead = false := fun j u hu hud => by
  have hi : i < sl.length := (List.getElem?_eq_some_iff.mp h1).1
  by_cases hj : j = i
  · subst hj
    rw [h1] at hu
    cases hu
    refine ⟨_, List.getElem?_set_self hi, ?_⟩
    cases q with
    | nil => rfl
    | cons m q =>
      cases t with
      | dead => cases hud
      | d _ _ => rfl
      | nd k a ts => rw [TA.put]; cases ts[m]? <;> rfl
  · exact ⟨u, by rw [List.getElem?_set_ne (Ne.symm hj)]; exact hu, hud⟩
/-- a result is made a value of one's own -/
theorem toV_ok {Kk : T → St → Prop} (R1 : Rel K B Hs H σ sl (tp ++ (nw ++ rest))) (rr : RR' r v sl nw) (h : toV pu r (TA.tl sl) Kk) :
    ∃ (x : TA) (Hs' : Hp) (sl' : List TA), Rel K B Hs' H σ sl' (tp ++ ([x] ++ rest)) ∧ x.v = v ∧ x.isDead = false ∧ Stp pu H H sl sl' ∧ Kk x.t (TA.tl sl') ∧ ∀ r' v' nw', RR' r' v' sl nw' → RR' r' v' sl' nw' := by
  cases r with
  | v t =>
    obtain ⟨x, e1, e2, e3, e4⟩ := rr
    subst e1
    exact ⟨x, Hs, sl, R1, e3, e4, .refl, by rw [e2]; exact h, fun _ _ _ z => z⟩
  | p i q =>
    obtain ⟨e1, rr⟩ := rr
    subst e1
    obtain ⟨hpu, h⟩ := h
    subst hpu
    split at h
    · rename_i y hy
      unfold R.data R.get at hy
      simp only at hy
      rw [tl_get] at hy
      cases h1 : sl[i]? with
      | none => rw [h1] at hy; cases hy
      | some t =>
        rw [h1] at hy
        simp only [Option.map_some, TA.at_t] at hy
        cases h2 : t.at q with
        | none => rw [h2] at hy; cases hy
        | some c =>
          rw [h2] at hy
          simp only [Option.map_some] at hy
          have hcd : c.isDead = false := by
            cases c with
            | dead => rw [TA.t, T.data] at hy; cases hy
            | d _ _ => rfl
            | nd _ _ _ => rfl
          have hv : c.v = v := rr t c h1 h2
          obtain ⟨R2, dp⟩ := R1.frzP h1 h2 hcd hy
          refine ⟨.d c.v y, frzH Hs H c.fp, sl.set i (t.put (.d c.v y) q), ?_, hv, rfl, ⟨fun z => (by cases z), frz_live h1 h2 hcd⟩, ?_, fun r' v' nw' rr' => ?_⟩
          · refine R2.tempsS ?_ ?_
            · have := TA.okl_append.mp R2.okT
              rw [List.nil_append] at this
              refine TA.okl_append.mpr ⟨this.1, TA.okl_append.mpr ⟨?_, this.2⟩⟩
              rw [TA.okl, TA.ok, TA.okl]
              exact ⟨dp, trivial⟩
            · rw [List.nil_append, TA.fpl_append, TA.fpl_append, TA.fpl_append, fpl_one, TA.fp, List.nil_append]
              exact List.Sublist.refl _
          · rw [tl_putS h1]
            exact h
          · cases r' with
            | v t => exact rr'
            | p i' q' =>
              obtain ⟨z1, z2⟩ := rr'
              refine ⟨z1, fun t' c' g1 g2 => ?_⟩
              by_cases hi : i' = i
              · subst hi
                rw [List.getElem?_set_self (List.getElem?_eq_some_iff.mp h1).1] at g1
                cases g1
                obtain ⟨c'', k1, k2⟩ := TA.put_at q q' t c c' h2 rfl g2
                rw [← k2]
                exact z2 t c'' h1 k1
              · rw [List.getElem?_set_ne (Ne.symm hi)] at g1
                exact z2 t' c' g1 g2
    · exact h.elim
/-- several results -/
inductive RRs' (sl : List TA) : List R → List V → List (List TA) → Prop
  | nil : RRs' sl [] [] []
  | cons {r : R} {v : V} {nw : List TA} {rs : List R} {vs : List V} {nws : List (List TA)} : RR' r v sl nw → RRs' sl rs vs nws → RRs' sl (r :: rs) (v :: vs) (nw :: nws)
theorem RRs.weak : ∀ {rs : List R} {vs : List V} {nws : List (List TA)}, RRs sl rs vs nws → RRs' sl rs vs nws
  | _, _, _, .nil => .nil
  | _, _, _, .cons a b => .cons a.weak b.weak
theorem RRs'.map (f : ∀ r v nw, RR' r v sl nw → RR' r v sl' nw) : ∀ {rs : List R} {vs : List V} {nws : List (List TA)}, RRs' sl rs vs nws → RRs' sl' rs vs nws
  | _, _, _, .nil => .nil
  | _, _, _, .cons a b => .cons (f _ _ _ a) (RRs'.map f b)
theorem toVs_ok {rs : List R} : ∀ {vs : List V} {nws : List (List TA)} {Hs : Hp} {sl tp : List TA} {Kk : List T → St → Prop}, Rel K B Hs H σ sl (tp ++ nws.flatten) → RRs' sl rs vs nws → toVs pu rs (TA.tl sl) Kk →
    ∃ (xs : List TA) (Hs' : Hp) (sl' : List TA), Rel K B Hs' H σ sl' (tp ++ xs) ∧ xs.map TA.v = vs ∧ Stp pu H H sl sl' ∧ Kk (TA.tl xs) (TA.tl sl') := by
  induction rs with
  | nil =>
    intro vs nws Hs sl tp Kk R1 rr h
    cases rr
    exact ⟨[], Hs, sl, R1, rfl, .refl, h⟩
  | cons r rs ih =>
    intro vs nws Hs sl tp Kk R1 rr h
    cases rr with
    | @cons _ v nw _ vs nws a b =>
      rw [List.flatten_cons] at R1
      rw [toVs] at h
      obtain ⟨x, Hs1, sl1, R2, e1, e2, st1, h1, f⟩ := toV_ok R1 a h
      have R3 : Rel K B Hs1 H σ sl1 ((tp ++ [x]) ++ nws.flatten) := by rw [List.append_assoc]; exact R2
      obtain ⟨xs, Hs2, sl2, R4, e3, st2, h2⟩ := ih R3 (b.map f) h1
      refine ⟨x :: xs, Hs2, sl2, ?_, by rw [List.map_cons, e1, e3], st1.trans st2 id, h2⟩
      rw [List.append_assoc] at R4
      exact R4
/-- a list at a place -/
theorem atList_ok {Kk : List T → (List T → St) → Prop} (rr : RR' r v sl nw) (h : atList r (TA.tl sl) Kk) : ∃ i q t a us, r = .p i q ∧ nw = [] ∧ sl[i]? = some t ∧ t.at q = some (.nd .list a us) ∧ v = .ref a ∧ Kk (TA.tl us) fun us' => putS (TA.tl sl) i q (.nd .list us') := by
  unfold atList at h
  cases r with
  | v t => exact h.elim
  | p i q =>
    simp only at h
    split at h
    · rename_i ts hts
      unfold R.get at hts
      simp only at hts
      rw [tl_get] at hts
      cases h1 : sl[i]? with
      | none => rw [h1] at hts; cases hts
      | some t =>
        rw [h1] at hts
        simp only [Option.map_some, TA.at_t] at hts
        cases h2 : t.at q with
        | none => rw [h2] at hts; cases hts
        | some c =>
          rw [h2] at hts
          obtain ⟨a, us, rfl, e⟩ := ta_nd (Option.some.inj hts)
          refine ⟨i, q, t, a, us, rfl, rr.1, h1, h2, (rr.2 t _ h1 h2).symm, ?_⟩
          rw [e]
          exact h
    · exact h.elim
/-- a list at a place is changed -/
theorem Rel.chg {i : Nat} {q : List Nat} {t : TA} {a : Addr} {us us' xs : List TA} (R1 : Rel K B Hs H σ sl (tp ++ xs)) (h1 : sl[i]? = some t) (h2 : t.at q = some (.nd .list a us)) (ok : TA.okl K Hs H us') (sub : ∀ b ∈ TA.fpl us', b ∈ TA.fpl us ∨ b ∈ TA.fpl xs) (uq : (TA.fpl us').Nodup)
    (hn : TA.noTupl us' = true) : Rel K B Hs (upd H a (.lst (us'.map TA.v))) σ (sl.set i (t.put (.nd .list a us') q)) tp ∧ TA.tl (sl.set i (t.put (.nd .list a us') q)) = putS (TA.tl sl) i q (.nd .list (TA.tl us')) := by
  have okc := TA.at_ok q t _ h2 (R1.slot_ok h1)
  rw [TA.ok] at okc
  have hanot : a ∉ TA.fpl us' := fun z => by
    have hu := R1.uq
    obtain ⟨l1, l2, e1, e2⟩ := Rel.lens (tp := tp ++ xs) h1 h2
    rw [e1] at hu
    have nm := nodup_mid hu
    rw [TA.fp, List.nodup_cons] at nm
    rcases sub a z with y | y
    · exact nm.2.1.1 y
    · have u3 := R1.uq
      rw [TA.fpl_append, TA.fpl_append, ← List.append_assoc, List.nodup_append] at u3
      refine u3.2.2 a ?_ a y rfl
      obtain ⟨g1, g2, ge, _⟩ := TA.lens q t _ h2
      exact List.mem_append_left _ (fpl_mem (List.mem_of_getElem? h1) (by rw [ge, TA.fp]; simp))
  refine ⟨R1.put h1 h2 rfl (fun e _ => by subst e; rw [TA.at] at h2; cases h2; exact R1.val i (.nd .list a us) h1 rfl) ?_ ?_ ?_ ?_ ?_, ?_⟩
  · simp only [TA.noTup, Kd.isTup, Bool.not_false, Bool.true_and]; exact hn
  · intro b hb
    exact upd_ne fun z => hb (by rw [z, TA.fp]; exact List.mem_cons_self)
  · rw [TA.ok]
    refine ⟨show upd H a (.lst (us'.map TA.v)) a = some (.lst (us'.map TA.v)) from upd_same, TA.okl_mono (Same.refl _) _ ok fun b hb => upd_ne fun z => hanot (z ▸ hb)⟩
  · rw [TA.fp]
    exact List.nodup_cons.mpr ⟨hanot, uq⟩
  · intro b hb
    rw [TA.fp] at hb
    rcases List.mem_cons.mp hb with rfl | hb
    · exact .inl (by rw [TA.fp]; exact List.mem_cons_self)
    · rcases sub b hb with z | z
      · exact .inl (by rw [TA.fp]; exact List.mem_cons_of_mem _ z)
      · exact .inr z
  · rw [tl_putS h1, TA.t]
theorem chg_live {i : Nat} {t s : TA} {q : List Nat} {c : TA} (h1 : sl[i]? = some t) (h2 : t.at q = some c) (hd : s.isDead = false) : ∀ (j : Nat) u, sl[j]? = some u → u.isDead = false → ∃ u', (sl.set i (t.put s q))[j]? = some u' ∧ u'.isDead = false := fun j u hu hud => by
  have hi : i < sl.length := (List.getElem?_eq_some_iff.mp h1).1
  by_cases hj : j = i
  · subst hj
    rw [h1] at hu
    cases hu
    refine ⟨_, List.getElem?_set_self hi, ?_⟩
    cases q with
    | nil => exact hd
    | cons m q =>
      cases t with
      | dead => cases hud
      | d _ _ => rfl
      | nd k a ts => rw [TA.put]; cases ts[m]? <;> rfl
  · exact ⟨u, by rw [List.getElem?_set_ne (Ne.symm hj)]; exact hu, hud⟩
end
theorem intsOf_v {K : PySem.W.Frag} {H : Hp} : ∀ {vs : List V} {xs : List PyData} {ns : List Int}, RpAll K H vs xs → intsOf xs = some ns → vs = ns.map V.int
  | _, _, ns, .nil, h => by rw [intsOf] at h; cases h; rfl
  | _, _, ns, .cons (d := d) a b, h => by
    cases d with
    | int i =>
      rw [intsOf] at h
      split at h
      · rename_i ms e
        cases h
        rw [intsOf_v b e, a.int_v]
        rfl
      · cases h
    | _ => simp [intsOf] at h
theorem boolsOf_v {K : PySem.W.Frag} {H : Hp} : ∀ {vs : List V} {xs : List PyData} {ns : List Bool}, RpAll K H vs xs → boolsOf xs = some ns → vs = ns.map V.bl
  | _, _, ns, .nil, h => by rw [boolsOf] at h; cases h; rfl
  | _, _, ns, .cons (d := d) a b, h => by
    cases d with
    | bool i =>
      rw [boolsOf] at h
      split at h
      · rename_i ms e
        cases h
        rw [boolsOf_v b e, a.bool_v]
        rfl
      · cases h
    | _ => simp [boolsOf] at h
theorem maxL_spec : ∀ ns : List Int, ns ≠ [] → maxL ns ∈ ns ∧ ∀ y ∈ ns, y ≤ maxL ns
  | [], h => absurd rfl h
  | [x], _ => ⟨by simp [maxL], by simp [maxL]⟩
  | x :: y :: r, _ => by
    obtain ⟨h1, h2⟩ := maxL_spec (y :: r) (by simp)
    rw [maxL]
    refine ⟨?_, fun z hz => ?_⟩
    · rcases Int.le_total x (maxL (y :: r)) with h | h
      · rw [Int.max_eq_right h]; exact List.mem_cons_of_mem _ h1
      · rw [Int.max_eq_left h]; exact List.mem_cons_self
    · rcases List.mem_cons.mp hz with rfl | hz
      · exact Int.le_max_left _ _
      · exact Int.le_trans (h2 z hz) (Int.le_max_right _ _)
theorem minL_spec : ∀ ns : List Int, ns ≠ [] → minL ns ∈ ns ∧ ∀ y ∈ ns, minL ns ≤ y
  | [], h => absurd rfl h
  | [x], _ => ⟨by simp [minL], by simp [minL]⟩
  | x :: y :: r, _ => by
    obtain ⟨h1, h2⟩ := minL_spec (y :: r) (by simp)
    rw [minL]
    refine ⟨?_, fun z hz => ?_⟩
    · rcases Int.le_total x (minL (y :: r)) with h | h
      · rw [Int.min_eq_left h]; exact List.mem_cons_self
      · rw [Int.min_eq_right h]; exact List.mem_cons_of_mem _ h1
    · rcases List.mem_cons.mp hz with rfl | hz
      · exact Int.min_le_left _ _
      · exact Int.le_trans (Int.min_le_right _ _) (h2 z hz)
theorem sortI_perm (ns : List Int) : (sortI ns).Perm ns := List.mergeSort_perm _ _
theorem sortI_sorted (ns : List Int) : (sortI ns).Pairwise (· ≤ ·) := by
  have := List.pairwise_mergeSort (le := fun a b : Int => decide (a ≤ b)) (fun a b c h1 h2 => by simp at *; omega) (fun a b => by simp; omega) ns
  exact this.imp fun h => by simpa using h
theorem sortI_unique {ns ms : List Int} (h : ms.Perm ns) (hs : ms.Pairwise (· ≤ ·)) : ms = sortI ns := PySem.W.ksm_same (h.trans (sortI_perm ns).symm) hs (sortI_sorted ns)
theorem intLeafs {K : PySem.W.Frag} {Hs : Hp} : ∀ ns : List Int, RpAll K Hs (ns.map V.int) (ns.map PyData.int)
  | [] => .nil
  | n :: ns => .cons (.int n) (intLeafs ns)
section
variable {X : Cx} {pins : List (Addr × Obj)} {s : Shared} {σ : L2.St} {H H2 Hs2 : Hp} {B : Bs} {sl sl2 tp nw nw1 nw2 as : List TA} {P : R → St → Prop} {Q : VK} {pu : Bool} {ra rb : R} {x y : V} {v u : Value}
/-- a call by values -/
def CaW (X : Cx) (w : List R → St → (R → St → Prop) → Prop) : List V → Hp → VK → Prop := fun xs H2 Q => ∃ σ B Hs2 sl2 tp nws rs P H sl pu, Rel X.K B Hs2 H2 σ sl2 (tp ++ nws.flatten) ∧ RRs sl2 rs xs nws ∧ Stp pu H H2 sl sl2 ∧ w rs (TA.tl sl2) P ∧ Cont X B σ tp pu H sl P Q
theorem RRs.one {sl : List TA} {r : R} {xs : List V} {nws : List (List TA)} (h : RRs sl [r] xs nws) : ∃ x nw, xs = [x] ∧ nws = [nw] ∧ RR r x sl nw := by
  cases h with
  | cons a b =>
    cases b
    exact ⟨_, _, rfl, rfl, a⟩
theorem RRs.two {sl : List TA} {r r' : R} {xs : List V} {nws : List (List TA)} (h : RRs sl [r, r'] xs nws) : ∃ x y nw nw', xs = [x, y] ∧ nws = [nw, nw'] ∧ RR r x sl nw ∧ RR r' y sl nw' := by
  cases h with
  | cons a b =>
    cases b with
    | cons c d =>
      cases d
      exact ⟨_, _, _, _, rfl, rfl, a, c⟩
/-- the data of several results -/
theorem datas_ok {K : PySem.W.Frag} {Hs : Hp} : ∀ {rs : List R} {vs : List V} {nws : List (List TA)} {xs : List PyData} {tp : List TA}, Rel K B Hs H σ sl (tp ++ nws.flatten) → RRs sl rs vs nws → R.datas (TA.tl sl) rs = some xs → RpAll K H vs xs := by
  intro rs
  induction rs with
  | nil =>
    intro vs nws xs tp R1 rr h
    cases rr
    rw [R.datas] at h
    cases h
    exact .nil
  | cons r rs ih =>
    intro vs nws xs tp R1 rr h
    cases rr with
    | @cons _ v nw _ vs nws a b =>
      rw [R.datas] at h
      split at h
      · rename_i x ys e1 e2
        cases h
        rw [List.flatten_cons] at R1
        have R2 : Rel K B Hs H σ sl ((tp ++ nw) ++ nws.flatten) := by rw [List.append_assoc]; exact R1
        exact .cons (a.dp R2.drop e1) (ih R2 b e2)
      · cases h
theorem RpAll.one_v {K : PySem.W.Frag} {H : Hp} {vs : List V} {x : PyData} (h : RpAll K H vs [x]) : ∃ v, vs = [v] ∧ Rp K H v x := by
  cases h with
  | cons a b => cases b; exact ⟨_, rfl, a⟩
theorem RpAll.two_v {K : PySem.W.Frag} {H : Hp} {vs : List V} {x y : PyData} (h : RpAll K H vs [x, y]) : ∃ v w, vs = [v, w] ∧ Rp K H v x ∧ Rp K H w y := by
  cases h with
  | cons a b => cases b with | cons c d => cases d; exact ⟨_, _, rfl, a, c⟩
def bltV : Blt → Value
  | .len => .builtin "len"
  | .max => .builtin "max"
  | .min => .builtin "min"
  | .sum => .builtin "sum"
  | .abs => .builtin "abs"
  | .int => .type "int"
  | .str => .type "str"
  | .tuple => .type "tuple"
  | .list => .type "list"
  | .sorted => .builtin "sorted"
  | .all => .builtin "all"
  | .any => .builtin "any"
  | .listRange => .none
theorem call_bltD {b : Blt} {xs : List PyData} {vs : List V} {us : List Value} {Kk : T → Prop} (hc : X.calm = true) (hb : b ≠ .listRange) (I : Inv X pins σ H s) (rv : Vals vs us) (dp : RpAll X.K H vs xs) (h : bltD b xs Kk) (q1 : ∀ v d, Kk (.d d) → (∀ Hs, Rp X.K Hs v d) → Q v H)
    (q2 : ∀ (ns : List Int) p, H p = none → Kk (.nd .list (ns.map fun i => .d (.int i))) → Q (.ref p) (upd H p (.lst (ns.map V.int)))) : wpAny (model X.prog X.w) X.A (call (bltV b) us) (EP X pins σ Q) X.xe s := by
  have int1 : ∀ {i : Int}, Kk (.d (.int i)) → Q (.int i) H := fun k => q1 _ _ k fun _ => .int _
  unfold bltD at h
  split at h
  -- max of a list
  · obtain ⟨w, rfl, d1⟩ := dp.one_v
    cases d1 with
    | lst hr ha =>
      split at h
      · rename_i ns e
        obtain ⟨hne, h⟩ := h
        have := intsOf_v ha e
        subst this
        refine cr_max hc pins s σ H _ us Q I rv ⟨_, ns, rfl, hr, by cases ns with | nil => exact absurd rfl hne | cons _ _ => simp, fun m hm hle => ?_⟩
        obtain ⟨g1, g2⟩ := maxL_spec ns hne
        have : m = maxL ns := Int.le_antisymm (g2 m hm) (hle _ g1)
        rw [this]
        exact int1 h
      · exact h.elim
  · obtain ⟨w, w', rfl, d1, d2⟩ := dp.two_v
    rename_i i j
    have e1 := d1.int_v
    have e2 := d2.int_v
    subst e1 e2
    refine call_max2 hc pins s σ H _ us Q I rv ⟨i, j, rfl, ?_⟩
    have : (if j > i then j else i) = max i j := by
      rw [Int.max_def]
      split <;> split <;> omega
    rw [this]
    exact int1 h
  · obtain ⟨w, rfl, d1⟩ := dp.one_v
    cases d1 with
    | lst hr ha =>
      split at h
      · rename_i ns e
        obtain ⟨hne, h⟩ := h
        have := intsOf_v ha e
        subst this
        refine cr_min hc pins s σ H _ us Q I rv ⟨_, ns, rfl, hr, by cases ns with | nil => exact absurd rfl hne | cons _ _ => simp, fun m hm hle => ?_⟩
        obtain ⟨g1, g2⟩ := minL_spec ns hne
        have : m = minL ns := Int.le_antisymm (hle _ g1) (g2 m hm)
        rw [this]
        exact int1 h
      · exact h.elim
  · obtain ⟨w, w', rfl, d1, d2⟩ := dp.two_v
    rename_i i j
    have e1 := d1.int_v
    have e2 := d2.int_v
    subst e1 e2
    refine call_min2 hc pins s σ H _ us Q I rv ⟨i, j, rfl, ?_⟩
    have : (if j < i then j else i) = min i j := by
      rw [Int.min_def]
      split <;> split <;> omega
    rw [this]
    exact int1 h
  · obtain ⟨w, rfl, d1⟩ := dp.one_v
    cases d1 with
    | lst hr ha =>
      split at h
      · rename_i ns e
        have := intsOf_v ha e
        subst this
        exact cr_sum hc pins s σ H _ us Q I rv ⟨_, ns, rfl, hr, int1 h⟩
      · exact h.elim
  · obtain ⟨w, rfl, d1⟩ := dp.one_v
    cases d1 with
    | tup hr ha =>
      split at h
      · rename_i ns e
        have := intsOf_v ha e
        subst this
        exact cr_sumT hc pins s σ H _ us Q I rv ⟨_, ns, rfl, hr, int1 h⟩
      · exact h.elim
  · obtain ⟨w, rfl, d1⟩ := dp.one_v
    cases d1 with
    | lst hr ha =>
      split at h
      · rename_i bs e
        have := boolsOf_v ha e
        subst this
        exact cr_all hc pins s σ H _ us Q I rv ⟨_, bs, rfl, hr, q1 _ _ h fun _ => .bl _⟩
      · exact h.elim
  · obtain ⟨w, rfl, d1⟩ := dp.one_v
    cases d1 with
    | lst hr ha =>
      split at h
      · rename_i bs e
        have := boolsOf_v ha e
        subst this
        exact cr_any hc pins s σ H _ us Q I rv ⟨_, bs, rfl, hr, q1 _ _ h fun _ => .bl _⟩
      · exact h.elim
  · obtain ⟨w, rfl, d1⟩ := dp.one_v
    cases d1 with
    | lst hr ha =>
      split at h
      · rename_i ns e
        have := intsOf_v ha e
        subst this
        refine cr_sortedI pins s σ H _ us Q I rv ⟨_, ns, rfl, hr, fun ms p hp hs hn => ?_⟩
        rw [sortI_unique hp hs]
        exact q2 _ p hn h
      · exact h.elim
  · obtain ⟨w, rfl, d1⟩ := dp.one_v
    cases d1 with
    | tup hr ha =>
      split at h
      · rename_i ns e
        have := intsOf_v ha e
        subst this
        refine cr_sortedT pins s σ H _ us Q I rv ⟨_, ns, rfl, hr, fun ms p hp hs hn => ?_⟩
        rw [sortI_unique hp hs]
        exact q2 _ p hn h
      · exact h.elim
  · obtain ⟨w, rfl, d1⟩ := dp.one_v
    have e1 := d1.int_v
    subst e1
    exact call_abs pins s σ H _ us Q I rv ⟨_, rfl, int1 h⟩
  · obtain ⟨w, rfl, d1⟩ := dp.one_v
    have e1 := d1.int_v
    subst e1
    exact call_int1 pins s σ H _ us Q I rv (.inl ⟨_, rfl, int1 h⟩)
  · obtain ⟨w, rfl, d1⟩ := dp.one_v
    have e1 := d1.bool_v
    subst e1
    exact call_int1 pins s σ H _ us Q I rv (.inr ⟨_, rfl, int1 h⟩)
  · obtain ⟨w, rfl, d1⟩ := dp.one_v
    have e1 := d1.str_v
    subst e1
    split at h
    · rename_i n hn
      exact call_int_str pins s σ H _ us Q I rv ⟨_, n, rfl, hn, h.1, int1 h.2⟩
    · exact h.elim
  · obtain ⟨w, rfl, d1⟩ := dp.one_v
    have e1 := d1.int_v
    subst e1
    exact call_str_int pins s σ H _ us Q I rv ⟨_, rfl, h.1, q1 _ _ h.2 fun _ => .str _⟩
  · exact absurd rfl hb
  · obtain ⟨w, rfl, d1⟩ := dp.one_v
    have e1 := d1.str_v
    subst e1
    exact call_len_str pins s σ H _ us Q I rv ⟨_, rfl, h.1, int1 h.2⟩
  · obtain ⟨w, rfl, d1⟩ := dp.one_v
    cases d1 with
    | lst hr ha => exact call_len_seq pins s σ H _ us Q I rv ⟨_, _, rfl, .inl hr, by rw [ha.length]; exact int1 h⟩
  · obtain ⟨w, rfl, d1⟩ := dp.one_v
    cases d1 with
    | tup hr ha => exact call_len_seq pins s σ H _ us Q I rv ⟨_, _, rfl, .inr hr, by rw [ha.length]; exact int1 h⟩
  · exact h.elim
theorem call_bltW {b : Blt} (hc : X.calm = true) (hb : b ≠ .listRange) : CallR X (bltV b) (CaW X (bltW b)) := by
  intro pins s σ' H2 xs us Q I rv h
  obtain ⟨σ, B, Hs2, sl2, tp, nws, rs, P, H, sl, pu, R1, rr, st, h, hk⟩ := h
  have R0 : Rel X.K B Hs2 H2 σ sl2 tp := R1.drop
  have gen : ∀ ds, R.datas (TA.tl sl2) rs = some ds → bltD b ds (fun t => P (.v t) (TA.tl sl2)) → wpAny (model X.prog X.w) X.A (call (bltV b) us) (EP X pins σ' Q) X.xe s := fun ds hd h => by
    refine call_bltD hc hb I rv (datas_ok R1 rr hd) h (fun v d k dp => hk.leaf R0 (dp _) st k) fun ns p hp k => ?_
    obtain ⟨g1, g2, g3, g4⟩ := leafs_ok (H := H2) (intLeafs (K := X.K) (Hs := Hs2) ns)
    have := hk.lst (R0.leaves g1 g2) hp st (by rw [g3, List.map_map]; exact k)
    rw [g4] at this
    exact this
  have single : ∀ r, rs = [r] → ∃ x nw, xs = [x] ∧ RR r x sl2 nw ∧ Rel X.K B Hs2 H2 σ sl2 (tp ++ nw) := fun r e => by
    subst e
    obtain ⟨x, nw, rfl, rfl, rr1⟩ := rr.one
    exact ⟨x, nw, rfl, rr1, by simpa using R1⟩
  cases b with
  | list =>
    simp only [bltW] at h
    split at h
    · rename_i r
      obtain ⟨x, nw, rfl, r1, R2⟩ := single r rfl
      split at h
      · rename_i ds e
        have d1 := (r1.dpT R2 e).1
        cases d1 with
        | tup hr ha =>
          refine call_list_of pins s σ' H2 _ us Q I rv ⟨_, _, rfl, .inr (SqT.mono R2.sub hr), fun l hl => ?_⟩
          obtain ⟨g1, g2, g3, g4⟩ := leafs_ok (H := H2) ha
          have := hk.lst (R0.leaves g1 g2) hl st (by rw [g3]; exact h)
          rw [g4] at this
          exact this
      · split at h
        · rename_i ts hts
          obtain ⟨a, us', rfl, t1, d1, o1, s1⟩ := r1.kids R2 hts
          refine call_list_of pins s σ' H2 _ us Q I rv ⟨_, _, rfl, .inl (d1), fun l hl => ?_⟩
          have R3 : Rel X.K B Hs2 H2 σ sl2 (tp ++ us') := by
            refine R2.tempsS (TA.okl_append.mpr ⟨R0.okT, o1⟩) ?_
            rw [TA.fpl_append, TA.fpl_append]
            exact (List.Sublist.refl _).append s1
          exact hk.lst R3 hl st (by rw [t1]; exact h)
        · exact h.elim
    · exact h.elim
  | tuple =>
    simp only [bltW] at h
    split at h
    · rename_i r
      obtain ⟨x, nw, rfl, r1, R2⟩ := single r rfl
      split at h
      · rename_i ds e
        have d1 := (r1.dpT R2 e).1
        cases d1 with
        | tup hr ha => exact call_tuple_of pins s σ' H2 _ us Q I rv ⟨_, _, rfl, .inr ⟨SqT.mono R2.sub hr, hk.leaf R0 (.tup hr ha) st h⟩⟩
      · rename_i ds e
        have d1 := (r1.dpT R2 e).1
        cases d1 with
        | lst hr ha => exact call_tuple_of pins s σ' H2 _ us Q I rv ⟨_, _, rfl, .inl ⟨SqL.mono R2.sub hr, fun l hl => hk.tup R0 hl ha st h⟩⟩
      · rename_i ts e
        split at h
        · rename_i ds hl
          obtain ⟨a, us', rfl, e3, e4, e5, _, _⟩ := r1.node R2 e
          rw [← e3] at hl
          obtain ⟨f1, f2, f3⟩ := leaves_of hl
          exact call_tuple_of pins s σ' H2 _ us Q I rv ⟨_, _, rfl, .inl ⟨SqL.of e4, fun l hl => hk.tup R0 hl (f3 e5) st h⟩⟩
        · exact h.elim
      · exact h.elim
    · exact h.elim
  | len =>
    simp only [bltW] at h
    split at h
    · rename_i r
      obtain ⟨x, nw, rfl, r1, R2⟩ := single r rfl
      split at h
      · rename_i ts e
        obtain ⟨a, us', rfl, e3, e4, e5, _, _⟩ := r1.node R2 e
        refine call_len_seq pins s σ' H2 _ us Q I rv ⟨_, _, rfl, .inl (SqL.of e4), ?_⟩
        have : (us'.map TA.v).length = ts.length := by rw [← e3, tl_len, List.length_map]
        rw [this]
        exact hk.leaf R0 (.int _) st h
      · rename_i ts e
        obtain ⟨a, us', rfl, e3, e4, e5, _, _⟩ := r1.node R2 e
        refine call_len_seq pins s σ' H2 _ us Q I rv ⟨_, _, rfl, .inr (SqT.of e4), ?_⟩
        have : (us'.map TA.v).length = ts.length := by rw [← e3, tl_len, List.length_map]
        rw [this]
        exact hk.leaf R0 (.int _) st h
      · rename_i d e
        exact gen [d] (by simp [R.datas, R.data, e, T.data]) h
      · exact h.elim
    · exact h.elim
  | listRange => exact absurd rfl hb
  | _ =>
    simp only [bltW] at h
    split at h
    · rename_i ds hd
      exact gen ds hd h
    · exact h.elim
end
/-- the promise of a def: its arguments as trees, its result, the arguments behind it -/
def spV (K : PySem.W.Frag) (md : List Md) (F : List T → (T → List T → Prop) → Prop) : Sp := fun vs H Q _ => ∃ Hs as P, vs.length = md.length ∧ Rel K ⟨⟨H, Hs, TA.fpl as ++ tabA K, []⟩, []⟩ Hs H (vs.map some) as [] ∧ as.map TA.v = vs ∧ (∀ t ∈ as, t.isDead = false) ∧ (∀ (i : Nat) (t : TA), md[i]? = some Md.bor → as[i]? = some t → ∃ v x, t = TA.d v x) ∧ F (TA.tl as) P ∧
  ∀ H' Hs' as' r, Rel K ⟨⟨H, Hs, TA.fpl as ++ tabA K, []⟩, []⟩ Hs' H' (vs.map some) as' [r] → as'.map TA.v = vs → (∀ (i : Nat) (t : TA), md[i]? = some Md.own → as'[i]? = some t → t.isDead = false) → r.isDead = false → P r.t (TA.tl as') → Q r.v H'
/-- the promise of a method that changes nothing: its result is data -/
def spP (K : PySem.W.Frag) (md : List Md) (F : List T → (PyData → Prop) → Prop) : Sp := fun vs H Q _ => ∃ Hs as P, vs.length = md.length ∧ Rel K ⟨⟨H, Hs, TA.fpl as ++ tabA K, []⟩, []⟩ Hs H (vs.map some) as [] ∧ as.map TA.v = vs ∧ (∀ t ∈ as, t.isDead = false) ∧ (∀ (i : Nat) (t : TA), md[i]? = some Md.bor → as[i]? = some t → ∃ v x, t = TA.d v x) ∧ F (TA.tl as) P ∧
  ∀ H' Hs' v y, ExtT K H H' → TabsV K Hs' H' → Same Hs Hs' → Same Hs' H' → (∀ a, Hs' a ≠ none → Hs a ≠ none ∨ H a = none) → Rp K Hs' v y → P y → Q v H'
section
variable {K : PySem.W.Frag} {B : Bs} {Hs H Hs' H' : Hp} {σ : L2.St} {sl sl' tp tp' cs as as' : List TA} {t c x r : TA} {i : Nat} {q : List Nat}
theorem Rel.perm (R : Rel K B Hs H σ sl tp) (h : tp.Perm tp') : Rel K B Hs H σ sl tp' := by
  have hp : (TA.fpl tp).Perm (TA.fpl tp') := by rw [TA.fpl_flat, TA.fpl_flat]; exact h.flatMap_right _
  exact R.temps (TA.okl_all.mpr fun u hu => TA.okl_all.mp R.okT u (h.mem_iff.mpr hu)) (fun a ha => hp.mem_iff.mpr ha) (hp.nodup_iff.mp R.uqT)
/-- the object at a place is taken out -/
theorem Rel.out1 (R : Rel K B Hs H σ sl tp) (h : sl[i]? = some t) (hc : t.at q = some c) : Rel K B Hs H σ (sl.set i (t.put (.dead c.v) q)) (tp ++ [c]) := by
  obtain ⟨l1, l2, e1, e2⟩ := Rel.lens (tp := tp) h hc
  have e3 : TA.fpl (sl.set i (t.put (.dead c.v) q) ++ (tp ++ [c])) = l1 ++ l2 ++ c.fp := by
    rw [← List.append_assoc, TA.fpl_append, e2, TA.fp, List.append_nil, fpl_one]
  have pm : (TA.fpl (sl.set i (t.put (.dead c.v) q) ++ (tp ++ [c]))).Perm (TA.fpl (sl ++ tp)) := by
    rw [e3, e1, List.append_assoc, List.append_assoc]
    exact List.Perm.append_left _ List.perm_append_comm
  obtain ⟨pv1, pv2⟩ := R.put_val (s := .dead c.v) h hc rfl (fun _ z => by cases z)
  have okc : c.ok K Hs H := TA.at_ok q t c hc (R.slot_ok h)
  refine ⟨by rw [List.length_set]; exact R.len, pv1, TA.okl_append.mpr ⟨TA.okl_all.mpr fun u hu => ?_, TA.okl_append.mpr ⟨R.okT, ?_⟩⟩, pm.nodup_iff.mpr R.uq, fun a ha => R.out a (pm.mem_iff.mp ha), R.sub, R.keep, fun a ha => R.fresh a (pm.mem_iff.mp ha), R.hs, R.hsNew, fun u hu => ?_, pv2, R.tab, R.tabB⟩
  · rcases mem_set_or hu with rfl | hu
    · exact TA.put_ok (Same.refl _) (.dead c.v) (by rw [TA.ok]; trivial) q t c hc rfl (R.slot_ok h) (R.slot_uq h) fun _ _ _ => rfl
    · exact TA.okl_all.mp R.okS u hu
  · rw [TA.okl, TA.okl]; exact ⟨okc, trivial⟩
  · rcases mem_set_or hu with rfl | hu
    · exact TA.put_noTup _ rfl q t (R.ntup t (List.mem_of_getElem? h))
    · exact R.ntup u hu
/-- .. and put back -/
theorem Rel.in1 (R : Rel K B Hs H σ sl (tp ++ [x])) (h : sl[i]? = some t) (hc : t.at q = some c) (hcv : x.v = c.v) (hn : x.noTup = true) (hσ : q = [] → x.isDead = false → σ[i]? = some (some x.v)) : Rel K B Hs H σ (sl.set i (t.put x q)) tp := by
  have okx := R.okT
  rw [TA.okl_append, TA.okl] at okx
  have uqx := R.uqT
  rw [TA.fpl_append, fpl_one, List.nodup_append] at uqx
  exact R.put h hc hcv hσ hn (fun _ _ => rfl) okx.2.1 uqx.2.1 (fun a ha => .inr (by rw [fpl_one]; exact ha))
/-- the shared heap without what was lent -/
def unfrz (Hs : Hp) (A : List Addr) : Hp := fun a => if a ∈ A then none else Hs a
mutual
theorem Rp.unlend {A : List Addr} (hA : ∀ a ∈ A, ∀ vs o, Hs a ≠ some (.tup vs) ∧ Hs a ≠ some (.frz o (.tup vs))) : ∀ {v : V} {d : PyData}, Rp K Hs v d → immD d = true → Rp K (unfrz Hs A) v d
  | _, _, .non, _ => .non
  | _, _, .bl b, _ => .bl b
  | _, _, .int b, _ => .int b
  | _, _, .str b, _ => .str b
  | _, _, .lst _ _, h => by simp [immD] at h
  | _, _, .dct _ _ _, h => by simp [immD] at h
  | _, _, .tup (a := a) (xs := xs) hs ha, h => by
    refine .tup ?_ (RpAll.unlend hA ha (by simpa [immD] using h))
    rcases hs with (hs | ⟨o, hs⟩) | hs
    · refine .inl (.inl ?_)
      unfold unfrz
      rw [if_neg fun z => (hA a z xs default).1 hs]
      exact hs
    · refine .inl (.inr ⟨o, ?_⟩)
      unfold unfrz
      rw [if_neg fun z => (hA a z xs o).2 hs]
      exact hs
    · exact .inr hs
theorem RpAll.unlend {A : List Addr} (hA : ∀ a ∈ A, ∀ vs o, Hs a ≠ some (.tup vs) ∧ Hs a ≠ some (.frz o (.tup vs))) : ∀ {vs : List V} {ds : List PyData}, RpAll K Hs vs ds → immDl ds = true → RpAll K (unfrz Hs A) vs ds
  | _, _, .nil, _ => .nil
  | _, _, .cons a b, h => by
    simp only [immDl, Bool.and_eq_true] at h
    exact .cons (Rp.unlend hA a h.1) (RpAll.unlend hA b h.2)
end
mutual
theorem TA.unlend {A : List Addr} (hA : ∀ a ∈ A, ∀ vs o, Hs a ≠ some (.tup vs) ∧ Hs a ≠ some (.frz o (.tup vs))) : ∀ t : TA, t.ok K Hs H → t.t.flat = true → t.ok K (unfrz Hs A) H
  | .dead _, _, _ => by rw [TA.ok]; trivial
  | .d v x, h, f => by
    rw [TA.ok] at h ⊢
    rw [TA.t, T.flat] at f
    exact h.unlend hA f
  | .nd k a ts, h, f => by
    rw [TA.ok] at h ⊢
    rw [TA.t, T.flat] at f
    exact ⟨h.1, TA.unlendl hA ts h.2 f⟩
theorem TA.unlendl {A : List Addr} (hA : ∀ a ∈ A, ∀ vs o, Hs a ≠ some (.tup vs) ∧ Hs a ≠ some (.frz o (.tup vs))) : ∀ ts : List TA, TA.okl K Hs H ts → T.flatl (TA.tl ts) = true → TA.okl K (unfrz Hs A) H ts
  | [], _, _ => by rw [TA.okl]; trivial
  | t :: r, h, f => by
    rw [TA.okl] at h ⊢
    rw [TA.tl, T.flatl, Bool.and_eq_true] at f
    exact ⟨TA.unlend hA t h.1 f.1, TA.unlendl hA r h.2 f.2⟩
end
theorem unfrz_nil : unfrz Hs [] = Hs := by funext a; unfold unfrz; rw [if_neg (by simp)]
mutual
theorem TA.fp_kind : ∀ t : TA, t.ok K Hs H → t.noTup = true → t.t.data.isSome = true → ∀ a ∈ t.fp, ∀ vs o, H a ≠ some (.tup vs) ∧ H a ≠ some (.frz o (.tup vs))
  | .dead _, _, _, _, a, h => by simp [TA.fp] at h
  | .d _ _, _, _, _, a, h => by simp [TA.fp] at h
  | .nd k b ts, ok, nt, dt, a, h => by
    rw [TA.ok] at ok
    rw [TA.noTup, Bool.and_eq_true] at nt
    have dtl : (T.datal (TA.tl ts)).isSome = true := by
      rw [TA.t] at dt
      cases k <;> first | (simp [T.data] at dt; done) | (simpa [T.data] using dt)
    rw [TA.fp] at h
    rcases List.mem_cons.mp h with rfl | h
    · intro vs o
      cases k with
      | list => rw [show H a = _ from ok.1]; exact ⟨(by intro z; cases z), (by intro z; cases z)⟩
      | tup => simp [Kd.isTup] at nt
      | tupw => rw [TA.t] at dt; simp [T.data] at dt
      | dict ks => rw [show H a = _ from ok.1.2]; exact ⟨(by intro z; cases z), (by intro z; cases z)⟩
      | inst C ns => obtain ⟨_, dx, e⟩ := ok.1; rw [e]; exact ⟨(by intro z; cases z), (by intro z; cases z)⟩
      | exc n C => rw [show H a = _ from ok.1.2]; exact ⟨(by intro z; cases z), (by intro z; cases z)⟩
      | exo n C => obtain ⟨d, _, e⟩ := ok.1; rw [e]; exact ⟨(by intro z; cases z), (by intro z; cases z)⟩
      | exd f => obtain ⟨d, _, e⟩ := ok.1; rw [e]; exact ⟨(by intro z; cases z), (by intro z; cases z)⟩
      | rsd n => exact ok.1.elim
      | abs w k => rw [TA.t] at dt; simp [T.data] at dt
    · exact TA.fpl_kind ts ok.2 nt.2 dtl a h
theorem TA.fpl_kind : ∀ ts : List TA, TA.okl K Hs H ts → TA.noTupl ts = true → (T.datal (TA.tl ts)).isSome = true → ∀ a ∈ TA.fpl ts, ∀ vs o, H a ≠ some (.tup vs) ∧ H a ≠ some (.frz o (.tup vs))
  | [], _, _, _, a, h => by simp [TA.fpl] at h
  | t :: r, ok, nt, dt, a, h => by
    rw [TA.okl] at ok
    rw [TA.noTupl, Bool.and_eq_true] at nt
    have d2 : t.t.data.isSome = true ∧ (T.datal (TA.tl r)).isSome = true := by
      rw [TA.tl, T.datal] at dt
      cases e1 : t.t.data <;> cases e2 : T.datal (TA.tl r) <;> rw [e1, e2] at dt <;> first | exact ⟨rfl, rfl⟩ | (cases dt)
    rw [TA.fpl] at h
    rcases List.mem_append.mp h with h | h
    · exact TA.fp_kind t ok.1 nt.1 d2.1 a h
    · exact TA.fpl_kind r ok.2 nt.2 d2.2 a h
end
mutual
theorem TA.fp_code : ∀ t : TA, t.ok K Hs H → t.noTup = true → t.t.data.isSome = true → ∀ a ∈ t.fp, ∀ c q, H a ≠ some (LamX.CodeO c q)
  | .dead _, _, _, _, a, h => by simp [TA.fp] at h
  | .d _ _, _, _, _, a, h => by simp [TA.fp] at h
  | .nd k b ts, ok, nt, dt, a, h => by
    rw [TA.ok] at ok
    rw [TA.noTup, Bool.and_eq_true] at nt
    have dtl : (T.datal (TA.tl ts)).isSome = true := by
      rw [TA.t] at dt
      cases k <;> first | (simp [T.data] at dt; done) | (simpa [T.data] using dt)
    rw [TA.fp] at h
    rcases List.mem_cons.mp h with rfl | h
    · intro c q
      unfold LamX.CodeO
      cases k with
      | list => rw [show H a = _ from ok.1]; intro z; cases z
      | tup => simp [Kd.isTup] at nt
      | tupw => rw [TA.t] at dt; simp [T.data] at dt
      | dict ks => rw [show H a = _ from ok.1.2]; intro z; cases z
      | inst C ns => rw [TA.t] at dt; simp [T.data] at dt
      | exc n C => rw [TA.t] at dt; simp [T.data] at dt
      | exo n C => rw [TA.t] at dt; simp [T.data] at dt
      | exd f => rw [TA.t] at dt; simp [T.data] at dt
      | rsd n => exact ok.1.elim
      | abs w k => rw [TA.t] at dt; simp [T.data] at dt
    · exact TA.fpl_code ts ok.2 nt.2 dtl a h
theorem TA.fpl_code : ∀ ts : List TA, TA.okl K Hs H ts → TA.noTupl ts = true → (T.datal (TA.tl ts)).isSome = true → ∀ a ∈ TA.fpl ts, ∀ c q, H a ≠ some (LamX.CodeO c q)
  | [], _, _, _, a, h => by simp [TA.fpl] at h
  | t :: r, ok, nt, dt, a, h => by
    rw [TA.okl] at ok
    rw [TA.noTupl, Bool.and_eq_true] at nt
    have d2 : t.t.data.isSome = true ∧ (T.datal (TA.tl r)).isSome = true := by
      rw [TA.tl, T.datal] at dt
      cases e1 : t.t.data <;> cases e2 : T.datal (TA.tl r) <;> rw [e1, e2] at dt <;> first | exact ⟨rfl, rfl⟩ | (cases dt)
    rw [TA.fpl] at h
    rcases List.mem_append.mp h with h | h
    · exact TA.fp_code t ok.1 nt.1 d2.1 a h
    · exact TA.fpl_code r ok.2 nt.2 d2.2 a h
end
/-- the state that a callee sees -/
theorem Rel.enter {A : List Addr} {vs : List V} (R : Rel K B Hs H σ sl (tp ++ cs)) (hA : ∀ a ∈ A, a ∈ TA.fpl sl) (ok : TA.okl K (frzH Hs H A) H as) (hf : TA.fpl as = TA.fpl cs) (hv : as.map TA.v = vs) (hn : ∀ t ∈ as, t.noTup = true) :
    Rel K ⟨⟨H, frzH Hs H A, TA.fpl as ++ tabA K, []⟩, []⟩ (frzH Hs H A) H (vs.map some) as [] := by
  have hcs : ∀ a ∈ TA.fpl as, a ∈ TA.fpl (sl ++ (tp ++ cs)) ∧ a ∉ A := fun a ha => by
    rw [hf] at ha
    refine ⟨by rw [TA.fpl_append, TA.fpl_append]; exact List.mem_append_right _ (List.mem_append_right _ ha), fun z => ?_⟩
    have uq := R.uq
    rw [TA.fpl_append, List.nodup_append] at uq
    exact uq.2.2 a (hA a z) a (by rw [TA.fpl_append]; exact List.mem_append_right _ ha) rfl
  refine ⟨by rw [List.length_map, ← hv, List.length_map], fun i t h hd => ?_, by rw [List.append_nil]; exact ok, ?_, fun a ha => ?_, frzH_sub R.sub, fun a o h _ => h, fun a ha => .inl (by rw [List.append_nil] at ha; exact List.mem_append_left _ ha), Same.refl _, fun a ha => .inl ha, hn, fun p hp => by simp at hp, R.tab.grow (Same.refl _) (frzH_same fun a ha => R.out a (by rw [← List.append_assoc, TA.fpl_append, TA.fpl_append]; exact List.mem_append_left _ (List.mem_append_left _ (hA a ha)))) (fun a ha => by unfold frzH; rw [if_neg fun z => R.no_tab (by rw [← List.append_assoc, TA.fpl_append, TA.fpl_append]; exact List.mem_append_left _ (List.mem_append_left _ (hA a z))) ha]; exact R.tab.n a ha), fun a ha => List.mem_append_right _ ha⟩
  · rw [List.getElem?_map, ← hv, List.getElem?_map, h]; rfl
  · rw [List.append_nil, hf]
    have := R.uqT
    rw [TA.fpl_append, List.nodup_append] at this
    exact this.2.1
  · rw [List.append_nil] at ha
    obtain ⟨h1, h2⟩ := hcs a ha
    unfold frzH
    rw [if_neg h2]
    exact R.out a h1
/-- .. and the state behind it -/
theorem Rel.leave {A : List Addr} {σ' : L2.St} (R : Rel K B Hs H σ sl (tp ++ cs)) (hA : ∀ a ∈ A, a ∈ TA.fpl sl) (hf : TA.fpl as = TA.fpl cs) (R' : Rel K ⟨⟨H, frzH Hs H A, TA.fpl as ++ tabA K, []⟩, []⟩ Hs' H' σ' as' [r])
    (flat : A = [] ∨ (r.t.flat = true ∧ T.flatl (TA.tl as') = true)) (kA : ∀ a ∈ A, ∀ vs o, H a ≠ some (.tup vs) ∧ H a ≠ some (.frz o (.tup vs))) (kC : ∀ a ∈ A, ∀ c q, H a ≠ some (LamX.CodeO c q)) : Rel K B (unfrz Hs' A) H' σ sl (tp ++ (as' ++ [r])) := by
  have uq0 := R.uq
  rw [← List.append_assoc, TA.fpl_append, List.nodup_append] at uq0
  have hA' : ∀ a ∈ A, a ∈ TA.fpl (sl ++ tp) := fun a ha => by rw [TA.fpl_append]; exact List.mem_append_left _ (hA a ha)
  have rest : ∀ a ∈ TA.fpl (sl ++ tp), H a ≠ none ∧ a ∉ TA.fpl as ∧ H' a = H a := fun a ha => by
    have h1 : H a ≠ none := R.some_of (by rw [← List.append_assoc, TA.fpl_append]; exact List.mem_append_left _ ha)
    have h2 : a ∉ TA.fpl as := fun z => uq0.2.2 a ha a (hf ▸ z) rfl
    refine ⟨h1, h2, ?_⟩
    cases q : H a with
    | none => exact absurd q h1
    | some o => exact R'.keep a o q fun z => (List.mem_append.mp z).elim h2 (R.no_tab (by rw [← List.append_assoc, TA.fpl_append]; exact List.mem_append_left _ ha))
  have hsA : ∀ a ∈ A, Hs a = none := fun a ha => R.out a (by rw [← List.append_assoc, TA.fpl_append]; exact List.mem_append_left _ (hA' a ha))
  have sm1 : Same Hs (frzH Hs H A) := frzH_same hsA
  have smc : Same (frzH Hs H A) Hs' := R'.hs
  have sm : Same Hs (unfrz Hs' A) := fun a o e => by
    unfold unfrz
    rw [if_neg fun z => by rw [hsA a z] at e; cases e]
    exact smc a o (sm1 a o e)
  have newfp : ∀ a ∈ TA.fpl (as' ++ [r]), a ∈ TA.fpl as ∨ H a = none := fun a ha => (R'.fresh a ha).imp (fun z => (List.mem_append.mp z).resolve_right (R'.no_tab ha)) id
  have ndis : ∀ a ∈ TA.fpl (as' ++ [r]), a ∉ TA.fpl (sl ++ tp) := fun a ha z => by
    obtain ⟨h1, h2, _⟩ := rest a z
    rcases newfp a ha with y | y
    · exact h2 y
    · exact h1 y
  have okA : ∀ a ∈ A, ∀ vs o, Hs' a ≠ some (.tup vs) ∧ Hs' a ≠ some (.frz o (.tup vs)) := fun a ha vs o => by
    have ka := kA a ha vs o
    have e : Hs' a = H a := by
      cases q : H a with
      | none => exact absurd q (rest a (hA' a ha)).1
      | some u => exact smc a u (by unfold frzH; rw [if_pos ha]; exact q)
    rw [e]
    exact ka
  have ok' : TA.okl K (unfrz Hs' A) H' (as' ++ [r]) := by
    rcases flat with rfl | ⟨f1, f2⟩
    · rw [unfrz_nil]; exact R'.ok
    · refine TA.unlendl okA _ R'.ok ?_
      rw [tl_app]
      have : ∀ l1 l2 : List T, T.flatl l1 = true → T.flatl l2 = true → T.flatl (l1 ++ l2) = true := by
        intro l1
        induction l1 with
        | nil => intro l2 _ h; exact h
        | cons a l1 ih =>
          intro l2 h1 h2
          rw [T.flatl, Bool.and_eq_true] at h1
          rw [List.cons_append, T.flatl, Bool.and_eq_true]
          exact ⟨h1.1, ih l2 h1.2 h2⟩
      refine this _ _ f2 ?_
      rw [TA.tl, TA.tl, T.flatl, T.flatl, f1]
      rfl
  have okr : TA.okl K (unfrz Hs' A) H' (sl ++ tp) := by
    have := R.ok
    rw [← List.append_assoc] at this
    exact TA.okl_mono sm _ (TA.okl_append.mp this).1 fun a ha => (rest a ha).2.2
  refine ⟨R.len, R.val, by rw [← List.append_assoc]; exact TA.okl_append.mpr ⟨okr, ok'⟩, ?_, fun a ha => ?_, fun a o e => ?_, fun a o h1 h2 => ?_, fun a ha => ?_, R.hs.trans sm, fun a ha => ?_, R.ntup, R.pin, R'.tab.to (fun a ps e => e) (fun c q ec => ?_) (fun a ha => by unfold unfrz; split; rfl; exact R'.tab.n a ha), R.tabB⟩
  · rw [← List.append_assoc, TA.fpl_append, List.nodup_append]
    exact ⟨uq0.1, R'.uq, fun a ha b hb e => ndis b hb (e ▸ ha)⟩
  · rw [← List.append_assoc, TA.fpl_append] at ha
    unfold unfrz
    split
    · rfl
    · rename_i hn
      rcases List.mem_append.mp ha with z | z
      · cases q : Hs' a with
        | none => rfl
        | some o =>
          obtain ⟨g1, g2, _⟩ := rest a z
          rcases R'.hsNew a (by rw [q]; simp) with y | y | y
          · exfalso
            apply y
            show frzH Hs H A a = none
            unfold frzH
            rw [if_neg hn]
            exact R.out a (by rw [← List.append_assoc, TA.fpl_append]; exact List.mem_append_left _ z)
          · rcases List.mem_append.mp y with y | y
            · exact absurd y g2
            · exact absurd y (R.no_tab (by rw [← List.append_assoc, TA.fpl_append]; exact List.mem_append_left _ z))
          · exact absurd y g1
      · exact R'.out a z
  · unfold unfrz at e
    split at e
    · cases e
    · exact R'.sub a o e
  · have h3 := R.keep a o h1 h2
    refine R'.keep a o h3 fun z => ?_
    have z : a ∈ TA.fpl as := (List.mem_append.mp z).resolve_right fun y => h2 (R.tabB a y)
    rw [hf] at z
    rcases R.fresh a (by rw [TA.fpl_append, TA.fpl_append]; exact List.mem_append_right _ (List.mem_append_right _ z)) with y | y
    · exact h2 y
    · rw [h1] at y; cases y
  · rw [← List.append_assoc, TA.fpl_append] at ha
    rcases List.mem_append.mp ha with z | z
    · exact R.fresh a (by rw [← List.append_assoc, TA.fpl_append]; exact List.mem_append_left _ z)
    · rcases newfp a z with y | y
      · rw [hf] at y
        exact R.fresh a (by rw [TA.fpl_append, TA.fpl_append]; exact List.mem_append_right _ (List.mem_append_right _ y))
      · exact R.new_free y
  · unfold unfrz at ha
    split at ha
    · exact absurd rfl ha
    · rename_i hn
      rcases R'.hsNew a ha with y | y | y
      · have y : frzH Hs H A a ≠ none := y
        unfold frzH at y
        rw [if_neg hn] at y
        exact R.hsNew a y
      · rcases List.mem_append.mp y with y | y
        · rw [hf] at y
          exact .inr (R.fresh a (by rw [TA.fpl_append, TA.fpl_append]; exact List.mem_append_right _ (List.mem_append_right _ y)))
        · exact .inr (.inl (R.tabB a y))
      · exact .inr (R.new_free y)
  · unfold unfrz
    rw [if_neg fun hca => ?_]
    · exact ec
    · have g : frzH Hs H A c = H c := by unfold frzH; rw [if_pos hca]
      cases u : H c with
      | none => exact (rest c (hA' c hca)).1 u
      | some o =>
        have e2 := smc c o (by rw [g]; exact u)
        rw [ec] at e2
        exact kC c hca c q (by rw [u, ← e2])
end
theorem T.put_put (a b : T) : ∀ (q : List Nat) (t c : T), t.at q = some c → (t.put a q).put b q = t.put b q
  | [], t, c, h => rfl
  | j :: q, t, c, h => by
    cases t with
    | dead => cases h
    | d x => cases h
    | nd k ts =>
      rw [T.at] at h
      cases e : ts[j]? with
      | none => rw [e] at h; cases h
      | some d =>
        rw [e] at h
        have hj : j < ts.length := (List.getElem?_eq_some_iff.mp e).1
        simp only [T.put, e]
        rw [List.getElem?_set_self hj]
        simp only
        rw [List.set_set, T.put_put a b q d c h]
theorem TA.put_at_self (s : TA) : ∀ (q : List Nat) (t c : TA), t.at q = some c → (t.put s q).at q = some s
  | [], t, c, h => rfl
  | j :: q, t, c, h => by
    cases t with
    | dead => cases h
    | d _ _ => cases h
    | nd k a ts =>
      rw [TA.at] at h
      cases e : ts[j]? with
      | none => rw [e] at h; cases h
      | some d =>
        rw [e] at h
        have hj : j < ts.length := (List.getElem?_eq_some_iff.mp e).1
        simp only [TA.put, e]
        rw [TA.at, List.getElem?_set_self hj]
        exact TA.put_at_self s q d c h
theorem backs_len : ∀ (ms : List Md) (rs : List R) (ts : List T) (σ : St), (backs ms rs ts σ).length = σ.length
  | [], _, _, σ => by cases ‹List R› <;> cases ‹List T› <;> rfl
  | m :: ms, [], _, σ => by cases ‹List T› <;> rfl
  | m :: ms, r :: rs, [], σ => rfl
  | m :: ms, r :: rs, t :: ts, σ => by
    have ih := backs_len ms rs ts σ
    unfold backs
    split
    · unfold putS
      split
      · rw [List.length_set]; exact ih
      · exact ih
    · exact ih
theorem ownPl_cons (m : Md) (ms : List Md) (r : R) (rs : List R) : ownPl (m :: ms) (r :: rs) = (match m, r with | .own, .p i _ => [i] | _, _ => []) ++ ownPl ms rs := by
  cases m <;> cases r <;> rfl
theorem borPl_cons (m : Md) (ms : List Md) (r : R) (rs : List R) : borPl (m :: ms) (r :: rs) = (match m, r with | .bor, .p i _ => [i] | _, _ => []) ++ borPl ms rs := by
  cases m <;> cases r <;> rfl
theorem putS_ne {σ : St} {i j : Nat} {q : List Nat} {t : T} (h : j ≠ i) : (putS σ i q t)[j]? = σ[j]? := by
  unfold putS
  split
  · rw [List.getElem?_set_ne (Ne.symm h)]
  · rfl
theorem backs_ne : ∀ (ms : List Md) (rs : List R) (ts : List T) (σ : St) (j : Nat), j ∉ ownPl ms rs → (backs ms rs ts σ)[j]? = σ[j]?
  | [], _, _, σ, j, _ => by cases ‹List R› <;> cases ‹List T› <;> rfl
  | m :: ms, [], _, σ, j, _ => by cases ‹List T› <;> rfl
  | m :: ms, r :: rs, [], σ, j, _ => rfl
  | m :: ms, r :: rs, t :: ts, σ, j, h => by
    rw [ownPl_cons] at h
    have ih := backs_ne ms rs ts σ j (fun z => h (List.mem_append_right _ z))
    unfold backs
    split
    · rw [putS_ne fun z => h (by subst z; simp)]
      exact ih
    · exact ih
theorem set_comm' {α : Type} (l : List α) {i j : Nat} (a b : α) (h : i ≠ j) : (l.set i a).set j b = (l.set j b).set i a := List.set_comm _ _ h
theorem backs_set : ∀ (ms : List Md) (rs : List R) (ts : List T) (σ : St) (i : Nat) (u : T), i ∉ ownPl ms rs → backs ms rs ts (σ.set i u) = (backs ms rs ts σ).set i u
  | [], rs, ts, σ, i, u, _ => by cases rs <;> cases ts <;> rfl
  | m :: ms, [], ts, σ, i, u, _ => by cases ts <;> rfl
  | m :: ms, r :: rs, [], σ, i, u, _ => rfl
  | m :: ms, r :: rs, t :: ts, σ, i, u, h => by
    rw [ownPl_cons] at h
    have ih := backs_set ms rs ts σ i u (fun z => h (List.mem_append_right _ z))
    unfold backs
    split
    · rename_i i' q
      have hne : i' ≠ i := fun z => h (by subst z; simp)
      rw [ih]
      unfold putS
      rw [List.getElem?_set_ne (Ne.symm hne)]
      cases (backs ms rs ts σ)[i']? with
      | some t' => exact set_comm' _ _ _ (Ne.symm hne)
      | none => rfl
    · exact ih
theorem passes_congr : ∀ (ms : List Md) (rs : List R) (σ σ' : St), (∀ i ∈ ownPl ms rs ++ borPl ms rs, σ'[i]? = σ[i]?) → passes ms rs σ' = passes ms rs σ
  | [], [], σ, σ', _ => rfl
  | [], _ :: _, σ, σ', _ => rfl
  | _ :: _, [], σ, σ', _ => rfl
  | m :: ms, r :: rs, σ, σ', h => by
    rw [ownPl_cons, borPl_cons] at h
    have ih := passes_congr ms rs σ σ' fun i hi => h i (by
      rcases List.mem_append.mp hi with z | z
      · exact List.mem_append_left _ (List.mem_append_right _ z)
      · exact List.mem_append_right _ (List.mem_append_right _ z))
    have hg : r.get σ' = r.get σ := by
      cases r with
      | v t => rfl
      | p i q =>
        unfold R.get
        simp only
        rw [h i (by cases m <;> simp)]
    unfold passes
    rw [ih, hg]
/-- an argument made ready -/
inductive Ag where
  | leaf (v : V) (x : PyData)
  | own (c : TA)
  | lend (c : TA) (x : PyData)
def Ag.ta : Ag → TA
  | .leaf v x => .d v x
  | .own c => c
  | .lend c x => .d c.v x
def Ag.cs : Ag → List TA
  | .own c => [c]
  | _ => []
def Ag.A : Ag → List Addr
  | .lend c _ => c.fp
  | _ => []
def Ag.ok (K : PySem.W.Frag) (Hs H : Hp) (sl : List TA) : Ag → Prop
  | .leaf v x => Rp K Hs v x
  | .own c => c.noTup = true ∧ c.isDead = false
  | .lend c x => c.ok K Hs H ∧ c.t.data = some x ∧ (∀ a ∈ c.fp, a ∈ TA.fpl sl) ∧ c.noTup = true
def Ag.bor : Ag → Bool
  | .own _ => false
  | _ => true
section
variable {K : PySem.W.Frag} {B : Bs} {H : Hp} {σ : L2.St}
theorem fpl_slot {sl : List TA} {i : Nat} {t : TA} {a : Addr} (h : sl[i]? = some t) (ha : a ∈ t.fp) : a ∈ TA.fpl sl := fpl_mem (List.mem_of_getElem? h) ha
structure Rdy (K : PySem.W.Frag) (B : Bs) (Hs H : Hp) (σ : L2.St) (md : List Md) (rs : List R) (vs : List V) (ts : List T) (b : Bool) (sl tp : List TA) (Hs' : Hp) (sl' : List TA) (gs : List Ag) : Prop where
  hs : Same Hs Hs'
  rel : Rel K B Hs' H σ sl' (tp ++ gs.flatMap Ag.cs)
  ok : ∀ g ∈ gs, g.ok K Hs' H sl'
  v : gs.map (fun g => g.ta.v) = vs
  tl : gs.map (fun g => g.ta.t) = ts
  mode : ∀ (i : Nat) (g : Ag), md[i]? = some Md.bor → gs[i]? = some g → g.bor = true
  len : vs.length = md.length
  none : b = false → ∀ g ∈ gs, g.A = []
  back : ∀ (as' : List TA) (Hs2 H2 : Hp) (tp2 : List TA), as'.map TA.v = vs → (∀ t ∈ as', t.noTup = true) → (∀ (i : Nat) (t : TA), md[i]? = some Md.own → as'[i]? = some t → t.isDead = false) → Rel K B Hs2 H2 σ sl' (tp2 ++ as') →
    ∃ sl'', Rel K B Hs2 H2 σ sl'' tp2 ∧ TA.tl sl'' = backs md rs (TA.tl as') (TA.tl sl) ∧ (∀ j, j ∉ ownPl md rs → sl''[j]? = sl[j]?) ∧ sl''.length = sl.length ∧ (∀ (j : Nat) (t : TA), sl[j]? = some t → t.isDead = false → ∃ t', sl''[j]? = some t' ∧ t'.isDead = false)
  same : ∀ j, j ∉ ownPl md rs → sl'[j]? = sl[j]?
theorem RRs'.setS {sl : List TA} {i : Nat} {u : TA} {rs : List R} : ∀ {ms : List Md} {vs : List V} {nws : List (List TA)}, ms.length = rs.length → (∀ i' ∈ ownPl ms rs ++ borPl ms rs, i' ≠ i) → RRs' sl rs vs nws → RRs' (sl.set i u) rs vs nws := by
  induction rs with
  | nil =>
    intro ms vs nws hl h rr
    cases rr
    exact .nil
  | cons r rs ih =>
    intro ms vs nws hl h rr
    cases ms with
    | nil => simp at hl
    | cons m ms =>
      cases rr with
      | cons a b =>
        rw [ownPl_cons, borPl_cons] at h
        refine .cons ?_ (ih (ms := ms) (by simpa using hl) (fun i' hi => h i' (by
          rcases List.mem_append.mp hi with z | z
          · exact List.mem_append_left _ (List.mem_append_right _ z)
          · exact List.mem_append_right _ (List.mem_append_right _ z))) b)
        cases r with
        | v t => exact a
        | p i' q =>
          obtain ⟨e, f⟩ := a
          refine ⟨e, fun t c h1 h2 => f t c ?_ h2⟩
          have hne : i' ≠ i := h i' (by cases m <;> simp)
          rw [List.getElem?_set_ne (Ne.symm hne)] at h1
          exact h1
theorem passes_len : ∀ {ms : List Md} {rs : List R} {σ : St} {x : List T × Bool}, passes ms rs σ = some x → ms.length = rs.length
  | [], [], _, _, _ => rfl
  | [], _ :: _, _, _, h => by simp [passes] at h
  | _ :: _, [], _, _, h => by simp [passes] at h
  | m :: ms, r :: rs, σ, x, h => by
    rw [passes] at h
    cases e : passes ms rs σ with
    | none =>
      rw [e] at h
      cases r.get σ with
      | none => simp at h
      | some t => cases t <;> simp at h
    | some y => rw [List.length_cons, List.length_cons, passes_len e]
theorem prep {rs : List R} : ∀ {md : List Md} {vs : List V} {nws : List (List TA)} {ts : List T} {b : Bool} {Hs : Hp} {sl tp : List TA}, Rel K B Hs H σ sl (tp ++ nws.flatten) → RRs' sl rs vs nws → passes md rs (TA.tl sl) = some (ts, b) → (ownPl md rs).Nodup → (∀ i ∈ borPl md rs, i ∉ ownPl md rs) →
    ∃ Hs' sl' gs, Rdy K B Hs H σ md rs vs ts b sl tp Hs' sl' gs := by
  induction rs with
  | nil =>
    intro md vs nws ts b Hs sl tp R1 rr hp hn hb
    cases rr
    cases md with
    | cons m ms => simp [passes] at hp
    | nil =>
      rw [passes] at hp
      cases hp
      refine ⟨Hs, sl, [], Same.refl _, R1, fun g hg => by simp at hg, rfl, rfl, fun i g h => by simp at h, rfl, fun _ g hg => by simp at hg, fun as' Hs2 H2 tp2 hv hn2 hn3 R2 => ?_, fun j _ => rfl⟩
      cases as' with
      | nil => exact ⟨sl, by simpa using R2, rfl, fun _ _ => rfl, rfl, fun j t h1 h2 => ⟨t, h1, h2⟩⟩
      | cons _ _ => simp at hv
  | cons r rs ih =>
    intro md vs nws ts b Hs sl tp R1 rr hp hn hb
    cases md with
    | nil => simp [passes] at hp
    | cons m ms =>
    cases rr with
    | @cons _ v nw _ vs nws a0 bt =>
    rw [List.flatten_cons] at R1
    rw [ownPl_cons] at hn
    have hn2 := (List.nodup_append.mp hn).2.1
    have hb2 : ∀ i ∈ borPl ms rs, i ∉ ownPl ms rs := fun i hi z => hb i (by rw [borPl_cons]; exact List.mem_append_right _ hi) (by rw [ownPl_cons]; exact List.mem_append_right _ z)
    rw [passes] at hp
    have hget : ∀ T0, r.get (TA.tl sl) = some T0 → T0.isDead = false → ∃ c : TA, c.t = T0 ∧ c.v = v ∧ c.isDead = false ∧ c.ok K Hs H ∧ (r.isP = false → nw = [c]) ∧ (∀ i q, r = .p i q → nw = [] ∧ ∃ t, sl[i]? = some t ∧ t.at q = some c) := by
      intro T0 hT hTd
      cases r with
      | v t =>
        obtain ⟨x, e1, e2, e3, e4⟩ := a0
        subst e1
        rw [R.get, Option.some.injEq] at hT
        refine ⟨x, e2.trans hT, e3, e4, ?_, fun _ => rfl, fun i q z => by cases z⟩
        have := R1.okT
        rw [TA.okl_append, TA.okl_append, TA.okl] at this
        exact this.2.1.1
      | p i q =>
        obtain ⟨e1, e2⟩ := a0
        unfold R.get at hT
        simp only at hT
        rw [tl_get] at hT
        cases h1 : sl[i]? with
        | none => rw [h1] at hT; cases hT
        | some t =>
          rw [h1] at hT
          simp only [Option.map_some, TA.at_t] at hT
          cases h2 : t.at q with
          | none => rw [h2] at hT; cases hT
          | some c =>
            rw [h2] at hT
            have e3 : c.t = T0 := Option.some.inj hT
            exact ⟨c, e3, e2 t c h1 h2, by rw [← TA.isDead_t, e3]; exact hTd, TA.at_ok q t c h2 (R1.slot_ok h1), fun z => (by cases z), fun i' q' z => by cases z; exact ⟨e1, t, h1, h2⟩⟩
    have Rt : Rel K B Hs H σ sl (tp ++ nws.flatten) := R1.tempsS (by
        have := R1.okT
        rw [TA.okl_append, TA.okl_append] at this
        exact TA.okl_append.mpr ⟨this.1, this.2.2⟩) (by
        rw [TA.fpl_append, TA.fpl_append, TA.fpl_append]
        exact (List.Sublist.refl _).append (List.sublist_append_right _ _))
    -- an argument in front that takes nothing out of the slots
    have front : ∀ (g : Ag) (ts1 : List T) (b1 bx : Bool) (Hs1 : Hp) (tpx : List TA), Same Hs Hs1 → Rel K B Hs1 H σ sl ((tp ++ g.cs) ++ nws.flatten) → passes ms rs (TA.tl sl) = some (ts1, b1) → (∀ Hs2 sl2, Same Hs1 Hs2 → (∀ j, j ∉ ownPl ms rs → sl2[j]? = sl[j]?) → g.ok K Hs2 H sl2) → g.ta.v = v → (m = .bor → g.bor = true) → (bx = false → g.A = []) →
        (∀ i q, m = .own → r = .p i q → ∃ t c, sl[i]? = some t ∧ t.at q = some c ∧ c.v = v ∧ c.isDead = false) → ∃ Hs' sl' gs, Rdy K B Hs H σ (m :: ms) (r :: rs) (v :: vs) (g.ta.t :: ts1) (b1 || bx) sl tp Hs' sl' gs := by
      intro g ts1 b1 bx Hs1 _ hs1 R2 hp2 hg hgv hgm hgx hpl
      obtain ⟨Hs', sl', gs, Y⟩ := ih R2 bt hp2 hn2 hb2
      refine ⟨Hs', sl', g :: gs, hs1.trans Y.hs, by rw [List.flatMap_cons, ← List.append_assoc]; exact Y.rel, fun g' hg' => ?_, by rw [List.map_cons, hgv, Y.v], by rw [List.map_cons, Y.tl], fun i g' h1 h2 => ?_, by rw [List.length_cons, List.length_cons, Y.len], fun hbb g' hg' => ?_, fun as' Hs2 H2 tp2 hv hnt hnd R3 => ?_, fun j hj => Y.same j fun z => hj (by rw [ownPl_cons]; exact List.mem_append_right _ z)⟩
      · rcases List.mem_cons.mp hg' with rfl | hg'
        · exact hg Hs' sl' Y.hs Y.same
        · exact Y.ok g' hg'
      · cases i with
        | zero =>
          simp only [List.getElem?_cons_zero, Option.some.injEq] at h1 h2
          subst h2
          exact hgm h1
        | succ i => exact Y.mode i g' (by simpa using h1) (by simpa using h2)
      · simp only [Bool.or_eq_false_iff] at hbb
        rcases List.mem_cons.mp hg' with rfl | hg'
        · exact hgx hbb.2
        · exact Y.none hbb.1 g' hg'
      · cases as' with
        | nil => simp at hv
        | cons a1 as1 =>
          rw [List.map_cons, List.cons.injEq] at hv
          have R4 : Rel K B Hs2 H2 σ sl' ((tp2 ++ [a1]) ++ as1) := by rw [List.append_assoc]; exact R3
          obtain ⟨sl2, R5, e1, e2, e3, e4⟩ := Y.back as1 Hs2 H2 (tp2 ++ [a1]) hv.2 (fun t ht => hnt t (List.mem_cons_of_mem _ ht)) (fun i t h1 h2 => hnd (i + 1) t h1 h2) R4
          by_cases hmo : ∃ i q, m = .own ∧ r = .p i q
          · obtain ⟨i, q, hm, hr⟩ := hmo
            subst hm hr
            obtain ⟨t, c, g1, g2, g3, g4⟩ := hpl i q rfl rfl
            have hnot : i ∉ ownPl ms rs := fun z => (List.nodup_append.mp hn).2.2 i (by simp) i z rfl
            have g1' : sl2[i]? = some t := (e2 i hnot).trans g1
            have hi : i < sl2.length := (List.getElem?_eq_some_iff.mp g1').1
            refine ⟨sl2.set i (t.put a1 q), R5.in1 g1' g2 (hv.1.trans g3.symm) (hnt a1 (by simp)) (fun e _ => ?_), ?_, fun j hj => ?_, by rw [List.length_set]; exact e3, fun j t' h1 h2 => ?_⟩
            · subst e
              rw [TA.at] at g2
              cases g2
              rw [hv.1, ← g3]
              exact R1.val i t g1 g4
            · rw [tl_putS g1', e1, TA.tl, backs]
            · rw [ownPl_cons] at hj
              have hji : j ≠ i := fun z => hj (by subst z; simp)
              rw [List.getElem?_set_ne (Ne.symm hji)]
              exact e2 j fun z => hj (List.mem_append_right _ z)
            · obtain ⟨t2, k1, k2⟩ := e4 j t' h1 h2
              exact chg_live g1' g2 (hnd 0 a1 rfl rfl) j t2 k1 k2
          · refine ⟨sl2, R5.drop, ?_, fun j hj => e2 j fun z => hj (by rw [ownPl_cons]; exact List.mem_append_right _ z), e3, e4⟩
            rw [e1, TA.tl]
            cases m with
            | bor => cases r <;> rfl
            | own =>
              cases r with
              | v _ => rfl
              | p i q => exact (hmo ⟨i, q, rfl, rfl⟩).elim
    cases hT : r.get (TA.tl sl) with
    | none => rw [hT] at hp; simp at hp
    | some T0 =>
    cases hps : passes ms rs (TA.tl sl) with
    | none => rw [hT, hps] at hp; cases T0 <;> simp at hp
    | some y =>
    obtain ⟨ts1, b1⟩ := y
    rw [hT, hps] at hp
    cases T0 with
    | dead => simp at hp
    | d x =>
      simp only [Option.some.injEq, Prod.mk.injEq] at hp
      obtain ⟨rfl, rfl⟩ := hp
      obtain ⟨c, c1, c2, c3, c4, c5, c6⟩ := hget _ hT rfl
      obtain ⟨w, rfl⟩ := ta_d c1
      rw [TA.ok] at c4
      have := front (.leaf v x) ts1 b1 false Hs [] (Same.refl _) (by simpa [Ag.cs] using Rt) hps (fun Hs2 sl2 hs _ => by have e : w = v := c2; subst e; exact c4.mono hs) rfl (fun _ => rfl) (fun _ => rfl) (fun i q hm hr => by
        obtain ⟨_, t, g1, g2⟩ := c6 i q hr
        exact ⟨t, _, g1, g2, c2, rfl⟩)
      rw [Bool.or_false] at this
      exact this
    | nd k us =>
      obtain ⟨c, c1, c2, c3, c4, c5, c6⟩ := hget _ hT rfl
      cases m with
      | bor =>
        simp only at hp
        split at hp
        · rename_i x hx
          simp only [Option.some.injEq, Prod.mk.injEq] at hp
          obtain ⟨rfl, rfl⟩ := hp
          have hx' : c.t.data = some x := by rw [c1]; exact hx
          cases r with
          | v t0 =>
            have hnw := c5 rfl
            subst hnw
            have R2 : Rel K B Hs H σ sl ((tp ++ nws.flatten) ++ [c]) := R1.perm (by
              rw [List.append_assoc]
              exact List.Perm.append_left _ List.perm_append_comm)
            have R3 := (R2.frzT hx').drop
            have hin : ∀ a ∈ c.fp, Hs a = Option.none := fun a ha => R1.out a (fpl_mem (by simp) ha)
            have rp : Rp K (frzH Hs H c.fp) c.v x := TA.reads_frz R1.sub c c4 hx' hin
            exact front (.leaf v x) ts1 b1 false (frzH Hs H c.fp) [] (frzH_same hin) (by simpa [Ag.cs] using R3) hps (fun Hs2 sl2 hs _ => by rw [← c2]; exact rp.mono hs) rfl (fun _ => rfl) (fun _ => rfl) (fun i q hm hr => by cases hm)
          | p i q =>
            obtain ⟨_, t, g1, g2⟩ := c6 i q rfl
            have hnot : i ∉ ownPl ms rs := fun z => hb i (by rw [borPl_cons]; simp) (by rw [ownPl_cons]; exact List.mem_append_right _ z)
            have := front (.lend c x) ts1 b1 true Hs [] (Same.refl _) (by simpa [Ag.cs] using Rt) hps (fun Hs2 sl2 hs hsame => ⟨TA.ok_mono hs c c4 fun _ _ => rfl, hx', fun a ha => by
                obtain ⟨l1, l2, le, _⟩ := TA.lens q t c g2
                exact fpl_slot ((hsame i hnot).trans g1) (by rw [le]; exact List.mem_append_left _ (List.mem_append_right _ ha)), TA.at_noTup q t c g2 (R1.ntup t (List.mem_of_getElem? g1))⟩) c2 (fun _ => rfl) (fun z => by cases z) (fun i q hm hr => by cases hm)
            exact this
        · simp at hp
      | own =>
        simp only at hp
        split at hp
        · rename_i hnt
          simp only [Option.some.injEq, Prod.mk.injEq] at hp
          obtain ⟨rfl, rfl⟩ := hp
          cases r with
          | v t0 =>
            have hnw := c5 rfl
            subst hnw
            have := front (.own c) ts1 b1 false Hs [] (Same.refl _) (by rw [List.append_assoc]; exact R1) hps (fun Hs2 sl2 hs _ => ⟨by rw [← TA.noTup_t, c1]; simpa [R.isP] using hnt, c3⟩) c2 (fun z => by cases z) (fun _ => rfl) (fun i q hm hr => by cases hr)
            rw [Bool.or_false] at this
            have e : (Ag.own c).ta.t = T.nd k us := c1
            rw [e] at this
            exact this
          | p i q =>
            obtain ⟨hnw, t, g1, g2⟩ := c6 i q rfl
            subst hnw
            have hi : i < sl.length := (List.getElem?_eq_some_iff.mp g1).1
            have hnot : i ∉ ownPl ms rs := fun z => (List.nodup_append.mp hn).2.2 i (by simp) i z rfl
            have hnotb : i ∉ borPl ms rs := fun z => hb i (by rw [borPl_cons]; exact List.mem_append_right _ z) (by rw [ownPl_cons]; simp)
            have hne : ∀ i' ∈ ownPl ms rs ++ borPl ms rs, i' ≠ i := fun i' hi' e => by
              subst e
              rcases List.mem_append.mp hi' with z | z
              · exact hnot z
              · exact hnotb z
            have R2 : Rel K B Hs H σ (sl.set i (t.put (.dead c.v) q)) ((tp ++ [c]) ++ nws.flatten) := (Rt.out1 g1 g2).perm (by
              rw [List.append_assoc, List.append_assoc]
              exact List.Perm.append_left _ List.perm_append_comm)
            have hps2 : passes ms rs (TA.tl (sl.set i (t.put (.dead c.v) q))) = some (ts1, b1) := by
              rw [← hps]
              refine passes_congr ms rs _ _ fun i' hi' => ?_
              rw [tl_set, List.getElem?_set_ne (Ne.symm (hne i' hi'))]
            obtain ⟨Hs', sl', gs, Y⟩ := ih R2 (bt.setS (passes_len hps) hne) hps2 hn2 hb2
            have hci : (sl.set i (t.put (.dead c.v) q))[i]? = some (t.put (.dead c.v) q) := List.getElem?_set_self hi
            refine ⟨Hs', sl', .own c :: gs, Y.hs, by rw [List.flatMap_cons, ← List.append_assoc]; exact Y.rel, fun g' hg' => ?_, by rw [List.map_cons, Y.v]; exact congrArg (· :: vs) c2, by rw [List.map_cons, Y.tl]; exact congrArg (· :: ts1) c1, fun j g' h1 h2 => ?_, by rw [List.length_cons, List.length_cons, Y.len], fun hbb g' hg' => ?_, fun as' Hs2 H2 tp2 hv hnt2 hnd2 R3 => ?_, fun j hj => ?_⟩
            · rcases List.mem_cons.mp hg' with rfl | hg'
              · exact ⟨TA.at_noTup q t c g2 (R1.ntup t (List.mem_of_getElem? g1)), c3⟩
              · exact Y.ok g' hg'
            · cases j with
              | zero => simp at h1
              | succ j => exact Y.mode j g' (by simpa using h1) (by simpa using h2)
            · rcases List.mem_cons.mp hg' with rfl | hg'
              · rfl
              · exact Y.none hbb g' hg'
            · cases as' with
              | nil => simp at hv
              | cons a1 as1 =>
                rw [List.map_cons, List.cons.injEq] at hv
                have R4 : Rel K B Hs2 H2 σ sl' ((tp2 ++ [a1]) ++ as1) := by rw [List.append_assoc]; exact R3
                obtain ⟨sl2, R5, e1, e2, e3, e4⟩ := Y.back as1 Hs2 H2 (tp2 ++ [a1]) hv.2 (fun t ht => hnt2 t (List.mem_cons_of_mem _ ht)) (fun i t h1 h2 => hnd2 (i + 1) t h1 h2) R4
                have g1' : sl2[i]? = some (t.put (.dead c.v) q) := (e2 i hnot).trans hci
                have g2' : (t.put (.dead c.v) q).at q = some (.dead c.v) := TA.put_at_self _ q t c g2
                refine ⟨sl2.set i ((t.put (.dead c.v) q).put a1 q), R5.in1 g1' g2' (hv.1.trans c2.symm) (hnt2 a1 (by simp)) (fun e _ => ?_), ?_, fun j hj => ?_, by rw [List.length_set, e3, List.length_set], fun j t' h1 h2 => ?_⟩
                · subst e
                  rw [TA.at] at g2
                  cases g2
                  rw [hv.1, ← c2]
                  exact R1.val i _ g1 c3
                · rw [tl_putS g1', e1, TA.tl]
                  show putS (backs ms rs (TA.tl as1) (TA.tl (sl.set i (t.put (.dead c.v) q)))) i q a1.t = putS (backs ms rs (TA.tl as1) (TA.tl sl)) i q a1.t
                  rw [tl_set, backs_set _ _ _ _ _ _ hnot]
                  have hlen : i < (backs ms rs (TA.tl as1) (TA.tl sl)).length := by rw [backs_len, tl_len]; exact hi
                  have hti : (backs ms rs (TA.tl as1) (TA.tl sl))[i]? = some t.t := by rw [backs_ne _ _ _ _ _ hnot, tl_get, g1]; rfl
                  unfold putS
                  rw [List.getElem?_set_self hlen, hti]
                  simp only
                  rw [List.set_set, TA.put_t, T.put_put _ _ q t.t c.t (by rw [TA.at_t, g2]; rfl)]
                · rw [ownPl_cons] at hj
                  have hji : j ≠ i := fun z => hj (by subst z; simp)
                  rw [List.getElem?_set_ne (Ne.symm hji), e2 j fun z => hj (List.mem_append_right _ z), List.getElem?_set_ne (Ne.symm hji)]
                · by_cases hji : j = i
                  · subst hji
                    refine ⟨_, List.getElem?_set_self (List.getElem?_eq_some_iff.mp g1').1, ?_⟩
                    rw [g1] at h1
                    cases h1
                    cases q with
                    | nil => exact (hnd2 0 a1 rfl rfl)
                    | cons m' q' =>
                      cases t with
                      | dead _ => cases h2
                      | d _ _ => rfl
                      | nd k' a' ts' =>
                        simp only [TA.put]
                        cases ts'[m']? with
                        | none => simp only [TA.put]; cases ts'[m']? <;> rfl
                        | some d' => simp only; cases (ts'.set m' (d'.put (TA.dead c.v) q'))[m']? <;> rfl
                  · obtain ⟨t2, k1, k2⟩ := e4 j t' (by rw [List.getElem?_set_ne (Ne.symm hji)]; exact h1) h2
                    exact ⟨t2, by rw [List.getElem?_set_ne (Ne.symm hji)]; exact k1, k2⟩
            · rw [ownPl_cons] at hj
              have hji : j ≠ i := fun z => hj (by subst z; simp)
              rw [Y.same j fun z => hj (List.mem_append_right _ z), List.getElem?_set_ne (Ne.symm hji)]
        · simp at hp
theorem Ag.fp : ∀ gs : List Ag, TA.fpl (gs.map Ag.ta) = TA.fpl (gs.flatMap Ag.cs)
  | [] => rfl
  | g :: gs => by
    rw [List.map_cons, List.flatMap_cons, TA.fpl, TA.fpl_append, Ag.fp gs]
    cases g with
    | leaf v x => rfl
    | own c => rw [Ag.ta, Ag.cs, fpl_one]
    | lend c x => rfl
/-- a call: the way in, and the way out again -/
structure Way (K : PySem.W.Frag) (B : Bs) (σ : L2.St) (H0 H2 : Hp) (sl sl2 tp : List TA) (md : List Md) (rs : List R) (vs : List V) (pu : Bool) (ts : List T) (b : Bool) (Hs : Hp) (as : List TA) : Prop where
  len : vs.length = md.length
  rel : Rel K ⟨⟨H2, Hs, TA.fpl as ++ tabA K, []⟩, []⟩ Hs H2 (vs.map some) as []
  v : as.map TA.v = vs
  nd : ∀ t ∈ as, t.isDead = false
  bor : ∀ (i : Nat) (t : TA), md[i]? = some Md.bor → as[i]? = some t → ∃ v x, t = TA.d v x
  tl : TA.tl as = ts
  out : ∀ H' Hs' as' r, Rel K ⟨⟨H2, Hs, TA.fpl as ++ tabA K, []⟩, []⟩ Hs' H' (vs.map some) as' [r] → as'.map TA.v = vs → (∀ (i : Nat) (t : TA), md[i]? = some Md.own → as'[i]? = some t → t.isDead = false) → (b = true → r.t.flat = true ∧ T.flatl (TA.tl as') = true) →
    ∃ Hs'' sl3, Rel K B Hs'' H' σ sl3 (tp ++ [r]) ∧ Stp pu H0 H' sl sl3 ∧ TA.tl sl3 = backs md rs (TA.tl as') (TA.tl sl2)
theorem call_way {K : PySem.W.Frag} {md : List Md} {Hs2 H0 H2 : Hp} {sl sl2 tp : List TA} {nws : List (List TA)} {rs : List R} {vs : List V} {pu : Bool} {ts : List T} {b : Bool} (R1 : Rel K B Hs2 H2 σ sl2 (tp ++ nws.flatten)) (rr : RRs sl2 rs vs nws) (st : Stp pu H0 H2 sl sl2) (hps : passes md rs (TA.tl sl2) = some (ts, b)) (hap : apart md rs = true) (hpu : pu = true → md.all (fun m => decide (m = .bor)) = true) :
    ∃ Hs as, Way K B σ H0 H2 sl sl2 tp md rs vs pu ts b Hs as := by
  unfold apart at hap
  rw [Bool.and_eq_true] at hap
  obtain ⟨Hs', sl', gs, Y⟩ := prep R1 rr.weak hps (of_decide_eq_true hap.1) (fun i hi z => by
    have := List.all_eq_true.mp hap.2 i hi
    simp at this
    exact this z)
  have hA : ∀ a ∈ gs.flatMap Ag.A, a ∈ TA.fpl sl' := fun a ha => by
    obtain ⟨g, hg, hga⟩ := List.mem_flatMap.mp ha
    have := Y.ok g hg
    cases g with
    | leaf v x => simp [Ag.A] at hga
    | own c => simp [Ag.A] at hga
    | lend c x => exact this.2.2.1 a hga
  have kA : ∀ a ∈ gs.flatMap Ag.A, ∀ vs o, H2 a ≠ some (.tup vs) ∧ H2 a ≠ some (.frz o (.tup vs)) := fun a ha => by
    obtain ⟨g, hg, hga⟩ := List.mem_flatMap.mp ha
    have := Y.ok g hg
    cases g with
    | leaf v x => simp [Ag.A] at hga
    | own c => simp [Ag.A] at hga
    | lend c x => exact TA.fp_kind c this.1 this.2.2.2 (by rw [this.2.1]; rfl) a hga
  have kC : ∀ a ∈ gs.flatMap Ag.A, ∀ c q, H2 a ≠ some (LamX.CodeO c q) := fun a ha => by
    obtain ⟨g, hg, hga⟩ := List.mem_flatMap.mp ha
    have := Y.ok g hg
    cases g with
    | leaf v x => simp [Ag.A] at hga
    | own c => simp [Ag.A] at hga
    | lend c x => exact TA.fp_code c this.1 this.2.2.2 (by rw [this.2.1]; rfl) a hga
  have hsA : ∀ a ∈ gs.flatMap Ag.A, Hs' a = none := fun a ha => Y.rel.out a (by rw [TA.fpl_append]; exact List.mem_append_left _ (hA a ha))
  have sm : Same Hs' (frzH Hs' H2 (gs.flatMap Ag.A)) := frzH_same hsA
  have hcs : TA.okl K Hs' H2 (gs.flatMap Ag.cs) := (TA.okl_append.mp Y.rel.okT).2
  have ok : TA.okl K (frzH Hs' H2 (gs.flatMap Ag.A)) H2 (gs.map Ag.ta) := TA.okl_all.mpr fun t ht => by
    obtain ⟨g, hg, rfl⟩ := List.mem_map.mp ht
    have := Y.ok g hg
    cases g with
    | leaf v x => rw [Ag.ta, TA.ok]; exact Rp.mono sm this
    | own c => exact TA.ok_mono sm c (TA.okl_all.mp hcs c (List.mem_flatMap.mpr ⟨_, hg, by simp [Ag.cs]⟩)) fun _ _ => rfl
    | lend c x =>
      rw [Ag.ta, TA.ok]
      refine TA.reads sm c x (TA.ok_mono (Same.refl _) c this.1 fun a ha => ?_) this.2.1
      unfold frzH
      rw [if_pos (List.mem_flatMap.mpr ⟨_, hg, ha⟩)]
  have hv : (gs.map Ag.ta).map TA.v = vs := by rw [List.map_map]; exact Y.v
  have hfp := Ag.fp gs
  have R2 := Y.rel.enter hA ok hfp hv (fun t ht => by
    obtain ⟨g, hg, rfl⟩ := List.mem_map.mp ht
    have := Y.ok g hg
    cases g with
    | leaf v x => rfl
    | own c => exact this.1
    | lend c x => rfl)
  refine ⟨_, gs.map Ag.ta, ⟨Y.len, R2, hv, fun t ht => ?_, fun i t h1 h2 => ?_, by rw [TA.tl_map, List.map_map]; exact Y.tl, fun H' Hs'' as' r R3 hv' hd' hfl => ?_⟩⟩
  · obtain ⟨g, hg, rfl⟩ := List.mem_map.mp ht
    have := Y.ok g hg
    cases g with
    | leaf v x => rfl
    | own c => exact this.2
    | lend c x => rfl
  · rw [List.getElem?_map] at h2
    obtain ⟨g, hg, rfl⟩ := Option.map_eq_some_iff.mp h2
    have := Y.mode i g h1 hg
    cases g with
    | leaf v x => exact ⟨v, x, rfl⟩
    | own c => cases this
    | lend c x => exact ⟨c.v, x, rfl⟩
  · have flat : gs.flatMap Ag.A = [] ∨ (r.t.flat = true ∧ T.flatl (TA.tl as') = true) := by
      cases b with
      | false =>
        refine .inl ?_
        have := Y.none rfl
        rw [List.flatMap_eq_nil_iff]
        exact this
      | true => exact .inr (hfl rfl)
    have R4 := Y.rel.leave hA hfp R3 flat kA kC
    have R5 := R4.perm (tp' := (tp ++ [r]) ++ as') (by
      rw [List.append_assoc]
      exact List.Perm.append_left _ List.perm_append_comm)
    obtain ⟨sl3, R6, e1, e2, e3, e4⟩ := Y.back as' _ H' (tp ++ [r]) hv' R3.ntup hd' R5
    refine ⟨_, sl3, R6, st.trans (pu' := pu) ⟨fun hp => ?_, e4⟩ id, e1⟩
    have hall := hpu hp
    have hown : ∀ (ms : List Md) (rs : List R), ms.all (fun m => decide (m = .bor)) = true → ownPl ms rs = [] := by
      intro ms
      induction ms with
      | nil => intro rs _; cases rs <;> rfl
      | cons m ms ih =>
        intro rs hm
        simp only [List.all_cons, Bool.and_eq_true, decide_eq_true_eq] at hm
        cases rs with
        | nil => rw [hm.1]; rfl
        | cons r rs => rw [ownPl_cons, ih rs hm.2, hm.1]; rfl
    refine ⟨?_, fun a o ho hn => R3.keep a o ho ?_⟩
    · apply List.ext_getElem?
      intro j
      exact e2 j (by rw [hown _ _ hall]; simp)
    · have hz : TA.fpl (gs.map Ag.ta) = [] := by
        have : ∀ (gs : List Ag), (∀ g ∈ gs, g.bor = true) → TA.fpl (gs.map Ag.ta) = [] := by
          intro gs
          induction gs with
          | nil => intro _; rfl
          | cons g gs ih =>
            intro hg
            rw [List.map_cons, TA.fpl, ih fun g' h' => hg g' (List.mem_cons_of_mem _ h')]
            have := hg g List.mem_cons_self
            cases g with
            | leaf v x => rfl
            | own c => cases this
            | lend c x => rfl
        refine this gs fun g hg => ?_
        obtain ⟨i, hi⟩ := List.getElem?_of_mem hg
        have hlen : gs.length = md.length := by
          have := Y.len
          rw [← Y.v, List.length_map] at this
          exact this
        have hil : i < md.length := by rw [← hlen]; exact (List.getElem?_eq_some_iff.mp hi).1
        refine Y.mode i g ?_ hi
        rw [List.getElem?_eq_getElem hil]
        have := List.all_eq_true.mp hall _ (List.getElem_mem hil)
        simp only [decide_eq_true_eq] at this
        rw [this]
      show a ∉ TA.fpl (gs.map Ag.ta) ++ tabA K
      rw [hz, List.nil_append]
      intro z
      obtain ⟨ps, e⟩ := R1.tab.some_ z
      rw [ho] at e
      cases e
      exact hn ps rfl
/-- a call by its promise -/
theorem call_ok {X : Cx} {fs : FS} {Hs2 H0 H2 : Hp} {sl sl2 tp : List TA} {nws : List (List TA)} {rs : List R} {vs : List V} {pu : Bool} {P : R → St → Prop} {Q : VK} {E : XK} (R1 : Rel X.K B Hs2 H2 σ sl2 (tp ++ nws.flatten)) (rr : RRs sl2 rs vs nws) (st : Stp pu H0 H2 sl sl2) (h : callW fs pu rs (TA.tl sl2) P)
    (hk : ∀ r v Hs' H' sl' nw, Rel X.K B Hs' H' σ sl' (tp ++ nw) → RR r v sl' nw → Stp pu H0 H' sl sl' → P r (TA.tl sl') → Q v H') : spV X.K fs.md fs.F vs H2 Q E := by
  unfold callW at h
  split at h
  · rename_i ts b hps
    obtain ⟨hap, hpu, hF⟩ := h
    obtain ⟨Hs, as, Y⟩ := call_way R1 rr st hps hap hpu
    refine ⟨Hs, as, _, Y.len, Y.rel, Y.v, Y.nd, Y.bor, by rw [Y.tl]; exact hF, fun H' Hs' as' r R3 hv' hd' hdr hP => ?_⟩
    obtain ⟨Hs'', sl3, R6, st3, e1⟩ := Y.out H' Hs' as' r R3 hv' hd' hP.1
    exact hk (.v r.t) r.v _ H' sl3 [r] R6 ⟨r, rfl, rfl, rfl, hdr⟩ st3 (by rw [e1]; exact hP.2)
  · exact h.elim
/-- the promise of a def that may raise -/
def spX (K : PySem.W.Frag) (mg : Str → Option Value) (md : List Md) (F : List T → (T → List T → Prop) → Prop) : Sp := fun vs H Q E => ∃ Hs as P, vs.length = md.length ∧ Rel K ⟨⟨H, Hs, TA.fpl as ++ tabA K, []⟩, []⟩ Hs H (vs.map some) as [] ∧ as.map TA.v = vs ∧ (∀ t ∈ as, t.isDead = false) ∧ (∀ (i : Nat) (t : TA), md[i]? = some Md.bor → as[i]? = some t → ∃ v x, t = TA.d v x) ∧ F (TA.tl as) P ∧
  (∀ H' Hs' as' r, Rel K ⟨⟨H, Hs, TA.fpl as ++ tabA K, []⟩, []⟩ Hs' H' (vs.map some) as' [r] → as'.map TA.v = vs → (∀ (i : Nat) (t : TA), md[i]? = some Md.own → as'[i]? = some t → t.isDead = false) → r.isDead = false → P r.t (TA.tl as') → Q r.v H') ∧
  (∀ H' Hs' as' n C, Rel K ⟨⟨H, Hs, TA.fpl as ++ tabA K, []⟩, []⟩ Hs' H' (vs.map some) as' [] → as'.map TA.v = vs → (∀ (i : Nat) (t : TA), md[i]? = some Md.own → as'[i]? = some t → t.isDead = false) → mg n = some (.ref C) → P (.nd (.rsd n) []) (TA.tl as') → E (.ref C) none H')
end
structure Blk where
  N : List Str
  sc : Scope
  fnb : Str → Bool
def visB (sc : Scope) (x : Str) : Bool := match sc.names.lookup x with
  | some .local => true
  | some .cell => true
  | some .free => true
  | _ => false
def globB (sc : Scope) (x : Str) : Bool := match sc.names.lookup x with
  | some .globalImplicit => true
  | _ => false
def locB (b : Blk) (x : Str) : Bool := match b.sc.names.lookup x with
  | some .local => true
  | some .cell => b.fnb x
  | _ => false
def okNm (x : Str) : Bool := !(x == ("__debug__" : Str)) && !(x == ("__classdict__" : Str)) && !decide (x = ("__name__" : Str))
def varB (b : Blk) (i : Nat) (x : Str) : Bool := decide (b.N[i]? = some x) && visB b.sc x && okNm x
def tgB (b : Blk) (i : Nat) (x : Str) : Bool := decide (b.N[i]? = some x) && locB b x
def constIs : PyData → Const → Bool
  | .none, .none => true
  | .bool b, .bool c => b == c
  | .int i, .int j => i == j
  | .str s, .str t => decide (s = t)
  | _, _ => false
def noStar : Expr → Bool
  | .Starred _ _ => false
  | _ => true
def noSlice : Expr → Bool
  | .Slice _ _ _ _ => false
  | _ => true
def noSet : Expr → Bool
  | .Set _ _ _ => false
  | _ => true
def bltNm : Blt → Str
  | .len => "len"
  | .max => "max"
  | .min => "min"
  | .sum => "sum"
  | .abs => "abs"
  | .int => "int"
  | .str => "str"
  | .tuple => "tuple"
  | .list => "list"
  | .sorted => "sorted"
  | .all => "all"
  | .any => "any"
  | .listRange => "list"
def bltCall (Γ : Sk) (b : Blk) (nm : Str) (x : Str) : Bool := decide (nm = x) && globB b.sc x && Γ.bs.contains x && okNm x
/-- the targets of a loop: one name, or a tuple of names -/
def tgsB (b : Blk) : List Nat → List Expr → Bool
  | [], [] => true
  | i :: is, .Name x _ :: es => tgB b i x && tgsB b is es
  | _, _ => false
def targB (b : Blk) (is : List Nat) (e : Expr) : Bool := match is, e with
  | [i], .Name x _ => tgB b i x
  | i :: j :: is, .Tuple es _ _ => tgsB b (i :: j :: is) es
  | _, _ => false
def blkOf (b : Blk) (scope : Scope) : Blk := ⟨b.N, relS scope b.sc, fun x => (scope.names.lookup x == some .cell) && !(x == ("<lambda>" : Str))⟩
def ownOf (N : List Str) (is : List Nat) : List (Str × Nat) := is.filterMap fun i => (N[i]?).map fun x => (x, i)
def enB (it : ItK) (tg : Expr) : Bool := match it, tg with
  | .enum, .Tuple _ _ _ => true
  | .enum, _ => false
  | .zip, .Tuple _ _ _ => true
  | .zip, _ => false
  | _, _ => true
def noCall : Expr → Bool
  | .Call (.Name _ _) [] [] _ => false
  | _ => true
/-- what a loop's iterable asks, its arguments -/
def itX (Γ : Sk) (b : Blk) (it : ItK) (e : Expr) : Option (List Expr) := match it with
  | .e => some [e]
  | .rng1 => match e with
    | .Call (.Name x _) [a] [] _ => if bltCall Γ b "range" x then some [a] else none
    | _ => none
  | .rng2 => match e with
    | .Call (.Name x _) [a, c] [] _ => if bltCall Γ b "range" x then some [a, c] else none
    | _ => none
  | .rng3 => match e with
    | .Call (.Name x _) [a, c, d] [] _ => if bltCall Γ b "range" x then some [a, c, d] else none
    | _ => none
  | .rrng => match e with
    | .Call (.Name y _) [.Call (.Name x _) [a] [] _] [] _ => if bltCall Γ b "reversed" y && bltCall Γ b "range" x then some [a] else none
    | _ => none
  | .enum => match e with
    | .Call (.Name x _) [a] [] _ => if bltCall Γ b "enumerate" x then some [a] else none
    | _ => none
  | .zip => match e with
    | .Call (.Name x _) [a, c] [] _ => if bltCall Γ b "zip" x then some [a, c] else none
    | _ => none
def plainE : Expr → Bool
  | .Call _ _ _ _ => true
  | .Name _ _ => true
  | .List _ _ => true
  | .ListComp _ _ _ _ => true
  | .Subscript _ _ _ => true
  | .Tuple _ _ _ => true
  | .Attribute _ _ _ => true
  | .Dict _ _ _ => true
  | .BinOp _ _ _ _ => true
  | _ => false
/-- names of classes -/
def xnB (b : Blk) : List Str → List Expr → Bool
  | [], [] => true
  | n :: ns, .Name x _ :: es => decide (n = x) && globB b.sc x && okNm x && xnB b ns es
  | _, _ => false
def isxB (b : Blk) (tu : Bool) (ns : List Str) (e : Expr) : Bool := match tu, e with
  | true, .Tuple es _ _ => xnB b ns es && decide (es.length ≤ 30)
  | false, .Name x p => xnB b ns [.Name x p]
  | _, _ => false
mutual
/-- the names of a lambda's scope: its parameter, captured ones, globals -/
def lamS1B (x : Str) (sc scope : Scope) : Bool :=
  decide (scope.kind = .function) && !scope.isCoroutine && !scope.isGenerator && decide (scope.names.lookup x = some .local) && scope.names.all fun y => !decide (y.2 = .cell) && (!decide (y.2 = .local) || decide (y.1 = x)) && (!decide (y.2 = .free) || decide (sc.names.lookup y.1 = some .cell) || decide (sc.names.lookup y.1 = some .free))
/-- one parameter, no default -/
def param1B (p : Arguments) (x : Str) : Bool := match p with
  | ⟨[], [⟨y, none, _⟩], none, [], [], none, []⟩ => decide (y = x) && (decide (y = ("place" : Str)) || decide (y = ("one" : Str)))
  | _ => false
def lamB (b : Blk) (j : Nat) (p : Arguments) (scope : Scope) : Bool := match b.N[j]? with
  | some x => lamS1B x b.sc scope && param1B p x && okNm x
  | none => false
def chk (Γ : Sk) : Blk → E → Expr → Bool
  | b, .var i, e => match e with
    | .Name x _ => varB b i x
    | _ => false
  | b, .k c, e => match e with
    | .Constant k _ _ => constIs c k
    | _ => false
  | b, .bin op p q, e => match e with
    | .BinOp ea o eb _ => bopIs op o && chk Γ b p ea && chk Γ b q eb
    | _ => false
  | b, .not p, e => match e with
    | .UnaryOp .Not ea _ => chk Γ b p ea
    | _ => false
  | b, .cmp op p q, e => match e with
    | .Compare ea [o] [eb] _ => copIs op o && noSet eb && chk Γ b p ea && chk Γ b q eb
    | _ => false
  | b, .and p q, e => match e with
    | .BoolOp .And (e1 :: e2 :: es) pos => chk Γ b p e1 && (match es with
      | [] => chk Γ b q e2
      | e3 :: es => chk Γ b q (.BoolOp .And (e2 :: e3 :: es) pos))
    | _ => false
  | b, .or p q, e => match e with
    | .BoolOp .Or (e1 :: e2 :: es) pos => chk Γ b p e1 && (match es with
      | [] => chk Γ b q e2
      | e3 :: es => chk Γ b q (.BoolOp .Or (e2 :: e3 :: es) pos))
    | _ => false
  | b, .ix o i, e => match e with
    | .Subscript eo ei _ => noSlice ei && chk Γ b o eo && chk Γ b i ei
    | _ => false
  | b, .nex n m, e => match e with
    | .Call (.Name x _) [.Constant (.str y) _ _] [] _ => decide (x = n) && decide (y = m) && globB b.sc x && okNm x && (Γ.xc.map (·.1)).contains n
    | _ => false
  | b, .nxo n f p, e => match e with
    | .Call (.Name x _) [ea] [] _ => decide (x = n) && globB b.sc x && okNm x && noStar ea && decide (Γ.xo.lookup n = some f) && chk Γ b p ea
    | _ => false
  | b, .xat f o, e => match e with
    | .Attribute eo a _ => decide (a = f) && noCall eo && chk Γ b o eo
    | _ => false
  | b, .lst es, e => match e with
    | .List ees _ => chkL Γ b es ees
    | _ => false
  | b, .tup es, e => match e with
    | .Tuple ees _ _ => chkL Γ b es ees
    | _ => false
  | b, .call f es, e => match e with
    | .Call (.Name x _) (a :: as) [] _ => decide (f = x) && Γ.fn.contains f && globB b.sc x && okNm x && chkL Γ b es (a :: as)
    | .Call (.Name x _) [] [] _ => decide (f = x) && Γ.fn.contains f && globB b.sc x && okNm x && es.isEmpty
    | _ => false
  | b, .blt t es, e => match e with
    | .Call (.Name x _) (a :: as) [] _ => match t with
      | .listRange => match a, as with
        | .Call (.Name y _) [n] [] _, [] => bltCall Γ b "list" x && bltCall Γ b "range" y && chkL Γ b es [n]
        | _, _ => false
      | t => bltCall Γ b (bltNm t) x && chkL Γ b es (a :: as)
    | _ => false
  | b, .lc is bor elt it ies cond, e => match e with
    | .ListComp e0 [⟨tg, iter, ifs, a⟩] scope _ => decide (a = 0) && (is.all fun i => !Γ.pin.contains i) && decide is.Nodup && noSet iter && blkC b.N b.sc scope (ownOf b.N is) && ((ownOf b.N is).map (·.2) == is) && targB (blkOf b scope) is tg && (match itX Γ b it iter with | some as => chkL Γ b ies as | none => false) && chk Γ (blkOf b scope) elt e0 && chkL Γ (blkOf b scope) cond ifs && decide (ifs.length ≤ 1) && enB it tg
    | _ => false
  | b, .frz p, e => plainE e && chk Γ b p e
  | b, .isx p tu ns, e => match e with
    | .Call (.Name x _) [ea, ec] [] _ => bltCall Γ b "isinstance" x && noStar ea && isxB b tu ns ec && chk Γ b p ea
    | _ => false
def chkL (Γ : Sk) : Blk → List E → List Expr → Bool
  | b, [], es => match es with
    | [] => true
    | _ :: _ => false
  | b, c :: cs, es => match es with
    | e :: es => noStar e && chk Γ b c e && chkL Γ b cs es
    | [] => false
end
def chkIt (Γ : Sk) (b : Blk) (it : ItK) (es : List E) (e : Expr) : Bool := match itX Γ b it e with
  | some as => chkL Γ b es as
  | none => false
structure FnG (P : Program) (w : World) (K : PySem.W.Frag) (mg : Str → Option Value) (base : Heap) (CX : CXT) (k : Nat) (f : Addr) (fd : FuncData) (ps : List Str) (sp : Sp) : Prop where
  len : ∀ vs H Q E, sp vs H Q E → vs.length = ps.length
  run : ∀ (A : Around) (outer : List Env) (s : Shared) (H : Hp) (args : Args) (us : List Value) (vs : List V) (Q : VK) (E : XK), Room k A → A.guards = some [] → Env0 P w K mg base A outer s H → BindsTo s fd args (ps.zip us) → Vals vs us → sp vs H Q E →
    codeAny (model P w) A (.call (.ref f) args) (CR CX outer P w H s Q E) s
theorem FnG.mono {P : Program} {w : World} {K : PySem.W.Frag} {mg : Str → Option Value} {base : Heap} {CX : CXT} {j k : Nat} {f : Addr} {fd : FuncData} {ps : List Str} {sp : Sp} (F : FnG P w K mg base CX j f fd ps sp) (h : j ≤ k) : FnG P w K mg base CX k f fd ps sp :=
  ⟨F.len, fun A outer s H args us vs Q E hr hg => F.run A outer s H args us vs Q E (hr.mono h) hg⟩
theorem room_deeper2 {k : Nat} {A : Around} (r : Room (k + 1) A) (env : Env) : Room k (A.deeper env).in1.in1 :=
  ⟨r.hd, by have := r.dp; show A.depth + 1 + 3 * k + 5 < _; omega, by have := r.un; show A.units + 3 + 1 + 1 + 16 * k + 200 < _; omega⟩
theorem room_lam {k : Nat} {A : Around} (r : Room (k + 1) A) (e0 e1 : Env) : Room k ((A.deeper e0).in1.in1.deeper e1) :=
  ⟨r.hd, by have := r.dp; show A.depth + 1 + 1 + 3 * k + 5 < _; omega, by have := r.un; show A.units + 3 + 1 + 1 + 3 + 16 * k + 200 < _; omega⟩
theorem room_lam2 {k : Nat} {A : Around} (r : Room (k + 1) A) (e0 e1 : Env) : Room k ((A.deeper e0).in1.in1.deeper e1).in1.in1 :=
  ⟨r.hd, by have := r.dp; show A.depth + 1 + 1 + 3 * k + 5 < _; omega, by have := r.un; show A.units + 3 + 1 + 1 + 3 + 1 + 1 + 16 * k + 200 < _; omega⟩
theorem room_out2 {k : Nat} {A : Around} (r : Room k A.in1.in1) : Room k A :=
  ⟨r.hd, r.dp, by have := r.un; have h : A.units + 1 + 1 + 16 * k + 200 < cLine := this; omega⟩
theorem fnG_of {CX : CXT} {P : Program} {w : World} {K : PySem.W.Frag} {mg : Str → Option Value} {base : Heap} {k : Nat} {f : Addr} {name qual : Str} {params : Arguments} {body : List Stmt} {scope : Scope} {dV kV doc pm cdv ct oc : Value} {an od : Option Addr} {osl : Array (Option Value)} {N ps : List Str} {sp : Sp}
    (lk : K.lookup f = some ⟨oc, od, .func (PySem.W.fnOf name qual params body scope dV kV doc pm an cdv ct), osl⟩) (hcd : PySem.W.codeIn K cdv qual = true) (S : FnScope N ps scope) (len : ∀ vs H Q E, sp vs H Q E → vs.length = ps.length)
    (hbody : ∀ (A : Around) (outer : List Env) (s : Shared) (H : Hp) (vs : List V) (Q : VK) (E : XK), Room (k + 1) A → Room k (A.deeper (envOfC qual scope s.heap.objs.size f cdv)).in1.in1 → (A.deeper (envOfC qual scope s.heap.objs.size f cdv)).guards = some [] → sp vs H Q E →
      ∃ t, PSs (cxOf CX P w K mg base N qual scope f cdv A outer s H E) body t ∧ t { nx := fun _ H' => Q .non H', rt := Q } (start N vs) H) :
    FnG P w K mg base CX (k + 1) f (PySem.W.fnOf name qual params body scope dV kV doc pm an cdv ct) ps sp := by
  refine ⟨len, fun A outer s H args us vs Q E hr hgd env hbd rv hsp => ?_⟩
  have hlen := len _ _ _ _ hsp
  have kin : K.In s.heap := env.mod.kin.keeps fun b o z => (env.bs b o z).1
  have nlim : s.heap.NoLimit := env.mod.nolimit.keeps fun b o z => (env.bs b o z).1
  have kinds : ∀ y ∈ ps.zip us, scope.names.lookup y.1 = some .local ∨ (scope.names.lookup y.1 = some .cell ∧ ((cellsFrom (s.heap.objs.size + 1) scope.names []).lookup y.1).isSome = true) := by
    rintro ⟨nm, vl⟩ hy
    exact (S.par nm (List.of_mem_zip hy).1).imp id fun z => ⟨z, PySem.W.cellsFrom_some _ _ _ (.inl z)⟩
  refine codeAny_call_function hr.depth (kin _ _ lk) rfl S.co S.gen rfl (PySem.W.codeRec_of kin hcd) (hbd _ _ _ _ (wpAny_newFunctionEnv_cells S.kind kinds fun env' he' s1 x => ?_))
  subst he'
  obtain ⟨t, ht, hq⟩ := hbody A outer s H vs Q E hr (room_deeper2 hr _) hgd hsp
  have I0 : Inv (cxOf CX P w K mg base N qual scope f cdv A outer s H E) [] (start N vs) H s1 := inv_start S hr.hd env hlen rv x
  refine ⟨nlim.keeps x.toInCall.keep, codeAny_func (wpAny_mono (ht.run [] s1 (start N vs) H _ I0 hq) (fun fl s' hs => ?_) fun _ _ z => z)⟩
  cases fl with
  | ret u => obtain ⟨v, σ', H', J, r2, q⟩ := hs; exact ⟨v, H', J.os, J.bare, J.base, J.hok, r2, q⟩
  | next => obtain ⟨σ', H', J, q⟩ := hs; exact ⟨V.non, H', J.os, J.bare, J.base, J.hok, rfl, q⟩
  | brk => obtain ⟨_, _, _, q⟩ := hs; exact q.elim
  | cont => obtain ⟨_, _, _, q⟩ := hs; exact q.elim
/-- a def by its body -/
theorem fun_okG {P : Program} {w : World} {K : PySem.W.Frag} {mg : Str → Option Value} {base : Heap} {x qual : Str} {st : Stmt} {f : Addr} {fd : FuncData} {N ps : List Str} {k : Nat} {sp : Sp} (F : Fun K x qual st f fd) (S : FnScope N ps (defScope st)) (len : ∀ vs H Q E, sp vs H Q E → vs.length = ps.length)
    (hbody : ∀ (cdv : Value) (A : Around) (outer : List Env) (s : Shared) (H : Hp) (vs : List V) (Q : VK) (E : XK), (∃ oc od fd osl, K.lookup f = some ⟨oc, od, .func fd, osl⟩ ∧ fd.code = cdv) → Room (k + 1) A → Room k (A.deeper (envOfC qual (defScope st) s.heap.objs.size f cdv)).in1.in1 → (A.deeper (envOfC qual (defScope st) s.heap.objs.size f cdv)).guards = some [] → sp vs H Q E →
      ∃ t, PSs (cxOf CX0 P w K mg base N qual (defScope st) f cdv A outer s H E).nox (defBody st) t ∧ t { nx := fun _ H' => Q .non H', rt := Q } (start N vs) H) : FnG P w K mg base CX0 (k + 1) f fd ps sp := by
  obtain ⟨oc, od, kV, doc, pm, an, cdv, ct, osl, rfl, lk, hcd⟩ := F.ex
  exact fnG_of lk hcd S len fun A outer s H vs Q E hR hr hgd hsp => (hbody cdv A outer s H vs Q E ⟨_, _, _, _, lk, rfl⟩ hR hr hgd hsp).imp fun t ⟨h, q⟩ => ⟨h.nox, q⟩
section
variable {X : Cx} {CX : CXT} {k : Nat} {f : Addr} {fd : FuncData} {ps : List Str} {sp : Sp} {dvs : List V} {ds : List Value} {E : XK} {x : Str} {p pos : Pos} {e : Expr} {es : List Expr} {t : L2.TA}
theorem runG {pins : List (Addr × Obj)} {σ : L2.St} {H : Hp} {s : Shared} {Q : VK} {us : List Value} {vs : List V} (F : FnG X.prog X.w X.K X.mg X.base CX k f fd ps sp) (hr : Room k X.A) (hgd : X.A.guards = some []) (hb : Binds X.K fd ps ds) (hd : Vals dvs ds) (hx : Passes CX X E)
    (I : Inv X pins σ H s) (r : Vals vs us) (h : sp (vs ++ dvs) H Q E) : wpAny (model X.prog X.w) X.A (call (.ref f) us) (EP X pins σ Q) X.xe s := by
  have both : Vals (vs ++ dvs) (us ++ ds) := r.append hd
  have hlen : (us ++ ds).length = ps.length := by rw [← both.length, F.len _ _ _ _ h]
  refine wpAny_call (codeAny_mono (F.run X.A X.stack s H ⟨us, []⟩ (us ++ ds) (vs ++ dvs) Q E hr hgd I.env0 (hb s us I.kIn hlen) both h) fun res s' hres => ?_)
  match res, hres with
  | .error e, z => exact hx pins σ H s e s' I z
  | .ok (.ret u), z => exact I.after z
theorem pe_callG (F : FnG X.prog X.w X.K X.mg X.base CX k f fd ps sp) (hr : Room k X.A) (hgd : X.A.guards = some []) (hg : Gl X x) (hm : X.mg x = some (.ref f)) (hk : PySem.W.keepIn X.K (.ref f) = true) (hb : Binds X.K fd ps ds) (hd : Vals dvs ds) (hx : Passes CX X E)
    (ha : PA X (e :: es) t) (hdb : (x == ("__debug__" : Str)) = false) (he : starEach (e :: es) X.env = (false, eval e X.env) :: starEach es X.env) (hpl : (backTo pos (starEach es X.env)).any (·.1) = false) : PE X (.Call (.Name x p) (e :: es) [] pos) (tCall sp dvs E t) :=
  ⟨fun pins s σ H Q I h => wpAny_Call_Name_kw (ld_glob I hg hm (PySem.W.callWith_K (h₀ := X.base) I.ok.mod.kin hk (thn (ha.run pos pins s σ H _ I h) fun us s1 ⟨vs, H1, I1, r, q⟩ => ⟨I1.kIn, runG F hr hgd hb hd hx I1 r q⟩) he hpl) hdb)⟩
end
structure ClsOk (P : Program) (w : World) (K : PySem.W.Frag) (mg : Str → Option Value) (base : Heap) (k : Nat) (c : Str) (ci : CI) : Prop where
  cl : Cls K ci.C
  fld : ∀ a ∈ ci.fld, NoAttr K ci.C a
  mt : ∀ m fs, ci.mt.lookup m = some fs → m ≠ "__init__" → ∃ f fd ps, Meth K ci.C m f ∧ FnG P w K mg base CX0 k f fd ps (spV K fs.md fs.F) ∧ Binds K fd ps []
  ini : ∀ fs, ci.mt.lookup ("__init__" : Str) = some fs → mg c = some (.ref ci.C) ∧ ∃ f fd ps j, j + 1 ≤ k ∧ Mk K ci.C f ∧ FnG P w K mg base CX0 j f fd ps (spV K fs.md fs.F) ∧ Binds K fd ps []
/-- .. with methods that may raise -/
structure ClsX (P : Program) (w : World) (K : PySem.W.Frag) (mg : Str → Option Value) (base : Heap) (k : Nat) (c : Str) (ci : CI) : Prop where
  cl : Cls K ci.C
  fld : ∀ a ∈ ci.fld, NoAttr K ci.C a
  mt : ∀ m fs, ci.mt.lookup m = some fs → m ≠ "__init__" → ∃ f fd ps, Meth K ci.C m f ∧ FnG P w K mg base (L2.CX P w) k f fd ps (spX K mg fs.md fs.F) ∧ Binds K fd ps []
  ini : ∀ fs, ci.mt.lookup ("__init__" : Str) = some fs → mg c = some (.ref ci.C) ∧ ∃ f fd ps j, j + 1 ≤ k ∧ Mk K ci.C f ∧ FnG P w K mg base (L2.CX P w) j f fd ps (spX K mg fs.md fs.F) ∧ Binds K fd ps []
/-- a class by its name: one of the module's, or a built-in one -/
def NmV (mg : Str → Option Value) (h : Str) (v : V) (cv : Value) : Prop := (∃ a, mg h = some (.ref a) ∧ v = .ref a ∧ cv = .ref a) ∨ (∃ t, mg h = none ∧ bootBuiltins h = some (.type t) ∧ v = .ty t ∧ cv = .type t)
/-- a class of exceptions -/
structure XcOk (K : PySem.W.Frag) (mg : Str → Option Value) (n : Str) (xi : XI) : Prop where
  gm : mg n = some (.ref xi.C)
  keep : PySem.W.keepIn K (.ref xi.C) = true
  exc : ExcC K xi.C
  ty : PySem.W.typeIn K (.ref xi.C) = some (.type "type")
  mkx : ∃ bm B newId initId, ExcBaseFacts B newId initId bm ∧ PySem.W.excIn K xi.C bm newId = true
  is : ∀ h b, xi.is.lookup h = some b → ∃ v cv, NmV mg h v cv ∧ PySem.W.kitOne K (.ref xi.C) cv = some b ∧ PySem.W.exmOne K (.ref xi.C) cv = some b
/-- what __init__ of such a class of exceptions does -/
def spI (C : Addr) (f : Str) : Sp := fun vs H Q _ => ∃ (a : Addr) (y : V), vs = [.ref a, y] ∧ H a = some (exo a C none) ∧ ∀ d, H d = none → d ≠ a → Q .non (upd (upd H d (exd d [(f, y)])) a (exo a C (some d)))
structure XoOk (P : Program) (w : World) (K : PySem.W.Frag) (mg : Str → Option Value) (base : Heap) (k : Nat) (n : Str) (xo : XO) : Prop where
  gm : mg n = some (.ref xo.C)
  keep : PySem.W.keepIn K (.ref xo.C) = true
  oex : OexC K xo.C
  xf : XfC K xo.C
  exc : ExcC K xo.C
  no : PySem.W.findIn K (.ref xo.C) xo.f = some none
  is : ∀ h b, xo.is.lookup h = some b → ∃ v cv, NmV mg h v cv ∧ PySem.W.kitOne K (.ref xo.C) cv = some b
  ini : ∃ j fI fd ps, j + 1 ≤ k ∧ PySem.W.findIn K (.ref xo.C) "__init__" = some (some (.ref fI)) ∧ PySem.W.typeIn K (.ref fI) = some (.type "function") ∧ FnG P w K mg base CX0 j fI fd ps (spI xo.C xo.f) ∧ Binds K fd ps []
/-- where lambdas are made and called -/
structure LamCx (X : Cx) (k : Nat) : Prop where
  room : ∀ env, Room k (X.A.in1.in1.deeper env)
  rm2 : ∀ env, Room k (X.A.in1.in1.deeper env).in1.in1
  code : ∃ c P, X.env.code = .ref c ∧ LamX.TabB X.base X.mg c P ∧ (P, X.env.qual ++ "<lambda>") ∈ tabsK X.K ∧ ∀ p ∈ tabsK X.K, p.1 = P → p.2 = X.env.qual ++ "<lambda>"
structure CxOk (X : Cx) (Γ : Ctx) (b : Blk) (k : Nat) : Prop where
  N : X.N = b.N
  sc : X.env.scope = b.sc
  calm : X.calm = true
  room : Room k X.A
  gd : X.A.guards = some []
  nd : b.N.Nodup
  fn : ∀ x, b.fnb x = true → X.fn x = true
  glob : ∀ g x, Γ.glob.lookup g = some x → ∃ v u, X.mg g = some u ∧ RelV v u ∧ ∀ Hs, Rp X.K Hs v x
  bi : ∀ n ∈ Γ.bs, X.mg n = none
  fns : ∀ f fs, Γ.fn.lookup f = some fs → ∃ a fd ps, FnG X.prog X.w X.K X.mg X.base CX0 k a fd ps (spV X.K fs.md fs.F) ∧ X.mg f = some (.ref a) ∧ PySem.W.keepIn X.K (.ref a) = true ∧ Binds X.K fd ps []
  cls : ∀ c ci, Γ.cls.lookup c = some ci → ClsOk X.prog X.w X.K X.mg X.base k c ci
  xfns : ∀ f fs, Γ.xfn.lookup f = some fs → ∃ a fd ps, FnG X.prog X.w X.K X.mg X.base (L2.CX X.prog X.w) k a fd ps (spX X.K X.mg fs.md fs.F) ∧ X.mg f = some (.ref a) ∧ PySem.W.keepIn X.K (.ref a) = true ∧ Binds X.K fd ps []
  xcls : ∀ c ci, Γ.xcls.lookup c = some ci → ClsX X.prog X.w X.K X.mg X.base k c ci
  xc : ∀ n xi, Γ.xc.lookup n = some xi → XcOk X.K X.mg n xi
  rm2 : Room k X.A.in1.in1
  pms : ∀ m ps, Γ.pms.lookup m = some ps → ∃ ci g fd pn, Γ.cls.lookup ps.c = some ci ∧ Meth X.K ci.C m g ∧ FnG X.prog X.w X.K X.mg X.base CX0 k g fd pn (spP X.K ps.md ps.F) ∧ Binds X.K fd pn []
  xo : ∀ n xo, Γ.xo.lookup n = some xo → XoOk X.prog X.w X.K X.mg X.base k n xo
  wd : ∀ w, Γ.wd = some w → w = X.w
  lam : b.fnb "<lambda>" = true → Γ.lam = true → LamCx X k
section
variable {X : Cx} {Γ : Ctx} {b : Blk} {k : Nat} {pos : Pos} {ea eb ec : Expr} {p q r : E} {pu : Bool}
theorem CxOk.gl (C : CxOk X Γ b k) {x : Str} (h : globB b.sc x = true) : Gl X x := by
  unfold Gl Env.kindOf
  rw [C.sc]
  unfold globB at h
  split at h
  · assumption
  · cases h
theorem CxOk.vis (C : CxOk X Γ b k) {x : Str} (h : visB b.sc x = true) : Vis X.env.scope x := by
  unfold Vis
  rw [C.sc]
  unfold visB at h
  split at h
  · exact .inl (by assumption)
  · exact .inr (.inl (by assumption))
  · exact .inr (.inr (by assumption))
  · cases h
theorem CxOk.loc (C : CxOk X Γ b k) {x : Str} (h : locB b x = true) : L2.Loc X.env.scope x ∧ (X.fn x = true ∨ X.env.scope.names.lookup x = some .local) := by
  unfold L2.Loc
  rw [C.sc]
  unfold locB at h
  split at h
  · exact ⟨.inl (by assumption), .inr (by assumption)⟩
  · exact ⟨.inr (by assumption), .inl (C.fn x h)⟩
  · cases h
theorem okNm_of {x : Str} (h : okNm x = true) : (x == ("__debug__" : Str)) = false ∧ (x == ("__classdict__" : Str)) = false ∧ x ≠ "__name__" := by
  unfold okNm at h
  simp only [Bool.and_eq_true, Bool.not_eq_true', decide_eq_false_iff_not] at h
  exact ⟨h.1.1, h.1.2, h.2⟩
theorem star_of {e : Expr} {es : List Expr} {env : Env} (h : noStar e = true) : starEach (e :: es) env = (false, eval e env) :: starEach es env := by
  cases e <;> first | rfl | (exact (Bool.noConfusion h))
theorem stars_of {env : Env} {pos : Pos} : ∀ {es : List Expr}, es.all noStar = true → (backTo pos (starEach es env)).any (·.1) = false
  | [], _ => rfl
  | e :: es, h => by
    simp only [List.all_cons, Bool.and_eq_true] at h
    rw [star_of h.1]
    show (false || (backTo pos (starEach es env)).any (·.1)) = false
    rw [stars_of h.2]
    rfl
theorem le_var {i : Nat} {x : Str} (C : CxOk X Γ b k) (h : varB b i x = true) : PE X (.Name x pos) (LE X Γ.pin pu (wE Γ pu (.var i))) := by
  unfold varB at h
  simp only [Bool.and_eq_true, decide_eq_true_eq] at h
  obtain ⟨h1, h2, _⟩ := okNm_of h.2
  refine ⟨fun pins s σ H Q I hw => ?_⟩
  obtain ⟨B, Hs, sl, tp, P, R0, hw, hk⟩ := hw
  refine (pe_var (by rw [C.N]; exact h.1.1) (C.vis h.1.2) h1 h2).run pins s σ H Q I ?_
  rw [wE, tl_get] at hw
  cases e : sl[i]? with
  | none => rw [e] at hw; exact hw.elim
  | some t =>
    rw [e] at hw
    simp only [Option.map_some] at hw
    cases t with
    | dead v => rw [TA.t] at hw; exact hw.elim
    | d v y =>
      rw [TA.t] at hw
      have ok := R0.slot_ok e
      rw [TA.ok] at ok
      exact ⟨v, R0.val i _ e rfl, Cont.leaf hk R0 ok .refl hw⟩
    | nd kk a ts =>
      rw [TA.t] at hw
      exact ⟨.ref a, R0.val i _ e rfl, hk (.p i []) (.ref a) Hs H sl [] (by simpa using R0) ⟨rfl, _, _, e, rfl, rfl, rfl⟩ .refl hw⟩
theorem le_k {c : PyData} {cc : Const} {j : Nat} (h : constIs c cc = true) : PE X (.Constant cc j pos) (LE X Γ.pin pu (wE Γ pu (.k c))) := by
  refine ⟨fun pins s σ H Q I hw => ?_⟩
  obtain ⟨B, Hs, sl, tp, P, R0, hw, hk⟩ := hw
  rw [wE] at hw
  cases c <;> cases cc <;> first
    | exact (Bool.noConfusion h)
    | (simp only [constIs, beq_iff_eq, decide_eq_true_eq] at h
       try subst h
       first
        | exact pe_non.run pins s σ H Q I (Cont.leaf hk R0 .non .refl hw)
        | exact pe_bl.run pins s σ H Q I (Cont.leaf hk R0 (.bl _) .refl hw)
        | exact pe_int.run pins s σ H Q I (Cont.leaf hk R0 (.int _) .refl hw)
        | exact pe_str.run pins s σ H Q I (Cont.leaf hk R0 (.str _) .refl hw))
abbrev PEc (X : Cx) (Γ : Ctx) (e : Expr) (c : E) : Prop := ∀ pu, PE X e (LE X Γ.pin pu (wE Γ pu c))
theorem le_bin {op : BOp} (ha : PEc X Γ ea p) (hb : PEc X Γ eb q) : PE X (.BinOp ea (bopO op) eb pos) (LE X Γ.pin pu (wE Γ pu (.bin op p q))) := by
  refine ⟨fun pins s σ H Q I hw => ?_⟩
  obtain ⟨B, Hs, sl, tp, P, R0, hw, hk⟩ := hw
  rw [wE] at hw
  exact wpAny_BinOp (two (pb := fun _ => pu) (wb := fun _ => wE Γ pu q) (wb' := fun pu' => wE Γ pu' q) R0 hw hb I (ha pu) fun v u s2 x y H2 ra rb Hs2 sl2 nw1 nw2 I2 rx ry R2 r1 r2 st h => op_binW I2 rx ry R2 r1 r2 st hk h)
theorem le_cmp {op : COp} (C : CxOk X Γ b k) (hs : noSet eb = true) (ha : PEc X Γ ea p) (hb : PEc X Γ eb q) : PE X (.Compare ea [copO op] [eb] pos) (LE X Γ.pin pu (wE Γ pu (.cmp op p q))) := by
  refine ⟨fun pins s σ H Q I hw => ?_⟩
  obtain ⟨B, Hs, sl, tp, P, R0, hw, hk⟩ := hw
  rw [wE] at hw
  refine wpAny_Compare1 (two (pb := fun _ => pu) (wb := fun _ => wE Γ pu q) (wb' := fun pu' => wE Γ pu' q) R0 hw hb I (ha pu) fun v u s2 x y H2 ra rb Hs2 sl2 nw1 nw2 I2 rx ry R2 r1 r2 st h => op_cmpW C.room.units I2 rx ry R2 r1 r2 h fun z hz => Cont.leaf hk R2.drop.drop (.bl z) st hz) ?_
  cases eb <;> first | rfl | (exact (Bool.noConfusion hs))
/-- the reading of a test: the result, and its truth -/
def LR (X : Cx) (ix : List Nat) (pu : Bool) (w : St → (R → St → Prop) → Prop) : TT := fun σ H Q => ∃ (B : B0) (Hs : Hp) (sl tp : List TA) (P : R → Bool → St → Prop), Rel X.K ⟨B, ix⟩ Hs H σ sl tp ∧ w (TA.tl sl) (fun r σ1 => truW r σ1 fun c => P r c σ1) ∧
  ∀ r v c Hs' H' sl' nw, Rel X.K ⟨B, ix⟩ Hs' H' σ sl' (tp ++ nw) → RR r v sl' nw → Stp pu H H' sl sl' → (∀ Kk : Bool → Prop, truW r (TA.tl sl') Kk → Kk c) → P r c (TA.tl sl') → Q c H'
abbrev PTc (X : Cx) (Γ : Ctx) (e : Expr) (c : E) : Prop := ∀ pu, PT X e (LR X Γ.pin pu (wE Γ pu c))
theorem truW_at {r : R} {σ : St} {Kk : Bool → Prop} (h : truW r σ Kk) : ∃ c, Kk c ∧ ∀ Kk' : Bool → Prop, truW r σ Kk' → Kk' c := by
  unfold truW at h
  split at h
  · rename_i t ht
    split at h
    · rename_i c hc
      refine ⟨c, h, fun Kk' h' => ?_⟩
      unfold truW at h'
      rw [ht] at h'
      simp only at h'
      rw [hc] at h'
      exact h'
    · exact h.elim
  · exact h.elim
/-- any value's truth -/
theorem lr_plain {e : Expr} {c : E} (h : PEc X Γ e c) (he : ∀ whole, isTrue e X.env whole = (do let v ← whole; standAt e.pos; holding [v] (truthy v))) : PT X e (LR X Γ.pin pu (wE Γ pu c)) := by
  refine ⟨fun pins s σ H Q I hw => ?_⟩
  obtain ⟨B, Hs, sl, tp, P, R0, hw, hk⟩ := hw
  refine isTrue_plain (one R0 hw I (h pu) fun v s1 x H1 ra Hs1 sl1 nw1 I1 rx R1 r1 st h => ?_) (he _)
  obtain ⟨c, hc, hu⟩ := truW_at h
  obtain ⟨c', ht, hc'⟩ := truW_of (Kk := fun c' => c' = c) R1 r1 (by
    unfold truW at h ⊢
    split at h
    · split at h
      · rename_i b0 hb0
        have := hu (fun z => z = b0) (by unfold truW; simp only [*])
        simp only [*]
      · exact h.elim
    · exact h.elim)
  subst hc'
  exact tru_ok pins s1 σ H1 x v Q I1 rx ⟨c', ht, hk ra x c' Hs1 H1 sl1 nw1 R1 r1 st hu hc⟩
theorem lr_cmp {op : COp} (C : CxOk X Γ b k) (hs : noSet eb = true) (ha : PEc X Γ ea p) (hb : PEc X Γ eb q) : PT X (.Compare ea [copO op] [eb] pos) (LR X Γ.pin pu (wE Γ pu (.cmp op p q))) := by
  refine ⟨fun pins s σ H Q I hw => ?_⟩
  obtain ⟨B, Hs, sl, tp, P, R0, hw, hk⟩ := hw
  rw [wE] at hw
  refine wpAny_isTrue_Compare1 (two (pb := fun _ => pu) (wb := fun _ => wE Γ pu q) (wb' := fun pu' => wE Γ pu' q) R0 hw hb I (ha pu) fun v u s2 x y H2 ra rb Hs2 sl2 nw1 nw2 I2 rx ry R2 r1 r2 st h => thn (op_cmpW (Q := fun z H' => ∃ c, z = .bl c ∧ Q c H') C.room.units I2 rx ry R2 r1 r2 h fun z hz => ⟨z, rfl, ?_⟩) fun w s3 ⟨x3, H3, I3, r3, c, e3, q3⟩ => ?_) ?_
  · exact hk (.v (.d (.bool z))) (.bl z) z Hs2 H2 sl2 [.d (.bl z) (.bool z)] (R2.drop.drop.leaf (.bl z)) ⟨_, rfl, rfl, rfl, rfl⟩ st (fun Kk h => h) hz
  · subst e3
    cases r3
    exact wpAny_truthy_bool ⟨H3, I3, q3⟩
  · cases eb <;> first | rfl | (exact (Bool.noConfusion hs))
theorem lr_not (ha : PTc X Γ ea p) : PT X (.UnaryOp .Not ea pos) (LR X Γ.pin pu (wE Γ pu (.not p))) := by
  refine ⟨fun pins s σ H Q I hw => ?_⟩
  obtain ⟨B, Hs, sl, tp, P, R0, hw, hk⟩ := hw
  rw [wE] at hw
  refine (pt_not (ha pu)).run pins s σ H Q I ⟨B, Hs, sl, tp, _, R0, hw, fun r v c Hs' H' sl' nw R1 rr st _ hP => ?_⟩
  exact hk (.v (.d (.bool (!c)))) (.bl (!c)) (!c) Hs' H' sl' [.d (.bl (!c)) (.bool (!c))] (R1.drop.leaf (.bl _)) ⟨_, rfl, rfl, rfl, rfl⟩ st (fun Kk h => h) hP
theorem le_not (ha : PEc X Γ ea p) : PE X (.UnaryOp .Not ea pos) (LE X Γ.pin pu (wE Γ pu (.not p))) := by
  refine ⟨fun pins s σ H Q I hw => ?_⟩
  obtain ⟨B, Hs, sl, tp, P, R0, hw, hk⟩ := hw
  rw [wE] at hw
  refine (pe_notT (ha pu)).run pins s σ H Q I ⟨B, Hs, sl, tp, _, R0, hw, fun ra v Hs1 H1 sl1 nw1 R1 rr1 st1 p1 => ?_⟩
  obtain ⟨c, ht, hc⟩ := truW_of R1 rr1 p1
  exact ⟨c, ht, Cont.leaf hk R1.drop (.bl _) st1 hc⟩
theorem le_and {es : List Expr} (ha : PEc X Γ ea p) (hb : PEc X Γ (.BoolOp .And (eb :: es) pos) q) : PE X (.BoolOp .And (ea :: eb :: es) pos) (LE X Γ.pin pu (wE Γ pu (.and p q))) := by
  refine ⟨fun pins s σ H Q I hw => ?_⟩
  obtain ⟨B, Hs, sl, tp, P, R0, hw, hk⟩ := hw
  rw [wE] at hw
  refine (pe_andT (ha pu) (hb pu)).run pins s σ H Q I ⟨B, Hs, sl, tp, _, R0, hw, fun ra v Hs1 H1 sl1 nw1 R1 rr1 st1 p1 => ?_⟩
  obtain ⟨c, ht, hc⟩ := truW_of R1 rr1 p1
  refine ⟨c, ht, ?_⟩
  cases c with
  | true =>
    simp only [br_t, if_true] at hc ⊢
    exact ⟨B, Hs1, sl1, tp, _, R1.drop, hc, fun r v Hs2 H2 sl2 nw R2 rr2 st2 p2 => hk r v Hs2 H2 sl2 nw R2 rr2 (st1.trans st2 id) p2⟩
  | false =>
    simp only [br_f, Bool.false_eq_true, if_false] at hc ⊢
    exact hk ra v Hs1 H1 sl1 nw1 R1 rr1 st1 hc
theorem le_or {es : List Expr} (ha : PEc X Γ ea p) (hb : PEc X Γ (.BoolOp .Or (eb :: es) pos) q) : PE X (.BoolOp .Or (ea :: eb :: es) pos) (LE X Γ.pin pu (wE Γ pu (.or p q))) := by
  refine ⟨fun pins s σ H Q I hw => ?_⟩
  obtain ⟨B, Hs, sl, tp, P, R0, hw, hk⟩ := hw
  rw [wE] at hw
  refine (pe_orT (ha pu) (hb pu)).run pins s σ H Q I ⟨B, Hs, sl, tp, _, R0, hw, fun ra v Hs1 H1 sl1 nw1 R1 rr1 st1 p1 => ?_⟩
  obtain ⟨c, ht, hc⟩ := truW_of R1 rr1 p1
  refine ⟨c, ht, ?_⟩
  cases c with
  | false =>
    simp only [br_f, Bool.false_eq_true, if_false] at hc ⊢
    exact ⟨B, Hs1, sl1, tp, _, R1.drop, hc, fun r v Hs2 H2 sl2 nw R2 rr2 st2 p2 => hk r v Hs2 H2 sl2 nw R2 rr2 (st1.trans st2 id) p2⟩
  | true =>
    simp only [br_t, if_true] at hc ⊢
    exact hk ra v Hs1 H1 sl1 nw1 R1 rr1 st1 hc
abbrev PWc (X : Cx) (Γ : Ctx) (e : Expr) (c : E) : Prop := ∀ pu, PW X e (LR X Γ.pin pu (wE Γ pu c))
theorem lr_and {es : List Expr} (ha : PTc X Γ ea p) (hb : PWc X Γ (.BoolOp .And (eb :: es) pos) q) : PW X (.BoolOp .And (ea :: eb :: es) pos) (LR X Γ.pin pu (wE Γ pu (.and p q))) := by
  refine ⟨fun wh pins s σ H Q I hw => ?_⟩
  obtain ⟨B, Hs, sl, tp, P, R0, hw, hk⟩ := hw
  rw [wE] at hw
  refine (pw_and (ha pu) (hb pu)).run wh pins s σ H Q I ⟨B, Hs, sl, tp, _, R0, hw, fun ra v c Hs1 H1 sl1 nw1 R1 rr1 st1 hu p1 => ?_⟩
  cases c with
  | true =>
    simp only [br_t, if_true] at p1 ⊢
    exact ⟨B, Hs1, sl1, tp, _, R1.drop, p1, fun r v c Hs2 H2 sl2 nw R2 rr2 st2 hu2 p2 => hk r v c Hs2 H2 sl2 nw R2 rr2 (st1.trans st2 id) hu2 p2⟩
  | false =>
    simp only [br_f, Bool.false_eq_true, if_false] at p1 ⊢
    exact hk ra v false Hs1 H1 sl1 nw1 R1 rr1 st1 hu (hu _ p1)
theorem lr_or {es : List Expr} (ha : PTc X Γ ea p) (hb : PWc X Γ (.BoolOp .Or (eb :: es) pos) q) : PW X (.BoolOp .Or (ea :: eb :: es) pos) (LR X Γ.pin pu (wE Γ pu (.or p q))) := by
  refine ⟨fun wh pins s σ H Q I hw => ?_⟩
  obtain ⟨B, Hs, sl, tp, P, R0, hw, hk⟩ := hw
  rw [wE] at hw
  refine (pw_or (ha pu) (hb pu)).run wh pins s σ H Q I ⟨B, Hs, sl, tp, _, R0, hw, fun ra v c Hs1 H1 sl1 nw1 R1 rr1 st1 hu p1 => ?_⟩
  cases c with
  | false =>
    simp only [br_f, Bool.false_eq_true, if_false] at p1 ⊢
    exact ⟨B, Hs1, sl1, tp, _, R1.drop, p1, fun r v c Hs2 H2 sl2 nw R2 rr2 st2 hu2 p2 => hk r v c Hs2 H2 sl2 nw R2 rr2 (st1.trans st2 id) hu2 p2⟩
  | true =>
    simp only [br_t, if_true] at p1 ⊢
    exact hk ra v true Hs1 H1 sl1 nw1 R1 rr1 st1 hu (hu _ p1)
/-- a test that wants less -/
theorem LR.of {ix : List Nat} {w : St → (R → St → Prop) → Prop} {σ : L2.St} {H : Hp} {Q : Bool → Hp → Prop} {B : B0} {Hs : Hp} {sl tp : List TA} {P : Bool → St → Prop} (R0 : Rel X.K ⟨B, ix⟩ Hs H σ sl tp) (hw : w (TA.tl sl) fun r σ1 => truW r σ1 fun c => P c σ1)
    (hk : ∀ c Hs' H' sl', Rel X.K ⟨B, ix⟩ Hs' H' σ sl' tp → Stp pu H H' sl sl' → P c (TA.tl sl') → Q c H') : LR X ix pu w σ H Q :=
  ⟨B, Hs, sl, tp, fun _ c σ1 => P c σ1, R0, hw, fun r v c Hs' H' sl' nw R1 rr st _ hP => hk c Hs' H' sl' R1.drop st hP⟩
theorem le_ix {eo ei : Expr} {o i : E} (hs : noSlice ei = true) (ho : PEc X Γ eo o) (hi : PEc X Γ ei i) : PE X (.Subscript eo ei pos) (LE X Γ.pin pu (wE Γ pu (.ix o i))) := by
  refine ⟨fun pins s σ H Q I hw => ?_⟩
  obtain ⟨B, Hs, sl, tp, P, R0, hw, hk⟩ := hw
  rw [wE] at hw
  have hp : PlainIx ei := fun _ _ => by cases ei <;> first | rfl | (exact (Bool.noConfusion hs))
  exact Subscript_ (two (pb := fun _ => pu) (wb := fun _ => wE Γ pu i) (wb' := fun pu' => wE Γ pu' i) R0 hw hi I (ho pu) fun v u s2 x y H2 ra rb Hs2 sl2 nw1 nw2 I2 rx ry R2 r1 r2 st h => ix_W eo ei pins s2 σ H2 x y v u Q I2 rx ry ⟨σ, ⟨B, Γ.pin⟩, Hs2, sl2, tp, nw1, nw2, ra, rb, P, H, sl, pu, R2, r1, r2, st, h, hk⟩ (hp _ _))
end
abbrev PAc (X : Cx) (Γ : Ctx) (es : List Expr) (cs : List E) : Prop := ∀ pu, PA X es (LA X Γ.pin pu (wA Γ pu cs))
section
variable {X : Cx} {Γ : Ctx} {b : Blk} {k : Nat} {pos : Pos} {ea eb ec : Expr} {es : List Expr} {cs : List E} {p q r : E} {pu : Bool}
theorem lac_nil : PAc X Γ [] [] := fun pu => by
  have h := la_nil (X := X) (pu := pu) (ix := Γ.pin)
  refine ⟨fun pos pins s σ H Q I hw => h.run pos pins s σ H Q I ?_⟩
  obtain ⟨B, Hs, sl, tp, P, R0, hw, hk⟩ := hw
  rw [wA] at hw
  exact ⟨B, Hs, sl, tp, P, R0, hw, hk⟩
theorem lac_cons (hs : noStar ea = true) (ha : PEc X Γ ea p) (hr : PAc X Γ es cs) : PAc X Γ (ea :: es) (p :: cs) := fun pu => by
  have h := la_cons (ha pu) hr (star_of hs)
  refine ⟨fun pos pins s σ H Q I hw => h.run pos pins s σ H Q I ?_⟩
  obtain ⟨B, Hs, sl, tp, P, R0, hw, hk⟩ := hw
  rw [wA] at hw
  exact ⟨B, Hs, sl, tp, P, R0, hw, hk⟩
theorem le_lst (h : PAc X Γ es cs) : PE X (.List es pos) (LE X Γ.pin pu (wE Γ pu (.lst cs))) := by
  refine ⟨fun pins s σ H Q I hw => ?_⟩
  obtain ⟨B, Hs, sl, tp, P, R0, hw, hk⟩ := hw
  rw [wE] at hw
  refine (pe_lst (h pu)).run pins s σ H Q I ⟨B, Hs, sl, tp, _, R0, hw, fun rs vs Hs1 H1 sl1 nws R1 rr st1 p1 => ?_⟩
  obtain ⟨xs, Hs2, sl2, R2, e1, st2, hz, hp⟩ := toVs_ok R1 rr.weak p1
  refine ⟨by rw [← e1, List.length_map, ← tl_len]; exact hz, fun l hl => ?_⟩
  rw [← e1]
  exact Cont.lst hk R2 hl (st1.trans st2 id) hp
theorem leaves_none_or (ts : List TA) : (∃ xs, T.leaves (TA.tl ts) = some xs ∧ mkTup (TA.tl ts) = .d (.tuple xs)) ∨ mkTup (TA.tl ts) = .nd .tup (TA.tl ts) := by
  unfold mkTup
  cases e : T.leaves (TA.tl ts) with
  | none => exact .inr rfl
  | some xs => exact .inl ⟨xs, rfl, rfl⟩
theorem le_tup {j : Nat} (h : PAc X Γ es cs) : PE X (.Tuple es j pos) (LE X Γ.pin pu (wE Γ pu (.tup cs))) := by
  refine ⟨fun pins s σ H Q I hw => ?_⟩
  obtain ⟨B, Hs, sl, tp, P, R0, hw, hk⟩ := hw
  rw [wE] at hw
  refine (pe_tup (h pu)).run pins s σ H Q I ⟨B, Hs, sl, tp, _, R0, hw, fun rs vs Hs1 H1 sl1 nws R1 rr st1 p1 => ?_⟩
  obtain ⟨xs, Hs2, sl2, R2, e1, st2, hz, hp⟩ := toVs_ok R1 rr.weak p1
  refine ⟨by rw [← e1, List.length_map, ← tl_len]; exact hz, fun l hl => ?_⟩
  rw [← e1]
  rcases leaves_none_or xs with ⟨ds, hl2, e2⟩ | e2
  · rw [e2] at hp
    obtain ⟨f1, f2, f3⟩ := leaves_of hl2
    exact Cont.tup hk R2.drop hl (f3 (TA.okl_append.mp R2.okT).2) (st1.trans st2 id) hp
  · rw [e2] at hp
    exact Cont.node (k := .tup) hk R2 hl (show upd H1 l (.tup (xs.map TA.v)) l = some (.tup (xs.map TA.v)) from upd_same) (st1.trans st2 id) hp
theorem fn_some : ∀ {l : List (Str × FS)} {f : Str}, (l.map (·.1)).contains f = true → (l.lookup f).isSome = true
  | [], f, h => by simp at h
  | (g, x) :: l, f, h => by
    rw [List.map_cons, List.contains_cons, Bool.or_eq_true] at h
    rw [List.lookup_cons]
    cases e : f == g with
    | true => rfl
    | false =>
      refine fn_some (h.resolve_left fun z => ?_)
      rw [e] at z
      cases z
theorem le_call {f x : Str} {p0 : Pos} (C : CxOk X Γ b k) (hx : f = x) (hf : Γ.sk.fn.contains f = true) (hg : globB b.sc x = true) (hn : okNm x = true) (hst : (ea :: es).all noStar = true) (h : PAc X Γ (ea :: es) cs) : PE X (.Call (.Name x p0) (ea :: es) [] pos) (LE X Γ.pin pu (wE Γ pu (.call f cs))) := by
  subst hx
  refine ⟨fun pins s σ H Q I hw => ?_⟩
  obtain ⟨B, Hs, sl, tp, P, R0, hw, hk⟩ := hw
  rw [wE] at hw
  obtain ⟨fs, hfn⟩ := Option.isSome_iff_exists.mp (fn_some hf)
  obtain ⟨a, fd, ps, F, hm, hkp, hb⟩ := C.fns f fs hfn
  simp only [List.all_cons, Bool.and_eq_true] at hst
  refine (pe_callG F C.room C.gd (C.gl hg) hm hkp hb .nil pass0 (h pu) (okNm_of hn).1 (star_of hst.1) (stars_of hst.2)).run pins s σ H Q I ⟨B, Hs, sl, tp, _, R0, hw, fun rs vs Hs1 H1 sl1 nws R1 rr st1 p1 => ?_⟩
  rw [hfn] at p1
  rw [List.append_nil]
  exact call_ok R1 rr st1 p1 hk
theorem bltCall_of (C : CxOk X Γ b k) {nm x : Str} (h : bltCall Γ.sk b nm x = true) : nm = x ∧ Gl X x ∧ X.mg x = none ∧ (x == ("__debug__" : Str)) = false ∧ x ≠ "__name__" := by
  unfold bltCall at h
  simp only [Bool.and_eq_true, decide_eq_true_eq] at h
  obtain ⟨h1, _, h3⟩ := okNm_of h.2
  exact ⟨h.1.1.1, C.gl h.1.1.2, C.bi x ((by have := h.1.2; simpa [Ctx.sk] using this)), h1, h3⟩
theorem boot_blt {t : Blt} (ht : t ≠ .listRange) : bootBuiltins (bltNm t) = some (bltV t) := by
  cases t <;> first | exact absurd rfl ht | decide +kernel
theorem le_blt {t : Blt} {x : Str} {p0 : Pos} (C : CxOk X Γ b k) (ht : t ≠ .listRange) (hx : bltCall Γ.sk b (bltNm t) x = true) (hst : (ea :: es).all noStar = true) (h : PAc X Γ (ea :: es) cs) : PE X (.Call (.Name x p0) (ea :: es) [] pos) (LE X Γ.pin pu (wE Γ pu (.blt t cs))) := by
  obtain ⟨rfl, hg, hm, hd, hnm⟩ := bltCall_of C hx
  refine ⟨fun pins s σ H Q I hw => ?_⟩
  obtain ⟨B, Hs, sl, tp, P, R0, hw, hk⟩ := hw
  rw [wE] at hw
  simp only [List.all_cons, Bool.and_eq_true] at hst
  have hcr := call_bltW (X := X) (b := t) C.calm ht
  have hbt := boot_blt ht
  have rd : tCB (CaW X (bltW t)) (LA X Γ.pin pu (wA Γ pu cs)) σ H Q := ⟨B, Hs, sl, tp, _, R0, hw, fun rs vs Hs1 H1 sl1 nws R1 rr st1 p1 => ⟨σ, ⟨B, Γ.pin⟩, Hs1, sl1, tp, nws, rs, P, H, sl, pu, R1, rr, st1, p1, hk⟩⟩
  cases t <;> first
    | exact absurd rfl ht
    | exact (pe_callB hcr hg hm hbt (h pu) hnm hd (star_of hst.1) (stars_of hst.2)).run pins s σ H Q I rd
    | exact (pe_callTy hcr hg hm hbt (h pu) hnm hd (star_of hst.1) (stars_of hst.2)).run pins s σ H Q I rd
theorem le_listRange {x y : Str} {p0 p1 p2 : Pos} (C : CxOk X Γ b k) (hx : bltCall Γ.sk b "list" x = true) (hy : bltCall Γ.sk b "range" y = true) (hs : noStar ea = true) (h : PAc X Γ [ea] cs) (hcs : ∃ c, cs = [c] ∧ PEc X Γ ea c) : PE X (.Call (.Name x p0) [.Call (.Name y p1) [ea] [] p2] [] pos) (LE X Γ.pin pu (wE Γ pu (.blt .listRange cs))) := by
  obtain ⟨rfl, hg, hm, hd, hnm⟩ := bltCall_of C hx
  obtain ⟨rfl, hg2, hm2, _, _⟩ := bltCall_of C hy
  obtain ⟨c, rfl, hc⟩ := hcs
  refine ⟨fun pins s σ H Q I hw => ?_⟩
  obtain ⟨B, Hs, sl, tp, P, R0, hw, hk⟩ := hw
  rw [wE, wA] at hw
  refine (pe_listRg C.calm hg hm (prg_1 hg2 hm2 (hc pu) (star_of hs))).run pins s σ H Q I ⟨B, Hs, sl, tp, _, R0, hw, fun ra v Hs1 H1 sl1 nw1 R1 rr1 st1 p1 => ?_⟩
  rw [wA] at p1
  simp only [bltW, R.datas] at p1
  cases hd1 : ra.data (TA.tl sl1) with
  | none => rw [hd1] at p1; exact p1.elim
  | some d =>
    rw [hd1] at p1
    simp only at p1
    cases d with
    | int j =>
      have := (rr1.dp R1 hd1).int_v
      subst this
      obtain ⟨b1, b2, p1⟩ := p1
      refine ⟨j, rfl, ⟨by omega, by omega, by omega, by omega, by omega⟩, fun l hl => ?_⟩
      have e : rgV 0 j = ((List.range j.toNat).map fun n : Nat => (n : Int)).map V.int := by
        unfold rgV
        rw [List.map_map]
        simp
      rw [e]
      obtain ⟨g1, g2, g3, g4⟩ := leafs_ok (H := H1) (intLeafs (K := X.K) (Hs := Hs1) ((List.range j.toNat).map fun n : Nat => (n : Int)))
      have := Cont.lst hk (R1.drop.leaves g1 g2) hl st1 (by rw [g3, List.map_map, List.map_map]; exact p1)
      rw [g4] at this
      exact this
    | _ => exact p1.elim
end
section
variable {X : Cx} {Γ : Ctx} {b : Blk} {k : Nat} {pos : Pos} {ea eb ec : Expr} {es : List Expr} {cs : List E} {p q r : E} {pu : Bool}
theorem base_of {o : Expr} {nm : Str} {env : Env} (h : noCall o = true) : attributeBase o nm env (eval o env) = eval o env := by
  cases o with
  | Call f es ks p =>
    cases f with
    | Name x q =>
      cases es with
      | nil =>
        cases ks with
        | nil => exact (Bool.noConfusion h)
        | cons k ks => rfl
      | cons e es => rfl
    | _ => rfl
  | _ => rfl
theorem stars_all {env : Env} {pos : Pos} : ∀ {es : List Expr}, es.all noStar = true → (backTo pos (starEach es env)).all (fun x => !x.1) = true
  | [], _ => rfl
  | e :: es, h => by
    simp only [List.all_cons, Bool.and_eq_true] at h
    rw [star_of h.1]
    show (true && (backTo pos (starEach es env)).all (fun x => !x.1)) = true
    rw [stars_all h.2]
    rfl
theorem slot_noTupl {B : Bs} {Hs H : Hp} {σ : L2.St} {sl tp : List TA} {i : Nat} {q : List Nat} {t : TA} {a : Addr} {us : List TA} {K : PySem.W.Frag} (R1 : Rel K B Hs H σ sl tp) (h1 : sl[i]? = some t) (h2 : t.at q = some (.nd .list a us)) : TA.noTupl us = true ∧ TA.okl K Hs H us ∧ H a = some (.lst (us.map TA.v)) := by
  have n := TA.at_noTup q t _ h2 (R1.ntup t (List.mem_of_getElem? h1))
  rw [TA.noTup, Bool.and_eq_true] at n
  have o := TA.at_ok q t _ h2 (R1.slot_ok h1)
  rw [TA.ok] at o
  exact ⟨n.2, o.2, o.1⟩
theorem RRs.three {sl : List TA} {r r' r'' : R} {xs : List V} {nws : List (List TA)} (h : RRs sl [r, r', r''] xs nws) : ∃ x y z nw nw' nw'', xs = [x, y, z] ∧ nws = [nw, nw', nw''] ∧ RR r x sl nw ∧ RR r' y sl nw' ∧ RR r'' z sl nw'' := by
  cases h with
  | cons a b =>
    cases b with
    | cons c d =>
      cases d with
      | cons e f =>
        cases f
        exact ⟨_, _, _, _, _, _, rfl, rfl, a, c, e⟩
theorem okl_one {K : PySem.W.Frag} {Hs H : Hp} {x : TA} : TA.okl K Hs H [x] ↔ x.ok K Hs H := by rw [TA.okl, TA.okl]; simp
end
end VL
namespace VL
open PySem PySem.Spec PyProof.Rows L2
open AutoSeq1 (wpAny_loadPart')
theorem meets_enumerate_newT (l : Addr) (items : Array Value) (n : Nat) (dct : Option Addr) (sl : Array (Option Value)) :
    Meets (Builtin.«enumerate.__new__» ⟨[.type "enumerate", .ref l], []⟩) (fun _ R s => s.heap.get? l = some { cls := .type "tuple", dict := dct, data := .seq items n, slots := sl } ∧
      R (.ok (.ret (.ref (s.heap.push { cls := .type "tuple_iterator", data := .fields #[.ref l, .int 0 0] }).objs.size)))
        { s with heap := (s.heap.push { cls := .type "tuple_iterator", data := .fields #[.ref l, .int 0 0] }).push { cls := .type "enumerate", data := .fields #[.none, .bool false, .ref s.heap.objs.size, rawInt 0, .none, .none] } }) :=
  .of_wp fun prog w A R s h => by
    obtain ⟨hp, g, d, tk, os⟩ := s; obtain ⟨hl, h⟩ := h
    have hsub := sub_enumerate
    have hL : Heap.IsTuple (Shared.heap ⟨hp, g, d, tk, os⟩) l items := ⟨_, hl, rfl, n, rfl⟩
    wp_walk using wpAny_loadPart' hl
    refine wpAny_stack_any fun st => wpAny_pure ?_
    split
    · rename_i c _ _ _ _ _
      cases (c == Value.type "enumerate")
      · wp_walk using wpAny_loadPart' hl, wpAny_pyIter_tuple hL
        exact ⟨_, rfl, h⟩
      · wp_walk using wpAny_loadPart' hl, wpAny_pyIter_tuple hL
        exact ⟨_, rfl, h⟩
    · wp_walk using wpAny_loadPart' hl, wpAny_pyIter_tuple hL
      exact ⟨_, rfl, h⟩
section
variable {prog : Program} {w : World} {A : Around} {E : Value → Shared → Prop} {s : Shared}
theorem call_enumerate_tuple {l : Addr} {items : Array Value} {Q : Value → Shared → Prop} (hL : s.heap.IsTuple l items)
    (h : ∀ h', IsEnum h' (s.heap.objs.size + 1) s.heap.objs.size 0 .none → h'.IsTupleIter s.heap.objs.size l 0 → h'.objs.size = s.heap.objs.size + 2 →
      (∀ b o, s.heap.get? b = some o → h'.get? b = some o) → Q (.ref (s.heap.objs.size + 1)) { s with heap := h' }) :
    wpAny (model prog w) A (call (.type "enumerate") [.ref l]) Q E s := by
  obtain ⟨⟨c, dct, dt, sl⟩, hl, hc, n, hd⟩ := hL
  replace hc : c = .type "tuple" := hc
  replace hd : dt = .seq items n := hd
  subst hc hd
  refine callType_new F.called_enumerate (by decide) (F.typeCall_enumerate_1 _) (F.newCall_enumerate_1 _) (fun obj => F.args_object_init_2 obj _) F.entry_enumerate_new
    (meets_enumerate_newT l items n dct sl) ⟨hl, ?_⟩
  have hz : (s.heap.push { cls := .type "tuple_iterator", data := .fields #[.ref l, .int 0 0] }).objs.size = s.heap.objs.size + 1 := Heap.size_push ..
  show _ ∧ _
  rw [hz]
  have he : IsEnum ((s.heap.push { cls := .type "tuple_iterator", data := .fields #[.ref l, .int 0 0] }).push
      { cls := .type "enumerate", data := .fields #[.none, .bool false, .ref s.heap.objs.size, rawInt 0, .none, .none] }) (s.heap.objs.size + 1) s.heap.objs.size 0 .none := by
    have := Heap.get?_push_size (s.heap.push { cls := .type "tuple_iterator", data := .fields #[.ref l, .int 0 0] })
      (o := { cls := .type "enumerate", data := .fields #[.none, .bool false, .ref s.heap.objs.size, rawInt 0, .none, .none] }) rfl
    rw [hz] at this; exact this
  refine ⟨⟨_, he, rfl⟩, h _ he ⟨_, Heap.get?_push_of_some _ (Heap.get?_push_size _ rfl), rfl, rfl⟩ (by rw [Heap.size_push, hz]) fun b o x => Heap.get?_push_of_some _ (Heap.get?_push_of_some _ x)⟩
theorem enum_endT {e it l : Addr} {i : Nat} {items : Array Value} {old : Value} {Q : Option Value → Shared → Prop} (hh : A.handled = none)
    (he : IsEnum s.heap e it i old) (hit : s.heap.IsTupleIter it l i) (hl : s.heap.IsTuple l items) (hx : items[i]? = none)
    (hQ : ∀ h', Heap.ExtBut it s.heap h' → Q none { s with heap := h' }) : wpAny (model prog w) A (pyNext (.ref e)) Q E s := by
  have hT : s.TypeIs (.ref e) "enumerate" := ⟨_, he, rfl⟩
  unfold pyNext
  refine wpAny_bind (wpAny_attempt (wpAny_callSpecial?_slot (name := Str.ofString "__next__") hT F.slot_enumerate_next
    (wpAny_call_entry F.slot_enumerate_next hT F.entry_enumerate_next ?_ (F.args_enumerate_next_1 _))))
  show wpAny _ _ (field (.ref e) 2 >>= _) _ _ _
  refine wpAny_bind (wpAny_field he rfl (x := .ref it) rfl ?_)
  refine wpAny_bind (RZ.nextOf_tuple_end hh hit hl hx fun h' x he' hx' => ?_)
  obtain ⟨o, ho, hc⟩ := hx'
  refine wpAny_bind (wpAny_isInstance (T := "StopIteration") (b := true) ⟨o, ho, hc⟩ isSubtype_stop ?_)
  exact wpAny_pure (hQ _ he')
end
/-- the tuple at a, each item in a new pair -/
def IteT (K : PySem.W.Frag) (a : Addr) : It :=
  ⟨fun i H => ∃ (xs : List V) (x : V), SqT K H a xs ∧ xs[i]? = some x, fun i H v H' => ∃ T x, v = .ref T ∧ H T = none ∧ H' = upd H T (.tup [.int (i : Nat), x]) ∧ ∀ xs, SqT K H a xs → xs[i]? = some x, fun i H => ∃ xs : List V, SqT K H a xs ∧ xs.length ≤ i⟩
theorem turn_enumT {P : Program} {w : World} {K : PySem.W.Frag} {elts : List Expr} {kk : Nat} {tpos : Pos} (a e it : Addr) :
    Turn P w K (.Tuple elts kk tpos) (IteT K a) [e, it] e (fun i h => (∃ old, IsEnum h e it ((i : Nat) : Int) old) ∧ h.IsTupleIter it a i ∧ e ≠ it ∧ a ≠ e ∧ a ≠ it) where
  mem := by simp
  obj := fun i h st b hb => by
    obtain ⟨⟨old, he⟩, ⟨o, ho, hc, hd⟩, _⟩ := st
    have e' : b = e ∨ b = it := by simpa using hb
    rcases e' with z | z
    · rw [z]; exact ⟨_, he, fun v q => nomatch q⟩
    · rw [z]; exact ⟨o, ho, fun v q => by rw [hd] at q; cases q⟩
  keep := fun i h h' st k => let ⟨⟨old, he⟩, hi, hne⟩ := st; ⟨⟨old, k e (by simp) _ he⟩, hi.at fun o q => k it (by simp) o q, hne⟩
  item := by
    intro X hP hw hK hc i pins s σ H E I hf st hg
    subst hP hw hK
    obtain ⟨⟨old, he⟩, hit, hne, hae, hai⟩ := st
    obtain ⟨xs, x, hq, hx⟩ := hg
    obtain ⟨its, rv, p, hz⟩ := I.tuple hq
    obtain ⟨u, hu, ru⟩ := rv.get hx
    have p : s.heap.IsTuple a its.toArray := p
    have hel : e < s.heap.objs.size := Heap.lt_size he
    have hil : it < s.heap.objs.size := by obtain ⟨_, q, _⟩ := hit; exact Heap.lt_size q
    have hui : its.toArray[i]? = some u := by simpa using hu
    have hlt : i < its.toArray.size := (Array.getElem?_eq_some_iff.mp hui).1
    refine wpAny_pyNext_enum_itemD (Draws.tuple (A := X.A.in1) (show X.A.in1.handled = none from I.ok.hd hc) it a hai its.toArray) he ⟨hit, p⟩ hlt hne (by simp [hne, Ne.symm hae]) fun x' h' tk hx' ho st' hT hsz hk => ?_
    have ex : x' = u := Option.some.inj (hx'.symm.trans hui)
    subst ex
    refine ⟨_, rfl, wpAny_letOwnedTupleGo_enum (s := { s with heap := h', toks := tk + 1 }) ho fun h'' he' sb => ?_⟩
    have hT2 : h''.get? s.heap.objs.size = some { cls := .type "tuple", data := .seq #[.int i tk, x'] } := (sb.2 _ (Nat.ne_of_gt hel)).trans hT
    have new : ObjOk X.prog X.w (upd H s.heap.objs.size (.tup [.int (i : Nat), x])) h'' s.heap.objs.size (.tup [.int (i : Nat), x]) :=
      ⟨by show 2 ≤ sizeLine; decide, [.int i tk, x'], .cons ⟨_, rfl⟩ (.cons ru .nil), ⟨_, hT2, rfl, _, rfl⟩⟩
    have I1 : Inv X pins σ (upd H s.heap.objs.size (.tup [.int (i : Nat), x])) { s with heap := h'', toks := tk + 1 } :=
      I.turnedNew (ch := [e, it]) (fun b ob hb q => (sb.2 b (fun z => hb (by simp [z]))).trans (hk b ob (fun z => hb (by simp [z])) (fun z => hb (by simp [z])) q)) hf (Nat.le_refl _) new
    refine ⟨.ref s.heap.objs.size, _, I1, rfl, ⟨_, x, rfl, I.hok.fresh (Nat.le_refl _), rfl, fun ys hy => by rw [I.tuple_inj hy hq]; exact hx⟩, ⟨⟨x', ?_⟩, st'.1.at fun o q => (sb.2 it (Ne.symm hne)).trans q, hne, hae, hai⟩, fun b hb => ?_⟩
    · have e1 : ((i + 1 : Nat) : Int) = (i : Int) + 1 := by omega
      rw [e1]; exact he'
    · have hb' : b < s.heap.objs.size := by
        have e' : b = e ∨ b = it := by simpa using hb
        rcases e' with z | z
        · rw [z]; exact hel
        · rw [z]; exact hil
      rw [upd_ne (Nat.ne_of_lt hb')]
      exact (hf b hb).1
  done := by
    intro X hP hw hK hc i pins s σ H E I hf st hg
    subst hP hw hK
    obtain ⟨⟨old, he⟩, hit, hne, _⟩ := st
    obtain ⟨xs, hq, hx⟩ := hg
    obtain ⟨its, rv, p, hz⟩ := I.tuple hq
    obtain ⟨f0, f1, f2, f3, f4, f5⟩ := hf it (by simp)
    have hl := rv.length
    exact enum_endT (I.ok.hd hc) he hit (show s.heap.IsTuple a its.toArray from p) (by simp; omega) fun h' eb => ⟨rfl, I.turned (t' := s.toks) (fun b o hb q => eb b o hb q) f0 f1 f3 f4 f5⟩
  self := fun A i s Q E st h => let ⟨⟨_, he⟩, _⟩ := st; wpAny_pyIter_enum he h
def iEnum2 (K : PySem.W.Frag) (ta : L2.TA) : TI := fun σ H R => ta σ H fun vs H1 => ∃ a xs, vs = [.ref a] ∧ ((SqL K H1 a xs ∧ R (Ite K a) H1) ∨ (SqT K H1 a xs ∧ R (IteT K a) H1))
theorem pi_enum2 {X : Cx} {e : Expr} {ta : L2.TA} {p pos tpos : Pos} {elts : List Expr} {kk : Nat} (hg : Gl X "enumerate") (hm : X.mg "enumerate" = none) (ha : PA X [e] ta) (hs : starEach [e] X.env = [(false, eval e X.env)] := by rfl) :
    PI X (.Tuple elts kk tpos) (.Call (.Name "enumerate" p) [e] [] pos) (iEnum2 X.K ta) := by
  refine ⟨fun pins s σ H R I h => ?_⟩
  refine Call_ (ld_blt I hg hm boot_enumerate (PyProof.Rows.callWith_type1 (thn (ha.run pos pins s σ H _ I h) fun us s1 ⟨vs, H1, I1, r1, q1⟩ => ?_) hs rfl))
  obtain ⟨a, xs, ex, q1⟩ := q1
  subst ex
  cases r1 with
  | cons r rr =>
    cases rr
    cases r
    rcases q1 with ⟨hq, q⟩ | ⟨hq, q⟩
    · obtain ⟨its, rv, p', hz⟩ := I1.list hq
      refine call_enumerate_list p'.isList fun h' he hit hsz hk => wpAny_pyIter_enum he ?_
      have I2 : Inv X pins σ H1 { s1 with heap := h' } := I1.kept (t' := s1.toks) hk
      refine ⟨s1.heap.objs.size + 1, [s1.heap.objs.size + 1, s1.heap.objs.size], _, _, H1, rfl, I2, turn_enum a (s1.heap.objs.size + 1) s1.heap.objs.size, ⟨⟨.none, he⟩, hit, Nat.succ_ne_self _⟩, fun b hb => ?_, q⟩
      have e' : b = s1.heap.objs.size + 1 ∨ b = s1.heap.objs.size := by simpa using hb
      have hle : s1.heap.objs.size ≤ b := by
        rcases e' with z | z
        · rw [z]; exact Nat.le_add_right _ _
        · rw [z]; exact Nat.le_refl _
      exact I1.fpOk hle (I1.hok.fresh hle)
    · obtain ⟨its, rv, p', hz⟩ := I1.tuple hq
      have p' : s1.heap.IsTuple a its.toArray := p'
      have hal : a < s1.heap.objs.size := by obtain ⟨o, q, _⟩ := p'; exact Heap.lt_size q
      refine call_enumerate_tuple p' fun h' he hit hsz hk => wpAny_pyIter_enum he ?_
      have I2 : Inv X pins σ H1 { s1 with heap := h' } := I1.kept (t' := s1.toks) hk
      refine ⟨s1.heap.objs.size + 1, [s1.heap.objs.size + 1, s1.heap.objs.size], _, _, H1, rfl, I2, turn_enumT a (s1.heap.objs.size + 1) s1.heap.objs.size, ⟨⟨.none, he⟩, hit, Nat.succ_ne_self _, Nat.ne_of_lt (Nat.lt_succ_of_lt hal), Nat.ne_of_lt hal⟩, fun b hb => ?_, q⟩
      have e' : b = s1.heap.objs.size + 1 ∨ b = s1.heap.objs.size := by simpa using hb
      have hle : s1.heap.objs.size ≤ b := by
        rcases e' with z | z
        · rw [z]; exact Nat.le_add_right _ _
        · rw [z]; exact Nat.le_refl _
      exact I1.fpOk hle (I1.hok.fresh hle)
end VL
namespace VL
open PySem PySem.Spec PyProof.Rows L2
structure Walk (K : PySem.W.Frag) (J : It) (xs : List PyData) (Hq Hsq : Hp) : Prop where
  go : ∀ i H Hs, Same Hq H → Same Hsq Hs → Same Hs H → i < xs.length → J.go i H
  stop : ∀ i H Hs, Same Hq H → Same Hsq Hs → Same Hs H → xs.length ≤ i → J.stop i H
  yld : ∀ i H Hs v H' x, Same Hq H → Same Hsq Hs → Same Hs H → xs[i]? = some x → J.yld i H v H' → ∃ Hs', Same Hs Hs' ∧ Rp K Hs' v x ∧ Same H H' ∧ ∀ B σ sl tp, Rel K B Hs H σ sl tp → Rel K B Hs' H' σ sl tp
def H00 : Hp := fun _ => none
theorem same00 {H : Hp} : Same H00 H := fun _ _ h => by cases h
section
variable {K : PySem.W.Frag} {a : Addr} {vs : List V} {xs : List PyData} {Hq Hsq : Hp}
theorem walk_list (sq : ∀ H Hs, Same Hq H → Same Hsq Hs → Same Hs H → SqL K H a vs) (ha : RpAll K Hsq vs xs) : Walk K (Itl K a) xs Hq Hsq where
  go := fun i H Hs h1 h2 h3 hi => by
    have hl := ha.length
    exact ⟨vs, vs[i], sq H Hs h1 h2 h3, by simp [hl, hi]⟩
  stop := fun i H Hs h1 h2 h3 hi => ⟨vs, sq H Hs h1 h2 h3, by rw [ha.length]; exact hi⟩
  yld := fun i H Hs v H' x h1 h2 h3 hx hy => by
    obtain ⟨rfl, hy⟩ := hy
    obtain ⟨w, hw, dw⟩ := ha.get hx
    have : v = w := Option.some.inj ((hy vs (sq _ _ h1 h2 h3)).symm.trans hw)
    subst this
    exact ⟨Hs, Same.refl _, dw.mono h2, Same.refl _, fun _ _ _ _ R => R⟩
theorem walk_tup (sq : SqT K Hsq a vs) (ha : RpAll K Hsq vs xs) : Walk K (Itt K a) xs Hq Hsq where
  go := fun i H Hs h1 h2 h3 hi => by
    have hl := ha.length
    exact ⟨vs, vs[i], SqT.mono h3 (SqT.mono h2 sq), by simp [hl, hi]⟩
  stop := fun i H Hs h1 h2 h3 hi => ⟨vs, SqT.mono h3 (SqT.mono h2 sq), by rw [ha.length]; exact hi⟩
  yld := fun i H Hs v H' x h1 h2 h3 hx hy => by
    obtain ⟨rfl, hy⟩ := hy
    obtain ⟨w, hw, dw⟩ := ha.get hx
    have : v = w := Option.some.inj ((hy vs (SqT.mono h3 (SqT.mono h2 sq))).symm.trans hw)
    subst this
    exact ⟨Hs, Same.refl _, dw.mono h2, Same.refl _, fun _ _ _ _ R => R⟩
theorem strIt_len (x : Str) : (strIt x).length = x.cps.size := by simp [strIt]
theorem walk_str (x : Str) : Walk K (Its x) (strIt x) Hq Hsq where
  go := fun i H Hs h1 h2 h3 hi => by rw [strIt_len] at hi; exact hi
  stop := fun i H Hs h1 h2 h3 hi => by rw [strIt_len] at hi; exact hi
  yld := fun i H Hs v H' y h1 h2 h3 hx hy => by
    obtain ⟨rfl, c, hc, rfl⟩ := hy
    refine ⟨Hs, fun _ _ z => z, ?_, fun _ _ z => z, fun _ _ _ _ R => R⟩
    rw [strIt, List.getElem?_map, Array.getElem?_toList, hc] at hx
    cases hx
    exact .str _
theorem walk_rng (lo : Int) (n : Nat) : Walk K (Itr lo n) (rngL lo n) Hq Hsq where
  go := fun i H Hs _ _ _ hi => by show i < n; simpa [rngL] using hi
  stop := fun i H Hs _ _ _ hi => by show n ≤ i; simpa [rngL] using hi
  yld := fun i H Hs v H' x h1 h2 h3 hx hy => by
    obtain ⟨rfl, rfl⟩ := hy
    simp only [rngL, List.getElem?_map, Option.map_eq_some_iff] at hx
    obtain ⟨j, hj, rfl⟩ := hx
    have hin : i < n := by simpa using (List.getElem?_eq_some_iff.mp hj).1
    have : j = i := by
      rw [List.getElem?_range hin] at hj
      exact (Option.some.inj hj).symm
    subst this
    exact ⟨Hs, Same.refl _, .int _, Same.refl _, fun _ _ _ _ R => R⟩
theorem walk_rngC (lo c : Int) (n : Nat) : Walk K (Itc lo c n) (rngC lo c n) Hq Hsq where
  go := fun i H Hs _ _ _ hi => by show i < n; simpa [rngC] using hi
  stop := fun i H Hs _ _ _ hi => by show n ≤ i; simpa [rngC] using hi
  yld := fun i H Hs v H' x h1 h2 h3 hx hy => by
    obtain ⟨rfl, rfl⟩ := hy
    simp only [rngC, List.getElem?_map, Option.map_eq_some_iff] at hx
    obtain ⟨j, hj, rfl⟩ := hx
    have hin : i < n := by simpa using (List.getElem?_eq_some_iff.mp hj).1
    have : j = i := by
      rw [List.getElem?_range hin] at hj
      exact (Option.some.inj hj).symm
    subst this
    exact ⟨Hs, Same.refl _, .int _, Same.refl _, fun _ _ _ _ R => R⟩
theorem walk_enum (sq : ∀ H Hs, Same Hq H → Same Hsq Hs → Same Hs H → SqL K H a vs) (ha : RpAll K Hsq vs xs) : Walk K (Ite K a) (enumL xs) Hq Hsq where
  go := fun i H Hs h1 h2 h3 hi => by
    have hl := ha.length
    have hi : i < xs.length := by simpa [enumL] using hi
    exact ⟨vs, vs[i], sq H Hs h1 h2 h3, by simp [hl, hi]⟩
  stop := fun i H Hs h1 h2 h3 hi => ⟨vs, sq H Hs h1 h2 h3, by rw [ha.length]; simpa [enumL] using hi⟩
  yld := fun i H Hs v H' x h1 h2 h3 hx hy => by
    obtain ⟨T0, y, rfl, hn, rfl, hy⟩ := hy
    have hi : i < xs.length := by
      have := (List.getElem?_eq_some_iff.mp hx).1
      simpa [enumL] using this
    have hxi : xs[i]? = some xs[i] := List.getElem?_eq_getElem hi
    obtain ⟨w, hw, dw⟩ := ha.get hxi
    have : y = w := Option.some.inj ((hy vs (sq _ _ h1 h2 h3)).symm.trans hw)
    subst this
    have ex : x = .tuple [.int (i : Nat), xs[i]] := by
      simp only [enumL, List.getElem?_map, List.getElem?_range hi, Option.map_some, Option.some.injEq] at hx
      rw [← hx]
      simp [List.getD, hxi]
    subst ex
    have hsn : Hs T0 = none := h3.free hn
    refine ⟨upd Hs T0 (.tup [.int (i : Nat), y]), same_upd hsn, .tup (SqT.of upd_same) (.cons (.int _) (.cons ((dw.mono h2).mono (same_upd hsn)) .nil)), same_upd hn, fun B σ sl tp R => R.allocF hn _⟩
theorem walk_enumT (sq : SqT K Hsq a vs) (ha : RpAll K Hsq vs xs) : Walk K (IteT K a) (enumL xs) Hq Hsq where
  go := fun i H Hs h1 h2 h3 hi => by
    have hl := ha.length
    have hi : i < xs.length := by simpa [enumL] using hi
    exact ⟨vs, vs[i], SqT.mono h3 (SqT.mono h2 sq), by simp [hl, hi]⟩
  stop := fun i H Hs h1 h2 h3 hi => ⟨vs, SqT.mono h3 (SqT.mono h2 sq), by rw [ha.length]; simpa [enumL] using hi⟩
  yld := fun i H Hs v H' x h1 h2 h3 hx hy => by
    obtain ⟨T0, y, rfl, hn, rfl, hy⟩ := hy
    have hi : i < xs.length := by
      have := (List.getElem?_eq_some_iff.mp hx).1
      simpa [enumL] using this
    have hxi : xs[i]? = some xs[i] := List.getElem?_eq_getElem hi
    obtain ⟨w, hw, dw⟩ := ha.get hxi
    have : y = w := Option.some.inj ((hy vs (SqT.mono h3 (SqT.mono h2 sq))).symm.trans hw)
    subst this
    have ex : x = .tuple [.int (i : Nat), xs[i]] := by
      simp only [enumL, List.getElem?_map, List.getElem?_range hi, Option.map_some, Option.some.injEq] at hx
      rw [← hx]
      simp [List.getD, hxi]
    subst ex
    have hsn : Hs T0 = none := h3.free hn
    refine ⟨upd Hs T0 (.tup [.int (i : Nat), y]), same_upd hsn, .tup (SqT.of upd_same) (.cons (.int _) (.cons ((dw.mono h2).mono (same_upd hsn)) .nil)), same_upd hn, fun B σ sl tp R => R.allocF hn _⟩
theorem walk_zip {a' : Addr} {ws : List V} {ys : List PyData} (hl : xs.length = ys.length) (sq : ∀ H Hs, Same Hq H → Same Hsq Hs → Same Hs H → SqL K H a vs) (ha : RpAll K Hsq vs xs)
    (sq' : ∀ H Hs, Same Hq H → Same Hsq Hs → Same Hs H → SqL K H a' ws) (ha' : RpAll K Hsq ws ys) : Walk K (Itz K a a') (zipL xs ys) Hq Hsq where
  go := fun i H Hs h1 h2 h3 hi => by
    have l1 := ha.length
    have l2 := ha'.length
    have hi : i < xs.length := by simpa [zipL] using hi
    exact ⟨vs, ws, vs[i], ws[i], sq H Hs h1 h2 h3, sq' H Hs h1 h2 h3, by simp [l1, hi], by simp [l2, ← hl, hi]⟩
  stop := fun i H Hs h1 h2 h3 hi => ⟨vs, ws, sq H Hs h1 h2 h3, sq' H Hs h1 h2 h3, .inl (by rw [ha.length]; simpa [zipL] using hi)⟩
  yld := fun i H Hs v H' x h1 h2 h3 hx hy => by
    obtain ⟨T0, y, y', rfl, hn, rfl, hy, hy'⟩ := hy
    have hi : i < xs.length := by
      have := (List.getElem?_eq_some_iff.mp hx).1
      simpa [zipL] using this
    have hxi : xs[i]? = some xs[i] := List.getElem?_eq_getElem hi
    have hi' : i < ys.length := by omega
    have hyi : ys[i]? = some ys[i] := List.getElem?_eq_getElem hi'
    obtain ⟨w, hw, dw⟩ := ha.get hxi
    obtain ⟨w', hw', dw'⟩ := ha'.get hyi
    have : y = w := Option.some.inj ((hy vs (sq _ _ h1 h2 h3)).symm.trans hw)
    subst this
    have : y' = w' := Option.some.inj ((hy' ws (sq' _ _ h1 h2 h3)).symm.trans hw')
    subst this
    have ex : x = .tuple [xs[i], ys[i]] := by
      simp only [zipL, List.getElem?_map, List.getElem?_range hi, Option.map_some, Option.some.injEq] at hx
      rw [← hx]
      simp [List.getD, hxi, hyi]
    subst ex
    have hsn : Hs T0 = none := h3.free hn
    refine ⟨upd Hs T0 (.tup [y, y']), same_upd hsn, .tup (SqT.of upd_same) (.cons ((dw.mono h2).mono (same_upd hsn)) (.cons ((dw'.mono h2).mono (same_upd hsn)) .nil)), same_upd hn, fun B σ sl tp R => R.allocF hn _⟩
end
section
variable {X : Cx} {Γ : Ctx} {b : Blk} {k : Nat} {pos : Pos} {ea eb ec tg : Expr} {es : List Expr} {cs : List E} {p q r : E} {pu bor : Bool}
/-- a heap without its tables -/
def noTb (H : Hp) : Hp := fun a => match H a with
  | some (.tbl _) => none
  | o => o
theorem noTb_of {H : Hp} {a : Addr} {o : HO} (h : H a = some o) (n : ∀ ps, o ≠ .tbl ps) : noTb H a = some o := by
  unfold noTb
  rw [h]
  cases o with
  | tbl ps => exact absurd rfl (n ps)
  | _ => rfl
theorem noTb_some {H : Hp} {a : Addr} {o : HO} (h : noTb H a = some o) : H a = some o ∧ ∀ ps, o ≠ .tbl ps := by
  unfold noTb at h
  cases e : H a with
  | none => rw [e] at h; cases h
  | some u =>
    rw [e] at h
    cases u with
    | tbl ps => cases h
    | _ => cases h; exact ⟨rfl, fun ps z => by cases z⟩
theorem noTb_same {H H' : Hp} (h : LamX.ExtN H H') : Same (noTb H) H' := fun a o e => h a o (noTb_some e).1 (noTb_some e).2
def hqOf (bor : Bool) (H : Hp) : Hp := if bor then noTb H else H00
/-- the items of a list, for a loop -/
theorem seq_ok {K : PySem.W.Frag} {B : Bs} {Hs H : Hp} {σ : L2.St} {sl tp nw : List TA} {r : R} {v : V} {Kk : List PyData → St → Prop} (R1 : Rel K B Hs H σ sl (tp ++ nw)) (rr : RR r v sl nw) (h : seqW pu bor r (TA.tl sl) Kk) :
    ∃ a vs xs Hs' sl', v = .ref a ∧ Rel K B Hs' H σ sl' tp ∧ Stp pu H H sl sl' ∧ (∀ H2 Hs2, Same (hqOf bor H) H2 → Same Hs' Hs2 → Same Hs2 H2 → SqL K H2 a vs) ∧ SqL K H a vs ∧ RpAll K Hs' vs xs ∧ Kk xs (TA.tl sl') := by
  unfold seqW at h
  split at h
  · rename_i xs e
    have d := (rr.dpT R1 e).1
    cases d with
    | lst hr ha => exact ⟨_, _, xs, Hs, sl, rfl, R1.drop, .refl, fun H2 Hs2 _ h2 h3 => SqL.mono h3 (SqL.mono h2 hr), SqL.mono R1.sub hr, ha, h⟩
  · rename_i ts e
    obtain ⟨a, us, rfl, e3, e4, e5, e6, e7⟩ := rr.node R1 e
    cases bor with
    | true =>
      simp only at h
      split at h
      · rename_i xs hl
        rw [← e3] at hl
        obtain ⟨f1, f2, f3⟩ := leaves_of hl
        exact ⟨a, _, xs, Hs, sl, rfl, R1.drop, .refl, fun H2 Hs2 h1 _ _ => SqL.of (h1 _ _ (noTb_of e4 fun ps z => by cases z)), SqL.of e4, f3 e5, h⟩
      · exact h.elim
    | false =>
      simp only at h
      split at h
      · rename_i xs hd
        cases r with
        | v t0 =>
          have hnw := e6 rfl
          subst hnw
          have hd' : (TA.nd .list a us).t.data = some (.list xs) := by rw [TA.t, e3]; exact hd
          have R2 := R1.frzT hd'
          have ok := TA.okl_append.mp R1.okT
          have dp : Rp K (frzH Hs H (TA.nd .list a us).fp) (.ref a) (.list xs) := by
            have := okl_one.mp (TA.okl_append.mp R2.okT).2
            rw [TA.ok] at this
            exact this
          cases dp with
          | lst hr ha => exact ⟨a, _, xs, _, sl, rfl, R2.drop, .refl, fun H2 Hs2 _ h2 h3 => SqL.mono h3 (SqL.mono h2 hr), SqL.mono R2.sub hr, ha, h⟩
        | p i q =>
          obtain ⟨hpu, h⟩ := h
          subst hpu
          obtain ⟨t, g1, g2⟩ := e7 i q rfl
          have hd' : (TA.nd .list a us).t.data = some (.list xs) := by rw [TA.t, e3]; exact hd
          have R1' : Rel K B Hs H σ sl tp := R1.drop
          obtain ⟨R2, dp⟩ := R1'.frzP g1 g2 rfl hd'
          cases dp with
          | lst hr ha =>
            refine ⟨a, _, xs, _, _, rfl, R2, ⟨fun z => (by cases z), frz_live g1 g2 rfl⟩, fun H2 Hs2 _ h2 h3 => SqL.mono h3 (SqL.mono h2 hr), SqL.mono R2.sub hr, ha, ?_⟩
            rw [tl_putS g1]
            exact h
      · exact h.elim
  · exact h.elim
def LI (X : Cx) (ix : List Nat) (pu bor : Bool) (w : St → (List PyData → St → Prop) → Prop) : TI := fun σ H Rr => ∃ B Hs sl tp P, Rel X.K ⟨B, ix⟩ Hs H σ sl tp ∧ w (TA.tl sl) P ∧
  ∀ J xs Hs' H' sl', Rel X.K ⟨B, ix⟩ Hs' H' σ sl' tp → Walk X.K J xs (hqOf bor H') Hs' → Stp pu H H' sl sl' → P xs (TA.tl sl') → Rr J H'
theorem iter_list {pins : List (Addr × Obj)} {s1 : Shared} {σ : L2.St} {H1 : Hp} {Rr : It → Hp → Prop} {a : Addr} {xs : List V} {E : Value → Shared → Prop} (I1 : Inv X pins σ H1 s1) (hq : SqL X.K H1 a xs) (q : Rr (Itl X.K a) H1) : wpAny (model X.prog X.w) X.A (pyIter (.ref a)) (PIE X pins σ tg Rr) E s1 := by
  obtain ⟨its, rv, p, hz⟩ := I1.list hq
  refine wpAny_pyIter_list p.isList ?_
  refine ⟨s1.heap.objs.size, [s1.heap.objs.size], _, _, H1, rfl, I1.kept (t' := s1.toks) fun b o e => Heap.get?_push_of_some _ e, turn_list a _, ⟨_, Heap.get?_push_size _ rfl, rfl, rfl⟩, fun b hb => ?_, q⟩
  have e : b = s1.heap.objs.size := by simpa using hb
  subst e
  exact I1.fpOk (Nat.le_refl _) (I1.hok.fresh (Nat.le_refl _))
theorem iter_tup {pins : List (Addr × Obj)} {s1 : Shared} {σ : L2.St} {H1 : Hp} {Rr : It → Hp → Prop} {a : Addr} {xs : List V} {E : Value → Shared → Prop} (I1 : Inv X pins σ H1 s1) (hq : SqT X.K H1 a xs) (q : Rr (Itt X.K a) H1) : wpAny (model X.prog X.w) X.A (pyIter (.ref a)) (PIE X pins σ tg Rr) E s1 := by
  obtain ⟨its, rv, p, hz⟩ := I1.tuple hq
  refine wpAny_pyIter_tuple (show s1.heap.IsTuple a its.toArray from p) ?_
  refine ⟨s1.heap.objs.size, [s1.heap.objs.size], _, _, H1, rfl, I1.kept (t' := s1.toks) fun b o e => Heap.get?_push_of_some _ e, turn_tuple a _, ⟨_, Heap.get?_push_size _ rfl, rfl, rfl⟩, fun b hb => ?_, q⟩
  have e : b = s1.heap.objs.size := by simpa using hb
  subst e
  exact I1.fpOk (Nat.le_refl _) (I1.hok.fresh (Nat.le_refl _))
theorem iter_str {pins : List (Addr × Obj)} {s1 : Shared} {σ : L2.St} {H1 : Hp} {Rr : It → Hp → Prop} {x : Str} {v : Value} {E : Value → Shared → Prop} (I1 : Inv X pins σ H1 s1) (rx : RelV (.str x) v) (q : Rr (Its x) H1) : wpAny (model X.prog X.w) X.A (pyIter v) (PIE X pins σ tg Rr) E s1 := by
  obtain ⟨t, rfl⟩ := rx
  cases ha : x.cps.all (· < 128)
  · exact wpAny_pyIter_wide ha (pi_one (tk := s1.toks) I1 _ (turn_str _ x t "str_iterator" (.inr rfl)) ⟨_, Heap.get?_push_size _ rfl, rfl, rfl⟩ q)
  · exact wpAny_pyIter_ascii ha (pi_one (tk := s1.toks) I1 _ (turn_str _ x t "str_ascii_iterator" (.inl rfl)) ⟨_, Heap.get?_push_size _ rfl, rfl, rfl⟩ q)
abbrev wIt (Γ : Ctx) (pu bor : Bool) (it : ItK) (cs : List E) : St → (List PyData → St → Prop) → Prop := fun σ K => wA Γ pu cs σ fun rs σ1 => itW pu bor it rs σ1 K
theorem li_e {c : E} (h : PEc X Γ ea c) : PI X tg ea (LI X Γ.pin pu bor (wIt Γ pu bor .e [c])) := by
  refine ⟨fun pins s σ H Rr I hw => ?_⟩
  obtain ⟨B, Hs, sl, tp, P, R0, hw, hk⟩ := hw
  simp only [wIt, wA] at hw
  refine one R0 hw I (h pu) fun v s1 x H1 ra Hs1 sl1 nw1 I1 rx R1 r1 st h => ?_
  simp only [itW] at h
  split at h
  · rename_i xs e
    have d := (r1.dpT R1 e).1
    cases d with
    | tup hr ha =>
      cases rx
      exact iter_tup I1 (SqT.mono R1.sub hr) (hk _ xs Hs1 H1 sl1 R1.drop (walk_tup hr ha) st h)
  · rename_i x0 e
    have d := (r1.dpT R1 e).2.str_v
    subst d
    exact iter_str I1 rx (hk _ _ Hs1 H1 sl1 R1.drop (walk_str x0) st h)
  · obtain ⟨a, vs, xs, Hs2, sl2, rfl, R2, st2, sq, sq1, ha, hP⟩ := seq_ok R1 r1 h
    cases rx
    exact iter_list I1 sq1 (hk _ xs Hs2 H1 sl2 R2 (walk_list sq ha) (st.trans st2 id) hP)
theorem li_rng1 {x : Str} {p0 : Pos} (C : CxOk X Γ b k) (hx : bltCall Γ.sk b "range" x = true) (hs : noStar ea = true) (h : PAc X Γ [ea] cs) : PI X tg (.Call (.Name x p0) [ea] [] pos) (LI X Γ.pin pu bor (wIt Γ pu bor .rng1 cs)) := by
  obtain ⟨rfl, hg, hm, _, _⟩ := bltCall_of C hx
  refine ⟨fun pins s σ H Rr I hw => ?_⟩
  obtain ⟨B, Hs, sl, tp, P, R0, hw, hk⟩ := hw
  refine (pi_range1 hg hm (h pu) (star_of hs)).run pins s σ H Rr I ⟨B, Hs, sl, tp, _, R0, hw, fun rs vs Hs1 H1 sl1 nws R1 rr st1 p1 => ?_⟩
  cases rs with
  | nil => exact p1.elim
  | cons r rs =>
  cases rs with
  | cons _ _ => exact p1.elim
  | nil =>
    obtain ⟨x, nw, rfl, rfl, r1⟩ := rr.one
    have R2 : Rel X.K ⟨B, Γ.pin⟩ Hs1 H1 σ sl1 (tp ++ nw) := by simpa using R1
    simp only [itW] at p1
    split at p1
    · rename_i j e
      obtain ⟨⟨b1, b2⟩, p1⟩ := p1
      have := (r1.dpT R2 e).2.int_v
      subst this
      exact ⟨j, rfl, b1, b2, hk _ _ Hs1 H1 sl1 R2.drop (walk_rng 0 _) st1 p1⟩
    · exact p1.elim
theorem li_rng2 {x : Str} {p0 : Pos} (C : CxOk X Γ b k) (hx : bltCall Γ.sk b "range" x = true) (hs : noStar ea = true) (hs2 : noStar eb = true) (h : PAc X Γ [ea, eb] cs) : PI X tg (.Call (.Name x p0) [ea, eb] [] pos) (LI X Γ.pin pu bor (wIt Γ pu bor .rng2 cs)) := by
  obtain ⟨rfl, hg, hm, _, _⟩ := bltCall_of C hx
  refine ⟨fun pins s σ H Rr I hw => ?_⟩
  obtain ⟨B, Hs, sl, tp, P, R0, hw, hk⟩ := hw
  refine (pi_range2 hg hm (h pu) (by rw [star_of hs, star_of hs2]; rfl) (star_of hs2)).run pins s σ H Rr I ⟨B, Hs, sl, tp, _, R0, hw, fun rs vs Hs1 H1 sl1 nws R1 rr st1 p1 => ?_⟩
  cases rs with
  | nil => exact p1.elim
  | cons r rs =>
  cases rs with
  | nil => exact p1.elim
  | cons r' rs =>
  cases rs with
  | cons _ _ => exact p1.elim
  | nil =>
    obtain ⟨x, y, nw, nw', rfl, rfl, r1, r2⟩ := rr.two
    have R2 : Rel X.K ⟨B, Γ.pin⟩ Hs1 H1 σ sl1 ((tp ++ nw) ++ nw') := by simpa using R1
    simp only [itW] at p1
    split at p1
    · rename_i i j e1 e2
      obtain ⟨⟨b1, b2⟩, ⟨b3, b4⟩, p1⟩ := p1
      have := (r1.dpT R2.drop e1).2.int_v
      subst this
      have := (r2.dpT R2 e2).2.int_v
      subst this
      exact ⟨i, j, rfl, ⟨b1, b2, b3, b4⟩, hk _ _ Hs1 H1 sl1 R2.drop.drop (walk_rng i _) st1 p1⟩
    · exact p1.elim
theorem li_rng3 {x : Str} {p0 : Pos} (C : CxOk X Γ b k) (hx : bltCall Γ.sk b "range" x = true) (hs : noStar ea = true) (hs2 : noStar eb = true) (hs3 : noStar ec = true) (h : PAc X Γ [ea, eb, ec] cs) : PI X tg (.Call (.Name x p0) [ea, eb, ec] [] pos) (LI X Γ.pin pu bor (wIt Γ pu bor .rng3 cs)) := by
  obtain ⟨rfl, hg, hm, _, _⟩ := bltCall_of C hx
  refine ⟨fun pins s σ H Rr I hw => ?_⟩
  obtain ⟨B, Hs, sl, tp, P, R0, hw, hk⟩ := hw
  refine (pi_range3 hg hm (h pu) (star_of hs) (stars_of (by simp [hs2, hs3]))).run pins s σ H Rr I ⟨B, Hs, sl, tp, _, R0, hw, fun rs vs Hs1 H1 sl1 nws R1 rr st1 p1 => ?_⟩
  cases rs with
  | nil => exact p1.elim
  | cons r rs =>
  cases rs with
  | nil => exact p1.elim
  | cons r' rs =>
  cases rs with
  | nil => exact p1.elim
  | cons r'' rs =>
  cases rs with
  | cons _ _ => exact p1.elim
  | nil =>
    obtain ⟨x, y, z, nw, nw', nw'', rfl, rfl, r1, r2, r3⟩ := rr.three
    have R2 : Rel X.K ⟨B, Γ.pin⟩ Hs1 H1 σ sl1 (((tp ++ nw) ++ nw') ++ nw'') := by simpa using R1
    simp only [itW] at p1
    split at p1
    · rename_i i j e1 e2 e3
      obtain ⟨⟨b1, b2⟩, ⟨b3, b4⟩, p1⟩ := p1
      have := (r1.dpT R2.drop.drop e1).2.int_v
      subst this
      have := (r2.dpT R2.drop e2).2.int_v
      subst this
      have := (r3.dpT R2 e3).2.int_v
      subst this
      exact ⟨i, j, -1, _, rfl, RgC.neg b1 b2 b3 b4, hk _ _ Hs1 H1 sl1 R2.drop.drop.drop (walk_rngC i (-1) _) st1 p1⟩
    · rename_i i j c _ e1 e2 e3
      obtain ⟨n, hn, p1⟩ := p1
      have := (r1.dpT R2.drop.drop e1).2.int_v
      subst this
      have := (r2.dpT R2.drop e2).2.int_v
      subst this
      have := (r3.dpT R2 e3).2.int_v
      subst this
      exact ⟨i, j, c, n, rfl, hn, hk _ _ Hs1 H1 sl1 R2.drop.drop.drop (walk_rngC i c _) st1 p1⟩
    · exact p1.elim
theorem li_rrng {x y : Str} {p0 p1 p2 : Pos} {c : E} (C : CxOk X Γ b k) (hx : bltCall Γ.sk b "reversed" x = true) (hy : bltCall Γ.sk b "range" y = true) (hs : noStar ea = true) (h : PEc X Γ ea c) : PI X tg (.Call (.Name x p0) [.Call (.Name y p1) [ea] [] p2] [] pos) (LI X Γ.pin pu bor (wIt Γ pu bor .rrng [c])) := by
  obtain ⟨rfl, hg, hm, _, _⟩ := bltCall_of C hx
  obtain ⟨rfl, hg2, hm2, _, _⟩ := bltCall_of C hy
  refine ⟨fun pins s σ H Rr I hw => ?_⟩
  obtain ⟨B, Hs, sl, tp, P, R0, hw, hk⟩ := hw
  simp only [wIt, wA] at hw
  refine (pi_revR hg hm (prg_1 hg2 hm2 (h pu) (star_of hs)) (star_of rfl)).run pins s σ H Rr I ⟨B, Hs, sl, tp, _, R0, hw, fun ra v Hs1 H1 sl1 nw1 R1 rr1 st1 p1 => ?_⟩
  simp only [itW] at p1
  split at p1
  · rename_i j e
    obtain ⟨⟨b1, b2⟩, p1⟩ := p1
    have := (rr1.dpT R1 e).2.int_v
    subst this
    refine ⟨j, rfl, by omega, by omega, b1, b2, ?_⟩
    have e : (Itc (0 + (((j - 0).toNat : Nat) : Int) - 1) (-1) (j - 0).toNat) = Itc ((j.toNat : Int) - 1) (-1) j.toNat := by simp
    rw [e]
    exact hk _ _ Hs1 H1 sl1 R1.drop (walk_rngC _ (-1) _) st1 p1
  · exact p1.elim
theorem li_enum {x : Str} {p0 tpos : Pos} {elts : List Expr} {kk : Nat} (C : CxOk X Γ b k) (hx : bltCall Γ.sk b "enumerate" x = true) (hs : noStar ea = true) (h : PAc X Γ [ea] cs) : PI X (.Tuple elts kk tpos) (.Call (.Name x p0) [ea] [] pos) (LI X Γ.pin pu bor (wIt Γ pu bor .enum cs)) := by
  obtain ⟨rfl, hg, hm, _, _⟩ := bltCall_of C hx
  refine ⟨fun pins s σ H Rr I hw => ?_⟩
  obtain ⟨B, Hs, sl, tp, P, R0, hw, hk⟩ := hw
  refine (pi_enum2 hg hm (h pu) (star_of hs)).run pins s σ H Rr I ⟨B, Hs, sl, tp, _, R0, hw, fun rs vs Hs1 H1 sl1 nws R1 rr st1 p1 => ?_⟩
  cases rs with
  | nil => exact p1.elim
  | cons r rs =>
  cases rs with
  | cons _ _ => exact p1.elim
  | nil =>
    obtain ⟨x, nw, rfl, rfl, r1⟩ := rr.one
    have R2 : Rel X.K ⟨B, Γ.pin⟩ Hs1 H1 σ sl1 (tp ++ nw) := by simpa using R1
    simp only [itW] at p1
    split at p1
    · rename_i ys e1
      have d1 := (r1.dpT R2 e1).1
      cases d1 with
      | tup q1 a1 =>
        have R3 := R2.drop
        exact ⟨_, _, rfl, .inr ⟨SqT.mono R3.sub q1, hk _ _ Hs1 H1 sl1 R3 (walk_enumT q1 a1) st1 p1⟩⟩
    · obtain ⟨a, vs, xs, Hs2, sl2, rfl, R3, st2, sq, sq1, ha, hP⟩ := seq_ok R2 r1 p1
      exact ⟨a, vs, rfl, .inl ⟨sq1, hk _ _ Hs2 H1 sl2 R3 (walk_enum sq ha) (st1.trans st2 id) hP⟩⟩
theorem li_zip {x : Str} {p0 tpos : Pos} {elts : List Expr} {kk : Nat} (C : CxOk X Γ b k) (hx : bltCall Γ.sk b "zip" x = true) (hs : noStar ea = true) (hs2 : noStar eb = true) (h : PAc X Γ [ea, eb] cs) : PI X (.Tuple elts kk tpos) (.Call (.Name x p0) [ea, eb] [] pos) (LI X Γ.pin pu bor (wIt Γ pu bor .zip cs)) := by
  obtain ⟨rfl, hg, hm, _, _⟩ := bltCall_of C hx
  refine ⟨fun pins s σ H Rr I hw => ?_⟩
  obtain ⟨B, Hs, sl, tp, P, R0, hw, hk⟩ := hw
  refine (RZ.pi_zipA hg hm (h pu) (star_of hs) (stars_of (by simp [hs2]))).run pins s σ H Rr I ⟨B, Hs, sl, tp, _, R0, hw, fun rs vs Hs1 H1 sl1 nws R1 rr st1 p1 => ?_⟩
  cases rs with
  | nil => exact p1.elim
  | cons r rs =>
  cases rs with
  | nil => exact p1.elim
  | cons r' rs =>
  cases rs with
  | cons _ _ => exact p1.elim
  | nil =>
    obtain ⟨x, y, nw, nw', rfl, rfl, r1, r2⟩ := rr.two
    have R2 : Rel X.K ⟨B, Γ.pin⟩ Hs1 H1 σ sl1 ((tp ++ nw) ++ nw') := by simpa using R1
    simp only [itW] at p1
    split at p1
    · rename_i xs ys e1 e2
      obtain ⟨hl, p1⟩ := p1
      have d1 := (r1.dpT R2.drop e1).1
      have d2 := (r2.dpT R2 e2).1
      cases d1 with
      | lst q1 a1 =>
      cases d2 with
      | lst q2 a2 =>
        have R3 := R2.drop.drop
        exact ⟨_, _, _, _, rfl, .inl ⟨SqL.mono R3.sub q1, SqL.mono R3.sub q2, hk _ _ Hs1 H1 sl1 R3 (walk_zip hl (fun H2 Hs2 _ h2 h3 => SqL.mono h3 (SqL.mono h2 q1)) a1 (fun H2 Hs2 _ h2 h3 => SqL.mono h3 (SqL.mono h2 q2)) a2) st1 p1⟩⟩
    · exact p1.elim
end
section
variable {X : Cx} {Γ : Ctx} {b : Blk} {k : Nat} {pos : Pos} {ix : List Nat}
/-- an item given to its names -/
def LG (X : Cx) (ix : List Nat) (is : List Nat) : TG := fun v σ H Q => ∃ B Hs sl tp x σ1, Rel X.K ⟨B, ix⟩ Hs H σ sl tp ∧ Rp X.K Hs v x ∧ bindD is x (TA.tl sl) = some σ1 ∧ (∀ i ∈ is, i ∉ ix) ∧
  ∀ σ' sl', Rel X.K ⟨B, ix⟩ Hs H σ' sl' tp → TA.tl sl' = σ1 → (∀ j, j ∉ is → σ'[j]? = σ[j]? ∧ sl'[j]? = sl[j]?) → σ'.length = σ.length → Q σ' H
def LGs (X : Cx) (ix : List Nat) (is : List Nat) : TGs := fun vs σ H Q => ∃ B Hs sl tp xs σ1, Rel X.K ⟨B, ix⟩ Hs H σ sl tp ∧ RpAll X.K Hs vs xs ∧ setsD is xs (TA.tl sl) = some σ1 ∧ (∀ i ∈ is, i ∉ ix) ∧
  ∀ σ' sl', Rel X.K ⟨B, ix⟩ Hs H σ' sl' tp → TA.tl sl' = σ1 → (∀ j, j ∉ is → σ'[j]? = σ[j]? ∧ sl'[j]? = sl[j]?) → σ'.length = σ.length → Q σ' H
theorem lg_name {i : Nat} {x : Str} (C : CxOk X Γ b k) (h : tgB b i x = true) : PG X (.Name x pos) (gName i) := by
  unfold tgB at h
  simp only [Bool.and_eq_true, decide_eq_true_eq] at h
  obtain ⟨h1, h2⟩ := C.loc h.2
  exact pg_name (by rw [C.N]; exact C.nd) (by rw [C.N]; exact h.1) h1 h2
theorem set_leaf {K : PySem.W.Frag} {B : Bs} {Hs H : Hp} {σ : L2.St} {sl tp : List TA} {i : Nat} {v : V} {x : PyData} (R0 : Rel K B Hs H σ sl tp) (dp : Rp K Hs v x) (hi : i < (TA.tl sl).length) (hn : i ∉ B.ix) : Rel K B Hs H (σ.set i (some v)) (sl.set i (.d v x)) tp ∧ TA.tl (sl.set i (.d v x)) = (TA.tl sl).set i (.d x) :=
  ⟨(R0.leaf dp).setS (by rw [tl_len] at hi; exact hi) hn rfl, by rw [tl_set, TA.t]⟩
theorem lgs_ok (C : CxOk X Γ b k) : ∀ {is : List Nat} {es : List Expr}, tgsB b is es = true → PGs X es (LGs X ix is)
  | [], [], _ => ⟨fun pins s σ H vs us Q I r h => by
      obtain ⟨B, Hs, sl, tp, xs, σ1, R0, dp, hs, _, hk⟩ := h
      cases xs with
      | nil =>
        rw [setsD] at hs
        cases hs
        cases dp
        exact pgs_nil.run pins s σ H [] us Q I r ⟨rfl, hk σ sl R0 rfl (fun _ _ => ⟨rfl, rfl⟩) rfl⟩
      | cons _ _ => simp [setsD] at hs⟩
  | [], _ :: _, h => by simp [tgsB] at h
  | i :: is, [], h => by simp [tgsB] at h
  | i :: is, e :: es, h => by
    cases e <;> first | (exact (Bool.noConfusion h)) | skip
    rename_i x pos
    simp only [tgsB, Bool.and_eq_true] at h
    have ih := lgs_ok C h.2
    refine ⟨fun pins s σ H vs us Q I r hw => ?_⟩
    obtain ⟨B, Hs, sl, tp, xs, σ1, R0, dp, hs, hn, hk⟩ := hw
    cases xs with
    | nil => simp [setsD] at hs
    | cons d ds =>
      cases dp with
      | cons d1 d2 =>
        rw [setsD] at hs
        split at hs
        · rename_i hi
          obtain ⟨R1, e1⟩ := set_leaf R0 d1 hi (hn i (by simp))
          refine (pgs_cons (lg_name C h.1) ih rfl).run pins s σ H _ us Q I r ⟨_, _, rfl, B, Hs, _, tp, ds, σ1, R1, d2, by rw [e1]; exact hs, fun j hj => hn j (List.mem_cons_of_mem _ hj), fun σ' sl' R2 e2 f2 l2 => ?_⟩
          refine hk σ' sl' R2 e2 (fun j hj => ?_) (by rw [l2, List.length_set])
          obtain ⟨f3, f4⟩ := f2 j fun z => hj (List.mem_cons_of_mem _ z)
          rw [f3, f4, List.getElem?_set_ne fun z => hj (by rw [z]; exact List.mem_cons_self), List.getElem?_set_ne fun z => hj (by rw [z]; exact List.mem_cons_self)]
          exact ⟨rfl, rfl⟩
        · cases hs
theorem tgs_each {env : Env} : ∀ {is : List Nat} {es : List Expr}, tgsB b is es = true → (assignEach es env).length = is.length ∧ (assignEach es env).findIdx? (·.1) = none
  | [], [], _ => ⟨rfl, rfl⟩
  | [], _ :: _, h => by simp [tgsB] at h
  | i :: is, [], h => by simp [tgsB] at h
  | i :: is, e :: es, h => by
    cases e <;> first | (exact (Bool.noConfusion h)) | skip
    rename_i x pos
    simp only [tgsB, Bool.and_eq_true] at h
    obtain ⟨h1, h2⟩ := tgs_each (env := env) h.2
    refine ⟨by show (assignEach es env).length + 1 = _; rw [h1]; rfl, ?_⟩
    show List.findIdx? (·.1) ((false, _) :: assignEach es env) = none
    rw [List.findIdx?_cons]
    simp only [Bool.false_eq_true, if_false]
    rw [h2]
    rfl
theorem setsD_len : ∀ {is : List Nat} {xs : List PyData} {σ σ1 : St}, setsD is xs σ = some σ1 → is.length = xs.length
  | [], [], _, _, _ => rfl
  | [], _ :: _, _, _, h => by simp [setsD] at h
  | _ :: _, [], _, _, h => by simp [setsD] at h
  | i :: is, x :: xs, σ, σ1, h => by
    rw [setsD] at h
    split at h
    · rw [List.length_cons, List.length_cons, setsD_len h]
    · cases h
theorem lg_ok {tg : Expr} {is : List Nat} (C : CxOk X Γ b k) (h : targB b is tg = true) : PG X tg (LG X ix is) := by
  unfold targB at h
  split at h
  · rename_i i x p
    refine ⟨fun pins s σ H v u Q I r hw => ?_⟩
    obtain ⟨B, Hs, sl, tp, d, σ1, R0, dp, hs, hn, hk⟩ := hw
    simp only [bindD, setsD] at hs
    split at hs
    · rename_i hi
      cases hs
      obtain ⟨R1, e1⟩ := set_leaf R0 dp hi (hn i (by simp))
      refine (lg_name C h).run pins s σ H v u Q I r (hk _ _ R1 e1 (fun j hj => ?_) (by rw [List.length_set]))
      rw [List.getElem?_set_ne fun z => hj (by simp [z]), List.getElem?_set_ne fun z => hj (by simp [z])]
      exact ⟨rfl, rfl⟩
    · cases hs
  · rename_i i j is es n p
    obtain ⟨t1, t2⟩ := tgs_each (env := X.env) h
    refine ⟨fun pins s σ H v u Q I r hw => ?_⟩
    obtain ⟨B, Hs, sl, tp, d, σ1, R0, dp, hs, hn, hk⟩ := hw
    unfold bindD at hs
    split at hs
    · rename_i heq
      cases heq
    · cases dp with
      | tup hr ha =>
        simp only at hs
        exact (pg_tup C.calm (lgs_ok (ix := ix) C h) t1 t2).run pins s σ H _ u Q I r ⟨_, _, rfl, SqT.mono R0.sub hr, by rw [ha.length, ← setsD_len hs], B, Hs, sl, tp, _, σ1, R0, ha, hs, hn, hk⟩
      | _ => simp at hs
  · cases h
end
def wipeA (sl : List TA) : List Nat → List TA
  | [] => sl
  | v :: vs => (wipeA sl vs).set v (.dead .non)
theorem wipeA_out {sl : List TA} {i : Nat} : ∀ {is : List Nat}, i ∉ is → (wipeA sl is)[i]? = sl[i]?
  | [], _ => rfl
  | v :: vs, h => by
    unfold wipeA
    rw [List.getElem?_set_ne fun z => h (by rw [z]; exact List.mem_cons_self), wipeA_out fun z => h (List.mem_cons_of_mem _ z)]
theorem tl_wipe (sl : List TA) : ∀ is : List Nat, TA.tl (wipeA sl is) = wipeT (TA.tl sl) is
  | [] => rfl
  | v :: vs => by unfold wipeA wipeT; rw [tl_set, tl_wipe sl vs, TA.t]
theorem wipe_in {σ : L2.St} {j : Nat} : ∀ {vs : List Nat}, j ∈ vs → j < σ.length → (wipe σ vs)[j]? = some none
  | [], h, _ => by simp at h
  | v :: vs, h, hl => by
    unfold wipe
    by_cases hv : v = j
    · subst hv
      rw [List.getElem?_set_self (by rw [wipe_length]; exact hl)]
    · rw [List.getElem?_set_ne hv]
      exact wipe_in (by rcases List.mem_cons.mp h with z | z; exact absurd z.symm hv; exact z) hl
section
variable {K : PySem.W.Frag} {B : Bs} {Hs H Hs' H' : Hp} {σ σ2 : L2.St} {sl sl2 tp : List TA}
theorem hide_all (R : Rel K B Hs H σ sl tp) : ∀ {is : List Nat}, is.Nodup → (∀ i ∈ is, i < sl.length ∧ i ∉ B.ix) → Rel K B Hs H (wipe σ is) (wipeA sl is) (tp ++ is.map fun i => sl.getD i (.dead .non))
  | [], _, _ => by simpa [wipe, wipeA] using R
  | i :: is, hn, hi => by
    have ih := hide_all R (List.nodup_cons.mp hn).2 fun j hj => hi j (List.mem_cons_of_mem _ hj)
    have hni := (List.nodup_cons.mp hn).1
    obtain ⟨h1, h2⟩ := hi i List.mem_cons_self
    have g : (wipeA sl is)[i]? = some (sl.getD i (.dead .non)) := by
      rw [wipeA_out hni, List.getD_eq_getElem?_getD, List.getElem?_eq_getElem h1]
      rfl
    have R2 := ih.hide (σ' := wipe σ (i :: is)) g h2 (by rw [wipe_length, wipe_length]) (fun j hj => by
      show ((wipe σ is).set i none)[j]? = _
      rw [List.getElem?_set_ne (Ne.symm hj)])
    refine R2.perm ?_
    rw [List.append_assoc]
    exact List.Perm.append_left _ List.perm_append_comm
theorem unhide_all : ∀ {is : List Nat} {hid : List TA} {σ2 : L2.St} {sl2 : List TA}, Rel K B Hs' H' σ2 sl2 (tp ++ hid) → hid.length = is.length → is.Nodup → (∀ i ∈ is, i < sl2.length ∧ i ∉ B.ix) → (∀ t ∈ hid, t.noTup = true) → σ2.length = σ.length → (∀ j, j ∉ is → σ2[j]? = σ[j]?) → (∀ (n : Nat) i t, is[n]? = some i → hid[n]? = some t → t.isDead = false → σ[i]? = some (some t.v)) →
    ∃ sl3, Rel K B Hs' H' σ sl3 tp ∧ sl3 = (is.zip hid).foldl (fun s p => s.set p.1 p.2) sl2
  | [], hid, σ2, sl2, R, hl, _, _, _, hσ, ho, _ => by
    cases hid with
    | cons _ _ => simp at hl
    | nil =>
      have : σ2 = σ := List.ext_getElem? fun j => ho j (by simp)
      subst this
      exact ⟨sl2, by simpa using R, rfl⟩
  | i :: is, hid, σ2, sl2, R, hl, hn, hi, hnt, hσ, ho, hv => by
    cases hid with
    | nil => simp at hl
    | cons t hid =>
      obtain ⟨h1, h2⟩ := hi i List.mem_cons_self
      have hni := (List.nodup_cons.mp hn).1
      have R1 : Rel K B Hs' H' σ2 sl2 ((tp ++ hid) ++ [t]) := R.perm (by
        rw [List.append_assoc]
        exact List.Perm.append_left _ (List.perm_append_comm (l₁ := [t]) (l₂ := hid)))
      have hiσ : i < σ.length := by rw [← hσ, ← R.len]; exact h1
      have R2 := R1.unhide (σ := σ2.set i (σ[i]'hiσ)) h1 h2 (hnt t (by simp)) (by rw [List.length_set]) (fun j hj => by rw [List.getElem?_set_ne (Ne.symm hj)]) (fun hd => by
        rw [List.getElem?_set_self (by rw [hσ]; exact hiσ)]
        have := hv 0 i t rfl rfl hd
        rw [List.getElem?_eq_getElem hiσ] at this
        exact this)
      obtain ⟨sl3, R3, e3⟩ := unhide_all (is := is) (hid := hid) (σ2 := σ2.set i (σ[i]'hiσ)) (sl2 := sl2.set i t) R2 (by simpa using hl) (List.nodup_cons.mp hn).2 (fun j hj => by rw [List.length_set]; exact hi j (List.mem_cons_of_mem _ hj)) (fun u hu => hnt u (List.mem_cons_of_mem _ hu)) (by rw [List.length_set]; exact hσ) (fun j hj => by
        by_cases hji : j = i
        · subst hji
          rw [List.getElem?_set_self (by rw [hσ]; exact hiσ), List.getElem?_eq_getElem hiσ]
        · rw [List.getElem?_set_ne (Ne.symm hji)]
          exact ho j fun z => by
            rcases List.mem_cons.mp z with z | z
            · exact hji z
            · exact hj z) (fun n j u h1 h2 h3 => hv (n + 1) j u (by simpa using h1) (by simpa using h2) h3)
      exact ⟨sl3, R3, e3⟩
/-- a temporary list gets one more item -/
theorem Rel.app {a : Addr} {us : List TA} {x : TA} (R : Rel K B Hs H σ sl (tp ++ [.nd .list a us, x])) : Rel K B Hs (upd H a (.lst ((us ++ [x]).map TA.v))) σ sl (tp ++ [.nd .list a (us ++ [x])]) := by
  have e1 : TA.fpl (sl ++ (tp ++ [.nd .list a us, x])) = TA.fpl (sl ++ tp) ++ (a :: (TA.fpl us ++ x.fp)) := by
    rw [← List.append_assoc, TA.fpl_append (sl ++ tp), TA.fpl, TA.fpl, TA.fpl, TA.fp]
    simp
  have e2 : TA.fpl (sl ++ (tp ++ [.nd .list a (us ++ [x])])) = TA.fpl (sl ++ tp) ++ (a :: (TA.fpl us ++ x.fp)) := by
    rw [← List.append_assoc, TA.fpl_append (sl ++ tp), fpl_one, TA.fp, TA.fpl_append us, fpl_one]
  have uq := R.uq
  rw [e1] at uq
  have ha : a ∉ TA.fpl (sl ++ tp) := fun z => by
    rw [List.nodup_append] at uq
    exact uq.2.2 a z a List.mem_cons_self rfl
  have ha2 : a ∉ TA.fpl us ++ x.fp := by
    rw [List.nodup_append] at uq
    exact (List.nodup_cons.mp uq.2.1).1
  have okr : TA.okl K Hs H (sl ++ tp) := by
    have := R.ok
    rw [← List.append_assoc] at this
    exact (TA.okl_append.mp this).1
  have okn := (TA.okl_append.mp R.okT).2
  rw [TA.okl, TA.ok, TA.okl, TA.okl] at okn
  have hA : ∀ z ∈ TA.fpl (sl ++ (tp ++ [.nd .list a (us ++ [x])])), z ∈ TA.fpl (sl ++ (tp ++ [.nd .list a us, x])) := fun z hz => by rw [e1]; rw [e2] at hz; exact hz
  have hain : a ∈ TA.fpl (sl ++ (tp ++ [.nd .list a us, x])) := by rw [e1]; simp
  refine ⟨R.len, R.val, ?_, by rw [e2]; exact uq, fun z hz => R.out z (hA z hz), fun z o hz => ?_, fun z o h1 h2 => ?_, fun z hz => R.fresh z (hA z hz), R.hs, R.hsNew, R.ntup, R.pin, R.tab.to (fun c ps e => by rw [upd_ne (show c ≠ a from fun z => TA.fpl_tbl _ R.ok a hain ps (by rw [← z]; exact e))]; exact e) (fun c q e => e) R.tab.n, R.tabB⟩
  · rw [← List.append_assoc]
    refine TA.okl_append.mpr ⟨TA.okl_mono (Same.refl _) _ okr fun z hz => upd_ne fun e => ha (e ▸ hz), okl_one.mpr ?_⟩
    rw [TA.ok]
    refine ⟨show upd H a (.lst ((us ++ [x]).map TA.v)) a = some (.lst ((us ++ [x]).map TA.v)) from upd_same, TA.okl_append.mpr ⟨TA.okl_mono (Same.refl _) _ okn.1.2 fun z hz => upd_ne fun e => ha2 (e ▸ List.mem_append_left _ hz), okl_one.mpr (TA.ok_mono (Same.refl _) x okn.2.1 fun z hz => upd_ne fun e => ha2 (e ▸ List.mem_append_right _ hz))⟩⟩
  · rw [upd_ne fun e => ?_]
    · exact R.sub z o hz
    · subst e
      rw [R.out z hain] at hz
      cases hz
  · rw [upd_ne fun e => ?_]
    · exact R.keep z o h1 h2
    · subst e
      rcases R.fresh z hain with y | y
      · exact h2 y
      · rw [h1] at y; cases y
/-- the begin of a loop: what is shared stays shared -/
theorem Rel.reB {b0 : B0} {ix : List Nat} (R : Rel K ⟨b0, ix⟩ Hs H σ sl tp) : Rel K ⟨{ b0 with Hs0 := Hs }, ix⟩ Hs H σ sl tp :=
  ⟨R.len, R.val, R.ok, R.uq, R.out, R.sub, R.keep, R.fresh, Same.refl _, fun a h => .inl h, R.ntup, R.pin, R.tab, R.tabB⟩
theorem Rel.unB {b0 : B0} {ix : List Nat} {Hs1 H1 : Hp} {σ1 : L2.St} {sl1 tp1 : List TA} (R1 : Rel K ⟨b0, ix⟩ Hs1 H1 σ1 sl1 tp1) (R : Rel K ⟨{ b0 with Hs0 := Hs1 }, ix⟩ Hs H σ sl tp) : Rel K ⟨b0, ix⟩ Hs H σ sl tp :=
  ⟨R.len, R.val, R.ok, R.uq, R.out, R.sub, R.keep, R.fresh, R1.hs.trans R.hs, fun a h => (R.hsNew a h).elim (fun z => R1.hsNew a z) .inr, R.ntup, R.pin, R.tab, R.tabB⟩
end
theorem CxOk.blk {X : Cx} {Γ : Ctx} {b : Blk} {k : Nat} (C : CxOk X Γ b k) (s : Shared) (H : Hp) (scope : Scope) (cl : List (Str × Addr)) (C0 : Addr) (fp : List Addr) : CxOk (X.blk s H scope (compEnvC scope cl C0 X.env) fp) Γ (blkOf b scope) k :=
  ⟨C.N, by show relS scope X.env.scope = relS scope b.sc; rw [C.sc], C.calm, C.room, C.gd, C.nd, fun x h => (Bool.and_eq_true_iff.mp h).1, C.glob, C.bi, C.fns, C.cls, C.xfns, C.xcls, C.xc, C.rm2, C.pms, C.xo, C.wd, fun h => by
    have z := (Bool.and_eq_true_iff.mp h).2
    simp at z⟩
theorem restT_fold {σ0 : St} : ∀ {is : List Nat} {hid : List TA} {sl2 : List TA}, hid.length = is.length → (∀ (n : Nat) i t, is[n]? = some i → hid[n]? = some t → t.t = σ0.getD i .dead) → TA.tl ((is.zip hid).foldl (fun s p => s.set p.1 p.2) sl2) = restT σ0 is (TA.tl sl2)
  | [], hid, sl2, hl, _ => by cases hid with | nil => rfl | cons _ _ => simp at hl
  | i :: is, hid, sl2, hl, h => by
    cases hid with
    | nil => simp at hl
    | cons t hid =>
      rw [List.zip_cons_cons, List.foldl_cons, restT_fold (by simpa using hl) (fun n i t h1 h2 => h (n + 1) i t (by simpa using h1) (by simpa using h2)), restT, tl_set, h 0 i t rfl rfl]
section
variable {X : Cx} {Γ : Ctx} {b : Blk} {k : Nat} {pos : Pos} {pu : Bool}
theorem lc_read {is : List Nat} {bor : Bool} {elt : E} {it : ItK} {ies cond : List E} {tg : Expr} {ifs : List Expr} {scope : Scope} (C : CxOk X Γ b k) (hfree : ∀ i ∈ is, i ∉ Γ.pin) (hnd : is.Nodup) (hown : (ownOf b.N is).map (·.2) = is)
    (hc : (ifs = [] ∧ cond = []) ∨ (∃ ec c, ifs = [ec] ∧ cond = [c] ∧ ∀ X', CxOk X' Γ (blkOf b scope) k → PTc X' Γ ec c)) : ∃ tt : TT, (∀ X', CxOk X' Γ (blkOf b scope) k → X'.K = X.K → PTs X' ifs tt) ∧ ∀ (σ : L2.St) (H : Hp) (Q : VK), σ.length = X.N.length → LE X Γ.pin pu (wE Γ pu (.lc is bor elt it ies cond)) σ H Q →
    tLc (LI X Γ.pin pu bor (wIt Γ pu bor it ies)) (LG X Γ.pin is) tt (LE X Γ.pin (pu || bor) (wE Γ (pu || bor) elt)) ((ownOf b.N is).map (·.2)) σ H Q := by
  -- the test
  obtain ⟨tt, htt, hcond⟩ : ∃ tt : TT, (∀ X', CxOk X' Γ (blkOf b scope) k → X'.K = X.K → PTs X' ifs tt) ∧ ∀ (B : B0) Hs H σ sl tp (P : Bool → St → Prop) (Q : Bool → Hp → Prop), Rel X.K ⟨B, Γ.pin⟩ Hs H σ sl tp → wC Γ (pu || bor) cond (TA.tl sl) P → (∀ c Hs' H' sl', Rel X.K ⟨B, Γ.pin⟩ Hs' H' σ sl' tp → Stp (pu || bor) H H' sl sl' → P c (TA.tl sl') → Q c H') → tt σ H Q := by
    rcases hc with ⟨rfl, rfl⟩ | ⟨ec, c, rfl, rfl, hc⟩
    · refine ⟨tYes, fun X' _ _ => pts_nil, fun B Hs H σ sl tp P Q R0 hw hk => ?_⟩
      rw [wC] at hw
      exact hk true Hs H sl R0 .refl hw
    · refine ⟨LR X Γ.pin (pu || bor) (wE Γ (pu || bor) c), fun X' C' eK => ?_, fun B Hs H σ sl tp P Q R0 hw hk => ?_⟩
      · have : LR X' Γ.pin (pu || bor) (wE Γ (pu || bor) c) = LR X Γ.pin (pu || bor) (wE Γ (pu || bor) c) := by unfold LR; rw [eK]
        rw [← this]
        exact pts_one (hc X' C' (pu || bor))
      · rw [wC] at hw
        exact LR.of R0 hw.2 hk
  refine ⟨tt, htt, fun σ H Q hlen hw => ?_⟩
  obtain ⟨B, Hs, sl, tp, P, R0, hw, hk⟩ := hw
  rw [wE] at hw
  have hlt : ∀ i ∈ is, i < b.N.length := fun i h => by
    rw [← hown] at h
    obtain ⟨p, hp, rfl⟩ := List.mem_map.mp h
    unfold ownOf at hp
    obtain ⟨j, hj, e⟩ := List.mem_filterMap.mp hp
    obtain ⟨x, hx, e2⟩ := Option.map_eq_some_iff.mp e
    subst e2
    exact (List.getElem?_eq_some_iff.mp hx).1
  have hσN : σ.length = b.N.length := by rw [hlen, C.N]
  refine ⟨B, Hs, sl, tp, _, R0, hw, fun J xs Hs1 H1 sl1 R1 wk st1 hP D hD => ?_⟩
  rw [hown]
  have hsl1 : sl1.length = b.N.length := by rw [R1.len]; exact hσN
  let Pv : Nat → Hp → Prop := fun i H => ∃ Hs sl acc, Rel X.K ⟨{ B with Hs0 := Hs1 }, Γ.pin⟩ Hs H σ sl (tp ++ [.nd .list D acc]) ∧ Stp (pu || bor) H1 H sl1 sl ∧ (∀ i ∈ is, (TA.tl sl)[i]? = (TA.tl sl1)[i]?) ∧
    lcW is (TA.tl sl1) (fun σ3 Q => wC Γ (pu || bor) cond σ3 Q) (fun σ3 Q => wE Γ (pu || bor) elt σ3 fun r σ4 => toV (pu || bor) r σ4 Q) (xs.drop i) (TA.tl acc) (TA.tl sl) fun acc σ3 => P (.v (.nd .list acc)) σ3
  refine ⟨fun i m H => m = xs.length - i ∧ i ≤ xs.length ∧ Pv i H, ⟨xs.length, by simp, Nat.zero_le _, Hs1, sl1, [], ?_, ⟨fun _ => ⟨rfl, LamX.ExtN.of (same_upd hD)⟩, fun i t h1 h2 => ⟨t, h1, h2⟩⟩, fun _ _ => rfl, hP⟩, ?_⟩
  · exact (Rel.allocO (k := .list) (ts := []) (by simpa using R1.reB) hD (show upd H1 D (.lst []) D = some (.lst []) from upd_same))
  rintro i m H2 ⟨rfl, hle, Hs2, sl2, acc, R2, st2, hsame, hl⟩
  have hq : Same (hqOf bor H1) H2 := by
    unfold hqOf
    split
    · rename_i hb
      exact noTb_same (st2.pure (by rw [hb]; simp)).2
    · exact same00
  have hs12 : Same Hs1 Hs2 := R2.hs
  by_cases hlt2 : i < xs.length
  · refine .inr ⟨wk.go i H2 Hs2 hq hs12 R2.sub hlt2, Pv (i + 1), fun H' p => ⟨xs.length - (i + 1), by omega, rfl, hlt2, p⟩, fun v H3 hy => ?_⟩
    have hx : xs[i]? = some xs[i] := List.getElem?_eq_getElem hlt2
    obtain ⟨Hs3, s23, dp, sH, hR⟩ := wk.yld i H2 Hs2 v H3 xs[i] hq hs12 R2.sub hx hy
    have R3 := hR _ _ _ _ R2
    rw [List.drop_eq_getElem_cons hlt2, lcW] at hl
    have hsl2 : sl2.length = b.N.length := by rw [R2.len]; exact hσN
    have R4 := hide_all R3 hnd (fun j hj => ⟨by rw [hsl2]; exact hlt j hj, hfree j hj⟩)
    rw [← tl_wipe] at hl
    generalize hh : bindD is xs[i] (TA.tl (wipeA sl2 is)) = oo at hl
    cases oo with
    | none => exact hl.elim
    | some σ1 =>
      simp only at hl
      have hhid : ∀ (n : Nat) (j : Nat) (t : TA), is[n]? = some j → (is.map fun i => sl2.getD i (TA.dead V.non))[n]? = some t → sl2[j]? = some t := fun n j t h1 h2 => by
        rw [List.getElem?_map, h1] at h2
        simp only [Option.map_some, Option.some.injEq] at h2
        rw [← h2, List.getD_eq_getElem?_getD, List.getElem?_eq_getElem (by rw [hsl2]; exact hlt j (List.mem_of_getElem? h1))]
        rfl
      -- the hidden ones are put back
      have fin : ∀ (Hs5 H5 : Hp) (σ5 : L2.St) (slb sl5 acc5 : List TA), Rel X.K ⟨{ B with Hs0 := Hs1 }, Γ.pin⟩ Hs5 H5 σ5 sl5 ((tp ++ [.nd .list D acc5]) ++ is.map fun i => sl2.getD i (.dead .non)) → (∀ j, j ∉ is → σ5[j]? = σ[j]?) → σ5.length = σ.length → (∀ j, j ∉ is → slb[j]? = sl2[j]?) → ((pu || bor) = true → sl5 = slb ∧ LamX.ExtN H1 H5) → (∀ (j : Nat) t, slb[j]? = some t → t.isDead = false → ∃ t', sl5[j]? = some t' ∧ t'.isDead = false) →
          lcW is (TA.tl sl1) (fun σ3 Q => wC Γ (pu || bor) cond σ3 Q) (fun σ3 Q => wE Γ (pu || bor) elt σ3 fun r σ4 => toV (pu || bor) r σ4 Q) (xs.drop (i + 1)) (TA.tl acc5) (restT (TA.tl sl1) is (TA.tl sl5)) (fun acc σ3 => P (.v (.nd .list acc)) σ3) → Pv (i + 1) H5 := by
        intro Hs5 H5 σ5 slb sl5 acc5 R5 hσ5 hσl hslb hpure hlive hl5
        have hsl5 : sl5.length = b.N.length := by rw [R5.len, hσl]; exact hσN
        obtain ⟨sl6, R6, e6⟩ := unhide_all R5 (by simp) hnd (fun j hj => ⟨by rw [hsl5]; exact hlt j hj, hfree j hj⟩) (fun t ht => by
          obtain ⟨j, hj, rfl⟩ := List.mem_map.mp ht
          rw [List.getD_eq_getElem?_getD, List.getElem?_eq_getElem (by rw [hsl2]; exact hlt j hj)]
          exact R2.ntup _ (List.getElem_mem _)) hσl hσ5 (fun n j t h1 h2 hd => R2.val j t (hhid n j t h1 h2) hd)
        have fo : ∀ (l : List (Nat × TA)) (s : List TA) (j : Nat), (∀ p ∈ l, p.1 ≠ j) → (l.foldl (fun s p => s.set p.1 p.2) s)[j]? = s[j]? := by
          intro l
          induction l with
          | nil => intro s j _; rfl
          | cons p l ih =>
            intro s j hp
            rw [List.foldl_cons, ih _ _ fun q hq => hp q (List.mem_cons_of_mem _ hq), List.getElem?_set_ne (hp p List.mem_cons_self)]
        have fo2 : ∀ (is : List Nat) (f : Nat → TA) (s : List TA) (j : Nat), is.Nodup → j ∈ is → j < s.length → ((is.zip (is.map f)).foldl (fun s p => s.set p.1 p.2) s)[j]? = some (f j) := by
          intro is
          induction is with
          | nil => intro f s j _ h; simp at h
          | cons m is ih =>
            intro f s j hn hj hlen
            rw [List.map_cons, List.zip_cons_cons, List.foldl_cons]
            by_cases hm : j = m
            · subst hm
              rw [fo _ _ _ fun p hp => ?_, List.getElem?_set_self hlen]
              intro z
              have := (List.of_mem_zip (a := p.1) (b := p.2) hp).1
              rw [z] at this
              exact (List.nodup_cons.mp hn).1 this
            · exact ih f _ j (List.nodup_cons.mp hn).2 (by rcases List.mem_cons.mp hj with z | z; exact absurd z hm; exact z) (by rw [List.length_set]; exact hlen)
        have g6in : ∀ j ∈ is, sl6[j]? = sl2[j]? := fun j hj => by
          rw [e6, fo2 is _ _ j hnd hj (by rw [hsl5]; exact hlt j hj), List.getD_eq_getElem?_getD, List.getElem?_eq_getElem (by rw [hsl2]; exact hlt j hj)]
          rfl
        have g6out : ∀ j, j ∉ is → sl6[j]? = sl5[j]? := fun j hj => by
          rw [e6]
          exact fo _ _ _ fun p hp z => hj (z ▸ (List.of_mem_zip (a := p.1) (b := p.2) hp).1)
        have e7 : TA.tl sl6 = restT (TA.tl sl1) is (TA.tl sl5) := by
          rw [e6]
          refine restT_fold (by simp) fun n j t h1 h2 => ?_
          have h3 := hhid n j t h1 h2
          have h4 := hsame j (List.mem_of_getElem? h1)
          rw [tl_get, h3] at h4
          rw [List.getD_eq_getElem?_getD, ← h4]
          rfl
        refine ⟨Hs5, sl6, acc5, R6, ⟨fun hp => ?_, fun j t h1 h2 => ?_⟩, fun j hj => ?_, by rw [e7]; exact hl5⟩
        · obtain ⟨p1, p2⟩ := hpure hp
          refine ⟨?_, p2⟩
          rw [← (st2.pure hp).1]
          apply List.ext_getElem?
          intro j
          by_cases hj : j ∈ is
          · exact g6in j hj
          · rw [g6out j hj, p1, hslb j hj]
        · obtain ⟨t2, k1, k2⟩ := st2.live j t h1 h2
          by_cases hj : j ∈ is
          · exact ⟨t2, by rw [g6in j hj]; exact k1, k2⟩
          · rw [g6out j hj]
            exact hlive j t2 (by rw [hslb j hj]; exact k1) k2
        · rw [tl_get, g6in j hj, ← tl_get]
          exact hsame j hj
      refine ⟨{ B with Hs0 := Hs1 }, Hs3, wipeA sl2 is, _, xs[i], σ1, R4, dp, hh, hfree, fun σb slb Rb eb fb lb => ?_⟩
      have hσb : ∀ j, j ∉ is → σb[j]? = σ[j]? := fun j hj => by rw [(fb j hj).1, wipe_out hj]
      have hσbl : σb.length = σ.length := by rw [lb, wipe_length]
      have hslb : ∀ j, j ∉ is → slb[j]? = sl2[j]? := fun j hj => by rw [(fb j hj).2, wipeA_out hj]
      refine ⟨?_, hcond _ Hs3 H3 σb slb _ _ _ Rb (by rw [eb]; exact hl) fun c Hs4 H4 sl4 R4' st4 p4 => ?_⟩
      · apply List.ext_getElem?
        intro j
        by_cases hj : j ∈ is
        · by_cases hjl : j < σ.length
          · rw [wipe_in hj hjl, wipe_in hj (by rw [hσbl]; exact hjl)]
          · rw [List.getElem?_eq_none (by rw [wipe_length, hσbl]; omega), List.getElem?_eq_none (by rw [wipe_length]; omega)]
        · rw [wipe_out hj, wipe_out hj, hσb j hj]
      · cases c with
        | false =>
          simp only [br_f, Bool.false_eq_true, if_false] at p4 ⊢
          exact fin Hs4 H4 σb slb sl4 acc R4' hσb hσbl hslb (fun hp => ⟨(st4.pure hp).1, (st2.pure hp).2.trans ((LamX.ExtN.of sH).trans (st4.pure hp).2)⟩) st4.live p4
        | true =>
          simp only [br_t, if_true] at p4 ⊢
          refine ⟨_, Hs4, sl4, _, _, R4', p4, fun r y Hs5 H5 sl5 nw R5 rr st5 p5 => ?_⟩
          obtain ⟨x, Hs6, sl6, R6, xv, xd, st6, ⟨hz, hl6⟩, _⟩ := toV_ok (rest := []) (by rw [List.append_nil]; exact R5) rr.weak p5
          rw [List.append_nil] at R6
          have R7 := R6.perm (tp' := (tp ++ is.map fun i => sl2.getD i (.dead .non)) ++ [.nd .list D acc, x]) (by
            have : ((tp ++ [TA.nd .list D acc]) ++ (is.map fun i => sl2.getD i (TA.dead V.non)) ++ [x]).Perm ((tp ++ (is.map fun i => sl2.getD i (TA.dead V.non))) ++ [TA.nd .list D acc] ++ [x]) := by
              refine List.Perm.append_right _ ?_
              rw [List.append_assoc, List.append_assoc]
              exact List.Perm.append_left _ List.perm_append_comm
            refine this.trans ?_
            rw [List.append_assoc _ [TA.nd .list D acc] [x]]
            exact List.Perm.refl _)
          have hDn : H5 D = some (.lst (acc.map TA.v)) := by
            have := (TA.okl_append.mp R7.okT).2
            rw [TA.okl, TA.ok] at this
            exact this.1.1
          have R8 := R7.app
          have R9 := R8.perm (tp' := (tp ++ [.nd .list D (acc ++ [x])]) ++ is.map fun i => sl2.getD i (.dead .non)) (by
            rw [List.append_assoc, List.append_assoc]
            exact List.Perm.append_left _ List.perm_append_comm)
          have eM : (acc ++ [x]).map TA.v = acc.map TA.v ++ [y] := by rw [List.map_append, List.map_cons, List.map_nil, xv]
          rw [eM] at R9
          refine ⟨acc.map TA.v, hDn, by rw [List.length_map, ← tl_len]; exact hz, ?_⟩
          have st46 := (st4.trans (pu' := pu || bor) st5 id).trans (pu' := pu || bor) st6 id
          refine fin Hs6 _ σb slb sl6 (acc ++ [x]) R9 hσb hσbl hslb (fun hp => ⟨(st46.pure hp).1, ?_⟩) st46.live (by rw [tl_app]; exact hl6)
          intro z o hz2 hnt
          have h5 := (((st2.pure hp).2.trans (LamX.ExtN.of sH)).trans (st46.pure hp).2) z o hz2 hnt
          rw [upd_ne (fun e => by subst e; rw [hD] at hz2; cases hz2)]
          exact h5
  · have hi : i = xs.length := by omega
    subst hi
    rw [List.drop_length, lcW] at hl
    refine .inl ⟨wk.stop _ H2 Hs2 hq hs12 R2.sub (Nat.le_refl _), ?_⟩
    exact hk (.v (.nd .list (TA.tl acc))) (.ref D) Hs2 H2 sl2 [.nd .list D acc] (R1.unB R2) ⟨_, rfl, by rw [TA.t], rfl, rfl⟩ (st1.trans (pu' := pu || bor) st2 fun z => by rw [z]; rfl) hl
theorem le_lc {is : List Nat} {bor : Bool} {elt : E} {it : ItK} {ies cond : List E} {e0 tg iter : Expr} {ifs : List Expr} {scope : Scope} (C : CxOk X Γ b k) (hfree : ∀ i ∈ is, i ∉ Γ.pin) (hnd : is.Nodup) (hset : noSet iter = true) (hblk : blkC b.N b.sc scope (ownOf b.N is) = true) (hown : (ownOf b.N is).map (·.2) = is)
    (htg : targB (blkOf b scope) is tg = true) (hi : ∀ pu bor, PI X tg iter (LI X Γ.pin pu bor (wIt Γ pu bor it ies))) (he : ∀ X', CxOk X' Γ (blkOf b scope) k → PEc X' Γ e0 elt)
    (hc : (ifs = [] ∧ cond = []) ∨ (∃ ec c, ifs = [ec] ∧ cond = [c] ∧ ∀ X', CxOk X' Γ (blkOf b scope) k → PTc X' Γ ec c)) : PE X (.ListComp e0 [⟨tg, iter, ifs, 0⟩] scope pos) (LE X Γ.pin pu (wE Γ pu (.lc is bor elt it ies cond))) := by
  have hN : X.N.Nodup := by rw [C.N]; exact C.nd
  have hblk' : BlkOk X.N X.env.scope scope (ownOf b.N is) := by rw [C.N, C.sc]; exact blkOk_by hblk
  obtain ⟨tt, htt, hr⟩ := lc_read (X := X) (pu := pu) (bor := bor) (elt := elt) (it := it) (ies := ies) (tg := tg) C hfree hnd hown hc
  refine ⟨fun pins s σ H Q I hw => ?_⟩
  exact (pe_lc (own := ownOf b.N is) (g := LG X Γ.pin is) (tt := tt) (te := LE X Γ.pin (pu || bor) (wE Γ (pu || bor) elt)) C.calm hN (hi pu bor) hblk' (fun s' H' C0 cl fp => lg_ok (C.blk s' H' scope cl C0 fp) htg) (fun s' H' C0 cl fp => htt _ (C.blk s' H' scope cl C0 fp) rfl) (fun s' H' C0 cl fp => he _ (C.blk s' H' scope cl C0 fp) (pu || bor)) (fun x => by cases iter <;> first | rfl | (exact (Bool.noConfusion hset)))).run pins s σ H Q I (hr σ H Q I.len hw)
theorem ls_lc {i : Nat} {y : Str} {py spos : Pos} {is : List Nat} {bor : Bool} {elt : E} {it : ItK} {ies cond : List E} {e0 tg iter : Expr} {ifs : List Expr} {scope : Scope} (C : CxOk X Γ b k) (hfree : ∀ i ∈ is, i ∉ Γ.pin) (hnd : is.Nodup) (hset : noSet iter = true) (hblk : blkC b.N b.sc scope (ownOf b.N is) = true) (hown : (ownOf b.N is).map (·.2) = is)
    (htg : targB (blkOf b scope) is tg = true) (hi : ∀ pu bor, PI X tg iter (LI X Γ.pin pu bor (wIt Γ pu bor it ies))) (he : ∀ X', CxOk X' Γ (blkOf b scope) k → PEc X' Γ e0 elt)
    (hc : (ifs = [] ∧ cond = []) ∨ (∃ ec c, ifs = [ec] ∧ cond = [c] ∧ ∀ X', CxOk X' Γ (blkOf b scope) k → PTc X' Γ ec c)) (hy : b.N[i]? = some y) (hyl : b.sc.names.lookup y = some .local) (hl : (py.line == pos.line) = true)
    (ha : (scope.names.any fun (n, k) => n == y && (k == .local || k == .cell)) = false) : PS X (.Assign [.Name y py] (.ListComp e0 [⟨tg, iter, ifs, 0⟩] scope pos) spos) (tAsg (LE X Γ.pin false (wE Γ false (.lc is bor elt it ies cond))) (gName i)) := by
  have hN : X.N.Nodup := by rw [C.N]; exact C.nd
  have hblk' : BlkOk X.N X.env.scope scope (ownOf b.N is) := by rw [C.N, C.sc]; exact blkOk_by hblk
  obtain ⟨tt, htt, hr⟩ := lc_read (X := X) (pu := false) (bor := bor) (elt := elt) (it := it) (ies := ies) (tg := tg) C hfree hnd hown hc
  refine ⟨fun pins s σ H D I hw => ?_⟩
  exact (ps_setLc (own := ownOf b.N is) (g := LG X Γ.pin is) (tt := tt) (te := LE X Γ.pin (false || bor) (wE Γ (false || bor) elt)) C.calm hN (by rw [C.N]; exact hy) (by rw [C.sc]; exact hyl) (sw_true I.ok.kind (by rw [C.sc]; exact hyl) hl ha) (hi false bor) hblk' (fun s' H' C0 cl fp => lg_ok (C.blk s' H' scope cl C0 fp) htg) (fun s' H' C0 cl fp => htt _ (C.blk s' H' scope cl C0 fp) rfl) (fun s' H' C0 cl fp => he _ (C.blk s' H' scope cl C0 fp) (false || bor)) (fun x => by cases iter <;> first | rfl | (exact (Bool.noConfusion hset)))).run pins s σ H D I (hr σ H _ I.len hw)
end
section
variable {X : Cx} {Γ : Ctx} {b : Blk} {k : Nat} {pos : Pos} {ea eb : Expr} {p q : E} {pu : Bool}
theorem RpAll.up {K : PySem.W.Frag} {H H' : Hp} (e : Same H H') {vs : List V} {ds : List PyData} (h : RpAll K H vs ds) : RpAll K H' vs ds := RpAll.mono e h
end
section
variable {X : Cx} {Γ : Ctx} {b : Blk} {k : Nat} {pos : Pos} {ea eb ec : Expr} {p q r : E} {pu : Bool}
theorem le_frz (h : PEc X Γ ea p) : PE X ea (LE X Γ.pin pu (wE Γ pu (.frz p))) := by
  refine ⟨fun pins s σ H Q I hw => ?_⟩
  obtain ⟨B, Hs, sl, tp, P, R0, hw, hk⟩ := hw
  rw [wE] at hw
  refine (h pu).run pins s σ H Q I ⟨B, Hs, sl, tp, _, R0, hw, fun r v Hs1 H1 sl1 nw R1 rr st p1 => ?_⟩
  obtain ⟨x, Hs2, sl2, R2, e1, e2, st2, hp, _⟩ := toV_ok (rest := []) (by simpa using R1) rr.weak p1
  rw [List.append_nil] at R2
  split at hp
  · rename_i y hy
    subst e1
    exact hk (.v (.d y)) x.v _ _ sl2 [.d x.v y] (R2.frzT hy) ⟨_, rfl, rfl, rfl, rfl⟩ (st.trans st2 id) hp
  · exact hp.elim
theorem Rp.key {K : PySem.W.Frag} {H : Hp} (kk : Key) : Rp K H (kV kk) (keyD kk) := by
  cases kk with
  | inl i => exact .int i
  | inr x => exact .str x
end
/-- what stands of the shared heap while a list is made at D -/
structure LcT (K : PySem.W.Frag) (H Hc : Hp) (D : Addr) (H2 Hc2 : Hp) : Prop where
  ex : ExtT K H H2
  s1 : Same Hc Hc2
  s2 : Same Hc2 H2
  fr : ∀ a, Hc2 a ≠ none → Hc a ≠ none ∨ H a = none
  dn : Hc2 D = none
  tab : TabsV K Hc2 H2
theorem LcT.app {K : PySem.W.Frag} {H Hc H2 Hc2 : Hp} {D : Addr} {vs ws : List V} (L : LcT K H Hc D H2 Hc2) (hH : H D = none) (hD : H2 D = some (.lst vs)) : LcT K H Hc D (upd H2 D (.lst ws)) Hc2 := by
  refine ⟨fun a o e n => ?_, L.s1, fun a o e => ?_, L.fr, L.dn, L.tab.to (fun a ps e => ?_) (fun c q e => e) L.tab.n⟩
  · rw [upd_ne fun z => by rw [z, hH] at e; cases e]
    exact L.ex a o e n
  · rw [upd_ne fun z => by rw [z, L.dn] at e; cases e]
    exact L.s2 a o e
  · rw [upd_ne fun z => by rw [z, hD] at e; cases e]
    exact e
theorem meth_eval {env : Env} {o : Expr} {m : Str} {apos pos : Pos} {es : List Expr} (hno : noCall o = true) (hst : es.all noStar = true) (hlen : es.length < 20) (hline : (apos.endLine == pos.line) = true) :
    eval (.Call (.Attribute o m apos) es [] pos) env = (eval o env >>= fun ov => standAt apos.atName >>= fun _ => holding [ov] (getMethod ov m (do return (← importBound o env).getD true)) >>= fun g => callWith pos g.1 g.2 (backTo pos (starEach es env)) (backToKw pos (keywordEach [] env))) := by
  rw [arm_eval_Call, base_of hno]
  have hf : methodCallForm (es.length + ([] : List Keyword).length) (backTo pos (starEach es env)) (backToKw pos (keywordEach [] env)) = true := by
    unfold methodCallForm
    rw [stars_all hst]
    have : (backToKw pos (keywordEach [] env)) = [] := rfl
    rw [this]
    simp
    omega
  congr 1
  funext ov
  congr 1
  funext _
  unfold methodCall
  rw [hf]
  unfold calleeOf
  rw [if_pos rfl]
  unfold methodCallPos
  simp [hline]
theorem exK_ok {P : Program} {w : World} {H : Hp} {h : Heap} {a C : Addr} {oe : Obj} {vs : Array Value} (e : h.get? a = some oe) (z : Zc (.ref C) none oe) (d : oe.data = .fields vs) : ObjOk P w H h a (ExK C a) :=
  ⟨⟨oe, vs, e, z, d⟩, ⟨oe, e⟩, fun _ _ ⟨o, v, q, r⟩ k => ⟨o, v, k o q, r⟩⟩
section
variable {X : Cx} {Γ : Ctx} {b : Blk} {k : Nat} {pos : Pos} {ea eb ec : Expr} {p q r : E} {pu : Bool}
theorem NmV.cls {mg : Str → Option Value} {h : Str} {v : V} {cv : Value} (n : NmV mg h v cv) : ClsV v cv := by
  rcases n with ⟨a, _, rfl, rfl⟩ | ⟨t, _, _, rfl, rfl⟩
  · exact .own a
  · exact .ty t
theorem NmV.pe {h : Str} {v : V} {cv : Value} {p0 : Pos} (n : NmV X.mg h v cv) (hg : Gl X h) (hn : okNm h = true) : PE X (.Name h p0) (tC v) := by
  rcases n with ⟨a, hm, rfl, rfl⟩ | ⟨t, hm, hb, rfl, rfl⟩
  · exact pe_glob hg hm rfl (okNm_of hn).1
  · exact pe_bltn hg hm hb rfl (okNm_of hn).2.2 (okNm_of hn).1
theorem fo_data {K : PySem.W.Frag} {D : Addr} {od : Option Obj} {nm : Str} {dsc gt : Value} (h0 : (PySem.W.clsIn K D).isSome = true) (h1 : PySem.W.findIn K (.ref D) nm = some (some dsc)) (h2 : PySem.W.specialIn K dsc "__get__" = some (some gt)) (h3 : PySem.W.takesIn K dsc = some true) : PySem.W.findObj K D od nm = some (.bind gt dsc) := by
  obtain ⟨c0, h0⟩ := Option.isSome_iff_exists.mp h0
  unfold PySem.W.findObj
  rw [h0, Option.bind_some, h1, Option.bind_some]
  simp [h2, h3]
section
variable {pr : Program} {wd : World} {Ar : Around} {s0 : Shared} {K : PySem.W.Frag} {y D : Addr} {oy : Obj} {od : Option Obj} {Ex : Value → Shared → Prop} {Qx : Option Value → Shared → Prop}
/-- an exception's __class__, whatever dict it has -/
theorem cls_read (C : ExcC K D) (kin : K.In s0.heap) (J : PySem.W.InstAt s0.heap y oy D od) (fin : Qx (some (.ref D)) { s0 with toks := s0.toks + 1 }) : wpAny (model pr wd) Ar (getAttr? (.ref y) "__class__") Qx Ex s0 := by
  have fo : PySem.W.findObj K D od "__class__" = some (.bind (.builtin "getset_descriptor.__get__") (.builtin "object.__class__")) := fo_data (by obtain ⟨c1, hc, _⟩ := PySem.W.any_some C.hd; rw [hc]; rfl) C.ha C.hn C.ht
  obtain ⟨h0, g0, d0, t0, os0⟩ := s0
  have l0 := J.type (M := model pr wd)
  have l1 := PySem.W.looks_findIn (M := model pr wd) kin C.hg
  have l2 := PySem.W.looks_findIn (M := model pr wd) kin C.hk
  have l3 := PySem.W.looks_find (M := model pr wd) kin J fo
  have lb : PySem.W.Looks (model pr wd) h0 (isInstance (.ref y) (.type "BaseException")) true := J.type.andThen (PySem.W.looks_subIn kin C.hs)
  have e0 : (false && onTheHeap (Value.builtin "BaseException.__getattribute__")) = false := rfl
  have e1 : (onTheHeap (Value.ref D) && Value.builtin "BaseException.__getattribute__" == Value.builtin "object.__getattribute__") = false := by
    rw [show (Value.builtin "BaseException.__getattribute__" == Value.builtin "object.__getattribute__") = false by decide +kernel]
    rfl
  unfold getAttr? getAttrBy? getAttrBy
  refine wpAny_bind (wpAny_mkText (wpAny_bind (wpAny_attempt (wpAny_holding (wpAny_bind (l0.at (wpAny_bind (l1.at ?_))))))))
  show wpAny _ _ (ite ((onTheHeap (Value.ref D) && Value.builtin "BaseException.__getattribute__" == Value.builtin "object.__getattribute__") = true) _ _) _ _ _
  rw [e1, if_neg Bool.false_ne_true]
  unfold getAttrByItsOwn hookBefore
  refine wpAny_bind ?_
  have e3 : onTheHeap (Value.ref D) = true := rfl
  rw [if_pos e3]
  refine l2.at (wpAny_bind (wpAny_attempt (wpAny_holding ?_)))
  unfold callGetattribute
  rw [e0, if_neg Bool.false_ne_true]
  unfold boundAndCalled
  rw [PySem.F.excAttr_ValueError.ga.bind (.ref y)]
  refine wpAny_bind (wpAny_pure ?_)
  show wpAny _ _ (call (.builtin "BaseException.__getattribute__") [.ref y, .str "__class__" t0]) _ _ _
  refine wpAny_call (codeAny_call_builtin PySem.F.excAttr_ValueError.ga.plain PySem.F.entry_bexc_ga ?_)
  refine @PySem.W.check_slot (model pr wd) _ _ ⟨h0, g0, d0, t0 + 1, os0⟩ "BaseException.__getattribute__" "BaseException" "__getattribute__" (.ref y) [.str "__class__" t0] [] _ (by decide +kernel) (by decide +kernel) lb (PySem.F.args_bexc_ga (.ref y) (.str "__class__" t0)) ?_
  unfold Builtin.«object.__getattribute__»
  refine wpAny_bind (wpAny_of_eq (a := ((Value.ref y : Value), [Value.str "__class__" t0])) (by first | rfl | (simp only [slotArgs]; rfl)) ?_)
  refine wpAny_bind (wpAny_pure (wpAny_bind (l0.at (wpAny_bind (l3.at ?_)))))
  show wpAny _ _ (holding [Value.builtin "object.__class__"] (call (.builtin "getset_descriptor.__get__") [.builtin "object.__class__", .ref y, .ref D]) >>= ret) _ _ _
  refine wpAny_bind (wpAny_holding (wpAny_call (PySem.W.class_get (s := ⟨h0, g0, d0, t0 + 1, os0⟩) (ox := oy) (od := od) kin J C.hm ?_)))
  refine wpAny_pure ?_
  show wpAny _ _ (handedOut (.ref D)) _ _ _
  rw [PySem.W.handedOut_of (v := .ref D) rfl]
  first
    | exact wpAny_pure (wpAny_pure fin)
    | exact wpAny_pure fin
    | exact wpAny_pure (wpAny_bind (wpAny_pure (wpAny_pure fin)))
end
theorem kitx_O {K : PySem.W.Frag} {y D : Addr} {oy : Obj} {od : Option Obj} (C : ExcC K D) : PySem.W.KitX K (.ref y) (.ref D) (fun h => PySem.W.InstAt h y oy D od) where
  ty := fun _ _ _ J => PySem.W.InstAt.type J
  it := fun M h k J => by
    obtain ⟨c1, hc, _⟩ := PySem.W.any_some C.hd
    unfold PySem.W.clsIn at hc
    split at hc
    · rename_i ho
      intro A' Q' E' s' kp q
      unfold isType loadHead
      exact wpAny_bind (wpAny_loadPart (kp _ _ (k _ _ ho)) (wpAny_pure q))
    · cases hc
  ne := (PySem.W.handS_kitx_exc (x := y) (ox := oy) C.hg C.hk C.hs C.hd C.ha C.hn C.ht C.hm).ne
  ca := fun k J q => cls_read C k J q
/-- an exception of the class at D, with a field or without -/
def ExAt (H : Hp) (D a : Addr) : Prop := H a = some (ExK D a) ∨ ∃ d f v, H a = some (exo a D (some d)) ∧ H d = some (exd d [(f, v)])
theorem ExAt.grow {H H' : Hp} {D a : Addr} (h : ExAt H D a) (e : Same H H') : ExAt H' D a := by
  rcases h with h | ⟨d, f, v, h1, h2⟩
  · exact .inl (e _ _ h)
  · exact .inr ⟨d, f, v, e _ _ h1, e _ _ h2⟩
/-- isinstance(e, c), e kept -/
def rIsK (K : PySem.W.Frag) (D : Addr) : List V → Hp → VK → Prop := fun xs H Q => ∃ (a : Addr) (c : V) (cv : Value) (b : Bool), xs = [.ref a, c] ∧ ExAt H D a ∧ ClsV c cv ∧ PySem.W.kitOne K (.ref D) cv = some b ∧ Q (.bl b) H
def rIsKT (K : PySem.W.Frag) (D : Addr) : List V → Hp → VK → Prop := fun xs H Q => ∃ (a tp : Addr) (cs : List V) (us : List Value) (b : Bool), xs = [.ref a, .ref tp] ∧ ExAt H D a ∧ H tp = some (.tup cs) ∧ Paired ClsV cs us ∧ PySem.W.kitAny K (.ref D) us = some b ∧ Q (.bl b) H
theorem inst_of {pins : List (Addr × Obj)} {σ : L2.St} {H : Hp} {s : Shared} {a D : Addr} (I : Inv X pins σ H s) (h : ExAt H D a) : ∃ oe od, PySem.W.InstAt s.heap a oe D od := by
  rcases h with h | ⟨d, f, v, h1, h2⟩
  · obtain ⟨⟨oe, vs, hget, hz, hv⟩, _⟩ := (show ObjOk X.prog X.w H s.heap a (ExK D a) from I.hok a _ h)
    refine ⟨oe, none, ?_⟩
    obtain ⟨oc, od, oda, osl⟩ := oe
    obtain ⟨h1, h2⟩ := hz
    dsimp only at h1 h2 hv
    subst h1 h2 hv
    exact ⟨hget, rfl, rfl, trivial⟩
  · obtain ⟨t1, ha⟩ := exo_at I.hok h1
    obtain ⟨mA, hns, hr⟩ := exd_at I.hok h2
    obtain ⟨od, ho, hl⟩ := lookIn_ns hns
    exact ⟨_, some od, ha, rfl, rfl, ho⟩
theorem call_isK {D : Addr} (C : ExcC X.K D) : CallR X (.builtin "isinstance") (rIsK X.K D) := by
  intro pins s σ H xs us Q I r h
  obtain ⟨a, c, cv, b, rfl, ha, hcv, e, q⟩ := h
  obtain ⟨u1, u2, rfl, r1, r2⟩ := vals2 r
  cases (show u1 = Value.ref a from r1)
  have e2 := hcv.eq r2
  subst e2
  obtain ⟨oe, od, J⟩ := inst_of I ha
  exact PySem.W.kia_one (kitx_O C) I.kIn J e (fun z => nomatch z) fun tk => ⟨.bl b, H, I.tok tk, rfl, q⟩
theorem call_isKT {D : Addr} (C : ExcC X.K D) : CallR X (.builtin "isinstance") (rIsKT X.K D) := by
  intro pins s σ H xs us Q I r h
  obtain ⟨a, tp, cs, ws, b, rfl, ha, hT, k, e, q⟩ := h
  obtain ⟨u1, u2, rfl, r1, r2⟩ := vals2 r
  cases (show u1 = Value.ref a from r1)
  cases (show u2 = Value.ref tp from r2)
  obtain ⟨oe, od, J⟩ := inst_of I ha
  obtain ⟨_, its, rv, o, h1, h2, n, h3⟩ := (show ObjOk X.prog X.w H s.heap tp (.tup cs) from I.hok tp _ hT)
  have e3 := ClsV.all k rv
  subst e3
  obtain ⟨oc, od, dt, sl⟩ := o
  simp only at h2 h3
  subst h2 h3
  exact PySem.W.kia_tup (kitx_O C) I.kIn J h1 e (fun z => nomatch z) fun tk => ⟨.bl b, H, I.tok tk, rfl, q⟩
/-- names of classes, evaluated -/
theorem names_pa (C : CxOk X Γ b k) {D : Addr} {l : List (Str × Bool)} (hx : ∀ h b, l.lookup h = some b → ∃ v cv, NmV X.mg h v cv ∧ PySem.W.kitOne X.K (.ref D) cv = some b) : ∀ {ns : List Str} {es : List Expr} {z : Bool}, xnB b ns es = true → anyIs l ns = some z → ∃ vs us, PA X es (fun σ H Q => Q vs H) ∧ Paired ClsV vs us ∧ PySem.W.kitAny X.K (.ref D) us = some z ∧ vs.length = es.length
  | [], [], z, _, h => by
    rw [anyIs] at h
    cases h
    exact ⟨[], [], pa_nil, .nil, rfl, rfl⟩
  | [], _ :: _, z, hb, _ => by simp [xnB] at hb
  | n :: ns, [], z, hb, _ => by simp [xnB] at hb
  | n :: ns, e :: es, z, hb, h => by
    cases e <;> first | (exact (Bool.noConfusion hb)) | skip
    rename_i x p0
    simp only [xnB, Bool.and_eq_true, decide_eq_true_eq] at hb
    obtain ⟨⟨⟨rfl, hg⟩, hn⟩, hb⟩ := hb
    rw [anyIs] at h
    split at h
    · rename_i b1 c1 h1 h2
      cases h
      obtain ⟨vs, us, pa, pr, ka, kl⟩ := names_pa C hx hb h2
      obtain ⟨v, cv, nv, k1⟩ := hx n b1 h1
      refine ⟨v :: vs, cv :: us, pa_cons (nv.pe (C.gl hg) hn) pa (star_of rfl), .cons nv.cls pr, ?_, by rw [List.length_cons, List.length_cons, kl]⟩
      rw [PySem.W.kitAny, k1]
      cases b1 with
      | true => rfl
      | false => exact ka
    · cases h
def rIsX (K : PySem.W.Frag) : List V → Hp → VK → Prop := fun xs H Q => ∃ D, ExcC K D ∧ (rIsK K D xs H Q ∨ rIsKT K D xs H Q)
theorem call_isX : CallR X (.builtin "isinstance") (rIsX X.K) := by
  intro pins s σ H xs us Q I r h
  obtain ⟨D, C, h | h⟩ := h
  · exact call_isK C pins s σ H xs us Q I r h
  · exact call_isKT C pins s σ H xs us Q I r h
theorem le_isx {x : Str} {p0 : Pos} {tu : Bool} {ns : List Str} (C : CxOk X Γ b k) (hx : bltCall Γ.sk b "isinstance" x = true) (hs : noStar ea = true) (hn : isxB b tu ns ec = true) (h : PEc X Γ ea p) : PE X (.Call (.Name x p0) [ea, ec] [] pos) (LE X Γ.pin pu (wE Γ pu (.isx p tu ns))) := by
  obtain ⟨rfl, hg, hm, hd, hnm⟩ := bltCall_of C hx
  refine ⟨fun pins s σ H Q I hw => ?_⟩
  obtain ⟨B, Hs, sl, tp, P, R0, hw, hk⟩ := hw
  rw [wE] at hw
  have key : ∀ (ra : R) (v : V) (Hs1 H1 : Hp) (sl1 nw1 : List TA), Rel X.K ⟨B, Γ.pin⟩ Hs1 H1 σ sl1 (tp ++ nw1) → RR ra v sl1 nw1 → Stp pu H H1 sl sl1 → isxW Γ ra ns (TA.tl sl1) (fun z => P (.v (.d (.bool z))) (TA.tl sl1)) → ∃ (D : Addr) (l : List (Str × Bool)) (a : Addr) (z : Bool), ExcC X.K D ∧ (∀ h b, l.lookup h = some b → ∃ v cv, NmV X.mg h v cv ∧ PySem.W.kitOne X.K (.ref D) cv = some b) ∧ v = .ref a ∧ ExAt H1 D a ∧ anyIs l ns = some z ∧ ∀ H2, Same H1 H2 → Q (.bl z) H2 := by
    intro ra v Hs1 H1 sl1 nw1 R1 rr1 st1 p1
    unfold isxW at p1
    split at p1
    · rename_i n D us e1
      obtain ⟨a, us', rfl, _, e4, _⟩ := rr1.node R1 e1
      split at p1
      · rename_i xi hxi
        obtain ⟨rfl, p1⟩ := p1
        have ck := C.xc n xi hxi
        split at p1
        · rename_i z hz
          exact ⟨xi.C, xi.is, a, z, ck.exc, fun h b e => (by obtain ⟨v, cv, q1, q2, _⟩ := ck.is h b e; exact ⟨v, cv, q1, q2⟩), rfl, .inl e4.2, hz, fun H2 sm => Cont.leaf hk (R1.drop.grow sm) (.bl z) (st1.trans (pu' := pu) (.same sm) id) p1⟩
        · exact p1.elim
      · exact p1.elim
    · rename_i n D f x e1
      obtain ⟨a, us', rfl, e3, ⟨d, e4, e5⟩, e6, _⟩ := rr1.node R1 e1
      split at p1
      · rename_i xo hxo
        obtain ⟨rfl, p1⟩ := p1
        have ck := C.xo n xo hxo
        have hd : ∃ v, H1 d = some (exd d [(f, v)]) := by
          match us', e3, e4, e6 with
          | [], e3, _, _ => simp [TA.tl] at e3
          | t :: _ :: _, e3, _, _ => simp [TA.tl] at e3
          | [t], e3, e4, e6 =>
            rw [TA.tl, TA.tl] at e3
            cases t with
            | dead w => simp [TA.t] at e3
            | d w y => simp [TA.t] at e3
            | nd k2 a2 us2 =>
              rw [TA.t] at e3
              simp only [List.cons.injEq, T.nd.injEq, and_true] at e3
              obtain ⟨rfl, _⟩ := e3
              rw [TA.okl, TA.ok] at e6
              obtain ⟨v, q1, q2⟩ := e6.1.1
              have : a2 = d := by simpa [TA.v] using e4
              subst this
              exact ⟨v, q2⟩
        obtain ⟨v, hd⟩ := hd
        split at p1
        · rename_i z hz
          exact ⟨xo.C, xo.is, a, z, ck.exc, ck.is, rfl, .inr ⟨d, f, v, e5, hd⟩, hz, fun H2 sm => Cont.leaf hk (R1.drop.grow sm) (.bl z) (st1.trans (pu' := pu) (.same sm) id) p1⟩
        · exact p1.elim
      · exact p1.elim
    · exact p1.elim
  unfold isxB at hn
  split at hn
  · rename_i es kk pp
    have pt : PE X (.Tuple es kk pp) _ := pe_tup (t := fun σ H Q => ∃ vs, PA X es (fun σ H Q => Q vs H) ∧ Q vs H) ⟨fun pos pins s σ H Q I ⟨vs, pa, q⟩ => pa.run pos pins s σ H Q I q⟩
    refine (pe_callB call_isX hg hm (by decide +kernel) (pa_cons (h pu) (pa_cons pt pa_nil (star_of rfl)) (star_of hs)) hnm hd (star_of hs) (stars_of rfl)).run pins s σ H Q I ⟨B, Hs, sl, tp, _, R0, hw, fun ra v Hs1 H1 sl1 nw1 R1 rr1 st1 p1 => ?_⟩
    obtain ⟨D, l0, a, z, hxe, hx, rfl, ha, hz, hq⟩ := key ra v Hs1 H1 sl1 nw1 R1 rr1 st1 p1
    rw [Bool.and_eq_true, decide_eq_true_eq] at hn
    obtain ⟨vs, us, pa, pr, ka, kl⟩ := names_pa C hx hn.1 hz
    refine ⟨vs, pa, ?_, fun l hl => ⟨D, hxe, .inr ⟨a, l, vs, us, z, rfl, ha.grow (same_upd hl), upd_same, pr, ka, hq _ (same_upd hl)⟩⟩⟩
    rw [kl, sizeLine_eq]
    have := hn.2
    omega
  · rename_i y pp
    have pt : PA X [.Name y pp] (fun σ H Q => ∃ vs, PA X [.Name y pp] (fun σ H Q => Q vs H) ∧ Q vs H) := ⟨fun pos pins s σ H Q I ⟨vs, pa, q⟩ => pa.run pos pins s σ H Q I q⟩
    refine (pe_callB call_isX hg hm (by decide +kernel) (pa_cons (h pu) pt (star_of hs)) hnm hd (star_of hs) (stars_of rfl)).run pins s σ H Q I ⟨B, Hs, sl, tp, _, R0, hw, fun ra v Hs1 H1 sl1 nw1 R1 rr1 st1 p1 => ?_⟩
    obtain ⟨D, l0, a, z, hxe, hx, rfl, ha, hz, hq⟩ := key ra v Hs1 H1 sl1 nw1 R1 rr1 st1 p1
    obtain ⟨vs, us, pa, pr, ka, kl⟩ := names_pa C hx hn hz
    refine ⟨vs, pa, D, hxe, .inl ?_⟩
    cases pr with
    | nil => simp at kl
    | cons c1 pr =>
      cases pr with
      | cons _ _ => simp at kl
      | nil =>
        refine ⟨a, _, _, z, rfl, ha, c1, ?_, hq _ (Same.refl _)⟩
        rw [PySem.W.kitAny] at ka
        split at ka
        · rename_i e1; rw [e1]; exact ka
        · rename_i e1; rw [e1]; exact ka
        · cases ka
  · cases hn
end
end VL
namespace VL
open PySem PySem.Spec PyProof.Rows L2
section
variable {X : Cx} {Γ : Ctx} {b : Blk} {k : Nat} {pos : Pos} {ea eb : Expr} {p q : E} {pu : Bool}
theorem le_call0 {f x : Str} {p0 : Pos} (C : CxOk X Γ b k) (hx : f = x) (hf : Γ.sk.fn.contains f = true) (hg : globB b.sc x = true) (hn : okNm x = true) : PE X (.Call (.Name x p0) [] [] pos) (LE X Γ.pin pu (wE Γ pu (.call f []))) := by
  subst hx
  refine ⟨fun pins s σ H Q I hw => ?_⟩
  obtain ⟨B, Hs, sl, tp, P, R0, hw, hk⟩ := hw
  rw [wE, wA] at hw
  obtain ⟨fs, hfn⟩ := Option.isSome_iff_exists.mp (fn_some hf)
  obtain ⟨a, fd, ps, F, hm, hkp, hb⟩ := C.fns f fs hfn
  rw [hfn] at hw
  have hsp : spV X.K fs.md fs.F ([] ++ []) H Q E0 := call_ok (rs := []) (vs := []) (nws := []) (by simpa using R0) .nil (.refl (pu := pu)) hw hk
  exact wpAny_Call_Name_kw (ld_glob I (C.gl hg) hm (PySem.W.callWith_K0 I.kIn hkp (runG (us := []) F C.room C.gd hb .nil pass0 I .nil hsp)) (okNm_of hn).1)
end
end VL
namespace PySem.SeqAt
open AutoSeq1 (wpAny_loadPart')
open MeetsSeq MeetsSeq2 MeetsSeq3 SeqRoads2
end PySem.SeqAt
namespace L2
open PySem PySem.Spec PyProof.Rows
end L2
namespace L2
open PySem PySem.Spec PyProof.Rows
end L2
namespace L2
open PySem PySem.Spec PyProof.Rows
end L2
set_option maxHeartbeats 1000000
set_option maxHeartbeats 2000000
set_option maxHeartbeats 4000000
set_option maxHeartbeats 1000000
set_option maxHeartbeats 4000000
namespace VL
open PySem PySem.Spec PyProof.Rows L2
section
variable {X : Cx} {Γ : Ctx} {b : Blk} {kk : Nat} {pos : Pos} {pu : Bool}
/-- C(text), C without __init__, as a value -/
theorem pe_excK {C : Addr} {bmB : List Value} {B newId initId : String} {x : Str} {e : Expr} {ta : TE} {p pos : Pos} (Xf : ExcBaseFacts B newId initId bmB) (q : PySem.W.excIn X.K C bmB newId = true) (gm0 : X.mg x = some (.ref C)) (kp0 : PySem.W.keepIn X.K (.ref C) = true) (hgl : Gl X x)
    (he : PE X e ta) (hst : starEach [e] X.env = (false, eval e X.env) :: starEach [] X.env := by rfl) (hnd : (x == ("__debug__" : Str)) = false := by decide) :
    PE X (.Call (.Name x p) [e] [] pos) (fun σ H Q => ta σ H fun _ Ha => ∀ a, Ha a = none → Q (.ref a) (upd Ha a (ExK C a))) := by
  refine ⟨fun pins s σ H Q J0 h => ?_⟩
  refine wpAny_Call_Name_kw (ld_glob J0 hgl gm0 ?_ hnd)
  refine PySem.W.callWith_K (h₀ := X.base) J0.ok.mod.kin kp0 ?_ hst (by rfl)
  rw [hst]
  show wpAny _ _ (spliced ((false, eval e X.env) :: backTo pos (starEach [] X.env))) _ _ s
  refine Calls.spliced_cons (thn (he.run pins s σ H _ J0 h) fun u s1 ⟨v, Ha, J1, ra, qa⟩ => ?_)
  refine Calls.spliced_nil ⟨J1.kIn, ?_⟩
  show wpAny _ _ (call (.ref C) [u]) _ _ _
  obtain ⟨bm, N, nm, qn, bs, hdct, sn, sub, ab, col, dd, k0, k1, k2, k3, k5, mN, hcl, hns, hnn, T⟩ := exc_obj J1.kIn q
  refine wpAny_call_exc_subT Xf T hcl hns hnn (fun h' a mk0 => ?_) (by show 1 ≤ sizeLine; rw [sizeLine_eq]; omega)
  have hfr : Ha a = none := J1.hok.gone mk0.new
  obtain ⟨t, th0, _, _⟩ := mk0.there
  exact ⟨.ref a, upd Ha a (ExK C a), J1.laidN mk0.keeps mk0.new hfr (exK_ok th0 ⟨rfl, rfl⟩ rfl), rfl, qa a hfr⟩
theorem le_nex {n m x y : Str} {j : Nat} {p p2 : Pos} (C : CxOk X Γ b kk) (hx : x = n) (hg : globB b.sc x = true) (hn : okNm x = true) : PE X (.Call (.Name x p) [.Constant (.str y) j p2] [] pos) (LE X Γ.pin pu (wE Γ pu (.nex n m))) := by
  subst hx
  refine ⟨fun pins s σ H Q I hw => ?_⟩
  obtain ⟨B, Hs, sl, tp, P, R0, hw, hk⟩ := hw
  rw [wE] at hw
  split at hw
  · rename_i xi hxi
    have ck := C.xc x xi hxi
    obtain ⟨bm, BB, newId, initId, F, q⟩ := ck.mkx
    refine (pe_excK F q ck.gm ck.keep (C.gl hg) pe_str rfl (okNm_of hn).1).run pins s σ H Q I fun a ha => ?_
    exact Cont.node (k := .exc x xi.C) (as := []) hk (by simpa using R0) ha ⟨rfl, upd_same⟩ .refl hw
  · exact hw.elim
/-- C(value), C's __init__ keeps it -/
theorem makeO {pins : List (Addr × Obj)} {σ : L2.St} {H : Hp} {s : Shared} {Q : VK} {us : List Value} {vs : List V} {C fI : Addr} {k : Nat} {fd : FuncData} {ps : List Str} {sp : Sp} (T : OexC X.K C) (iC : PySem.W.findIn X.K (.ref C) "__init__" = some (some (.ref fI))) (tI : PySem.W.typeIn X.K (.ref fI) = some (.type "function"))
    (F : FnG X.prog X.w X.K X.mg X.base CX0 k fI fd ps sp) (hr : Room (k + 1) X.A) (hgd : X.A.guards = some []) (hb : Binds X.K fd ps []) (I : Inv X pins σ H s) (r : Vals vs us) (hz : vs.length ≤ 1000)
    (h : ∀ x, H x = none → sp (.ref x :: vs) (upd H x (exo x C none)) (fun v H2 => v = .non ∧ Q (.ref x) H2) E0) :
    wpAny (model X.prog X.w) X.A (call (.ref C) us) (EP X pins σ Q) X.xe s := by
  obtain ⟨nm0, q, N, bs, bm, sn, sub, ab, col, dd, k0, k1, k2, k3, k5, hcl, hbs⟩ := T.cls
  obtain ⟨h0, g, dr0, tk0, os0⟩ := s
  have hs0 : h0.objs.size ≤ h0.objs.size + 1 := Nat.le_succ _
  have hn : H (h0.objs.size + 1) = none := I.hok.fresh hs0
  have hq0 := h (h0.objs.size + 1) hn
  have kp0 : ∀ b o, h0.get? b = some o → ((h0.push (PySem.W.kdv_tup us)).push (PySem.HandSPX.excO C h0.objs.size)).get? b = some o := fun b o e => Heap.get?_push_of_some _ (Heap.get?_push_of_some _ e)
  have hg0 : ((h0.push (PySem.W.kdv_tup us)).push (PySem.HandSPX.excO C h0.objs.size)).get? (h0.objs.size + 1) = some (PySem.HandSPX.excO C h0.objs.size) := by heap_get
  have J2 : Inv X pins σ (upd H (h0.objs.size + 1) (exo (h0.objs.size + 1) C none)) ⟨(h0.push (PySem.W.kdv_tup us)).push (PySem.HandSPX.excO C h0.objs.size), g, dr0, tk0, os0⟩ :=
    I.laid (t' := tk0) (a := h0.objs.size + 1) (o := exo (h0.objs.size + 1) C none) (h' := (h0.push (PySem.W.kdv_tup us)).push (PySem.HandSPX.excO C h0.objs.size)) kp0 hs0 (exo_ok hg0)
  have rv2 : Vals (V.ref (h0.objs.size + 1) :: vs) ((Value.ref (h0.objs.size + 1) :: us) ++ []) := by rw [List.append_nil]; exact .cons rfl r
  have hl0 : (Value.ref (h0.objs.size + 1) :: us ++ []).length = ps.length := by
    have e := rv2.length
    rw [F.len _ _ _ _ hq0] at e
    exact e.symm
  have hu0 : us.length ≤ sizeLine := by
    rw [← Paired.length r, sizeLine_eq]
    omega
  have run := F.run _ X.stack _ _ ⟨Value.ref (h0.objs.size + 1) :: us, []⟩ ((Value.ref (h0.objs.size + 1) :: us) ++ []) _ _ E0 (hr.make C us []) (by exact hgd) (J2.env0.make C us []) (hb _ (Value.ref (h0.objs.size + 1) :: us) J2.kIn hl0) rv2 hq0
  refine wpAny_call (PySem.HandSPX.call_own PySem.F.excBase_ValueError (fun Y => PySem.HandSPX.refsVE_contains Y bm hbs) (I.kIn _ _ hcl) (PySem.W.looks_findIn I.kIn iC) (fun self => PySem.W.bind_fn I.kIn self tI) hu0
    (codeAny_mono run fun res s' z => ?_))
  match res, z with
  | .error e, z => exact z.elim
  | .ok (.ret u), z =>
    obtain ⟨_, H', J', rv, rfl, q⟩ := J2.after z
    exact ⟨rv, ⟨V.ref (h0.objs.size + 1), H', J', rfl, q⟩⟩
theorem xo_some {Γ : Ctx} {n f : Str} (h : Γ.sk.xo.lookup n = some f) : (Γ.xo.lookup n).isSome = true := by
  have e : (Γ.xo.map fun p => (p.1, p.2.f)).lookup n = some f := h
  generalize Γ.xo = l at e
  induction l with
  | nil => cases e
  | cons p l ih =>
    rw [List.map_cons, List.lookup_cons] at e
    rw [List.lookup_cons]
    cases hb : (n == p.1) with
    | true => rfl
    | false =>
      simp only [hb] at e
      exact ih e
theorem pe_makeO {C fI : Addr} {k : Nat} {fd : FuncData} {ps : List Str} {sp : Sp} {x : Str} {e : Expr} {ta : L2.TA} {p : Pos} (T : OexC X.K C) (iC : PySem.W.findIn X.K (.ref C) "__init__" = some (some (.ref fI))) (tI : PySem.W.typeIn X.K (.ref fI) = some (.type "function"))
    (F : FnG X.prog X.w X.K X.mg X.base CX0 k fI fd ps sp) (hr : Room (k + 1) X.A) (hgd : X.A.guards = some []) (hb : Binds X.K fd ps []) (hg : Gl X x) (hm : X.mg x = some (.ref C)) (hkp : PySem.W.keepIn X.K (.ref C) = true) (ha : PA X [e] ta)
    (hdb : (x == ("__debug__" : Str)) = false) (he : starEach [e] X.env = (false, eval e X.env) :: starEach [] X.env) :
    PE X (.Call (.Name x p) [e] [] pos) (fun σ H Q => ta σ H fun vs H1 => vs.length ≤ 1000 ∧ ∀ a, H1 a = none → sp (.ref a :: vs) (upd H1 a (exo a C none)) (fun v H2 => v = .non ∧ Q (.ref a) H2) E0) :=
  ⟨fun pins s σ H Q I h => wpAny_Call_Name_kw (ld_glob I hg hm (PySem.W.callWith_K (h₀ := X.base) I.ok.mod.kin hkp (thn (ha.run pos pins s σ H _ I h) fun us s1 ⟨vs, H1, I1, r, hz, q⟩ => ⟨I1.kIn, makeO T iC tI F hr hgd hb I1 r hz q⟩) he (by rfl)) hdb)⟩
theorem le_nxo {n f x : Str} {ea : Expr} {q : E} {p : Pos} (C : CxOk X Γ b kk) (hx : x = n) (hxs : (Γ.xo.lookup n).isSome = true) (hg : globB b.sc x = true) (hn : okNm x = true) (hs : noStar ea = true) (h : PEc X Γ ea q) : PE X (.Call (.Name x p) [ea] [] pos) (LE X Γ.pin pu (wE Γ pu (.nxo n f q))) := by
  subst hx
  obtain ⟨xo, hxo⟩ := Option.isSome_iff_exists.mp hxs
  have ck := C.xo x xo hxo
  obtain ⟨j, fI, fd, ps, hj, iC, tI, F, hb⟩ := ck.ini
  refine ⟨fun pins s σ H Q I hw => ?_⟩
  obtain ⟨B, Hs, sl, tp, P, R0, hw, hk⟩ := hw
  rw [wE] at hw
  refine (pe_makeO ck.oex iC tI F (C.room.mono hj) C.gd hb (C.gl hg) ck.gm ck.keep (pa_cons (h pu) pa_nil (star_of hs)) (okNm_of hn).1 (star_of hs)).run pins s σ H Q I ?_
  refine ⟨B, Hs, sl, tp, _, R0, hw, fun r v Hs1 H1 sl1 nw1 R1 rr1 st1 p1 => ?_⟩
  show _ ∧ _
  refine ⟨by simp, fun a ha => ⟨a, v, rfl, upd_same, fun d hd hda => ⟨rfl, ?_⟩⟩⟩
  rw [upd_ne hda] at hd
  rw [hxo] at p1
  split at p1
  · rename_i y xo' hy e
    cases e
    obtain ⟨hf, p1⟩ := p1
    have rp := (rr1.dpT R1 hy).1
    have hfun : upd (upd (upd H1 a (exo a xo.C none)) d (exd d [(xo.f, v)])) a (exo a xo.C (some d)) = upd (upd H1 d (exd d [(xo.f, v)])) a (exo a xo.C (some d)) := by
      funext c
      by_cases e1 : c = a
      · rw [e1, upd_same, upd_same]
      · rw [upd_ne e1, upd_ne e1]
        by_cases e2 : c = d
        · rw [e2, upd_same, upd_same]
        · rw [upd_ne e2, upd_ne e2, upd_ne e1]
    rw [hfun, hf]
    have R2 : Rel X.K ⟨B, Γ.pin⟩ Hs1 H1 σ sl1 (tp ++ [TA.d v y]) := R1.drop.leaf rp
    have R3 := Rel.allocO (k := .exd f) (ts := [TA.d v y]) (o := exd d [(f, v)]) R2 hd ⟨v, rfl, upd_same⟩
    have hna : upd H1 d (exd d [(f, v)]) a = none := by rw [upd_ne (Ne.symm hda)]; exact ha
    have R4 := Rel.allocO (k := .exo x xo.C) (ts := [TA.nd (.exd f) d [TA.d v y]]) (o := exo a xo.C (some d)) R3 hna ⟨d, rfl, upd_same⟩
    refine hk (.v (.nd (.exo x xo.C) [.nd (.exd f) [.d y]])) (.ref a) Hs1 _ sl1 [.nd (.exo x xo.C) a [TA.nd (.exd f) d [TA.d v y]]] R4 ⟨_, rfl, by simp [TA.t, TA.tl], rfl, rfl⟩ ?_ p1
    exact st1.trans (pu' := pu) (.same ((same_upd hd).trans (same_upd hna))) id
  · exact p1.elim
/-- e.f -/
theorem pe_xo {e : Expr} {te : TE} {n : Str} (he : PE X e te) (hb : attributeBase e n X.env (eval e X.env) = eval e X.env := by rfl) :
    PE X (.Attribute e n pos) (fun σ H Q => te σ H fun x Ha => ∃ C a d v, XfC X.K C ∧ PySem.W.findIn X.K (.ref C) n = some none ∧ x = .ref a ∧ Ha a = some (exo a C (some d)) ∧ Ha d = some (exd d [(n, v)]) ∧ Q v Ha) := by
  refine ⟨fun pins s σ H Q J0 h => ?_⟩
  refine attr_of hb (thn (he.run pins s σ H _ J0 h) fun u s1 hx0 => ?_)
  obtain ⟨x, Ha, J1, rx0, C, a, d, v, T, hno, ex, ea0, ed0, q⟩ := hx0
  subst ex
  obtain rfl : u = Value.ref a := rx0
  obtain ⟨t1, ha0⟩ := exo_at J1.hok ea0
  obtain ⟨mA0, hn0, hr0⟩ := exd_at J1.hok ed0
  obtain ⟨od0, hob, hlo⟩ := lookIn_ns hn0
  obtain ⟨u, hu0, ru0⟩ := RelO.some_of (v := v) (o := mA0 n) (by have := hr0 n; simpa [List.lookup] using this)
  have J : PySem.W.InstAt s1.heap a { cls := .ref C, dict := some d, data := .fields #[.ref t1, .none, .none, .none, .bool false, .none] } C (some od0) := ⟨ha0, rfl, rfl, hob⟩
  exact HandSPX.exc_get J1.kIn J T.ga T.gg T.exC (PySem.W.findObj_own T.hdC hno rfl (by rw [hlo, hu0])) (handed_of ru0) ⟨v, Ha, J1.tok _, ru0, q⟩
theorem le_xat {f : Str} {eo : Expr} {o : E} (C : CxOk X Γ b kk) (hno : noCall eo = true) (ho : PEc X Γ eo o) : PE X (.Attribute eo f pos) (LE X Γ.pin pu (wE Γ pu (.xat f o))) := by
  refine ⟨fun pins s σ H Q I hw => ?_⟩
  obtain ⟨B, Hs, sl, tp, P, R0, hw, hk⟩ := hw
  rw [wE] at hw
  refine (pe_xo (n := f) (ho pu) (base_of hno)).run pins s σ H Q I ⟨B, Hs, sl, tp, _, R0, hw, fun ro v Hs1 H1 sl1 nw1 R1 rr1 st1 p1 => ?_⟩
  split at p1
  rotate_left
  · exact p1.elim
  rename_i n C0 g x e1
  obtain ⟨a, us', rfl, e3, ⟨d, e4, e5⟩, e6, _⟩ := rr1.node R1 e1
  split at p1
  rotate_left
  · exact p1.elim
  rename_i xo hxo
  obtain ⟨⟨rfl, rfl, hf⟩, p1⟩ := p1
  have ck := C.xo n xo hxo
  match us', e3, e4, e6 with
  | [], e3, _, _ => simp [TA.tl] at e3
  | t :: _ :: _, e3, _, _ => simp [TA.tl] at e3
  | [t], e3, e4, e6 =>
    rw [TA.tl, TA.tl] at e3
    cases t with
    | dead w => simp [TA.t] at e3
    | d w y => simp [TA.t] at e3
    | nd k2 a2 us2 =>
      rw [TA.t] at e3
      simp only [List.cons.injEq, T.nd.injEq, and_true] at e3
      obtain ⟨rfl, e7⟩ := e3
      rw [TA.okl, TA.ok] at e6
      obtain ⟨⟨⟨w, q1, q2⟩, q3⟩, _⟩ := e6
      have : a2 = d := by simpa [TA.v] using e4
      subst this
      match us2, e7, q1, q3 with
      | [], e7, _, _ => simp [TA.tl] at e7
      | t :: _ :: _, e7, _, _ => simp [TA.tl] at e7
      | [t], e7, q1, q3 =>
        rw [TA.tl, TA.tl] at e7
        cases t with
        | dead w => simp [TA.t] at e7
        | nd k3 a3 us3 => simp [TA.t] at e7
        | d w2 y =>
          simp only [TA.t, List.cons.injEq, T.d.injEq, and_true] at e7
          subst e7
          have hw2 : w2 = w := by simpa [TA.v] using q1
          subst hw2
          rw [TA.okl, TA.ok] at q3
          exact ⟨xo.C, a, a2, w2, ck.xf, by rw [← hf]; exact ck.no, rfl, e5, q2, Cont.leaf hk R1.drop q3.1 st1 p1⟩
end
set_option maxHeartbeats 2000000
set_option maxHeartbeats 4000000
structure Snd (X : Cx) (Γ : Ctx) (e : Expr) (c : E) : Prop where
  pe : PEc X Γ e c
  pt : PTc X Γ e c
  pw : ∀ op es pos, e = .BoolOp op es pos → PWc X Γ e c
theorem Snd.plain {X : Cx} {Γ : Ctx} {e : Expr} {c : E} (h : PEc X Γ e c) (he : ∀ whole, isTrue e X.env whole = (do let v ← whole; standAt e.pos; holding [v] (truthy v))) (hb : ∀ op es pos, e ≠ .BoolOp op es pos) : Snd X Γ e c :=
  ⟨h, fun _ => lr_plain h he, fun op es pos z => absurd z (hb op es pos)⟩
mutual
theorem sE (Γ : Ctx) (k : Nat) : ∀ (c : E) (b : Blk) (e : Expr) (X : Cx), CxOk X Γ b k → chk Γ.sk b c e = true → Snd X Γ e c
  | .var i, b, e, X, C, h => by
    unfold chk at h
    split at h
    · exact .plain (fun _ => le_var C h) (fun _ => rfl) (fun _ _ _ z => by cases z)
    · cases h
  | .k c, b, e, X, C, h => by
    unfold chk at h
    split at h
    · exact .plain (fun _ => le_k h) (fun _ => rfl) (fun _ _ _ z => by cases z)
    · cases h
  | .bin op p q, b, e, X, C, h => by
    unfold chk at h
    split at h
    · simp only [Bool.and_eq_true] at h
      obtain ⟨⟨h1, h2⟩, h3⟩ := h
      have e1 := bopIs_eq h1
      subst e1
      exact .plain (fun _ => le_bin (sE Γ k p b _ X C h2).pe (sE Γ k q b _ X C h3).pe) (fun _ => rfl) (fun _ _ _ z => by cases z)
    · cases h
  | .not p, b, e, X, C, h => by
    unfold chk at h
    split at h
    · have ih := sE Γ k p b _ X C h
      exact ⟨fun _ => le_not ih.pe, fun _ => lr_not ih.pt, fun _ _ _ z => by cases z⟩
    · cases h
  | .cmp op p q, b, e, X, C, h => by
    unfold chk at h
    split at h
    · simp only [Bool.and_eq_true] at h
      obtain ⟨⟨⟨h1, h2⟩, h3⟩, h4⟩ := h
      have e1 := copIs_eq h1
      subst e1
      have i1 := (sE Γ k p b _ X C h3).pe
      have i2 := (sE Γ k q b _ X C h4).pe
      exact ⟨fun _ => le_cmp C h2 i1 i2, fun _ => lr_cmp C h2 i1 i2, fun _ _ _ z => by cases z⟩
    · cases h
  | .and p q, b, e, X, C, h => by
    unfold chk at h
    split at h
    · rename_i e1 e2 es pos
      simp only [Bool.and_eq_true] at h
      have i1 := sE Γ k p b _ X C h.1
      have key : PEc X Γ (.BoolOp .And (e2 :: es) pos) q ∧ PWc X Γ (.BoolOp .And (e2 :: es) pos) q := by
        cases es with
        | nil =>
          have i2 := sE Γ k q b _ X C h.2
          exact ⟨fun pu => pe_one (i2.pe pu), fun pu => pw_and1 (i2.pt pu)⟩
        | cons e3 es =>
          have i2 := sE Γ k q b _ X C h.2
          exact ⟨i2.pe, i2.pw _ _ _ rfl⟩
      exact ⟨fun _ => le_and i1.pe key.1, fun _ => (lr_and i1.pt key.2).pt, fun _ _ _ _ _ => lr_and i1.pt key.2⟩
    · cases h
  | .or p q, b, e, X, C, h => by
    unfold chk at h
    split at h
    · rename_i e1 e2 es pos
      simp only [Bool.and_eq_true] at h
      have i1 := sE Γ k p b _ X C h.1
      have key : PEc X Γ (.BoolOp .Or (e2 :: es) pos) q ∧ PWc X Γ (.BoolOp .Or (e2 :: es) pos) q := by
        cases es with
        | nil =>
          have i2 := sE Γ k q b _ X C h.2
          exact ⟨fun pu => pe_one (i2.pe pu), fun pu => pw_or1 (i2.pt pu)⟩
        | cons e3 es =>
          have i2 := sE Γ k q b _ X C h.2
          exact ⟨i2.pe, i2.pw _ _ _ rfl⟩
      exact ⟨fun _ => le_or i1.pe key.1, fun _ => (lr_or i1.pt key.2).pt, fun _ _ _ _ _ => lr_or i1.pt key.2⟩
    · cases h
  | .ix o i, b, e, X, C, h => by
    unfold chk at h
    split at h
    · simp only [Bool.and_eq_true] at h
      exact .plain (fun _ => le_ix h.1.1 (sE Γ k o b _ X C h.1.2).pe (sE Γ k i b _ X C h.2).pe) (fun _ => rfl) (fun _ _ _ z => by cases z)
    · cases h
  | .nex n m, b, e, X, C, h => by
    unfold chk at h
    split at h
    · simp only [Bool.and_eq_true, decide_eq_true_eq] at h
      exact .plain (fun _ => le_nex C h.1.1.1.1 h.1.1.2 h.1.2) (fun _ => rfl) (fun _ _ _ z => by cases z)
    · cases h
  | .nxo n f p, b, e, X, C, h => by
    unfold chk at h
    split at h
    · simp only [Bool.and_eq_true, decide_eq_true_eq] at h
      exact .plain (fun _ => le_nxo C h.1.1.1.1.1 (xo_some h.1.2) h.1.1.1.1.2 h.1.1.1.2 h.1.1.2 (sE Γ k p b _ X C h.2).pe) (fun _ => rfl) (fun _ _ _ z => by cases z)
    · cases h
  | .xat f o, b, e, X, C, h => by
    unfold chk at h
    split at h
    · simp only [Bool.and_eq_true, decide_eq_true_eq] at h
      obtain ⟨⟨rfl, h2⟩, h3⟩ := h
      exact .plain (fun _ => le_xat C h2 (sE Γ k o b _ X C h3).pe) (fun _ => rfl) (fun _ _ _ z => by cases z)
    · cases h
  | .lst es, b, e, X, C, h => by
    unfold chk at h
    split at h
    · exact .plain (fun _ => le_lst (sL Γ k es b _ X C h).1.2) (fun _ => rfl) (fun _ _ _ z => by cases z)
    · cases h
  | .tup es, b, e, X, C, h => by
    unfold chk at h
    split at h
    · exact .plain (fun _ => le_tup (sL Γ k es b _ X C h).1.2) (fun _ => rfl) (fun _ _ _ z => by cases z)
    · cases h
  | .call f es, b, e, X, C, h => by
    unfold chk at h
    split at h
    · simp only [Bool.and_eq_true, decide_eq_true_eq] at h
      obtain ⟨⟨⟨⟨h1, h2⟩, h3⟩, h4⟩, h5⟩ := h
      have i := (sL Γ k es b _ X C h5).1
      exact .plain (fun _ => le_call C h1 h2 h3 h4 i.1 i.2) (fun _ => rfl) (fun _ _ _ z => by cases z)
    · simp only [Bool.and_eq_true, decide_eq_true_eq, List.isEmpty_iff] at h
      obtain ⟨⟨⟨⟨h1, h2⟩, h3⟩, h4⟩, h5⟩ := h
      subst h5
      exact .plain (fun _ => le_call0 C h1 h2 h3 h4) (fun _ => rfl) (fun _ _ _ z => by cases z)
    · cases h
  | .blt t es, b, e, X, C, h => by
    unfold chk at h
    split at h
    · split at h
      · split at h
        · simp only [Bool.and_eq_true] at h
          have i := sL Γ k es b _ X C h.2
          have i2 := i.2
          cases i2 with
          | cons a b' =>
            cases b'
            have hst := i.1.1
            simp only [List.all_cons, Bool.and_eq_true] at hst
            exact .plain (fun _ => le_listRange C h.1.1 h.1.2 hst.1 i.1.2 ⟨_, rfl, a.pe⟩) (fun _ => rfl) (fun _ _ _ z => by cases z)
        · cases h
      · rename_i t hne
        simp only [Bool.and_eq_true] at h
        have i := (sL Γ k es b _ X C h.2).1
        exact .plain (fun _ => le_blt C hne h.1 i.1 i.2) (fun _ => rfl) (fun _ _ _ z => by cases z)
    · cases h
  | .lc is bor elt it ies cond, b, e, X, C, h => by
    unfold chk at h
    split at h
    · simp only [Bool.and_eq_true, decide_eq_true_eq, beq_iff_eq] at h
      obtain ⟨⟨⟨⟨⟨⟨⟨⟨⟨⟨⟨h1, h2⟩, h3⟩, h4⟩, h5⟩, h6⟩, h7⟩, h8⟩, h9⟩, h10⟩, h11⟩, h12⟩ := h
      subst h1
      refine .plain (fun _ => le_lc C (fun i hi z => ?_) h3 h4 h5 h6 h7 (fun pu bor => sI Γ k it ies b _ X _ C h8 h12) (fun X' C' => (sE Γ k elt _ _ X' C' h9).pe) ?_) (fun _ => rfl) (fun _ _ _ z => by cases z)
      · have := List.all_eq_true.mp h2 i hi
        simp at this
        exact this z
      · rename_i ifs _ _ _
        cases ifs with
        | nil => exact .inl ⟨rfl, by cases cond with | nil => rfl | cons _ _ => simp [chkL] at h10⟩
        | cons ec ifs =>
          cases ifs with
          | cons _ _ => simp at h11
          | nil =>
            cases cond with
            | nil => simp [chkL] at h10
            | cons c cond =>
              cases cond with
              | cons _ _ => simp [chkL] at h10
              | nil =>
                refine .inr ⟨ec, c, rfl, rfl, fun X' C' => ?_⟩
                simp only [chkL, Bool.and_eq_true] at h10
                exact (sE Γ k c _ _ X' C' h10.1.2).pt
    · cases h
  | .frz p, b, e, X, C, h => by
    unfold chk at h
    rw [Bool.and_eq_true] at h
    have i := (sE Γ k p b e X C h.2).pe
    have hp := h.1
    cases e <;> first | exact (Bool.noConfusion hp) | exact .plain (fun _ => le_frz i) (fun _ => rfl) (fun _ _ _ z => by cases z)
  | .isx p tu ns, b, e, X, C, h => by
    unfold chk at h
    split at h
    · simp only [Bool.and_eq_true] at h
      exact .plain (fun _ => le_isx C h.1.1.1 h.1.1.2 h.1.2 (sE Γ k p b _ X C h.2).pe) (fun _ => rfl) (fun _ _ _ z => by cases z)
    · cases h
theorem sL (Γ : Ctx) (k : Nat) : ∀ (cs : List E) (b : Blk) (es : List Expr) (X : Cx), CxOk X Γ b k → chkL Γ.sk b cs es = true → (es.all noStar = true ∧ PAc X Γ es cs) ∧ Paired (fun e c => Snd X Γ e c) es cs
  | [], b, es, X, C, h => by
    unfold chkL at h
    split at h
    · exact ⟨⟨rfl, lac_nil⟩, .nil⟩
    · cases h
  | c :: cs, b, es, X, C, h => by
    unfold chkL at h
    split at h
    · simp only [Bool.and_eq_true] at h
      have i1 := sE Γ k c b _ X C h.1.2
      obtain ⟨⟨i2, i3⟩, i4⟩ := sL Γ k cs b _ X C h.2
      exact ⟨⟨by simp only [List.all_cons, Bool.and_eq_true]; exact ⟨h.1.1, i2⟩, lac_cons h.1.1 i1.pe i3⟩, .cons i1 i4⟩
    · cases h
theorem sI (Γ : Ctx) (k : Nat) : ∀ (it : ItK) (cs : List E) (b : Blk) (e : Expr) (X : Cx) (tg : Expr) {pu bor : Bool}, CxOk X Γ b k → chkIt Γ.sk b it cs e = true → enB it tg = true → PI X tg e (LI X Γ.pin pu bor (wIt Γ pu bor it cs))
  | it, cs, b, e, X, tg, pu, bor, C, h, ht => by
    unfold chkIt at h
    split at h
    · rename_i as has
      have i := sL Γ k cs b _ X C h
      unfold itX at has
      split at has
      · cases has
        have i2 := i.2
        cases i2 with
        | cons a b2 => cases b2; exact li_e a.pe
      · split at has
        · split at has
          · rename_i hb
            cases has
            have hst := i.1.1
            simp only [List.all_cons, Bool.and_eq_true] at hst
            exact li_rng1 C hb hst.1 i.1.2
          · cases has
        · cases has
      · split at has
        · split at has
          · rename_i hb
            cases has
            have hst := i.1.1
            simp only [List.all_cons, Bool.and_eq_true] at hst
            exact li_rng2 C hb hst.1 hst.2.1 i.1.2
          · cases has
        · cases has
      · split at has
        · split at has
          · rename_i hb
            cases has
            have hst := i.1.1
            simp only [List.all_cons, Bool.and_eq_true] at hst
            exact li_rng3 C hb hst.1 hst.2.1 hst.2.2.1 i.1.2
          · cases has
        · cases has
      · split at has
        · split at has
          · rename_i hb
            cases has
            simp only [Bool.and_eq_true] at hb
            have hst := i.1.1
            simp only [List.all_cons, Bool.and_eq_true] at hst
            have i2 := i.2
            cases i2 with
            | cons a b2 => cases b2; exact li_rrng C hb.1 hb.2 hst.1 a.pe
          · cases has
        · cases has
      · split at has
        · split at has
          · rename_i hb
            cases has
            have hst := i.1.1
            simp only [List.all_cons, Bool.and_eq_true] at hst
            unfold enB at ht
            split at ht
            all_goals first
              | exact li_enum C hb hst.1 i.1.2
              | exact absurd ‹ItK.enum = ItK.zip› (by decide)
              | exact absurd rfl ‹ItK.enum = ItK.enum → False›
              | cases ht
          · cases has
        · cases has
      · split at has
        · split at has
          · rename_i hb
            cases has
            have hst := i.1.1
            simp only [List.all_cons, Bool.and_eq_true] at hst
            unfold enB at ht
            split at ht
            all_goals first
              | exact li_zip C hb hst.1 hst.2.1 i.1.2
              | exact absurd ‹ItK.zip = ItK.enum› (by decide)
              | exact absurd rfl ‹ItK.zip = ItK.zip → False›
              | cases ht
          · cases has
        · cases has
    · cases h
end
/-- the ends, carried over -/
structure EOk (K : PySem.W.Frag) (mg : Str → Option Value) (W : WX) (ix : List Nat) (B : B0) (P : AE) (D : Ends) : Prop where
  nx : ∀ Hs H σ sl, Rel K ⟨B, ix⟩ Hs H σ sl [] → P.nx (TA.tl sl) → D.nx σ H
  rt : ∀ x Hs H σ sl, Rel K ⟨B, ix⟩ Hs H σ sl [x] → x.isDead = false → P.rt x.t (TA.tl sl) → D.rt x.v H
  bk : ∀ Hs H σ sl, Rel K ⟨B, ix⟩ Hs H σ sl [] → P.bk (TA.tl sl) → D.bk σ H
  ct : ∀ Hs H σ sl, Rel K ⟨B, ix⟩ Hs H σ sl [] → P.ct (TA.tl sl) → D.ct σ H
  ex : ∀ n C Hs H σ sl, Rel K ⟨B, ix⟩ Hs H σ sl [] → mg n = some (.ref C) → P.ex n (TA.tl sl) → W (.ref C) none σ H
def LS (X : Cx) (W : WX) (ix : List Nat) (w : AE → St → Prop) : TS := fun D σ H => ∃ B Hs sl P, Rel X.K ⟨B, ix⟩ Hs H σ sl [] ∧ w P (TA.tl sl) ∧ EOk X.K X.mg W ix B P D
def noComp : Expr → Bool
  | .ListComp _ _ _ _ => false
  | .SetComp _ _ _ _ => false
  | .DictComp _ _ _ _ _ => false
  | _ => true
theorem free_of {Γ : Ctx} {is : List Nat} (h : free Γ is = true) : ∀ i ∈ is, i ∉ Γ.pin := fun i hi z => by
  unfold free at h
  have := List.all_eq_true.mp h i hi
  simp at this
  exact this z
section
variable {X : Cx} {W : WX} {Γ : Ctx} {b : Blk} {k : Nat} {pos p0 : Pos} {e : Expr} {c : E} {st : Stmt} {rest : List Stmt}
theorem ls_nil : PSs X [] (LS X W Γ.pin (wSs Γ [])) := ⟨fun pins s σ H D I hw => by
  obtain ⟨B, Hs, sl, P, R0, hw, ek⟩ := hw
  rw [wSs] at hw
  exact pss_nil.run pins s σ H D I (ek.nx _ _ _ _ R0 hw)⟩
theorem ls_cons {q : S} {qs : List S} (h1 : PS X st (LS X W Γ.pin (wS Γ q))) (h2 : PSs X rest (LS X W Γ.pin (wSs Γ qs))) : PSs X (st :: rest) (LS X W Γ.pin (wSs Γ (q :: qs))) := ⟨fun pins s σ H D I hw => by
  obtain ⟨B, Hs, sl, P, R0, hw, ek⟩ := hw
  rw [wSs] at hw
  exact (pss_cons h1 h2).run pins s σ H D I ⟨B, Hs, sl, _, R0, hw, ⟨fun Hs1 H1 σ1 sl1 R1 h1 => ⟨B, Hs1, sl1, P, R1, h1, ek⟩, ek.rt, ek.bk, ek.ct, ek.ex⟩⟩⟩
theorem ls_asg {i : Nat} {tg : Expr} (h : PS X (.Assign [tg] e pos) (tAsg (LE X Γ.pin false (wE Γ false c)) (gName i))) : PS X (.Assign [tg] e pos) (LS X W Γ.pin (wS Γ (.asg i c))) := ⟨fun pins s σ H D I hw => by
  obtain ⟨B, Hs, sl, P, R0, hw, ek⟩ := hw
  rw [wS] at hw
  refine h.run pins s σ H D I ⟨B, Hs, sl, [], _, R0, hw.2, fun r v Hs1 H1 sl1 nw R1 rr st1 p => ?_⟩
  obtain ⟨x, Hs2, sl2, R2, xv, xd, _, ⟨n1, n2, n3⟩, _⟩ := toV_ok (tp := []) (rest := []) (by simpa using R1) rr.weak p
  have R3 := Rel.setS (tp := []) (x := x) (i := i) (by simpa using R2) (by rw [tl_len] at n2; exact n2) (free_of hw.1 i (by simp)) (by rw [← TA.noTup_t]; exact n1)
  rw [xv] at R3
  exact ek.nx _ _ _ _ R3 (by rw [tl_set]; exact n3)⟩
/-- the object at a place, the slot dead -/
theorem Rel.take {K : PySem.W.Frag} {B : Bs} {Hs H : Hp} {σ : L2.St} {sl : List TA} : ∀ (q : List Nat) (t c : TA), Rel K B Hs H σ sl [t] → t.at q = some c → Rel K B Hs H σ sl [c]
  | [], t, c, R, h => by rw [TA.at] at h; cases h; exact R
  | j :: q, t, c, R, h => by
    cases t with
    | dead => cases h
    | d => cases h
    | nd kk a ts =>
      rw [TA.at] at h
      split at h
      · rename_i c1 hc1
        exact Rel.take q c1 c (Rel.child (tp := []) R hc1) h
      · cases h
theorem ls_ret (h : PEc X Γ e c) : PS X (.Return (some e) pos) (LS X W Γ.pin (wS Γ (.ret c))) := ⟨fun pins s σ H D I hw => by
  obtain ⟨B, Hs, sl, P, R0, hw, ek⟩ := hw
  rw [wS] at hw
  refine (ps_ret (h false)).run pins s σ H D I ⟨B, Hs, sl, [], _, R0, hw, fun r v Hs1 H1 sl1 nw R1 rr st1 p => ?_⟩
  cases r with
  | v t =>
    obtain ⟨x, rfl, rfl, rfl, xd⟩ := rr
    exact ek.rt x _ _ _ _ R1 xd p
  | p i q =>
    simp only at p
    split at p
    · obtain ⟨x, Hs2, sl2, R2, xv, xd, _, n3, _⟩ := toV_ok (tp := []) (rest := []) (by simpa using R1) rr.weak p
      rw [← xv]
      exact ek.rt x _ _ _ _ (by simpa using R2) xd n3
    · rename_i hpin
      obtain ⟨rfl, t, cc, h1, h2, h3, h4⟩ := rr
      have g : (R.p i q).get (TA.tl sl1) = some cc.t := by
        rw [R.get, tl_get, h1]
        simp only [Option.map_some]
        rw [TA.at_t, h2]
        rfl
      rw [g] at p
      simp only at p
      have R2 := Rel.hide (tp := []) (σ' := σ) (i := i) (by simpa using R1) h1 (by simpa using hpin) rfl (fun _ _ => rfl)
      have R3 := Rel.take q t cc (by simpa using R2) h2
      rw [← h3]
      exact ek.rt cc _ _ _ _ R3 h4 (by rw [tl_set]; exact p)⟩
theorem ls_pass : PS X (.Pass pos) (LS X W Γ.pin (wS Γ .pass)) := ⟨fun pins s σ H D I hw => by
  obtain ⟨B, Hs, sl, P, R0, hw, ek⟩ := hw
  rw [wS] at hw
  exact ps_pass.run pins s σ H D I (ek.nx _ _ _ _ R0 hw)⟩
theorem ls_if {a b : List Stmt} {qa qb : List S} (hc : PTc X Γ e c) (ha : PSs X a (LS X W Γ.pin (wSs Γ qa))) (hb : PSs X b (LS X W Γ.pin (wSs Γ qb))) : PS X (.If e a b pos) (LS X W Γ.pin (wS Γ (.ife c qa qb))) := ⟨fun pins s σ H D I hw => by
  obtain ⟨B, Hs, sl, P, R0, hw, ek⟩ := hw
  rw [wS] at hw
  refine (ps_if (hc false) ha hb).run pins s σ H D I (LR.of R0 hw fun z Hs1 H1 sl1 R1 st1 hp => ?_)
  cases z with
  | true =>
    simp only [br_t, if_true] at hp ⊢
    exact ⟨B, Hs1, sl1, P, R1, hp, ek⟩
  | false =>
    simp only [br_f, Bool.false_eq_true, if_false] at hp ⊢
    exact ⟨B, Hs1, sl1, P, R1, hp, ek⟩⟩
theorem ls_for {tg iter : Expr} {is : List Nat} {it : ItK} {ies : List E} {a : List Stmt} {qa : List S} (hp : PassesOwn (model X.prog X.w) X.A X.env X.xe) (C : CxOk X Γ b k) (hset : noSet iter = true) (htg : targB b is tg = true) (hi : ∀ pu bor, PI X tg iter (LI X Γ.pin pu bor (wIt Γ pu bor it ies))) (ha : PSs X a (LS X W Γ.pin (wSs Γ qa))) :
    PS X (.For tg iter a [] pos) (LS X W Γ.pin (wS Γ (.for_ is it ies qa))) := ⟨fun pins s σ H D I hw => by
  obtain ⟨B, Hs, sl, P, R0, hw, ek⟩ := hw
  rw [wS] at hw
  obtain ⟨hfr, hw⟩ := hw
  refine (ps_for hp C.calm (hi false false) (lg_ok (ix := Γ.pin) C htg) ha (fun x => by cases iter <;> first | rfl | (exact (Bool.noConfusion hset)))).run pins s σ H D I ⟨B, Hs, sl, [], _, R0, hw, fun J xs Hs1 H1 sl1 R1 wk st1 hP => ?_⟩
  refine ⟨fun i m σ H => m = xs.length - i ∧ i ≤ xs.length ∧ ∃ Hs sl, Rel X.K ⟨{ B with Hs0 := Hs1 }, Γ.pin⟩ Hs H σ sl [] ∧ forW is (fun D' σ' => wSs Γ qa D' σ') P (xs.drop i) (TA.tl sl), ⟨_, rfl, Nat.zero_le _, Hs1, sl1, R1.reB, by simpa using hP⟩, ?_⟩
  rintro i m σ2 H2 ⟨rfl, hle, Hs2, sl2, R2, hl⟩
  have ek2 : ∀ {Hs H : Hp} {σ : L2.St} {sl : List TA}, Rel X.K ⟨{ B with Hs0 := Hs1 }, Γ.pin⟩ Hs H σ sl [] → P.nx (TA.tl sl) → D.nx σ H := fun R h => ek.nx _ _ _ _ (R1.unB R) h
  by_cases hlt2 : i < xs.length
  · refine .inr ⟨wk.go i H2 Hs2 same00 R2.hs R2.sub hlt2, fun σ' H' => ∃ Hs sl, Rel X.K ⟨{ B with Hs0 := Hs1 }, Γ.pin⟩ Hs H' σ' sl [] ∧ forW is (fun D' σ' => wSs Γ qa D' σ') P (xs.drop (i + 1)) (TA.tl sl), fun σ' H' p => ⟨xs.length - (i + 1), by omega, rfl, hlt2, p⟩, fun v H3 hy => ?_⟩
    have hx : xs[i]? = some xs[i] := List.getElem?_eq_getElem hlt2
    obtain ⟨Hs3, s23, dp, sH, hR⟩ := wk.yld i H2 Hs2 v H3 xs[i] same00 R2.hs R2.sub hx hy
    have R3 := hR _ _ _ _ R2
    rw [List.drop_eq_getElem_cons hlt2, forW] at hl
    generalize hh : bindD is xs[i] (TA.tl sl2) = oo at hl
    cases oo with
    | none => exact hl.elim
    | some σ1 =>
      simp only at hl
      refine ⟨{ B with Hs0 := Hs1 }, Hs3, sl2, [], xs[i], σ1, R3, dp, hh, free_of hfr, fun σb slb Rb eb fb lb => ?_⟩
      refine ⟨{ B with Hs0 := Hs1 }, Hs3, slb, { nx := forW is (fun D' σ' => wSs Γ qa D' σ') P (List.drop (i + 1) xs), rt := P.rt, bk := P.nx, ct := forW is (fun D' σ' => wSs Γ qa D' σ') P (List.drop (i + 1) xs), ex := P.ex }, Rb, by rw [eb]; exact hl, ⟨fun Hs4 H4 σ4 sl4 R4 h4 => ⟨Hs4, sl4, R4, h4⟩, fun x Hs4 H4 σ4 sl4 R4 h4 h5 => ek.rt x _ _ _ _ (R1.unB R4) h4 h5, fun Hs4 H4 σ4 sl4 R4 h4 => ek2 R4 h4, fun Hs4 H4 σ4 sl4 R4 h4 => ⟨Hs4, sl4, R4, h4⟩, fun n C Hs4 H4 σ4 sl4 R4 h4 h5 => ek.ex n C _ _ _ _ (R1.unB R4) h4 h5⟩⟩
  · have hi : i = xs.length := by omega
    subst hi
    rw [List.drop_length, forW] at hl
    exact .inl ⟨wk.stop _ H2 Hs2 same00 R2.hs R2.sub (Nat.le_refl _), ek2 R2 hl⟩⟩
/-- o[i] = e -/
theorem set_uq {K : PySem.W.Frag} {B : Bs} {Hs H : Hp} {σ : L2.St} {sl tp : List TA} {i j : Nat} {q : List Nat} {t x : TA} {a : Addr} {us : List TA} (R1 : Rel K B Hs H σ sl (tp ++ [x])) (h1 : sl[i]? = some t) (h2 : t.at q = some (.nd .list a us)) (hj : j < us.length) (hx : x.noTup = true) :
    Rel K B Hs (upd H a (.lst ((us.map TA.v).set j x.v))) σ (sl.set i (t.put (.nd .list a (us.set j x)) q)) tp ∧ TA.tl (sl.set i (t.put (.nd .list a (us.set j x)) q)) = putS (TA.tl sl) i q (.nd .list ((TA.tl us).set j x.t)) := by
  obtain ⟨n1, o1, a1⟩ := slot_noTupl R1 h1 h2
  have okx : x.ok K Hs H := okl_one.mp (TA.okl_append.mp R1.okT).2
  obtain ⟨u1, u2, eu, es, hl⟩ := set_pre (y := x) (List.getElem?_eq_getElem hj)
  have uq : (TA.fpl us ++ x.fp).Nodup := by
    have hu := R1.uq
    rw [TA.fpl_append, TA.fpl_append, ← List.append_assoc, List.nodup_append, fpl_one] at hu
    rw [List.nodup_append]
    have us1 : (TA.nd .list a us).fp.Nodup := by
      obtain ⟨l1, l2, e1, _⟩ := TA.lens q t _ h2
      have := R1.slot_uq h1
      rw [e1] at this
      exact (nodup_mid this).2.1
    rw [TA.fp] at us1
    refine ⟨(List.nodup_cons.mp us1).2, hu.2.1, fun x hx y hy e => hu.2.2 x (List.mem_append_left _ ?_) y hy e⟩
    obtain ⟨l1, l2, e1, _⟩ := TA.lens q t _ h2
    exact fpl_slot h1 (by rw [e1, TA.fp]; exact List.mem_append_left _ (List.mem_append_right _ (List.mem_cons_of_mem _ hx)))
  have efp : (TA.fpl (us.set j x)).Perm (TA.fpl u1 ++ TA.fpl u2 ++ x.fp) := by
    rw [es, TA.fpl_append, TA.fpl, List.append_assoc]
    exact List.Perm.append_left _ List.perm_append_comm
  have sb : (TA.fpl u1 ++ TA.fpl u2 ++ x.fp).Sublist (TA.fpl us ++ x.fp) := by
    refine List.Sublist.append ?_ (List.Sublist.refl _)
    conv => rhs; rw [eu]
    rw [TA.fpl_append, TA.fpl]
    exact List.Sublist.append (List.Sublist.refl _) (List.sublist_append_right _ _)
  have mem : ∀ y ∈ us.set j x, y ∈ us ∨ y = x := fun y hy => (List.mem_or_eq_of_mem_set hy)
  obtain ⟨R2, e2⟩ := R1.chg (us' := us.set j x) h1 h2 (TA.okl_all.mpr fun y hy => (mem y hy).elim (TA.okl_all.mp o1 y) fun z => z ▸ okx) (fun z hz => by
    have := sb.subset (efp.mem_iff.mp hz)
    rw [fpl_one]
    exact List.mem_append.mp this) (efp.nodup_iff.mpr (sb.nodup uq)) (TA.noTupl_all.mpr fun y hy => (mem y hy).elim (TA.noTupl_all.mp n1 y) fun z => z ▸ hx)
  rw [List.map_set] at R2
  rw [tl_set us] at e2
  exact ⟨R2, e2⟩
theorem ls_setix {eo ei : Expr} {o i : E} (he : PEc X Γ e c) (ho : PEc X Γ eo o) (hi : PEc X Γ ei i) (hn : noSlice ei = true) (hc : noComp e = true) : PS X (.Assign [.Subscript eo ei p0] e pos) (LS X W Γ.pin (wS Γ (.setix o i c))) := ⟨fun pins s σ H D I hw => by
  obtain ⟨B, Hs, sl, P, R0, hw, ek⟩ := hw
  rw [wS] at hw
  have hi' : PE X ei (fun σ' H1 Q' => ∃ pu', LE X Γ.pin pu' (wE Γ pu' i) σ' H1 Q') := ⟨fun pins s σ H Q I ⟨pu', h'⟩ => (hi pu').run pins s σ H Q I h'⟩
  have hsw : swapsWith e (some (.Subscript eo ei p0)) pos.line X.env = pure false := by cases e <;> first | rfl | (exact (Bool.noConfusion hc))
  have hsw2 : swappedStores [.Subscript eo ei p0] e X.env = pure none := by cases e <;> rfl
  refine (ps_asg (he false) (pg_sub (ho false) hi' set_list (by intro v; cases ei <;> first | rfl | (exact (Bool.noConfusion hn)))) hsw hsw2).run pins s σ H D I ⟨B, Hs, sl, [], _, R0, hw, fun r v Hs1 H1 sl1 nw R1 rr st1 p => ?_⟩
  obtain ⟨x, Hs2, sl2, R2, xv, xd, _, hw2, _⟩ := toV_ok (tp := []) (rest := []) (by simpa using R1) rr.weak p
  refine ⟨B, Hs2, sl2, [x], _, by simpa using R2, hw2, fun ro vo Hs3 H3 sl3 nw3 R3 rr3 st3 hw3 => ⟨_, B, Hs3, sl3, [x] ++ nw3, _, R3, hw3, fun ri vi Hs4 H4 sl4 nw4 R4 rr4 st4 hw4 => ?_⟩⟩
  have rr3' := rr3.stay R3 R4 st4 (fun z => by rw [z]; rfl)
  unfold setixW at hw4
  obtain ⟨n1, n2, hw4⟩ := hw4
  obtain ⟨ii, q, t, a, us, rfl, rfl, h1, h2, rfl, hP⟩ := atList_ok rr3'.weak hw4
  split at hP
  · rename_i kk hkk
    have := (rr4.dpT R4 hkk).2.int_v
    subst this
    split at hP
    · rename_i j hj
      have R5 : Rel X.K ⟨B, Γ.pin⟩ Hs4 H4 σ sl4 ([] ++ [x]) := by simpa using R4.drop
      obtain ⟨_, _, a1⟩ := slot_noTupl R5 h1 h2
      rw [tl_len] at hj
      obtain ⟨R6, e6⟩ := set_uq R5 h1 h2 (ixN_seq hj).2.1 (by rw [← TA.noTup_t]; exact n1)
      rw [xv] at R6
      refine ⟨a, _, kk, j, rfl, rfl, a1, by rw [List.length_map]; exact hj, ek.nx _ _ _ _ R6 (by rw [e6]; exact hP)⟩
    · exact hP.elim
  · exact hP.elim⟩
end
section
variable {K : PySem.W.Frag} {Hs H Hs1 H1 : Hp} {σ σ1 : L2.St} {sl sl1 tp tp1 : List TA}
theorem Rel.base {b0 : B0} {ix : List Nat} {hid : List TA} (R : Rel K ⟨b0, ix⟩ Hs H σ sl (hid ++ tp)) : Rel K ⟨⟨H, Hs, TA.fpl (sl ++ tp) ++ tabA K, b0.pin⟩, ix⟩ Hs H σ sl tp := by
  have R0 : Rel K ⟨b0, ix⟩ Hs H σ sl tp := (R.perm (tp' := tp ++ hid) List.perm_append_comm).drop
  exact ⟨R0.len, R0.val, R0.ok, R0.uq, R0.out, R0.sub, fun a o h _ => h, fun a h => .inl (List.mem_append_left _ h), Same.refl _, fun a h => .inl h, R0.ntup, R0.pin, R0.tab, fun a ha => List.mem_append_right _ ha⟩
end
set_option maxHeartbeats 1000000
set_option maxHeartbeats 2000000
set_option maxHeartbeats 4000000
def swB (b : Blk) (y : Str) (py : Pos) : Expr → Bool
  | .ListComp _ _ scope pos => decide (b.sc.names.lookup y = some .cell) || decide (b.sc.names.lookup y = some .local) && (py.line == pos.line) && !(scope.names.any fun (n, k) => n == y && (k == .local || k == .cell))
  | e => noComp e
def lcOnly (c : E) (e : Expr) : Bool := match e with
  | .ListComp _ _ _ _ => match c with
    | .lc _ _ _ _ _ _ => true
    | _ => false
  | _ => true
def lcOnlyC (b : Blk) (x : Str) (c : E) (e : Expr) : Bool := lcOnly c e || decide (b.sc.names.lookup x = some .cell)
mutual
def chkS (Γ : Sk) (b : Blk) : S → Stmt → Bool
  | .asg i c, s => match s with
    | .Assign [.Name x p] e _ => tgB b i x && swB b x p e && lcOnlyC b x c e && chk Γ b c e
    | _ => false
  | .setix o i c, s => match s with
    | .Assign [.Subscript eo ei _] e _ => noSlice ei && noComp e && chk Γ b c e && chk Γ b o eo && chk Γ b i ei
    | _ => false
  | .ret c, s => match s with
    | .Return (some e) _ => chk Γ b c e
    | _ => false
  | .ife c p q, s => match s with
    | .If e a d _ => chk Γ b c e && chkSs Γ b p a && chkSs Γ b q d
    | _ => false
  | .for_ is it ies p, s => match s with
    | .For tg iter a [] _ => noSet iter && targB b is tg && enB it tg && chkIt Γ b it ies iter && chkSs Γ b p a
    | _ => false
  | .pass, s => match s with
    | .Pass _ => true
    | _ => false
def chkSs (Γ : Sk) (b : Blk) : List S → List Stmt → Bool
  | [], ss => match ss with
    | [] => true
    | _ :: _ => false
  | q :: qs, ss => match ss with
    | s :: ss => chkS Γ b q s && chkSs Γ b qs ss
    | [] => false
end
theorem sw_cell {elt : Expr} {gs : List Comprehension} {scope : Scope} {pos py : Pos} {y : Str} {l : Nat} {env : Env} (hy : env.scope.names.lookup y = some .cell) : swapsWith (.ListComp elt gs scope pos) (some (.Name y py)) l env = pure false := by
  have ky : env.kindOf y = some .cell := hy
  show (pure (env.blockKind == .function && env.kindOf y == some .local && py.line == pos.line && !(scope.names.any fun (n, k) => n == y && (k == .local || k == .cell))) : Sem Bool) = pure false
  rw [ky, show ((some NameKind.cell == some NameKind.local) = false) from rfl]
  simp
theorem asg_ok {X : Cx} {Γ : Ctx} {b : Blk} {k : Nat} {i : Nat} {x : Str} {p pos : Pos} {c : E} {e : Expr} (C : CxOk X Γ b k) (h1 : tgB b i x = true) (h2 : swB b x p e = true) (h0 : lcOnlyC b x c e = true) (h : chk Γ.sk b c e = true) : PS X (.Assign [.Name x p] e pos) (tAsg (LE X Γ.pin false (wE Γ false c)) (gName i)) := by
  have h1' := h1
  unfold tgB at h1
  simp only [Bool.and_eq_true, decide_eq_true_eq] at h1
  obtain ⟨l1, l2⟩ := C.loc h1.2
  have plain : noComp e = true → PS X (.Assign [.Name x p] e pos) (tAsg (LE X Γ.pin false (wE Γ false c)) (gName i)) := fun hc =>
    ps_set (by rw [C.N]; exact C.nd) (by rw [C.N]; exact h1.1) l1 ((sE Γ k c b e X C h).pe false) (by cases e <;> first | rfl | (exact (Bool.noConfusion hc))) l2
  unfold swB at h2
  split at h2
  · rename_i e1 gs scope lpos
    simp only [Bool.and_eq_true, Bool.or_eq_true, decide_eq_true_eq, Bool.not_eq_true'] at h2
    rcases h2 with hcell | h2
    · exact ps_set (by rw [C.N]; exact C.nd) (by rw [C.N]; exact h1.1) l1 ((sE Γ k c b _ X C h).pe false) (sw_cell (by rw [C.sc]; exact hcell)) l2
    replace h0 : lcOnly c (.ListComp e1 gs scope lpos) = true := by
      unfold lcOnlyC at h0
      rw [Bool.or_eq_true] at h0
      rcases h0 with z | z
      · exact z
      · have z := of_decide_eq_true z
        rw [h2.1.1] at z
        cases z
    cases c with
    | lc is bor elt it ies cond =>
      unfold chk at h
      split at h
      · rename_i heq
        cases heq
        simp only [Bool.and_eq_true, decide_eq_true_eq, beq_iff_eq] at h
        obtain ⟨⟨⟨⟨⟨⟨⟨⟨⟨⟨⟨h1, h3⟩, h4⟩, h5⟩, h6⟩, h7⟩, h8⟩, h9⟩, h10⟩, h11⟩, h12⟩, h13⟩ := h
        subst h1
        refine ls_lc C (free_of h3) h4 h5 h6 h7 h8 (fun pu bor => sI Γ k it ies b _ X _ C h9 h13) (fun X' C' => (sE Γ k elt _ _ X' C' h10).pe) ?_ h1.1 h2.1.1 h2.1.2 h2.2
        rename_i ifs
        cases ifs with
        | nil => exact .inl ⟨rfl, by cases cond with | nil => rfl | cons _ _ => simp [chkL] at h11⟩
        | cons ec ifs =>
          cases ifs with
          | cons _ _ => simp at h12
          | nil =>
            cases cond with
            | nil => simp [chkL] at h11
            | cons c cond =>
              cases cond with
              | cons _ _ => simp [chkL] at h11
              | nil =>
                refine .inr ⟨ec, c, rfl, rfl, fun X' C' => ?_⟩
                simp only [chkL, Bool.and_eq_true] at h11
                exact (sE Γ k c _ _ X' C' h11.1.2).pt
      · cases h
    | _ => exact (Bool.noConfusion h0)
  · exact plain h2
/-- what a def's statements ask of their context, beyond CxOk -/
structure XxOk (X : Cx) (W : WX) : Prop where
  st : X.stack = X.env :: X.outer
  fr : X.env.frame = some X.env.locals
  ex : X.ex = []
  tk : Takes X W
  own : PassesOwn (model X.prog X.w) X.A X.env X.xe
mutual
theorem sS (Γ : Ctx) (k : Nat) {b : Blk} : ∀ (q : S) (s : Stmt) {X : Cx} {W : WX}, CxOk X Γ b k → XxOk X W → chkS Γ.sk b q s = true → PS X s (LS X W Γ.pin (wS Γ q))
  | .asg i c, s, X, W, C, xx, h => by
    unfold chkS at h
    split at h
    · simp only [Bool.and_eq_true] at h
      exact ls_asg (asg_ok C h.1.1.1 h.1.1.2 h.1.2 h.2)
    · cases h
  | .setix o i c, s, X, W, C, xx, h => by
    unfold chkS at h
    split at h
    · simp only [Bool.and_eq_true] at h
      exact ls_setix (sE Γ k c b _ X C h.1.1.2).pe (sE Γ k o b _ X C h.1.2).pe (sE Γ k i b _ X C h.2).pe h.1.1.1.1 h.1.1.1.2
    · cases h
  | .ret c, s, X, W, C, xx, h => by
    unfold chkS at h
    split at h
    · exact ls_ret (sE Γ k c b _ X C h).pe
    · cases h
  | .ife c p q, s, X, W, C, xx, h => by
    unfold chkS at h
    split at h
    · simp only [Bool.and_eq_true] at h
      exact ls_if (sE Γ k c b _ X C h.1.1).pt (sSs Γ k p _ C xx h.1.2) (sSs Γ k q _ C xx h.2)
    · cases h
  | .for_ is it ies p, s, X, W, C, xx, h => by
    unfold chkS at h
    split at h
    · simp only [Bool.and_eq_true] at h
      obtain ⟨⟨⟨⟨h1, h2⟩, h3⟩, h4⟩, h5⟩ := h
      exact ls_for xx.own C h1 h2 (fun pu bor => sI Γ k it ies b _ X _ C h4 h3) (sSs Γ k p _ C xx h5)
    · cases h
  | .pass, s, X, W, C, xx, h => by
    unfold chkS at h
    split at h
    · exact ls_pass
    · cases h
theorem sSs (Γ : Ctx) (k : Nat) {b : Blk} : ∀ (qs : List S) (ss : List Stmt) {X : Cx} {W : WX}, CxOk X Γ b k → XxOk X W → chkSs Γ.sk b qs ss = true → PSs X ss (LS X W Γ.pin (wSs Γ qs))
  | [], ss, X, W, C, xx, h => by
    unfold chkSs at h
    split at h
    · exact ls_nil
    · cases h
  | q :: qs, ss, X, W, C, xx, h => by
    unfold chkSs at h
    split at h
    · simp only [Bool.and_eq_true] at h
      exact ls_cons (sS Γ k q _ C xx h.1) (sSs Γ k qs _ C xx h.2)
    · cases h
end
/-- the slots of the arguments that may be changed -/
def ownIx : List Md → Nat → List Nat
  | [], _ => []
  | .own :: ms, i => i :: ownIx ms (i + 1)
  | .bor :: ms, i => ownIx ms (i + 1)
/-- the arguments behind the call -/
def outs : List Md → List T → St → Option (List T)
  | [], _, _ => some []
  | .own :: ms, _ :: ts, s :: σ => if s.isDead then none else (outs ms ts σ).map (s :: ·)
  | .bor :: ms, _ :: ts, _ :: σ => (outs ms ts σ).map (.dead :: ·)
  | _ :: _, _, _ => none
def outW (md : List Md) (ts : List T) (σ : St) (K : List T → Prop) : Prop := match outs md ts σ with
  | some us => K us
  | none => False
def ends (md : List Md) (ts : List T) (Q : T → List T → Prop) : AE := { nx := fun σ => outW md ts σ fun us => Q (.d .none) us, rt := fun r σ => outW md ts σ fun us => Q r us }
/-- what a body owes -/
def bodyW (Γ : Ctx) (N : List Str) (md : List Md) (body : List S) (F : List T → (T → List T → Prop) → Prop) : Prop :=
  ∀ ts Q, F ts Q → ts.length = md.length → wSs Γ body (ends md ts Q) (ts ++ List.replicate (N.length - ts.length) .dead)
def outsA : List Md → List TA → List TA → List TA
  | [], _, _ => []
  | .own :: ms, _ :: as, s :: sl => s :: outsA ms as sl
  | .bor :: ms, a :: as, _ :: sl => .dead a.v :: outsA ms as sl
  | _ :: _, _, _ => []
/-- the pins -/
def pinsV : List Md → List V → Nat → List (Nat × V)
  | .own :: ms, v :: vs, i => (i, v) :: pinsV ms vs (i + 1)
  | .bor :: ms, _ :: vs, i => pinsV ms vs (i + 1)
  | _, _, _ => []
theorem pinsV_mem : ∀ {md : List Md} {vs : List V} {i : Nat} {p : Nat × V}, p ∈ pinsV md vs i → ∃ j : Nat, p.1 = i + j ∧ md[j]? = some .own ∧ vs[j]? = some p.2
  | [], vs, i, p, h => by cases vs <;> simp [pinsV] at h
  | m :: ms, [], i, p, h => by cases m <;> simp [pinsV] at h
  | .own :: ms, v :: vs, i, p, h => by
    rw [pinsV] at h
    rcases List.mem_cons.mp h with rfl | h
    · exact ⟨0, rfl, rfl, rfl⟩
    · obtain ⟨j, h1, h2, h3⟩ := pinsV_mem h
      exact ⟨j + 1, by omega, h2, h3⟩
  | .bor :: ms, v :: vs, i, p, h => by
    rw [pinsV] at h
    obtain ⟨j, h1, h2, h3⟩ := pinsV_mem h
    exact ⟨j + 1, by omega, h2, h3⟩
theorem pinsV_in : ∀ {md : List Md} {vs : List V} {i j : Nat} {v : V}, md[j]? = some .own → vs[j]? = some v → (i + j, v) ∈ pinsV md vs i
  | [], vs, i, j, v, h, _ => by simp at h
  | m :: ms, [], i, j, v, _, h => by simp at h
  | .own :: ms, w :: vs, i, 0, v, h, h2 => by
    simp at h2
    subst h2
    simp [pinsV]
  | .bor :: ms, w :: vs, i, 0, v, h, h2 => by simp at h
  | .own :: ms, w :: vs, i, j + 1, v, h, h2 => by
    have := pinsV_in (i := i + 1) (by simpa using h) (by simpa using h2)
    rw [pinsV]
    refine List.mem_cons_of_mem _ ?_
    rw [show i + (j + 1) = i + 1 + j by omega]
    exact this
  | .bor :: ms, w :: vs, i, j + 1, v, h, h2 => by
    have := pinsV_in (i := i + 1) (by simpa using h) (by simpa using h2)
    rw [pinsV]
    rw [show i + (j + 1) = i + 1 + j by omega]
    exact this
theorem ownIx_mem : ∀ {md : List Md} {i j : Nat}, md[j]? = some .own → i + j ∈ ownIx md i
  | [], i, j, h => by simp at h
  | .own :: ms, i, 0, h => by simp [ownIx]
  | .bor :: ms, i, 0, h => by simp at h
  | .own :: ms, i, j + 1, h => by
    rw [ownIx, show i + (j + 1) = i + 1 + j by omega]
    exact List.mem_cons_of_mem _ (ownIx_mem (by simpa using h))
  | .bor :: ms, i, j + 1, h => by
    rw [ownIx, show i + (j + 1) = i + 1 + j by omega]
    exact ownIx_mem (by simpa using h)
theorem outsA_spec : ∀ {md : List Md} {as sl : List TA}, as.length = md.length → md.length ≤ sl.length → (outsA md as sl).length = md.length ∧ (∀ (j : Nat), md[j]? = some .own → (outsA md as sl)[j]? = sl[j]?) ∧ (∀ (j : Nat), md[j]? = some .bor → (outsA md as sl)[j]? = (as[j]?).map fun a => .dead a.v)
  | [], as, sl, _, _ => ⟨rfl, fun j h => by simp at h, fun j h => by simp at h⟩
  | m :: ms, [], sl, h, _ => by simp at h
  | m :: ms, a :: as, [], _, h => by simp at h
  | m :: ms, a :: as, s :: sl, h1, h2 => by
    obtain ⟨l, f, g⟩ := outsA_spec (md := ms) (as := as) (sl := sl) (by simpa using h1) (by simpa using h2)
    cases m with
    | own =>
      rw [outsA]
      refine ⟨by simp [l], fun j hj => ?_, fun j hj => ?_⟩
      · cases j with
        | zero => rfl
        | succ j => simpa using f j (by simpa using hj)
      · cases j with
        | zero => simp at hj
        | succ j => simpa using g j (by simpa using hj)
    | bor =>
      rw [outsA]
      refine ⟨by simp [l], fun j hj => ?_, fun j hj => ?_⟩
      · cases j with
        | zero => simp at hj
        | succ j => simpa using f j (by simpa using hj)
      · cases j with
        | zero => rfl
        | succ j => simpa using g j (by simpa using hj)
theorem outsA_fp : ∀ {md : List Md} {as sl : List TA}, (TA.fpl (outsA md as sl)).Sublist (TA.fpl sl)
  | [], as, sl => by rw [outsA, TA.fpl]; exact List.nil_sublist _
  | m :: ms, [], sl => by cases m <;> (simp only [outsA, TA.fpl]; exact List.nil_sublist _)
  | m :: ms, a :: as, [] => by cases m <;> (simp only [outsA, TA.fpl]; exact List.nil_sublist _)
  | .own :: ms, a :: as, s :: sl => by
    rw [outsA, TA.fpl, TA.fpl]
    exact List.Sublist.append (List.Sublist.refl _) outsA_fp
  | .bor :: ms, a :: as, s :: sl => by
    rw [outsA, TA.fpl, TA.fpl, TA.fp, List.nil_append]
    exact outsA_fp.trans (List.sublist_append_right _ _)
theorem outs_tl : ∀ {md : List Md} {as sl : List TA} {us : List T}, outs md (TA.tl as) (TA.tl sl) = some us → us = TA.tl (outsA md as sl) ∧ ∀ (j : Nat) t, md[j]? = some .own → sl[j]? = some t → t.isDead = false
  | [], as, sl, us, h => by
    rw [outs] at h
    cases h
    exact ⟨by rw [outsA, TA.tl], fun j t h => by simp at h⟩
  | m :: ms, [], sl, us, h => by cases m <;> simp [TA.tl, outs] at h
  | m :: ms, a :: as, [], us, h => by cases m <;> simp [TA.tl, outs] at h
  | .own :: ms, a :: as, s :: sl, us, h => by
    rw [TA.tl, TA.tl, outs] at h
    split at h
    · cases h
    · rename_i hd
      obtain ⟨us', e1, rfl⟩ := Option.map_eq_some_iff.mp h
      obtain ⟨e2, f⟩ := outs_tl e1
      refine ⟨by rw [outsA, TA.tl, e2], fun j t h1 h2 => ?_⟩
      cases j with
      | zero =>
        simp at h2
        subst h2
        rw [TA.isDead_t] at hd
        simpa using hd
      | succ j => exact f j t (by simpa using h1) (by simpa using h2)
  | .bor :: ms, a :: as, s :: sl, us, h => by
    rw [TA.tl, TA.tl, outs] at h
    obtain ⟨us', e1, rfl⟩ := Option.map_eq_some_iff.mp h
    obtain ⟨e2, f⟩ := outs_tl e1
    refine ⟨by rw [outsA, TA.tl, e2, TA.t], fun j t h1 h2 => ?_⟩
    cases j with
    | zero => simp at h1
    | succ j => exact f j t (by simpa using h1) (by simpa using h2)
theorem outs_len : ∀ {md : List Md} {ts : List T} {σ : St} {us : List T}, outs md ts σ = some us → md.length ≤ σ.length
  | [], _, _, _, _ => Nat.zero_le _
  | m :: ms, [], σ, us, h => by cases m <;> simp [outs] at h
  | m :: ms, t :: ts, [], us, h => by cases m <;> simp [outs] at h
  | .own :: ms, t :: ts, s :: σ, us, h => by
    rw [outs] at h
    split at h
    · cases h
    · obtain ⟨us', e1, _⟩ := Option.map_eq_some_iff.mp h
      simpa using outs_len e1
  | .bor :: ms, t :: ts, s :: σ, us, h => by
    rw [outs] at h
    obtain ⟨us', e1, _⟩ := Option.map_eq_some_iff.mp h
    simpa using outs_len e1
/-- a def that makes lambdas: its code object, its table -/
def LamOk (K : PySem.W.Frag) (mg : Str → Option Value) (base : Heap) (f : Addr) (qual : Str) : Prop :=
  ∃ c P, tabOf K f = some (c, P) ∧ LamX.TabB base mg c P ∧ (P, (qual ++ (".<locals>." : Str)) ++ ("<lambda>" : Str)) ∈ tabsK K ∧ ∀ p ∈ tabsK K, p.1 = P → p.2 = (qual ++ (".<locals>." : Str)) ++ ("<lambda>" : Str)
theorem tabOf_code {K : PySem.W.Frag} {f : Addr} {oc : Value} {od : Option Addr} {fd : FuncData} {osl : Array (Option Value)} {c P : Addr} (lk : K.lookup f = some ⟨oc, od, .func fd, osl⟩) (h : tabOf K f = some (c, P)) : fd.code = .ref c := by
  unfold tabOf at h
  rw [lk] at h
  simp only at h
  split at h
  · rename_i c0 e
    split at h
    · split at h
      · cases h
        exact e
      · cases h
    · cases h
  · cases h
/-- what a context of calls and names needs -/
structure GOk (P : Program) (w : World) (K : PySem.W.Frag) (mg : Str → Option Value) (base : Heap) (Γ : Ctx) (k : Nat) : Prop where
  glob : ∀ g x, Γ.glob.lookup g = some x → ∃ v u, mg g = some u ∧ RelV v u ∧ ∀ Hs, Rp K Hs v x
  bi : ∀ n ∈ Γ.bs, mg n = none
  fns : ∀ f fs, Γ.fn.lookup f = some fs → ∃ a fd ps, FnG P w K mg base CX0 k a fd ps (spV K fs.md fs.F) ∧ mg f = some (.ref a) ∧ PySem.W.keepIn K (.ref a) = true ∧ Binds K fd ps []
  cls : ∀ c ci, Γ.cls.lookup c = some ci → ClsOk P w K mg base k c ci
  xfns : ∀ f fs, Γ.xfn.lookup f = some fs → ∃ a fd ps, FnG P w K mg base (L2.CX P w) k a fd ps (spX K mg fs.md fs.F) ∧ mg f = some (.ref a) ∧ PySem.W.keepIn K (.ref a) = true ∧ Binds K fd ps []
  xcls : ∀ c ci, Γ.xcls.lookup c = some ci → ClsX P w K mg base k c ci
  xc : ∀ n xi, Γ.xc.lookup n = some xi → XcOk K mg n xi
  pms : ∀ m ps, Γ.pms.lookup m = some ps → ∃ ci g fd pn, Γ.cls.lookup ps.c = some ci ∧ Meth K ci.C m g ∧ FnG P w K mg base CX0 k g fd pn (spP K ps.md ps.F) ∧ Binds K fd pn []
  xo : ∀ n xo, Γ.xo.lookup n = some xo → XoOk P w K mg base k n xo
  wd : ∀ v, Γ.wd = some v → v = w
section
variable {P : Program} {w : World} {K : PySem.W.Frag} {mg : Str → Option Value} {base : Heap}
theorem rel_start {N : List Str} {md : List Md} {Hs H : Hp} {vs : List V} {as : List TA} (hl : vs.length = md.length) (hN : vs.length ≤ N.length) (R : Rel K ⟨⟨H, Hs, TA.fpl as ++ tabA K, []⟩, []⟩ Hs H (vs.map some) as []) (hv : as.map TA.v = vs) :
    Rel K ⟨⟨H, Hs, TA.fpl as ++ tabA K, pinsV md vs 0⟩, ownIx md 0⟩ Hs H (L2.start N vs) (as ++ List.replicate (N.length - vs.length) (.dead .non)) [] := by
  have fr : ∀ n, TA.fpl (List.replicate n (TA.dead V.non)) = [] := fun n => by
    induction n with
    | zero => rfl
    | succ n ih => rw [List.replicate_succ, TA.fpl, ih]; rfl
  have ha : as.length = vs.length := by rw [← hv, List.length_map]
  have ef : TA.fpl ((as ++ List.replicate (N.length - vs.length) (.dead .non)) ++ []) = TA.fpl (as ++ []) := by rw [List.append_nil, List.append_nil, TA.fpl_append, fr, List.append_nil]
  refine ⟨?_, fun i t ht hd => ?_, ?_, by rw [ef]; exact R.uq, by rw [ef]; exact R.out, R.sub, R.keep, by rw [ef]; exact R.fresh, R.hs, R.hsNew, fun t ht => ?_, fun p hp => ?_, R.tab, R.tabB⟩
  · unfold L2.start
    rw [List.length_append, List.length_append, List.length_replicate, List.length_replicate, List.length_map, ha]
  · by_cases hi : i < as.length
    · rw [List.getElem?_append_left hi] at ht
      have := R.val i t ht hd
      unfold L2.start
      rw [List.getElem?_append_left (by rw [List.length_map, ← ha]; exact hi)]
      exact this
    · rw [List.getElem?_append_right (by omega)] at ht
      have := List.mem_of_getElem? ht
      rw [(List.mem_replicate.mp this).2] at hd
      cases hd
  · rw [List.append_nil]
    have := R.ok
    rw [List.append_nil] at this
    refine TA.okl_append.mpr ⟨this, TA.okl_all.mpr fun t ht => ?_⟩
    rw [(List.mem_replicate.mp ht).2, TA.ok]
    trivial
  · rcases List.mem_append.mp ht with z | z
    · exact R.ntup t z
    · rw [(List.mem_replicate.mp z).2]
      rfl
  · obtain ⟨j, e1, e2, e3⟩ := pinsV_mem hp
    have hj : j < as.length := by rw [ha]; exact (List.getElem?_eq_some_iff.mp e3).1
    refine ⟨by rw [e1]; exact ownIx_mem e2, as[j], ?_, ?_, by
      rw [e1, Nat.zero_add]
      unfold L2.start
      rw [List.getElem?_append_left (by rw [List.length_map, ← ha]; exact hj), List.getElem?_map, e3]
      rfl⟩
    · rw [e1, Nat.zero_add, List.getElem?_append_left hj, List.getElem?_eq_getElem hj]
    · rw [← hv, List.getElem?_map, List.getElem?_eq_getElem hj] at e3
      exact Option.some.inj e3
theorem rel_end {md : List Md} {Hs H Hs' H' : Hp} {vs : List V} {as sl : List TA} {σ : L2.St} {x : TA} {us : List T} (hl : vs.length = md.length) (R0 : Rel K ⟨⟨H, Hs, TA.fpl as ++ tabA K, []⟩, []⟩ Hs H (vs.map some) as []) (hv : as.map TA.v = vs) (hd : ∀ t ∈ as, t.isDead = false)
    (hb : ∀ (i : Nat) (t : TA), md[i]? = some Md.bor → as[i]? = some t → ∃ v x, t = TA.d v x) (R : Rel K ⟨⟨H, Hs, TA.fpl as ++ tabA K, pinsV md vs 0⟩, ownIx md 0⟩ Hs' H' σ sl [x]) (hlen : md.length ≤ sl.length) (ho : outs md (TA.tl as) (TA.tl sl) = some us) :
    us = TA.tl (outsA md as sl) ∧ Rel K ⟨⟨H, Hs, TA.fpl as ++ tabA K, []⟩, []⟩ Hs' H' (vs.map some) (outsA md as sl) [x] ∧ (outsA md as sl).map TA.v = vs ∧ ∀ (i : Nat) (t : TA), md[i]? = some Md.own → (outsA md as sl)[i]? = some t → t.isDead = false := by
  obtain ⟨e1, nd⟩ := outs_tl ho
  have ha : as.length = md.length := by rw [← hl, ← hv, List.length_map]
  obtain ⟨l, f, g⟩ := outsA_spec (md := md) (as := as) (sl := sl) ha hlen
  have sb : (TA.fpl (outsA md as sl)).Sublist (TA.fpl sl) := outsA_fp
  have sb2 : (TA.fpl (outsA md as sl ++ [x])).Sublist (TA.fpl (sl ++ [x])) := by
    rw [TA.fpl_append, TA.fpl_append]
    exact sb.append (List.Sublist.refl _)
  -- each of them
  have each : ∀ (j : Nat) t, (outsA md as sl)[j]? = some t → (md[j]? = some .own → t.isDead = false) ∧ vs[j]? = some t.v ∧ t.ok K Hs' H' ∧ t.noTup = true := fun j t ht => by
    have hj : j < md.length := by rw [← l]; exact (List.getElem?_eq_some_iff.mp ht).1
    cases hm : md[j] with
    | own =>
      have hm' : md[j]? = some .own := by rw [List.getElem?_eq_getElem hj, hm]
      rw [f j hm'] at ht
      have hjv : j < vs.length := by omega
      obtain ⟨_, t', h1, h2⟩ := R.pin (0 + j, vs[j]) (pinsV_in hm' (List.getElem?_eq_getElem hjv))
      simp only [Nat.zero_add] at h1
      rw [ht] at h1
      cases h1
      exact ⟨fun _ => nd j t hm' ht, by rw [List.getElem?_eq_getElem hjv, h2.1], R.slot_ok ht, R.ntup t (List.mem_of_getElem? ht)⟩
    | bor =>
      have hm' : md[j]? = some .bor := by rw [List.getElem?_eq_getElem hj, hm]
      rw [g j hm'] at ht
      obtain ⟨t0, h0, rfl⟩ := Option.map_eq_some_iff.mp ht
      refine ⟨fun z => ?_, by rw [← hv, List.getElem?_map, h0]; rfl, by rw [TA.ok]; trivial, rfl⟩
      rw [hm'] at z
      cases z
  have eachm : ∀ t ∈ outsA md as sl, t.ok K Hs' H' ∧ t.noTup = true := fun t ht => by
    obtain ⟨j, hj, rfl⟩ := List.mem_iff_getElem.mp ht
    obtain ⟨a, b, c, d⟩ := each j _ (List.getElem?_eq_getElem hj)
    exact ⟨c, d⟩
  refine ⟨e1, ⟨by rw [l, List.length_map, hl], fun i t ht _ => by rw [List.getElem?_map, (each i t ht).2.1]; rfl, TA.okl_append.mpr ⟨TA.okl_all.mpr fun t ht => (eachm t ht).1, R.okT⟩, sb2.nodup R.uq, fun a ha => R.out a (sb2.subset ha), R.sub, R.keep, fun a ha => R.fresh a (sb2.subset ha), R.hs, R.hsNew, fun t ht => (eachm t ht).2, (fun p hp => by cases hp), R.tab, R.tabB⟩, ?_, fun j t h1 h2 => (each j t h2).1 h1⟩
  apply List.ext_getElem?
  intro j
  by_cases hj : j < md.length
  · have ht := List.getElem?_eq_getElem (l := outsA md as sl) (i := j) (by rw [l]; exact hj)
    rw [List.getElem?_map, ht, (each j _ ht).2.1]
    rfl
  · rw [List.getElem?_eq_none (by rw [List.length_map, l]; omega), List.getElem?_eq_none (by omega)]
theorem fn_ok {x qual : Str} {st : Stmt} {f : Addr} {fd : FuncData} {N ps : List Str} {k : Nat} {Γ : Ctx} {md : List Md} {body : List S} {F : List T → (T → List T → Prop) → Prop} (Fn : Fun K x qual st f fd) (Sc : FnScope N ps (defScope st)) (hmd : md.length = ps.length)
    (G : GOk P w K mg base Γ k) (hpin : Γ.pin = ownIx md 0) (hchk : chkSs Γ.sk ⟨N, defScope st, fun _ => true⟩ body (defBody st) = true) (hF : bodyW Γ N md body F) (hlam : Γ.lam = true → LamOk K mg base f qual := by exact fun z => nomatch z) : FnG P w K mg base CX0 (k + 1) f fd ps (spV K md F) := by
  refine fun_okG Fn Sc (fun vs H Q E h => ?_) (fun cdv A outer s H vs Q E hc hR hr hgd h => ?_)
  · obtain ⟨_, _, _, hl, _⟩ := h
    rw [hl, hmd]
  · obtain ⟨Hs, as, Pq, hl, R0, hv, hd, hb, hf, hk⟩ := h
    have hpl : ps.length ≤ N.length := by
      have := congrArg List.length Sc.pre
      rw [List.length_take] at this
      omega
    have ha : as.length = md.length := by rw [← hl, ← hv, List.length_map]
    refine ⟨_, sSs Γ k body _ (X := (cxOf CX0 P w K mg base N qual (defScope st) f cdv A outer s H E).nox) (W := fun _ _ _ _ => False) (b := ⟨N, defScope st, fun _ => true⟩) ⟨rfl, rfl, rfl, room_out2 hr, hgd, Sc.nd, fun _ _ => rfl, G.glob, G.bi, G.fns, G.cls, G.xfns, G.xcls, G.xc, hr, G.pms, G.xo, G.wd, fun _ z => by
      obtain ⟨c, P, h1, h2, h3, h4⟩ := hlam z
      obtain ⟨oc, od, fd', osl, lk, e⟩ := hc
      exact ⟨fun env => room_lam hR _ env, fun env => room_lam2 hR _ env, c, P, e.symm.trans (tabOf_code lk h1), h2, h3, h4⟩⟩ ⟨rfl, rfl, rfl, fun _ _ z => by obtain ⟨_, _, _, _, _, _, _, _, _, _, _, _, _, _, _, _, z⟩ := z; exact z.elim, PassesOwn.never⟩ hchk, ?_⟩
    rw [hpin]
    refine ⟨_, Hs, _, { nx := fun σ => outW md (TA.tl as) σ fun us => Pq (.d .none) us, rt := fun r σ => outW md (TA.tl as) σ fun us => Pq r us }, rel_start hl (by omega) R0 hv, ?_, ?_⟩
    · have hw := hF (TA.tl as) Pq hf (by rw [tl_len, ha])
      have e : TA.tl (as ++ List.replicate (N.length - vs.length) (.dead .non)) = TA.tl as ++ List.replicate (N.length - (TA.tl as).length) .dead := by
        rw [tl_app, tl_len, ha, ← hl]
        congr 1
        rw [TA.tl_map, List.map_replicate]
        rfl
      rw [e]
      exact hw
    · have fin : ∀ (y : TA) Hs' H' σ' sl', Rel K ⟨⟨H, Hs, TA.fpl as ++ tabA K, pinsV md vs 0⟩, ownIx md 0⟩ Hs' H' σ' sl' [y] → y.isDead = false → outW md (TA.tl as) (TA.tl sl') (fun us => Pq y.t us) → Q y.v H' := fun y Hs' H' σ' sl' R1 yd ho => by
        unfold outW at ho
        split at ho
        · rename_i us hus
          have hlen : md.length ≤ sl'.length := by
            have := outs_len hus
            rw [tl_len] at this
            exact this
          obtain ⟨e1, R2, e3, e4⟩ := rel_end hl R0 hv hd hb R1 hlen hus
          exact hk H' Hs' _ y R2 e3 e4 yd (by rw [← e1]; exact ho)
        · exact ho.elim
      exact ⟨fun Hs' H' σ' sl' R1 ho => fin (.d .non .none) Hs' H' σ' sl' (Rel.leaf (K := K) (tp := []) R1 .non) rfl ho, fun y Hs' H' σ' sl' R1 yd ho => fin y Hs' H' σ' sl' R1 yd ho, fun _ _ _ _ _ z => z.elim, fun _ _ _ _ _ z => z.elim, fun _ _ _ _ _ _ _ _ z => z.elim⟩
end
def FLaw (n : Nat) : List T → (T → List T → Prop) → Prop := fun ts Q => ∃ ns : List Int, ns.length ≤ n ∧ ts = [.d (.list (ns.map .int))] ∧ ∀ us, Q (.d (.bool true)) us
theorem ints_rp {K : PySem.W.Frag} {H : Hp} : ∀ ns : List Int, RpAll K H (ns.map V.int) (ns.map PyData.int)
  | [] => .nil
  | n :: ns => .cons (.int n) (ints_rp ns)
/-- a heap without the tables that may grow -/
def cutT (K : PySem.W.Frag) (H : Hp) : Hp := fun a => if a ∈ tabA K then none else H a
theorem cutT_same {K : PySem.W.Frag} {H : Hp} : Same (cutT K H) H := fun a o e => by
  unfold cutT at e
  split at e
  · cases e
  · exact e
theorem law_sp {K : PySem.W.Frag} {H : Hp} {a : Addr} {ns : List Int} {n : Nat} {E : XK} (hl : ns.length ≤ n) (hT : ∀ p ∈ tabA K, H p = some (.tbl #[])) (hS0 : SqL K H a (ns.map V.int)) : spV K [.bor] (FLaw n) [.ref a] H (fun v _ => v = .bl true) E := by
  have hS : SqL K (cutT K H) a (ns.map V.int) := by
    rcases hS0 with z | z
    · refine .inl ?_
      have at_ : ∀ o, H a = some o → (∀ ps, o ≠ .tbl ps) → cutT K H a = some o := fun o e n => by
        unfold cutT
        rw [if_neg fun h => n _ (Option.some.inj (e.symm.trans (hT a h)))]
        exact e
      rcases z with z | ⟨ob, z⟩
      · exact .inl (at_ _ z fun ps q => by cases q)
      · exact .inr ⟨ob, at_ _ z fun ps q => by cases q⟩
    · exact .inr z
  have tb : TabsV K (cutT K H) H := ⟨fun p hp => ⟨#[], hT p.1 (List.mem_map.mpr ⟨p, hp, rfl⟩), True.intro, fun pos cv hc => by
    have z : codeAmong pos [] = some cv := hc
    simp [codeAmong] at z⟩, fun p hp => by unfold cutT; rw [if_pos hp]⟩
  refine ⟨cutT K H, [.d (.ref a) (.list (ns.map .int))], fun r _ => r = .d (.bool true), rfl, ⟨rfl, fun i t ht hd => ?_, ?_, ?_, ?_, cutT_same, fun a o h _ => h, ?_, Same.refl _, fun a h => .inl h, ?_, ?_, tb, fun a h => List.mem_append_right _ h⟩, rfl, ?_, ?_, ⟨ns, hl, rfl, fun _ => rfl⟩, fun H' Hs' as' r R _ _ _ hr => ?_⟩
  · cases i with
    | zero => simp at ht; subst ht; rfl
    | succ i => simp at ht
  · refine TA.okl_all.mpr fun t ht => ?_
    simp at ht
    subst ht
    rw [TA.ok]
    exact .lst hS (ints_rp ns)
  · simp [TA.fpl, TA.fp]
  · intro b hb
    simp [TA.fpl, TA.fp] at hb
  · intro b hb
    simp [TA.fpl, TA.fp] at hb
  · intro t ht
    simp at ht
    subst ht
    rfl
  · intro p hp
    cases hp
  · intro t ht
    simp at ht
    subst ht
    rfl
  · intro i t _ ht
    cases i with
    | zero => simp at ht; exact ⟨_, _, ht.symm⟩
    | succ i => simp at ht
  · have ok := R.okT
    cases r with
    | dead => cases hr
    | nd => cases hr
    | d v y =>
      rw [TA.t] at hr
      cases hr
      rw [TA.okl, TA.ok] at ok
      exact ok.1.bool_v
section
variable {P : Program} {w : World} {K : PySem.W.Frag} {mg : Str → Option Value} {base : Heap} {k : Nat}
def FnI (P : Program) (w : World) (K : PySem.W.Frag) (mg : Str → Option Value) (base : Heap) (k : Nat) (f : Str) (fs : FS) : Prop :=
  ∃ a fd ps, FnG P w K mg base CX0 k a fd ps (spV K fs.md fs.F) ∧ mg f = some (.ref a) ∧ PySem.W.keepIn K (.ref a) = true ∧ Binds K fd ps []
theorem FnI.mono {f : Str} {fs : FS} {j k : Nat} (h : FnI P w K mg base j f fs) (hjk : j ≤ k) : FnI P w K mg base k f fs := by
  obtain ⟨a, fd, ps, h1, h2⟩ := h
  exact ⟨a, fd, ps, h1.mono hjk, h2⟩
theorem fns_nil : ∀ f fs, ([] : List (Str × FS)).lookup f = some fs → FnI P w K mg base k f fs := fun f fs h => by cases h
theorem fns_cons {f0 : Str} {fs0 : FS} {l : List (Str × FS)} (h1 : FnI P w K mg base k f0 fs0) (h2 : ∀ f fs, l.lookup f = some fs → FnI P w K mg base k f fs) : ∀ f fs, ((f0, fs0) :: l).lookup f = some fs → FnI P w K mg base k f fs := fun f fs h => by
  rw [List.lookup_cons] at h
  split at h
  · rename_i e
    have e' : f = f0 := by simpa using e
    subst e'
    cases h
    exact h1
  · exact h2 f fs h
theorem bi_nil : ∀ n ∈ ([] : List Str), mg n = none := fun n h => by cases h
theorem bi_cons {n : Str} {l : List Str} (h1 : mg n = none) (h2 : ∀ n ∈ l, mg n = none) : ∀ m ∈ n :: l, mg m = none := fun m h => by
  rcases List.mem_cons.mp h with rfl | h
  · exact h1
  · exact h2 m h
theorem gl_nil : ∀ g x, ([] : List (Str × PyData)).lookup g = some x → ∃ v u, mg g = some u ∧ RelV v u ∧ ∀ Hs, Rp K Hs v x := fun g x h => by cases h
theorem cl_nil : ∀ c ci, ([] : List (Str × CI)).lookup c = some ci → ClsOk P w K mg base k c ci := fun c ci h => by cases h
/-- a def, ready to be called -/
theorem fn_in {x qual : Str} {st : Stmt} {f : Addr} {fd : FuncData} {N ps : List Str} {Γ : Ctx} {md : List Md} {body : List S} {F : List T → (T → List T → Prop) → Prop} (Fn : Fun K x qual st f fd) (hmg : mg x = some (.ref f)) (hb : Binds K fd ps []) (Sc : FnScope N ps (defScope st)) (hmd : md.length = ps.length)
    (G : GOk P w K mg base Γ k) (hpin : Γ.pin = ownIx md 0) (hchk : chkSs Γ.sk ⟨N, defScope st, fun _ => true⟩ body (defBody st) = true) (hF : bodyW Γ N md body F) (hlam : Γ.lam = true → LamOk K mg base f qual := by exact fun z => nomatch z) : FnI P w K mg base (k + 1) x ⟨md, F⟩ :=
  ⟨f, fd, ps, fn_ok Fn Sc hmd G hpin hchk hF hlam, hmg, Fn.kp, hb⟩
/-- .. that may raise -/
def FnX (P : Program) (w : World) (K : PySem.W.Frag) (mg : Str → Option Value) (base : Heap) (k : Nat) (f : Str) (fs : FS) : Prop :=
  ∃ a fd ps, FnG P w K mg base (L2.CX P w) k a fd ps (spX K mg fs.md fs.F) ∧ mg f = some (.ref a) ∧ PySem.W.keepIn K (.ref a) = true ∧ Binds K fd ps []
theorem FnX.mono {f : Str} {fs : FS} {j k : Nat} (h : FnX P w K mg base j f fs) (hjk : j ≤ k) : FnX P w K mg base k f fs := by
  obtain ⟨a, fd, ps, h1, h2⟩ := h
  exact ⟨a, fd, ps, h1.mono hjk, h2⟩
theorem xfns_nil : ∀ f fs, ([] : List (Str × FS)).lookup f = some fs → FnX P w K mg base k f fs := fun f fs h => by cases h
theorem xcl_nil : ∀ c ci, ([] : List (Str × CI)).lookup c = some ci → ClsX P w K mg base k c ci := fun c ci h => by cases h
theorem xc_nil : ∀ n xi, ([] : List (Str × XI)).lookup n = some xi → XcOk K mg n xi := fun n xi h => by cases h
theorem xc_cons {n0 : Str} {xi0 : XI} {l : List (Str × XI)} (h1 : XcOk K mg n0 xi0) (h2 : ∀ n xi, l.lookup n = some xi → XcOk K mg n xi) : ∀ n xi, ((n0, xi0) :: l).lookup n = some xi → XcOk K mg n xi := fun n xi h => by
  rw [List.lookup_cons] at h
  split at h
  · rename_i e
    have e' : n = n0 := by simpa using e
    subst e'
    cases h
    exact h1
  · exact h2 n xi h
def IsOk (K : PySem.W.Frag) (mg : Str → Option Value) (C : Addr) (l : List (Str × Bool)) : Prop := ∀ h b, l.lookup h = some b → ∃ v cv, NmV mg h v cv ∧ PySem.W.kitOne K (.ref C) cv = some b ∧ PySem.W.exmOne K (.ref C) cv = some b
theorem is_nil {C : Addr} : IsOk K mg C [] := fun h b e => by cases e
theorem is_cons {C : Addr} {h0 : Str} {b0 : Bool} {v : V} {cv : Value} {l : List (Str × Bool)} (h1 : NmV mg h0 v cv) (h2 : PySem.W.kitOne K (.ref C) cv = some b0) (h3 : PySem.W.exmOne K (.ref C) cv = some b0) (h4 : IsOk K mg C l) : IsOk K mg C ((h0, b0) :: l) := fun h b e => by
  rw [List.lookup_cons] at e
  split at e
  · rename_i e1
    have e' : h = h0 := by simpa using e1
    subst e'
    cases e
    exact ⟨v, cv, h1, h2, h3⟩
  · exact h4 h b e
theorem is_own {C D : Addr} {h0 : Str} {b0 : Bool} {l : List (Str × Bool)} (h1 : mg h0 = some (.ref D)) (h2 : PySem.W.kitOne K (.ref C) (.ref D) = some b0) (h3 : PySem.W.exmOne K (.ref C) (.ref D) = some b0) (h4 : IsOk K mg C l) : IsOk K mg C ((h0, b0) :: l) := is_cons (.inl ⟨D, h1, rfl, rfl⟩) h2 h3 h4
theorem is_ve {C : Addr} {l : List (Str × Bool)} {b0 : Bool} (h1 : mg "ValueError" = none) (h2 : PySem.W.kitOne K (.ref C) (.type "ValueError") = some b0) (h3 : PySem.W.exmOne K (.ref C) (.type "ValueError") = some b0) (h4 : IsOk K mg C l) : IsOk K mg C (("ValueError", b0) :: l) := is_cons (.inr ⟨"ValueError", h1, by decide +kernel, rfl, rfl⟩) h2 h3 h4
/-- two classes of the module -/
theorem kit_own {C D : Addr} {b : Bool} (i : PySem.W.isClsIn K D = true) (t : PySem.W.typeIn K (.ref D) = some (.type "type")) (s : PySem.W.subIn K (.ref C) (.ref D) = some b) (r : PySem.W.subIn K (.ref D) (.ref D) = some true) : PySem.W.kitOne K (.ref C) (.ref D) = some b := by
  have c : PySem.W.kitCls K (.ref C) (.ref D) = some b := by
    unfold PySem.W.kitCls
    simp only
    rw [show (PySem.W.clsIn K D).isSome = true from i, t]
    simpa using s
  unfold PySem.W.kitOne
  split
  · rename_i e
    have e' : Value.ref C = Value.ref D := by simpa using e
    rw [e', r] at s
    exact s
  · exact c
theorem exm_own {C D : Addr} {b : Bool} (x : PySem.W.subIn K (.ref D) (.type "BaseException") = some true) (i : PySem.W.isClsIn K D = true) (t : PySem.W.typeIn K (.ref D) = some (.type "type")) (s : PySem.W.subIn K (.ref C) (.ref D) = some b) : PySem.W.exmOne K (.ref C) (.ref D) = some b := by
  unfold PySem.W.exmOne PySem.W.kitCls
  rw [x]
  simp only
  rw [show (PySem.W.clsIn K D).isSome = true from i, t]
  simpa using s
theorem kit_bi {C : Addr} {b : Bool} (s : PySem.W.subIn K (.ref C) (.type "ValueError") = some b) : PySem.W.kitOne K (.ref C) (.type "ValueError") = some b := by
  unfold PySem.W.kitOne PySem.W.kitCls
  rw [if_neg (by simp)]
  simp only
  rw [if_pos (by decide +kernel)]
  exact s
theorem exm_bi {C : Addr} {b : Bool} (x : PySem.W.subIn K (.type "ValueError") (.type "BaseException") = some true) (s : PySem.W.subIn K (.ref C) (.type "ValueError") = some b) : PySem.W.exmOne K (.ref C) (.type "ValueError") = some b := by
  unfold PySem.W.exmOne PySem.W.kitCls
  rw [x]
  simp only
  rw [if_pos (by decide +kernel : PySem.W.kitMeta "ValueError" = true)]
  simpa using s
theorem xc_of {n : Str} {C : Addr} {l : List (Str × Bool)} (gm : mg n = some (.ref C)) (kp : PySem.W.keepIn K (.ref C) = true) (e1 : PySem.W.findIn K (.ref C) "__getattribute__" = some (some (.builtin "BaseException.__getattribute__"))) (e2 : PySem.W.findIn K (.ref C) "__getattr__" = some none) (e3 : PySem.W.subIn K (.ref C) (.type "BaseException") = some true) (e4 : PySem.W.hasDictIn K C = true) (e5 : PySem.W.findIn K (.ref C) "__class__" = some (some (.builtin "object.__class__"))) (e6 : PySem.W.specialIn K (.builtin "object.__class__") "__get__" = some (some (.builtin "getset_descriptor.__get__"))) (e7 : PySem.W.takesIn K (.builtin "object.__class__") = some true) (e8 : PySem.W.mroIn K C (.type "object") = some true)
    (ty : PySem.W.typeIn K (.ref C) = some (.type "type")) (q : PySem.W.excIn K C [.type "ValueError", .type "Exception", .type "BaseException", .type "object"] "ValueError.__new__" = true) (is : IsOk K mg C l) : XcOk K mg n ⟨C, l⟩ :=
  ⟨gm, kp, ⟨e1, e2, e3, e4, e5, e6, e7, e8⟩, ty, ⟨_, _, _, _, PySem.F.excBase_ValueError, q⟩, is⟩
end
section
variable {P : Program} {w : World} {K : PySem.W.Frag} {mg mb : Str → Option Value} {CX : CXT} {k : Nat} {fa a : Addr} {fd : FuncData} {x : Str} {sp : Sp} {t1 : Shared} {us : List Value} {is : List Int} {tc : List (Addr × Addr)}
def Tc0 (K : PySem.W.Frag) (h : Heap) (tc : List (Addr × Addr)) : Prop := ∀ p ∈ tc, PySem.W.CodeHd h p.1 p.2 ∧ h.get? p.2 = some (PySem.W.tabObj #[]) ∧ K.lookup p.2 = none
def BmG (mg : Str → Option Value) (h : Heap) : Prop := ∃ (bm : Addr) (ob : Obj), mg "__builtins__" = some (.ref bm) ∧ bm ≠ builtinsNs ∧ h.get? bm = some ob ∧ ob.cls = .type "module" ∧ ob.dict = some builtinsNs ∧ ob.data = .plain
/-- from an abstract heap that holds the script and the tables at most -/
theorem law_midT (KX : K.In t1.heap) (gm : t1.heap.Ns mainGlobals mg) (gb : t1.heap.Ns builtinsNs mb) (bb : ∀ y : Str, y ≠ "__name__" → mb y = bootBuiltins y) (lim : t1.heap.NoLimit) (gens0 : t1.gens = #[]) (hbm : BmG mg t1.heap) (tab : Tc0 K t1.heap tc)
    (obj : t1.heap.get? a = some { cls := .type "list", data := .seq us.toArray }) (room : Room k callerA) (F : ∀ base : Heap, K.In base → base.Ns mainGlobals mg → (∀ p ∈ tc, LamX.TabB base mg p.1 p.2) → FnG P w K mg base CX k fa fd [x] sp) (bind : ∀ (s : Shared) (u : Value), BindsTo s fd ⟨[u], []⟩ [(x, u)])
    (noX : ∀ H e s', CX [] H t1 (fun _ _ _ => False) e s' → False) {H : Hp} (hT : ∀ p ∈ tc, H p.2 = some (.tbl #[])) (hO : ∀ b u, H b = some u → (b = a ∧ ∃ ob xs, u = .frz ob (.lst xs)) ∨ (∃ p ∈ tc, p.2 = b)) (hsp : sp [.ref a] H (fun v _ => v = .bl true) fun _ _ _ => False) (hok : HOk P w H t1.heap) (hK : H a ≠ none → K.lookup a = none) :
    codeAny (model P w) callerA (.call (.ref fa) ⟨[.ref a], []⟩) (fun r s' => r = .ok (.ret (.bool true)) ∧ OldK t1.heap s'.heap ∧ s'.os = t1.os ∧ AllBare s'.gens) t1 := by
  -- an object that is neither the script nor a table is not tracked
  have loose : ∀ {b : Addr} {o : Obj}, t1.heap.get? b = some o → (∀ vs n, o.data ≠ .seq vs n) → o ≠ PySem.W.tabObj #[] → H b = none := by
    intro b o g d1 d2
    cases q : H b with
    | none => rfl
    | some u =>
      rcases hO b u q with ⟨rfl, _⟩ | ⟨p, hp, rfl⟩
      · rw [obj] at g
        cases g
        exact (d1 _ _ rfl).elim
      · rw [(tab p hp).2.1] at g
        exact (d2 (Option.some.inj g).symm).elim
  have keepNs : ∀ {b : Addr} {m : Str → Option Value}, t1.heap.Ns b m → (hidT t1.heap H).Ns b m := by
    rintro b m ⟨o, es, ep, g, d, r⟩
    refine ⟨o, es, ep, hidT_get g (loose g (fun vs n z => ?_) fun z => ?_), d, r⟩
    · rw [d] at z
      cases z
    · rw [z] at d
      cases d
  have KB : K.In (hidT t1.heap H) := by
    intro b o g
    refine hidT_get (KX b o g) ?_
    cases q : H b with
    | none => rfl
    | some u =>
      rcases hO b u q with ⟨rfl, _⟩ | ⟨p, hp, rfl⟩
      · rw [hK (by rw [q]; simp)] at g
        cases g
      · rw [(tab p hp).2.2] at g
        cases g
  have md : Mod K mg (hidT t1.heap H) := by
    obtain ⟨mc, l1, l2⟩ := lim
    exact ⟨KB, keepNs gm, ⟨mb, keepNs gb, bb⟩, mc, keepNs l1, l2⟩
  have tbB : ∀ p ∈ tc, LamX.TabB (hidT t1.heap H) mg p.1 p.2 := by
    intro p hp
    obtain ⟨t1c, t1o, _⟩ := tab p hp
    have glob : ∃ (o : Obj) (es : Array DictEntry) (ep : Nat), t1.heap.get? mainGlobals = some o ∧ o.data = .dict es ep := by
      obtain ⟨o, es, ep, g, d, _⟩ := gm
      exact ⟨o, es, ep, g, d⟩
    obtain ⟨og, esg, epg, gg, dg⟩ := glob
    refine ⟨?_, ?_, fun z => ?_⟩
    · obtain ⟨o, vs, file, tf, flags, tg, inF, text, tt, c1, c2, c3, c4⟩ := t1c
      refine ⟨o, vs, file, tf, flags, tg, inF, text, tt, hidT_get c1 (loose c1 (fun us n z => ?_) fun z => ?_), c2, c3, c4⟩
      · rw [c3] at z
        cases z
      · rw [z] at c2
        cases c2
    · obtain ⟨bm, ob, m1, m2, m3, m4, m5, m6⟩ := hbm
      refine ⟨bm, ob, m1, m2, fun z => ?_, fun z => ?_, hidT_get m3 (loose m3 (fun us n z => ?_) fun z => ?_), m4, m5, m6⟩
      · rw [z, gg] at m3
        cases m3
        rw [dg] at m6
        cases m6
      · rw [z, t1o] at m3
        cases m3
        cases m6
      · rw [m6] at z
        cases z
      · rw [z] at m4
        cases m4
    · rw [z, t1o] at gg
      cases gg
      cases dg
  have env : Env0 P w K mg (hidT t1.heap H) callerA [] t1 H := by
    refine ⟨rfl, md, fun b o g => of_hidT g, Nat.le_of_eq (hidT_size _ _), trivial, fun b hb => ?_, hok, .of_eq gens0⟩
    cases (show b ∈ ([] : List Addr) from hb)
  refine codeAny_mono ((F _ KB (keepNs gm) tbB).run callerA [] t1 H ⟨[.ref a], []⟩ [.ref a] [.ref a] _ _ room rfl env (bind t1 (.ref a)) (.cons rfl .nil) hsp) fun res s' hres => ?_
  match res, hres with
  | .error e, z => exact (noX H e s' z).elim
  | .ok (.ret u), ⟨v, H', os, bare, un, hok', rv, q⟩ =>
    have q' : v = .bl true := q
    subst q'
    have eu : u = Value.bool true := rv
    subst eu
    have other : ∀ b o, (∀ p ∈ tc, p.2 ≠ b) → t1.heap.get? b = some o → s'.heap.get? b = some o := by
      intro b o nb g
      cases hb : H b with
      | none =>
        refine un.keep b o g hb (fun z => ?_) (by simp)
        cases (show b ∈ ([] : List Addr) from z)
      | some hobj =>
        rcases hO b hobj hb with ⟨_, ob, xs, rfl⟩ | ⟨p, hp, e⟩
        · obtain ⟨g1, _⟩ := hok b _ hb
          obtain ⟨g2, _⟩ := hok' b _ (un.frzs b ob _ hb)
          rw [g] at g1
          cases g1
          exact g2
        · exact (nb p hp e).elim
    have table : ∀ p ∈ tc, ∃ more : Array Value, s'.heap.get? p.2 = some (PySem.W.tabObj more) := by
      intro p hp
      obtain ⟨more, z⟩ := un.tbls p.2 #[] (hT p hp)
      exact ⟨_, hok' p.2 _ z⟩
    refine ⟨rfl, ⟨fun b o g => ?_, fun b o g => ?_⟩, os, bare⟩
    · by_cases nb : ∀ p ∈ tc, p.2 ≠ b
      · exact .inl (other b o nb g)
      · obtain ⟨p, hp, rfl⟩ : ∃ p, p ∈ tc ∧ p.2 = b := by
          refine Decidable.byContradiction fun z => nb fun p hp e => z ⟨p, hp, e⟩
        obtain ⟨more, hm⟩ := table p hp
        obtain ⟨c1, c2, _⟩ := tab p hp
        rw [c2] at g
        cases g
        exact .inr (.inl ⟨(c1.tab c2).isCodeTable, rfl, #[], more, rfl, by rw [Array.empty_append]; exact hm⟩)
    · by_cases nb : ∀ p ∈ tc, p.2 ≠ b
      · exact ⟨o, other b o nb g⟩
      · obtain ⟨p, hp, rfl⟩ : ∃ p, p ∈ tc ∧ p.2 = b := by
          refine Decidable.byContradiction fun z => nb fun p hp e => z ⟨p, hp, e⟩
        obtain ⟨more, hm⟩ := table p hp
        exact ⟨_, hm⟩
theorem law_callT (KX : K.In t1.heap) (gm : t1.heap.Ns mainGlobals mg) (gb : t1.heap.Ns builtinsNs mb) (bb : ∀ y : Str, y ≠ "__name__" → mb y = bootBuiltins y) (lim : t1.heap.NoLimit) (gens0 : t1.gens = #[]) (hbm : BmG mg t1.heap) (tab : Tc0 K t1.heap tc)
    (obj : t1.heap.get? a = some { cls := .type "list", data := .seq us.toArray }) (hin : IntsAre us is) (hl : is.length ≤ sizeLine) (room : Room k callerA) (F : ∀ base : Heap, K.In base → base.Ns mainGlobals mg → (∀ p ∈ tc, LamX.TabB base mg p.1 p.2) → FnG P w K mg base CX k fa fd [x] sp) (bind : ∀ (s : Shared) (u : Value), BindsTo s fd ⟨[u], []⟩ [(x, u)])
    (hsp : ∀ H : Hp, (∀ p ∈ tc, H p.2 = some (.tbl #[])) → SqL K H a (is.map V.int) → sp [.ref a] H (fun v _ => v = .bl true) fun _ _ _ => False) (noX : ∀ H e s', CX [] H t1 (fun _ _ _ => False) e s' → False) :
    codeAny (model P w) callerA (.call (.ref fa) ⟨[.ref a], []⟩) (fun r s' => r = .ok (.ret (.bool true)) ∧ OldK t1.heap s'.heap ∧ s'.os = t1.os ∧ AllBare s'.gens) t1 := by
  have vals := vals_ints hin
  have lenU := hin.length
  have anT : ∀ p ∈ tc, p.2 ≠ a := fun p hp z => by
    have c2 := (tab p hp).2.1
    rw [z, obj] at c2
    cases c2
  let tT : Hp := fun b => if b ∈ tc.map (·.2) then some (.tbl #[]) else none
  have tIn : ∀ p ∈ tc, tT p.2 = some (.tbl #[]) := fun p hp => if_pos (List.mem_map.mpr ⟨p, hp, rfl⟩)
  have tOf : ∀ {b u}, tT b = some u → u = .tbl #[] ∧ ∃ p ∈ tc, p.2 = b := fun {b u} z => by
    by_cases hb : b ∈ tc.map (·.2)
    · have z' : some (HO.tbl #[]) = some u := (if_pos hb).symm.trans z
      cases z'
      obtain ⟨p, hp, e⟩ := List.mem_map.mp hb
      exact ⟨rfl, p, hp, e⟩
    · have z' : none = some u := (if_neg hb).symm.trans z
      cases z'
  have tOk : ∀ b u, tT b = some u → ∀ H : Hp, ObjOk P w H t1.heap b u := fun b u z H => by
    obtain ⟨rfl, p, hp, rfl⟩ := tOf z
    exact (tab p hp).2.1
  have tA : tT a = none := by
    cases z : tT a with
    | none => rfl
    | some u =>
      obtain ⟨_, p, hp, e⟩ := tOf z
      exact (anT p hp e).elim
  by_cases hk : ∃ o, K.lookup a = some o
  · obtain ⟨o, hk⟩ := hk
    have g := KX a o hk
    rw [obj] at g
    cases g
    exact law_midT KX gm gb bb lim gens0 hbm tab obj room F bind noX (H := tT) tIn (fun b u z => .inr (tOf z).2) (hsp _ tIn (.inr ⟨_, us.toArray, _, hk, rfl, rfl, rfl, by rw [List.size_toArray, lenU]; exact hl, by simpa using vals⟩)) (fun b u z => tOk b u z _) fun z => absurd tA z
  · have hk' : K.lookup a = none := by
      cases q : K.lookup a with
      | none => rfl
      | some o => exact (hk ⟨o, q⟩).elim
    obtain ⟨H, hH⟩ : ∃ H : Hp, ∀ b, H b = if b = a then some (.frz { cls := .type "list", data := .seq us.toArray } (.lst (is.map V.int))) else tT b := ⟨_, fun _ => rfl⟩
    have at_a : H a = some (.frz { cls := .type "list", data := .seq us.toArray } (.lst (is.map V.int))) := by rw [hH, if_pos rfl]
    have off : ∀ b, b ≠ a → H b = tT b := fun b hb => by rw [hH, if_neg hb]
    have hTT : ∀ p ∈ tc, H p.2 = some (.tbl #[]) := fun p hp => by rw [off _ (anT p hp)]; exact tIn p hp
    refine law_midT KX gm gb bb lim gens0 hbm tab obj room F bind noX hTT (fun b u z => ?_) (hsp H hTT (.inl (.inr ⟨_, at_a⟩))) (fun b u z => ?_) fun _ => hk'
    · by_cases hb : b = a
      · subst hb
        rw [at_a] at z
        cases z
        exact .inl ⟨rfl, _, _, rfl⟩
      · rw [off b hb] at z
        exact .inr (tOf z).2
    · by_cases hb : b = a
      · subst hb
        rw [at_a] at z
        cases z
        exact ⟨obj, by rw [List.length_map]; exact hl, us, _, vals, obj⟩
      · rw [off b hb] at z
        exact tOk b u z _
end
section
variable {K : PySem.W.Frag}
theorem fun_of {x q : Str} {ps : Arguments} {b : List Stmt} {sc : Scope} {f : Addr} (F : ∃ fd, FunD K x q ps b sc [] [] f fd) : ∃ (oc : Value) (od : Option Addr) (kV doc pm : Value) (an : Option Addr) (cdv ct : Value) (osl : Array (Option Value)),
    K.lookup f = some ⟨oc, od, .func (PySem.W.fnOf x q ps b sc .none kV doc pm an cdv ct), osl⟩ ∧ PySem.W.codeIn K cdv q = true ∧ PySem.W.keepIn K (.ref f) = true := by
  obtain ⟨fd, F⟩ := F
  obtain ⟨oc, od, dV, kV, doc, pm, an, cdv, ct, osl, rfl, lk, hc, hd, _⟩ := F.ex
  rcases hd with ⟨_, rfl⟩ | ⟨z, _⟩
  · exact ⟨oc, od, kV, doc, pm, an, cdv, ct, osl, lk, hc, F.kp⟩
  · exact absurd rfl z
end
theorem walkGE {l : PySem.W.OpenLaw} {n k : Nat} {q : Program} {loose : List Str} {XP : (Str → Option Value) → Heap → Prop} {YP : World → Heap → Prop} {d : DefRec} {x : Str} (hn : l.most = some n) (hn2 : n ≤ sizeLine) (hdf : d.params.defaults = []) (hr : Room k callerA)
    (F : ∀ (w : World) (mg : Str → Option Value) (fa : Addr) (h : Heap), YP w h → h.Ns mainGlobals mg → mg d.name = some (.ref fa) → ∃ (K : PySem.W.Frag) (fd : FuncData), K.In h ∧ TabsH K h ∧ (∀ (s : Shared) (u : Value), BindsTo s fd ⟨[u], []⟩ [(x, u)]) ∧
      ∀ base : Heap, K.In base → base.Ns mainGlobals mg → (∀ p ∈ tabsC K, LamX.TabB base mg p.1 p.2) → FnG l.prog w K mg base CX0 k fa fd [x] (spV K [.bor] (FLaw n))) : PySem.W.WalkO q loose XP YP l.row.toRowW d [] (fun f vs => PySem.call f vs) := by
  refine Att.attach_callB hn hdf fun w s₀ t1 mg mb fa o pm cd doc a us is G Y ho hd hcd hmg obj hin hlen hbits hg => ?_
  obtain ⟨K, fd, KX, tb, hb, hF⟩ := F w mg fa _ Y G.T.g hmg
  refine law_callT (tc := tabsC K) KX G.T.g G.T.b G.T.builtins G.T.nolimit hg G.T.bmain tb obj hin (Nat.le_trans hlen hn2) hr hF hb (fun H hT hS => law_sp hlen (fun p hp => ?_) hS) fun H e s' h => h
  obtain ⟨c, hc⟩ := tabA_C hp
  exact hT _ hc
def n_law_pool : List Str := ["_law_script", "_law_k", "_law_cell", "_law_seed"]
def b_law_pool : List S := [.asg 2 (.k (.int 0)), .ife (.cmp .ne (.var 0) (.lst [])) [.asg 2 (.ix (.var 0) (.bin .mod (.var 1) (.blt .len [.var 0])))] [], .ife (.cmp .ge (.var 1) (.blt .len [.var 0])) [.asg 2 (.ix (.lst [.bin .mod (.var 2) (.k (.int 1000003)), .bin .fdiv (.var 2) (.bin .pow (.k (.int 10)) (.k (.int 18)))]) (.blt .int [.cmp .ge (.var 2) (.bin .pow (.k (.int 10)) (.k (.int 36)))]))] [], .asg 3 (.bin .mod (.bin .mul (.bin .add (.bin .add (.bin .mod (.var 2) (.k (.int 2147483629))) (.bin .mul (.k (.int 104729)) (.var 1))) (.k (.int 11))) (.k (.int 48271))) (.k (.int 2147483647))), .ret (.lst [.bin .mul (.var 2) (.blt .int [.cmp .ge (.var 2) (.bin .pow (.k (.int 10)) (.k (.int 18)))]), .var 3])]
def n_law_take : List Str := ["_law_pool_here", "_law_many", "_law_digit"]
def b_law_take : List S := [.ife (.cmp .gt (.ix (.var 0) (.k (.int 0))) (.k (.int 0))) [.asg 2 (.bin .mod (.ix (.var 0) (.k (.int 0))) (.var 1)), .setix (.var 0) (.k (.int 0)) (.bin .fdiv (.ix (.var 0) (.k (.int 0))) (.var 1)), .ret (.var 2)] [], .setix (.var 0) (.k (.int 1)) (.bin .mod (.bin .add (.bin .mul (.ix (.var 0) (.k (.int 1))) (.k (.int 48271))) (.k (.int 11))) (.k (.int 2147483647))), .ret (.bin .mod (.bin .fdiv (.bin .mod (.bin .mul (.ix (.var 0) (.k (.int 1))) (.ix (.var 0) (.k (.int 1)))) (.k (.int 2147483629))) (.k (.int 64))) (.var 1))]
/-- a pool: its big number, its seed -/
def Pool (a s : Int) : T := .nd .list [.d (.int a), .d (.int s)]
def PoolOk (a s : Int) : Prop := 0 ≤ a ∧ 0 ≤ s ∧ s < 2147483647
abbrev F_take : List T → (T → List T → Prop) → Prop := fun ts Q => ∃ a s many, ts = [Pool a s, .d (.int many)] ∧ PoolOk a s ∧ 0 < many ∧ many < 2 ^ 64 ∧
  ∀ r a' s', 0 ≤ r → r < many → PoolOk a' s' → Q (.d (.int r)) [Pool a' s', .dead]
def Gm_take : Ctx := { fn := [], glob := [], bs := [], pin := [0], cls := [] }
theorem log2_small {j : Int} (h : j < 2 ^ 64) (h0 : 0 < j) : j.natAbs.log2 < 9000 := by
  have h1 : j.natAbs < 2 ^ 64 := by omega
  have h2 : j.natAbs ≠ 0 := by omega
  have := (Nat.log2_lt h2).mpr h1
  omega
theorem w_take : bodyW Gm_take n_law_take [.own, .bor] b_law_take F_take := by
  intro ts Q h _
  obtain ⟨a, s, many, rfl, ⟨ha, hs0, hs⟩, hm, hm2, q⟩ := h
  have hdiv : CDivW a many := ⟨hm, log2_small hm2 hm⟩
  conv => whnf
  refine ⟨fun h => ?_, fun h => ?_⟩
  · have h := of_decide_eq_true h
    repeat ((conv => whnf); refine ⟨by first | rfl | assumption | exact Nat.le_of_ble_eq_true rfl | decide, ?_⟩)
    conv => whnf
    exact q _ _ _ (Int.emod_nonneg _ (by omega)) (Int.emod_lt_of_pos _ hm) ⟨Int.ediv_nonneg ha (by omega), hs0, hs⟩
  · have h := of_decide_eq_false h
    have hs1 := Int.emod_nonneg (s * 48271 + 11) (b := 2147483647) (by omega)
    have hs2 := Int.emod_lt_of_pos (s * 48271 + 11) (b := 2147483647) (by omega)
    have hc1 : CMul s 48271 := .inr (by omega)
    have hc2 : CMul ((s * 48271 + 11) % 2147483647) ((s * 48271 + 11) % 2147483647) := .inl (by omega)
    have hd2 : CDivW ((s * 48271 + 11) % 2147483647 * ((s * 48271 + 11) % 2147483647) % 2147483629) 64 := ⟨by decide, by decide⟩
    repeat ((conv => whnf); refine ⟨by first | rfl | assumption | exact Nat.le_of_ble_eq_true rfl | decide, ?_⟩)
    conv => whnf
    exact q _ _ _ (Int.emod_nonneg _ (by omega)) (Int.emod_lt_of_pos _ hm) ⟨ha, hs1, hs2⟩
/-- data that == may look at, at most n deep -/
def shp (n : Nat) (d : PyData) : Prop := d.canLay0 = true ∧ d.depth ≤ n
theorem shp.shaped {n : Nat} {d : PyData} (h : shp n d) (hn : n ≤ 64) : SeqAt.shaped d = true := by
  unfold SeqAt.shaped
  rw [h.1, Bool.true_and]
  exact decide_eq_true (Nat.le_trans h.2 hn)
theorem shp_all {n : Nat} : ∀ {xs : List PyData}, (∀ x ∈ xs, shp n x) → PyData.canLayAll0 xs = true ∧ PyData.depthAll xs ≤ n
  | [], _ => ⟨by rw [PyData.canLayAll0], by rw [PyData.depthAll]; exact Nat.zero_le _⟩
  | x :: xs, h => by
    have h1 := h x (by simp)
    have h2 := shp_all fun y hy => h y (List.mem_cons_of_mem _ hy)
    rw [PyData.canLayAll0, PyData.depthAll, h1.1, h2.1]
    exact ⟨rfl, Nat.max_le.mpr ⟨h1.2, h2.2⟩⟩
theorem shp_list {n : Nat} {xs : List PyData} (h : ∀ x ∈ xs, shp n x) : shp (n + 1) (.list xs) := by
  have := shp_all h
  exact ⟨by rw [PyData.canLay0]; exact this.1, by rw [PyData.depth]; omega⟩
theorem shp_int (n : Nat) (i : Int) : shp n (.int i) := ⟨by rw [PyData.canLay0], by rw [PyData.depth]; exact Nat.zero_le _⟩
theorem shp_ints (ns : List Int) : shp 1 (.list (ns.map .int)) := shp_list fun x hx => by
  obtain ⟨i, _, rfl⟩ := List.mem_map.mp hx
  exact shp_int 0 i
theorem rngL_cons (lo : Int) (n : Nat) : rngL lo (n + 1) = .int lo :: rngL (lo + 1) n := by
  unfold rngL
  rw [List.range_succ_eq_map, List.map_cons, List.map_map]
  congr 1
  · simp
  · apply List.map_congr_left
    intro k _
    show PyData.int _ = PyData.int _
    congr 1
    push_cast
    omega
/-- a loop over a range -/
theorem forW_rng {is : List Nat} {bd : AE → St → Prop} {D : AE} {lo : Int} {n : Nat} (I : Nat → St → Prop) (h0 : ∀ σ, I n σ → D.nx σ)
    (hs : ∀ (k : Nat) σ (N : AE), k < n → (∀ σ', I (k + 1) σ' → N.nx σ') → (∀ σ', I (k + 1) σ' → N.ct σ') → (∀ r σ', D.rt r σ' → N.rt r σ') → (∀ σ', D.nx σ' → N.bk σ') → I k σ → match bindD is (.int (lo + k)) σ with | some σ1 => bd N σ1 | none => False) {σ : St} (hi : I 0 σ) : forW is bd D (rngL lo n) σ := by
  have key : ∀ (m k : Nat) (σ : St), k + m = n → I k σ → forW is bd D (rngL (lo + k) m) σ := by
    intro m
    induction m with
    | zero => intro k σ e h; have : k = n := by omega
              subst this; exact h0 σ h
    | succ m ih =>
      intro k σ e h
      rw [rngL_cons]
      have st : ∀ σ', I (k + 1) σ' → forW is bd D (rngL (lo + (k : Int) + 1) m) σ' := fun σ' h' => by
        have := ih (k + 1) σ' (by omega) h'
        rw [show lo + (k : Int) + 1 = lo + ((k + 1 : Nat) : Int) by push_cast; omega]
        exact this
      exact hs k σ { nx := forW is bd D (rngL (lo + (k : Int) + 1) m), rt := D.rt, bk := D.nx, ct := forW is bd D (rngL (lo + (k : Int) + 1) m), ex := D.ex } (by omega) st st (fun _ _ z => z) (fun _ z => z) h
  have := key n 0 σ (by omega) hi
  rw [show lo + ((0 : Nat) : Int) = lo by simp] at this
  exact this
theorem atI_ints {ns : List Int} {i : Int} (h0 : 0 ≤ i) (h1 : i < ns.length) : ∃ z, atI (ns.map PyData.int) i = some (.int z) ∧ ns[i.toNat]? = some z := by
  have hj : i.toNat < ns.length := by omega
  refine ⟨ns[i.toNat], ?_, List.getElem?_eq_getElem hj⟩
  unfold atI ixN
  rw [if_pos h0, if_pos (by rw [List.length_map]; exact h1)]
  show (ns.map PyData.int)[i.toNat]? = _
  rw [List.getElem?_map, List.getElem?_eq_getElem hj]
  rfl
abbrev F_pool : List T → (T → List T → Prop) → Prop := fun ts Q => ∃ (ns : List Int) (k : Int), ts = [.d (.list (ns.map .int)), .d (.int k)] ∧ 0 ≤ k ∧
  ∀ a s, PoolOk a s → Q (Pool a s) [.dead, .dead]
def Gm_pool : Ctx := { fn := [], glob := [], bs := ["len", "int"], pin := [], cls := [] }
theorem w_pool : bodyW Gm_pool n_law_pool [.bor, .bor] b_law_pool F_pool := by
  intro ts Q h _
  obtain ⟨ns, k, rfl, hk, q⟩ := h
  have hc1 : ∀ z : Int, CMul 104729 z := fun z => .inl (by decide)
  have hc2 : ∀ z : Int, CMul z 48271 := fun z => .inr (by decide)
  have hp36 : CPow 10 36 := ⟨by decide, by decide, by decide⟩
  have hp18 : CPow 10 18 := ⟨by decide, by decide, by decide⟩
  have hd18 : ∀ z : Int, CDivW z (10 ^ (18 : Int).toNat) := fun z => ⟨by decide, by decide⟩
  have hsz : ([] : List T).length ≤ sizeLine := Nat.zero_le _
  have sh1 := (shp_ints ns).shaped (by decide)
  have sh2 := (shp_ints []).shaped (by decide)
  -- the rest, once the cell is known
  have fin : ∀ (z : Int), wSs Gm_pool (b_law_pool.drop 3) (ends [.bor, .bor] [.d (.list (ns.map .int)), .d (.int k)] Q) [.d (.list (ns.map .int)), .d (.int k), .d (.int z), .dead] := by
    intro z
    have hb : ∀ b : Bool, CMul z (if b then 1 else 0) := fun b => .inr (by cases b <;> decide)
    have hs1 := Int.emod_nonneg ((z % 2147483629 + 104729 * k + 11) * 48271) (b := 2147483647) (by omega)
    have hs2 := Int.emod_lt_of_pos ((z % 2147483629 + 104729 * k + 11) * 48271) (b := 2147483647) (by omega)
    repeat ((conv => whnf); refine ⟨by first | rfl | assumption | exact hc1 _ | exact hc2 _ | exact hb _ | exact Nat.le_of_ble_eq_true rfl | decide, ?_⟩)
    conv => whnf
    refine q _ _ ⟨?_, hs1, hs2⟩
    by_cases h : (10 : Int) ^ (18 : Int).toNat ≤ z
    · rw [decide_eq_true h]
      have : (0 : Int) ≤ 10 ^ (18 : Int).toNat := by decide
      simp
      omega
    · rw [decide_eq_false h]
      simp
  have mid : ∀ (z : Int), wSs Gm_pool (b_law_pool.drop 2) (ends [.bor, .bor] [.d (.list (ns.map .int)), .d (.int k)] Q) [.d (.list (ns.map .int)), .d (.int k), .d (.int z), .dead] := by
    intro z
    conv => whnf
    refine ⟨fun h => ?_, fun h => fin z⟩
    repeat ((conv => whnf); refine ⟨by first | rfl | assumption | exact hd18 _ | exact Nat.le_of_ble_eq_true rfl | decide, ?_⟩)
    conv => whnf
    generalize decide ((10 : Int) ^ Int.toNat 36 ≤ z) = bb
    cases bb
    all_goals
      conv => whnf
      exact ⟨rfl, Nat.le_of_ble_eq_true rfl, fin _⟩
  repeat ((conv => whnf); refine ⟨by first | rfl | assumption | exact Nat.le_of_ble_eq_true rfl, ?_⟩)
  conv => whnf
  refine ⟨fun h => ?_, fun h => mid 0⟩
  have hne : 0 < ns.length := by
    cases ns with
    | nil => exact absurd h (by decide)
    | cons _ _ => exact Nat.succ_pos _
  have hl : (0 : Int) < ((ns.map PyData.int).length : Nat) := by rw [List.length_map]; omega
  obtain ⟨z, hz, _⟩ := atI_ints (ns := ns) (i := k % ((ns.map PyData.int).length : Nat)) (Int.emod_nonneg _ (by omega)) (by
    have := Int.emod_lt_of_pos k hl
    rw [List.length_map] at this ⊢
    exact this)
  repeat ((conv => whnf); refine ⟨by first | rfl | assumption | exact Nat.le_of_ble_eq_true rfl, ?_⟩)
  conv => whnf
  rw [hz]
  conv => whnf
  exact ⟨rfl, Nat.le_of_ble_eq_true rfl, mid z⟩
abbrev fsTake : FS := ⟨[.own, .bor], F_take⟩
abbrev fsPool : FS := ⟨[.bor, .bor], F_pool⟩
def iT (l : List Int) : List T := l.map fun i => .d (.int i)
def kidT (l : List Int) : T := .nd .list (iT l)
def KT (ks : List (List Int)) : T := .nd .list (ks.map kidT)
structure KOk (fs : List Int) (ks : List (List Int)) : Prop where
  len : ks.length = fs.length
  pos : 0 < fs.length
  up : ∀ (i : Nat) l, ks[i]? = some l → ∀ c ∈ l, (i : Int) < c ∧ c < (fs.length : Nat)
  few : ∀ (i : Nat) l, ks[i]? = some l → l.length ≤ fs.length + 12
  led : ∀ i : Nat, 0 < i → i < fs.length → ∃ (k : Nat) (l : List Int), ks[k]? = some l ∧ (i : Int) ∈ l
  nd : ∀ (i : Nat) l, ks[i]? = some l → l.Nodup
  b12 : ∀ (i : Nat) l, ks[i]? = some l → l.length ≤ 12
  lev : ∀ (i : Nat) l, ks[i]? = some l → ∀ c ∈ l, fs.getD i 0 < fs.getD c.toNat 0
  f40 : ∀ f ∈ fs, 0 ≤ f ∧ f ≤ 40
/-- .. and no stand is led to twice -/
structure KG (fs : List Int) (ks : List (List Int)) : Prop extends KOk fs ks where
  tree : ∀ (i j : Nat) l l' c, ks[i]? = some l → ks[j]? = some l' → c ∈ l → c ∈ l' → i = j
theorem iT_len (l : List Int) : (iT l).length = l.length := by unfold iT; rw [List.length_map]
theorem grow_cases {ks : List (List Int)} {one : Nat} {l l' : List Int} {n : Int} {i : Nat} (h : ks[one]? = some l) (hi : ((ks ++ [[]]).set one (l ++ [n]))[i]? = some l') : (i = one ∧ l' = l ++ [n]) ∨ (i ≠ one ∧ ks[i]? = some l') ∨ l' = [] := by
  have hj : one < ks.length := (List.getElem?_eq_some_iff.mp h).1
  rw [List.getElem?_set] at hi
  split at hi
  · rename_i e
    subst e
    rw [if_pos (by simp; omega)] at hi
    cases hi
    exact .inl ⟨rfl, rfl⟩
  · rename_i e
    by_cases hik : i < ks.length
    · rw [List.getElem?_append_left hik] at hi
      exact .inr (.inl ⟨fun z => e z.symm, hi⟩)
    · rw [List.getElem?_append_right (by omega)] at hi
      have := List.mem_of_getElem? hi
      simp at this
      exact .inr (.inr this)
theorem grow_old {ks : List (List Int)} {one : Nat} {l l' : List Int} {n : Int} {i : Nat} (h : ks[one]? = some l) (hi : ks[i]? = some l') : ∃ l'', ((ks ++ [[]]).set one (l ++ [n]))[i]? = some l'' ∧ ∀ c ∈ l', c ∈ l'' := by
  have hj : one < ks.length := (List.getElem?_eq_some_iff.mp h).1
  have hik : i < ks.length := (List.getElem?_eq_some_iff.mp hi).1
  rw [List.getElem?_set]
  by_cases e : one = i
  · subst e
    rw [if_pos rfl, if_pos (by simp; omega)]
    rw [h] at hi
    cases hi
    exact ⟨_, rfl, fun c hc => List.mem_append_left _ hc⟩
  · rw [if_neg e, List.getElem?_append_left hik]
    exact ⟨_, hi, fun c hc => hc⟩
theorem KG.grow {fs : List Int} {ks : List (List Int)} {one : Nat} {f : Int} {l : List Int} (ok : KG fs ks) (h : ks[one]? = some l) (h12 : l.length < 12) (hf : fs[one]? = some f) (h40 : f < 40) : KG (fs ++ [f + 1]) ((ks ++ [[]]).set one (l ++ [(fs.length : Int)])) := by
  have hj : one < ks.length := (List.getElem?_eq_some_iff.mp h).1
  have hlen := ok.len
  have hnew : ∀ (i : Nat) l', ks[i]? = some l' → (fs.length : Int) ∉ l' := fun i l' hi z => by
    have := ok.up i l' hi _ z
    omega
  have old : ∀ (k : Nat), k < fs.length → (fs ++ [f + 1]).getD k 0 = fs.getD k 0 := fun k hk => by
    rw [List.getD_eq_getElem?_getD, List.getD_eq_getElem?_getD, List.getElem?_append_left hk]
  refine ⟨⟨by simp [hlen], by simp, fun i l' hi c hc => ?_, fun i l' hi => ?_, fun i h0 hi => ?_, fun i l' hi => ?_, fun i l' hi => ?_, fun i l' hi c hc => ?_, fun g hg => ?_⟩, fun i j l1 l2 c h1 h2 hc1 hc2 => ?_⟩
  · rw [List.length_append, List.length_singleton]
    rcases grow_cases h hi with ⟨rfl, rfl⟩ | ⟨_, hi⟩ | rfl
    · rcases List.mem_append.mp hc with z | z
      · have := ok.up _ l h c z
        omega
      · simp at z
        omega
    · have := ok.up i l' hi c hc
      omega
    · cases hc
  · rw [List.length_append, List.length_singleton]
    rcases grow_cases h hi with ⟨rfl, rfl⟩ | ⟨_, hi⟩ | rfl
    · simp
      omega
    · have := ok.few i l' hi
      omega
    · simp
  · rw [List.length_append, List.length_singleton] at hi
    by_cases e : i < fs.length
    · obtain ⟨k, l', h1, h2⟩ := ok.led i h0 e
      obtain ⟨l'', h3, h4⟩ := grow_old (n := (fs.length : Int)) h h1
      exact ⟨k, l'', h3, h4 _ h2⟩
    · have : i = fs.length := by omega
      subst this
      refine ⟨one, l ++ [(fs.length : Int)], ?_, by simp⟩
      rw [List.getElem?_set, if_pos rfl, if_pos (by simp; omega)]
  · rcases grow_cases h hi with ⟨rfl, rfl⟩ | ⟨_, hi⟩ | rfl
    · rw [List.nodup_append]
      refine ⟨ok.nd _ l h, by simp, fun a ha b hb e => ?_⟩
      simp at hb
      subst hb
      subst e
      exact hnew _ l h ha
    · exact ok.nd i l' hi
    · exact List.nodup_nil
  · rcases grow_cases h hi with ⟨rfl, rfl⟩ | ⟨_, hi⟩ | rfl
    · simp
      omega
    · exact ok.b12 i l' hi
    · simp
  · rcases grow_cases h hi with ⟨rfl, rfl⟩ | ⟨_, hi⟩ | rfl
    · rcases List.mem_append.mp hc with z | z
      · have := ok.up _ l h c z
        rw [old _ (by omega), old _ (by omega)]
        exact ok.lev _ l h c z
      · simp at z
        subst z
        rw [old _ (by omega), List.getD_eq_getElem?_getD, hf, List.getD_eq_getElem?_getD, Int.toNat_natCast, List.getElem?_append_right (Nat.le_refl _)]
        simp
        omega
    · have := ok.up i l' hi c hc
      have hi' := (List.getElem?_eq_some_iff.mp hi).1
      rw [old _ (by omega), old _ (by omega)]
      exact ok.lev i l' hi c hc
    · cases hc
  · rcases List.mem_append.mp hg with z | z
    · exact ok.f40 g z
    · simp at z
      have := ok.f40 f (List.mem_of_getElem? hf)
      omega
  · have key : ∀ (i j : Nat) l1 l2, ((ks ++ [[]]).set one (l ++ [(fs.length : Int)]))[i]? = some l1 → ((ks ++ [[]]).set one (l ++ [(fs.length : Int)]))[j]? = some l2 → c ∈ l1 → c ∈ l2 → i = one → j ≠ one → False := by
      intro i j l1 l2 h1 h2 hc1 hc2 ei ej
      rcases grow_cases h h2 with ⟨e, _⟩ | ⟨_, h2⟩ | rfl
      · exact ej e
      · rcases grow_cases h h1 with ⟨_, rfl⟩ | ⟨e, _⟩ | rfl
        · rcases List.mem_append.mp hc1 with z | z
          · exact ej (ok.tree j one l2 l c h2 h hc2 z)
          · simp at z
            subst z
            exact hnew j l2 h2 hc2
        · exact e ei
        · cases hc1
      · cases hc2
    by_cases ei : i = one
    · by_cases ej : j = one
      · omega
      · exact (key i j l1 l2 h1 h2 hc1 hc2 ei ej).elim
    · by_cases ej : j = one
      · exact (key j i l2 l1 h2 h1 hc2 hc1 ej ei).elim
      · rcases grow_cases h h1 with ⟨e, _⟩ | ⟨_, h1⟩ | rfl
        · exact absurd e ei
        · rcases grow_cases h h2 with ⟨e, _⟩ | ⟨_, h2⟩ | rfl
          · exact absurd e ej
          · exact ok.tree i j l1 l2 c h1 h2 hc1 hc2
          · cases hc2
        · cases hc1
theorem noTupl_iT : ∀ l : List Int, T.noTupl (iT l) = true
  | [] => by unfold iT; simp [T.noTupl]
  | x :: l => by
    have := noTupl_iT l
    unfold iT at this ⊢
    simp only [List.map_cons, T.noTupl, T.noTup, this, Bool.and_self]
theorem noTupl_kids : ∀ ks : List (List Int), T.noTupl (ks.map kidT) = true
  | [] => by simp [T.noTupl]
  | l :: ks => by
    simp only [List.map_cons, T.noTupl, noTupl_kids ks, kidT, T.noTup, noTupl_iT, Kd.isTup, Bool.not_false, Bool.and_self]
structure Stn where
  x : Str
  l : List Int
  w : Int
def Stn.d (s : Stn) : PyData := if s.l = [] then .tuple [.str "end", .int s.w] else .tuple [.str s.x, .tuple (s.l.map .int), .int s.w]
structure POk (P : List Stn) : Prop where
  pos : 0 < P.length
  hand : ∀ s ∈ P, s.x = "high" ∨ s.x = "low"
  up : ∀ (i : Nat) s, P[i]? = some s → ∀ c ∈ s.l, (i : Int) < c ∧ c < (P.length : Nat)
  few : ∀ s ∈ P, s.l.length ≤ P.length + 12
  low : ∀ s ∈ P, -(10 ^ 30) ≤ s.w
  high : ∀ s ∈ P, s.w ≤ 10 ^ 30
/-- .. as the laws' plays are -/
structure PX (P : List Stn) : Prop extends POk P where
  led : ∀ i : Nat, 0 < i → i < P.length → ∃ (k : Nat) (s : Stn), P[k]? = some s ∧ (i : Int) ∈ s.l
  nd : ∀ s ∈ P, s.l.Nodup
  b12 : ∀ s ∈ P, s.l.length ≤ 12
  lev : ∃ fs : List Int, fs.length = P.length ∧ (∀ f ∈ fs, 0 ≤ f ∧ f ≤ 40) ∧ ∀ (i : Nat) s, P[i]? = some s → ∀ c ∈ s.l, fs.getD i 0 < fs.getD c.toNat 0
def PT (P : List Stn) : List T := P.map fun s => .d s.d
def best (x : Str) (vs : List Int) : Int := if x = "high" then maxL vs else minL vs
/-- what a stand is worth, by the worths behind it -/
def val (s : Stn) (ws : List Int) : Int := if s.l = [] then s.w else best s.x (s.l.map fun c => ws.getD c.toNat 0)
@[irreducible] def hold (l : List S) : List S := l
theorem hold_eq (l : List S) : hold l = l := by unfold hold; rfl
theorem holdW {Γ : Ctx} {s : S} {r : List S} {D : AE} {σ : St} (h : wSs Γ (s :: hold r) D σ) : wSs Γ (s :: r) D σ := by rw [hold_eq] at h; exact h
theorem unholdW {Γ : Ctx} {r : List S} {D : AE} {σ : St} (h : wSs Γ r D σ) : wSs Γ (hold r) D σ := by rw [hold_eq]; exact h
section
variable {α : Type}
theorem noTupl_md (f : α → PyData) : ∀ l : List α, T.noTupl (l.map fun a => .d (f a)) = true
  | [] => by simp [T.noTupl]
  | x :: l => by simp only [List.map_cons, T.noTupl, T.noTup, noTupl_md f l, Bool.and_self]
theorem noTup_md (f : α → PyData) (l : List α) : T.noTup (.nd .list (l.map fun a => .d (f a))) = true := by
  simp only [T.noTup, noTupl_md, Kd.isTup, Bool.not_false, Bool.and_self]
/-- comprehensions that change nothing -/
theorem lcW_m {is : List Nat} {σ0 σ : St} {tst : St → (Bool → St → Prop) → Prop} {el : St → (T → St → Prop) → Prop} {K : List T → St → Prop} (g : α → PyData) (p : α → Bool) (f : α → T) : ∀ (l : List α) (acc : List T),
    (∀ a ∈ l, ∃ σ1, bindD is (g a) (wipeT σ is) = some σ1 ∧ (∀ Q, Q (p a) σ1 → tst σ1 Q) ∧ (p a = true → ∀ Q, Q (f a) σ1 → el σ1 Q) ∧ restT σ0 is σ1 = σ) → acc.length + l.length < sizeLine → K (acc ++ (l.filter p).map f) σ → lcW is σ0 tst el (l.map g) acc σ K
  | [], acc, h, hz, hK => by rw [List.map_nil, lcW]; simpa using hK
  | x :: xs, acc, h, hz, hK => by
    obtain ⟨σ1, h1, h2, h3, h4⟩ := h x (by simp)
    rw [List.map_cons, lcW, h1]
    refine h2 _ ⟨fun e => ?_, fun e => ?_⟩
    · refine h3 e _ ⟨by simp at hz; omega, ?_⟩
      rw [h4]
      exact lcW_m g p f xs (acc ++ [f x]) (fun y hy => h y (List.mem_cons_of_mem _ hy)) (by simp at hz ⊢; omega) (by rw [List.filter_cons, if_pos e] at hK; simpa using hK)
    · rw [h4]
      exact lcW_m g p f xs acc (fun y hy => h y (List.mem_cons_of_mem _ hy)) (by simp at hz ⊢; omega) (by rw [List.filter_cons, if_neg (by rw [e]; simp)] at hK; exact hK)
/-- without a test -/
theorem lcW_md {is : List Nat} {σ0 σ : St} {el : St → (T → St → Prop) → Prop} {K : List T → St → Prop} (g : α → PyData) (f : α → T) (l : List α)
    (h : ∀ a ∈ l, ∃ σ1, bindD is (g a) (wipeT σ is) = some σ1 ∧ (∀ Q, Q (f a) σ1 → el σ1 Q) ∧ restT σ0 is σ1 = σ) (hz : l.length < sizeLine) (hK : K (l.map f) σ) : lcW is σ0 (fun s Q => Q true s) el (l.map g) [] σ K :=
  lcW_m g (fun _ => true) f l [] (fun a ha => by
    obtain ⟨σ1, h1, h2, h3⟩ := h a ha
    exact ⟨σ1, h1, fun Q hQ => hQ, fun _ Q hQ => h2 Q hQ, h3⟩) (by simpa using hz) (by rw [List.filter_eq_self.mpr (fun _ _ => rfl)]; simpa using hK)
end
local macro_rules | `(tactic| walk_at "vc") => `(tactic| first | with_reducible rfl | assumption | exact Nat.zero_le _ | exact noTup_md _ _ | exact Nat.le_of_ble_eq_true rfl | omega | rfl | trivial | focus (simp only [T.noTup, T.noTupl, Kd.isTup, noTupl_md, noTupl_iT, noTupl_kids, PT, KT, Pool, kidT, Bool.not_false, Bool.and_self]; done) | focus (refine ⟨?_, ?_⟩ <;> omega))
local macro_rules | `(tactic| walk_at "vn") => `(tactic| (intro z; with_unfolding_all first | exact Bool.noConfusion (show false = true from z) | exact Bool.noConfusion (show true = false from z) | exact absurd z (by first | decide | (simp only [Bool.not_eq_true', Bool.not_eq_false', decide_eq_true_eq, decide_eq_false_iff_not, List.length_map, iT_len]; omega))))
local macro_rules | `(tactic| walk_at "v1") => `(tactic| ((conv => whnf); (with_reducible refine And.intro ?_ ?_); first | (walk_at "vn"; try (with_reducible intro _)) | (rotate_left; walk_at "vn"; (with_reducible intro _)) | (with_unfolding_all walk_at "vc")))
local macro_rules | `(tactic| walk_at "v") => `(tactic| ((repeat walk_at "v1"); conv => whnf))
local macro_rules | `(tactic| row_has $h) => `(tactic| (rw [$h:ident]; walk_at "v"))
local macro_rules | `(tactic| walk_at "vs") => `(tactic| (refine holdW ?_; walk_at "v"))
local macro_rules | `(tactic| walk_at "vu") => `(tactic| refine unholdW ?_)
/-- the first of a stand's steps whose stand has a value -/
def fbI (ws : List (Option Int)) (l : List Int) (v : Option Int) : Option Nat := (l.map fun c => ws.getD c.toNat none).findIdx? fun z => decide (z = v)
/-- the worths of a play -/
structure WsOk (P : List Stn) (ws : List Int) : Prop where
  len : ws.length = P.length
  val : ∀ (i : Nat) s, P[i]? = some s → ws[i]? = some (val s ws)
local macro_rules | `(tactic| walk_at "vc") => `(tactic| first | with_reducible rfl | assumption | exact Nat.zero_le _ | exact noTup_md _ _ | exact Nat.le_of_ble_eq_true rfl | omega | rfl | trivial | focus (simp only [mkTup, T.leaves, T.noTup, T.noTupl, Kd.isTup, noTupl_md, noTupl_iT, noTupl_kids, PT, KT, Pool, kidT, Bool.not_false, Bool.and_self]; done) | focus (refine ⟨?_, ?_⟩ <;> omega) | exact (fun _ => rfl))
theorem sortI_le (ns : List Int) : (sortI ns).Pairwise (· ≤ ·) := by
  have := List.pairwise_mergeSort (le := fun a b : Int => decide (a ≤ b)) (fun a b c h1 h2 => by simp at *; omega) (fun a b => by simp; omega) ns
  exact this.imp fun h => by simpa using h
theorem sortI_len (ns : List Int) : (sortI ns).length = ns.length := (sortI_perm ns).length_eq
/-- the worths from a stand on -/
def WI (P : List Stn) (k : Nat) (ws : List Int) : Prop := ws.length = P.length ∧ ∀ (i : Nat) s, k ≤ i → P[i]? = some s → ws[i]? = some (val s ws)
theorem WI.start (P : List Stn) : WI P P.length (List.replicate P.length 0) := ⟨by simp, fun i s hi h => by
  have := (List.getElem?_eq_some_iff.mp h).1
  omega⟩
def n_law_made : List Str := ["_law_way", "_law_thing"]
def b_law_made : List S := [.ife (.cmp .lt (.var 0) (.k (.int 2))) [.ret (.ix (.lst [.nxo "NoPlay" "place" (.var 1), .nxo "NoText" "row" (.var 1)]) (.var 0))] [], .ife (.cmp .lt (.var 0) (.k (.int 6))) [.ret (.ix (.lst [.nex "NoWay" "a", .nex "NoRule" "a", .nex "NoOrder" "a", .nex "NoEnds" "a"]) (.bin .sub (.var 0) (.k (.int 2))))] [], .ife (.cmp .lt (.var 0) (.k (.int 10))) [.ret (.ix (.lst [.nex "NoTree" "a", .nex "NoWindow" "a", .nex "TooMany" "a", .nex "NoSize" "a"]) (.bin .sub (.var 0) (.k (.int 6))))] [], .ife (.cmp .lt (.var 0) (.k (.int 14))) [.ret (.ix (.lst [.nex "NoStand" "a", .nex "NoNumber" "a", .nex "NoEnd" "a", .nex "NoDepth" "a"]) (.bin .sub (.var 0) (.k (.int 10))))] [], .ret (.ix (.lst [.nex "NoWorth" "a", .nex "NoChange" "a", .nex "NoRow" "a", .nex "NoName" "a"]) (.bin .sub (.var 0) (.k (.int 14))))]
def n_law_sorts : List Str := ["_law_e", "_law_sorts_here"]
def b_law_sorts : List S := [.asg 1 (.lst [.isx (.var 0) false ["NoPlay"], .isx (.var 0) false ["NoText"], .isx (.var 0) false ["NoWay"], .isx (.var 0) false ["NoRule"]]), .asg 1 (.bin .add (.var 1) (.lst [.isx (.var 0) false ["NoOrder"], .isx (.var 0) false ["NoEnds"], .isx (.var 0) false ["NoTree"], .isx (.var 0) false ["NoWindow"]])), .asg 1 (.bin .add (.var 1) (.lst [.isx (.var 0) false ["TooMany"], .isx (.var 0) false ["NoSize"], .isx (.var 0) false ["NoStand"], .isx (.var 0) false ["NoNumber"]])), .asg 1 (.bin .add (.var 1) (.lst [.isx (.var 0) false ["NoEnd"], .isx (.var 0) false ["NoDepth"], .isx (.var 0) false ["NoWorth"], .isx (.var 0) false ["NoChange"]])), .ret (.bin .add (.var 1) (.lst [.isx (.var 0) false ["NoRow"], .isx (.var 0) false ["NoName"]]))]
def n_law : List Str := ["_law_script", "_law_pool_here", "_law_way", "_law_thing", "_law_made_here", "_law_k"]
def b_law : List S := [.asg 1 (.call "_law_pool" [.var 0, .k (.int 0)]), .for_ [2] .rng1 [.k (.int 18)] [.asg 3 (.ix (.lst [.k .none, .k (.int 0), .call "_law_take" [.var 1, .k (.int 400)], .call "_law_take" [.var 1, .bin .pow (.k (.int 10)) (.k (.int 9))]]) (.call "_law_take" [.var 1, .k (.int 4)])), .asg 4 (.call "_law_made" [.var 2, .var 3]), .ife (.or (.not (.isx (.var 4) false ["BoughError"])) (.not (.isx (.var 4) false ["ValueError"]))) [.ret (.k (.bool false))] [], .ife (.cmp .ne (.call "_law_sorts" [.var 4]) (.lc [5] false (.cmp .eq (.var 5) (.var 2)) .rng1 [.k (.int 18)] [])) [.ret (.k (.bool false))] [], .ife (.or (.and (.cmp .eq (.var 2) (.k (.int 0))) (.cmp .ne (.xat "place" (.var 4)) (.var 3))) (.and (.cmp .eq (.var 2) (.k (.int 1))) (.cmp .ne (.xat "row" (.var 4)) (.var 3)))) [.ret (.k (.bool false))] []], .ret (.k (.bool true))]
/-- looked ends -/
structure EsOk (P : List Stn) (es : List Nat) : Prop where
  nd : es.Nodup
  en : ∀ e ∈ es, ∃ s, P[e]? = some s ∧ s.l = []
theorem nodup_le : ∀ (n : Nat) (l : List Nat), l.Nodup → (∀ x ∈ l, x < n) → l.length ≤ n
  | 0, l, _, h => by
    cases l with
    | nil => exact Nat.le_refl _
    | cons x r => exact absurd (h x (by simp)) (Nat.not_lt_zero _)
  | n + 1, l, hd, h => by
    have h1 := nodup_le n (l.erase n) (hd.erase n) fun x hx => by
      have h2 := (hd.mem_erase_iff).mp hx
      have := h x h2.2
      omega
    rw [List.length_erase] at h1
    split at h1 <;> omega
theorem EsOk.len {P : List Stn} {es : List Nat} (h : EsOk P es) : es.length ≤ P.length := nodup_le _ _ h.nd fun e he => by
  obtain ⟨s, h1, _⟩ := h.en e he
  exact (List.getElem?_eq_some_iff.mp h1).1
local macro_rules | `(tactic| walk_at "vc") => `(tactic| first | with_reducible rfl | assumption | exact Nat.zero_le _ | exact noTup_md _ _ | exact Nat.le_of_ble_eq_true rfl | omega | rfl | trivial | focus (simp only [mkTup, T.leaves, T.noTup, T.noTupl, Kd.isTup, noTupl_md, noTupl_iT, noTupl_kids, PT, KT, Pool, kidT, Bool.not_false, Bool.and_self] <;> fail) | focus (refine ⟨?_, ?_⟩ <;> omega) | exact (fun _ => rfl))
local macro_rules | `(tactic| walk_at "vn") => `(tactic| (intro z; first | (with_unfolding_all exact Bool.noConfusion (show false = true from z)) | (with_unfolding_all exact Bool.noConfusion (show true = false from z)) | (focus (refine absurd z ?_; first | decide | (simp only [Bool.not_eq_true', Bool.not_eq_false', decide_eq_true_eq, decide_eq_false_iff_not, List.length_map, iT_len]; omega) | (simp <;> fail)))))
/-- a list of numbers by what stands at its places -/
def At (n : Nat) (xs : List Int) (f : Nat → Int) : Prop := xs.length = n ∧ ∀ i, i < n → xs[i]? = some (f i)
theorem At.eq {n : Nat} {xs : List Int} {f : Nat → Int} (h : At n xs f) : xs = (List.range n).map f := by
  apply List.ext_getElem?
  intro i
  rw [List.getElem?_map]
  by_cases hi : i < n
  · rw [h.2 i hi, List.getElem?_range hi]
    rfl
  · rw [List.getElem?_eq_none (by have := h.1; omega), List.getElem?_eq_none (by simpa using hi)]
    rfl
/-- how far stands are, by the steps E that were gone -/
structure FE (n : Nat) (E : Nat → Nat → Prop) (fs : List (Option Int)) : Prop where
  len : fs.length = n
  zero : fs[0]? = some (some 0)
  pos : ∀ (i : Nat) v, fs[i]? = some (some v) → 0 ≤ v
  at_ : ∀ i, 0 < i → i < n → (fs[i]? = some none ∧ ∀ k, ¬ E k i) ∨ (∃ v, fs[i]? = some (some v) ∧ (∃ k u, E k i ∧ fs[k]? = some (some u) ∧ v = u + 1) ∧ ∀ k u, E k i → fs[k]? = some (some u) → u + 1 ≤ v)
theorem FE.add {n : Nat} {E : Nat → Nat → Prop} {fs : List (Option Int)} {k c : Nat} {u : Int} (h : FE n E fs) (hkc : k < c) (hc : c < n) (hE : ∀ k' i, E k' i → k' ≤ k) (hu : fs[k]? = some (some u)) :
    FE n (fun k' i => E k' i ∨ (k' = k ∧ i = c)) (fs.set c (some (max (u + 1) ((fs.getD c none).getD 0)))) := by
  have hl := h.len
  have hu0 := h.pos k u hu
  generalize hx : max (u + 1) ((fs.getD c none).getD 0) = x
  have keep : ∀ j, j ≠ c → (fs.set c (some x))[j]? = fs[j]? := fun j hj => List.getElem?_set_ne (fun z => hj z.symm)
  have self : (fs.set c (some x))[c]? = some (some x) := List.getElem?_set_self (by omega)
  refine ⟨by rw [List.length_set]; exact hl, by rw [keep 0 (by omega)]; exact h.zero, fun i v hv => ?_, fun i h0 hi => ?_⟩
  · by_cases e : i = c
    · subst e
      rw [self] at hv
      have := Option.some.inj (Option.some.inj hv)
      omega
    · rw [keep i e] at hv
      exact h.pos i v hv
  · by_cases e : i = c
    · subst e
      refine .inr ⟨_, self, ?_, fun k' w hk' hw => ?_⟩
      · rcases h.at_ i h0 hi with ⟨h1, h2⟩ | ⟨v, h1, ⟨k', w, g1, g2, g3⟩, h3⟩
        · refine ⟨k, u, .inr ⟨rfl, rfl⟩, by rw [keep k (by omega)]; exact hu, ?_⟩
          rw [List.getD_eq_getElem?_getD, h1] at hx
          simp at hx
          omega
        · rw [List.getD_eq_getElem?_getD, h1] at hx
          simp only [Option.getD_some] at hx
          by_cases hm : u + 1 ≤ v
          · have := hE k' i g1
            exact ⟨k', w, .inl g1, by rw [keep k' (by omega)]; exact g2, by omega⟩
          · exact ⟨k, u, .inr ⟨rfl, rfl⟩, by rw [keep k (by omega)]; exact hu, by omega⟩
      · have hk'' : k' ≤ k := by
          rcases hk' with z | ⟨z, _⟩
          · exact hE k' i z
          · omega
        rw [keep k' (by omega)] at hw
        rcases hk' with z | ⟨rfl, _⟩
        · rcases h.at_ i h0 hi with ⟨h1, h2⟩ | ⟨v, h1, _, h3⟩
          · exact absurd z (h2 k')
          · have := h3 k' w z hw
            rw [List.getD_eq_getElem?_getD, h1] at hx
            simp only [Option.getD_some] at hx
            omega
        · rw [hu] at hw
          cases hw
          omega
    · rw [keep i e]
      rcases h.at_ i h0 hi with ⟨h1, h2⟩ | ⟨v, h1, ⟨k', w, g1, g2, g3⟩, h3⟩
      · refine .inl ⟨h1, fun k' z => ?_⟩
        rcases z with z | ⟨_, z⟩
        · exact h2 k' z
        · exact e z
      · refine .inr ⟨v, h1, ⟨k', w, .inl g1, by have := hE k' i g1; rw [keep k' (by omega)]; exact g2, g3⟩, fun k2 w2 z hw => ?_⟩
        rcases z with z | ⟨_, z⟩
        · have := hE k2 i z
          rw [keep k2 (by omega)] at hw
          exact h3 k2 w2 z hw
        · exact absurd z e
/-- the steps of the first stands -/
def Ek (P : List Stn) (k : Nat) : Nat → Nat → Prop := fun k' i => k' < k ∧ ∃ s, P[k']? = some s ∧ (i : Int) ∈ s.l
theorem FE.start (P : List Stn) (h : 0 < P.length) : FE P.length (Ek P 0) (some 0 :: List.replicate (P.length - 1) none) := by
  refine ⟨by simp; omega, rfl, fun i v hv => ?_, fun i h0 hi => .inl ⟨?_, fun k z => ?_⟩⟩
  · cases i with
    | zero => simp at hv; omega
    | succ i =>
      rw [List.getElem?_cons_succ, List.getElem?_replicate] at hv
      split at hv <;> simp at hv
  · cases i with
    | zero => omega
    | succ i =>
      rw [List.getElem?_cons_succ, List.getElem?_replicate, if_pos (by omega)]
  · have := z.1
    omega
/-- all are reached at last -/
structure FarOk (P : List Stn) (fs : List Int) : Prop where
  fe : FE P.length (Ek P P.length) (fs.map some)
theorem FE.all {P : List Stn} {fs : List (Option Int)} (px : PX P) (h : FE P.length (Ek P P.length) fs) : ∃ gs, fs = gs.map some ∧ FarOk P gs := by
  have hall : ∀ i, i < P.length → ∃ u, fs[i]? = some (some u) := fun i hi => by
    by_cases h0 : i = 0
    · subst h0
      exact ⟨0, h.zero⟩
    · rcases h.at_ i (by omega) hi with ⟨_, h2⟩ | ⟨v, h1, _⟩
      · obtain ⟨k', s, g1, g2⟩ := px.led i (by omega) hi
        exact absurd ⟨(List.getElem?_eq_some_iff.mp g1).1, s, g1, g2⟩ (h2 k')
      · exact ⟨v, h1⟩
  have e : fs = (fs.map fun o => o.getD 0).map some := by
    rw [List.map_map]
    apply List.ext_getElem?
    intro i
    rw [List.getElem?_map]
    by_cases hi : i < P.length
    · obtain ⟨u, hu⟩ := hall i hi
      rw [hu]
      rfl
    · rw [List.getElem?_eq_none (by have := h.len; omega)]
      rfl
  exact ⟨_, e, ⟨by rw [← e]; exact h⟩⟩
abbrev Plan := List (Nat × Nat)
/-- where one goes on from a stand by a plan -/
def nxt (P : List Stn) (h : Str) (kv : Plan) (k : Nat) : List Int := match P[k]? with
  | some s => if s.x = h then match kv.lookup k with
    | some j => match s.l[j]? with
      | some c => [c]
      | none => []
    | none => []
    else s.l
  | none => []
/-- the plan has a step there -/
def PlAt (P : List Stn) (h : Str) (kv : Plan) (k : Nat) : Prop := ∀ s, P[k]? = some s → s.l ≠ [] → s.x = h → ∃ j c, kv.lookup k = some j ∧ s.l[j]? = some c
/-- the stands that are come to: r holds them all -/
structure ROk (P : List Stn) (h : Str) (kv : Plan) (r : List Nat) : Prop where
  zero : 0 ∈ r
  lt : ∀ i ∈ r, i < P.length
  shut : ∀ i ∈ r, ∀ c ∈ nxt P h kv i, c.toNat ∈ r
  from_ : ∀ i ∈ r, i = 0 ∨ ∃ m ∈ r, (i : Int) ∈ nxt P h kv m
  plan : ∀ i ∈ r, PlAt P h kv i
  none_ : ∀ i s, P[i]? = some s → s.l = [] → kv.lookup i = none
def comeL (P : List Stn) (r : List Nat) : List Nat := (List.range P.length).filter fun k => decide (k ∈ r)
theorem comeL_len (P : List Stn) (r : List Nat) : (comeL P r).length ≤ P.length := by
  have := List.length_filter_le (fun k => decide (k ∈ r)) (List.range P.length)
  rw [List.length_range] at this
  exact this
def oth (h : Str) : Str := if h = "high" then "low" else "high"
/-- the walk of the law, so far -/
structure GI (P : List Stn) (h : Str) (kv : Plan) (r : List Nat) (m : Nat) : Prop where
  nd : r.Nodup
  lt : ∀ i ∈ r, i < P.length
  zero : 0 ∈ r
  le : m ≤ r.length
  key : ∀ k, (kv.lookup k).isSome = true → k ∈ r.take m ∧ ∃ s, P[k]? = some s ∧ s.l ≠ []
  knd : (kv.map (·.1)).Nodup
  plan : ∀ i ∈ r.take m, PlAt P h kv i
  shut : ∀ i ∈ r.take m, ∀ c ∈ nxt P h kv i, c.toNat ∈ r
  from_ : ∀ i ∈ r, i = 0 ∨ ∃ n ∈ r.take m, (i : Int) ∈ nxt P h kv n
theorem GI.fresh {P : List Stn} {h : Str} {kv : Plan} {r : List Nat} {m k : Nat} (g : GI P h kv r m) (hm : m < r.length) (hk : r[m]? = some k) : kv.lookup k = none := by
  have hknt : k ∉ r.take m := fun z => by
    obtain ⟨n, hn, e⟩ := List.mem_take_iff_getElem.mp z
    have h1 : r[n]? = some k := by rw [List.getElem?_eq_getElem (by omega), e]
    have := (List.getElem?_inj (by omega) g.nd).mp (h1.trans hk.symm)
    omega
  cases e : kv.lookup k with
  | none => rfl
  | some j => exact absurd (g.key k (by rw [e]; rfl)).1 hknt
theorem GI.start {P : List Stn} (h : Str) (ok : POk P) : GI P h [] [0] 0 := by
  refine ⟨by simp, fun i hi => ?_, by simp, by simp, fun k hk => by simp at hk, by simp, fun i hi => by simp at hi, fun i hi => by simp at hi, fun i hi => .inl (by simpa using hi)⟩
  rw [List.mem_singleton.mp hi]
  exact ok.pos
/-- the ends, rising -/
theorem sorted_eq : ∀ {l l' : List Int}, l.Pairwise (· < ·) → l'.Pairwise (· < ·) → (∀ x, x ∈ l ↔ x ∈ l') → l = l'
  | [], [], _, _, _ => rfl
  | [], y :: l', _, _, h => by have := (h y).mpr (by simp); simp at this
  | x :: l, [], _, _, h => by have := (h x).mp (by simp); simp at this
  | x :: l, y :: l', h1, h2, h => by
    rw [List.pairwise_cons] at h1 h2
    have e : x = y := by
      rcases List.mem_cons.mp ((h x).mp (by simp)) with z | z
      · exact z
      · rcases List.mem_cons.mp ((h y).mpr (by simp)) with w | w
        · exact w.symm
        · have a := h1.1 y w
          have b := h2.1 x z
          omega
    subst e
    congr 1
    refine sorted_eq h1.2 h2.2 fun z => ⟨fun hz => ?_, fun hz => ?_⟩
    · have := h1.1 z hz
      exact (List.mem_cons.mp ((h z).mp (List.mem_cons_of_mem _ hz))).resolve_left (by omega)
    · have := h2.1 z hz
      exact (List.mem_cons.mp ((h z).mpr (List.mem_cons_of_mem _ hz))).resolve_left (by omega)
/-- a plan: its keys are just the own stands that are come to -/
structure PlOk (P : List Stn) (h : Str) (kv : Plan) (r : List Nat) : Prop extends ROk P h kv r where
  kinc : (kv.map (·.1)).Pairwise (· < ·)
  keys : ∀ k, k ∈ kv.map (·.1) ↔ k ∈ r ∧ ∃ s, P[k]? = some s ∧ s.l ≠ [] ∧ s.x = h
/-- stands at which there is a first best step, and so behind them -/
structure Gd (P : List Stn) (h : Str) (ws : List (Option Int)) (G : Nat → Prop) : Prop where
  zero : G 0
  own : ∀ k s, P[k]? = some s → s.l ≠ [] → s.x = h → G k → ∃ v j c, ws[k]? = some v ∧ fbI ws s.l v = some j ∧ s.l[j]? = some c ∧ G c.toNat
  oth : ∀ k s, P[k]? = some s → s.x ≠ h → G k → ∀ c ∈ s.l, G c.toNat
/-- plan_by ahead of stand k -/
structure PBI (P : List Stn) (h : Str) (ws : List (Option Int)) (G : Nat → Prop) (k : Nat) (kv : Plan) (bs : List Bool) : Prop where
  len : bs.length = P.length
  zero : bs[0]? = some true
  from_ : ∀ i : Nat, bs[i]? = some true → i = 0 ∨ ∃ m, m < k ∧ bs[m]? = some true ∧ (i : Int) ∈ nxt P h kv m
  shut : ∀ m, m < k → bs[m]? = some true → ∀ c ∈ nxt P h kv m, bs[c.toNat]? = some true
  kinc : (kv.map (·.1)).Pairwise (· < ·)
  keys : ∀ i, i ∈ kv.map (·.1) ↔ i < k ∧ bs[i]? = some true ∧ ∃ s, P[i]? = some s ∧ s.l ≠ [] ∧ s.x = h
  by_ : ∀ i, i < k → bs[i]? = some true → ∀ s, P[i]? = some s → s.l ≠ [] → s.x = h → ∃ v j, ws[i]? = some v ∧ fbI ws s.l v = some j ∧ kv.lookup i = some j ∧ ∃ c, s.l[j]? = some c
  good : ∀ i, bs[i]? = some true → G i
theorem PBI.start {P : List Stn} {h : Str} {ws : List (Option Int)} {G : Nat → Prop} (ok : POk P) (gd : Gd P h ws G) : PBI P h ws G 0 [] ((List.replicate P.length false).set 0 true) := by
  have only : ∀ i, ((List.replicate P.length false).set 0 true)[i]? = some true → i = 0 := fun i hi => by
    by_cases e : i = 0
    · exact e
    · rw [List.getElem?_set_ne (fun z => e z.symm), List.getElem?_replicate] at hi
      split at hi <;> simp at hi
  have hpos := ok.pos
  refine ⟨by simp, List.getElem?_set_self (by simpa using hpos), fun i hi => .inl (only i hi), fun m hm => absurd hm (by omega), by simp, fun i => ⟨fun z => by simp at z, fun z => absurd z.1 (by omega)⟩, fun i hi => absurd hi (by omega), fun i hi => ?_⟩
  rw [only i hi]
  exact gd.zero
/-- a plan, its keys in any order -/
structure PlG (P : List Stn) (h : Str) (kv : Plan) (r : List Nat) : Prop extends ROk P h kv r where
  knd : (kv.map (·.1)).Nodup
  keys : ∀ k, k ∈ kv.map (·.1) ↔ k ∈ r ∧ ∃ s, P[k]? = some s ∧ s.l ≠ [] ∧ s.x = h
theorem PlOk.g {P : List Stn} {h : Str} {kv : Plan} {r : List Nat} (p : PlOk P h kv r) : PlG P h kv r := ⟨p.toROk, p.kinc.imp fun z => Nat.ne_of_lt z, p.keys⟩
def ownB (P : List Stn) (h : Str) (k : Nat) : Bool := decide ((P.getD k ⟨"", [], 0⟩).l ≠ []) && decide ((P.getD k ⟨"", [], 0⟩).x = h)
/-- the own stands that are come to, rising -/
def ownL (P : List Stn) (h : Str) (r : List Nat) : List Nat := (comeL P r).filter (ownB P h)
theorem ownL_mem {P : List Stn} {h : Str} {r : List Nat} (hlt : ∀ i ∈ r, i < P.length) {k : Nat} : k ∈ ownL P h r ↔ k ∈ r ∧ ∃ s, P[k]? = some s ∧ s.l ≠ [] ∧ s.x = h := by
  unfold ownL
  rw [List.mem_filter]
  have hc : k ∈ comeL P r ↔ k ∈ r := by
    unfold comeL
    rw [List.mem_filter, List.mem_range]
    exact ⟨fun z => by simpa using z.2, fun z => ⟨hlt k z, by simpa using z⟩⟩
  rw [hc]
  refine and_congr_right fun hk => ?_
  have e := List.getElem?_eq_getElem (hlt k hk)
  unfold ownB
  rw [List.getD_eq_getElem?_getD, e]
  simp
theorem comeL_inc (P : List Stn) (r : List Nat) : (comeL P r).Pairwise (· < ·) := List.Pairwise.filter _ List.pairwise_lt_range
theorem sort_keys {P : List Stn} {h : Str} {kv : Plan} {r : List Nat} (pl : PlG P h kv r) : sortI (kv.map fun p => ((p.1 : Nat) : Int)) = (ownL P h r).map fun j : Nat => (j : Int) := by
  refine sorted_eq ?_ ?_ fun x => ?_
  · have h1 := sortI_le (kv.map fun p => ((p.1 : Nat) : Int))
    have h2 : (sortI (kv.map fun p => ((p.1 : Nat) : Int))).Nodup := (sortI_perm _).nodup_iff.mpr (by
      have := pl.knd
      rw [show (kv.map fun p => ((p.1 : Nat) : Int)) = (kv.map (·.1)).map (fun j : Nat => (j : Int)) by rw [List.map_map]; rfl]
      exact List.pairwise_map.mpr (this.imp fun z y => z (by omega)))
    refine (List.Pairwise.and h1 h2).imp fun z => ?_
    omega
  · exact List.pairwise_map.mpr ((List.Pairwise.filter _ (comeL_inc P r)).imp fun z => by omega)
  · rw [(sortI_perm _).mem_iff, List.mem_map, List.mem_map]
    constructor
    · rintro ⟨p, hp, rfl⟩
      exact ⟨p.1, (ownL_mem pl.lt).mpr ((pl.keys p.1).mp (List.mem_map.mpr ⟨p, hp, rfl⟩)), rfl⟩
    · rintro ⟨j, hj, rfl⟩
      obtain ⟨p, hp, e⟩ := List.mem_map.mp ((pl.keys j).mpr ((ownL_mem pl.lt).mp hj))
      exact ⟨p, hp, by rw [e]⟩
theorem PlG.few {P : List Stn} {h : Str} {kv : Plan} {r : List Nat} (pl : PlG P h kv r) : kv.length ≤ P.length := by
  have h1 := congrArg List.length (sort_keys pl)
  rw [sortI_len, List.length_map, List.length_map] at h1
  have h2 : (ownL P h r).length ≤ (comeL P r).length := List.length_filter_le _ _
  have h3 := comeL_len P r
  omega
/-- a is as good as b for h -/
def NoW (h : Str) (a b : Int) : Prop := if h = "high" then b ≤ a else a ≤ b
theorem NoW.refl (h : Str) (a : Int) : NoW h a a := by unfold NoW; split <;> omega
theorem NoW.trans {h : Str} {a b c : Int} (h1 : NoW h a b) (h2 : NoW h b c) : NoW h a c := by unfold NoW at *; split <;> simp_all <;> omega
theorem WsOk.at_ {P : List Stn} {ws : List Int} (hw : WsOk P ws) {k : Nat} {s : Stn} (hs : P[k]? = some s) : ws.getD k 0 = VL.val s ws := by
  rw [List.getD_eq_getElem?_getD, hw.val k s hs]
  rfl
/-- a walk by a given plan, so far -/
structure HW (P : List Stn) (h : Str) (kv : Plan) (r row : List Nat) (m : Nat) : Prop where
  nd : row.Nodup
  sub : ∀ i ∈ row, i ∈ r
  zero : 0 ∈ row
  le : m ≤ row.length
  shut : ∀ i ∈ row.take m, ∀ c ∈ nxt P h kv i, c.toNat ∈ row
theorem HW.start {P : List Stn} {h : Str} {kv : Plan} {r : List Nat} (ro : ROk P h kv r) : HW P h kv r [0] 0 :=
  ⟨by simp, fun i hi => by rw [List.mem_singleton.mp hi]; exact ro.zero, by simp, by simp, fun i hi => by simp at hi⟩
def mxO (a : Option Int) (v : Int) : Int := match a with
  | none => v
  | some x => max x v
def mnO (a : Option Int) (v : Int) : Int := match a with
  | none => v
  | some x => min x v
def shutO : Option Int → Option Int → Bool
  | some x, some y => decide (y ≤ x)
  | _, _ => false
def nilS : Stn := ⟨"", [], 0⟩
/-- an order of a play -/
structure OOk (P : List Stn) (O : List (List Nat)) : Prop where
  len : O.length = P.length
  per : ∀ (k : Nat) s, P[k]? = some s → ∃ ps, O[k]? = some ps ∧ ps.Perm (List.range s.l.length)
/-- what the search does at the steps of a stand -/
def abgo (rec : Nat → Option Int → Option Int → Int × List Nat) (s : Stn) : List Nat → Option Int → Option Int → Option Int → Int × List Nat
  | [], best, _, _ => (best.getD 0, [])
  | j :: js, best, a, b =>
    if s.x = "high" then
      if shutO (some (mxO a (mxO best (rec (s.l.getD j 0).toNat a b).1))) b = true then (mxO best (rec (s.l.getD j 0).toNat a b).1, (rec (s.l.getD j 0).toNat a b).2)
      else ((abgo rec s js (some (mxO best (rec (s.l.getD j 0).toNat a b).1)) (some (mxO a (mxO best (rec (s.l.getD j 0).toNat a b).1))) b).1, (rec (s.l.getD j 0).toNat a b).2 ++ (abgo rec s js (some (mxO best (rec (s.l.getD j 0).toNat a b).1)) (some (mxO a (mxO best (rec (s.l.getD j 0).toNat a b).1))) b).2)
    else
      if shutO a (some (mnO b (mnO best (rec (s.l.getD j 0).toNat a b).1))) = true then (mnO best (rec (s.l.getD j 0).toNat a b).1, (rec (s.l.getD j 0).toNat a b).2)
      else ((abgo rec s js (some (mnO best (rec (s.l.getD j 0).toNat a b).1)) a (some (mnO b (mnO best (rec (s.l.getD j 0).toNat a b).1)))).1, (rec (s.l.getD j 0).toNat a b).2 ++ (abgo rec s js (some (mnO best (rec (s.l.getD j 0).toNat a b).1)) a (some (mnO b (mnO best (rec (s.l.getD j 0).toNat a b).1)))).2)
def ab (P : List Stn) (O : List (List Nat)) : Nat → Nat → Option Int → Option Int → Int × List Nat
  | 0, _, _, _ => (0, [])
  | n + 1, k, a, b => if (P.getD k nilS).l = [] then ((P.getD k nilS).w, [k]) else abgo (ab P O n) (P.getD k nilS) (O.getD k []) none a b
/-- the ways that are looked at, by the worths of the steps that stand ahead -/
def lkgo (rec : Nat → Option Int → Option Int → List Nat) (ws : List Int) (s : Stn) : List Nat → Option Int → Option Int → List Nat
  | [], _, _ => []
  | j :: js, a, b => rec (s.l.getD j 0).toNat a b ++ (if s.x = "high" then
      if shutO (some (mxO a (ws.getD (s.l.getD j 0).toNat 0))) b = true then [] else lkgo rec ws s js (some (mxO a (ws.getD (s.l.getD j 0).toNat 0))) b
    else
      if shutO a (some (mnO b (ws.getD (s.l.getD j 0).toNat 0))) = true then [] else lkgo rec ws s js a (some (mnO b (ws.getD (s.l.getD j 0).toNat 0))))
def lk (P : List Stn) (O : List (List Nat)) (ws : List Int) : Nat → Nat → Option Int → Option Int → List Nat
  | 0, _, _, _ => []
  | n + 1, k, a, b => if (P.getD k nilS).l = [] then [k] else lkgo (lk P O ws n) ws (P.getD k nilS) (O.getD k []) a b
/-- levels: how far stands are from the begin -/
structure Lv (P : List Stn) (fs : List Int) : Prop where
  len : fs.length = P.length
  bd : ∀ f ∈ fs, 0 ≤ f ∧ f ≤ 40
  up : ∀ (i : Nat) s, P[i]? = some s → ∀ c ∈ s.l, fs.getD i 0 < fs.getD c.toNat 0
def Fu (fs : List Int) (n k : Nat) : Prop := (41 : Int) ≤ n + fs.getD k 0
theorem Fu.le {P : List Stn} {fs : List Int} (lv : Lv P fs) {k : Nat} (hk : k < P.length) : 0 ≤ fs.getD k 0 ∧ fs.getD k 0 ≤ 40 := by
  have h := List.getElem?_eq_getElem (l := fs) (i := k) (by rw [lv.len]; exact hk)
  rw [List.getD_eq_getElem?_getD, h]
  exact lv.bd _ (List.mem_of_getElem? h)
theorem Fu.zero {P : List Stn} {fs : List Int} (lv : Lv P fs) {k : Nat} (hk : k < P.length) (h : Fu fs 0 k) : False := by
  have := Fu.le lv hk
  unfold Fu at h
  omega
theorem OOk.at_ {P : List Stn} {O : List (List Nat)} (oo : OOk P O) {k : Nat} {s : Stn} (hs : P[k]? = some s) : (O.getD k []).Perm (List.range s.l.length) := by
  obtain ⟨ps, h1, h2⟩ := oo.per k s hs
  rw [List.getD_eq_getElem?_getD, h1]
  exact h2
section
variable {P : Program} {w : World} {K : PySem.W.Frag} {mg : Str → Option Value} {base : Heap} {k : Nat}
def MthI (P : Program) (w : World) (K : PySem.W.Frag) (mg : Str → Option Value) (base : Heap) (k : Nat) (C : Addr) (m : Str) (fs : FS) : Prop :=
  ∃ f fd ps, Meth K C m f ∧ FnG P w K mg base CX0 k f fd ps (spV K fs.md fs.F) ∧ Binds K fd ps []
def MkI (P : Program) (w : World) (K : PySem.W.Frag) (mg : Str → Option Value) (base : Heap) (k : Nat) (C : Addr) (fs : FS) : Prop :=
  ∃ f fd ps, Mk K C f ∧ FnG P w K mg base CX0 k f fd ps (spV K fs.md fs.F) ∧ Binds K fd ps []
theorem MthI.mono {C : Addr} {m : Str} {fs : FS} {j k : Nat} (h : MthI P w K mg base j C m fs) (hjk : j ≤ k) : MthI P w K mg base k C m fs := by
  obtain ⟨f, fd, ps, h1, h2, h3⟩ := h
  exact ⟨f, fd, ps, h1, h2.mono hjk, h3⟩
theorem MkI.mono {C : Addr} {fs : FS} {j k : Nat} (h : MkI P w K mg base j C fs) (hjk : j ≤ k) : MkI P w K mg base k C fs := by
  obtain ⟨f, fd, ps, h1, h2, h3⟩ := h
  exact ⟨f, fd, ps, h1, h2.mono hjk, h3⟩
def MthX (P : Program) (w : World) (K : PySem.W.Frag) (mg : Str → Option Value) (base : Heap) (k : Nat) (C : Addr) (m : Str) (fs : FS) : Prop :=
  ∃ f fd ps, Meth K C m f ∧ FnG P w K mg base (L2.CX P w) k f fd ps (spX K mg fs.md fs.F) ∧ Binds K fd ps []
theorem MthX.mono {C : Addr} {m : Str} {fs : FS} {j k : Nat} (h : MthX P w K mg base j C m fs) (hjk : j ≤ k) : MthX P w K mg base k C m fs := by
  obtain ⟨f, fd, ps, h1, h2, h3⟩ := h
  exact ⟨f, fd, ps, h1, h2.mono hjk, h3⟩
end
set_option maxHeartbeats 1000000
local macro_rules | `(tactic| walk_at "vc") => `(tactic| first | with_reducible rfl | assumption | exact Nat.zero_le _ | exact noTup_md _ _ | exact Nat.le_of_ble_eq_true rfl | omega | rfl | trivial | focus (simp only [mkTup, T.leaves, T.noTup, T.noTupl, Kd.isTup, noTupl_md, noTupl_iT, noTupl_kids, PT, KT, Pool, kidT, Bool.not_false, Bool.and_self] <;> fail) | focus (refine ⟨?_, ?_⟩ <;> omega) | exact (fun _ => rfl) | focus (simp only [List.length_append, List.length_map, List.length_cons, List.length_nil, List.length_reverse]; omega))
/-- the refusal of a number -/
def exT06 (e_NoPlay e_NoText e_NoWay e_NoRule e_NoOrder e_NoEnds e_NoTree e_NoWindow e_TooMany e_NoSize e_NoStand e_NoNumber e_NoEnd e_NoDepth e_NoWorth e_NoChange e_NoRow e_NoName : Addr) (way : Nat) (x : PyData) : T := match way with
  | 0 => .nd (.exo "NoPlay" e_NoPlay) [.nd (.exd "place") [.d x]]
  | 1 => .nd (.exo "NoText" e_NoText) [.nd (.exd "row") [.d x]]
  | 2 => .nd (.exc "NoWay" e_NoWay) []
  | 3 => .nd (.exc "NoRule" e_NoRule) []
  | 4 => .nd (.exc "NoOrder" e_NoOrder) []
  | 5 => .nd (.exc "NoEnds" e_NoEnds) []
  | 6 => .nd (.exc "NoTree" e_NoTree) []
  | 7 => .nd (.exc "NoWindow" e_NoWindow) []
  | 8 => .nd (.exc "TooMany" e_TooMany) []
  | 9 => .nd (.exc "NoSize" e_NoSize) []
  | 10 => .nd (.exc "NoStand" e_NoStand) []
  | 11 => .nd (.exc "NoNumber" e_NoNumber) []
  | 12 => .nd (.exc "NoEnd" e_NoEnd) []
  | 13 => .nd (.exc "NoDepth" e_NoDepth) []
  | 14 => .nd (.exc "NoWorth" e_NoWorth) []
  | 15 => .nd (.exc "NoChange" e_NoChange) []
  | 16 => .nd (.exc "NoRow" e_NoRow) []
  | _ => .nd (.exc "NoName" e_NoName) []
abbrev F_law_made (e_NoPlay e_NoText e_NoWay e_NoRule e_NoOrder e_NoEnds e_NoTree e_NoWindow e_TooMany e_NoSize e_NoStand e_NoNumber e_NoEnd e_NoDepth e_NoWorth e_NoChange e_NoRow e_NoName : Addr) : List T → (T → List T → Prop) → Prop := fun ts Q => ∃ (way : Nat) (x : PyData), ts = [.d (.int (way : Nat)), .d x] ∧ way < 18 ∧ Q (exT06 e_NoPlay e_NoText e_NoWay e_NoRule e_NoOrder e_NoEnds e_NoTree e_NoWindow e_TooMany e_NoSize e_NoStand e_NoNumber e_NoEnd e_NoDepth e_NoWorth e_NoChange e_NoRow e_NoName way x) [.dead, .dead]
abbrev fsLawMade (e_NoPlay e_NoText e_NoWay e_NoRule e_NoOrder e_NoEnds e_NoTree e_NoWindow e_TooMany e_NoSize e_NoStand e_NoNumber e_NoEnd e_NoDepth e_NoWorth e_NoChange e_NoRow e_NoName : Addr) : FS := ⟨[.bor, .bor], F_law_made e_NoPlay e_NoText e_NoWay e_NoRule e_NoOrder e_NoEnds e_NoTree e_NoWindow e_TooMany e_NoSize e_NoStand e_NoNumber e_NoEnd e_NoDepth e_NoWorth e_NoChange e_NoRow e_NoName⟩
def Gm_law_made (e_NoPlay e_NoText e_NoWay e_NoRule e_NoOrder e_NoEnds e_NoTree e_NoWindow e_TooMany e_NoSize e_NoStand e_NoNumber e_NoEnd e_NoDepth e_NoWorth e_NoChange e_NoRow e_NoName : Addr) : Ctx := { fn := [], glob := [], bs := [], pin := [], cls := [], xc := [("NoWay", ⟨e_NoWay, [("NoPlay", false), ("NoText", false), ("NoWay", true), ("NoRule", false), ("NoOrder", false), ("NoEnds", false), ("NoTree", false), ("NoWindow", false), ("TooMany", false), ("NoSize", false), ("NoStand", false), ("NoNumber", false), ("NoEnd", false), ("NoDepth", false), ("NoWorth", false), ("NoChange", false), ("NoRow", false), ("NoName", false), ("BoughError", true), ("ValueError", true)]⟩), ("NoRule", ⟨e_NoRule, [("NoPlay", false), ("NoText", false), ("NoWay", false), ("NoRule", true), ("NoOrder", false), ("NoEnds", false), ("NoTree", false), ("NoWindow", false), ("TooMany", false), ("NoSize", false), ("NoStand", false), ("NoNumber", false), ("NoEnd", false), ("NoDepth", false), ("NoWorth", false), ("NoChange", false), ("NoRow", false), ("NoName", false), ("BoughError", true), ("ValueError", true)]⟩), ("NoOrder", ⟨e_NoOrder, [("NoPlay", false), ("NoText", false), ("NoWay", false), ("NoRule", false), ("NoOrder", true), ("NoEnds", false), ("NoTree", false), ("NoWindow", false), ("TooMany", false), ("NoSize", false), ("NoStand", false), ("NoNumber", false), ("NoEnd", false), ("NoDepth", false), ("NoWorth", false), ("NoChange", false), ("NoRow", false), ("NoName", false), ("BoughError", true), ("ValueError", true)]⟩), ("NoEnds", ⟨e_NoEnds, [("NoPlay", false), ("NoText", false), ("NoWay", false), ("NoRule", false), ("NoOrder", false), ("NoEnds", true), ("NoTree", false), ("NoWindow", false), ("TooMany", false), ("NoSize", false), ("NoStand", false), ("NoNumber", false), ("NoEnd", false), ("NoDepth", false), ("NoWorth", false), ("NoChange", false), ("NoRow", false), ("NoName", false), ("BoughError", true), ("ValueError", true)]⟩), ("NoTree", ⟨e_NoTree, [("NoPlay", false), ("NoText", false), ("NoWay", false), ("NoRule", false), ("NoOrder", false), ("NoEnds", false), ("NoTree", true), ("NoWindow", false), ("TooMany", false), ("NoSize", false), ("NoStand", false), ("NoNumber", false), ("NoEnd", false), ("NoDepth", false), ("NoWorth", false), ("NoChange", false), ("NoRow", false), ("NoName", false), ("BoughError", true), ("ValueError", true)]⟩), ("NoWindow", ⟨e_NoWindow, [("NoPlay", false), ("NoText", false), ("NoWay", false), ("NoRule", false), ("NoOrder", false), ("NoEnds", false), ("NoTree", false), ("NoWindow", true), ("TooMany", false), ("NoSize", false), ("NoStand", false), ("NoNumber", false), ("NoEnd", false), ("NoDepth", false), ("NoWorth", false), ("NoChange", false), ("NoRow", false), ("NoName", false), ("BoughError", true), ("ValueError", true)]⟩), ("TooMany", ⟨e_TooMany, [("NoPlay", false), ("NoText", false), ("NoWay", false), ("NoRule", false), ("NoOrder", false), ("NoEnds", false), ("NoTree", false), ("NoWindow", false), ("TooMany", true), ("NoSize", false), ("NoStand", false), ("NoNumber", false), ("NoEnd", false), ("NoDepth", false), ("NoWorth", false), ("NoChange", false), ("NoRow", false), ("NoName", false), ("BoughError", true), ("ValueError", true)]⟩), ("NoSize", ⟨e_NoSize, [("NoPlay", false), ("NoText", false), ("NoWay", false), ("NoRule", false), ("NoOrder", false), ("NoEnds", false), ("NoTree", false), ("NoWindow", false), ("TooMany", false), ("NoSize", true), ("NoStand", false), ("NoNumber", false), ("NoEnd", false), ("NoDepth", false), ("NoWorth", false), ("NoChange", false), ("NoRow", false), ("NoName", false), ("BoughError", true), ("ValueError", true)]⟩), ("NoStand", ⟨e_NoStand, [("NoPlay", false), ("NoText", false), ("NoWay", false), ("NoRule", false), ("NoOrder", false), ("NoEnds", false), ("NoTree", false), ("NoWindow", false), ("TooMany", false), ("NoSize", false), ("NoStand", true), ("NoNumber", false), ("NoEnd", false), ("NoDepth", false), ("NoWorth", false), ("NoChange", false), ("NoRow", false), ("NoName", false), ("BoughError", true), ("ValueError", true)]⟩), ("NoNumber", ⟨e_NoNumber, [("NoPlay", false), ("NoText", false), ("NoWay", false), ("NoRule", false), ("NoOrder", false), ("NoEnds", false), ("NoTree", false), ("NoWindow", false), ("TooMany", false), ("NoSize", false), ("NoStand", false), ("NoNumber", true), ("NoEnd", false), ("NoDepth", false), ("NoWorth", false), ("NoChange", false), ("NoRow", false), ("NoName", false), ("BoughError", true), ("ValueError", true)]⟩), ("NoEnd", ⟨e_NoEnd, [("NoPlay", false), ("NoText", false), ("NoWay", false), ("NoRule", false), ("NoOrder", false), ("NoEnds", false), ("NoTree", false), ("NoWindow", false), ("TooMany", false), ("NoSize", false), ("NoStand", false), ("NoNumber", false), ("NoEnd", true), ("NoDepth", false), ("NoWorth", false), ("NoChange", false), ("NoRow", false), ("NoName", false), ("BoughError", true), ("ValueError", true)]⟩), ("NoDepth", ⟨e_NoDepth, [("NoPlay", false), ("NoText", false), ("NoWay", false), ("NoRule", false), ("NoOrder", false), ("NoEnds", false), ("NoTree", false), ("NoWindow", false), ("TooMany", false), ("NoSize", false), ("NoStand", false), ("NoNumber", false), ("NoEnd", false), ("NoDepth", true), ("NoWorth", false), ("NoChange", false), ("NoRow", false), ("NoName", false), ("BoughError", true), ("ValueError", true)]⟩), ("NoWorth", ⟨e_NoWorth, [("NoPlay", false), ("NoText", false), ("NoWay", false), ("NoRule", false), ("NoOrder", false), ("NoEnds", false), ("NoTree", false), ("NoWindow", false), ("TooMany", false), ("NoSize", false), ("NoStand", false), ("NoNumber", false), ("NoEnd", false), ("NoDepth", false), ("NoWorth", true), ("NoChange", false), ("NoRow", false), ("NoName", false), ("BoughError", true), ("ValueError", true)]⟩), ("NoChange", ⟨e_NoChange, [("NoPlay", false), ("NoText", false), ("NoWay", false), ("NoRule", false), ("NoOrder", false), ("NoEnds", false), ("NoTree", false), ("NoWindow", false), ("TooMany", false), ("NoSize", false), ("NoStand", false), ("NoNumber", false), ("NoEnd", false), ("NoDepth", false), ("NoWorth", false), ("NoChange", true), ("NoRow", false), ("NoName", false), ("BoughError", true), ("ValueError", true)]⟩), ("NoRow", ⟨e_NoRow, [("NoPlay", false), ("NoText", false), ("NoWay", false), ("NoRule", false), ("NoOrder", false), ("NoEnds", false), ("NoTree", false), ("NoWindow", false), ("TooMany", false), ("NoSize", false), ("NoStand", false), ("NoNumber", false), ("NoEnd", false), ("NoDepth", false), ("NoWorth", false), ("NoChange", false), ("NoRow", true), ("NoName", false), ("BoughError", true), ("ValueError", true)]⟩), ("NoName", ⟨e_NoName, [("NoPlay", false), ("NoText", false), ("NoWay", false), ("NoRule", false), ("NoOrder", false), ("NoEnds", false), ("NoTree", false), ("NoWindow", false), ("TooMany", false), ("NoSize", false), ("NoStand", false), ("NoNumber", false), ("NoEnd", false), ("NoDepth", false), ("NoWorth", false), ("NoChange", false), ("NoRow", false), ("NoName", true), ("BoughError", true), ("ValueError", true)]⟩)], xo := [("NoPlay", ⟨e_NoPlay, "place", [("NoPlay", true), ("NoText", false), ("NoWay", false), ("NoRule", false), ("NoOrder", false), ("NoEnds", false), ("NoTree", false), ("NoWindow", false), ("TooMany", false), ("NoSize", false), ("NoStand", false), ("NoNumber", false), ("NoEnd", false), ("NoDepth", false), ("NoWorth", false), ("NoChange", false), ("NoRow", false), ("NoName", false), ("BoughError", true), ("ValueError", true)]⟩), ("NoText", ⟨e_NoText, "row", [("NoPlay", false), ("NoText", true), ("NoWay", false), ("NoRule", false), ("NoOrder", false), ("NoEnds", false), ("NoTree", false), ("NoWindow", false), ("TooMany", false), ("NoSize", false), ("NoStand", false), ("NoNumber", false), ("NoEnd", false), ("NoDepth", false), ("NoWorth", false), ("NoChange", false), ("NoRow", false), ("NoName", false), ("BoughError", true), ("ValueError", true)]⟩)] }
theorem w_law_made (e_NoPlay e_NoText e_NoWay e_NoRule e_NoOrder e_NoEnds e_NoTree e_NoWindow e_TooMany e_NoSize e_NoStand e_NoNumber e_NoEnd e_NoDepth e_NoWorth e_NoChange e_NoRow e_NoName : Addr) : bodyW (Gm_law_made e_NoPlay e_NoText e_NoWay e_NoRule e_NoOrder e_NoEnds e_NoTree e_NoWindow e_TooMany e_NoSize e_NoStand e_NoNumber e_NoEnd e_NoDepth e_NoWorth e_NoChange e_NoRow e_NoName) n_law_made [.bor, .bor] b_law_made (F_law_made e_NoPlay e_NoText e_NoWay e_NoRule e_NoOrder e_NoEnds e_NoTree e_NoWindow e_TooMany e_NoSize e_NoStand e_NoNumber e_NoEnd e_NoDepth e_NoWorth e_NoChange e_NoRow e_NoName) := by
  intro ts Q h _
  obtain ⟨way, x, rfl, hw, q⟩ := h
  have hsl : sizeLine > 10000000 := by decide
  show wSs (Gm_law_made e_NoPlay e_NoText e_NoWay e_NoRule e_NoOrder e_NoEnds e_NoTree e_NoWindow e_TooMany e_NoSize e_NoStand e_NoNumber e_NoEnd e_NoDepth e_NoWorth e_NoChange e_NoRow e_NoName) b_law_made _ [.d (.int (way : Nat)), .d x]
  have hc : way = 0 ∨ way = 1 ∨ way = 2 ∨ way = 3 ∨ way = 4 ∨ way = 5 ∨ way = 6 ∨ way = 7 ∨ way = 8 ∨ way = 9 ∨ way = 10 ∨ way = 11 ∨ way = 12 ∨ way = 13 ∨ way = 14 ∨ way = 15 ∨ way = 16 ∨ way = 17 := by omega
  rcases hc with rfl | rfl | rfl | rfl | rfl | rfl | rfl | rfl | rfl | rfl | rfl | rfl | rfl | rfl | rfl | rfl | rfl | rfl
  · walk_at "vs"
    exact q
  · walk_at "vs"
    exact q
  · walk_at "vs"
    walk_at "vu"
    walk_at "vs"
    exact q
  · walk_at "vs"
    walk_at "vu"
    walk_at "vs"
    exact q
  · walk_at "vs"
    walk_at "vu"
    walk_at "vs"
    exact q
  · walk_at "vs"
    walk_at "vu"
    walk_at "vs"
    exact q
  · walk_at "vs"
    walk_at "vu"
    walk_at "vs"
    walk_at "vu"
    walk_at "vs"
    exact q
  · walk_at "vs"
    walk_at "vu"
    walk_at "vs"
    walk_at "vu"
    walk_at "vs"
    exact q
  · walk_at "vs"
    walk_at "vu"
    walk_at "vs"
    walk_at "vu"
    walk_at "vs"
    exact q
  · walk_at "vs"
    walk_at "vu"
    walk_at "vs"
    walk_at "vu"
    walk_at "vs"
    exact q
  · walk_at "vs"
    walk_at "vu"
    walk_at "vs"
    walk_at "vu"
    walk_at "vs"
    walk_at "vu"
    walk_at "vs"
    exact q
  · walk_at "vs"
    walk_at "vu"
    walk_at "vs"
    walk_at "vu"
    walk_at "vs"
    walk_at "vu"
    walk_at "vs"
    exact q
  · walk_at "vs"
    walk_at "vu"
    walk_at "vs"
    walk_at "vu"
    walk_at "vs"
    walk_at "vu"
    walk_at "vs"
    exact q
  · walk_at "vs"
    walk_at "vu"
    walk_at "vs"
    walk_at "vu"
    walk_at "vs"
    walk_at "vu"
    walk_at "vs"
    exact q
  · walk_at "vs"
    walk_at "vu"
    walk_at "vs"
    walk_at "vu"
    walk_at "vs"
    walk_at "vu"
    walk_at "vs"
    walk_at "vu"
    walk_at "vs"
    exact q
  · walk_at "vs"
    walk_at "vu"
    walk_at "vs"
    walk_at "vu"
    walk_at "vs"
    walk_at "vu"
    walk_at "vs"
    walk_at "vu"
    walk_at "vs"
    exact q
  · walk_at "vs"
    walk_at "vu"
    walk_at "vs"
    walk_at "vu"
    walk_at "vs"
    walk_at "vu"
    walk_at "vs"
    walk_at "vu"
    walk_at "vs"
    exact q
  · walk_at "vs"
    walk_at "vu"
    walk_at "vs"
    walk_at "vu"
    walk_at "vs"
    walk_at "vu"
    walk_at "vs"
    walk_at "vu"
    walk_at "vs"
    exact q
abbrev F_law_sorts (e_NoPlay e_NoText e_NoWay e_NoRule e_NoOrder e_NoEnds e_NoTree e_NoWindow e_TooMany e_NoSize e_NoStand e_NoNumber e_NoEnd e_NoDepth e_NoWorth e_NoChange e_NoRow e_NoName : Addr) : List T → (T → List T → Prop) → Prop := fun ts Q => ∃ (way : Nat) (x : PyData), ts = [exT06 e_NoPlay e_NoText e_NoWay e_NoRule e_NoOrder e_NoEnds e_NoTree e_NoWindow e_TooMany e_NoSize e_NoStand e_NoNumber e_NoEnd e_NoDepth e_NoWorth e_NoChange e_NoRow e_NoName way x] ∧ way < 18 ∧ Q (.nd .list ((List.range 18).map fun k => T.d (.bool (decide (k = way))))) [exT06 e_NoPlay e_NoText e_NoWay e_NoRule e_NoOrder e_NoEnds e_NoTree e_NoWindow e_TooMany e_NoSize e_NoStand e_NoNumber e_NoEnd e_NoDepth e_NoWorth e_NoChange e_NoRow e_NoName way x]
abbrev fsLawSorts (e_NoPlay e_NoText e_NoWay e_NoRule e_NoOrder e_NoEnds e_NoTree e_NoWindow e_TooMany e_NoSize e_NoStand e_NoNumber e_NoEnd e_NoDepth e_NoWorth e_NoChange e_NoRow e_NoName : Addr) : FS := ⟨[.own], F_law_sorts e_NoPlay e_NoText e_NoWay e_NoRule e_NoOrder e_NoEnds e_NoTree e_NoWindow e_TooMany e_NoSize e_NoStand e_NoNumber e_NoEnd e_NoDepth e_NoWorth e_NoChange e_NoRow e_NoName⟩
def Gm_law_sorts (e_NoPlay e_NoText e_NoWay e_NoRule e_NoOrder e_NoEnds e_NoTree e_NoWindow e_TooMany e_NoSize e_NoStand e_NoNumber e_NoEnd e_NoDepth e_NoWorth e_NoChange e_NoRow e_NoName : Addr) : Ctx := { fn := [], glob := [], bs := ["isinstance"], pin := [0], cls := [], xc := [("NoWay", ⟨e_NoWay, [("NoPlay", false), ("NoText", false), ("NoWay", true), ("NoRule", false), ("NoOrder", false), ("NoEnds", false), ("NoTree", false), ("NoWindow", false), ("TooMany", false), ("NoSize", false), ("NoStand", false), ("NoNumber", false), ("NoEnd", false), ("NoDepth", false), ("NoWorth", false), ("NoChange", false), ("NoRow", false), ("NoName", false), ("BoughError", true), ("ValueError", true)]⟩), ("NoRule", ⟨e_NoRule, [("NoPlay", false), ("NoText", false), ("NoWay", false), ("NoRule", true), ("NoOrder", false), ("NoEnds", false), ("NoTree", false), ("NoWindow", false), ("TooMany", false), ("NoSize", false), ("NoStand", false), ("NoNumber", false), ("NoEnd", false), ("NoDepth", false), ("NoWorth", false), ("NoChange", false), ("NoRow", false), ("NoName", false), ("BoughError", true), ("ValueError", true)]⟩), ("NoOrder", ⟨e_NoOrder, [("NoPlay", false), ("NoText", false), ("NoWay", false), ("NoRule", false), ("NoOrder", true), ("NoEnds", false), ("NoTree", false), ("NoWindow", false), ("TooMany", false), ("NoSize", false), ("NoStand", false), ("NoNumber", false), ("NoEnd", false), ("NoDepth", false), ("NoWorth", false), ("NoChange", false), ("NoRow", false), ("NoName", false), ("BoughError", true), ("ValueError", true)]⟩), ("NoEnds", ⟨e_NoEnds, [("NoPlay", false), ("NoText", false), ("NoWay", false), ("NoRule", false), ("NoOrder", false), ("NoEnds", true), ("NoTree", false), ("NoWindow", false), ("TooMany", false), ("NoSize", false), ("NoStand", false), ("NoNumber", false), ("NoEnd", false), ("NoDepth", false), ("NoWorth", false), ("NoChange", false), ("NoRow", false), ("NoName", false), ("BoughError", true), ("ValueError", true)]⟩), ("NoTree", ⟨e_NoTree, [("NoPlay", false), ("NoText", false), ("NoWay", false), ("NoRule", false), ("NoOrder", false), ("NoEnds", false), ("NoTree", true), ("NoWindow", false), ("TooMany", false), ("NoSize", false), ("NoStand", false), ("NoNumber", false), ("NoEnd", false), ("NoDepth", false), ("NoWorth", false), ("NoChange", false), ("NoRow", false), ("NoName", false), ("BoughError", true), ("ValueError", true)]⟩), ("NoWindow", ⟨e_NoWindow, [("NoPlay", false), ("NoText", false), ("NoWay", false), ("NoRule", false), ("NoOrder", false), ("NoEnds", false), ("NoTree", false), ("NoWindow", true), ("TooMany", false), ("NoSize", false), ("NoStand", false), ("NoNumber", false), ("NoEnd", false), ("NoDepth", false), ("NoWorth", false), ("NoChange", false), ("NoRow", false), ("NoName", false), ("BoughError", true), ("ValueError", true)]⟩), ("TooMany", ⟨e_TooMany, [("NoPlay", false), ("NoText", false), ("NoWay", false), ("NoRule", false), ("NoOrder", false), ("NoEnds", false), ("NoTree", false), ("NoWindow", false), ("TooMany", true), ("NoSize", false), ("NoStand", false), ("NoNumber", false), ("NoEnd", false), ("NoDepth", false), ("NoWorth", false), ("NoChange", false), ("NoRow", false), ("NoName", false), ("BoughError", true), ("ValueError", true)]⟩), ("NoSize", ⟨e_NoSize, [("NoPlay", false), ("NoText", false), ("NoWay", false), ("NoRule", false), ("NoOrder", false), ("NoEnds", false), ("NoTree", false), ("NoWindow", false), ("TooMany", false), ("NoSize", true), ("NoStand", false), ("NoNumber", false), ("NoEnd", false), ("NoDepth", false), ("NoWorth", false), ("NoChange", false), ("NoRow", false), ("NoName", false), ("BoughError", true), ("ValueError", true)]⟩), ("NoStand", ⟨e_NoStand, [("NoPlay", false), ("NoText", false), ("NoWay", false), ("NoRule", false), ("NoOrder", false), ("NoEnds", false), ("NoTree", false), ("NoWindow", false), ("TooMany", false), ("NoSize", false), ("NoStand", true), ("NoNumber", false), ("NoEnd", false), ("NoDepth", false), ("NoWorth", false), ("NoChange", false), ("NoRow", false), ("NoName", false), ("BoughError", true), ("ValueError", true)]⟩), ("NoNumber", ⟨e_NoNumber, [("NoPlay", false), ("NoText", false), ("NoWay", false), ("NoRule", false), ("NoOrder", false), ("NoEnds", false), ("NoTree", false), ("NoWindow", false), ("TooMany", false), ("NoSize", false), ("NoStand", false), ("NoNumber", true), ("NoEnd", false), ("NoDepth", false), ("NoWorth", false), ("NoChange", false), ("NoRow", false), ("NoName", false), ("BoughError", true), ("ValueError", true)]⟩), ("NoEnd", ⟨e_NoEnd, [("NoPlay", false), ("NoText", false), ("NoWay", false), ("NoRule", false), ("NoOrder", false), ("NoEnds", false), ("NoTree", false), ("NoWindow", false), ("TooMany", false), ("NoSize", false), ("NoStand", false), ("NoNumber", false), ("NoEnd", true), ("NoDepth", false), ("NoWorth", false), ("NoChange", false), ("NoRow", false), ("NoName", false), ("BoughError", true), ("ValueError", true)]⟩), ("NoDepth", ⟨e_NoDepth, [("NoPlay", false), ("NoText", false), ("NoWay", false), ("NoRule", false), ("NoOrder", false), ("NoEnds", false), ("NoTree", false), ("NoWindow", false), ("TooMany", false), ("NoSize", false), ("NoStand", false), ("NoNumber", false), ("NoEnd", false), ("NoDepth", true), ("NoWorth", false), ("NoChange", false), ("NoRow", false), ("NoName", false), ("BoughError", true), ("ValueError", true)]⟩), ("NoWorth", ⟨e_NoWorth, [("NoPlay", false), ("NoText", false), ("NoWay", false), ("NoRule", false), ("NoOrder", false), ("NoEnds", false), ("NoTree", false), ("NoWindow", false), ("TooMany", false), ("NoSize", false), ("NoStand", false), ("NoNumber", false), ("NoEnd", false), ("NoDepth", false), ("NoWorth", true), ("NoChange", false), ("NoRow", false), ("NoName", false), ("BoughError", true), ("ValueError", true)]⟩), ("NoChange", ⟨e_NoChange, [("NoPlay", false), ("NoText", false), ("NoWay", false), ("NoRule", false), ("NoOrder", false), ("NoEnds", false), ("NoTree", false), ("NoWindow", false), ("TooMany", false), ("NoSize", false), ("NoStand", false), ("NoNumber", false), ("NoEnd", false), ("NoDepth", false), ("NoWorth", false), ("NoChange", true), ("NoRow", false), ("NoName", false), ("BoughError", true), ("ValueError", true)]⟩), ("NoRow", ⟨e_NoRow, [("NoPlay", false), ("NoText", false), ("NoWay", false), ("NoRule", false), ("NoOrder", false), ("NoEnds", false), ("NoTree", false), ("NoWindow", false), ("TooMany", false), ("NoSize", false), ("NoStand", false), ("NoNumber", false), ("NoEnd", false), ("NoDepth", false), ("NoWorth", false), ("NoChange", false), ("NoRow", true), ("NoName", false), ("BoughError", true), ("ValueError", true)]⟩), ("NoName", ⟨e_NoName, [("NoPlay", false), ("NoText", false), ("NoWay", false), ("NoRule", false), ("NoOrder", false), ("NoEnds", false), ("NoTree", false), ("NoWindow", false), ("TooMany", false), ("NoSize", false), ("NoStand", false), ("NoNumber", false), ("NoEnd", false), ("NoDepth", false), ("NoWorth", false), ("NoChange", false), ("NoRow", false), ("NoName", true), ("BoughError", true), ("ValueError", true)]⟩)], xo := [("NoPlay", ⟨e_NoPlay, "place", [("NoPlay", true), ("NoText", false), ("NoWay", false), ("NoRule", false), ("NoOrder", false), ("NoEnds", false), ("NoTree", false), ("NoWindow", false), ("TooMany", false), ("NoSize", false), ("NoStand", false), ("NoNumber", false), ("NoEnd", false), ("NoDepth", false), ("NoWorth", false), ("NoChange", false), ("NoRow", false), ("NoName", false), ("BoughError", true), ("ValueError", true)]⟩), ("NoText", ⟨e_NoText, "row", [("NoPlay", false), ("NoText", true), ("NoWay", false), ("NoRule", false), ("NoOrder", false), ("NoEnds", false), ("NoTree", false), ("NoWindow", false), ("TooMany", false), ("NoSize", false), ("NoStand", false), ("NoNumber", false), ("NoEnd", false), ("NoDepth", false), ("NoWorth", false), ("NoChange", false), ("NoRow", false), ("NoName", false), ("BoughError", true), ("ValueError", true)]⟩)] }
set_option maxHeartbeats 20000000 in
theorem w_law_sorts (e_NoPlay e_NoText e_NoWay e_NoRule e_NoOrder e_NoEnds e_NoTree e_NoWindow e_TooMany e_NoSize e_NoStand e_NoNumber e_NoEnd e_NoDepth e_NoWorth e_NoChange e_NoRow e_NoName : Addr) : bodyW (Gm_law_sorts e_NoPlay e_NoText e_NoWay e_NoRule e_NoOrder e_NoEnds e_NoTree e_NoWindow e_TooMany e_NoSize e_NoStand e_NoNumber e_NoEnd e_NoDepth e_NoWorth e_NoChange e_NoRow e_NoName) n_law_sorts [.own] b_law_sorts (F_law_sorts e_NoPlay e_NoText e_NoWay e_NoRule e_NoOrder e_NoEnds e_NoTree e_NoWindow e_TooMany e_NoSize e_NoStand e_NoNumber e_NoEnd e_NoDepth e_NoWorth e_NoChange e_NoRow e_NoName) := by
  intro ts Q h _
  obtain ⟨way, x, rfl, hw, q⟩ := h
  have hsl : sizeLine > 10000000 := by decide
  show wSs (Gm_law_sorts e_NoPlay e_NoText e_NoWay e_NoRule e_NoOrder e_NoEnds e_NoTree e_NoWindow e_TooMany e_NoSize e_NoStand e_NoNumber e_NoEnd e_NoDepth e_NoWorth e_NoChange e_NoRow e_NoName) b_law_sorts _ [exT06 e_NoPlay e_NoText e_NoWay e_NoRule e_NoOrder e_NoEnds e_NoTree e_NoWindow e_TooMany e_NoSize e_NoStand e_NoNumber e_NoEnd e_NoDepth e_NoWorth e_NoChange e_NoRow e_NoName way x, .dead]
  have hc : way = 0 ∨ way = 1 ∨ way = 2 ∨ way = 3 ∨ way = 4 ∨ way = 5 ∨ way = 6 ∨ way = 7 ∨ way = 8 ∨ way = 9 ∨ way = 10 ∨ way = 11 ∨ way = 12 ∨ way = 13 ∨ way = 14 ∨ way = 15 ∨ way = 16 ∨ way = 17 := by omega
  rcases hc with rfl | rfl | rfl | rfl | rfl | rfl | rfl | rfl | rfl | rfl | rfl | rfl | rfl | rfl | rfl | rfl | rfl | rfl
  · walk_at "vs"
    walk_at "vu"
    walk_at "vs"
    walk_at "vu"
    walk_at "vs"
    walk_at "vu"
    walk_at "vs"
    walk_at "vu"
    walk_at "vs"
    exact q
  · walk_at "vs"
    walk_at "vu"
    walk_at "vs"
    walk_at "vu"
    walk_at "vs"
    walk_at "vu"
    walk_at "vs"
    walk_at "vu"
    walk_at "vs"
    exact q
  · walk_at "vs"
    walk_at "vu"
    walk_at "vs"
    walk_at "vu"
    walk_at "vs"
    walk_at "vu"
    walk_at "vs"
    walk_at "vu"
    walk_at "vs"
    exact q
  · walk_at "vs"
    walk_at "vu"
    walk_at "vs"
    walk_at "vu"
    walk_at "vs"
    walk_at "vu"
    walk_at "vs"
    walk_at "vu"
    walk_at "vs"
    exact q
  · walk_at "vs"
    walk_at "vu"
    walk_at "vs"
    walk_at "vu"
    walk_at "vs"
    walk_at "vu"
    walk_at "vs"
    walk_at "vu"
    walk_at "vs"
    exact q
  · walk_at "vs"
    walk_at "vu"
    walk_at "vs"
    walk_at "vu"
    walk_at "vs"
    walk_at "vu"
    walk_at "vs"
    walk_at "vu"
    walk_at "vs"
    exact q
  · walk_at "vs"
    walk_at "vu"
    walk_at "vs"
    walk_at "vu"
    walk_at "vs"
    walk_at "vu"
    walk_at "vs"
    walk_at "vu"
    walk_at "vs"
    exact q
  · walk_at "vs"
    walk_at "vu"
    walk_at "vs"
    walk_at "vu"
    walk_at "vs"
    walk_at "vu"
    walk_at "vs"
    walk_at "vu"
    walk_at "vs"
    exact q
  · walk_at "vs"
    walk_at "vu"
    walk_at "vs"
    walk_at "vu"
    walk_at "vs"
    walk_at "vu"
    walk_at "vs"
    walk_at "vu"
    walk_at "vs"
    exact q
  · walk_at "vs"
    walk_at "vu"
    walk_at "vs"
    walk_at "vu"
    walk_at "vs"
    walk_at "vu"
    walk_at "vs"
    walk_at "vu"
    walk_at "vs"
    exact q
  · walk_at "vs"
    walk_at "vu"
    walk_at "vs"
    walk_at "vu"
    walk_at "vs"
    walk_at "vu"
    walk_at "vs"
    walk_at "vu"
    walk_at "vs"
    exact q
  · walk_at "vs"
    walk_at "vu"
    walk_at "vs"
    walk_at "vu"
    walk_at "vs"
    walk_at "vu"
    walk_at "vs"
    walk_at "vu"
    walk_at "vs"
    exact q
  · walk_at "vs"
    walk_at "vu"
    walk_at "vs"
    walk_at "vu"
    walk_at "vs"
    walk_at "vu"
    walk_at "vs"
    walk_at "vu"
    walk_at "vs"
    exact q
  · walk_at "vs"
    walk_at "vu"
    walk_at "vs"
    walk_at "vu"
    walk_at "vs"
    walk_at "vu"
    walk_at "vs"
    walk_at "vu"
    walk_at "vs"
    exact q
  · walk_at "vs"
    walk_at "vu"
    walk_at "vs"
    walk_at "vu"
    walk_at "vs"
    walk_at "vu"
    walk_at "vs"
    walk_at "vu"
    walk_at "vs"
    exact q
  · walk_at "vs"
    walk_at "vu"
    walk_at "vs"
    walk_at "vu"
    walk_at "vs"
    walk_at "vu"
    walk_at "vs"
    walk_at "vu"
    walk_at "vs"
    exact q
  · walk_at "vs"
    walk_at "vu"
    walk_at "vs"
    walk_at "vu"
    walk_at "vs"
    walk_at "vu"
    walk_at "vs"
    walk_at "vu"
    walk_at "vs"
    exact q
  · walk_at "vs"
    walk_at "vu"
    walk_at "vs"
    walk_at "vu"
    walk_at "vs"
    walk_at "vu"
    walk_at "vs"
    walk_at "vu"
    walk_at "vs"
    exact q
end VL
namespace VL
open PySem PySem.Spec PyProof.Rows L2 TL
local macro_rules | `(tactic| walk_at "vc") => `(tactic| first | with_reducible rfl | assumption | exact Nat.zero_le _ | exact noTup_md _ _ | exact Nat.le_of_ble_eq_true rfl | omega | rfl | trivial | focus (simp only [mkTup, T.leaves, T.noTup, T.noTupl, Kd.isTup, noTupl_md, noTupl_iT, noTupl_kids, PT, KT, Pool, kidT, Bool.not_false, Bool.and_self] <;> fail) | focus (refine ⟨?_, ?_⟩ <;> omega) | exact (fun _ => rfl) | focus (simp only [List.length_append, List.length_map, List.length_cons, List.length_nil, List.length_reverse]; omega))
local macro_rules | `(tactic| walk_at "vn") => `(tactic| (intro z; first | (with_unfolding_all exact Bool.noConfusion (show false = true from z)) | (with_unfolding_all exact Bool.noConfusion (show true = false from z)) | (focus (refine absurd z ?_; first | decide | (simp only [Bool.not_eq_true', Bool.not_eq_false', decide_eq_true_eq, decide_eq_false_iff_not, List.length_map, iT_len]; omega) | (simp <;> fail)))))
local macro_rules | `(tactic| walk_at "v1") => `(tactic| ((conv => whnf); (with_reducible refine And.intro ?_ ?_); first | (walk_at "vn"; try (with_reducible intro _)) | (rotate_left; walk_at "vn"; (with_reducible intro _)) | (with_unfolding_all walk_at "vc")))
local macro_rules | `(tactic| walk_at "v") => `(tactic| ((repeat walk_at "v1"); conv => whnf))
local macro_rules | `(tactic| row_has $h) => `(tactic| (rw [$h:ident]; walk_at "v"))
local macro_rules | `(tactic| walk_at "vs") => `(tactic| (refine holdW ?_; walk_at "v"))
local macro_rules | `(tactic| walk_at "vu") => `(tactic| refine unholdW ?_)
def Gm_law (e_NoPlay e_NoText e_NoWay e_NoRule e_NoOrder e_NoEnds e_NoTree e_NoWindow e_TooMany e_NoSize e_NoStand e_NoNumber e_NoEnd e_NoDepth e_NoWorth e_NoChange e_NoRow e_NoName : Addr) : Ctx := { fn := [("_law_pool", fsPool), ("_law_take", fsTake), ("_law_made", fsLawMade e_NoPlay e_NoText e_NoWay e_NoRule e_NoOrder e_NoEnds e_NoTree e_NoWindow e_TooMany e_NoSize e_NoStand e_NoNumber e_NoEnd e_NoDepth e_NoWorth e_NoChange e_NoRow e_NoName), ("_law_sorts", fsLawSorts e_NoPlay e_NoText e_NoWay e_NoRule e_NoOrder e_NoEnds e_NoTree e_NoWindow e_TooMany e_NoSize e_NoStand e_NoNumber e_NoEnd e_NoDepth e_NoWorth e_NoChange e_NoRow e_NoName)], glob := [], bs := ["range", "isinstance"], pin := [], cls := [], xc := [("NoWay", ⟨e_NoWay, [("NoPlay", false), ("NoText", false), ("NoWay", true), ("NoRule", false), ("NoOrder", false), ("NoEnds", false), ("NoTree", false), ("NoWindow", false), ("TooMany", false), ("NoSize", false), ("NoStand", false), ("NoNumber", false), ("NoEnd", false), ("NoDepth", false), ("NoWorth", false), ("NoChange", false), ("NoRow", false), ("NoName", false), ("BoughError", true), ("ValueError", true)]⟩), ("NoRule", ⟨e_NoRule, [("NoPlay", false), ("NoText", false), ("NoWay", false), ("NoRule", true), ("NoOrder", false), ("NoEnds", false), ("NoTree", false), ("NoWindow", false), ("TooMany", false), ("NoSize", false), ("NoStand", false), ("NoNumber", false), ("NoEnd", false), ("NoDepth", false), ("NoWorth", false), ("NoChange", false), ("NoRow", false), ("NoName", false), ("BoughError", true), ("ValueError", true)]⟩), ("NoOrder", ⟨e_NoOrder, [("NoPlay", false), ("NoText", false), ("NoWay", false), ("NoRule", false), ("NoOrder", true), ("NoEnds", false), ("NoTree", false), ("NoWindow", false), ("TooMany", false), ("NoSize", false), ("NoStand", false), ("NoNumber", false), ("NoEnd", false), ("NoDepth", false), ("NoWorth", false), ("NoChange", false), ("NoRow", false), ("NoName", false), ("BoughError", true), ("ValueError", true)]⟩), ("NoEnds", ⟨e_NoEnds, [("NoPlay", false), ("NoText", false), ("NoWay", false), ("NoRule", false), ("NoOrder", false), ("NoEnds", true), ("NoTree", false), ("NoWindow", false), ("TooMany", false), ("NoSize", false), ("NoStand", false), ("NoNumber", false), ("NoEnd", false), ("NoDepth", false), ("NoWorth", false), ("NoChange", false), ("NoRow", false), ("NoName", false), ("BoughError", true), ("ValueError", true)]⟩), ("NoTree", ⟨e_NoTree, [("NoPlay", false), ("NoText", false), ("NoWay", false), ("NoRule", false), ("NoOrder", false), ("NoEnds", false), ("NoTree", true), ("NoWindow", false), ("TooMany", false), ("NoSize", false), ("NoStand", false), ("NoNumber", false), ("NoEnd", false), ("NoDepth", false), ("NoWorth", false), ("NoChange", false), ("NoRow", false), ("NoName", false), ("BoughError", true), ("ValueError", true)]⟩), ("NoWindow", ⟨e_NoWindow, [("NoPlay", false), ("NoText", false), ("NoWay", false), ("NoRule", false), ("NoOrder", false), ("NoEnds", false), ("NoTree", false), ("NoWindow", true), ("TooMany", false), ("NoSize", false), ("NoStand", false), ("NoNumber", false), ("NoEnd", false), ("NoDepth", false), ("NoWorth", false), ("NoChange", false), ("NoRow", false), ("NoName", false), ("BoughError", true), ("ValueError", true)]⟩), ("TooMany", ⟨e_TooMany, [("NoPlay", false), ("NoText", false), ("NoWay", false), ("NoRule", false), ("NoOrder", false), ("NoEnds", false), ("NoTree", false), ("NoWindow", false), ("TooMany", true), ("NoSize", false), ("NoStand", false), ("NoNumber", false), ("NoEnd", false), ("NoDepth", false), ("NoWorth", false), ("NoChange", false), ("NoRow", false), ("NoName", false), ("BoughError", true), ("ValueError", true)]⟩), ("NoSize", ⟨e_NoSize, [("NoPlay", false), ("NoText", false), ("NoWay", false), ("NoRule", false), ("NoOrder", false), ("NoEnds", false), ("NoTree", false), ("NoWindow", false), ("TooMany", false), ("NoSize", true), ("NoStand", false), ("NoNumber", false), ("NoEnd", false), ("NoDepth", false), ("NoWorth", false), ("NoChange", false), ("NoRow", false), ("NoName", false), ("BoughError", true), ("ValueError", true)]⟩), ("NoStand", ⟨e_NoStand, [("NoPlay", false), ("NoText", false), ("NoWay", false), ("NoRule", false), ("NoOrder", false), ("NoEnds", false), ("NoTree", false), ("NoWindow", false), ("TooMany", false), ("NoSize", false), ("NoStand", true), ("NoNumber", false), ("NoEnd", false), ("NoDepth", false), ("NoWorth", false), ("NoChange", false), ("NoRow", false), ("NoName", false), ("BoughError", true), ("ValueError", true)]⟩), ("NoNumber", ⟨e_NoNumber, [("NoPlay", false), ("NoText", false), ("NoWay", false), ("NoRule", false), ("NoOrder", false), ("NoEnds", false), ("NoTree", false), ("NoWindow", false), ("TooMany", false), ("NoSize", false), ("NoStand", false), ("NoNumber", true), ("NoEnd", false), ("NoDepth", false), ("NoWorth", false), ("NoChange", false), ("NoRow", false), ("NoName", false), ("BoughError", true), ("ValueError", true)]⟩), ("NoEnd", ⟨e_NoEnd, [("NoPlay", false), ("NoText", false), ("NoWay", false), ("NoRule", false), ("NoOrder", false), ("NoEnds", false), ("NoTree", false), ("NoWindow", false), ("TooMany", false), ("NoSize", false), ("NoStand", false), ("NoNumber", false), ("NoEnd", true), ("NoDepth", false), ("NoWorth", false), ("NoChange", false), ("NoRow", false), ("NoName", false), ("BoughError", true), ("ValueError", true)]⟩), ("NoDepth", ⟨e_NoDepth, [("NoPlay", false), ("NoText", false), ("NoWay", false), ("NoRule", false), ("NoOrder", false), ("NoEnds", false), ("NoTree", false), ("NoWindow", false), ("TooMany", false), ("NoSize", false), ("NoStand", false), ("NoNumber", false), ("NoEnd", false), ("NoDepth", true), ("NoWorth", false), ("NoChange", false), ("NoRow", false), ("NoName", false), ("BoughError", true), ("ValueError", true)]⟩), ("NoWorth", ⟨e_NoWorth, [("NoPlay", false), ("NoText", false), ("NoWay", false), ("NoRule", false), ("NoOrder", false), ("NoEnds", false), ("NoTree", false), ("NoWindow", false), ("TooMany", false), ("NoSize", false), ("NoStand", false), ("NoNumber", false), ("NoEnd", false), ("NoDepth", false), ("NoWorth", true), ("NoChange", false), ("NoRow", false), ("NoName", false), ("BoughError", true), ("ValueError", true)]⟩), ("NoChange", ⟨e_NoChange, [("NoPlay", false), ("NoText", false), ("NoWay", false), ("NoRule", false), ("NoOrder", false), ("NoEnds", false), ("NoTree", false), ("NoWindow", false), ("TooMany", false), ("NoSize", false), ("NoStand", false), ("NoNumber", false), ("NoEnd", false), ("NoDepth", false), ("NoWorth", false), ("NoChange", true), ("NoRow", false), ("NoName", false), ("BoughError", true), ("ValueError", true)]⟩), ("NoRow", ⟨e_NoRow, [("NoPlay", false), ("NoText", false), ("NoWay", false), ("NoRule", false), ("NoOrder", false), ("NoEnds", false), ("NoTree", false), ("NoWindow", false), ("TooMany", false), ("NoSize", false), ("NoStand", false), ("NoNumber", false), ("NoEnd", false), ("NoDepth", false), ("NoWorth", false), ("NoChange", false), ("NoRow", true), ("NoName", false), ("BoughError", true), ("ValueError", true)]⟩), ("NoName", ⟨e_NoName, [("NoPlay", false), ("NoText", false), ("NoWay", false), ("NoRule", false), ("NoOrder", false), ("NoEnds", false), ("NoTree", false), ("NoWindow", false), ("TooMany", false), ("NoSize", false), ("NoStand", false), ("NoNumber", false), ("NoEnd", false), ("NoDepth", false), ("NoWorth", false), ("NoChange", false), ("NoRow", false), ("NoName", true), ("BoughError", true), ("ValueError", true)]⟩)], xo := [("NoPlay", ⟨e_NoPlay, "place", [("NoPlay", true), ("NoText", false), ("NoWay", false), ("NoRule", false), ("NoOrder", false), ("NoEnds", false), ("NoTree", false), ("NoWindow", false), ("TooMany", false), ("NoSize", false), ("NoStand", false), ("NoNumber", false), ("NoEnd", false), ("NoDepth", false), ("NoWorth", false), ("NoChange", false), ("NoRow", false), ("NoName", false), ("BoughError", true), ("ValueError", true)]⟩), ("NoText", ⟨e_NoText, "row", [("NoPlay", false), ("NoText", true), ("NoWay", false), ("NoRule", false), ("NoOrder", false), ("NoEnds", false), ("NoTree", false), ("NoWindow", false), ("TooMany", false), ("NoSize", false), ("NoStand", false), ("NoNumber", false), ("NoEnd", false), ("NoDepth", false), ("NoWorth", false), ("NoChange", false), ("NoRow", false), ("NoName", false), ("BoughError", true), ("ValueError", true)]⟩)] }
def lawB : List S := [.asg 3 (.ix (.lst [.k .none, .k (.int 0), .call "_law_take" [.var 1, .k (.int 400)], .call "_law_take" [.var 1, .bin .pow (.k (.int 10)) (.k (.int 9))]]) (.call "_law_take" [.var 1, .k (.int 4)])), .asg 4 (.call "_law_made" [.var 2, .var 3]), .ife (.or (.not (.isx (.var 4) false ["BoughError"])) (.not (.isx (.var 4) false ["ValueError"]))) [.ret (.k (.bool false))] [], .ife (.cmp .ne (.call "_law_sorts" [.var 4]) (.lc [5] false (.cmp .eq (.var 5) (.var 2)) .rng1 [.k (.int 18)] [])) [.ret (.k (.bool false))] [], .ife (.or (.and (.cmp .eq (.var 2) (.k (.int 0))) (.cmp .ne (.xat "place" (.var 4)) (.var 3))) (.and (.cmp .eq (.var 2) (.k (.int 1))) (.cmp .ne (.xat "row" (.var 4)) (.var 3)))) [.ret (.k (.bool false))] []]
/-- a thing drawn -/
def Thg (x : PyData) : Prop := x = .none ∨ ∃ i : Int, x = .int i
theorem exT06_nd (e_NoPlay e_NoText e_NoWay e_NoRule e_NoOrder e_NoEnds e_NoTree e_NoWindow e_TooMany e_NoSize e_NoStand e_NoNumber e_NoEnd e_NoDepth e_NoWorth e_NoChange e_NoRow e_NoName : Addr) {way : Nat} (hw : way < 18) (x : PyData) : ∃ kd ts, exT06 e_NoPlay e_NoText e_NoWay e_NoRule e_NoOrder e_NoEnds e_NoTree e_NoWindow e_TooMany e_NoSize e_NoStand e_NoNumber e_NoEnd e_NoDepth e_NoWorth e_NoChange e_NoRow e_NoName way x = .nd kd ts := by
  have hc : way = 0 ∨ way = 1 ∨ way = 2 ∨ way = 3 ∨ way = 4 ∨ way = 5 ∨ way = 6 ∨ way = 7 ∨ way = 8 ∨ way = 9 ∨ way = 10 ∨ way = 11 ∨ way = 12 ∨ way = 13 ∨ way = 14 ∨ way = 15 ∨ way = 16 ∨ way = 17 := by omega
  rcases hc with rfl | rfl | rfl | rfl | rfl | rfl | rfl | rfl | rfl | rfl | rfl | rfl | rfl | rfl | rfl | rfl | rfl | rfl <;> exact ⟨_, _, rfl⟩
theorem exT06_tup (e_NoPlay e_NoText e_NoWay e_NoRule e_NoOrder e_NoEnds e_NoTree e_NoWindow e_TooMany e_NoSize e_NoStand e_NoNumber e_NoEnd e_NoDepth e_NoWorth e_NoChange e_NoRow e_NoName : Addr) {way : Nat} (hw : way < 18) (x : PyData) : (exT06 e_NoPlay e_NoText e_NoWay e_NoRule e_NoOrder e_NoEnds e_NoTree e_NoWindow e_TooMany e_NoSize e_NoStand e_NoNumber e_NoEnd e_NoDepth e_NoWorth e_NoChange e_NoRow e_NoName way x).noTup = true := by
  have hc : way = 0 ∨ way = 1 ∨ way = 2 ∨ way = 3 ∨ way = 4 ∨ way = 5 ∨ way = 6 ∨ way = 7 ∨ way = 8 ∨ way = 9 ∨ way = 10 ∨ way = 11 ∨ way = 12 ∨ way = 13 ∨ way = 14 ∨ way = 15 ∨ way = 16 ∨ way = 17 := by omega
  rcases hc with rfl | rfl | rfl | rfl | rfl | rfl | rfl | rfl | rfl | rfl | rfl | rfl | rfl | rfl | rfl | rfl | rfl | rfl <;> rfl
theorem datal_bs : ∀ bs : List Bool, T.datal (bs.map fun b => T.d (.bool b)) = some (bs.map .bool)
  | [] => rfl
  | b :: bs => by rw [List.map_cons, T.datal, T.data, datal_bs bs]; rfl
theorem eqv_bs : ∀ bs : List Bool, PyData.eqv (.list (bs.map .bool)) (.list (bs.map .bool)) = true
  | [] => rfl
  | b :: bs => by
    have ih := eqv_bs bs
    simp only [PyData.eqv, List.map_cons, List.length_cons, beq_self_eq_true, Bool.true_and, PyData.eqvAll] at ih ⊢
    cases b <;> simp_all
theorem shaped_bs (bs : List Bool) : SeqAt.shaped (.list (bs.map .bool)) = true := (shp_list (n := 1) fun x hx => by
  obtain ⟨b, _, rfl⟩ := List.mem_map.mp hx
  exact ⟨rfl, Nat.zero_le _⟩).shaped (by omega)
def s06 (i : Nat) : S := lawB.getD i .pass
set_option maxHeartbeats 20000000 in
theorem k06_s1 (e_NoPlay e_NoText e_NoWay e_NoRule e_NoOrder e_NoEnds e_NoTree e_NoWindow e_TooMany e_NoSize e_NoStand e_NoNumber e_NoEnd e_NoDepth e_NoWorth e_NoChange e_NoRow e_NoName : Addr) {ns : List Int} {a s : Int} {way : Nat} (hw : way < 18) {x : PyData} {x5 : T} {N : AE} (hN : N.nx [.d (.list (ns.map .int)), Pool a s, .d (.int (way : Nat)), .d x, exT06 e_NoPlay e_NoText e_NoWay e_NoRule e_NoOrder e_NoEnds e_NoTree e_NoWindow e_TooMany e_NoSize e_NoStand e_NoNumber e_NoEnd e_NoDepth e_NoWorth e_NoChange e_NoRow e_NoName way x, x5]) :
    wS (Gm_law e_NoPlay e_NoText e_NoWay e_NoRule e_NoOrder e_NoEnds e_NoTree e_NoWindow e_TooMany e_NoSize e_NoStand e_NoNumber e_NoEnd e_NoDepth e_NoWorth e_NoChange e_NoRow e_NoName) (s06 2) N [.d (.list (ns.map .int)), Pool a s, .d (.int (way : Nat)), .d x, exT06 e_NoPlay e_NoText e_NoWay e_NoRule e_NoOrder e_NoEnds e_NoTree e_NoWindow e_TooMany e_NoSize e_NoStand e_NoNumber e_NoEnd e_NoDepth e_NoWorth e_NoChange e_NoRow e_NoName way x, x5] := by
  have hc : way = 0 ∨ way = 1 ∨ way = 2 ∨ way = 3 ∨ way = 4 ∨ way = 5 ∨ way = 6 ∨ way = 7 ∨ way = 8 ∨ way = 9 ∨ way = 10 ∨ way = 11 ∨ way = 12 ∨ way = 13 ∨ way = 14 ∨ way = 15 ∨ way = 16 ∨ way = 17 := by omega
  rcases hc with rfl | rfl | rfl | rfl | rfl | rfl | rfl | rfl | rfl | rfl | rfl | rfl | rfl | rfl | rfl | rfl | rfl | rfl
  all_goals
    walk_at "v"
    exact hN
set_option maxHeartbeats 4000000 in
theorem k06_s2 (e_NoPlay e_NoText e_NoWay e_NoRule e_NoOrder e_NoEnds e_NoTree e_NoWindow e_TooMany e_NoSize e_NoStand e_NoNumber e_NoEnd e_NoDepth e_NoWorth e_NoChange e_NoRow e_NoName : Addr) {ns : List Int} {a s : Int} {way : Nat} (hw : way < 18) {x : PyData} {x5 : T} {N : AE} (hN : ∀ y5 : T, N.nx [.d (.list (ns.map .int)), Pool a s, .d (.int (way : Nat)), .d x, exT06 e_NoPlay e_NoText e_NoWay e_NoRule e_NoOrder e_NoEnds e_NoTree e_NoWindow e_TooMany e_NoSize e_NoStand e_NoNumber e_NoEnd e_NoDepth e_NoWorth e_NoChange e_NoRow e_NoName way x, y5]) :
    wS (Gm_law e_NoPlay e_NoText e_NoWay e_NoRule e_NoOrder e_NoEnds e_NoTree e_NoWindow e_TooMany e_NoSize e_NoStand e_NoNumber e_NoEnd e_NoDepth e_NoWorth e_NoChange e_NoRow e_NoName) (s06 3) N [.d (.list (ns.map .int)), Pool a s, .d (.int (way : Nat)), .d x, exT06 e_NoPlay e_NoText e_NoWay e_NoRule e_NoOrder e_NoEnds e_NoTree e_NoWindow e_TooMany e_NoSize e_NoStand e_NoNumber e_NoEnd e_NoDepth e_NoWorth e_NoChange e_NoRow e_NoName way x, x5] := by
  have hsl : sizeLine > 10000000 := by decide
  obtain ⟨kd, ts, ee⟩ := exT06_nd e_NoPlay e_NoText e_NoWay e_NoRule e_NoOrder e_NoEnds e_NoTree e_NoWindow e_TooMany e_NoSize e_NoStand e_NoNumber e_NoEnd e_NoDepth e_NoWorth e_NoChange e_NoRow e_NoName hw x
  rw [ee]
  walk_at "v"
  refine ⟨way, x, by rw [ee], hw, fun z => (by cases z), ?_⟩
  rw [ee]
  have eL : ((List.range 18).map fun k => T.d (.bool (decide (k = way)))) = ((List.range 18).map fun k => decide (k = way)).map fun b => T.d (.bool b) := by rw [List.map_map]; rfl
  have eL2 : ((List.range 18).map fun k : Nat => T.d (.bool (decide (((k : Nat) : Int) = ((way : Nat) : Int))))) = ((List.range 18).map fun k => decide (k = way)).map fun b => T.d (.bool b) := by
    rw [List.map_map]
    refine List.map_congr_left fun k _ => ?_
    show T.d (.bool (decide ((k : Int) = (way : Int)))) = T.d (.bool (decide (k = way)))
    simp only [Int.natCast_inj]
  rw [eL]
  have hbl : ((List.range 18).map fun k => decide (k = way)).length = 18 := rfl
  generalize ((List.range 18).map fun k => decide (k = way)) = bs at *
  (conv => whnf)
  refine ⟨⟨by decide, by decide⟩, ?_⟩
  have er : rngL 0 (Int.toNat 18) = (List.range 18).map fun k : Nat => PyData.int (k : Nat) := rfl
  rw [er]
  refine lcW_md (is := [5]) (σ := [.d (.list (ns.map .int)), Pool a s, .d (.int (way : Nat)), .d x, .nd kd ts, x5]) (g := fun k : Nat => PyData.int (k : Nat)) (f := fun k : Nat => T.d (.bool (decide (((k : Nat) : Int) = ((way : Nat) : Int))))) (List.range 18) (fun k hk => ⟨_, rfl, fun Q hQ => ?_, rfl⟩) (by rw [List.length_range]; omega) ?_
  · (conv => whnf)
    exact hQ
  · rw [eL2]
    (conv => whnf)
    have hd : ∀ σ : St, (R.v (.nd .list (bs.map fun b => T.d (.bool b)))).data σ = some (.list (bs.map .bool)) := fun σ => by
      show (T.nd .list (bs.map fun b => T.d (.bool b))).data = _
      rw [T.data, datal_bs]
      rfl
    rw [hd]
    (conv => whnf)
    refine ⟨shaped_bs bs, shaped_bs bs, ?_⟩
    rw [eqv_bs]
    walk_at "v"
    rw [← ee]
    exact hN _
set_option maxHeartbeats 4000000 in
theorem k06_s3 (e_NoPlay e_NoText e_NoWay e_NoRule e_NoOrder e_NoEnds e_NoTree e_NoWindow e_TooMany e_NoSize e_NoStand e_NoNumber e_NoEnd e_NoDepth e_NoWorth e_NoChange e_NoRow e_NoName : Addr) {ns : List Int} {a s : Int} {way : Nat} (hw : way < 18) {x : PyData} (hx : Thg x) {x5 : T} {N : AE} (hN : ∀ y4 : T, N.nx [.d (.list (ns.map .int)), Pool a s, .d (.int (way : Nat)), .d x, y4, x5]) :
    wS (Gm_law e_NoPlay e_NoText e_NoWay e_NoRule e_NoOrder e_NoEnds e_NoTree e_NoWindow e_TooMany e_NoSize e_NoStand e_NoNumber e_NoEnd e_NoDepth e_NoWorth e_NoChange e_NoRow e_NoName) (s06 4) N [.d (.list (ns.map .int)), Pool a s, .d (.int (way : Nat)), .d x, exT06 e_NoPlay e_NoText e_NoWay e_NoRule e_NoOrder e_NoEnds e_NoTree e_NoWindow e_TooMany e_NoSize e_NoStand e_NoNumber e_NoEnd e_NoDepth e_NoWorth e_NoChange e_NoRow e_NoName way x, x5] := by
  have hc : way = 0 ∨ way = 1 ∨ 2 ≤ way := by omega
  rcases hc with rfl | rfl | h2
  · rcases hx with rfl | ⟨i, rfl⟩
    · walk_at "v"
      exact hN _
    · walk_at "v"
      exact hN _
  · rcases hx with rfl | ⟨i, rfl⟩
    · walk_at "v"
      exact hN _
    · walk_at "v"
      exact hN _
  · have h0 : ((way : Nat) : Int) ≠ 0 := by omega
    have h1 : ((way : Nat) : Int) ≠ 1 := by omega
    walk_at "v"
    exact hN _
theorem k06_tail (e_NoPlay e_NoText e_NoWay e_NoRule e_NoOrder e_NoEnds e_NoTree e_NoWindow e_TooMany e_NoSize e_NoStand e_NoNumber e_NoEnd e_NoDepth e_NoWorth e_NoChange e_NoRow e_NoName : Addr) {ns : List Int} {a s : Int} {way : Nat} (hw : way < 18) {x : PyData} (hx : Thg x) {x5 : T} {N : AE} (hN : ∀ y4 y5 : T, N.nx [.d (.list (ns.map .int)), Pool a s, .d (.int (way : Nat)), .d x, y4, y5]) :
    wSs (Gm_law e_NoPlay e_NoText e_NoWay e_NoRule e_NoOrder e_NoEnds e_NoTree e_NoWindow e_TooMany e_NoSize e_NoStand e_NoNumber e_NoEnd e_NoDepth e_NoWorth e_NoChange e_NoRow e_NoName) (lawB.drop 2) N [.d (.list (ns.map .int)), Pool a s, .d (.int (way : Nat)), .d x, exT06 e_NoPlay e_NoText e_NoWay e_NoRule e_NoOrder e_NoEnds e_NoTree e_NoWindow e_TooMany e_NoSize e_NoStand e_NoNumber e_NoEnd e_NoDepth e_NoWorth e_NoChange e_NoRow e_NoName way x, x5] := by
  refine k06_s1 e_NoPlay e_NoText e_NoWay e_NoRule e_NoOrder e_NoEnds e_NoTree e_NoWindow e_TooMany e_NoSize e_NoStand e_NoNumber e_NoEnd e_NoDepth e_NoWorth e_NoChange e_NoRow e_NoName hw ?_
  refine k06_s2 e_NoPlay e_NoText e_NoWay e_NoRule e_NoOrder e_NoEnds e_NoTree e_NoWindow e_TooMany e_NoSize e_NoStand e_NoNumber e_NoEnd e_NoDepth e_NoWorth e_NoChange e_NoRow e_NoName hw fun y5 => ?_
  exact k06_s3 e_NoPlay e_NoText e_NoWay e_NoRule e_NoOrder e_NoEnds e_NoTree e_NoWindow e_TooMany e_NoSize e_NoStand e_NoNumber e_NoEnd e_NoDepth e_NoWorth e_NoChange e_NoRow e_NoName hw hx fun y4 => hN y4 y5
set_option maxHeartbeats 4000000 in
theorem k06_turn (e_NoPlay e_NoText e_NoWay e_NoRule e_NoOrder e_NoEnds e_NoTree e_NoWindow e_TooMany e_NoSize e_NoStand e_NoNumber e_NoEnd e_NoDepth e_NoWorth e_NoChange e_NoRow e_NoName : Addr) {ns : List Int} {a s : Int} (hp : PoolOk a s) {way : Nat} (hw : way < 18) {x3 x4 x5 : T} {N : AE} (hN : ∀ (a s : Int) (y3 y4 y5 : T), PoolOk a s → N.nx [.d (.list (ns.map .int)), Pool a s, .d (.int (way : Nat)), y3, y4, y5]) :
    wSs (Gm_law e_NoPlay e_NoText e_NoWay e_NoRule e_NoOrder e_NoEnds e_NoTree e_NoWindow e_TooMany e_NoSize e_NoStand e_NoNumber e_NoEnd e_NoDepth e_NoWorth e_NoChange e_NoRow e_NoName) lawB N [.d (.list (ns.map .int)), Pool a s, .d (.int (way : Nat)), x3, x4, x5] := by
  have hsl : sizeLine > 10000000 := by decide
  have hp9 : CPow 10 9 := ⟨by decide, by decide, by decide⟩
  walk_at "vs"
  refine ⟨a, s, 400, rfl, hp, by decide, by decide, fun r a' s' h1 h2 h3 => ⟨fun z => (by cases z), ?_⟩⟩
  walk_at "v"
  refine ⟨a', s', 10 ^ 9, rfl, h3, by decide, by decide, fun r2 a2 s2 h4 h5 h6 => ⟨fun z => (by cases z), ?_⟩⟩
  walk_at "v"
  refine ⟨a2, s2, 4, rfl, h6, by decide, by decide, fun r3 a3 s3 h7 h8 h9 => ⟨fun z => (by cases z), ?_⟩⟩
  have key : ∀ x, Thg x → wSs (Gm_law e_NoPlay e_NoText e_NoWay e_NoRule e_NoOrder e_NoEnds e_NoTree e_NoWindow e_TooMany e_NoSize e_NoStand e_NoNumber e_NoEnd e_NoDepth e_NoWorth e_NoChange e_NoRow e_NoName) (lawB.drop 1) N [.d (.list (ns.map .int)), Pool a3 s3, .d (.int (way : Nat)), .d x, x4, x5] := by
    intro x hx
    walk_at "vs"
    refine ⟨way, x, rfl, hw, fun z => (by cases z), ?_⟩
    walk_at "v"
    refine ⟨exT06_tup e_NoPlay e_NoText e_NoWay e_NoRule e_NoOrder e_NoEnds e_NoTree e_NoWindow e_TooMany e_NoSize e_NoStand e_NoNumber e_NoEnd e_NoDepth e_NoWorth e_NoChange e_NoRow e_NoName hw x, Nat.le_of_ble_eq_true rfl, ?_⟩
    walk_at "vu"
    exact k06_tail e_NoPlay e_NoText e_NoWay e_NoRule e_NoOrder e_NoEnds e_NoTree e_NoWindow e_TooMany e_NoSize e_NoStand e_NoNumber e_NoEnd e_NoDepth e_NoWorth e_NoChange e_NoRow e_NoName hw hx (fun y4 y5 => hN _ _ _ y4 y5 h9)
  have hr : r3 = 0 ∨ r3 = 1 ∨ r3 = 2 ∨ r3 = 3 := by omega
  rcases hr with rfl | rfl | rfl | rfl
  · walk_at "v"
    walk_at "vu"
    exact key _ (.inl rfl)
  · walk_at "v"
    walk_at "vu"
    exact key _ (.inr ⟨_, rfl⟩)
  · walk_at "v"
    walk_at "vu"
    exact key _ (.inr ⟨_, rfl⟩)
  · walk_at "v"
    walk_at "vu"
    exact key _ (.inr ⟨_, rfl⟩)
theorem w_law (e_NoPlay e_NoText e_NoWay e_NoRule e_NoOrder e_NoEnds e_NoTree e_NoWindow e_TooMany e_NoSize e_NoStand e_NoNumber e_NoEnd e_NoDepth e_NoWorth e_NoChange e_NoRow e_NoName : Addr) : bodyW (Gm_law e_NoPlay e_NoText e_NoWay e_NoRule e_NoOrder e_NoEnds e_NoTree e_NoWindow e_TooMany e_NoSize e_NoStand e_NoNumber e_NoEnd e_NoDepth e_NoWorth e_NoChange e_NoRow e_NoName) n_law [.bor] b_law (FLaw 63) := by
  intro ts Q h _
  obtain ⟨ns, hns, rfl, q⟩ := h
  have hsl : sizeLine > 10000000 := by decide
  show wSs (Gm_law e_NoPlay e_NoText e_NoWay e_NoRule e_NoOrder e_NoEnds e_NoTree e_NoWindow e_TooMany e_NoSize e_NoStand e_NoNumber e_NoEnd e_NoDepth e_NoWorth e_NoChange e_NoRow e_NoName) b_law _ [.d (.list (ns.map .int)), .dead, .dead, .dead, .dead, .dead]
  walk_at "vs"
  refine ⟨ns, _, rfl, by omega, fun a s hp => ⟨fun z => (by cases z), ?_⟩⟩
  walk_at "v"
  walk_at "vu"
  show wSs (Gm_law e_NoPlay e_NoText e_NoWay e_NoRule e_NoOrder e_NoEnds e_NoTree e_NoWindow e_TooMany e_NoSize e_NoStand e_NoNumber e_NoEnd e_NoDepth e_NoWorth e_NoChange e_NoRow e_NoName) (b_law.drop 1) _ [.d (.list (ns.map .int)), Pool a s, .dead, .dead, .dead, .dead]
  refine holdW ?_
  (conv => whnf); refine ⟨rfl, ?_⟩
  (conv => whnf); refine ⟨⟨by decide, by decide⟩, ?_⟩
  show forW [2] (fun D' σ' => wSs (Gm_law e_NoPlay e_NoText e_NoWay e_NoRule e_NoOrder e_NoEnds e_NoTree e_NoWindow e_TooMany e_NoSize e_NoStand e_NoNumber e_NoEnd e_NoDepth e_NoWorth e_NoChange e_NoRow e_NoName) lawB D' σ') _ (rngL 0 18) [.d (.list (ns.map .int)), Pool a s, .dead, .dead, .dead, .dead]
  refine forW_rng (n := 18) (fun k σ => ∃ a s x2 x3 x4 x5, σ = [.d (.list (ns.map .int)), Pool a s, x2, x3, x4, x5] ∧ PoolOk a s) ?_ ?_ ⟨a, s, _, _, _, _, rfl, hp⟩
  · rintro σ ⟨a, s, x2, x3, x4, x5, rfl, hp⟩
    walk_at "vu"
    show wSs (Gm_law e_NoPlay e_NoText e_NoWay e_NoRule e_NoOrder e_NoEnds e_NoTree e_NoWindow e_TooMany e_NoSize e_NoStand e_NoNumber e_NoEnd e_NoDepth e_NoWorth e_NoChange e_NoRow e_NoName) (b_law.drop 2) _ [.d (.list (ns.map .int)), Pool a s, x2, x3, x4, x5]
    walk_at "vs"
    exact q _
  · rintro k σ N hk hN - - - ⟨a, s, x2, x3, x4, x5, rfl, hp⟩
    rw [show (0 + (k : Int)) = ((k : Nat) : Int) by omega]
    exact k06_turn e_NoPlay e_NoText e_NoWay e_NoRule e_NoOrder e_NoEnds e_NoTree e_NoWindow e_TooMany e_NoSize e_NoStand e_NoNumber e_NoEnd e_NoDepth e_NoWorth e_NoChange e_NoRow e_NoName (way := k) hp hk fun a s y3 y4 y5 hp => hN _ ⟨a, s, _, _, _, _, rfl, hp⟩
end VL
set_option maxHeartbeats 4000000
namespace VL
open PySem PySem.Spec PyProof.Rows L2
section
variable {X : Cx}
theorem pe_ceinit {CB : Addr} {x : Str} {e : Expr} {es : List Expr} {ta : L2.TA} {p1 p2 pos : Pos} {pl : Sem Bool} (hgl : Gl X x) (hmg : X.mg x = some (.ref CB)) (hdb : (x == ("__debug__" : Str)) = false) (rd : PySem.W.readsIn X.K CB (.type "type") = true)
    (sg : PySem.W.specialIn X.K (.ref CB) "__getattribute__" = some (some (.builtin "type.__getattribute__"))) (fv : PySem.W.findCls X.K (.ref CB) (.type "type") "__init__" = some (.val (.builtin "ValueError.__init__"))) (pa : PA X (e :: es) ta)
    (hc : eval (.Call (.Attribute (.Name x p1) "__init__" p2) (e :: es) [] pos) X.env = (do
      let ov ← eval (.Name x p1) X.env
      standAt p2.atName
      let (f, first) ← holding [ov] (getMethod ov "__init__" pl)
      callWith pos f first (backTo pos (starEach (e :: es) X.env)) (backToKw pos (keywordEach [] X.env))) := by rfl)
    (hst : starEach (e :: es) X.env = (false, eval e X.env) :: starEach es X.env := by rfl) (hpl : (backTo pos (starEach es X.env)).any (·.1) = false := by rfl) :
    PE X (.Call (.Attribute (.Name x p1) "__init__" p2) (e :: es) [] pos) (tVeI X.K ta) := by
  refine ⟨fun pins s σ H Q J h => ?_⟩
  refine PySem.W.methodCall_KW (ld_glob J hgl hmg ?_ hdb) hc
  refine PySem.W.method_cls J.kIn sg (PySem.W.cls_value J.kIn rd fv (by decide +kernel) ?_)
  show wpAny _ _ (callWith pos (Value.builtin "ValueError.__init__") [] (backTo pos (starEach (e :: es) X.env)) []) _ _ _
  refine PyProof.Rows.callWith_method1 (thn (pa.run pos pins _ σ H _ (J.tok _) h) fun us s1 hh => ?_) hst hpl
  obtain ⟨vs, H1, J1, rv, a, C, ws, ev, hl, T, ea, q⟩ := hh
  subst ev
  cases rv with
  | @cons _ u0 _ ur ra rw0 =>
    obtain rfl : u0 = Value.ref a := ra
    have hlen : ur.length ≤ sizeLine := by
      rw [← Paired.length rw0, sizeLine_eq]
      omega
    exact oinit_ok T J1 ea hlen fun s' J2 => ⟨.non, H1, J2, rfl, q⟩
end
section
variable {P : Program} {w : World} {K : PySem.W.Frag} {mg : Str → Option Value} {base : Heap}
/-- C.__init__(self, text); self.fl = pl -/
def initB (bn self pl msg fl : Str) (b : List Stmt) : Prop := ∃ p1 p2 p3 j p4 p5 p6 p7 p8 p9 p10, (Pos.endLine p2 == Pos.line p5) = true ∧ b = [.Expr (.Call (.Attribute (.Name bn p1) "__init__" p2) [.Name self p3, .Constant (.str msg) j p4] [] p5) p6, .Assign [.Attribute (.Name self p7) fl p8] (.Name pl p9) p10]
theorem fnI_ok {x qual bn self pl msg fl : Str} {st : Stmt} {f C CB : Addr} {fd : FuncData} {k : Nat} (Fn : Fun K x qual st f fd) (Sc : FnScope [self, pl] [self, pl] (defScope st)) (hb : initB bn self pl msg fl (defBody st)) (T : OexC K C) (hno : PySem.W.findIn K (.ref C) fl = some none)
    (hmg : mg bn = some (.ref CB)) (rd : PySem.W.readsIn K CB (.type "type") = true) (sg : PySem.W.specialIn K (.ref CB) "__getattribute__" = some (some (.builtin "type.__getattribute__"))) (fv : PySem.W.findCls K (.ref CB) (.type "type") "__init__" = some (.val (.builtin "ValueError.__init__")))
    (hgb : globB (defScope st) bn = true) (hgn : okNm bn = true) (hv0 : varB ⟨[self, pl], defScope st, fun _ => true⟩ 0 self = true) (hv1 : varB ⟨[self, pl], defScope st, fun _ => true⟩ 1 pl = true) : FnG P w K mg base CX0 (k + 1) f fd [self, pl] (spI C fl) := by
  obtain ⟨p1, p2, p3, j, p4, p5, p6, p7, p8, p9, p10, hln, hb⟩ := hb
  refine fun_okG Fn Sc (fun vs H Q E h => ?_) (fun cdv A outer s H vs Q E _ _ hr hgd h => ?_)
  · obtain ⟨a, y, rfl, _⟩ := h
    rfl
  · obtain ⟨a, y, rfl, ha, q⟩ := h
    have Cx0 : CxOk (cxOf CX0 P w K mg base [self, pl] qual (defScope st) f cdv A outer s H E).nox ({ fn := [], glob := [], bs := [], pin := [] } : Ctx) ⟨[self, pl], defScope st, fun _ => true⟩ k := ⟨rfl, rfl, rfl, room_out2 hr, hgd, Sc.nd, fun _ _ => rfl, fun _ _ h => (by cases h), fun _ h => (by cases h), fun _ _ h => (by cases h), fun _ _ h => (by cases h), fun _ _ h => (by cases h), fun _ _ h => (by cases h), fun _ _ h => (by cases h), hr, fun _ _ h => (by cases h), fun _ _ h => (by cases h), fun _ h => (by cases h), fun _ h => (by cases h)⟩
    unfold varB at hv0 hv1
    simp only [Bool.and_eq_true, decide_eq_true_eq] at hv0 hv1
    obtain ⟨a1, a2, _⟩ := okNm_of hv0.2
    obtain ⟨b1, b2, _⟩ := okNm_of hv1.2
    have ps := fun p => pe_var (X := (cxOf CX0 P w K mg base [self, pl] qual (defScope st) f cdv A outer s H E).nox) (pos := p) (i := 0) (by exact hv0.1.1) (Cx0.vis hv0.1.2) a1 a2
    have pp := fun p => pe_var (X := (cxOf CX0 P w K mg base [self, pl] qual (defScope st) f cdv A outer s H E).nox) (pos := p) (i := 1) (by exact hv1.1.1) (Cx0.vis hv1.1.2) b1 b2
    refine ⟨_, by rw [hb]; exact pss_cons (ps_expr (pe_ceinit (hc := meth_eval rfl rfl (Nat.le_of_ble_eq_true rfl) hln) (Cx0.gl hgb) hmg (okNm_of hgn).1 rd sg fv (pa_cons (ps p3) (pa_cons pe_str pa_nil (by rfl)) (by rfl)))) (pss_cons (ps_ost (ps p7) (pp p9)) pss_nil), ?_⟩
    exact ⟨.ref a, rfl, a, C, [.str msg], rfl, by simp, T, ha, y, rfl, .ref a, rfl, a, C, rfl, T, hno, .inl ⟨ha, fun d hd hne => q d hd hne⟩⟩
end
section
variable {P : Program} {w : World} {K : PySem.W.Frag} {mg : Str → Option Value} {base : Heap} {k : Nat}
theorem oex_of {C : Addr} (ol : xoG K C = true) (sa : PySem.W.findIn K (.ref C) "__setattr__" = some (some (.builtin "object.__setattr__"))) (e3 : PySem.W.subIn K (.ref C) (.type "BaseException") = some true) (et : PySem.W.typeIn K (.ref C) = some (.type "type")) (kc : PySem.W.keepIn K (.ref C) = true) : OexC K C := by
  obtain ⟨nm, q, N, bs, bm, sn, sub, ab, col, dd, k0, k1, k2, k3, k5, h1, h2⟩ := xoG_ok ol
  exact ⟨⟨nm, q, N, bs, bm, sn, sub, ab, col, dd, k0, k1, k2, k3, k5, h1, h2⟩, sa, e3, et, kc⟩
def IsX (K : PySem.W.Frag) (mg : Str → Option Value) (C : Addr) (l : List (Str × Bool)) : Prop := ∀ h b, l.lookup h = some b → ∃ v cv, NmV mg h v cv ∧ PySem.W.kitOne K (.ref C) cv = some b
theorem isx_nil {C : Addr} : IsX K mg C [] := fun h b e => by cases e
theorem isx_cons {C : Addr} {h0 : Str} {b0 : Bool} {v : V} {cv : Value} {l : List (Str × Bool)} (h1 : NmV mg h0 v cv) (h2 : PySem.W.kitOne K (.ref C) cv = some b0) (h4 : IsX K mg C l) : IsX K mg C ((h0, b0) :: l) := fun h b e => by
  rw [List.lookup_cons] at e
  split at e
  · rename_i e1
    have e' : h = h0 := by simpa using e1
    subst e'
    cases e
    exact ⟨v, cv, h1, h2⟩
  · exact h4 h b e
theorem isx_own {C D : Addr} {h0 : Str} {b0 : Bool} {l : List (Str × Bool)} (h1 : mg h0 = some (.ref D)) (h2 : PySem.W.kitOne K (.ref C) (.ref D) = some b0) (h4 : IsX K mg C l) : IsX K mg C ((h0, b0) :: l) := isx_cons (.inl ⟨D, h1, rfl, rfl⟩) h2 h4
theorem isx_ve {C : Addr} {l : List (Str × Bool)} {b0 : Bool} (h1 : mg "ValueError" = none) (h2 : PySem.W.kitOne K (.ref C) (.type "ValueError") = some b0) (h4 : IsX K mg C l) : IsX K mg C (("ValueError", b0) :: l) := isx_cons (.inr ⟨"ValueError", h1, by decide +kernel, rfl, rfl⟩) h2 h4
theorem xo_nil : ∀ n xo, ([] : List (Str × XO)).lookup n = some xo → XoOk P w K mg base k n xo := fun n xo h => by cases h
theorem xo_cons {n0 : Str} {xo0 : XO} {l : List (Str × XO)} (h1 : XoOk P w K mg base k n0 xo0) (h2 : ∀ n xo, l.lookup n = some xo → XoOk P w K mg base k n xo) : ∀ n xo, ((n0, xo0) :: l).lookup n = some xo → XoOk P w K mg base k n xo := fun n xo h => by
  rw [List.lookup_cons] at h
  split at h
  · rename_i e
    have e' : n = n0 := by simpa using e
    subst e'
    cases h
    exact h1
  · exact h2 n xo h
theorem xo_of {n f : Str} {C fI : Addr} {l : List (Str × Bool)} {fd : FuncData} {ps : List Str} {j : Nat} (gm : mg n = some (.ref C)) (kp : PySem.W.keepIn K (.ref C) = true) (T : OexC K C) (e1 : PySem.W.findIn K (.ref C) "__getattribute__" = some (some (.builtin "BaseException.__getattribute__"))) (e2 : PySem.W.findIn K (.ref C) "__getattr__" = some none)
    (e3 : PySem.W.subIn K (.ref C) (.type "BaseException") = some true) (e4 : PySem.W.hasDictIn K C = true) (e5 : PySem.W.findIn K (.ref C) "__class__" = some (some (.builtin "object.__class__"))) (e6 : PySem.W.specialIn K (.builtin "object.__class__") "__get__" = some (some (.builtin "getset_descriptor.__get__"))) (e7 : PySem.W.takesIn K (.builtin "object.__class__") = some true)
    (e8 : PySem.W.mroIn K C (.type "object") = some true) (no : PySem.W.findIn K (.ref C) f = some none) (is : IsX K mg C l) (iC : PySem.W.findIn K (.ref C) "__init__" = some (some (.ref fI))) (tI : PySem.W.typeIn K (.ref fI) = some (.type "function")) (F : FnG P w K mg base CX0 j fI fd ps (spI C f)) (b : Binds K fd ps []) (hj : j + 1 ≤ k) : XoOk P w K mg base k n ⟨C, f, l⟩ :=
  ⟨gm, kp, T, ⟨e1, e2, e3, e4⟩, ⟨e1, e2, e3, e4, e5, e6, e7, e8⟩, no, is, j, fI, fd, ps, hj, iC, tI, F, b⟩
/-- the body of such an __init__ -/
def initBB (bn self pl msg fl : Str) (b : List Stmt) : Bool := match b with
  | [.Expr (.Call (.Attribute (.Name x1 p1) m1 p2) [.Name x2 p3, .Constant (.str x3) j p4] [] p5) p6, .Assign [.Attribute (.Name x4 p7) x5 p8] (.Name x6 p9) p10] =>
    decide (x1 = bn) && (decide (m1 = "__init__") && (decide (x2 = self) && (decide (x3 = msg) && (decide (x4 = self) && (decide (x5 = fl) && (decide (x6 = pl) && (Pos.endLine p2 == Pos.line p5)))))))
  | _ => false
theorem initBB_ok {bn self pl msg fl : Str} {b : List Stmt} (h : initBB bn self pl msg fl b = true) : initB bn self pl msg fl b := by
  unfold initBB at h
  split at h
  · rename_i x1 p1 m1 p2 x2 p3 x3 j p4 p5 p6 x4 p7 x5 p8 x6 p9 p10
    simp only [Bool.and_eq_true, decide_eq_true_eq] at h
    obtain ⟨rfl, rfl, rfl, rfl, rfl, rfl, rfl, h⟩ := h
    exact ⟨p1, p2, p3, j, p4, p5, p6, p7, p8, p9, p10, h, rfl⟩
  · cases h
end
end VL
namespace VL
open PySem PySem.Spec PyProof.Rows L2
theorem sc_law_pool : FnScope n_law_pool ["_law_script", "_law_k"] (defScope s_law_pool) := ⟨rfl, rfl, rfl, by decide +kernel, rfl, by decide +kernel, by decide +kernel⟩
theorem ch_law_pool : chkSs (Gm_pool).sk ⟨n_law_pool, defScope s_law_pool, fun _ => true⟩ b_law_pool (defBody s_law_pool) = true := by decide +kernel
theorem sc_law_take : FnScope n_law_take ["_law_pool_here", "_law_many"] (defScope s_law_take) := ⟨rfl, rfl, rfl, by decide +kernel, rfl, by decide +kernel, by decide +kernel⟩
theorem ch_law_take : chkSs (Gm_take).sk ⟨n_law_take, defScope s_law_take, fun _ => true⟩ b_law_take (defBody s_law_take) = true := by decide +kernel
theorem sc_law_made : FnScope n_law_made ["_law_way", "_law_thing"] (defScope s_law_made) := ⟨rfl, rfl, rfl, by decide +kernel, rfl, by decide +kernel, by decide +kernel⟩
theorem ch_law_made : chkSs (Gm_law_made 0 0 0 0 0 0 0 0 0 0 0 0 0 0 0 0 0 0).sk ⟨n_law_made, defScope s_law_made, fun _ => true⟩ b_law_made (defBody s_law_made) = true := by decide +kernel
theorem sc_law_sorts : FnScope n_law_sorts ["_law_e"] (defScope s_law_sorts) := ⟨rfl, rfl, rfl, by decide +kernel, rfl, by decide +kernel, by decide +kernel⟩
theorem ch_law_sorts : chkSs (Gm_law_sorts 0 0 0 0 0 0 0 0 0 0 0 0 0 0 0 0 0 0).sk ⟨n_law_sorts, defScope s_law_sorts, fun _ => true⟩ b_law_sorts (defBody s_law_sorts) = true := by decide +kernel
theorem sc_law : FnScope n_law ["_law_script"] (defScope s_law) := ⟨rfl, rfl, rfl, by decide +kernel, rfl, by decide +kernel, by decide +kernel⟩
theorem ch_law : chkSs (Gm_law 0 0 0 0 0 0 0 0 0 0 0 0 0 0 0 0 0 0).sk ⟨n_law, defScope s_law, fun _ => true⟩ b_law (defBody s_law) = true := by decide +kernel
theorem sc_NoPlay_init : FnScope ["self", "place"] ["self", "place"] (defScope s_NoPlay_init) := ⟨rfl, rfl, rfl, by decide +kernel, rfl, by decide +kernel, by decide +kernel⟩
theorem ib_NoPlay_init : initBB "BoughError" "self" "place" "no play" "place" (defBody s_NoPlay_init) = true := by decide +kernel
theorem sc_NoText_init : FnScope ["self", "row"] ["self", "row"] (defScope s_NoText_init) := ⟨rfl, rfl, rfl, by decide +kernel, rfl, by decide +kernel, by decide +kernel⟩
theorem ib_NoText_init : initBB "BoughError" "self" "row" "no text of a play" "row" (defBody s_NoText_init) = true := by decide +kernel
theorem all_mk {l : PySem.W.OpenLaw} {w : World} {K : PySem.W.Frag} {h : Heap} {mg : Str → Option Value} {fa e_NoWay e_NoPlay e_NoText e_NoRule e_NoOrder e_NoEnds e_NoTree e_NoWindow e_TooMany e_NoSize e_NoStand e_NoNumber e_NoEnd e_NoDepth e_NoWorth e_NoChange e_NoRow e_NoName e_BoughError f0 f1 f2 f3 f4 f5 f6 : Addr} (X : K.In h) (G : h.Ns mainGlobals mg) (hfa : mg "law" = some (.ref fa))
    (ea_NoWay : PySem.W.nsIn K mainGlobals "NoWay" = some (some (.ref e_NoWay)))
    (ea_NoPlay : PySem.W.nsIn K mainGlobals "NoPlay" = some (some (.ref e_NoPlay)))
    (ea_NoText : PySem.W.nsIn K mainGlobals "NoText" = some (some (.ref e_NoText)))
    (ea_NoRule : PySem.W.nsIn K mainGlobals "NoRule" = some (some (.ref e_NoRule)))
    (ea_NoOrder : PySem.W.nsIn K mainGlobals "NoOrder" = some (some (.ref e_NoOrder)))
    (ea_NoEnds : PySem.W.nsIn K mainGlobals "NoEnds" = some (some (.ref e_NoEnds)))
    (ea_NoTree : PySem.W.nsIn K mainGlobals "NoTree" = some (some (.ref e_NoTree)))
    (ea_NoWindow : PySem.W.nsIn K mainGlobals "NoWindow" = some (some (.ref e_NoWindow)))
    (ea_TooMany : PySem.W.nsIn K mainGlobals "TooMany" = some (some (.ref e_TooMany)))
    (ea_NoSize : PySem.W.nsIn K mainGlobals "NoSize" = some (some (.ref e_NoSize)))
    (ea_NoStand : PySem.W.nsIn K mainGlobals "NoStand" = some (some (.ref e_NoStand)))
    (ea_NoNumber : PySem.W.nsIn K mainGlobals "NoNumber" = some (some (.ref e_NoNumber)))
    (ea_NoEnd : PySem.W.nsIn K mainGlobals "NoEnd" = some (some (.ref e_NoEnd)))
    (ea_NoDepth : PySem.W.nsIn K mainGlobals "NoDepth" = some (some (.ref e_NoDepth)))
    (ea_NoWorth : PySem.W.nsIn K mainGlobals "NoWorth" = some (some (.ref e_NoWorth)))
    (ea_NoChange : PySem.W.nsIn K mainGlobals "NoChange" = some (some (.ref e_NoChange)))
    (ea_NoRow : PySem.W.nsIn K mainGlobals "NoRow" = some (some (.ref e_NoRow)))
    (ea_NoName : PySem.W.nsIn K mainGlobals "NoName" = some (some (.ref e_NoName)))
    (ea_BoughError : PySem.W.nsIn K mainGlobals "BoughError" = some (some (.ref e_BoughError)))
    (ex6 : PySem.W.specialIn K (.builtin "object.__class__") "__get__" = some (some (.builtin "getset_descriptor.__get__"))) (ex7 : PySem.W.takesIn K (.builtin "object.__class__") = some true)
    (ek_NoWay : PySem.W.keepIn K (.ref e_NoWay) = true) (e1_NoWay : PySem.W.findIn K (.ref e_NoWay) "__getattribute__" = some (some (.builtin "BaseException.__getattribute__"))) (e2_NoWay : PySem.W.findIn K (.ref e_NoWay) "__getattr__" = some none) (e3_NoWay : PySem.W.subIn K (.ref e_NoWay) (.type "BaseException") = some true) (e4_NoWay : PySem.W.hasDictIn K e_NoWay = true) (e5_NoWay : PySem.W.findIn K (.ref e_NoWay) "__class__" = some (some (.builtin "object.__class__"))) (e8_NoWay : PySem.W.mroIn K e_NoWay (.type "object") = some true) (et_NoWay : PySem.W.typeIn K (.ref e_NoWay) = some (.type "type")) (eq_NoWay : PySem.W.excIn K e_NoWay [.type "ValueError", .type "Exception", .type "BaseException", .type "object"] "ValueError.__new__" = true)
    (ek_NoRule : PySem.W.keepIn K (.ref e_NoRule) = true) (e1_NoRule : PySem.W.findIn K (.ref e_NoRule) "__getattribute__" = some (some (.builtin "BaseException.__getattribute__"))) (e2_NoRule : PySem.W.findIn K (.ref e_NoRule) "__getattr__" = some none) (e3_NoRule : PySem.W.subIn K (.ref e_NoRule) (.type "BaseException") = some true) (e4_NoRule : PySem.W.hasDictIn K e_NoRule = true) (e5_NoRule : PySem.W.findIn K (.ref e_NoRule) "__class__" = some (some (.builtin "object.__class__"))) (e8_NoRule : PySem.W.mroIn K e_NoRule (.type "object") = some true) (et_NoRule : PySem.W.typeIn K (.ref e_NoRule) = some (.type "type")) (eq_NoRule : PySem.W.excIn K e_NoRule [.type "ValueError", .type "Exception", .type "BaseException", .type "object"] "ValueError.__new__" = true)
    (ek_NoOrder : PySem.W.keepIn K (.ref e_NoOrder) = true) (e1_NoOrder : PySem.W.findIn K (.ref e_NoOrder) "__getattribute__" = some (some (.builtin "BaseException.__getattribute__"))) (e2_NoOrder : PySem.W.findIn K (.ref e_NoOrder) "__getattr__" = some none) (e3_NoOrder : PySem.W.subIn K (.ref e_NoOrder) (.type "BaseException") = some true) (e4_NoOrder : PySem.W.hasDictIn K e_NoOrder = true) (e5_NoOrder : PySem.W.findIn K (.ref e_NoOrder) "__class__" = some (some (.builtin "object.__class__"))) (e8_NoOrder : PySem.W.mroIn K e_NoOrder (.type "object") = some true) (et_NoOrder : PySem.W.typeIn K (.ref e_NoOrder) = some (.type "type")) (eq_NoOrder : PySem.W.excIn K e_NoOrder [.type "ValueError", .type "Exception", .type "BaseException", .type "object"] "ValueError.__new__" = true)
    (ek_NoEnds : PySem.W.keepIn K (.ref e_NoEnds) = true) (e1_NoEnds : PySem.W.findIn K (.ref e_NoEnds) "__getattribute__" = some (some (.builtin "BaseException.__getattribute__"))) (e2_NoEnds : PySem.W.findIn K (.ref e_NoEnds) "__getattr__" = some none) (e3_NoEnds : PySem.W.subIn K (.ref e_NoEnds) (.type "BaseException") = some true) (e4_NoEnds : PySem.W.hasDictIn K e_NoEnds = true) (e5_NoEnds : PySem.W.findIn K (.ref e_NoEnds) "__class__" = some (some (.builtin "object.__class__"))) (e8_NoEnds : PySem.W.mroIn K e_NoEnds (.type "object") = some true) (et_NoEnds : PySem.W.typeIn K (.ref e_NoEnds) = some (.type "type")) (eq_NoEnds : PySem.W.excIn K e_NoEnds [.type "ValueError", .type "Exception", .type "BaseException", .type "object"] "ValueError.__new__" = true)
    (ek_NoTree : PySem.W.keepIn K (.ref e_NoTree) = true) (e1_NoTree : PySem.W.findIn K (.ref e_NoTree) "__getattribute__" = some (some (.builtin "BaseException.__getattribute__"))) (e2_NoTree : PySem.W.findIn K (.ref e_NoTree) "__getattr__" = some none) (e3_NoTree : PySem.W.subIn K (.ref e_NoTree) (.type "BaseException") = some true) (e4_NoTree : PySem.W.hasDictIn K e_NoTree = true) (e5_NoTree : PySem.W.findIn K (.ref e_NoTree) "__class__" = some (some (.builtin "object.__class__"))) (e8_NoTree : PySem.W.mroIn K e_NoTree (.type "object") = some true) (et_NoTree : PySem.W.typeIn K (.ref e_NoTree) = some (.type "type")) (eq_NoTree : PySem.W.excIn K e_NoTree [.type "ValueError", .type "Exception", .type "BaseException", .type "object"] "ValueError.__new__" = true)
    (ek_NoWindow : PySem.W.keepIn K (.ref e_NoWindow) = true) (e1_NoWindow : PySem.W.findIn K (.ref e_NoWindow) "__getattribute__" = some (some (.builtin "BaseException.__getattribute__"))) (e2_NoWindow : PySem.W.findIn K (.ref e_NoWindow) "__getattr__" = some none) (e3_NoWindow : PySem.W.subIn K (.ref e_NoWindow) (.type "BaseException") = some true) (e4_NoWindow : PySem.W.hasDictIn K e_NoWindow = true) (e5_NoWindow : PySem.W.findIn K (.ref e_NoWindow) "__class__" = some (some (.builtin "object.__class__"))) (e8_NoWindow : PySem.W.mroIn K e_NoWindow (.type "object") = some true) (et_NoWindow : PySem.W.typeIn K (.ref e_NoWindow) = some (.type "type")) (eq_NoWindow : PySem.W.excIn K e_NoWindow [.type "ValueError", .type "Exception", .type "BaseException", .type "object"] "ValueError.__new__" = true)
    (ek_TooMany : PySem.W.keepIn K (.ref e_TooMany) = true) (e1_TooMany : PySem.W.findIn K (.ref e_TooMany) "__getattribute__" = some (some (.builtin "BaseException.__getattribute__"))) (e2_TooMany : PySem.W.findIn K (.ref e_TooMany) "__getattr__" = some none) (e3_TooMany : PySem.W.subIn K (.ref e_TooMany) (.type "BaseException") = some true) (e4_TooMany : PySem.W.hasDictIn K e_TooMany = true) (e5_TooMany : PySem.W.findIn K (.ref e_TooMany) "__class__" = some (some (.builtin "object.__class__"))) (e8_TooMany : PySem.W.mroIn K e_TooMany (.type "object") = some true) (et_TooMany : PySem.W.typeIn K (.ref e_TooMany) = some (.type "type")) (eq_TooMany : PySem.W.excIn K e_TooMany [.type "ValueError", .type "Exception", .type "BaseException", .type "object"] "ValueError.__new__" = true)
    (ek_NoSize : PySem.W.keepIn K (.ref e_NoSize) = true) (e1_NoSize : PySem.W.findIn K (.ref e_NoSize) "__getattribute__" = some (some (.builtin "BaseException.__getattribute__"))) (e2_NoSize : PySem.W.findIn K (.ref e_NoSize) "__getattr__" = some none) (e3_NoSize : PySem.W.subIn K (.ref e_NoSize) (.type "BaseException") = some true) (e4_NoSize : PySem.W.hasDictIn K e_NoSize = true) (e5_NoSize : PySem.W.findIn K (.ref e_NoSize) "__class__" = some (some (.builtin "object.__class__"))) (e8_NoSize : PySem.W.mroIn K e_NoSize (.type "object") = some true) (et_NoSize : PySem.W.typeIn K (.ref e_NoSize) = some (.type "type")) (eq_NoSize : PySem.W.excIn K e_NoSize [.type "ValueError", .type "Exception", .type "BaseException", .type "object"] "ValueError.__new__" = true)
    (ek_NoStand : PySem.W.keepIn K (.ref e_NoStand) = true) (e1_NoStand : PySem.W.findIn K (.ref e_NoStand) "__getattribute__" = some (some (.builtin "BaseException.__getattribute__"))) (e2_NoStand : PySem.W.findIn K (.ref e_NoStand) "__getattr__" = some none) (e3_NoStand : PySem.W.subIn K (.ref e_NoStand) (.type "BaseException") = some true) (e4_NoStand : PySem.W.hasDictIn K e_NoStand = true) (e5_NoStand : PySem.W.findIn K (.ref e_NoStand) "__class__" = some (some (.builtin "object.__class__"))) (e8_NoStand : PySem.W.mroIn K e_NoStand (.type "object") = some true) (et_NoStand : PySem.W.typeIn K (.ref e_NoStand) = some (.type "type")) (eq_NoStand : PySem.W.excIn K e_NoStand [.type "ValueError", .type "Exception", .type "BaseException", .type "object"] "ValueError.__new__" = true)
    (ek_NoNumber : PySem.W.keepIn K (.ref e_NoNumber) = true) (e1_NoNumber : PySem.W.findIn K (.ref e_NoNumber) "__getattribute__" = some (some (.builtin "BaseException.__getattribute__"))) (e2_NoNumber : PySem.W.findIn K (.ref e_NoNumber) "__getattr__" = some none) (e3_NoNumber : PySem.W.subIn K (.ref e_NoNumber) (.type "BaseException") = some true) (e4_NoNumber : PySem.W.hasDictIn K e_NoNumber = true) (e5_NoNumber : PySem.W.findIn K (.ref e_NoNumber) "__class__" = some (some (.builtin "object.__class__"))) (e8_NoNumber : PySem.W.mroIn K e_NoNumber (.type "object") = some true) (et_NoNumber : PySem.W.typeIn K (.ref e_NoNumber) = some (.type "type")) (eq_NoNumber : PySem.W.excIn K e_NoNumber [.type "ValueError", .type "Exception", .type "BaseException", .type "object"] "ValueError.__new__" = true)
    (ek_NoEnd : PySem.W.keepIn K (.ref e_NoEnd) = true) (e1_NoEnd : PySem.W.findIn K (.ref e_NoEnd) "__getattribute__" = some (some (.builtin "BaseException.__getattribute__"))) (e2_NoEnd : PySem.W.findIn K (.ref e_NoEnd) "__getattr__" = some none) (e3_NoEnd : PySem.W.subIn K (.ref e_NoEnd) (.type "BaseException") = some true) (e4_NoEnd : PySem.W.hasDictIn K e_NoEnd = true) (e5_NoEnd : PySem.W.findIn K (.ref e_NoEnd) "__class__" = some (some (.builtin "object.__class__"))) (e8_NoEnd : PySem.W.mroIn K e_NoEnd (.type "object") = some true) (et_NoEnd : PySem.W.typeIn K (.ref e_NoEnd) = some (.type "type")) (eq_NoEnd : PySem.W.excIn K e_NoEnd [.type "ValueError", .type "Exception", .type "BaseException", .type "object"] "ValueError.__new__" = true)
    (ek_NoDepth : PySem.W.keepIn K (.ref e_NoDepth) = true) (e1_NoDepth : PySem.W.findIn K (.ref e_NoDepth) "__getattribute__" = some (some (.builtin "BaseException.__getattribute__"))) (e2_NoDepth : PySem.W.findIn K (.ref e_NoDepth) "__getattr__" = some none) (e3_NoDepth : PySem.W.subIn K (.ref e_NoDepth) (.type "BaseException") = some true) (e4_NoDepth : PySem.W.hasDictIn K e_NoDepth = true) (e5_NoDepth : PySem.W.findIn K (.ref e_NoDepth) "__class__" = some (some (.builtin "object.__class__"))) (e8_NoDepth : PySem.W.mroIn K e_NoDepth (.type "object") = some true) (et_NoDepth : PySem.W.typeIn K (.ref e_NoDepth) = some (.type "type")) (eq_NoDepth : PySem.W.excIn K e_NoDepth [.type "ValueError", .type "Exception", .type "BaseException", .type "object"] "ValueError.__new__" = true)
    (ek_NoWorth : PySem.W.keepIn K (.ref e_NoWorth) = true) (e1_NoWorth : PySem.W.findIn K (.ref e_NoWorth) "__getattribute__" = some (some (.builtin "BaseException.__getattribute__"))) (e2_NoWorth : PySem.W.findIn K (.ref e_NoWorth) "__getattr__" = some none) (e3_NoWorth : PySem.W.subIn K (.ref e_NoWorth) (.type "BaseException") = some true) (e4_NoWorth : PySem.W.hasDictIn K e_NoWorth = true) (e5_NoWorth : PySem.W.findIn K (.ref e_NoWorth) "__class__" = some (some (.builtin "object.__class__"))) (e8_NoWorth : PySem.W.mroIn K e_NoWorth (.type "object") = some true) (et_NoWorth : PySem.W.typeIn K (.ref e_NoWorth) = some (.type "type")) (eq_NoWorth : PySem.W.excIn K e_NoWorth [.type "ValueError", .type "Exception", .type "BaseException", .type "object"] "ValueError.__new__" = true)
    (ek_NoChange : PySem.W.keepIn K (.ref e_NoChange) = true) (e1_NoChange : PySem.W.findIn K (.ref e_NoChange) "__getattribute__" = some (some (.builtin "BaseException.__getattribute__"))) (e2_NoChange : PySem.W.findIn K (.ref e_NoChange) "__getattr__" = some none) (e3_NoChange : PySem.W.subIn K (.ref e_NoChange) (.type "BaseException") = some true) (e4_NoChange : PySem.W.hasDictIn K e_NoChange = true) (e5_NoChange : PySem.W.findIn K (.ref e_NoChange) "__class__" = some (some (.builtin "object.__class__"))) (e8_NoChange : PySem.W.mroIn K e_NoChange (.type "object") = some true) (et_NoChange : PySem.W.typeIn K (.ref e_NoChange) = some (.type "type")) (eq_NoChange : PySem.W.excIn K e_NoChange [.type "ValueError", .type "Exception", .type "BaseException", .type "object"] "ValueError.__new__" = true)
    (ek_NoRow : PySem.W.keepIn K (.ref e_NoRow) = true) (e1_NoRow : PySem.W.findIn K (.ref e_NoRow) "__getattribute__" = some (some (.builtin "BaseException.__getattribute__"))) (e2_NoRow : PySem.W.findIn K (.ref e_NoRow) "__getattr__" = some none) (e3_NoRow : PySem.W.subIn K (.ref e_NoRow) (.type "BaseException") = some true) (e4_NoRow : PySem.W.hasDictIn K e_NoRow = true) (e5_NoRow : PySem.W.findIn K (.ref e_NoRow) "__class__" = some (some (.builtin "object.__class__"))) (e8_NoRow : PySem.W.mroIn K e_NoRow (.type "object") = some true) (et_NoRow : PySem.W.typeIn K (.ref e_NoRow) = some (.type "type")) (eq_NoRow : PySem.W.excIn K e_NoRow [.type "ValueError", .type "Exception", .type "BaseException", .type "object"] "ValueError.__new__" = true)
    (ek_NoName : PySem.W.keepIn K (.ref e_NoName) = true) (e1_NoName : PySem.W.findIn K (.ref e_NoName) "__getattribute__" = some (some (.builtin "BaseException.__getattribute__"))) (e2_NoName : PySem.W.findIn K (.ref e_NoName) "__getattr__" = some none) (e3_NoName : PySem.W.subIn K (.ref e_NoName) (.type "BaseException") = some true) (e4_NoName : PySem.W.hasDictIn K e_NoName = true) (e5_NoName : PySem.W.findIn K (.ref e_NoName) "__class__" = some (some (.builtin "object.__class__"))) (e8_NoName : PySem.W.mroIn K e_NoName (.type "object") = some true) (et_NoName : PySem.W.typeIn K (.ref e_NoName) = some (.type "type")) (eq_NoName : PySem.W.excIn K e_NoName [.type "ValueError", .type "Exception", .type "BaseException", .type "object"] "ValueError.__new__" = true)
    (ek_NoPlay : PySem.W.keepIn K (.ref e_NoPlay) = true) (e1_NoPlay : PySem.W.findIn K (.ref e_NoPlay) "__getattribute__" = some (some (.builtin "BaseException.__getattribute__"))) (e2_NoPlay : PySem.W.findIn K (.ref e_NoPlay) "__getattr__" = some none) (e3_NoPlay : PySem.W.subIn K (.ref e_NoPlay) (.type "BaseException") = some true) (e4_NoPlay : PySem.W.hasDictIn K e_NoPlay = true) (e5_NoPlay : PySem.W.findIn K (.ref e_NoPlay) "__class__" = some (some (.builtin "object.__class__"))) (e8_NoPlay : PySem.W.mroIn K e_NoPlay (.type "object") = some true) (et_NoPlay : PySem.W.typeIn K (.ref e_NoPlay) = some (.type "type")) (sa_NoPlay : PySem.W.findIn K (.ref e_NoPlay) "__setattr__" = some (some (.builtin "object.__setattr__"))) (ol_NoPlay : xoG K e_NoPlay = true) (no_NoPlay : PySem.W.findIn K (.ref e_NoPlay) "place" = some none)
    (ek_NoText : PySem.W.keepIn K (.ref e_NoText) = true) (e1_NoText : PySem.W.findIn K (.ref e_NoText) "__getattribute__" = some (some (.builtin "BaseException.__getattribute__"))) (e2_NoText : PySem.W.findIn K (.ref e_NoText) "__getattr__" = some none) (e3_NoText : PySem.W.subIn K (.ref e_NoText) (.type "BaseException") = some true) (e4_NoText : PySem.W.hasDictIn K e_NoText = true) (e5_NoText : PySem.W.findIn K (.ref e_NoText) "__class__" = some (some (.builtin "object.__class__"))) (e8_NoText : PySem.W.mroIn K e_NoText (.type "object") = some true) (et_NoText : PySem.W.typeIn K (.ref e_NoText) = some (.type "type")) (sa_NoText : PySem.W.findIn K (.ref e_NoText) "__setattr__" = some (some (.builtin "object.__setattr__"))) (ol_NoText : xoG K e_NoText = true) (no_NoText : PySem.W.findIn K (.ref e_NoText) "row" = some none)
    (rd_BoughError : PySem.W.readsIn K e_BoughError (.type "type") = true) (sg_BoughError : PySem.W.specialIn K (.ref e_BoughError) "__getattribute__" = some (some (.builtin "type.__getattribute__"))) (fc_BoughError : fcG K e_BoughError = true)
    (hi_BoughError : PySem.W.isClsIn K e_BoughError = true) (ht_BoughError : PySem.W.typeIn K (.ref e_BoughError) = some (.type "type")) (hb_BoughError : PySem.W.subIn K (.ref e_BoughError) (.type "BaseException") = some true) (hr_BoughError : PySem.W.subIn K (.ref e_BoughError) (.ref e_BoughError) = some true)
    (hi_NoChange : PySem.W.isClsIn K e_NoChange = true) (ht_NoChange : PySem.W.typeIn K (.ref e_NoChange) = some (.type "type")) (hb_NoChange : PySem.W.subIn K (.ref e_NoChange) (.type "BaseException") = some true) (hr_NoChange : PySem.W.subIn K (.ref e_NoChange) (.ref e_NoChange) = some true)
    (hi_NoDepth : PySem.W.isClsIn K e_NoDepth = true) (ht_NoDepth : PySem.W.typeIn K (.ref e_NoDepth) = some (.type "type")) (hb_NoDepth : PySem.W.subIn K (.ref e_NoDepth) (.type "BaseException") = some true) (hr_NoDepth : PySem.W.subIn K (.ref e_NoDepth) (.ref e_NoDepth) = some true)
    (hi_NoEnd : PySem.W.isClsIn K e_NoEnd = true) (ht_NoEnd : PySem.W.typeIn K (.ref e_NoEnd) = some (.type "type")) (hb_NoEnd : PySem.W.subIn K (.ref e_NoEnd) (.type "BaseException") = some true) (hr_NoEnd : PySem.W.subIn K (.ref e_NoEnd) (.ref e_NoEnd) = some true)
    (hi_NoEnds : PySem.W.isClsIn K e_NoEnds = true) (ht_NoEnds : PySem.W.typeIn K (.ref e_NoEnds) = some (.type "type")) (hb_NoEnds : PySem.W.subIn K (.ref e_NoEnds) (.type "BaseException") = some true) (hr_NoEnds : PySem.W.subIn K (.ref e_NoEnds) (.ref e_NoEnds) = some true)
    (hi_NoName : PySem.W.isClsIn K e_NoName = true) (ht_NoName : PySem.W.typeIn K (.ref e_NoName) = some (.type "type")) (hb_NoName : PySem.W.subIn K (.ref e_NoName) (.type "BaseException") = some true) (hr_NoName : PySem.W.subIn K (.ref e_NoName) (.ref e_NoName) = some true)
    (hi_NoNumber : PySem.W.isClsIn K e_NoNumber = true) (ht_NoNumber : PySem.W.typeIn K (.ref e_NoNumber) = some (.type "type")) (hb_NoNumber : PySem.W.subIn K (.ref e_NoNumber) (.type "BaseException") = some true) (hr_NoNumber : PySem.W.subIn K (.ref e_NoNumber) (.ref e_NoNumber) = some true)
    (hi_NoOrder : PySem.W.isClsIn K e_NoOrder = true) (ht_NoOrder : PySem.W.typeIn K (.ref e_NoOrder) = some (.type "type")) (hb_NoOrder : PySem.W.subIn K (.ref e_NoOrder) (.type "BaseException") = some true) (hr_NoOrder : PySem.W.subIn K (.ref e_NoOrder) (.ref e_NoOrder) = some true)
    (hi_NoPlay : PySem.W.isClsIn K e_NoPlay = true) (ht_NoPlay : PySem.W.typeIn K (.ref e_NoPlay) = some (.type "type")) (hb_NoPlay : PySem.W.subIn K (.ref e_NoPlay) (.type "BaseException") = some true) (hr_NoPlay : PySem.W.subIn K (.ref e_NoPlay) (.ref e_NoPlay) = some true)
    (hi_NoRow : PySem.W.isClsIn K e_NoRow = true) (ht_NoRow : PySem.W.typeIn K (.ref e_NoRow) = some (.type "type")) (hb_NoRow : PySem.W.subIn K (.ref e_NoRow) (.type "BaseException") = some true) (hr_NoRow : PySem.W.subIn K (.ref e_NoRow) (.ref e_NoRow) = some true)
    (hi_NoRule : PySem.W.isClsIn K e_NoRule = true) (ht_NoRule : PySem.W.typeIn K (.ref e_NoRule) = some (.type "type")) (hb_NoRule : PySem.W.subIn K (.ref e_NoRule) (.type "BaseException") = some true) (hr_NoRule : PySem.W.subIn K (.ref e_NoRule) (.ref e_NoRule) = some true)
    (hi_NoSize : PySem.W.isClsIn K e_NoSize = true) (ht_NoSize : PySem.W.typeIn K (.ref e_NoSize) = some (.type "type")) (hb_NoSize : PySem.W.subIn K (.ref e_NoSize) (.type "BaseException") = some true) (hr_NoSize : PySem.W.subIn K (.ref e_NoSize) (.ref e_NoSize) = some true)
    (hi_NoStand : PySem.W.isClsIn K e_NoStand = true) (ht_NoStand : PySem.W.typeIn K (.ref e_NoStand) = some (.type "type")) (hb_NoStand : PySem.W.subIn K (.ref e_NoStand) (.type "BaseException") = some true) (hr_NoStand : PySem.W.subIn K (.ref e_NoStand) (.ref e_NoStand) = some true)
    (hi_NoText : PySem.W.isClsIn K e_NoText = true) (ht_NoText : PySem.W.typeIn K (.ref e_NoText) = some (.type "type")) (hb_NoText : PySem.W.subIn K (.ref e_NoText) (.type "BaseException") = some true) (hr_NoText : PySem.W.subIn K (.ref e_NoText) (.ref e_NoText) = some true)
    (hi_NoTree : PySem.W.isClsIn K e_NoTree = true) (ht_NoTree : PySem.W.typeIn K (.ref e_NoTree) = some (.type "type")) (hb_NoTree : PySem.W.subIn K (.ref e_NoTree) (.type "BaseException") = some true) (hr_NoTree : PySem.W.subIn K (.ref e_NoTree) (.ref e_NoTree) = some true)
    (hi_NoWay : PySem.W.isClsIn K e_NoWay = true) (ht_NoWay : PySem.W.typeIn K (.ref e_NoWay) = some (.type "type")) (hb_NoWay : PySem.W.subIn K (.ref e_NoWay) (.type "BaseException") = some true) (hr_NoWay : PySem.W.subIn K (.ref e_NoWay) (.ref e_NoWay) = some true)
    (hi_NoWindow : PySem.W.isClsIn K e_NoWindow = true) (ht_NoWindow : PySem.W.typeIn K (.ref e_NoWindow) = some (.type "type")) (hb_NoWindow : PySem.W.subIn K (.ref e_NoWindow) (.type "BaseException") = some true) (hr_NoWindow : PySem.W.subIn K (.ref e_NoWindow) (.ref e_NoWindow) = some true)
    (hi_NoWorth : PySem.W.isClsIn K e_NoWorth = true) (ht_NoWorth : PySem.W.typeIn K (.ref e_NoWorth) = some (.type "type")) (hb_NoWorth : PySem.W.subIn K (.ref e_NoWorth) (.type "BaseException") = some true) (hr_NoWorth : PySem.W.subIn K (.ref e_NoWorth) (.ref e_NoWorth) = some true)
    (hi_TooMany : PySem.W.isClsIn K e_TooMany = true) (ht_TooMany : PySem.W.typeIn K (.ref e_TooMany) = some (.type "type")) (hb_TooMany : PySem.W.subIn K (.ref e_TooMany) (.type "BaseException") = some true) (hr_TooMany : PySem.W.subIn K (.ref e_TooMany) (.ref e_TooMany) = some true)
    (ps_NoWay_NoPlay : PySem.W.subIn K (.ref e_NoWay) (.ref e_NoPlay) = some false)
    (ps_NoWay_NoText : PySem.W.subIn K (.ref e_NoWay) (.ref e_NoText) = some false)
    (ps_NoWay_NoWay : PySem.W.subIn K (.ref e_NoWay) (.ref e_NoWay) = some true)
    (ps_NoWay_NoRule : PySem.W.subIn K (.ref e_NoWay) (.ref e_NoRule) = some false)
    (ps_NoWay_NoOrder : PySem.W.subIn K (.ref e_NoWay) (.ref e_NoOrder) = some false)
    (ps_NoWay_NoEnds : PySem.W.subIn K (.ref e_NoWay) (.ref e_NoEnds) = some false)
    (ps_NoWay_NoTree : PySem.W.subIn K (.ref e_NoWay) (.ref e_NoTree) = some false)
    (ps_NoWay_NoWindow : PySem.W.subIn K (.ref e_NoWay) (.ref e_NoWindow) = some false)
    (ps_NoWay_TooMany : PySem.W.subIn K (.ref e_NoWay) (.ref e_TooMany) = some false)
    (ps_NoWay_NoSize : PySem.W.subIn K (.ref e_NoWay) (.ref e_NoSize) = some false)
    (ps_NoWay_NoStand : PySem.W.subIn K (.ref e_NoWay) (.ref e_NoStand) = some false)
    (ps_NoWay_NoNumber : PySem.W.subIn K (.ref e_NoWay) (.ref e_NoNumber) = some false)
    (ps_NoWay_NoEnd : PySem.W.subIn K (.ref e_NoWay) (.ref e_NoEnd) = some false)
    (ps_NoWay_NoDepth : PySem.W.subIn K (.ref e_NoWay) (.ref e_NoDepth) = some false)
    (ps_NoWay_NoWorth : PySem.W.subIn K (.ref e_NoWay) (.ref e_NoWorth) = some false)
    (ps_NoWay_NoChange : PySem.W.subIn K (.ref e_NoWay) (.ref e_NoChange) = some false)
    (ps_NoWay_NoRow : PySem.W.subIn K (.ref e_NoWay) (.ref e_NoRow) = some false)
    (ps_NoWay_NoName : PySem.W.subIn K (.ref e_NoWay) (.ref e_NoName) = some false)
    (ps_NoWay_BoughError : PySem.W.subIn K (.ref e_NoWay) (.ref e_BoughError) = some true)
    (ps_NoRule_NoPlay : PySem.W.subIn K (.ref e_NoRule) (.ref e_NoPlay) = some false)
    (ps_NoRule_NoText : PySem.W.subIn K (.ref e_NoRule) (.ref e_NoText) = some false)
    (ps_NoRule_NoWay : PySem.W.subIn K (.ref e_NoRule) (.ref e_NoWay) = some false)
    (ps_NoRule_NoRule : PySem.W.subIn K (.ref e_NoRule) (.ref e_NoRule) = some true)
    (ps_NoRule_NoOrder : PySem.W.subIn K (.ref e_NoRule) (.ref e_NoOrder) = some false)
    (ps_NoRule_NoEnds : PySem.W.subIn K (.ref e_NoRule) (.ref e_NoEnds) = some false)
    (ps_NoRule_NoTree : PySem.W.subIn K (.ref e_NoRule) (.ref e_NoTree) = some false)
    (ps_NoRule_NoWindow : PySem.W.subIn K (.ref e_NoRule) (.ref e_NoWindow) = some false)
    (ps_NoRule_TooMany : PySem.W.subIn K (.ref e_NoRule) (.ref e_TooMany) = some false)
    (ps_NoRule_NoSize : PySem.W.subIn K (.ref e_NoRule) (.ref e_NoSize) = some false)
    (ps_NoRule_NoStand : PySem.W.subIn K (.ref e_NoRule) (.ref e_NoStand) = some false)
    (ps_NoRule_NoNumber : PySem.W.subIn K (.ref e_NoRule) (.ref e_NoNumber) = some false)
    (ps_NoRule_NoEnd : PySem.W.subIn K (.ref e_NoRule) (.ref e_NoEnd) = some false)
    (ps_NoRule_NoDepth : PySem.W.subIn K (.ref e_NoRule) (.ref e_NoDepth) = some false)
    (ps_NoRule_NoWorth : PySem.W.subIn K (.ref e_NoRule) (.ref e_NoWorth) = some false)
    (ps_NoRule_NoChange : PySem.W.subIn K (.ref e_NoRule) (.ref e_NoChange) = some false)
    (ps_NoRule_NoRow : PySem.W.subIn K (.ref e_NoRule) (.ref e_NoRow) = some false)
    (ps_NoRule_NoName : PySem.W.subIn K (.ref e_NoRule) (.ref e_NoName) = some false)
    (ps_NoRule_BoughError : PySem.W.subIn K (.ref e_NoRule) (.ref e_BoughError) = some true)
    (ps_NoOrder_NoPlay : PySem.W.subIn K (.ref e_NoOrder) (.ref e_NoPlay) = some false)
    (ps_NoOrder_NoText : PySem.W.subIn K (.ref e_NoOrder) (.ref e_NoText) = some false)
    (ps_NoOrder_NoWay : PySem.W.subIn K (.ref e_NoOrder) (.ref e_NoWay) = some false)
    (ps_NoOrder_NoRule : PySem.W.subIn K (.ref e_NoOrder) (.ref e_NoRule) = some false)
    (ps_NoOrder_NoOrder : PySem.W.subIn K (.ref e_NoOrder) (.ref e_NoOrder) = some true)
    (ps_NoOrder_NoEnds : PySem.W.subIn K (.ref e_NoOrder) (.ref e_NoEnds) = some false)
    (ps_NoOrder_NoTree : PySem.W.subIn K (.ref e_NoOrder) (.ref e_NoTree) = some false)
    (ps_NoOrder_NoWindow : PySem.W.subIn K (.ref e_NoOrder) (.ref e_NoWindow) = some false)
    (ps_NoOrder_TooMany : PySem.W.subIn K (.ref e_NoOrder) (.ref e_TooMany) = some false)
    (ps_NoOrder_NoSize : PySem.W.subIn K (.ref e_NoOrder) (.ref e_NoSize) = some false)
    (ps_NoOrder_NoStand : PySem.W.subIn K (.ref e_NoOrder) (.ref e_NoStand) = some false)
    (ps_NoOrder_NoNumber : PySem.W.subIn K (.ref e_NoOrder) (.ref e_NoNumber) = some false)
    (ps_NoOrder_NoEnd : PySem.W.subIn K (.ref e_NoOrder) (.ref e_NoEnd) = some false)
    (ps_NoOrder_NoDepth : PySem.W.subIn K (.ref e_NoOrder) (.ref e_NoDepth) = some false)
    (ps_NoOrder_NoWorth : PySem.W.subIn K (.ref e_NoOrder) (.ref e_NoWorth) = some false)
    (ps_NoOrder_NoChange : PySem.W.subIn K (.ref e_NoOrder) (.ref e_NoChange) = some false)
    (ps_NoOrder_NoRow : PySem.W.subIn K (.ref e_NoOrder) (.ref e_NoRow) = some false)
    (ps_NoOrder_NoName : PySem.W.subIn K (.ref e_NoOrder) (.ref e_NoName) = some false)
    (ps_NoOrder_BoughError : PySem.W.subIn K (.ref e_NoOrder) (.ref e_BoughError) = some true)
    (ps_NoEnds_NoPlay : PySem.W.subIn K (.ref e_NoEnds) (.ref e_NoPlay) = some false)
    (ps_NoEnds_NoText : PySem.W.subIn K (.ref e_NoEnds) (.ref e_NoText) = some false)
    (ps_NoEnds_NoWay : PySem.W.subIn K (.ref e_NoEnds) (.ref e_NoWay) = some false)
    (ps_NoEnds_NoRule : PySem.W.subIn K (.ref e_NoEnds) (.ref e_NoRule) = some false)
    (ps_NoEnds_NoOrder : PySem.W.subIn K (.ref e_NoEnds) (.ref e_NoOrder) = some false)
    (ps_NoEnds_NoEnds : PySem.W.subIn K (.ref e_NoEnds) (.ref e_NoEnds) = some true)
    (ps_NoEnds_NoTree : PySem.W.subIn K (.ref e_NoEnds) (.ref e_NoTree) = some false)
    (ps_NoEnds_NoWindow : PySem.W.subIn K (.ref e_NoEnds) (.ref e_NoWindow) = some false)
    (ps_NoEnds_TooMany : PySem.W.subIn K (.ref e_NoEnds) (.ref e_TooMany) = some false)
    (ps_NoEnds_NoSize : PySem.W.subIn K (.ref e_NoEnds) (.ref e_NoSize) = some false)
    (ps_NoEnds_NoStand : PySem.W.subIn K (.ref e_NoEnds) (.ref e_NoStand) = some false)
    (ps_NoEnds_NoNumber : PySem.W.subIn K (.ref e_NoEnds) (.ref e_NoNumber) = some false)
    (ps_NoEnds_NoEnd : PySem.W.subIn K (.ref e_NoEnds) (.ref e_NoEnd) = some false)
    (ps_NoEnds_NoDepth : PySem.W.subIn K (.ref e_NoEnds) (.ref e_NoDepth) = some false)
    (ps_NoEnds_NoWorth : PySem.W.subIn K (.ref e_NoEnds) (.ref e_NoWorth) = some false)
    (ps_NoEnds_NoChange : PySem.W.subIn K (.ref e_NoEnds) (.ref e_NoChange) = some false)
    (ps_NoEnds_NoRow : PySem.W.subIn K (.ref e_NoEnds) (.ref e_NoRow) = some false)
    (ps_NoEnds_NoName : PySem.W.subIn K (.ref e_NoEnds) (.ref e_NoName) = some false)
    (ps_NoEnds_BoughError : PySem.W.subIn K (.ref e_NoEnds) (.ref e_BoughError) = some true)
    (ps_NoTree_NoPlay : PySem.W.subIn K (.ref e_NoTree) (.ref e_NoPlay) = some false)
    (ps_NoTree_NoText : PySem.W.subIn K (.ref e_NoTree) (.ref e_NoText) = some false)
    (ps_NoTree_NoWay : PySem.W.subIn K (.ref e_NoTree) (.ref e_NoWay) = some false)
    (ps_NoTree_NoRule : PySem.W.subIn K (.ref e_NoTree) (.ref e_NoRule) = some false)
    (ps_NoTree_NoOrder : PySem.W.subIn K (.ref e_NoTree) (.ref e_NoOrder) = some false)
    (ps_NoTree_NoEnds : PySem.W.subIn K (.ref e_NoTree) (.ref e_NoEnds) = some false)
    (ps_NoTree_NoTree : PySem.W.subIn K (.ref e_NoTree) (.ref e_NoTree) = some true)
    (ps_NoTree_NoWindow : PySem.W.subIn K (.ref e_NoTree) (.ref e_NoWindow) = some false)
    (ps_NoTree_TooMany : PySem.W.subIn K (.ref e_NoTree) (.ref e_TooMany) = some false)
    (ps_NoTree_NoSize : PySem.W.subIn K (.ref e_NoTree) (.ref e_NoSize) = some false)
    (ps_NoTree_NoStand : PySem.W.subIn K (.ref e_NoTree) (.ref e_NoStand) = some false)
    (ps_NoTree_NoNumber : PySem.W.subIn K (.ref e_NoTree) (.ref e_NoNumber) = some false)
    (ps_NoTree_NoEnd : PySem.W.subIn K (.ref e_NoTree) (.ref e_NoEnd) = some false)
    (ps_NoTree_NoDepth : PySem.W.subIn K (.ref e_NoTree) (.ref e_NoDepth) = some false)
    (ps_NoTree_NoWorth : PySem.W.subIn K (.ref e_NoTree) (.ref e_NoWorth) = some false)
    (ps_NoTree_NoChange : PySem.W.subIn K (.ref e_NoTree) (.ref e_NoChange) = some false)
    (ps_NoTree_NoRow : PySem.W.subIn K (.ref e_NoTree) (.ref e_NoRow) = some false)
    (ps_NoTree_NoName : PySem.W.subIn K (.ref e_NoTree) (.ref e_NoName) = some false)
    (ps_NoTree_BoughError : PySem.W.subIn K (.ref e_NoTree) (.ref e_BoughError) = some true)
    (ps_NoWindow_NoPlay : PySem.W.subIn K (.ref e_NoWindow) (.ref e_NoPlay) = some false)
    (ps_NoWindow_NoText : PySem.W.subIn K (.ref e_NoWindow) (.ref e_NoText) = some false)
    (ps_NoWindow_NoWay : PySem.W.subIn K (.ref e_NoWindow) (.ref e_NoWay) = some false)
    (ps_NoWindow_NoRule : PySem.W.subIn K (.ref e_NoWindow) (.ref e_NoRule) = some false)
    (ps_NoWindow_NoOrder : PySem.W.subIn K (.ref e_NoWindow) (.ref e_NoOrder) = some false)
    (ps_NoWindow_NoEnds : PySem.W.subIn K (.ref e_NoWindow) (.ref e_NoEnds) = some false)
    (ps_NoWindow_NoTree : PySem.W.subIn K (.ref e_NoWindow) (.ref e_NoTree) = some false)
    (ps_NoWindow_NoWindow : PySem.W.subIn K (.ref e_NoWindow) (.ref e_NoWindow) = some true)
    (ps_NoWindow_TooMany : PySem.W.subIn K (.ref e_NoWindow) (.ref e_TooMany) = some false)
    (ps_NoWindow_NoSize : PySem.W.subIn K (.ref e_NoWindow) (.ref e_NoSize) = some false)
    (ps_NoWindow_NoStand : PySem.W.subIn K (.ref e_NoWindow) (.ref e_NoStand) = some false)
    (ps_NoWindow_NoNumber : PySem.W.subIn K (.ref e_NoWindow) (.ref e_NoNumber) = some false)
    (ps_NoWindow_NoEnd : PySem.W.subIn K (.ref e_NoWindow) (.ref e_NoEnd) = some false)
    (ps_NoWindow_NoDepth : PySem.W.subIn K (.ref e_NoWindow) (.ref e_NoDepth) = some false)
    (ps_NoWindow_NoWorth : PySem.W.subIn K (.ref e_NoWindow) (.ref e_NoWorth) = some false)
    (ps_NoWindow_NoChange : PySem.W.subIn K (.ref e_NoWindow) (.ref e_NoChange) = some false)
    (ps_NoWindow_NoRow : PySem.W.subIn K (.ref e_NoWindow) (.ref e_NoRow) = some false)
    (ps_NoWindow_NoName : PySem.W.subIn K (.ref e_NoWindow) (.ref e_NoName) = some false)
    (ps_NoWindow_BoughError : PySem.W.subIn K (.ref e_NoWindow) (.ref e_BoughError) = some true)
    (ps_TooMany_NoPlay : PySem.W.subIn K (.ref e_TooMany) (.ref e_NoPlay) = some false)
    (ps_TooMany_NoText : PySem.W.subIn K (.ref e_TooMany) (.ref e_NoText) = some false)
    (ps_TooMany_NoWay : PySem.W.subIn K (.ref e_TooMany) (.ref e_NoWay) = some false)
    (ps_TooMany_NoRule : PySem.W.subIn K (.ref e_TooMany) (.ref e_NoRule) = some false)
    (ps_TooMany_NoOrder : PySem.W.subIn K (.ref e_TooMany) (.ref e_NoOrder) = some false)
    (ps_TooMany_NoEnds : PySem.W.subIn K (.ref e_TooMany) (.ref e_NoEnds) = some false)
    (ps_TooMany_NoTree : PySem.W.subIn K (.ref e_TooMany) (.ref e_NoTree) = some false)
    (ps_TooMany_NoWindow : PySem.W.subIn K (.ref e_TooMany) (.ref e_NoWindow) = some false)
    (ps_TooMany_TooMany : PySem.W.subIn K (.ref e_TooMany) (.ref e_TooMany) = some true)
    (ps_TooMany_NoSize : PySem.W.subIn K (.ref e_TooMany) (.ref e_NoSize) = some false)
    (ps_TooMany_NoStand : PySem.W.subIn K (.ref e_TooMany) (.ref e_NoStand) = some false)
    (ps_TooMany_NoNumber : PySem.W.subIn K (.ref e_TooMany) (.ref e_NoNumber) = some false)
    (ps_TooMany_NoEnd : PySem.W.subIn K (.ref e_TooMany) (.ref e_NoEnd) = some false)
    (ps_TooMany_NoDepth : PySem.W.subIn K (.ref e_TooMany) (.ref e_NoDepth) = some false)
    (ps_TooMany_NoWorth : PySem.W.subIn K (.ref e_TooMany) (.ref e_NoWorth) = some false)
    (ps_TooMany_NoChange : PySem.W.subIn K (.ref e_TooMany) (.ref e_NoChange) = some false)
    (ps_TooMany_NoRow : PySem.W.subIn K (.ref e_TooMany) (.ref e_NoRow) = some false)
    (ps_TooMany_NoName : PySem.W.subIn K (.ref e_TooMany) (.ref e_NoName) = some false)
    (ps_TooMany_BoughError : PySem.W.subIn K (.ref e_TooMany) (.ref e_BoughError) = some true)
    (ps_NoSize_NoPlay : PySem.W.subIn K (.ref e_NoSize) (.ref e_NoPlay) = some false)
    (ps_NoSize_NoText : PySem.W.subIn K (.ref e_NoSize) (.ref e_NoText) = some false)
    (ps_NoSize_NoWay : PySem.W.subIn K (.ref e_NoSize) (.ref e_NoWay) = some false)
    (ps_NoSize_NoRule : PySem.W.subIn K (.ref e_NoSize) (.ref e_NoRule) = some false)
    (ps_NoSize_NoOrder : PySem.W.subIn K (.ref e_NoSize) (.ref e_NoOrder) = some false)
    (ps_NoSize_NoEnds : PySem.W.subIn K (.ref e_NoSize) (.ref e_NoEnds) = some false)
    (ps_NoSize_NoTree : PySem.W.subIn K (.ref e_NoSize) (.ref e_NoTree) = some false)
    (ps_NoSize_NoWindow : PySem.W.subIn K (.ref e_NoSize) (.ref e_NoWindow) = some false)
    (ps_NoSize_TooMany : PySem.W.subIn K (.ref e_NoSize) (.ref e_TooMany) = some false)
    (ps_NoSize_NoSize : PySem.W.subIn K (.ref e_NoSize) (.ref e_NoSize) = some true)
    (ps_NoSize_NoStand : PySem.W.subIn K (.ref e_NoSize) (.ref e_NoStand) = some false)
    (ps_NoSize_NoNumber : PySem.W.subIn K (.ref e_NoSize) (.ref e_NoNumber) = some false)
    (ps_NoSize_NoEnd : PySem.W.subIn K (.ref e_NoSize) (.ref e_NoEnd) = some false)
    (ps_NoSize_NoDepth : PySem.W.subIn K (.ref e_NoSize) (.ref e_NoDepth) = some false)
    (ps_NoSize_NoWorth : PySem.W.subIn K (.ref e_NoSize) (.ref e_NoWorth) = some false)
    (ps_NoSize_NoChange : PySem.W.subIn K (.ref e_NoSize) (.ref e_NoChange) = some false)
    (ps_NoSize_NoRow : PySem.W.subIn K (.ref e_NoSize) (.ref e_NoRow) = some false)
    (ps_NoSize_NoName : PySem.W.subIn K (.ref e_NoSize) (.ref e_NoName) = some false)
    (ps_NoSize_BoughError : PySem.W.subIn K (.ref e_NoSize) (.ref e_BoughError) = some true)
    (ps_NoStand_NoPlay : PySem.W.subIn K (.ref e_NoStand) (.ref e_NoPlay) = some false)
    (ps_NoStand_NoText : PySem.W.subIn K (.ref e_NoStand) (.ref e_NoText) = some false)
    (ps_NoStand_NoWay : PySem.W.subIn K (.ref e_NoStand) (.ref e_NoWay) = some false)
    (ps_NoStand_NoRule : PySem.W.subIn K (.ref e_NoStand) (.ref e_NoRule) = some false)
    (ps_NoStand_NoOrder : PySem.W.subIn K (.ref e_NoStand) (.ref e_NoOrder) = some false)
    (ps_NoStand_NoEnds : PySem.W.subIn K (.ref e_NoStand) (.ref e_NoEnds) = some false)
    (ps_NoStand_NoTree : PySem.W.subIn K (.ref e_NoStand) (.ref e_NoTree) = some false)
    (ps_NoStand_NoWindow : PySem.W.subIn K (.ref e_NoStand) (.ref e_NoWindow) = some false)
    (ps_NoStand_TooMany : PySem.W.subIn K (.ref e_NoStand) (.ref e_TooMany) = some false)
    (ps_NoStand_NoSize : PySem.W.subIn K (.ref e_NoStand) (.ref e_NoSize) = some false)
    (ps_NoStand_NoStand : PySem.W.subIn K (.ref e_NoStand) (.ref e_NoStand) = some true)
    (ps_NoStand_NoNumber : PySem.W.subIn K (.ref e_NoStand) (.ref e_NoNumber) = some false)
    (ps_NoStand_NoEnd : PySem.W.subIn K (.ref e_NoStand) (.ref e_NoEnd) = some false)
    (ps_NoStand_NoDepth : PySem.W.subIn K (.ref e_NoStand) (.ref e_NoDepth) = some false)
    (ps_NoStand_NoWorth : PySem.W.subIn K (.ref e_NoStand) (.ref e_NoWorth) = some false)
    (ps_NoStand_NoChange : PySem.W.subIn K (.ref e_NoStand) (.ref e_NoChange) = some false)
    (ps_NoStand_NoRow : PySem.W.subIn K (.ref e_NoStand) (.ref e_NoRow) = some false)
    (ps_NoStand_NoName : PySem.W.subIn K (.ref e_NoStand) (.ref e_NoName) = some false)
    (ps_NoStand_BoughError : PySem.W.subIn K (.ref e_NoStand) (.ref e_BoughError) = some true)
    (ps_NoNumber_NoPlay : PySem.W.subIn K (.ref e_NoNumber) (.ref e_NoPlay) = some false)
    (ps_NoNumber_NoText : PySem.W.subIn K (.ref e_NoNumber) (.ref e_NoText) = some false)
    (ps_NoNumber_NoWay : PySem.W.subIn K (.ref e_NoNumber) (.ref e_NoWay) = some false)
    (ps_NoNumber_NoRule : PySem.W.subIn K (.ref e_NoNumber) (.ref e_NoRule) = some false)
    (ps_NoNumber_NoOrder : PySem.W.subIn K (.ref e_NoNumber) (.ref e_NoOrder) = some false)
    (ps_NoNumber_NoEnds : PySem.W.subIn K (.ref e_NoNumber) (.ref e_NoEnds) = some false)
    (ps_NoNumber_NoTree : PySem.W.subIn K (.ref e_NoNumber) (.ref e_NoTree) = some false)
    (ps_NoNumber_NoWindow : PySem.W.subIn K (.ref e_NoNumber) (.ref e_NoWindow) = some false)
    (ps_NoNumber_TooMany : PySem.W.subIn K (.ref e_NoNumber) (.ref e_TooMany) = some false)
    (ps_NoNumber_NoSize : PySem.W.subIn K (.ref e_NoNumber) (.ref e_NoSize) = some false)
    (ps_NoNumber_NoStand : PySem.W.subIn K (.ref e_NoNumber) (.ref e_NoStand) = some false)
    (ps_NoNumber_NoNumber : PySem.W.subIn K (.ref e_NoNumber) (.ref e_NoNumber) = some true)
    (ps_NoNumber_NoEnd : PySem.W.subIn K (.ref e_NoNumber) (.ref e_NoEnd) = some false)
    (ps_NoNumber_NoDepth : PySem.W.subIn K (.ref e_NoNumber) (.ref e_NoDepth) = some false)
    (ps_NoNumber_NoWorth : PySem.W.subIn K (.ref e_NoNumber) (.ref e_NoWorth) = some false)
    (ps_NoNumber_NoChange : PySem.W.subIn K (.ref e_NoNumber) (.ref e_NoChange) = some false)
    (ps_NoNumber_NoRow : PySem.W.subIn K (.ref e_NoNumber) (.ref e_NoRow) = some false)
    (ps_NoNumber_NoName : PySem.W.subIn K (.ref e_NoNumber) (.ref e_NoName) = some false)
    (ps_NoNumber_BoughError : PySem.W.subIn K (.ref e_NoNumber) (.ref e_BoughError) = some true)
    (ps_NoEnd_NoPlay : PySem.W.subIn K (.ref e_NoEnd) (.ref e_NoPlay) = some false)
    (ps_NoEnd_NoText : PySem.W.subIn K (.ref e_NoEnd) (.ref e_NoText) = some false)
    (ps_NoEnd_NoWay : PySem.W.subIn K (.ref e_NoEnd) (.ref e_NoWay) = some false)
    (ps_NoEnd_NoRule : PySem.W.subIn K (.ref e_NoEnd) (.ref e_NoRule) = some false)
    (ps_NoEnd_NoOrder : PySem.W.subIn K (.ref e_NoEnd) (.ref e_NoOrder) = some false)
    (ps_NoEnd_NoEnds : PySem.W.subIn K (.ref e_NoEnd) (.ref e_NoEnds) = some false)
    (ps_NoEnd_NoTree : PySem.W.subIn K (.ref e_NoEnd) (.ref e_NoTree) = some false)
    (ps_NoEnd_NoWindow : PySem.W.subIn K (.ref e_NoEnd) (.ref e_NoWindow) = some false)
    (ps_NoEnd_TooMany : PySem.W.subIn K (.ref e_NoEnd) (.ref e_TooMany) = some false)
    (ps_NoEnd_NoSize : PySem.W.subIn K (.ref e_NoEnd) (.ref e_NoSize) = some false)
    (ps_NoEnd_NoStand : PySem.W.subIn K (.ref e_NoEnd) (.ref e_NoStand) = some false)
    (ps_NoEnd_NoNumber : PySem.W.subIn K (.ref e_NoEnd) (.ref e_NoNumber) = some false)
    (ps_NoEnd_NoEnd : PySem.W.subIn K (.ref e_NoEnd) (.ref e_NoEnd) = some true)
    (ps_NoEnd_NoDepth : PySem.W.subIn K (.ref e_NoEnd) (.ref e_NoDepth) = some false)
    (ps_NoEnd_NoWorth : PySem.W.subIn K (.ref e_NoEnd) (.ref e_NoWorth) = some false)
    (ps_NoEnd_NoChange : PySem.W.subIn K (.ref e_NoEnd) (.ref e_NoChange) = some false)
    (ps_NoEnd_NoRow : PySem.W.subIn K (.ref e_NoEnd) (.ref e_NoRow) = some false)
    (ps_NoEnd_NoName : PySem.W.subIn K (.ref e_NoEnd) (.ref e_NoName) = some false)
    (ps_NoEnd_BoughError : PySem.W.subIn K (.ref e_NoEnd) (.ref e_BoughError) = some true)
    (ps_NoDepth_NoPlay : PySem.W.subIn K (.ref e_NoDepth) (.ref e_NoPlay) = some false)
    (ps_NoDepth_NoText : PySem.W.subIn K (.ref e_NoDepth) (.ref e_NoText) = some false)
    (ps_NoDepth_NoWay : PySem.W.subIn K (.ref e_NoDepth) (.ref e_NoWay) = some false)
    (ps_NoDepth_NoRule : PySem.W.subIn K (.ref e_NoDepth) (.ref e_NoRule) = some false)
    (ps_NoDepth_NoOrder : PySem.W.subIn K (.ref e_NoDepth) (.ref e_NoOrder) = some false)
    (ps_NoDepth_NoEnds : PySem.W.subIn K (.ref e_NoDepth) (.ref e_NoEnds) = some false)
    (ps_NoDepth_NoTree : PySem.W.subIn K (.ref e_NoDepth) (.ref e_NoTree) = some false)
    (ps_NoDepth_NoWindow : PySem.W.subIn K (.ref e_NoDepth) (.ref e_NoWindow) = some false)
    (ps_NoDepth_TooMany : PySem.W.subIn K (.ref e_NoDepth) (.ref e_TooMany) = some false)
    (ps_NoDepth_NoSize : PySem.W.subIn K (.ref e_NoDepth) (.ref e_NoSize) = some false)
    (ps_NoDepth_NoStand : PySem.W.subIn K (.ref e_NoDepth) (.ref e_NoStand) = some false)
    (ps_NoDepth_NoNumber : PySem.W.subIn K (.ref e_NoDepth) (.ref e_NoNumber) = some false)
    (ps_NoDepth_NoEnd : PySem.W.subIn K (.ref e_NoDepth) (.ref e_NoEnd) = some false)
    (ps_NoDepth_NoDepth : PySem.W.subIn K (.ref e_NoDepth) (.ref e_NoDepth) = some true)
    (ps_NoDepth_NoWorth : PySem.W.subIn K (.ref e_NoDepth) (.ref e_NoWorth) = some false)
    (ps_NoDepth_NoChange : PySem.W.subIn K (.ref e_NoDepth) (.ref e_NoChange) = some false)
    (ps_NoDepth_NoRow : PySem.W.subIn K (.ref e_NoDepth) (.ref e_NoRow) = some false)
    (ps_NoDepth_NoName : PySem.W.subIn K (.ref e_NoDepth) (.ref e_NoName) = some false)
    (ps_NoDepth_BoughError : PySem.W.subIn K (.ref e_NoDepth) (.ref e_BoughError) = some true)
    (ps_NoWorth_NoPlay : PySem.W.subIn K (.ref e_NoWorth) (.ref e_NoPlay) = some false)
    (ps_NoWorth_NoText : PySem.W.subIn K (.ref e_NoWorth) (.ref e_NoText) = some false)
    (ps_NoWorth_NoWay : PySem.W.subIn K (.ref e_NoWorth) (.ref e_NoWay) = some false)
    (ps_NoWorth_NoRule : PySem.W.subIn K (.ref e_NoWorth) (.ref e_NoRule) = some false)
    (ps_NoWorth_NoOrder : PySem.W.subIn K (.ref e_NoWorth) (.ref e_NoOrder) = some false)
    (ps_NoWorth_NoEnds : PySem.W.subIn K (.ref e_NoWorth) (.ref e_NoEnds) = some false)
    (ps_NoWorth_NoTree : PySem.W.subIn K (.ref e_NoWorth) (.ref e_NoTree) = some false)
    (ps_NoWorth_NoWindow : PySem.W.subIn K (.ref e_NoWorth) (.ref e_NoWindow) = some false)
    (ps_NoWorth_TooMany : PySem.W.subIn K (.ref e_NoWorth) (.ref e_TooMany) = some false)
    (ps_NoWorth_NoSize : PySem.W.subIn K (.ref e_NoWorth) (.ref e_NoSize) = some false)
    (ps_NoWorth_NoStand : PySem.W.subIn K (.ref e_NoWorth) (.ref e_NoStand) = some false)
    (ps_NoWorth_NoNumber : PySem.W.subIn K (.ref e_NoWorth) (.ref e_NoNumber) = some false)
    (ps_NoWorth_NoEnd : PySem.W.subIn K (.ref e_NoWorth) (.ref e_NoEnd) = some false)
    (ps_NoWorth_NoDepth : PySem.W.subIn K (.ref e_NoWorth) (.ref e_NoDepth) = some false)
    (ps_NoWorth_NoWorth : PySem.W.subIn K (.ref e_NoWorth) (.ref e_NoWorth) = some true)
    (ps_NoWorth_NoChange : PySem.W.subIn K (.ref e_NoWorth) (.ref e_NoChange) = some false)
    (ps_NoWorth_NoRow : PySem.W.subIn K (.ref e_NoWorth) (.ref e_NoRow) = some false)
    (ps_NoWorth_NoName : PySem.W.subIn K (.ref e_NoWorth) (.ref e_NoName) = some false)
    (ps_NoWorth_BoughError : PySem.W.subIn K (.ref e_NoWorth) (.ref e_BoughError) = some true)
    (ps_NoChange_NoPlay : PySem.W.subIn K (.ref e_NoChange) (.ref e_NoPlay) = some false)
    (ps_NoChange_NoText : PySem.W.subIn K (.ref e_NoChange) (.ref e_NoText) = some false)
    (ps_NoChange_NoWay : PySem.W.subIn K (.ref e_NoChange) (.ref e_NoWay) = some false)
    (ps_NoChange_NoRule : PySem.W.subIn K (.ref e_NoChange) (.ref e_NoRule) = some false)
    (ps_NoChange_NoOrder : PySem.W.subIn K (.ref e_NoChange) (.ref e_NoOrder) = some false)
    (ps_NoChange_NoEnds : PySem.W.subIn K (.ref e_NoChange) (.ref e_NoEnds) = some false)
    (ps_NoChange_NoTree : PySem.W.subIn K (.ref e_NoChange) (.ref e_NoTree) = some false)
    (ps_NoChange_NoWindow : PySem.W.subIn K (.ref e_NoChange) (.ref e_NoWindow) = some false)
    (ps_NoChange_TooMany : PySem.W.subIn K (.ref e_NoChange) (.ref e_TooMany) = some false)
    (ps_NoChange_NoSize : PySem.W.subIn K (.ref e_NoChange) (.ref e_NoSize) = some false)
    (ps_NoChange_NoStand : PySem.W.subIn K (.ref e_NoChange) (.ref e_NoStand) = some false)
    (ps_NoChange_NoNumber : PySem.W.subIn K (.ref e_NoChange) (.ref e_NoNumber) = some false)
    (ps_NoChange_NoEnd : PySem.W.subIn K (.ref e_NoChange) (.ref e_NoEnd) = some false)
    (ps_NoChange_NoDepth : PySem.W.subIn K (.ref e_NoChange) (.ref e_NoDepth) = some false)
    (ps_NoChange_NoWorth : PySem.W.subIn K (.ref e_NoChange) (.ref e_NoWorth) = some false)
    (ps_NoChange_NoChange : PySem.W.subIn K (.ref e_NoChange) (.ref e_NoChange) = some true)
    (ps_NoChange_NoRow : PySem.W.subIn K (.ref e_NoChange) (.ref e_NoRow) = some false)
    (ps_NoChange_NoName : PySem.W.subIn K (.ref e_NoChange) (.ref e_NoName) = some false)
    (ps_NoChange_BoughError : PySem.W.subIn K (.ref e_NoChange) (.ref e_BoughError) = some true)
    (ps_NoRow_NoPlay : PySem.W.subIn K (.ref e_NoRow) (.ref e_NoPlay) = some false)
    (ps_NoRow_NoText : PySem.W.subIn K (.ref e_NoRow) (.ref e_NoText) = some false)
    (ps_NoRow_NoWay : PySem.W.subIn K (.ref e_NoRow) (.ref e_NoWay) = some false)
    (ps_NoRow_NoRule : PySem.W.subIn K (.ref e_NoRow) (.ref e_NoRule) = some false)
    (ps_NoRow_NoOrder : PySem.W.subIn K (.ref e_NoRow) (.ref e_NoOrder) = some false)
    (ps_NoRow_NoEnds : PySem.W.subIn K (.ref e_NoRow) (.ref e_NoEnds) = some false)
    (ps_NoRow_NoTree : PySem.W.subIn K (.ref e_NoRow) (.ref e_NoTree) = some false)
    (ps_NoRow_NoWindow : PySem.W.subIn K (.ref e_NoRow) (.ref e_NoWindow) = some false)
    (ps_NoRow_TooMany : PySem.W.subIn K (.ref e_NoRow) (.ref e_TooMany) = some false)
    (ps_NoRow_NoSize : PySem.W.subIn K (.ref e_NoRow) (.ref e_NoSize) = some false)
    (ps_NoRow_NoStand : PySem.W.subIn K (.ref e_NoRow) (.ref e_NoStand) = some false)
    (ps_NoRow_NoNumber : PySem.W.subIn K (.ref e_NoRow) (.ref e_NoNumber) = some false)
    (ps_NoRow_NoEnd : PySem.W.subIn K (.ref e_NoRow) (.ref e_NoEnd) = some false)
    (ps_NoRow_NoDepth : PySem.W.subIn K (.ref e_NoRow) (.ref e_NoDepth) = some false)
    (ps_NoRow_NoWorth : PySem.W.subIn K (.ref e_NoRow) (.ref e_NoWorth) = some false)
    (ps_NoRow_NoChange : PySem.W.subIn K (.ref e_NoRow) (.ref e_NoChange) = some false)
    (ps_NoRow_NoRow : PySem.W.subIn K (.ref e_NoRow) (.ref e_NoRow) = some true)
    (ps_NoRow_NoName : PySem.W.subIn K (.ref e_NoRow) (.ref e_NoName) = some false)
    (ps_NoRow_BoughError : PySem.W.subIn K (.ref e_NoRow) (.ref e_BoughError) = some true)
    (ps_NoName_NoPlay : PySem.W.subIn K (.ref e_NoName) (.ref e_NoPlay) = some false)
    (ps_NoName_NoText : PySem.W.subIn K (.ref e_NoName) (.ref e_NoText) = some false)
    (ps_NoName_NoWay : PySem.W.subIn K (.ref e_NoName) (.ref e_NoWay) = some false)
    (ps_NoName_NoRule : PySem.W.subIn K (.ref e_NoName) (.ref e_NoRule) = some false)
    (ps_NoName_NoOrder : PySem.W.subIn K (.ref e_NoName) (.ref e_NoOrder) = some false)
    (ps_NoName_NoEnds : PySem.W.subIn K (.ref e_NoName) (.ref e_NoEnds) = some false)
    (ps_NoName_NoTree : PySem.W.subIn K (.ref e_NoName) (.ref e_NoTree) = some false)
    (ps_NoName_NoWindow : PySem.W.subIn K (.ref e_NoName) (.ref e_NoWindow) = some false)
    (ps_NoName_TooMany : PySem.W.subIn K (.ref e_NoName) (.ref e_TooMany) = some false)
    (ps_NoName_NoSize : PySem.W.subIn K (.ref e_NoName) (.ref e_NoSize) = some false)
    (ps_NoName_NoStand : PySem.W.subIn K (.ref e_NoName) (.ref e_NoStand) = some false)
    (ps_NoName_NoNumber : PySem.W.subIn K (.ref e_NoName) (.ref e_NoNumber) = some false)
    (ps_NoName_NoEnd : PySem.W.subIn K (.ref e_NoName) (.ref e_NoEnd) = some false)
    (ps_NoName_NoDepth : PySem.W.subIn K (.ref e_NoName) (.ref e_NoDepth) = some false)
    (ps_NoName_NoWorth : PySem.W.subIn K (.ref e_NoName) (.ref e_NoWorth) = some false)
    (ps_NoName_NoChange : PySem.W.subIn K (.ref e_NoName) (.ref e_NoChange) = some false)
    (ps_NoName_NoRow : PySem.W.subIn K (.ref e_NoName) (.ref e_NoRow) = some false)
    (ps_NoName_NoName : PySem.W.subIn K (.ref e_NoName) (.ref e_NoName) = some true)
    (ps_NoName_BoughError : PySem.W.subIn K (.ref e_NoName) (.ref e_BoughError) = some true)
    (ps_NoPlay_NoPlay : PySem.W.subIn K (.ref e_NoPlay) (.ref e_NoPlay) = some true)
    (ps_NoPlay_NoText : PySem.W.subIn K (.ref e_NoPlay) (.ref e_NoText) = some false)
    (ps_NoPlay_NoWay : PySem.W.subIn K (.ref e_NoPlay) (.ref e_NoWay) = some false)
    (ps_NoPlay_NoRule : PySem.W.subIn K (.ref e_NoPlay) (.ref e_NoRule) = some false)
    (ps_NoPlay_NoOrder : PySem.W.subIn K (.ref e_NoPlay) (.ref e_NoOrder) = some false)
    (ps_NoPlay_NoEnds : PySem.W.subIn K (.ref e_NoPlay) (.ref e_NoEnds) = some false)
    (ps_NoPlay_NoTree : PySem.W.subIn K (.ref e_NoPlay) (.ref e_NoTree) = some false)
    (ps_NoPlay_NoWindow : PySem.W.subIn K (.ref e_NoPlay) (.ref e_NoWindow) = some false)
    (ps_NoPlay_TooMany : PySem.W.subIn K (.ref e_NoPlay) (.ref e_TooMany) = some false)
    (ps_NoPlay_NoSize : PySem.W.subIn K (.ref e_NoPlay) (.ref e_NoSize) = some false)
    (ps_NoPlay_NoStand : PySem.W.subIn K (.ref e_NoPlay) (.ref e_NoStand) = some false)
    (ps_NoPlay_NoNumber : PySem.W.subIn K (.ref e_NoPlay) (.ref e_NoNumber) = some false)
    (ps_NoPlay_NoEnd : PySem.W.subIn K (.ref e_NoPlay) (.ref e_NoEnd) = some false)
    (ps_NoPlay_NoDepth : PySem.W.subIn K (.ref e_NoPlay) (.ref e_NoDepth) = some false)
    (ps_NoPlay_NoWorth : PySem.W.subIn K (.ref e_NoPlay) (.ref e_NoWorth) = some false)
    (ps_NoPlay_NoChange : PySem.W.subIn K (.ref e_NoPlay) (.ref e_NoChange) = some false)
    (ps_NoPlay_NoRow : PySem.W.subIn K (.ref e_NoPlay) (.ref e_NoRow) = some false)
    (ps_NoPlay_NoName : PySem.W.subIn K (.ref e_NoPlay) (.ref e_NoName) = some false)
    (ps_NoPlay_BoughError : PySem.W.subIn K (.ref e_NoPlay) (.ref e_BoughError) = some true)
    (ps_NoText_NoPlay : PySem.W.subIn K (.ref e_NoText) (.ref e_NoPlay) = some false)
    (ps_NoText_NoText : PySem.W.subIn K (.ref e_NoText) (.ref e_NoText) = some true)
    (ps_NoText_NoWay : PySem.W.subIn K (.ref e_NoText) (.ref e_NoWay) = some false)
    (ps_NoText_NoRule : PySem.W.subIn K (.ref e_NoText) (.ref e_NoRule) = some false)
    (ps_NoText_NoOrder : PySem.W.subIn K (.ref e_NoText) (.ref e_NoOrder) = some false)
    (ps_NoText_NoEnds : PySem.W.subIn K (.ref e_NoText) (.ref e_NoEnds) = some false)
    (ps_NoText_NoTree : PySem.W.subIn K (.ref e_NoText) (.ref e_NoTree) = some false)
    (ps_NoText_NoWindow : PySem.W.subIn K (.ref e_NoText) (.ref e_NoWindow) = some false)
    (ps_NoText_TooMany : PySem.W.subIn K (.ref e_NoText) (.ref e_TooMany) = some false)
    (ps_NoText_NoSize : PySem.W.subIn K (.ref e_NoText) (.ref e_NoSize) = some false)
    (ps_NoText_NoStand : PySem.W.subIn K (.ref e_NoText) (.ref e_NoStand) = some false)
    (ps_NoText_NoNumber : PySem.W.subIn K (.ref e_NoText) (.ref e_NoNumber) = some false)
    (ps_NoText_NoEnd : PySem.W.subIn K (.ref e_NoText) (.ref e_NoEnd) = some false)
    (ps_NoText_NoDepth : PySem.W.subIn K (.ref e_NoText) (.ref e_NoDepth) = some false)
    (ps_NoText_NoWorth : PySem.W.subIn K (.ref e_NoText) (.ref e_NoWorth) = some false)
    (ps_NoText_NoChange : PySem.W.subIn K (.ref e_NoText) (.ref e_NoChange) = some false)
    (ps_NoText_NoRow : PySem.W.subIn K (.ref e_NoText) (.ref e_NoRow) = some false)
    (ps_NoText_NoName : PySem.W.subIn K (.ref e_NoText) (.ref e_NoName) = some false)
    (ps_NoText_BoughError : PySem.W.subIn K (.ref e_NoText) (.ref e_BoughError) = some true)
    (zVE : PySem.W.nsIn K mainGlobals "ValueError" = some none) (zVB : PySem.W.subIn K (.type "ValueError") (.type "BaseException") = some true)
    (vs_NoWay : PySem.W.subIn K (.ref e_NoWay) (.type "ValueError") = some true)
    (vs_NoRule : PySem.W.subIn K (.ref e_NoRule) (.type "ValueError") = some true)
    (vs_NoOrder : PySem.W.subIn K (.ref e_NoOrder) (.type "ValueError") = some true)
    (vs_NoEnds : PySem.W.subIn K (.ref e_NoEnds) (.type "ValueError") = some true)
    (vs_NoTree : PySem.W.subIn K (.ref e_NoTree) (.type "ValueError") = some true)
    (vs_NoWindow : PySem.W.subIn K (.ref e_NoWindow) (.type "ValueError") = some true)
    (vs_TooMany : PySem.W.subIn K (.ref e_TooMany) (.type "ValueError") = some true)
    (vs_NoSize : PySem.W.subIn K (.ref e_NoSize) (.type "ValueError") = some true)
    (vs_NoStand : PySem.W.subIn K (.ref e_NoStand) (.type "ValueError") = some true)
    (vs_NoNumber : PySem.W.subIn K (.ref e_NoNumber) (.type "ValueError") = some true)
    (vs_NoEnd : PySem.W.subIn K (.ref e_NoEnd) (.type "ValueError") = some true)
    (vs_NoDepth : PySem.W.subIn K (.ref e_NoDepth) (.type "ValueError") = some true)
    (vs_NoWorth : PySem.W.subIn K (.ref e_NoWorth) (.type "ValueError") = some true)
    (vs_NoChange : PySem.W.subIn K (.ref e_NoChange) (.type "ValueError") = some true)
    (vs_NoRow : PySem.W.subIn K (.ref e_NoRow) (.type "ValueError") = some true)
    (vs_NoName : PySem.W.subIn K (.ref e_NoName) (.type "ValueError") = some true)
    (vs_NoPlay : PySem.W.subIn K (.ref e_NoPlay) (.type "ValueError") = some true)
    (vs_NoText : PySem.W.subIn K (.ref e_NoText) (.type "ValueError") = some true)
    {od0 an0 : Option Addr} {sl0 : Array (Option Value)} {oc0 kV0 dc0 pm0 cd0 ct0 : Value} (a0 : PySem.W.nsIn K mainGlobals "_law_pool" = some (some (.ref f0))) (l0 : K.lookup f0 = some ⟨oc0, od0, .func (PySem.W.fnOf "_law_pool" "_law_pool" (defArgs s_law_pool) (defBody s_law_pool) (defScope s_law_pool) .none kV0 dc0 pm0 an0 cd0 ct0), sl0⟩) (c0 : PySem.W.codeIn K cd0 "_law_pool" = true) (k0 : PySem.W.keepIn K (.ref f0) = true)
    {od1 an1 : Option Addr} {sl1 : Array (Option Value)} {oc1 kV1 dc1 pm1 cd1 ct1 : Value} (a1 : PySem.W.nsIn K mainGlobals "_law_take" = some (some (.ref f1))) (l1 : K.lookup f1 = some ⟨oc1, od1, .func (PySem.W.fnOf "_law_take" "_law_take" (defArgs s_law_take) (defBody s_law_take) (defScope s_law_take) .none kV1 dc1 pm1 an1 cd1 ct1), sl1⟩) (c1 : PySem.W.codeIn K cd1 "_law_take" = true) (k1 : PySem.W.keepIn K (.ref f1) = true)
    {od2 an2 : Option Addr} {sl2 : Array (Option Value)} {oc2 kV2 dc2 pm2 cd2 ct2 : Value} (a2 : PySem.W.nsIn K mainGlobals "_law_made" = some (some (.ref f2))) (l2 : K.lookup f2 = some ⟨oc2, od2, .func (PySem.W.fnOf "_law_made" "_law_made" (defArgs s_law_made) (defBody s_law_made) (defScope s_law_made) .none kV2 dc2 pm2 an2 cd2 ct2), sl2⟩) (c2 : PySem.W.codeIn K cd2 "_law_made" = true) (k2 : PySem.W.keepIn K (.ref f2) = true)
    {od3 an3 : Option Addr} {sl3 : Array (Option Value)} {oc3 kV3 dc3 pm3 cd3 ct3 : Value} (a3 : PySem.W.nsIn K mainGlobals "_law_sorts" = some (some (.ref f3))) (l3 : K.lookup f3 = some ⟨oc3, od3, .func (PySem.W.fnOf "_law_sorts" "_law_sorts" (defArgs s_law_sorts) (defBody s_law_sorts) (defScope s_law_sorts) .none kV3 dc3 pm3 an3 cd3 ct3), sl3⟩) (c3 : PySem.W.codeIn K cd3 "_law_sorts" = true) (k3 : PySem.W.keepIn K (.ref f3) = true)
    {od4 an4 : Option Addr} {sl4 : Array (Option Value)} {oc4 kV4 dc4 pm4 cd4 ct4 : Value} (a4 : PySem.W.nsIn K mainGlobals "law" = some (some (.ref f4))) (l4 : K.lookup f4 = some ⟨oc4, od4, .func (PySem.W.fnOf "law" "law" (defArgs s_law) (defBody s_law) (defScope s_law) .none kV4 dc4 pm4 an4 cd4 ct4), sl4⟩) (c4 : PySem.W.codeIn K cd4 "law" = true) (k4 : PySem.W.keepIn K (.ref f4) = true)
    {od5 an5 : Option Addr} {sl5 : Array (Option Value)} {oc5 kV5 dc5 pm5 cd5 ct5 : Value} (a5 : PySem.W.findIn K (.ref e_NoPlay) "__init__" = some (some (.ref f5))) (i5 : PySem.W.typeIn K (.ref f5) = some (.type "function")) (l5 : K.lookup f5 = some ⟨oc5, od5, .func (PySem.W.fnOf "__init__" "NoPlay.__init__" (defArgs s_NoPlay_init) (defBody s_NoPlay_init) (defScope s_NoPlay_init) .none kV5 dc5 pm5 an5 cd5 ct5), sl5⟩) (c5 : PySem.W.codeIn K cd5 "NoPlay.__init__" = true) (k5 : PySem.W.keepIn K (.ref f5) = true)
    {od6 an6 : Option Addr} {sl6 : Array (Option Value)} {oc6 kV6 dc6 pm6 cd6 ct6 : Value} (a6 : PySem.W.findIn K (.ref e_NoText) "__init__" = some (some (.ref f6))) (i6 : PySem.W.typeIn K (.ref f6) = some (.type "function")) (l6 : K.lookup f6 = some ⟨oc6, od6, .func (PySem.W.fnOf "__init__" "NoText.__init__" (defArgs s_NoText_init) (defBody s_NoText_init) (defScope s_NoText_init) .none kV6 dc6 pm6 an6 cd6 ct6), sl6⟩) (c6 : PySem.W.codeIn K cd6 "NoText.__init__" = true) (k6 : PySem.W.keepIn K (.ref f6) = true)
    (z0 : PySem.W.nsIn K mainGlobals "len" = some none)
    (z1 : PySem.W.nsIn K mainGlobals "int" = some none)
    (z2 : PySem.W.nsIn K mainGlobals "isinstance" = some none)
    (z3 : PySem.W.nsIn K mainGlobals "range" = some none) :
    ∃ fd : FuncData, (∀ (s : Shared) (v : Value), BindsTo s fd ⟨[v], []⟩ [("_law_script", v)]) ∧ ∀ base : Heap, K.In base → base.Ns mainGlobals mg → (∀ p ∈ tabsC K, LamX.TabB base mg p.1 p.2) → FnG l.prog w K mg base CX0 4 fa fd ["_law_script"] (spV K [.bor] (FLaw 63)) := by
  have e := hfa.symm.trans (PySem.W.mg_of X G a4)
  cases e
  have F0 := fun_mk (st := s_law_pool) l0 c0 k0
  have b0 := F0.binds (ps := ["_law_script", "_law_k"]) fun _ _ _ _ _ _ us hl => match us, hl with | [_, _], _ => rfl
  have F1 := fun_mk (st := s_law_take) l1 c1 k1
  have b1 := F1.binds (ps := ["_law_pool_here", "_law_many"]) fun _ _ _ _ _ _ us hl => match us, hl with | [_, _], _ => rfl
  have F2 := fun_mk (st := s_law_made) l2 c2 k2
  have b2 := F2.binds (ps := ["_law_way", "_law_thing"]) fun _ _ _ _ _ _ us hl => match us, hl with | [_, _], _ => rfl
  have F3 := fun_mk (st := s_law_sorts) l3 c3 k3
  have b3 := F3.binds (ps := ["_law_e"]) fun _ _ _ _ _ _ us hl => match us, hl with | [_], _ => rfl
  have F4 := fun_mk (st := s_law) l4 c4 k4
  have b4 := F4.binds (ps := ["_law_script"]) fun _ _ _ _ _ _ us hl => match us, hl with | [_], _ => rfl
  refine ⟨PySem.W.fnOf "law" "law" (defArgs s_law) (defBody s_law) (defScope s_law) .none kV4 dc4 pm4 an4 cd4 ct4, fun s v => .of_eq rfl, fun base _ _ hTB => ?_⟩
  have F5 := fun_mk (st := s_NoPlay_init) l5 c5 k5
  have b5 := F5.binds (ps := ["self", "place"]) fun _ _ _ _ _ _ us hl => match us, hl with | [_, _], _ => rfl
  have F6 := fun_mk (st := s_NoText_init) l6 c6 k6
  have b6 := F6.binds (ps := ["self", "row"]) fun _ _ _ _ _ _ us hl => match us, hl with | [_, _], _ => rfl
  have I0 : FnI l.prog w K mg base 1 "_law_pool" ⟨[.bor, .bor], F_pool⟩ := fn_in F0 (PySem.W.mg_of X G a0) b0 sc_law_pool rfl (show GOk l.prog w K mg base (Gm_pool) 0 from ⟨gl_nil, (bi_cons (PySem.W.mg_none_of X G z0) (bi_cons (PySem.W.mg_none_of X G z1) bi_nil)), fns_nil, cl_nil, xfns_nil, xcl_nil, xc_nil, (fun _ _ h => by cases h), (fun _ _ h => by cases h), (fun _ h => by cases h)⟩) rfl ch_law_pool w_pool
  have I1 : FnI l.prog w K mg base 1 "_law_take" ⟨[.own, .bor], F_take⟩ := fn_in F1 (PySem.W.mg_of X G a1) b1 sc_law_take rfl (show GOk l.prog w K mg base (Gm_take) 0 from ⟨gl_nil, bi_nil, fns_nil, cl_nil, xfns_nil, xcl_nil, xc_nil, (fun _ _ h => by cases h), (fun _ _ h => by cases h), (fun _ h => by cases h)⟩) rfl ch_law_take w_take
  have I2 : FnI l.prog w K mg base 3 "_law_made" ⟨[.bor, .bor], F_law_made e_NoPlay e_NoText e_NoWay e_NoRule e_NoOrder e_NoEnds e_NoTree e_NoWindow e_TooMany e_NoSize e_NoStand e_NoNumber e_NoEnd e_NoDepth e_NoWorth e_NoChange e_NoRow e_NoName⟩ := fn_in F2 (PySem.W.mg_of X G a2) b2 sc_law_made rfl (show GOk l.prog w K mg base (Gm_law_made e_NoPlay e_NoText e_NoWay e_NoRule e_NoOrder e_NoEnds e_NoTree e_NoWindow e_TooMany e_NoSize e_NoStand e_NoNumber e_NoEnd e_NoDepth e_NoWorth e_NoChange e_NoRow e_NoName) 2 from ⟨gl_nil, bi_nil, fns_nil, cl_nil, xfns_nil, xcl_nil, (xc_cons (xc_of (PySem.W.mg_of X G ea_NoWay) ek_NoWay e1_NoWay e2_NoWay e3_NoWay e4_NoWay e5_NoWay ex6 ex7 e8_NoWay et_NoWay eq_NoWay (is_own (PySem.W.mg_of X G ea_NoPlay) (kit_own hi_NoPlay ht_NoPlay ps_NoWay_NoPlay hr_NoPlay) (exm_own hb_NoPlay hi_NoPlay ht_NoPlay ps_NoWay_NoPlay) (is_own (PySem.W.mg_of X G ea_NoText) (kit_own hi_NoText ht_NoText ps_NoWay_NoText hr_NoText) (exm_own hb_NoText hi_NoText ht_NoText ps_NoWay_NoText) (is_own (PySem.W.mg_of X G ea_NoWay) (kit_own hi_NoWay ht_NoWay ps_NoWay_NoWay hr_NoWay) (exm_own hb_NoWay hi_NoWay ht_NoWay ps_NoWay_NoWay) (is_own (PySem.W.mg_of X G ea_NoRule) (kit_own hi_NoRule ht_NoRule ps_NoWay_NoRule hr_NoRule) (exm_own hb_NoRule hi_NoRule ht_NoRule ps_NoWay_NoRule) (is_own (PySem.W.mg_of X G ea_NoOrder) (kit_own hi_NoOrder ht_NoOrder ps_NoWay_NoOrder hr_NoOrder) (exm_own hb_NoOrder hi_NoOrder ht_NoOrder ps_NoWay_NoOrder) (is_own (PySem.W.mg_of X G ea_NoEnds) (kit_own hi_NoEnds ht_NoEnds ps_NoWay_NoEnds hr_NoEnds) (exm_own hb_NoEnds hi_NoEnds ht_NoEnds ps_NoWay_NoEnds) (is_own (PySem.W.mg_of X G ea_NoTree) (kit_own hi_NoTree ht_NoTree ps_NoWay_NoTree hr_NoTree) (exm_own hb_NoTree hi_NoTree ht_NoTree ps_NoWay_NoTree) (is_own (PySem.W.mg_of X G ea_NoWindow) (kit_own hi_NoWindow ht_NoWindow ps_NoWay_NoWindow hr_NoWindow) (exm_own hb_NoWindow hi_NoWindow ht_NoWindow ps_NoWay_NoWindow) (is_own (PySem.W.mg_of X G ea_TooMany) (kit_own hi_TooMany ht_TooMany ps_NoWay_TooMany hr_TooMany) (exm_own hb_TooMany hi_TooMany ht_TooMany ps_NoWay_TooMany) (is_own (PySem.W.mg_of X G ea_NoSize) (kit_own hi_NoSize ht_NoSize ps_NoWay_NoSize hr_NoSize) (exm_own hb_NoSize hi_NoSize ht_NoSize ps_NoWay_NoSize) (is_own (PySem.W.mg_of X G ea_NoStand) (kit_own hi_NoStand ht_NoStand ps_NoWay_NoStand hr_NoStand) (exm_own hb_NoStand hi_NoStand ht_NoStand ps_NoWay_NoStand) (is_own (PySem.W.mg_of X G ea_NoNumber) (kit_own hi_NoNumber ht_NoNumber ps_NoWay_NoNumber hr_NoNumber) (exm_own hb_NoNumber hi_NoNumber ht_NoNumber ps_NoWay_NoNumber) (is_own (PySem.W.mg_of X G ea_NoEnd) (kit_own hi_NoEnd ht_NoEnd ps_NoWay_NoEnd hr_NoEnd) (exm_own hb_NoEnd hi_NoEnd ht_NoEnd ps_NoWay_NoEnd) (is_own (PySem.W.mg_of X G ea_NoDepth) (kit_own hi_NoDepth ht_NoDepth ps_NoWay_NoDepth hr_NoDepth) (exm_own hb_NoDepth hi_NoDepth ht_NoDepth ps_NoWay_NoDepth) (is_own (PySem.W.mg_of X G ea_NoWorth) (kit_own hi_NoWorth ht_NoWorth ps_NoWay_NoWorth hr_NoWorth) (exm_own hb_NoWorth hi_NoWorth ht_NoWorth ps_NoWay_NoWorth) (is_own (PySem.W.mg_of X G ea_NoChange) (kit_own hi_NoChange ht_NoChange ps_NoWay_NoChange hr_NoChange) (exm_own hb_NoChange hi_NoChange ht_NoChange ps_NoWay_NoChange) (is_own (PySem.W.mg_of X G ea_NoRow) (kit_own hi_NoRow ht_NoRow ps_NoWay_NoRow hr_NoRow) (exm_own hb_NoRow hi_NoRow ht_NoRow ps_NoWay_NoRow) (is_own (PySem.W.mg_of X G ea_NoName) (kit_own hi_NoName ht_NoName ps_NoWay_NoName hr_NoName) (exm_own hb_NoName hi_NoName ht_NoName ps_NoWay_NoName) (is_own (PySem.W.mg_of X G ea_BoughError) (kit_own hi_BoughError ht_BoughError ps_NoWay_BoughError hr_BoughError) (exm_own hb_BoughError hi_BoughError ht_BoughError ps_NoWay_BoughError) (is_ve (PySem.W.mg_none_of X G zVE) (kit_bi vs_NoWay) (exm_bi zVB vs_NoWay) is_nil))))))))))))))))))))) (xc_cons (xc_of (PySem.W.mg_of X G ea_NoRule) ek_NoRule e1_NoRule e2_NoRule e3_NoRule e4_NoRule e5_NoRule ex6 ex7 e8_NoRule et_NoRule eq_NoRule (is_own (PySem.W.mg_of X G ea_NoPlay) (kit_own hi_NoPlay ht_NoPlay ps_NoRule_NoPlay hr_NoPlay) (exm_own hb_NoPlay hi_NoPlay ht_NoPlay ps_NoRule_NoPlay) (is_own (PySem.W.mg_of X G ea_NoText) (kit_own hi_NoText ht_NoText ps_NoRule_NoText hr_NoText) (exm_own hb_NoText hi_NoText ht_NoText ps_NoRule_NoText) (is_own (PySem.W.mg_of X G ea_NoWay) (kit_own hi_NoWay ht_NoWay ps_NoRule_NoWay hr_NoWay) (exm_own hb_NoWay hi_NoWay ht_NoWay ps_NoRule_NoWay) (is_own (PySem.W.mg_of X G ea_NoRule) (kit_own hi_NoRule ht_NoRule ps_NoRule_NoRule hr_NoRule) (exm_own hb_NoRule hi_NoRule ht_NoRule ps_NoRule_NoRule) (is_own (PySem.W.mg_of X G ea_NoOrder) (kit_own hi_NoOrder ht_NoOrder ps_NoRule_NoOrder hr_NoOrder) (exm_own hb_NoOrder hi_NoOrder ht_NoOrder ps_NoRule_NoOrder) (is_own (PySem.W.mg_of X G ea_NoEnds) (kit_own hi_NoEnds ht_NoEnds ps_NoRule_NoEnds hr_NoEnds) (exm_own hb_NoEnds hi_NoEnds ht_NoEnds ps_NoRule_NoEnds) (is_own (PySem.W.mg_of X G ea_NoTree) (kit_own hi_NoTree ht_NoTree ps_NoRule_NoTree hr_NoTree) (exm_own hb_NoTree hi_NoTree ht_NoTree ps_NoRule_NoTree) (is_own (PySem.W.mg_of X G ea_NoWindow) (kit_own hi_NoWindow ht_NoWindow ps_NoRule_NoWindow hr_NoWindow) (exm_own hb_NoWindow hi_NoWindow ht_NoWindow ps_NoRule_NoWindow) (is_own (PySem.W.mg_of X G ea_TooMany) (kit_own hi_TooMany ht_TooMany ps_NoRule_TooMany hr_TooMany) (exm_own hb_TooMany hi_TooMany ht_TooMany ps_NoRule_TooMany) (is_own (PySem.W.mg_of X G ea_NoSize) (kit_own hi_NoSize ht_NoSize ps_NoRule_NoSize hr_NoSize) (exm_own hb_NoSize hi_NoSize ht_NoSize ps_NoRule_NoSize) (is_own (PySem.W.mg_of X G ea_NoStand) (kit_own hi_NoStand ht_NoStand ps_NoRule_NoStand hr_NoStand) (exm_own hb_NoStand hi_NoStand ht_NoStand ps_NoRule_NoStand) (is_own (PySem.W.mg_of X G ea_NoNumber) (kit_own hi_NoNumber ht_NoNumber ps_NoRule_NoNumber hr_NoNumber) (exm_own hb_NoNumber hi_NoNumber ht_NoNumber ps_NoRule_NoNumber) (is_own (PySem.W.mg_of X G ea_NoEnd) (kit_own hi_NoEnd ht_NoEnd ps_NoRule_NoEnd hr_NoEnd) (exm_own hb_NoEnd hi_NoEnd ht_NoEnd ps_NoRule_NoEnd) (is_own (PySem.W.mg_of X G ea_NoDepth) (kit_own hi_NoDepth ht_NoDepth ps_NoRule_NoDepth hr_NoDepth) (exm_own hb_NoDepth hi_NoDepth ht_NoDepth ps_NoRule_NoDepth) (is_own (PySem.W.mg_of X G ea_NoWorth) (kit_own hi_NoWorth ht_NoWorth ps_NoRule_NoWorth hr_NoWorth) (exm_own hb_NoWorth hi_NoWorth ht_NoWorth ps_NoRule_NoWorth) (is_own (PySem.W.mg_of X G ea_NoChange) (kit_own hi_NoChange ht_NoChange ps_NoRule_NoChange hr_NoChange) (exm_own hb_NoChange hi_NoChange ht_NoChange ps_NoRule_NoChange) (is_own (PySem.W.mg_of X G ea_NoRow) (kit_own hi_NoRow ht_NoRow ps_NoRule_NoRow hr_NoRow) (exm_own hb_NoRow hi_NoRow ht_NoRow ps_NoRule_NoRow) (is_own (PySem.W.mg_of X G ea_NoName) (kit_own hi_NoName ht_NoName ps_NoRule_NoName hr_NoName) (exm_own hb_NoName hi_NoName ht_NoName ps_NoRule_NoName) (is_own (PySem.W.mg_of X G ea_BoughError) (kit_own hi_BoughError ht_BoughError ps_NoRule_BoughError hr_BoughError) (exm_own hb_BoughError hi_BoughError ht_BoughError ps_NoRule_BoughError) (is_ve (PySem.W.mg_none_of X G zVE) (kit_bi vs_NoRule) (exm_bi zVB vs_NoRule) is_nil))))))))))))))))))))) (xc_cons (xc_of (PySem.W.mg_of X G ea_NoOrder) ek_NoOrder e1_NoOrder e2_NoOrder e3_NoOrder e4_NoOrder e5_NoOrder ex6 ex7 e8_NoOrder et_NoOrder eq_NoOrder (is_own (PySem.W.mg_of X G ea_NoPlay) (kit_own hi_NoPlay ht_NoPlay ps_NoOrder_NoPlay hr_NoPlay) (exm_own hb_NoPlay hi_NoPlay ht_NoPlay ps_NoOrder_NoPlay) (is_own (PySem.W.mg_of X G ea_NoText) (kit_own hi_NoText ht_NoText ps_NoOrder_NoText hr_NoText) (exm_own hb_NoText hi_NoText ht_NoText ps_NoOrder_NoText) (is_own (PySem.W.mg_of X G ea_NoWay) (kit_own hi_NoWay ht_NoWay ps_NoOrder_NoWay hr_NoWay) (exm_own hb_NoWay hi_NoWay ht_NoWay ps_NoOrder_NoWay) (is_own (PySem.W.mg_of X G ea_NoRule) (kit_own hi_NoRule ht_NoRule ps_NoOrder_NoRule hr_NoRule) (exm_own hb_NoRule hi_NoRule ht_NoRule ps_NoOrder_NoRule) (is_own (PySem.W.mg_of X G ea_NoOrder) (kit_own hi_NoOrder ht_NoOrder ps_NoOrder_NoOrder hr_NoOrder) (exm_own hb_NoOrder hi_NoOrder ht_NoOrder ps_NoOrder_NoOrder) (is_own (PySem.W.mg_of X G ea_NoEnds) (kit_own hi_NoEnds ht_NoEnds ps_NoOrder_NoEnds hr_NoEnds) (exm_own hb_NoEnds hi_NoEnds ht_NoEnds ps_NoOrder_NoEnds) (is_own (PySem.W.mg_of X G ea_NoTree) (kit_own hi_NoTree ht_NoTree ps_NoOrder_NoTree hr_NoTree) (exm_own hb_NoTree hi_NoTree ht_NoTree ps_NoOrder_NoTree) (is_own (PySem.W.mg_of X G ea_NoWindow) (kit_own hi_NoWindow ht_NoWindow ps_NoOrder_NoWindow hr_NoWindow) (exm_own hb_NoWindow hi_NoWindow ht_NoWindow ps_NoOrder_NoWindow) (is_own (PySem.W.mg_of X G ea_TooMany) (kit_own hi_TooMany ht_TooMany ps_NoOrder_TooMany hr_TooMany) (exm_own hb_TooMany hi_TooMany ht_TooMany ps_NoOrder_TooMany) (is_own (PySem.W.mg_of X G ea_NoSize) (kit_own hi_NoSize ht_NoSize ps_NoOrder_NoSize hr_NoSize) (exm_own hb_NoSize hi_NoSize ht_NoSize ps_NoOrder_NoSize) (is_own (PySem.W.mg_of X G ea_NoStand) (kit_own hi_NoStand ht_NoStand ps_NoOrder_NoStand hr_NoStand) (exm_own hb_NoStand hi_NoStand ht_NoStand ps_NoOrder_NoStand) (is_own (PySem.W.mg_of X G ea_NoNumber) (kit_own hi_NoNumber ht_NoNumber ps_NoOrder_NoNumber hr_NoNumber) (exm_own hb_NoNumber hi_NoNumber ht_NoNumber ps_NoOrder_NoNumber) (is_own (PySem.W.mg_of X G ea_NoEnd) (kit_own hi_NoEnd ht_NoEnd ps_NoOrder_NoEnd hr_NoEnd) (exm_own hb_NoEnd hi_NoEnd ht_NoEnd ps_NoOrder_NoEnd) (is_own (PySem.W.mg_of X G ea_NoDepth) (kit_own hi_NoDepth ht_NoDepth ps_NoOrder_NoDepth hr_NoDepth) (exm_own hb_NoDepth hi_NoDepth ht_NoDepth ps_NoOrder_NoDepth) (is_own (PySem.W.mg_of X G ea_NoWorth) (kit_own hi_NoWorth ht_NoWorth ps_NoOrder_NoWorth hr_NoWorth) (exm_own hb_NoWorth hi_NoWorth ht_NoWorth ps_NoOrder_NoWorth) (is_own (PySem.W.mg_of X G ea_NoChange) (kit_own hi_NoChange ht_NoChange ps_NoOrder_NoChange hr_NoChange) (exm_own hb_NoChange hi_NoChange ht_NoChange ps_NoOrder_NoChange) (is_own (PySem.W.mg_of X G ea_NoRow) (kit_own hi_NoRow ht_NoRow ps_NoOrder_NoRow hr_NoRow) (exm_own hb_NoRow hi_NoRow ht_NoRow ps_NoOrder_NoRow) (is_own (PySem.W.mg_of X G ea_NoName) (kit_own hi_NoName ht_NoName ps_NoOrder_NoName hr_NoName) (exm_own hb_NoName hi_NoName ht_NoName ps_NoOrder_NoName) (is_own (PySem.W.mg_of X G ea_BoughError) (kit_own hi_BoughError ht_BoughError ps_NoOrder_BoughError hr_BoughError) (exm_own hb_BoughError hi_BoughError ht_BoughError ps_NoOrder_BoughError) (is_ve (PySem.W.mg_none_of X G zVE) (kit_bi vs_NoOrder) (exm_bi zVB vs_NoOrder) is_nil))))))))))))))))))))) (xc_cons (xc_of (PySem.W.mg_of X G ea_NoEnds) ek_NoEnds e1_NoEnds e2_NoEnds e3_NoEnds e4_NoEnds e5_NoEnds ex6 ex7 e8_NoEnds et_NoEnds eq_NoEnds (is_own (PySem.W.mg_of X G ea_NoPlay) (kit_own hi_NoPlay ht_NoPlay ps_NoEnds_NoPlay hr_NoPlay) (exm_own hb_NoPlay hi_NoPlay ht_NoPlay ps_NoEnds_NoPlay) (is_own (PySem.W.mg_of X G ea_NoText) (kit_own hi_NoText ht_NoText ps_NoEnds_NoText hr_NoText) (exm_own hb_NoText hi_NoText ht_NoText ps_NoEnds_NoText) (is_own (PySem.W.mg_of X G ea_NoWay) (kit_own hi_NoWay ht_NoWay ps_NoEnds_NoWay hr_NoWay) (exm_own hb_NoWay hi_NoWay ht_NoWay ps_NoEnds_NoWay) (is_own (PySem.W.mg_of X G ea_NoRule) (kit_own hi_NoRule ht_NoRule ps_NoEnds_NoRule hr_NoRule) (exm_own hb_NoRule hi_NoRule ht_NoRule ps_NoEnds_NoRule) (is_own (PySem.W.mg_of X G ea_NoOrder) (kit_own hi_NoOrder ht_NoOrder ps_NoEnds_NoOrder hr_NoOrder) (exm_own hb_NoOrder hi_NoOrder ht_NoOrder ps_NoEnds_NoOrder) (is_own (PySem.W.mg_of X G ea_NoEnds) (kit_own hi_NoEnds ht_NoEnds ps_NoEnds_NoEnds hr_NoEnds) (exm_own hb_NoEnds hi_NoEnds ht_NoEnds ps_NoEnds_NoEnds) (is_own (PySem.W.mg_of X G ea_NoTree) (kit_own hi_NoTree ht_NoTree ps_NoEnds_NoTree hr_NoTree) (exm_own hb_NoTree hi_NoTree ht_NoTree ps_NoEnds_NoTree) (is_own (PySem.W.mg_of X G ea_NoWindow) (kit_own hi_NoWindow ht_NoWindow ps_NoEnds_NoWindow hr_NoWindow) (exm_own hb_NoWindow hi_NoWindow ht_NoWindow ps_NoEnds_NoWindow) (is_own (PySem.W.mg_of X G ea_TooMany) (kit_own hi_TooMany ht_TooMany ps_NoEnds_TooMany hr_TooMany) (exm_own hb_TooMany hi_TooMany ht_TooMany ps_NoEnds_TooMany) (is_own (PySem.W.mg_of X G ea_NoSize) (kit_own hi_NoSize ht_NoSize ps_NoEnds_NoSize hr_NoSize) (exm_own hb_NoSize hi_NoSize ht_NoSize ps_NoEnds_NoSize) (is_own (PySem.W.mg_of X G ea_NoStand) (kit_own hi_NoStand ht_NoStand ps_NoEnds_NoStand hr_NoStand) (exm_own hb_NoStand hi_NoStand ht_NoStand ps_NoEnds_NoStand) (is_own (PySem.W.mg_of X G ea_NoNumber) (kit_own hi_NoNumber ht_NoNumber ps_NoEnds_NoNumber hr_NoNumber) (exm_own hb_NoNumber hi_NoNumber ht_NoNumber ps_NoEnds_NoNumber) (is_own (PySem.W.mg_of X G ea_NoEnd) (kit_own hi_NoEnd ht_NoEnd ps_NoEnds_NoEnd hr_NoEnd) (exm_own hb_NoEnd hi_NoEnd ht_NoEnd ps_NoEnds_NoEnd) (is_own (PySem.W.mg_of X G ea_NoDepth) (kit_own hi_NoDepth ht_NoDepth ps_NoEnds_NoDepth hr_NoDepth) (exm_own hb_NoDepth hi_NoDepth ht_NoDepth ps_NoEnds_NoDepth) (is_own (PySem.W.mg_of X G ea_NoWorth) (kit_own hi_NoWorth ht_NoWorth ps_NoEnds_NoWorth hr_NoWorth) (exm_own hb_NoWorth hi_NoWorth ht_NoWorth ps_NoEnds_NoWorth) (is_own (PySem.W.mg_of X G ea_NoChange) (kit_own hi_NoChange ht_NoChange ps_NoEnds_NoChange hr_NoChange) (exm_own hb_NoChange hi_NoChange ht_NoChange ps_NoEnds_NoChange) (is_own (PySem.W.mg_of X G ea_NoRow) (kit_own hi_NoRow ht_NoRow ps_NoEnds_NoRow hr_NoRow) (exm_own hb_NoRow hi_NoRow ht_NoRow ps_NoEnds_NoRow) (is_own (PySem.W.mg_of X G ea_NoName) (kit_own hi_NoName ht_NoName ps_NoEnds_NoName hr_NoName) (exm_own hb_NoName hi_NoName ht_NoName ps_NoEnds_NoName) (is_own (PySem.W.mg_of X G ea_BoughError) (kit_own hi_BoughError ht_BoughError ps_NoEnds_BoughError hr_BoughError) (exm_own hb_BoughError hi_BoughError ht_BoughError ps_NoEnds_BoughError) (is_ve (PySem.W.mg_none_of X G zVE) (kit_bi vs_NoEnds) (exm_bi zVB vs_NoEnds) is_nil))))))))))))))))))))) (xc_cons (xc_of (PySem.W.mg_of X G ea_NoTree) ek_NoTree e1_NoTree e2_NoTree e3_NoTree e4_NoTree e5_NoTree ex6 ex7 e8_NoTree et_NoTree eq_NoTree (is_own (PySem.W.mg_of X G ea_NoPlay) (kit_own hi_NoPlay ht_NoPlay ps_NoTree_NoPlay hr_NoPlay) (exm_own hb_NoPlay hi_NoPlay ht_NoPlay ps_NoTree_NoPlay) (is_own (PySem.W.mg_of X G ea_NoText) (kit_own hi_NoText ht_NoText ps_NoTree_NoText hr_NoText) (exm_own hb_NoText hi_NoText ht_NoText ps_NoTree_NoText) (is_own (PySem.W.mg_of X G ea_NoWay) (kit_own hi_NoWay ht_NoWay ps_NoTree_NoWay hr_NoWay) (exm_own hb_NoWay hi_NoWay ht_NoWay ps_NoTree_NoWay) (is_own (PySem.W.mg_of X G ea_NoRule) (kit_own hi_NoRule ht_NoRule ps_NoTree_NoRule hr_NoRule) (exm_own hb_NoRule hi_NoRule ht_NoRule ps_NoTree_NoRule) (is_own (PySem.W.mg_of X G ea_NoOrder) (kit_own hi_NoOrder ht_NoOrder ps_NoTree_NoOrder hr_NoOrder) (exm_own hb_NoOrder hi_NoOrder ht_NoOrder ps_NoTree_NoOrder) (is_own (PySem.W.mg_of X G ea_NoEnds) (kit_own hi_NoEnds ht_NoEnds ps_NoTree_NoEnds hr_NoEnds) (exm_own hb_NoEnds hi_NoEnds ht_NoEnds ps_NoTree_NoEnds) (is_own (PySem.W.mg_of X G ea_NoTree) (kit_own hi_NoTree ht_NoTree ps_NoTree_NoTree hr_NoTree) (exm_own hb_NoTree hi_NoTree ht_NoTree ps_NoTree_NoTree) (is_own (PySem.W.mg_of X G ea_NoWindow) (kit_own hi_NoWindow ht_NoWindow ps_NoTree_NoWindow hr_NoWindow) (exm_own hb_NoWindow hi_NoWindow ht_NoWindow ps_NoTree_NoWindow) (is_own (PySem.W.mg_of X G ea_TooMany) (kit_own hi_TooMany ht_TooMany ps_NoTree_TooMany hr_TooMany) (exm_own hb_TooMany hi_TooMany ht_TooMany ps_NoTree_TooMany) (is_own (PySem.W.mg_of X G ea_NoSize) (kit_own hi_NoSize ht_NoSize ps_NoTree_NoSize hr_NoSize) (exm_own hb_NoSize hi_NoSize ht_NoSize ps_NoTree_NoSize) (is_own (PySem.W.mg_of X G ea_NoStand) (kit_own hi_NoStand ht_NoStand ps_NoTree_NoStand hr_NoStand) (exm_own hb_NoStand hi_NoStand ht_NoStand ps_NoTree_NoStand) (is_own (PySem.W.mg_of X G ea_NoNumber) (kit_own hi_NoNumber ht_NoNumber ps_NoTree_NoNumber hr_NoNumber) (exm_own hb_NoNumber hi_NoNumber ht_NoNumber ps_NoTree_NoNumber) (is_own (PySem.W.mg_of X G ea_NoEnd) (kit_own hi_NoEnd ht_NoEnd ps_NoTree_NoEnd hr_NoEnd) (exm_own hb_NoEnd hi_NoEnd ht_NoEnd ps_NoTree_NoEnd) (is_own (PySem.W.mg_of X G ea_NoDepth) (kit_own hi_NoDepth ht_NoDepth ps_NoTree_NoDepth hr_NoDepth) (exm_own hb_NoDepth hi_NoDepth ht_NoDepth ps_NoTree_NoDepth) (is_own (PySem.W.mg_of X G ea_NoWorth) (kit_own hi_NoWorth ht_NoWorth ps_NoTree_NoWorth hr_NoWorth) (exm_own hb_NoWorth hi_NoWorth ht_NoWorth ps_NoTree_NoWorth) (is_own (PySem.W.mg_of X G ea_NoChange) (kit_own hi_NoChange ht_NoChange ps_NoTree_NoChange hr_NoChange) (exm_own hb_NoChange hi_NoChange ht_NoChange ps_NoTree_NoChange) (is_own (PySem.W.mg_of X G ea_NoRow) (kit_own hi_NoRow ht_NoRow ps_NoTree_NoRow hr_NoRow) (exm_own hb_NoRow hi_NoRow ht_NoRow ps_NoTree_NoRow) (is_own (PySem.W.mg_of X G ea_NoName) (kit_own hi_NoName ht_NoName ps_NoTree_NoName hr_NoName) (exm_own hb_NoName hi_NoName ht_NoName ps_NoTree_NoName) (is_own (PySem.W.mg_of X G ea_BoughError) (kit_own hi_BoughError ht_BoughError ps_NoTree_BoughError hr_BoughError) (exm_own hb_BoughError hi_BoughError ht_BoughError ps_NoTree_BoughError) (is_ve (PySem.W.mg_none_of X G zVE) (kit_bi vs_NoTree) (exm_bi zVB vs_NoTree) is_nil))))))))))))))))))))) (xc_cons (xc_of (PySem.W.mg_of X G ea_NoWindow) ek_NoWindow e1_NoWindow e2_NoWindow e3_NoWindow e4_NoWindow e5_NoWindow ex6 ex7 e8_NoWindow et_NoWindow eq_NoWindow (is_own (PySem.W.mg_of X G ea_NoPlay) (kit_own hi_NoPlay ht_NoPlay ps_NoWindow_NoPlay hr_NoPlay) (exm_own hb_NoPlay hi_NoPlay ht_NoPlay ps_NoWindow_NoPlay) (is_own (PySem.W.mg_of X G ea_NoText) (kit_own hi_NoText ht_NoText ps_NoWindow_NoText hr_NoText) (exm_own hb_NoText hi_NoText ht_NoText ps_NoWindow_NoText) (is_own (PySem.W.mg_of X G ea_NoWay) (kit_own hi_NoWay ht_NoWay ps_NoWindow_NoWay hr_NoWay) (exm_own hb_NoWay hi_NoWay ht_NoWay ps_NoWindow_NoWay) (is_own (PySem.W.mg_of X G ea_NoRule) (kit_own hi_NoRule ht_NoRule ps_NoWindow_NoRule hr_NoRule) (exm_own hb_NoRule hi_NoRule ht_NoRule ps_NoWindow_NoRule) (is_own (PySem.W.mg_of X G ea_NoOrder) (kit_own hi_NoOrder ht_NoOrder ps_NoWindow_NoOrder hr_NoOrder) (exm_own hb_NoOrder hi_NoOrder ht_NoOrder ps_NoWindow_NoOrder) (is_own (PySem.W.mg_of X G ea_NoEnds) (kit_own hi_NoEnds ht_NoEnds ps_NoWindow_NoEnds hr_NoEnds) (exm_own hb_NoEnds hi_NoEnds ht_NoEnds ps_NoWindow_NoEnds) (is_own (PySem.W.mg_of X G ea_NoTree) (kit_own hi_NoTree ht_NoTree ps_NoWindow_NoTree hr_NoTree) (exm_own hb_NoTree hi_NoTree ht_NoTree ps_NoWindow_NoTree) (is_own (PySem.W.mg_of X G ea_NoWindow) (kit_own hi_NoWindow ht_NoWindow ps_NoWindow_NoWindow hr_NoWindow) (exm_own hb_NoWindow hi_NoWindow ht_NoWindow ps_NoWindow_NoWindow) (is_own (PySem.W.mg_of X G ea_TooMany) (kit_own hi_TooMany ht_TooMany ps_NoWindow_TooMany hr_TooMany) (exm_own hb_TooMany hi_TooMany ht_TooMany ps_NoWindow_TooMany) (is_own (PySem.W.mg_of X G ea_NoSize) (kit_own hi_NoSize ht_NoSize ps_NoWindow_NoSize hr_NoSize) (exm_own hb_NoSize hi_NoSize ht_NoSize ps_NoWindow_NoSize) (is_own (PySem.W.mg_of X G ea_NoStand) (kit_own hi_NoStand ht_NoStand ps_NoWindow_NoStand hr_NoStand) (exm_own hb_NoStand hi_NoStand ht_NoStand ps_NoWindow_NoStand) (is_own (PySem.W.mg_of X G ea_NoNumber) (kit_own hi_NoNumber ht_NoNumber ps_NoWindow_NoNumber hr_NoNumber) (exm_own hb_NoNumber hi_NoNumber ht_NoNumber ps_NoWindow_NoNumber) (is_own (PySem.W.mg_of X G ea_NoEnd) (kit_own hi_NoEnd ht_NoEnd ps_NoWindow_NoEnd hr_NoEnd) (exm_own hb_NoEnd hi_NoEnd ht_NoEnd ps_NoWindow_NoEnd) (is_own (PySem.W.mg_of X G ea_NoDepth) (kit_own hi_NoDepth ht_NoDepth ps_NoWindow_NoDepth hr_NoDepth) (exm_own hb_NoDepth hi_NoDepth ht_NoDepth ps_NoWindow_NoDepth) (is_own (PySem.W.mg_of X G ea_NoWorth) (kit_own hi_NoWorth ht_NoWorth ps_NoWindow_NoWorth hr_NoWorth) (exm_own hb_NoWorth hi_NoWorth ht_NoWorth ps_NoWindow_NoWorth) (is_own (PySem.W.mg_of X G ea_NoChange) (kit_own hi_NoChange ht_NoChange ps_NoWindow_NoChange hr_NoChange) (exm_own hb_NoChange hi_NoChange ht_NoChange ps_NoWindow_NoChange) (is_own (PySem.W.mg_of X G ea_NoRow) (kit_own hi_NoRow ht_NoRow ps_NoWindow_NoRow hr_NoRow) (exm_own hb_NoRow hi_NoRow ht_NoRow ps_NoWindow_NoRow) (is_own (PySem.W.mg_of X G ea_NoName) (kit_own hi_NoName ht_NoName ps_NoWindow_NoName hr_NoName) (exm_own hb_NoName hi_NoName ht_NoName ps_NoWindow_NoName) (is_own (PySem.W.mg_of X G ea_BoughError) (kit_own hi_BoughError ht_BoughError ps_NoWindow_BoughError hr_BoughError) (exm_own hb_BoughError hi_BoughError ht_BoughError ps_NoWindow_BoughError) (is_ve (PySem.W.mg_none_of X G zVE) (kit_bi vs_NoWindow) (exm_bi zVB vs_NoWindow) is_nil))))))))))))))))))))) (xc_cons (xc_of (PySem.W.mg_of X G ea_TooMany) ek_TooMany e1_TooMany e2_TooMany e3_TooMany e4_TooMany e5_TooMany ex6 ex7 e8_TooMany et_TooMany eq_TooMany (is_own (PySem.W.mg_of X G ea_NoPlay) (kit_own hi_NoPlay ht_NoPlay ps_TooMany_NoPlay hr_NoPlay) (exm_own hb_NoPlay hi_NoPlay ht_NoPlay ps_TooMany_NoPlay) (is_own (PySem.W.mg_of X G ea_NoText) (kit_own hi_NoText ht_NoText ps_TooMany_NoText hr_NoText) (exm_own hb_NoText hi_NoText ht_NoText ps_TooMany_NoText) (is_own (PySem.W.mg_of X G ea_NoWay) (kit_own hi_NoWay ht_NoWay ps_TooMany_NoWay hr_NoWay) (exm_own hb_NoWay hi_NoWay ht_NoWay ps_TooMany_NoWay) (is_own (PySem.W.mg_of X G ea_NoRule) (kit_own hi_NoRule ht_NoRule ps_TooMany_NoRule hr_NoRule) (exm_own hb_NoRule hi_NoRule ht_NoRule ps_TooMany_NoRule) (is_own (PySem.W.mg_of X G ea_NoOrder) (kit_own hi_NoOrder ht_NoOrder ps_TooMany_NoOrder hr_NoOrder) (exm_own hb_NoOrder hi_NoOrder ht_NoOrder ps_TooMany_NoOrder) (is_own (PySem.W.mg_of X G ea_NoEnds) (kit_own hi_NoEnds ht_NoEnds ps_TooMany_NoEnds hr_NoEnds) (exm_own hb_NoEnds hi_NoEnds ht_NoEnds ps_TooMany_NoEnds) (is_own (PySem.W.mg_of X G ea_NoTree) (kit_own hi_NoTree ht_NoTree ps_TooMany_NoTree hr_NoTree) (exm_own hb_NoTree hi_NoTree ht_NoTree ps_TooMany_NoTree) (is_own (PySem.W.mg_of X G ea_NoWindow) (kit_own hi_NoWindow ht_NoWindow ps_TooMany_NoWindow hr_NoWindow) (exm_own hb_NoWindow hi_NoWindow ht_NoWindow ps_TooMany_NoWindow) (is_own (PySem.W.mg_of X G ea_TooMany) (kit_own hi_TooMany ht_TooMany ps_TooMany_TooMany hr_TooMany) (exm_own hb_TooMany hi_TooMany ht_TooMany ps_TooMany_TooMany) (is_own (PySem.W.mg_of X G ea_NoSize) (kit_own hi_NoSize ht_NoSize ps_TooMany_NoSize hr_NoSize) (exm_own hb_NoSize hi_NoSize ht_NoSize ps_TooMany_NoSize) (is_own (PySem.W.mg_of X G ea_NoStand) (kit_own hi_NoStand ht_NoStand ps_TooMany_NoStand hr_NoStand) (exm_own hb_NoStand hi_NoStand ht_NoStand ps_TooMany_NoStand) (is_own (PySem.W.mg_of X G ea_NoNumber) (kit_own hi_NoNumber ht_NoNumber ps_TooMany_NoNumber hr_NoNumber) (exm_own hb_NoNumber hi_NoNumber ht_NoNumber ps_TooMany_NoNumber) (is_own (PySem.W.mg_of X G ea_NoEnd) (kit_own hi_NoEnd ht_NoEnd ps_TooMany_NoEnd hr_NoEnd) (exm_own hb_NoEnd hi_NoEnd ht_NoEnd ps_TooMany_NoEnd) (is_own (PySem.W.mg_of X G ea_NoDepth) (kit_own hi_NoDepth ht_NoDepth ps_TooMany_NoDepth hr_NoDepth) (exm_own hb_NoDepth hi_NoDepth ht_NoDepth ps_TooMany_NoDepth) (is_own (PySem.W.mg_of X G ea_NoWorth) (kit_own hi_NoWorth ht_NoWorth ps_TooMany_NoWorth hr_NoWorth) (exm_own hb_NoWorth hi_NoWorth ht_NoWorth ps_TooMany_NoWorth) (is_own (PySem.W.mg_of X G ea_NoChange) (kit_own hi_NoChange ht_NoChange ps_TooMany_NoChange hr_NoChange) (exm_own hb_NoChange hi_NoChange ht_NoChange ps_TooMany_NoChange) (is_own (PySem.W.mg_of X G ea_NoRow) (kit_own hi_NoRow ht_NoRow ps_TooMany_NoRow hr_NoRow) (exm_own hb_NoRow hi_NoRow ht_NoRow ps_TooMany_NoRow) (is_own (PySem.W.mg_of X G ea_NoName) (kit_own hi_NoName ht_NoName ps_TooMany_NoName hr_NoName) (exm_own hb_NoName hi_NoName ht_NoName ps_TooMany_NoName) (is_own (PySem.W.mg_of X G ea_BoughError) (kit_own hi_BoughError ht_BoughError ps_TooMany_BoughError hr_BoughError) (exm_own hb_BoughError hi_BoughError ht_BoughError ps_TooMany_BoughError) (is_ve (PySem.W.mg_none_of X G zVE) (kit_bi vs_TooMany) (exm_bi zVB vs_TooMany) is_nil))))))))))))))))))))) (xc_cons (xc_of (PySem.W.mg_of X G ea_NoSize) ek_NoSize e1_NoSize e2_NoSize e3_NoSize e4_NoSize e5_NoSize ex6 ex7 e8_NoSize et_NoSize eq_NoSize (is_own (PySem.W.mg_of X G ea_NoPlay) (kit_own hi_NoPlay ht_NoPlay ps_NoSize_NoPlay hr_NoPlay) (exm_own hb_NoPlay hi_NoPlay ht_NoPlay ps_NoSize_NoPlay) (is_own (PySem.W.mg_of X G ea_NoText) (kit_own hi_NoText ht_NoText ps_NoSize_NoText hr_NoText) (exm_own hb_NoText hi_NoText ht_NoText ps_NoSize_NoText) (is_own (PySem.W.mg_of X G ea_NoWay) (kit_own hi_NoWay ht_NoWay ps_NoSize_NoWay hr_NoWay) (exm_own hb_NoWay hi_NoWay ht_NoWay ps_NoSize_NoWay) (is_own (PySem.W.mg_of X G ea_NoRule) (kit_own hi_NoRule ht_NoRule ps_NoSize_NoRule hr_NoRule) (exm_own hb_NoRule hi_NoRule ht_NoRule ps_NoSize_NoRule) (is_own (PySem.W.mg_of X G ea_NoOrder) (kit_own hi_NoOrder ht_NoOrder ps_NoSize_NoOrder hr_NoOrder) (exm_own hb_NoOrder hi_NoOrder ht_NoOrder ps_NoSize_NoOrder) (is_own (PySem.W.mg_of X G ea_NoEnds) (kit_own hi_NoEnds ht_NoEnds ps_NoSize_NoEnds hr_NoEnds) (exm_own hb_NoEnds hi_NoEnds ht_NoEnds ps_NoSize_NoEnds) (is_own (PySem.W.mg_of X G ea_NoTree) (kit_own hi_NoTree ht_NoTree ps_NoSize_NoTree hr_NoTree) (exm_own hb_NoTree hi_NoTree ht_NoTree ps_NoSize_NoTree) (is_own (PySem.W.mg_of X G ea_NoWindow) (kit_own hi_NoWindow ht_NoWindow ps_NoSize_NoWindow hr_NoWindow) (exm_own hb_NoWindow hi_NoWindow ht_NoWindow ps_NoSize_NoWindow) (is_own (PySem.W.mg_of X G ea_TooMany) (kit_own hi_TooMany ht_TooMany ps_NoSize_TooMany hr_TooMany) (exm_own hb_TooMany hi_TooMany ht_TooMany ps_NoSize_TooMany) (is_own (PySem.W.mg_of X G ea_NoSize) (kit_own hi_NoSize ht_NoSize ps_NoSize_NoSize hr_NoSize) (exm_own hb_NoSize hi_NoSize ht_NoSize ps_NoSize_NoSize) (is_own (PySem.W.mg_of X G ea_NoStand) (kit_own hi_NoStand ht_NoStand ps_NoSize_NoStand hr_NoStand) (exm_own hb_NoStand hi_NoStand ht_NoStand ps_NoSize_NoStand) (is_own (PySem.W.mg_of X G ea_NoNumber) (kit_own hi_NoNumber ht_NoNumber ps_NoSize_NoNumber hr_NoNumber) (exm_own hb_NoNumber hi_NoNumber ht_NoNumber ps_NoSize_NoNumber) (is_own (PySem.W.mg_of X G ea_NoEnd) (kit_own hi_NoEnd ht_NoEnd ps_NoSize_NoEnd hr_NoEnd) (exm_own hb_NoEnd hi_NoEnd ht_NoEnd ps_NoSize_NoEnd) (is_own (PySem.W.mg_of X G ea_NoDepth) (kit_own hi_NoDepth ht_NoDepth ps_NoSize_NoDepth hr_NoDepth) (exm_own hb_NoDepth hi_NoDepth ht_NoDepth ps_NoSize_NoDepth) (is_own (PySem.W.mg_of X G ea_NoWorth) (kit_own hi_NoWorth ht_NoWorth ps_NoSize_NoWorth hr_NoWorth) (exm_own hb_NoWorth hi_NoWorth ht_NoWorth ps_NoSize_NoWorth) (is_own (PySem.W.mg_of X G ea_NoChange) (kit_own hi_NoChange ht_NoChange ps_NoSize_NoChange hr_NoChange) (exm_own hb_NoChange hi_NoChange ht_NoChange ps_NoSize_NoChange) (is_own (PySem.W.mg_of X G ea_NoRow) (kit_own hi_NoRow ht_NoRow ps_NoSize_NoRow hr_NoRow) (exm_own hb_NoRow hi_NoRow ht_NoRow ps_NoSize_NoRow) (is_own (PySem.W.mg_of X G ea_NoName) (kit_own hi_NoName ht_NoName ps_NoSize_NoName hr_NoName) (exm_own hb_NoName hi_NoName ht_NoName ps_NoSize_NoName) (is_own (PySem.W.mg_of X G ea_BoughError) (kit_own hi_BoughError ht_BoughError ps_NoSize_BoughError hr_BoughError) (exm_own hb_BoughError hi_BoughError ht_BoughError ps_NoSize_BoughError) (is_ve (PySem.W.mg_none_of X G zVE) (kit_bi vs_NoSize) (exm_bi zVB vs_NoSize) is_nil))))))))))))))))))))) (xc_cons (xc_of (PySem.W.mg_of X G ea_NoStand) ek_NoStand e1_NoStand e2_NoStand e3_NoStand e4_NoStand e5_NoStand ex6 ex7 e8_NoStand et_NoStand eq_NoStand (is_own (PySem.W.mg_of X G ea_NoPlay) (kit_own hi_NoPlay ht_NoPlay ps_NoStand_NoPlay hr_NoPlay) (exm_own hb_NoPlay hi_NoPlay ht_NoPlay ps_NoStand_NoPlay) (is_own (PySem.W.mg_of X G ea_NoText) (kit_own hi_NoText ht_NoText ps_NoStand_NoText hr_NoText) (exm_own hb_NoText hi_NoText ht_NoText ps_NoStand_NoText) (is_own (PySem.W.mg_of X G ea_NoWay) (kit_own hi_NoWay ht_NoWay ps_NoStand_NoWay hr_NoWay) (exm_own hb_NoWay hi_NoWay ht_NoWay ps_NoStand_NoWay) (is_own (PySem.W.mg_of X G ea_NoRule) (kit_own hi_NoRule ht_NoRule ps_NoStand_NoRule hr_NoRule) (exm_own hb_NoRule hi_NoRule ht_NoRule ps_NoStand_NoRule) (is_own (PySem.W.mg_of X G ea_NoOrder) (kit_own hi_NoOrder ht_NoOrder ps_NoStand_NoOrder hr_NoOrder) (exm_own hb_NoOrder hi_NoOrder ht_NoOrder ps_NoStand_NoOrder) (is_own (PySem.W.mg_of X G ea_NoEnds) (kit_own hi_NoEnds ht_NoEnds ps_NoStand_NoEnds hr_NoEnds) (exm_own hb_NoEnds hi_NoEnds ht_NoEnds ps_NoStand_NoEnds) (is_own (PySem.W.mg_of X G ea_NoTree) (kit_own hi_NoTree ht_NoTree ps_NoStand_NoTree hr_NoTree) (exm_own hb_NoTree hi_NoTree ht_NoTree ps_NoStand_NoTree) (is_own (PySem.W.mg_of X G ea_NoWindow) (kit_own hi_NoWindow ht_NoWindow ps_NoStand_NoWindow hr_NoWindow) (exm_own hb_NoWindow hi_NoWindow ht_NoWindow ps_NoStand_NoWindow) (is_own (PySem.W.mg_of X G ea_TooMany) (kit_own hi_TooMany ht_TooMany ps_NoStand_TooMany hr_TooMany) (exm_own hb_TooMany hi_TooMany ht_TooMany ps_NoStand_TooMany) (is_own (PySem.W.mg_of X G ea_NoSize) (kit_own hi_NoSize ht_NoSize ps_NoStand_NoSize hr_NoSize) (exm_own hb_NoSize hi_NoSize ht_NoSize ps_NoStand_NoSize) (is_own (PySem.W.mg_of X G ea_NoStand) (kit_own hi_NoStand ht_NoStand ps_NoStand_NoStand hr_NoStand) (exm_own hb_NoStand hi_NoStand ht_NoStand ps_NoStand_NoStand) (is_own (PySem.W.mg_of X G ea_NoNumber) (kit_own hi_NoNumber ht_NoNumber ps_NoStand_NoNumber hr_NoNumber) (exm_own hb_NoNumber hi_NoNumber ht_NoNumber ps_NoStand_NoNumber) (is_own (PySem.W.mg_of X G ea_NoEnd) (kit_own hi_NoEnd ht_NoEnd ps_NoStand_NoEnd hr_NoEnd) (exm_own hb_NoEnd hi_NoEnd ht_NoEnd ps_NoStand_NoEnd) (is_own (PySem.W.mg_of X G ea_NoDepth) (kit_own hi_NoDepth ht_NoDepth ps_NoStand_NoDepth hr_NoDepth) (exm_own hb_NoDepth hi_NoDepth ht_NoDepth ps_NoStand_NoDepth) (is_own (PySem.W.mg_of X G ea_NoWorth) (kit_own hi_NoWorth ht_NoWorth ps_NoStand_NoWorth hr_NoWorth) (exm_own hb_NoWorth hi_NoWorth ht_NoWorth ps_NoStand_NoWorth) (is_own (PySem.W.mg_of X G ea_NoChange) (kit_own hi_NoChange ht_NoChange ps_NoStand_NoChange hr_NoChange) (exm_own hb_NoChange hi_NoChange ht_NoChange ps_NoStand_NoChange) (is_own (PySem.W.mg_of X G ea_NoRow) (kit_own hi_NoRow ht_NoRow ps_NoStand_NoRow hr_NoRow) (exm_own hb_NoRow hi_NoRow ht_NoRow ps_NoStand_NoRow) (is_own (PySem.W.mg_of X G ea_NoName) (kit_own hi_NoName ht_NoName ps_NoStand_NoName hr_NoName) (exm_own hb_NoName hi_NoName ht_NoName ps_NoStand_NoName) (is_own (PySem.W.mg_of X G ea_BoughError) (kit_own hi_BoughError ht_BoughError ps_NoStand_BoughError hr_BoughError) (exm_own hb_BoughError hi_BoughError ht_BoughError ps_NoStand_BoughError) (is_ve (PySem.W.mg_none_of X G zVE) (kit_bi vs_NoStand) (exm_bi zVB vs_NoStand) is_nil))))))))))))))))))))) (xc_cons (xc_of (PySem.W.mg_of X G ea_NoNumber) ek_NoNumber e1_NoNumber e2_NoNumber e3_NoNumber e4_NoNumber e5_NoNumber ex6 ex7 e8_NoNumber et_NoNumber eq_NoNumber (is_own (PySem.W.mg_of X G ea_NoPlay) (kit_own hi_NoPlay ht_NoPlay ps_NoNumber_NoPlay hr_NoPlay) (exm_own hb_NoPlay hi_NoPlay ht_NoPlay ps_NoNumber_NoPlay) (is_own (PySem.W.mg_of X G ea_NoText) (kit_own hi_NoText ht_NoText ps_NoNumber_NoText hr_NoText) (exm_own hb_NoText hi_NoText ht_NoText ps_NoNumber_NoText) (is_own (PySem.W.mg_of X G ea_NoWay) (kit_own hi_NoWay ht_NoWay ps_NoNumber_NoWay hr_NoWay) (exm_own hb_NoWay hi_NoWay ht_NoWay ps_NoNumber_NoWay) (is_own (PySem.W.mg_of X G ea_NoRule) (kit_own hi_NoRule ht_NoRule ps_NoNumber_NoRule hr_NoRule) (exm_own hb_NoRule hi_NoRule ht_NoRule ps_NoNumber_NoRule) (is_own (PySem.W.mg_of X G ea_NoOrder) (kit_own hi_NoOrder ht_NoOrder ps_NoNumber_NoOrder hr_NoOrder) (exm_own hb_NoOrder hi_NoOrder ht_NoOrder ps_NoNumber_NoOrder) (is_own (PySem.W.mg_of X G ea_NoEnds) (kit_own hi_NoEnds ht_NoEnds ps_NoNumber_NoEnds hr_NoEnds) (exm_own hb_NoEnds hi_NoEnds ht_NoEnds ps_NoNumber_NoEnds) (is_own (PySem.W.mg_of X G ea_NoTree) (kit_own hi_NoTree ht_NoTree ps_NoNumber_NoTree hr_NoTree) (exm_own hb_NoTree hi_NoTree ht_NoTree ps_NoNumber_NoTree) (is_own (PySem.W.mg_of X G ea_NoWindow) (kit_own hi_NoWindow ht_NoWindow ps_NoNumber_NoWindow hr_NoWindow) (exm_own hb_NoWindow hi_NoWindow ht_NoWindow ps_NoNumber_NoWindow) (is_own (PySem.W.mg_of X G ea_TooMany) (kit_own hi_TooMany ht_TooMany ps_NoNumber_TooMany hr_TooMany) (exm_own hb_TooMany hi_TooMany ht_TooMany ps_NoNumber_TooMany) (is_own (PySem.W.mg_of X G ea_NoSize) (kit_own hi_NoSize ht_NoSize ps_NoNumber_NoSize hr_NoSize) (exm_own hb_NoSize hi_NoSize ht_NoSize ps_NoNumber_NoSize) (is_own (PySem.W.mg_of X G ea_NoStand) (kit_own hi_NoStand ht_NoStand ps_NoNumber_NoStand hr_NoStand) (exm_own hb_NoStand hi_NoStand ht_NoStand ps_NoNumber_NoStand) (is_own (PySem.W.mg_of X G ea_NoNumber) (kit_own hi_NoNumber ht_NoNumber ps_NoNumber_NoNumber hr_NoNumber) (exm_own hb_NoNumber hi_NoNumber ht_NoNumber ps_NoNumber_NoNumber) (is_own (PySem.W.mg_of X G ea_NoEnd) (kit_own hi_NoEnd ht_NoEnd ps_NoNumber_NoEnd hr_NoEnd) (exm_own hb_NoEnd hi_NoEnd ht_NoEnd ps_NoNumber_NoEnd) (is_own (PySem.W.mg_of X G ea_NoDepth) (kit_own hi_NoDepth ht_NoDepth ps_NoNumber_NoDepth hr_NoDepth) (exm_own hb_NoDepth hi_NoDepth ht_NoDepth ps_NoNumber_NoDepth) (is_own (PySem.W.mg_of X G ea_NoWorth) (kit_own hi_NoWorth ht_NoWorth ps_NoNumber_NoWorth hr_NoWorth) (exm_own hb_NoWorth hi_NoWorth ht_NoWorth ps_NoNumber_NoWorth) (is_own (PySem.W.mg_of X G ea_NoChange) (kit_own hi_NoChange ht_NoChange ps_NoNumber_NoChange hr_NoChange) (exm_own hb_NoChange hi_NoChange ht_NoChange ps_NoNumber_NoChange) (is_own (PySem.W.mg_of X G ea_NoRow) (kit_own hi_NoRow ht_NoRow ps_NoNumber_NoRow hr_NoRow) (exm_own hb_NoRow hi_NoRow ht_NoRow ps_NoNumber_NoRow) (is_own (PySem.W.mg_of X G ea_NoName) (kit_own hi_NoName ht_NoName ps_NoNumber_NoName hr_NoName) (exm_own hb_NoName hi_NoName ht_NoName ps_NoNumber_NoName) (is_own (PySem.W.mg_of X G ea_BoughError) (kit_own hi_BoughError ht_BoughError ps_NoNumber_BoughError hr_BoughError) (exm_own hb_BoughError hi_BoughError ht_BoughError ps_NoNumber_BoughError) (is_ve (PySem.W.mg_none_of X G zVE) (kit_bi vs_NoNumber) (exm_bi zVB vs_NoNumber) is_nil))))))))))))))))))))) (xc_cons (xc_of (PySem.W.mg_of X G ea_NoEnd) ek_NoEnd e1_NoEnd e2_NoEnd e3_NoEnd e4_NoEnd e5_NoEnd ex6 ex7 e8_NoEnd et_NoEnd eq_NoEnd (is_own (PySem.W.mg_of X G ea_NoPlay) (kit_own hi_NoPlay ht_NoPlay ps_NoEnd_NoPlay hr_NoPlay) (exm_own hb_NoPlay hi_NoPlay ht_NoPlay ps_NoEnd_NoPlay) (is_own (PySem.W.mg_of X G ea_NoText) (kit_own hi_NoText ht_NoText ps_NoEnd_NoText hr_NoText) (exm_own hb_NoText hi_NoText ht_NoText ps_NoEnd_NoText) (is_own (PySem.W.mg_of X G ea_NoWay) (kit_own hi_NoWay ht_NoWay ps_NoEnd_NoWay hr_NoWay) (exm_own hb_NoWay hi_NoWay ht_NoWay ps_NoEnd_NoWay) (is_own (PySem.W.mg_of X G ea_NoRule) (kit_own hi_NoRule ht_NoRule ps_NoEnd_NoRule hr_NoRule) (exm_own hb_NoRule hi_NoRule ht_NoRule ps_NoEnd_NoRule) (is_own (PySem.W.mg_of X G ea_NoOrder) (kit_own hi_NoOrder ht_NoOrder ps_NoEnd_NoOrder hr_NoOrder) (exm_own hb_NoOrder hi_NoOrder ht_NoOrder ps_NoEnd_NoOrder) (is_own (PySem.W.mg_of X G ea_NoEnds) (kit_own hi_NoEnds ht_NoEnds ps_NoEnd_NoEnds hr_NoEnds) (exm_own hb_NoEnds hi_NoEnds ht_NoEnds ps_NoEnd_NoEnds) (is_own (PySem.W.mg_of X G ea_NoTree) (kit_own hi_NoTree ht_NoTree ps_NoEnd_NoTree hr_NoTree) (exm_own hb_NoTree hi_NoTree ht_NoTree ps_NoEnd_NoTree) (is_own (PySem.W.mg_of X G ea_NoWindow) (kit_own hi_NoWindow ht_NoWindow ps_NoEnd_NoWindow hr_NoWindow) (exm_own hb_NoWindow hi_NoWindow ht_NoWindow ps_NoEnd_NoWindow) (is_own (PySem.W.mg_of X G ea_TooMany) (kit_own hi_TooMany ht_TooMany ps_NoEnd_TooMany hr_TooMany) (exm_own hb_TooMany hi_TooMany ht_TooMany ps_NoEnd_TooMany) (is_own (PySem.W.mg_of X G ea_NoSize) (kit_own hi_NoSize ht_NoSize ps_NoEnd_NoSize hr_NoSize) (exm_own hb_NoSize hi_NoSize ht_NoSize ps_NoEnd_NoSize) (is_own (PySem.W.mg_of X G ea_NoStand) (kit_own hi_NoStand ht_NoStand ps_NoEnd_NoStand hr_NoStand) (exm_own hb_NoStand hi_NoStand ht_NoStand ps_NoEnd_NoStand) (is_own (PySem.W.mg_of X G ea_NoNumber) (kit_own hi_NoNumber ht_NoNumber ps_NoEnd_NoNumber hr_NoNumber) (exm_own hb_NoNumber hi_NoNumber ht_NoNumber ps_NoEnd_NoNumber) (is_own (PySem.W.mg_of X G ea_NoEnd) (kit_own hi_NoEnd ht_NoEnd ps_NoEnd_NoEnd hr_NoEnd) (exm_own hb_NoEnd hi_NoEnd ht_NoEnd ps_NoEnd_NoEnd) (is_own (PySem.W.mg_of X G ea_NoDepth) (kit_own hi_NoDepth ht_NoDepth ps_NoEnd_NoDepth hr_NoDepth) (exm_own hb_NoDepth hi_NoDepth ht_NoDepth ps_NoEnd_NoDepth) (is_own (PySem.W.mg_of X G ea_NoWorth) (kit_own hi_NoWorth ht_NoWorth ps_NoEnd_NoWorth hr_NoWorth) (exm_own hb_NoWorth hi_NoWorth ht_NoWorth ps_NoEnd_NoWorth) (is_own (PySem.W.mg_of X G ea_NoChange) (kit_own hi_NoChange ht_NoChange ps_NoEnd_NoChange hr_NoChange) (exm_own hb_NoChange hi_NoChange ht_NoChange ps_NoEnd_NoChange) (is_own (PySem.W.mg_of X G ea_NoRow) (kit_own hi_NoRow ht_NoRow ps_NoEnd_NoRow hr_NoRow) (exm_own hb_NoRow hi_NoRow ht_NoRow ps_NoEnd_NoRow) (is_own (PySem.W.mg_of X G ea_NoName) (kit_own hi_NoName ht_NoName ps_NoEnd_NoName hr_NoName) (exm_own hb_NoName hi_NoName ht_NoName ps_NoEnd_NoName) (is_own (PySem.W.mg_of X G ea_BoughError) (kit_own hi_BoughError ht_BoughError ps_NoEnd_BoughError hr_BoughError) (exm_own hb_BoughError hi_BoughError ht_BoughError ps_NoEnd_BoughError) (is_ve (PySem.W.mg_none_of X G zVE) (kit_bi vs_NoEnd) (exm_bi zVB vs_NoEnd) is_nil))))))))))))))))))))) (xc_cons (xc_of (PySem.W.mg_of X G ea_NoDepth) ek_NoDepth e1_NoDepth e2_NoDepth e3_NoDepth e4_NoDepth e5_NoDepth ex6 ex7 e8_NoDepth et_NoDepth eq_NoDepth (is_own (PySem.W.mg_of X G ea_NoPlay) (kit_own hi_NoPlay ht_NoPlay ps_NoDepth_NoPlay hr_NoPlay) (exm_own hb_NoPlay hi_NoPlay ht_NoPlay ps_NoDepth_NoPlay) (is_own (PySem.W.mg_of X G ea_NoText) (kit_own hi_NoText ht_NoText ps_NoDepth_NoText hr_NoText) (exm_own hb_NoText hi_NoText ht_NoText ps_NoDepth_NoText) (is_own (PySem.W.mg_of X G ea_NoWay) (kit_own hi_NoWay ht_NoWay ps_NoDepth_NoWay hr_NoWay) (exm_own hb_NoWay hi_NoWay ht_NoWay ps_NoDepth_NoWay) (is_own (PySem.W.mg_of X G ea_NoRule) (kit_own hi_NoRule ht_NoRule ps_NoDepth_NoRule hr_NoRule) (exm_own hb_NoRule hi_NoRule ht_NoRule ps_NoDepth_NoRule) (is_own (PySem.W.mg_of X G ea_NoOrder) (kit_own hi_NoOrder ht_NoOrder ps_NoDepth_NoOrder hr_NoOrder) (exm_own hb_NoOrder hi_NoOrder ht_NoOrder ps_NoDepth_NoOrder) (is_own (PySem.W.mg_of X G ea_NoEnds) (kit_own hi_NoEnds ht_NoEnds ps_NoDepth_NoEnds hr_NoEnds) (exm_own hb_NoEnds hi_NoEnds ht_NoEnds ps_NoDepth_NoEnds) (is_own (PySem.W.mg_of X G ea_NoTree) (kit_own hi_NoTree ht_NoTree ps_NoDepth_NoTree hr_NoTree) (exm_own hb_NoTree hi_NoTree ht_NoTree ps_NoDepth_NoTree) (is_own (PySem.W.mg_of X G ea_NoWindow) (kit_own hi_NoWindow ht_NoWindow ps_NoDepth_NoWindow hr_NoWindow) (exm_own hb_NoWindow hi_NoWindow ht_NoWindow ps_NoDepth_NoWindow) (is_own (PySem.W.mg_of X G ea_TooMany) (kit_own hi_TooMany ht_TooMany ps_NoDepth_TooMany hr_TooMany) (exm_own hb_TooMany hi_TooMany ht_TooMany ps_NoDepth_TooMany) (is_own (PySem.W.mg_of X G ea_NoSize) (kit_own hi_NoSize ht_NoSize ps_NoDepth_NoSize hr_NoSize) (exm_own hb_NoSize hi_NoSize ht_NoSize ps_NoDepth_NoSize) (is_own (PySem.W.mg_of X G ea_NoStand) (kit_own hi_NoStand ht_NoStand ps_NoDepth_NoStand hr_NoStand) (exm_own hb_NoStand hi_NoStand ht_NoStand ps_NoDepth_NoStand) (is_own (PySem.W.mg_of X G ea_NoNumber) (kit_own hi_NoNumber ht_NoNumber ps_NoDepth_NoNumber hr_NoNumber) (exm_own hb_NoNumber hi_NoNumber ht_NoNumber ps_NoDepth_NoNumber) (is_own (PySem.W.mg_of X G ea_NoEnd) (kit_own hi_NoEnd ht_NoEnd ps_NoDepth_NoEnd hr_NoEnd) (exm_own hb_NoEnd hi_NoEnd ht_NoEnd ps_NoDepth_NoEnd) (is_own (PySem.W.mg_of X G ea_NoDepth) (kit_own hi_NoDepth ht_NoDepth ps_NoDepth_NoDepth hr_NoDepth) (exm_own hb_NoDepth hi_NoDepth ht_NoDepth ps_NoDepth_NoDepth) (is_own (PySem.W.mg_of X G ea_NoWorth) (kit_own hi_NoWorth ht_NoWorth ps_NoDepth_NoWorth hr_NoWorth) (exm_own hb_NoWorth hi_NoWorth ht_NoWorth ps_NoDepth_NoWorth) (is_own (PySem.W.mg_of X G ea_NoChange) (kit_own hi_NoChange ht_NoChange ps_NoDepth_NoChange hr_NoChange) (exm_own hb_NoChange hi_NoChange ht_NoChange ps_NoDepth_NoChange) (is_own (PySem.W.mg_of X G ea_NoRow) (kit_own hi_NoRow ht_NoRow ps_NoDepth_NoRow hr_NoRow) (exm_own hb_NoRow hi_NoRow ht_NoRow ps_NoDepth_NoRow) (is_own (PySem.W.mg_of X G ea_NoName) (kit_own hi_NoName ht_NoName ps_NoDepth_NoName hr_NoName) (exm_own hb_NoName hi_NoName ht_NoName ps_NoDepth_NoName) (is_own (PySem.W.mg_of X G ea_BoughError) (kit_own hi_BoughError ht_BoughError ps_NoDepth_BoughError hr_BoughError) (exm_own hb_BoughError hi_BoughError ht_BoughError ps_NoDepth_BoughError) (is_ve (PySem.W.mg_none_of X G zVE) (kit_bi vs_NoDepth) (exm_bi zVB vs_NoDepth) is_nil))))))))))))))))))))) (xc_cons (xc_of (PySem.W.mg_of X G ea_NoWorth) ek_NoWorth e1_NoWorth e2_NoWorth e3_NoWorth e4_NoWorth e5_NoWorth ex6 ex7 e8_NoWorth et_NoWorth eq_NoWorth (is_own (PySem.W.mg_of X G ea_NoPlay) (kit_own hi_NoPlay ht_NoPlay ps_NoWorth_NoPlay hr_NoPlay) (exm_own hb_NoPlay hi_NoPlay ht_NoPlay ps_NoWorth_NoPlay) (is_own (PySem.W.mg_of X G ea_NoText) (kit_own hi_NoText ht_NoText ps_NoWorth_NoText hr_NoText) (exm_own hb_NoText hi_NoText ht_NoText ps_NoWorth_NoText) (is_own (PySem.W.mg_of X G ea_NoWay) (kit_own hi_NoWay ht_NoWay ps_NoWorth_NoWay hr_NoWay) (exm_own hb_NoWay hi_NoWay ht_NoWay ps_NoWorth_NoWay) (is_own (PySem.W.mg_of X G ea_NoRule) (kit_own hi_NoRule ht_NoRule ps_NoWorth_NoRule hr_NoRule) (exm_own hb_NoRule hi_NoRule ht_NoRule ps_NoWorth_NoRule) (is_own (PySem.W.mg_of X G ea_NoOrder) (kit_own hi_NoOrder ht_NoOrder ps_NoWorth_NoOrder hr_NoOrder) (exm_own hb_NoOrder hi_NoOrder ht_NoOrder ps_NoWorth_NoOrder) (is_own (PySem.W.mg_of X G ea_NoEnds) (kit_own hi_NoEnds ht_NoEnds ps_NoWorth_NoEnds hr_NoEnds) (exm_own hb_NoEnds hi_NoEnds ht_NoEnds ps_NoWorth_NoEnds) (is_own (PySem.W.mg_of X G ea_NoTree) (kit_own hi_NoTree ht_NoTree ps_NoWorth_NoTree hr_NoTree) (exm_own hb_NoTree hi_NoTree ht_NoTree ps_NoWorth_NoTree) (is_own (PySem.W.mg_of X G ea_NoWindow) (kit_own hi_NoWindow ht_NoWindow ps_NoWorth_NoWindow hr_NoWindow) (exm_own hb_NoWindow hi_NoWindow ht_NoWindow ps_NoWorth_NoWindow) (is_own (PySem.W.mg_of X G ea_TooMany) (kit_own hi_TooMany ht_TooMany ps_NoWorth_TooMany hr_TooMany) (exm_own hb_TooMany hi_TooMany ht_TooMany ps_NoWorth_TooMany) (is_own (PySem.W.mg_of X G ea_NoSize) (kit_own hi_NoSize ht_NoSize ps_NoWorth_NoSize hr_NoSize) (exm_own hb_NoSize hi_NoSize ht_NoSize ps_NoWorth_NoSize) (is_own (PySem.W.mg_of X G ea_NoStand) (kit_own hi_NoStand ht_NoStand ps_NoWorth_NoStand hr_NoStand) (exm_own hb_NoStand hi_NoStand ht_NoStand ps_NoWorth_NoStand) (is_own (PySem.W.mg_of X G ea_NoNumber) (kit_own hi_NoNumber ht_NoNumber ps_NoWorth_NoNumber hr_NoNumber) (exm_own hb_NoNumber hi_NoNumber ht_NoNumber ps_NoWorth_NoNumber) (is_own (PySem.W.mg_of X G ea_NoEnd) (kit_own hi_NoEnd ht_NoEnd ps_NoWorth_NoEnd hr_NoEnd) (exm_own hb_NoEnd hi_NoEnd ht_NoEnd ps_NoWorth_NoEnd) (is_own (PySem.W.mg_of X G ea_NoDepth) (kit_own hi_NoDepth ht_NoDepth ps_NoWorth_NoDepth hr_NoDepth) (exm_own hb_NoDepth hi_NoDepth ht_NoDepth ps_NoWorth_NoDepth) (is_own (PySem.W.mg_of X G ea_NoWorth) (kit_own hi_NoWorth ht_NoWorth ps_NoWorth_NoWorth hr_NoWorth) (exm_own hb_NoWorth hi_NoWorth ht_NoWorth ps_NoWorth_NoWorth) (is_own (PySem.W.mg_of X G ea_NoChange) (kit_own hi_NoChange ht_NoChange ps_NoWorth_NoChange hr_NoChange) (exm_own hb_NoChange hi_NoChange ht_NoChange ps_NoWorth_NoChange) (is_own (PySem.W.mg_of X G ea_NoRow) (kit_own hi_NoRow ht_NoRow ps_NoWorth_NoRow hr_NoRow) (exm_own hb_NoRow hi_NoRow ht_NoRow ps_NoWorth_NoRow) (is_own (PySem.W.mg_of X G ea_NoName) (kit_own hi_NoName ht_NoName ps_NoWorth_NoName hr_NoName) (exm_own hb_NoName hi_NoName ht_NoName ps_NoWorth_NoName) (is_own (PySem.W.mg_of X G ea_BoughError) (kit_own hi_BoughError ht_BoughError ps_NoWorth_BoughError hr_BoughError) (exm_own hb_BoughError hi_BoughError ht_BoughError ps_NoWorth_BoughError) (is_ve (PySem.W.mg_none_of X G zVE) (kit_bi vs_NoWorth) (exm_bi zVB vs_NoWorth) is_nil))))))))))))))))))))) (xc_cons (xc_of (PySem.W.mg_of X G ea_NoChange) ek_NoChange e1_NoChange e2_NoChange e3_NoChange e4_NoChange e5_NoChange ex6 ex7 e8_NoChange et_NoChange eq_NoChange (is_own (PySem.W.mg_of X G ea_NoPlay) (kit_own hi_NoPlay ht_NoPlay ps_NoChange_NoPlay hr_NoPlay) (exm_own hb_NoPlay hi_NoPlay ht_NoPlay ps_NoChange_NoPlay) (is_own (PySem.W.mg_of X G ea_NoText) (kit_own hi_NoText ht_NoText ps_NoChange_NoText hr_NoText) (exm_own hb_NoText hi_NoText ht_NoText ps_NoChange_NoText) (is_own (PySem.W.mg_of X G ea_NoWay) (kit_own hi_NoWay ht_NoWay ps_NoChange_NoWay hr_NoWay) (exm_own hb_NoWay hi_NoWay ht_NoWay ps_NoChange_NoWay) (is_own (PySem.W.mg_of X G ea_NoRule) (kit_own hi_NoRule ht_NoRule ps_NoChange_NoRule hr_NoRule) (exm_own hb_NoRule hi_NoRule ht_NoRule ps_NoChange_NoRule) (is_own (PySem.W.mg_of X G ea_NoOrder) (kit_own hi_NoOrder ht_NoOrder ps_NoChange_NoOrder hr_NoOrder) (exm_own hb_NoOrder hi_NoOrder ht_NoOrder ps_NoChange_NoOrder) (is_own (PySem.W.mg_of X G ea_NoEnds) (kit_own hi_NoEnds ht_NoEnds ps_NoChange_NoEnds hr_NoEnds) (exm_own hb_NoEnds hi_NoEnds ht_NoEnds ps_NoChange_NoEnds) (is_own (PySem.W.mg_of X G ea_NoTree) (kit_own hi_NoTree ht_NoTree ps_NoChange_NoTree hr_NoTree) (exm_own hb_NoTree hi_NoTree ht_NoTree ps_NoChange_NoTree) (is_own (PySem.W.mg_of X G ea_NoWindow) (kit_own hi_NoWindow ht_NoWindow ps_NoChange_NoWindow hr_NoWindow) (exm_own hb_NoWindow hi_NoWindow ht_NoWindow ps_NoChange_NoWindow) (is_own (PySem.W.mg_of X G ea_TooMany) (kit_own hi_TooMany ht_TooMany ps_NoChange_TooMany hr_TooMany) (exm_own hb_TooMany hi_TooMany ht_TooMany ps_NoChange_TooMany) (is_own (PySem.W.mg_of X G ea_NoSize) (kit_own hi_NoSize ht_NoSize ps_NoChange_NoSize hr_NoSize) (exm_own hb_NoSize hi_NoSize ht_NoSize ps_NoChange_NoSize) (is_own (PySem.W.mg_of X G ea_NoStand) (kit_own hi_NoStand ht_NoStand ps_NoChange_NoStand hr_NoStand) (exm_own hb_NoStand hi_NoStand ht_NoStand ps_NoChange_NoStand) (is_own (PySem.W.mg_of X G ea_NoNumber) (kit_own hi_NoNumber ht_NoNumber ps_NoChange_NoNumber hr_NoNumber) (exm_own hb_NoNumber hi_NoNumber ht_NoNumber ps_NoChange_NoNumber) (is_own (PySem.W.mg_of X G ea_NoEnd) (kit_own hi_NoEnd ht_NoEnd ps_NoChange_NoEnd hr_NoEnd) (exm_own hb_NoEnd hi_NoEnd ht_NoEnd ps_NoChange_NoEnd) (is_own (PySem.W.mg_of X G ea_NoDepth) (kit_own hi_NoDepth ht_NoDepth ps_NoChange_NoDepth hr_NoDepth) (exm_own hb_NoDepth hi_NoDepth ht_NoDepth ps_NoChange_NoDepth) (is_own (PySem.W.mg_of X G ea_NoWorth) (kit_own hi_NoWorth ht_NoWorth ps_NoChange_NoWorth hr_NoWorth) (exm_own hb_NoWorth hi_NoWorth ht_NoWorth ps_NoChange_NoWorth) (is_own (PySem.W.mg_of X G ea_NoChange) (kit_own hi_NoChange ht_NoChange ps_NoChange_NoChange hr_NoChange) (exm_own hb_NoChange hi_NoChange ht_NoChange ps_NoChange_NoChange) (is_own (PySem.W.mg_of X G ea_NoRow) (kit_own hi_NoRow ht_NoRow ps_NoChange_NoRow hr_NoRow) (exm_own hb_NoRow hi_NoRow ht_NoRow ps_NoChange_NoRow) (is_own (PySem.W.mg_of X G ea_NoName) (kit_own hi_NoName ht_NoName ps_NoChange_NoName hr_NoName) (exm_own hb_NoName hi_NoName ht_NoName ps_NoChange_NoName) (is_own (PySem.W.mg_of X G ea_BoughError) (kit_own hi_BoughError ht_BoughError ps_NoChange_BoughError hr_BoughError) (exm_own hb_BoughError hi_BoughError ht_BoughError ps_NoChange_BoughError) (is_ve (PySem.W.mg_none_of X G zVE) (kit_bi vs_NoChange) (exm_bi zVB vs_NoChange) is_nil))))))))))))))))))))) (xc_cons (xc_of (PySem.W.mg_of X G ea_NoRow) ek_NoRow e1_NoRow e2_NoRow e3_NoRow e4_NoRow e5_NoRow ex6 ex7 e8_NoRow et_NoRow eq_NoRow (is_own (PySem.W.mg_of X G ea_NoPlay) (kit_own hi_NoPlay ht_NoPlay ps_NoRow_NoPlay hr_NoPlay) (exm_own hb_NoPlay hi_NoPlay ht_NoPlay ps_NoRow_NoPlay) (is_own (PySem.W.mg_of X G ea_NoText) (kit_own hi_NoText ht_NoText ps_NoRow_NoText hr_NoText) (exm_own hb_NoText hi_NoText ht_NoText ps_NoRow_NoText) (is_own (PySem.W.mg_of X G ea_NoWay) (kit_own hi_NoWay ht_NoWay ps_NoRow_NoWay hr_NoWay) (exm_own hb_NoWay hi_NoWay ht_NoWay ps_NoRow_NoWay) (is_own (PySem.W.mg_of X G ea_NoRule) (kit_own hi_NoRule ht_NoRule ps_NoRow_NoRule hr_NoRule) (exm_own hb_NoRule hi_NoRule ht_NoRule ps_NoRow_NoRule) (is_own (PySem.W.mg_of X G ea_NoOrder) (kit_own hi_NoOrder ht_NoOrder ps_NoRow_NoOrder hr_NoOrder) (exm_own hb_NoOrder hi_NoOrder ht_NoOrder ps_NoRow_NoOrder) (is_own (PySem.W.mg_of X G ea_NoEnds) (kit_own hi_NoEnds ht_NoEnds ps_NoRow_NoEnds hr_NoEnds) (exm_own hb_NoEnds hi_NoEnds ht_NoEnds ps_NoRow_NoEnds) (is_own (PySem.W.mg_of X G ea_NoTree) (kit_own hi_NoTree ht_NoTree ps_NoRow_NoTree hr_NoTree) (exm_own hb_NoTree hi_NoTree ht_NoTree ps_NoRow_NoTree) (is_own (PySem.W.mg_of X G ea_NoWindow) (kit_own hi_NoWindow ht_NoWindow ps_NoRow_NoWindow hr_NoWindow) (exm_own hb_NoWindow hi_NoWindow ht_NoWindow ps_NoRow_NoWindow) (is_own (PySem.W.mg_of X G ea_TooMany) (kit_own hi_TooMany ht_TooMany ps_NoRow_TooMany hr_TooMany) (exm_own hb_TooMany hi_TooMany ht_TooMany ps_NoRow_TooMany) (is_own (PySem.W.mg_of X G ea_NoSize) (kit_own hi_NoSize ht_NoSize ps_NoRow_NoSize hr_NoSize) (exm_own hb_NoSize hi_NoSize ht_NoSize ps_NoRow_NoSize) (is_own (PySem.W.mg_of X G ea_NoStand) (kit_own hi_NoStand ht_NoStand ps_NoRow_NoStand hr_NoStand) (exm_own hb_NoStand hi_NoStand ht_NoStand ps_NoRow_NoStand) (is_own (PySem.W.mg_of X G ea_NoNumber) (kit_own hi_NoNumber ht_NoNumber ps_NoRow_NoNumber hr_NoNumber) (exm_own hb_NoNumber hi_NoNumber ht_NoNumber ps_NoRow_NoNumber) (is_own (PySem.W.mg_of X G ea_NoEnd) (kit_own hi_NoEnd ht_NoEnd ps_NoRow_NoEnd hr_NoEnd) (exm_own hb_NoEnd hi_NoEnd ht_NoEnd ps_NoRow_NoEnd) (is_own (PySem.W.mg_of X G ea_NoDepth) (kit_own hi_NoDepth ht_NoDepth ps_NoRow_NoDepth hr_NoDepth) (exm_own hb_NoDepth hi_NoDepth ht_NoDepth ps_NoRow_NoDepth) (is_own (PySem.W.mg_of X G ea_NoWorth) (kit_own hi_NoWorth ht_NoWorth ps_NoRow_NoWorth hr_NoWorth) (exm_own hb_NoWorth hi_NoWorth ht_NoWorth ps_NoRow_NoWorth) (is_own (PySem.W.mg_of X G ea_NoChange) (kit_own hi_NoChange ht_NoChange ps_NoRow_NoChange hr_NoChange) (exm_own hb_NoChange hi_NoChange ht_NoChange ps_NoRow_NoChange) (is_own (PySem.W.mg_of X G ea_NoRow) (kit_own hi_NoRow ht_NoRow ps_NoRow_NoRow hr_NoRow) (exm_own hb_NoRow hi_NoRow ht_NoRow ps_NoRow_NoRow) (is_own (PySem.W.mg_of X G ea_NoName) (kit_own hi_NoName ht_NoName ps_NoRow_NoName hr_NoName) (exm_own hb_NoName hi_NoName ht_NoName ps_NoRow_NoName) (is_own (PySem.W.mg_of X G ea_BoughError) (kit_own hi_BoughError ht_BoughError ps_NoRow_BoughError hr_BoughError) (exm_own hb_BoughError hi_BoughError ht_BoughError ps_NoRow_BoughError) (is_ve (PySem.W.mg_none_of X G zVE) (kit_bi vs_NoRow) (exm_bi zVB vs_NoRow) is_nil))))))))))))))))))))) (xc_cons (xc_of (PySem.W.mg_of X G ea_NoName) ek_NoName e1_NoName e2_NoName e3_NoName e4_NoName e5_NoName ex6 ex7 e8_NoName et_NoName eq_NoName (is_own (PySem.W.mg_of X G ea_NoPlay) (kit_own hi_NoPlay ht_NoPlay ps_NoName_NoPlay hr_NoPlay) (exm_own hb_NoPlay hi_NoPlay ht_NoPlay ps_NoName_NoPlay) (is_own (PySem.W.mg_of X G ea_NoText) (kit_own hi_NoText ht_NoText ps_NoName_NoText hr_NoText) (exm_own hb_NoText hi_NoText ht_NoText ps_NoName_NoText) (is_own (PySem.W.mg_of X G ea_NoWay) (kit_own hi_NoWay ht_NoWay ps_NoName_NoWay hr_NoWay) (exm_own hb_NoWay hi_NoWay ht_NoWay ps_NoName_NoWay) (is_own (PySem.W.mg_of X G ea_NoRule) (kit_own hi_NoRule ht_NoRule ps_NoName_NoRule hr_NoRule) (exm_own hb_NoRule hi_NoRule ht_NoRule ps_NoName_NoRule) (is_own (PySem.W.mg_of X G ea_NoOrder) (kit_own hi_NoOrder ht_NoOrder ps_NoName_NoOrder hr_NoOrder) (exm_own hb_NoOrder hi_NoOrder ht_NoOrder ps_NoName_NoOrder) (is_own (PySem.W.mg_of X G ea_NoEnds) (kit_own hi_NoEnds ht_NoEnds ps_NoName_NoEnds hr_NoEnds) (exm_own hb_NoEnds hi_NoEnds ht_NoEnds ps_NoName_NoEnds) (is_own (PySem.W.mg_of X G ea_NoTree) (kit_own hi_NoTree ht_NoTree ps_NoName_NoTree hr_NoTree) (exm_own hb_NoTree hi_NoTree ht_NoTree ps_NoName_NoTree) (is_own (PySem.W.mg_of X G ea_NoWindow) (kit_own hi_NoWindow ht_NoWindow ps_NoName_NoWindow hr_NoWindow) (exm_own hb_NoWindow hi_NoWindow ht_NoWindow ps_NoName_NoWindow) (is_own (PySem.W.mg_of X G ea_TooMany) (kit_own hi_TooMany ht_TooMany ps_NoName_TooMany hr_TooMany) (exm_own hb_TooMany hi_TooMany ht_TooMany ps_NoName_TooMany) (is_own (PySem.W.mg_of X G ea_NoSize) (kit_own hi_NoSize ht_NoSize ps_NoName_NoSize hr_NoSize) (exm_own hb_NoSize hi_NoSize ht_NoSize ps_NoName_NoSize) (is_own (PySem.W.mg_of X G ea_NoStand) (kit_own hi_NoStand ht_NoStand ps_NoName_NoStand hr_NoStand) (exm_own hb_NoStand hi_NoStand ht_NoStand ps_NoName_NoStand) (is_own (PySem.W.mg_of X G ea_NoNumber) (kit_own hi_NoNumber ht_NoNumber ps_NoName_NoNumber hr_NoNumber) (exm_own hb_NoNumber hi_NoNumber ht_NoNumber ps_NoName_NoNumber) (is_own (PySem.W.mg_of X G ea_NoEnd) (kit_own hi_NoEnd ht_NoEnd ps_NoName_NoEnd hr_NoEnd) (exm_own hb_NoEnd hi_NoEnd ht_NoEnd ps_NoName_NoEnd) (is_own (PySem.W.mg_of X G ea_NoDepth) (kit_own hi_NoDepth ht_NoDepth ps_NoName_NoDepth hr_NoDepth) (exm_own hb_NoDepth hi_NoDepth ht_NoDepth ps_NoName_NoDepth) (is_own (PySem.W.mg_of X G ea_NoWorth) (kit_own hi_NoWorth ht_NoWorth ps_NoName_NoWorth hr_NoWorth) (exm_own hb_NoWorth hi_NoWorth ht_NoWorth ps_NoName_NoWorth) (is_own (PySem.W.mg_of X G ea_NoChange) (kit_own hi_NoChange ht_NoChange ps_NoName_NoChange hr_NoChange) (exm_own hb_NoChange hi_NoChange ht_NoChange ps_NoName_NoChange) (is_own (PySem.W.mg_of X G ea_NoRow) (kit_own hi_NoRow ht_NoRow ps_NoName_NoRow hr_NoRow) (exm_own hb_NoRow hi_NoRow ht_NoRow ps_NoName_NoRow) (is_own (PySem.W.mg_of X G ea_NoName) (kit_own hi_NoName ht_NoName ps_NoName_NoName hr_NoName) (exm_own hb_NoName hi_NoName ht_NoName ps_NoName_NoName) (is_own (PySem.W.mg_of X G ea_BoughError) (kit_own hi_BoughError ht_BoughError ps_NoName_BoughError hr_BoughError) (exm_own hb_BoughError hi_BoughError ht_BoughError ps_NoName_BoughError) (is_ve (PySem.W.mg_none_of X G zVE) (kit_bi vs_NoName) (exm_bi zVB vs_NoName) is_nil))))))))))))))))))))) xc_nil)))))))))))))))), (fun _ _ h => by cases h), (xo_cons (xo_of (PySem.W.mg_of X G ea_NoPlay) ek_NoPlay (oex_of ol_NoPlay sa_NoPlay e3_NoPlay et_NoPlay ek_NoPlay) e1_NoPlay e2_NoPlay e3_NoPlay e4_NoPlay e5_NoPlay ex6 ex7 e8_NoPlay no_NoPlay (isx_own (PySem.W.mg_of X G ea_NoPlay) (kit_own hi_NoPlay ht_NoPlay ps_NoPlay_NoPlay hr_NoPlay) (isx_own (PySem.W.mg_of X G ea_NoText) (kit_own hi_NoText ht_NoText ps_NoPlay_NoText hr_NoText) (isx_own (PySem.W.mg_of X G ea_NoWay) (kit_own hi_NoWay ht_NoWay ps_NoPlay_NoWay hr_NoWay) (isx_own (PySem.W.mg_of X G ea_NoRule) (kit_own hi_NoRule ht_NoRule ps_NoPlay_NoRule hr_NoRule) (isx_own (PySem.W.mg_of X G ea_NoOrder) (kit_own hi_NoOrder ht_NoOrder ps_NoPlay_NoOrder hr_NoOrder) (isx_own (PySem.W.mg_of X G ea_NoEnds) (kit_own hi_NoEnds ht_NoEnds ps_NoPlay_NoEnds hr_NoEnds) (isx_own (PySem.W.mg_of X G ea_NoTree) (kit_own hi_NoTree ht_NoTree ps_NoPlay_NoTree hr_NoTree) (isx_own (PySem.W.mg_of X G ea_NoWindow) (kit_own hi_NoWindow ht_NoWindow ps_NoPlay_NoWindow hr_NoWindow) (isx_own (PySem.W.mg_of X G ea_TooMany) (kit_own hi_TooMany ht_TooMany ps_NoPlay_TooMany hr_TooMany) (isx_own (PySem.W.mg_of X G ea_NoSize) (kit_own hi_NoSize ht_NoSize ps_NoPlay_NoSize hr_NoSize) (isx_own (PySem.W.mg_of X G ea_NoStand) (kit_own hi_NoStand ht_NoStand ps_NoPlay_NoStand hr_NoStand) (isx_own (PySem.W.mg_of X G ea_NoNumber) (kit_own hi_NoNumber ht_NoNumber ps_NoPlay_NoNumber hr_NoNumber) (isx_own (PySem.W.mg_of X G ea_NoEnd) (kit_own hi_NoEnd ht_NoEnd ps_NoPlay_NoEnd hr_NoEnd) (isx_own (PySem.W.mg_of X G ea_NoDepth) (kit_own hi_NoDepth ht_NoDepth ps_NoPlay_NoDepth hr_NoDepth) (isx_own (PySem.W.mg_of X G ea_NoWorth) (kit_own hi_NoWorth ht_NoWorth ps_NoPlay_NoWorth hr_NoWorth) (isx_own (PySem.W.mg_of X G ea_NoChange) (kit_own hi_NoChange ht_NoChange ps_NoPlay_NoChange hr_NoChange) (isx_own (PySem.W.mg_of X G ea_NoRow) (kit_own hi_NoRow ht_NoRow ps_NoPlay_NoRow hr_NoRow) (isx_own (PySem.W.mg_of X G ea_NoName) (kit_own hi_NoName ht_NoName ps_NoPlay_NoName hr_NoName) (isx_own (PySem.W.mg_of X G ea_BoughError) (kit_own hi_BoughError ht_BoughError ps_NoPlay_BoughError hr_BoughError) (isx_ve (PySem.W.mg_none_of X G zVE) (kit_bi vs_NoPlay) isx_nil)))))))))))))))))))) a5 i5 (fnI_ok (k := 0) F5 sc_NoPlay_init (initBB_ok ib_NoPlay_init) (oex_of ol_NoPlay sa_NoPlay e3_NoPlay et_NoPlay ek_NoPlay) no_NoPlay (PySem.W.mg_of X G ea_BoughError) rd_BoughError sg_BoughError (fcG_ok fc_BoughError) (by decide +kernel) (by decide +kernel) (by decide +kernel) (by decide +kernel)) b5 (by decide)) (xo_cons (xo_of (PySem.W.mg_of X G ea_NoText) ek_NoText (oex_of ol_NoText sa_NoText e3_NoText et_NoText ek_NoText) e1_NoText e2_NoText e3_NoText e4_NoText e5_NoText ex6 ex7 e8_NoText no_NoText (isx_own (PySem.W.mg_of X G ea_NoPlay) (kit_own hi_NoPlay ht_NoPlay ps_NoText_NoPlay hr_NoPlay) (isx_own (PySem.W.mg_of X G ea_NoText) (kit_own hi_NoText ht_NoText ps_NoText_NoText hr_NoText) (isx_own (PySem.W.mg_of X G ea_NoWay) (kit_own hi_NoWay ht_NoWay ps_NoText_NoWay hr_NoWay) (isx_own (PySem.W.mg_of X G ea_NoRule) (kit_own hi_NoRule ht_NoRule ps_NoText_NoRule hr_NoRule) (isx_own (PySem.W.mg_of X G ea_NoOrder) (kit_own hi_NoOrder ht_NoOrder ps_NoText_NoOrder hr_NoOrder) (isx_own (PySem.W.mg_of X G ea_NoEnds) (kit_own hi_NoEnds ht_NoEnds ps_NoText_NoEnds hr_NoEnds) (isx_own (PySem.W.mg_of X G ea_NoTree) (kit_own hi_NoTree ht_NoTree ps_NoText_NoTree hr_NoTree) (isx_own (PySem.W.mg_of X G ea_NoWindow) (kit_own hi_NoWindow ht_NoWindow ps_NoText_NoWindow hr_NoWindow) (isx_own (PySem.W.mg_of X G ea_TooMany) (kit_own hi_TooMany ht_TooMany ps_NoText_TooMany hr_TooMany) (isx_own (PySem.W.mg_of X G ea_NoSize) (kit_own hi_NoSize ht_NoSize ps_NoText_NoSize hr_NoSize) (isx_own (PySem.W.mg_of X G ea_NoStand) (kit_own hi_NoStand ht_NoStand ps_NoText_NoStand hr_NoStand) (isx_own (PySem.W.mg_of X G ea_NoNumber) (kit_own hi_NoNumber ht_NoNumber ps_NoText_NoNumber hr_NoNumber) (isx_own (PySem.W.mg_of X G ea_NoEnd) (kit_own hi_NoEnd ht_NoEnd ps_NoText_NoEnd hr_NoEnd) (isx_own (PySem.W.mg_of X G ea_NoDepth) (kit_own hi_NoDepth ht_NoDepth ps_NoText_NoDepth hr_NoDepth) (isx_own (PySem.W.mg_of X G ea_NoWorth) (kit_own hi_NoWorth ht_NoWorth ps_NoText_NoWorth hr_NoWorth) (isx_own (PySem.W.mg_of X G ea_NoChange) (kit_own hi_NoChange ht_NoChange ps_NoText_NoChange hr_NoChange) (isx_own (PySem.W.mg_of X G ea_NoRow) (kit_own hi_NoRow ht_NoRow ps_NoText_NoRow hr_NoRow) (isx_own (PySem.W.mg_of X G ea_NoName) (kit_own hi_NoName ht_NoName ps_NoText_NoName hr_NoName) (isx_own (PySem.W.mg_of X G ea_BoughError) (kit_own hi_BoughError ht_BoughError ps_NoText_BoughError hr_BoughError) (isx_ve (PySem.W.mg_none_of X G zVE) (kit_bi vs_NoText) isx_nil)))))))))))))))))))) a6 i6 (fnI_ok (k := 0) F6 sc_NoText_init (initBB_ok ib_NoText_init) (oex_of ol_NoText sa_NoText e3_NoText et_NoText ek_NoText) no_NoText (PySem.W.mg_of X G ea_BoughError) rd_BoughError sg_BoughError (fcG_ok fc_BoughError) (by decide +kernel) (by decide +kernel) (by decide +kernel) (by decide +kernel)) b6 (by decide)) xo_nil)), (fun _ h => by cases h)⟩) rfl ch_law_made (w_law_made e_NoPlay e_NoText e_NoWay e_NoRule e_NoOrder e_NoEnds e_NoTree e_NoWindow e_TooMany e_NoSize e_NoStand e_NoNumber e_NoEnd e_NoDepth e_NoWorth e_NoChange e_NoRow e_NoName)
  have I3 : FnI l.prog w K mg base 3 "_law_sorts" ⟨[.own], F_law_sorts e_NoPlay e_NoText e_NoWay e_NoRule e_NoOrder e_NoEnds e_NoTree e_NoWindow e_TooMany e_NoSize e_NoStand e_NoNumber e_NoEnd e_NoDepth e_NoWorth e_NoChange e_NoRow e_NoName⟩ := fn_in F3 (PySem.W.mg_of X G a3) b3 sc_law_sorts rfl (show GOk l.prog w K mg base (Gm_law_sorts e_NoPlay e_NoText e_NoWay e_NoRule e_NoOrder e_NoEnds e_NoTree e_NoWindow e_TooMany e_NoSize e_NoStand e_NoNumber e_NoEnd e_NoDepth e_NoWorth e_NoChange e_NoRow e_NoName) 2 from ⟨gl_nil, (bi_cons (PySem.W.mg_none_of X G z2) bi_nil), fns_nil, cl_nil, xfns_nil, xcl_nil, (xc_cons (xc_of (PySem.W.mg_of X G ea_NoWay) ek_NoWay e1_NoWay e2_NoWay e3_NoWay e4_NoWay e5_NoWay ex6 ex7 e8_NoWay et_NoWay eq_NoWay (is_own (PySem.W.mg_of X G ea_NoPlay) (kit_own hi_NoPlay ht_NoPlay ps_NoWay_NoPlay hr_NoPlay) (exm_own hb_NoPlay hi_NoPlay ht_NoPlay ps_NoWay_NoPlay) (is_own (PySem.W.mg_of X G ea_NoText) (kit_own hi_NoText ht_NoText ps_NoWay_NoText hr_NoText) (exm_own hb_NoText hi_NoText ht_NoText ps_NoWay_NoText) (is_own (PySem.W.mg_of X G ea_NoWay) (kit_own hi_NoWay ht_NoWay ps_NoWay_NoWay hr_NoWay) (exm_own hb_NoWay hi_NoWay ht_NoWay ps_NoWay_NoWay) (is_own (PySem.W.mg_of X G ea_NoRule) (kit_own hi_NoRule ht_NoRule ps_NoWay_NoRule hr_NoRule) (exm_own hb_NoRule hi_NoRule ht_NoRule ps_NoWay_NoRule) (is_own (PySem.W.mg_of X G ea_NoOrder) (kit_own hi_NoOrder ht_NoOrder ps_NoWay_NoOrder hr_NoOrder) (exm_own hb_NoOrder hi_NoOrder ht_NoOrder ps_NoWay_NoOrder) (is_own (PySem.W.mg_of X G ea_NoEnds) (kit_own hi_NoEnds ht_NoEnds ps_NoWay_NoEnds hr_NoEnds) (exm_own hb_NoEnds hi_NoEnds ht_NoEnds ps_NoWay_NoEnds) (is_own (PySem.W.mg_of X G ea_NoTree) (kit_own hi_NoTree ht_NoTree ps_NoWay_NoTree hr_NoTree) (exm_own hb_NoTree hi_NoTree ht_NoTree ps_NoWay_NoTree) (is_own (PySem.W.mg_of X G ea_NoWindow) (kit_own hi_NoWindow ht_NoWindow ps_NoWay_NoWindow hr_NoWindow) (exm_own hb_NoWindow hi_NoWindow ht_NoWindow ps_NoWay_NoWindow) (is_own (PySem.W.mg_of X G ea_TooMany) (kit_own hi_TooMany ht_TooMany ps_NoWay_TooMany hr_TooMany) (exm_own hb_TooMany hi_TooMany ht_TooMany ps_NoWay_TooMany) (is_own (PySem.W.mg_of X G ea_NoSize) (kit_own hi_NoSize ht_NoSize ps_NoWay_NoSize hr_NoSize) (exm_own hb_NoSize hi_NoSize ht_NoSize ps_NoWay_NoSize) (is_own (PySem.W.mg_of X G ea_NoStand) (kit_own hi_NoStand ht_NoStand ps_NoWay_NoStand hr_NoStand) (exm_own hb_NoStand hi_NoStand ht_NoStand ps_NoWay_NoStand) (is_own (PySem.W.mg_of X G ea_NoNumber) (kit_own hi_NoNumber ht_NoNumber ps_NoWay_NoNumber hr_NoNumber) (exm_own hb_NoNumber hi_NoNumber ht_NoNumber ps_NoWay_NoNumber) (is_own (PySem.W.mg_of X G ea_NoEnd) (kit_own hi_NoEnd ht_NoEnd ps_NoWay_NoEnd hr_NoEnd) (exm_own hb_NoEnd hi_NoEnd ht_NoEnd ps_NoWay_NoEnd) (is_own (PySem.W.mg_of X G ea_NoDepth) (kit_own hi_NoDepth ht_NoDepth ps_NoWay_NoDepth hr_NoDepth) (exm_own hb_NoDepth hi_NoDepth ht_NoDepth ps_NoWay_NoDepth) (is_own (PySem.W.mg_of X G ea_NoWorth) (kit_own hi_NoWorth ht_NoWorth ps_NoWay_NoWorth hr_NoWorth) (exm_own hb_NoWorth hi_NoWorth ht_NoWorth ps_NoWay_NoWorth) (is_own (PySem.W.mg_of X G ea_NoChange) (kit_own hi_NoChange ht_NoChange ps_NoWay_NoChange hr_NoChange) (exm_own hb_NoChange hi_NoChange ht_NoChange ps_NoWay_NoChange) (is_own (PySem.W.mg_of X G ea_NoRow) (kit_own hi_NoRow ht_NoRow ps_NoWay_NoRow hr_NoRow) (exm_own hb_NoRow hi_NoRow ht_NoRow ps_NoWay_NoRow) (is_own (PySem.W.mg_of X G ea_NoName) (kit_own hi_NoName ht_NoName ps_NoWay_NoName hr_NoName) (exm_own hb_NoName hi_NoName ht_NoName ps_NoWay_NoName) (is_own (PySem.W.mg_of X G ea_BoughError) (kit_own hi_BoughError ht_BoughError ps_NoWay_BoughError hr_BoughError) (exm_own hb_BoughError hi_BoughError ht_BoughError ps_NoWay_BoughError) (is_ve (PySem.W.mg_none_of X G zVE) (kit_bi vs_NoWay) (exm_bi zVB vs_NoWay) is_nil))))))))))))))))))))) (xc_cons (xc_of (PySem.W.mg_of X G ea_NoRule) ek_NoRule e1_NoRule e2_NoRule e3_NoRule e4_NoRule e5_NoRule ex6 ex7 e8_NoRule et_NoRule eq_NoRule (is_own (PySem.W.mg_of X G ea_NoPlay) (kit_own hi_NoPlay ht_NoPlay ps_NoRule_NoPlay hr_NoPlay) (exm_own hb_NoPlay hi_NoPlay ht_NoPlay ps_NoRule_NoPlay) (is_own (PySem.W.mg_of X G ea_NoText) (kit_own hi_NoText ht_NoText ps_NoRule_NoText hr_NoText) (exm_own hb_NoText hi_NoText ht_NoText ps_NoRule_NoText) (is_own (PySem.W.mg_of X G ea_NoWay) (kit_own hi_NoWay ht_NoWay ps_NoRule_NoWay hr_NoWay) (exm_own hb_NoWay hi_NoWay ht_NoWay ps_NoRule_NoWay) (is_own (PySem.W.mg_of X G ea_NoRule) (kit_own hi_NoRule ht_NoRule ps_NoRule_NoRule hr_NoRule) (exm_own hb_NoRule hi_NoRule ht_NoRule ps_NoRule_NoRule) (is_own (PySem.W.mg_of X G ea_NoOrder) (kit_own hi_NoOrder ht_NoOrder ps_NoRule_NoOrder hr_NoOrder) (exm_own hb_NoOrder hi_NoOrder ht_NoOrder ps_NoRule_NoOrder) (is_own (PySem.W.mg_of X G ea_NoEnds) (kit_own hi_NoEnds ht_NoEnds ps_NoRule_NoEnds hr_NoEnds) (exm_own hb_NoEnds hi_NoEnds ht_NoEnds ps_NoRule_NoEnds) (is_own (PySem.W.mg_of X G ea_NoTree) (kit_own hi_NoTree ht_NoTree ps_NoRule_NoTree hr_NoTree) (exm_own hb_NoTree hi_NoTree ht_NoTree ps_NoRule_NoTree) (is_own (PySem.W.mg_of X G ea_NoWindow) (kit_own hi_NoWindow ht_NoWindow ps_NoRule_NoWindow hr_NoWindow) (exm_own hb_NoWindow hi_NoWindow ht_NoWindow ps_NoRule_NoWindow) (is_own (PySem.W.mg_of X G ea_TooMany) (kit_own hi_TooMany ht_TooMany ps_NoRule_TooMany hr_TooMany) (exm_own hb_TooMany hi_TooMany ht_TooMany ps_NoRule_TooMany) (is_own (PySem.W.mg_of X G ea_NoSize) (kit_own hi_NoSize ht_NoSize ps_NoRule_NoSize hr_NoSize) (exm_own hb_NoSize hi_NoSize ht_NoSize ps_NoRule_NoSize) (is_own (PySem.W.mg_of X G ea_NoStand) (kit_own hi_NoStand ht_NoStand ps_NoRule_NoStand hr_NoStand) (exm_own hb_NoStand hi_NoStand ht_NoStand ps_NoRule_NoStand) (is_own (PySem.W.mg_of X G ea_NoNumber) (kit_own hi_NoNumber ht_NoNumber ps_NoRule_NoNumber hr_NoNumber) (exm_own hb_NoNumber hi_NoNumber ht_NoNumber ps_NoRule_NoNumber) (is_own (PySem.W.mg_of X G ea_NoEnd) (kit_own hi_NoEnd ht_NoEnd ps_NoRule_NoEnd hr_NoEnd) (exm_own hb_NoEnd hi_NoEnd ht_NoEnd ps_NoRule_NoEnd) (is_own (PySem.W.mg_of X G ea_NoDepth) (kit_own hi_NoDepth ht_NoDepth ps_NoRule_NoDepth hr_NoDepth) (exm_own hb_NoDepth hi_NoDepth ht_NoDepth ps_NoRule_NoDepth) (is_own (PySem.W.mg_of X G ea_NoWorth) (kit_own hi_NoWorth ht_NoWorth ps_NoRule_NoWorth hr_NoWorth) (exm_own hb_NoWorth hi_NoWorth ht_NoWorth ps_NoRule_NoWorth) (is_own (PySem.W.mg_of X G ea_NoChange) (kit_own hi_NoChange ht_NoChange ps_NoRule_NoChange hr_NoChange) (exm_own hb_NoChange hi_NoChange ht_NoChange ps_NoRule_NoChange) (is_own (PySem.W.mg_of X G ea_NoRow) (kit_own hi_NoRow ht_NoRow ps_NoRule_NoRow hr_NoRow) (exm_own hb_NoRow hi_NoRow ht_NoRow ps_NoRule_NoRow) (is_own (PySem.W.mg_of X G ea_NoName) (kit_own hi_NoName ht_NoName ps_NoRule_NoName hr_NoName) (exm_own hb_NoName hi_NoName ht_NoName ps_NoRule_NoName) (is_own (PySem.W.mg_of X G ea_BoughError) (kit_own hi_BoughError ht_BoughError ps_NoRule_BoughError hr_BoughError) (exm_own hb_BoughError hi_BoughError ht_BoughError ps_NoRule_BoughError) (is_ve (PySem.W.mg_none_of X G zVE) (kit_bi vs_NoRule) (exm_bi zVB vs_NoRule) is_nil))))))))))))))))))))) (xc_cons (xc_of (PySem.W.mg_of X G ea_NoOrder) ek_NoOrder e1_NoOrder e2_NoOrder e3_NoOrder e4_NoOrder e5_NoOrder ex6 ex7 e8_NoOrder et_NoOrder eq_NoOrder (is_own (PySem.W.mg_of X G ea_NoPlay) (kit_own hi_NoPlay ht_NoPlay ps_NoOrder_NoPlay hr_NoPlay) (exm_own hb_NoPlay hi_NoPlay ht_NoPlay ps_NoOrder_NoPlay) (is_own (PySem.W.mg_of X G ea_NoText) (kit_own hi_NoText ht_NoText ps_NoOrder_NoText hr_NoText) (exm_own hb_NoText hi_NoText ht_NoText ps_NoOrder_NoText) (is_own (PySem.W.mg_of X G ea_NoWay) (kit_own hi_NoWay ht_NoWay ps_NoOrder_NoWay hr_NoWay) (exm_own hb_NoWay hi_NoWay ht_NoWay ps_NoOrder_NoWay) (is_own (PySem.W.mg_of X G ea_NoRule) (kit_own hi_NoRule ht_NoRule ps_NoOrder_NoRule hr_NoRule) (exm_own hb_NoRule hi_NoRule ht_NoRule ps_NoOrder_NoRule) (is_own (PySem.W.mg_of X G ea_NoOrder) (kit_own hi_NoOrder ht_NoOrder ps_NoOrder_NoOrder hr_NoOrder) (exm_own hb_NoOrder hi_NoOrder ht_NoOrder ps_NoOrder_NoOrder) (is_own (PySem.W.mg_of X G ea_NoEnds) (kit_own hi_NoEnds ht_NoEnds ps_NoOrder_NoEnds hr_NoEnds) (exm_own hb_NoEnds hi_NoEnds ht_NoEnds ps_NoOrder_NoEnds) (is_own (PySem.W.mg_of X G ea_NoTree) (kit_own hi_NoTree ht_NoTree ps_NoOrder_NoTree hr_NoTree) (exm_own hb_NoTree hi_NoTree ht_NoTree ps_NoOrder_NoTree) (is_own (PySem.W.mg_of X G ea_NoWindow) (kit_own hi_NoWindow ht_NoWindow ps_NoOrder_NoWindow hr_NoWindow) (exm_own hb_NoWindow hi_NoWindow ht_NoWindow ps_NoOrder_NoWindow) (is_own (PySem.W.mg_of X G ea_TooMany) (kit_own hi_TooMany ht_TooMany ps_NoOrder_TooMany hr_TooMany) (exm_own hb_TooMany hi_TooMany ht_TooMany ps_NoOrder_TooMany) (is_own (PySem.W.mg_of X G ea_NoSize) (kit_own hi_NoSize ht_NoSize ps_NoOrder_NoSize hr_NoSize) (exm_own hb_NoSize hi_NoSize ht_NoSize ps_NoOrder_NoSize) (is_own (PySem.W.mg_of X G ea_NoStand) (kit_own hi_NoStand ht_NoStand ps_NoOrder_NoStand hr_NoStand) (exm_own hb_NoStand hi_NoStand ht_NoStand ps_NoOrder_NoStand) (is_own (PySem.W.mg_of X G ea_NoNumber) (kit_own hi_NoNumber ht_NoNumber ps_NoOrder_NoNumber hr_NoNumber) (exm_own hb_NoNumber hi_NoNumber ht_NoNumber ps_NoOrder_NoNumber) (is_own (PySem.W.mg_of X G ea_NoEnd) (kit_own hi_NoEnd ht_NoEnd ps_NoOrder_NoEnd hr_NoEnd) (exm_own hb_NoEnd hi_NoEnd ht_NoEnd ps_NoOrder_NoEnd) (is_own (PySem.W.mg_of X G ea_NoDepth) (kit_own hi_NoDepth ht_NoDepth ps_NoOrder_NoDepth hr_NoDepth) (exm_own hb_NoDepth hi_NoDepth ht_NoDepth ps_NoOrder_NoDepth) (is_own (PySem.W.mg_of X G ea_NoWorth) (kit_own hi_NoWorth ht_NoWorth ps_NoOrder_NoWorth hr_NoWorth) (exm_own hb_NoWorth hi_NoWorth ht_NoWorth ps_NoOrder_NoWorth) (is_own (PySem.W.mg_of X G ea_NoChange) (kit_own hi_NoChange ht_NoChange ps_NoOrder_NoChange hr_NoChange) (exm_own hb_NoChange hi_NoChange ht_NoChange ps_NoOrder_NoChange) (is_own (PySem.W.mg_of X G ea_NoRow) (kit_own hi_NoRow ht_NoRow ps_NoOrder_NoRow hr_NoRow) (exm_own hb_NoRow hi_NoRow ht_NoRow ps_NoOrder_NoRow) (is_own (PySem.W.mg_of X G ea_NoName) (kit_own hi_NoName ht_NoName ps_NoOrder_NoName hr_NoName) (exm_own hb_NoName hi_NoName ht_NoName ps_NoOrder_NoName) (is_own (PySem.W.mg_of X G ea_BoughError) (kit_own hi_BoughError ht_BoughError ps_NoOrder_BoughError hr_BoughError) (exm_own hb_BoughError hi_BoughError ht_BoughError ps_NoOrder_BoughError) (is_ve (PySem.W.mg_none_of X G zVE) (kit_bi vs_NoOrder) (exm_bi zVB vs_NoOrder) is_nil))))))))))))))))))))) (xc_cons (xc_of (PySem.W.mg_of X G ea_NoEnds) ek_NoEnds e1_NoEnds e2_NoEnds e3_NoEnds e4_NoEnds e5_NoEnds ex6 ex7 e8_NoEnds et_NoEnds eq_NoEnds (is_own (PySem.W.mg_of X G ea_NoPlay) (kit_own hi_NoPlay ht_NoPlay ps_NoEnds_NoPlay hr_NoPlay) (exm_own hb_NoPlay hi_NoPlay ht_NoPlay ps_NoEnds_NoPlay) (is_own (PySem.W.mg_of X G ea_NoText) (kit_own hi_NoText ht_NoText ps_NoEnds_NoText hr_NoText) (exm_own hb_NoText hi_NoText ht_NoText ps_NoEnds_NoText) (is_own (PySem.W.mg_of X G ea_NoWay) (kit_own hi_NoWay ht_NoWay ps_NoEnds_NoWay hr_NoWay) (exm_own hb_NoWay hi_NoWay ht_NoWay ps_NoEnds_NoWay) (is_own (PySem.W.mg_of X G ea_NoRule) (kit_own hi_NoRule ht_NoRule ps_NoEnds_NoRule hr_NoRule) (exm_own hb_NoRule hi_NoRule ht_NoRule ps_NoEnds_NoRule) (is_own (PySem.W.mg_of X G ea_NoOrder) (kit_own hi_NoOrder ht_NoOrder ps_NoEnds_NoOrder hr_NoOrder) (exm_own hb_NoOrder hi_NoOrder ht_NoOrder ps_NoEnds_NoOrder) (is_own (PySem.W.mg_of X G ea_NoEnds) (kit_own hi_NoEnds ht_NoEnds ps_NoEnds_NoEnds hr_NoEnds) (exm_own hb_NoEnds hi_NoEnds ht_NoEnds ps_NoEnds_NoEnds) (is_own (PySem.W.mg_of X G ea_NoTree) (kit_own hi_NoTree ht_NoTree ps_NoEnds_NoTree hr_NoTree) (exm_own hb_NoTree hi_NoTree ht_NoTree ps_NoEnds_NoTree) (is_own (PySem.W.mg_of X G ea_NoWindow) (kit_own hi_NoWindow ht_NoWindow ps_NoEnds_NoWindow hr_NoWindow) (exm_own hb_NoWindow hi_NoWindow ht_NoWindow ps_NoEnds_NoWindow) (is_own (PySem.W.mg_of X G ea_TooMany) (kit_own hi_TooMany ht_TooMany ps_NoEnds_TooMany hr_TooMany) (exm_own hb_TooMany hi_TooMany ht_TooMany ps_NoEnds_TooMany) (is_own (PySem.W.mg_of X G ea_NoSize) (kit_own hi_NoSize ht_NoSize ps_NoEnds_NoSize hr_NoSize) (exm_own hb_NoSize hi_NoSize ht_NoSize ps_NoEnds_NoSize) (is_own (PySem.W.mg_of X G ea_NoStand) (kit_own hi_NoStand ht_NoStand ps_NoEnds_NoStand hr_NoStand) (exm_own hb_NoStand hi_NoStand ht_NoStand ps_NoEnds_NoStand) (is_own (PySem.W.mg_of X G ea_NoNumber) (kit_own hi_NoNumber ht_NoNumber ps_NoEnds_NoNumber hr_NoNumber) (exm_own hb_NoNumber hi_NoNumber ht_NoNumber ps_NoEnds_NoNumber) (is_own (PySem.W.mg_of X G ea_NoEnd) (kit_own hi_NoEnd ht_NoEnd ps_NoEnds_NoEnd hr_NoEnd) (exm_own hb_NoEnd hi_NoEnd ht_NoEnd ps_NoEnds_NoEnd) (is_own (PySem.W.mg_of X G ea_NoDepth) (kit_own hi_NoDepth ht_NoDepth ps_NoEnds_NoDepth hr_NoDepth) (exm_own hb_NoDepth hi_NoDepth ht_NoDepth ps_NoEnds_NoDepth) (is_own (PySem.W.mg_of X G ea_NoWorth) (kit_own hi_NoWorth ht_NoWorth ps_NoEnds_NoWorth hr_NoWorth) (exm_own hb_NoWorth hi_NoWorth ht_NoWorth ps_NoEnds_NoWorth) (is_own (PySem.W.mg_of X G ea_NoChange) (kit_own hi_NoChange ht_NoChange ps_NoEnds_NoChange hr_NoChange) (exm_own hb_NoChange hi_NoChange ht_NoChange ps_NoEnds_NoChange) (is_own (PySem.W.mg_of X G ea_NoRow) (kit_own hi_NoRow ht_NoRow ps_NoEnds_NoRow hr_NoRow) (exm_own hb_NoRow hi_NoRow ht_NoRow ps_NoEnds_NoRow) (is_own (PySem.W.mg_of X G ea_NoName) (kit_own hi_NoName ht_NoName ps_NoEnds_NoName hr_NoName) (exm_own hb_NoName hi_NoName ht_NoName ps_NoEnds_NoName) (is_own (PySem.W.mg_of X G ea_BoughError) (kit_own hi_BoughError ht_BoughError ps_NoEnds_BoughError hr_BoughError) (exm_own hb_BoughError hi_BoughError ht_BoughError ps_NoEnds_BoughError) (is_ve (PySem.W.mg_none_of X G zVE) (kit_bi vs_NoEnds) (exm_bi zVB vs_NoEnds) is_nil))))))))))))))))))))) (xc_cons (xc_of (PySem.W.mg_of X G ea_NoTree) ek_NoTree e1_NoTree e2_NoTree e3_NoTree e4_NoTree e5_NoTree ex6 ex7 e8_NoTree et_NoTree eq_NoTree (is_own (PySem.W.mg_of X G ea_NoPlay) (kit_own hi_NoPlay ht_NoPlay ps_NoTree_NoPlay hr_NoPlay) (exm_own hb_NoPlay hi_NoPlay ht_NoPlay ps_NoTree_NoPlay) (is_own (PySem.W.mg_of X G ea_NoText) (kit_own hi_NoText ht_NoText ps_NoTree_NoText hr_NoText) (exm_own hb_NoText hi_NoText ht_NoText ps_NoTree_NoText) (is_own (PySem.W.mg_of X G ea_NoWay) (kit_own hi_NoWay ht_NoWay ps_NoTree_NoWay hr_NoWay) (exm_own hb_NoWay hi_NoWay ht_NoWay ps_NoTree_NoWay) (is_own (PySem.W.mg_of X G ea_NoRule) (kit_own hi_NoRule ht_NoRule ps_NoTree_NoRule hr_NoRule) (exm_own hb_NoRule hi_NoRule ht_NoRule ps_NoTree_NoRule) (is_own (PySem.W.mg_of X G ea_NoOrder) (kit_own hi_NoOrder ht_NoOrder ps_NoTree_NoOrder hr_NoOrder) (exm_own hb_NoOrder hi_NoOrder ht_NoOrder ps_NoTree_NoOrder) (is_own (PySem.W.mg_of X G ea_NoEnds) (kit_own hi_NoEnds ht_NoEnds ps_NoTree_NoEnds hr_NoEnds) (exm_own hb_NoEnds hi_NoEnds ht_NoEnds ps_NoTree_NoEnds) (is_own (PySem.W.mg_of X G ea_NoTree) (kit_own hi_NoTree ht_NoTree ps_NoTree_NoTree hr_NoTree) (exm_own hb_NoTree hi_NoTree ht_NoTree ps_NoTree_NoTree) (is_own (PySem.W.mg_of X G ea_NoWindow) (kit_own hi_NoWindow ht_NoWindow ps_NoTree_NoWindow hr_NoWindow) (exm_own hb_NoWindow hi_NoWindow ht_NoWindow ps_NoTree_NoWindow) (is_own (PySem.W.mg_of X G ea_TooMany) (kit_own hi_TooMany ht_TooMany ps_NoTree_TooMany hr_TooMany) (exm_own hb_TooMany hi_TooMany ht_TooMany ps_NoTree_TooMany) (is_own (PySem.W.mg_of X G ea_NoSize) (kit_own hi_NoSize ht_NoSize ps_NoTree_NoSize hr_NoSize) (exm_own hb_NoSize hi_NoSize ht_NoSize ps_NoTree_NoSize) (is_own (PySem.W.mg_of X G ea_NoStand) (kit_own hi_NoStand ht_NoStand ps_NoTree_NoStand hr_NoStand) (exm_own hb_NoStand hi_NoStand ht_NoStand ps_NoTree_NoStand) (is_own (PySem.W.mg_of X G ea_NoNumber) (kit_own hi_NoNumber ht_NoNumber ps_NoTree_NoNumber hr_NoNumber) (exm_own hb_NoNumber hi_NoNumber ht_NoNumber ps_NoTree_NoNumber) (is_own (PySem.W.mg_of X G ea_NoEnd) (kit_own hi_NoEnd ht_NoEnd ps_NoTree_NoEnd hr_NoEnd) (exm_own hb_NoEnd hi_NoEnd ht_NoEnd ps_NoTree_NoEnd) (is_own (PySem.W.mg_of X G ea_NoDepth) (kit_own hi_NoDepth ht_NoDepth ps_NoTree_NoDepth hr_NoDepth) (exm_own hb_NoDepth hi_NoDepth ht_NoDepth ps_NoTree_NoDepth) (is_own (PySem.W.mg_of X G ea_NoWorth) (kit_own hi_NoWorth ht_NoWorth ps_NoTree_NoWorth hr_NoWorth) (exm_own hb_NoWorth hi_NoWorth ht_NoWorth ps_NoTree_NoWorth) (is_own (PySem.W.mg_of X G ea_NoChange) (kit_own hi_NoChange ht_NoChange ps_NoTree_NoChange hr_NoChange) (exm_own hb_NoChange hi_NoChange ht_NoChange ps_NoTree_NoChange) (is_own (PySem.W.mg_of X G ea_NoRow) (kit_own hi_NoRow ht_NoRow ps_NoTree_NoRow hr_NoRow) (exm_own hb_NoRow hi_NoRow ht_NoRow ps_NoTree_NoRow) (is_own (PySem.W.mg_of X G ea_NoName) (kit_own hi_NoName ht_NoName ps_NoTree_NoName hr_NoName) (exm_own hb_NoName hi_NoName ht_NoName ps_NoTree_NoName) (is_own (PySem.W.mg_of X G ea_BoughError) (kit_own hi_BoughError ht_BoughError ps_NoTree_BoughError hr_BoughError) (exm_own hb_BoughError hi_BoughError ht_BoughError ps_NoTree_BoughError) (is_ve (PySem.W.mg_none_of X G zVE) (kit_bi vs_NoTree) (exm_bi zVB vs_NoTree) is_nil))))))))))))))))))))) (xc_cons (xc_of (PySem.W.mg_of X G ea_NoWindow) ek_NoWindow e1_NoWindow e2_NoWindow e3_NoWindow e4_NoWindow e5_NoWindow ex6 ex7 e8_NoWindow et_NoWindow eq_NoWindow (is_own (PySem.W.mg_of X G ea_NoPlay) (kit_own hi_NoPlay ht_NoPlay ps_NoWindow_NoPlay hr_NoPlay) (exm_own hb_NoPlay hi_NoPlay ht_NoPlay ps_NoWindow_NoPlay) (is_own (PySem.W.mg_of X G ea_NoText) (kit_own hi_NoText ht_NoText ps_NoWindow_NoText hr_NoText) (exm_own hb_NoText hi_NoText ht_NoText ps_NoWindow_NoText) (is_own (PySem.W.mg_of X G ea_NoWay) (kit_own hi_NoWay ht_NoWay ps_NoWindow_NoWay hr_NoWay) (exm_own hb_NoWay hi_NoWay ht_NoWay ps_NoWindow_NoWay) (is_own (PySem.W.mg_of X G ea_NoRule) (kit_own hi_NoRule ht_NoRule ps_NoWindow_NoRule hr_NoRule) (exm_own hb_NoRule hi_NoRule ht_NoRule ps_NoWindow_NoRule) (is_own (PySem.W.mg_of X G ea_NoOrder) (kit_own hi_NoOrder ht_NoOrder ps_NoWindow_NoOrder hr_NoOrder) (exm_own hb_NoOrder hi_NoOrder ht_NoOrder ps_NoWindow_NoOrder) (is_own (PySem.W.mg_of X G ea_NoEnds) (kit_own hi_NoEnds ht_NoEnds ps_NoWindow_NoEnds hr_NoEnds) (exm_own hb_NoEnds hi_NoEnds ht_NoEnds ps_NoWindow_NoEnds) (is_own (PySem.W.mg_of X G ea_NoTree) (kit_own hi_NoTree ht_NoTree ps_NoWindow_NoTree hr_NoTree) (exm_own hb_NoTree hi_NoTree ht_NoTree ps_NoWindow_NoTree) (is_own (PySem.W.mg_of X G ea_NoWindow) (kit_own hi_NoWindow ht_NoWindow ps_NoWindow_NoWindow hr_NoWindow) (exm_own hb_NoWindow hi_NoWindow ht_NoWindow ps_NoWindow_NoWindow) (is_own (PySem.W.mg_of X G ea_TooMany) (kit_own hi_TooMany ht_TooMany ps_NoWindow_TooMany hr_TooMany) (exm_own hb_TooMany hi_TooMany ht_TooMany ps_NoWindow_TooMany) (is_own (PySem.W.mg_of X G ea_NoSize) (kit_own hi_NoSize ht_NoSize ps_NoWindow_NoSize hr_NoSize) (exm_own hb_NoSize hi_NoSize ht_NoSize ps_NoWindow_NoSize) (is_own (PySem.W.mg_of X G ea_NoStand) (kit_own hi_NoStand ht_NoStand ps_NoWindow_NoStand hr_NoStand) (exm_own hb_NoStand hi_NoStand ht_NoStand ps_NoWindow_NoStand) (is_own (PySem.W.mg_of X G ea_NoNumber) (kit_own hi_NoNumber ht_NoNumber ps_NoWindow_NoNumber hr_NoNumber) (exm_own hb_NoNumber hi_NoNumber ht_NoNumber ps_NoWindow_NoNumber) (is_own (PySem.W.mg_of X G ea_NoEnd) (kit_own hi_NoEnd ht_NoEnd ps_NoWindow_NoEnd hr_NoEnd) (exm_own hb_NoEnd hi_NoEnd ht_NoEnd ps_NoWindow_NoEnd) (is_own (PySem.W.mg_of X G ea_NoDepth) (kit_own hi_NoDepth ht_NoDepth ps_NoWindow_NoDepth hr_NoDepth) (exm_own hb_NoDepth hi_NoDepth ht_NoDepth ps_NoWindow_NoDepth) (is_own (PySem.W.mg_of X G ea_NoWorth) (kit_own hi_NoWorth ht_NoWorth ps_NoWindow_NoWorth hr_NoWorth) (exm_own hb_NoWorth hi_NoWorth ht_NoWorth ps_NoWindow_NoWorth) (is_own (PySem.W.mg_of X G ea_NoChange) (kit_own hi_NoChange ht_NoChange ps_NoWindow_NoChange hr_NoChange) (exm_own hb_NoChange hi_NoChange ht_NoChange ps_NoWindow_NoChange) (is_own (PySem.W.mg_of X G ea_NoRow) (kit_own hi_NoRow ht_NoRow ps_NoWindow_NoRow hr_NoRow) (exm_own hb_NoRow hi_NoRow ht_NoRow ps_NoWindow_NoRow) (is_own (PySem.W.mg_of X G ea_NoName) (kit_own hi_NoName ht_NoName ps_NoWindow_NoName hr_NoName) (exm_own hb_NoName hi_NoName ht_NoName ps_NoWindow_NoName) (is_own (PySem.W.mg_of X G ea_BoughError) (kit_own hi_BoughError ht_BoughError ps_NoWindow_BoughError hr_BoughError) (exm_own hb_BoughError hi_BoughError ht_BoughError ps_NoWindow_BoughError) (is_ve (PySem.W.mg_none_of X G zVE) (kit_bi vs_NoWindow) (exm_bi zVB vs_NoWindow) is_nil))))))))))))))))))))) (xc_cons (xc_of (PySem.W.mg_of X G ea_TooMany) ek_TooMany e1_TooMany e2_TooMany e3_TooMany e4_TooMany e5_TooMany ex6 ex7 e8_TooMany et_TooMany eq_TooMany (is_own (PySem.W.mg_of X G ea_NoPlay) (kit_own hi_NoPlay ht_NoPlay ps_TooMany_NoPlay hr_NoPlay) (exm_own hb_NoPlay hi_NoPlay ht_NoPlay ps_TooMany_NoPlay) (is_own (PySem.W.mg_of X G ea_NoText) (kit_own hi_NoText ht_NoText ps_TooMany_NoText hr_NoText) (exm_own hb_NoText hi_NoText ht_NoText ps_TooMany_NoText) (is_own (PySem.W.mg_of X G ea_NoWay) (kit_own hi_NoWay ht_NoWay ps_TooMany_NoWay hr_NoWay) (exm_own hb_NoWay hi_NoWay ht_NoWay ps_TooMany_NoWay) (is_own (PySem.W.mg_of X G ea_NoRule) (kit_own hi_NoRule ht_NoRule ps_TooMany_NoRule hr_NoRule) (exm_own hb_NoRule hi_NoRule ht_NoRule ps_TooMany_NoRule) (is_own (PySem.W.mg_of X G ea_NoOrder) (kit_own hi_NoOrder ht_NoOrder ps_TooMany_NoOrder hr_NoOrder) (exm_own hb_NoOrder hi_NoOrder ht_NoOrder ps_TooMany_NoOrder) (is_own (PySem.W.mg_of X G ea_NoEnds) (kit_own hi_NoEnds ht_NoEnds ps_TooMany_NoEnds hr_NoEnds) (exm_own hb_NoEnds hi_NoEnds ht_NoEnds ps_TooMany_NoEnds) (is_own (PySem.W.mg_of X G ea_NoTree) (kit_own hi_NoTree ht_NoTree ps_TooMany_NoTree hr_NoTree) (exm_own hb_NoTree hi_NoTree ht_NoTree ps_TooMany_NoTree) (is_own (PySem.W.mg_of X G ea_NoWindow) (kit_own hi_NoWindow ht_NoWindow ps_TooMany_NoWindow hr_NoWindow) (exm_own hb_NoWindow hi_NoWindow ht_NoWindow ps_TooMany_NoWindow) (is_own (PySem.W.mg_of X G ea_TooMany) (kit_own hi_TooMany ht_TooMany ps_TooMany_TooMany hr_TooMany) (exm_own hb_TooMany hi_TooMany ht_TooMany ps_TooMany_TooMany) (is_own (PySem.W.mg_of X G ea_NoSize) (kit_own hi_NoSize ht_NoSize ps_TooMany_NoSize hr_NoSize) (exm_own hb_NoSize hi_NoSize ht_NoSize ps_TooMany_NoSize) (is_own (PySem.W.mg_of X G ea_NoStand) (kit_own hi_NoStand ht_NoStand ps_TooMany_NoStand hr_NoStand) (exm_own hb_NoStand hi_NoStand ht_NoStand ps_TooMany_NoStand) (is_own (PySem.W.mg_of X G ea_NoNumber) (kit_own hi_NoNumber ht_NoNumber ps_TooMany_NoNumber hr_NoNumber) (exm_own hb_NoNumber hi_NoNumber ht_NoNumber ps_TooMany_NoNumber) (is_own (PySem.W.mg_of X G ea_NoEnd) (kit_own hi_NoEnd ht_NoEnd ps_TooMany_NoEnd hr_NoEnd) (exm_own hb_NoEnd hi_NoEnd ht_NoEnd ps_TooMany_NoEnd) (is_own (PySem.W.mg_of X G ea_NoDepth) (kit_own hi_NoDepth ht_NoDepth ps_TooMany_NoDepth hr_NoDepth) (exm_own hb_NoDepth hi_NoDepth ht_NoDepth ps_TooMany_NoDepth) (is_own (PySem.W.mg_of X G ea_NoWorth) (kit_own hi_NoWorth ht_NoWorth ps_TooMany_NoWorth hr_NoWorth) (exm_own hb_NoWorth hi_NoWorth ht_NoWorth ps_TooMany_NoWorth) (is_own (PySem.W.mg_of X G ea_NoChange) (kit_own hi_NoChange ht_NoChange ps_TooMany_NoChange hr_NoChange) (exm_own hb_NoChange hi_NoChange ht_NoChange ps_TooMany_NoChange) (is_own (PySem.W.mg_of X G ea_NoRow) (kit_own hi_NoRow ht_NoRow ps_TooMany_NoRow hr_NoRow) (exm_own hb_NoRow hi_NoRow ht_NoRow ps_TooMany_NoRow) (is_own (PySem.W.mg_of X G ea_NoName) (kit_own hi_NoName ht_NoName ps_TooMany_NoName hr_NoName) (exm_own hb_NoName hi_NoName ht_NoName ps_TooMany_NoName) (is_own (PySem.W.mg_of X G ea_BoughError) (kit_own hi_BoughError ht_BoughError ps_TooMany_BoughError hr_BoughError) (exm_own hb_BoughError hi_BoughError ht_BoughError ps_TooMany_BoughError) (is_ve (PySem.W.mg_none_of X G zVE) (kit_bi vs_TooMany) (exm_bi zVB vs_TooMany) is_nil))))))))))))))))))))) (xc_cons (xc_of (PySem.W.mg_of X G ea_NoSize) ek_NoSize e1_NoSize e2_NoSize e3_NoSize e4_NoSize e5_NoSize ex6 ex7 e8_NoSize et_NoSize eq_NoSize (is_own (PySem.W.mg_of X G ea_NoPlay) (kit_own hi_NoPlay ht_NoPlay ps_NoSize_NoPlay hr_NoPlay) (exm_own hb_NoPlay hi_NoPlay ht_NoPlay ps_NoSize_NoPlay) (is_own (PySem.W.mg_of X G ea_NoText) (kit_own hi_NoText ht_NoText ps_NoSize_NoText hr_NoText) (exm_own hb_NoText hi_NoText ht_NoText ps_NoSize_NoText) (is_own (PySem.W.mg_of X G ea_NoWay) (kit_own hi_NoWay ht_NoWay ps_NoSize_NoWay hr_NoWay) (exm_own hb_NoWay hi_NoWay ht_NoWay ps_NoSize_NoWay) (is_own (PySem.W.mg_of X G ea_NoRule) (kit_own hi_NoRule ht_NoRule ps_NoSize_NoRule hr_NoRule) (exm_own hb_NoRule hi_NoRule ht_NoRule ps_NoSize_NoRule) (is_own (PySem.W.mg_of X G ea_NoOrder) (kit_own hi_NoOrder ht_NoOrder ps_NoSize_NoOrder hr_NoOrder) (exm_own hb_NoOrder hi_NoOrder ht_NoOrder ps_NoSize_NoOrder) (is_own (PySem.W.mg_of X G ea_NoEnds) (kit_own hi_NoEnds ht_NoEnds ps_NoSize_NoEnds hr_NoEnds) (exm_own hb_NoEnds hi_NoEnds ht_NoEnds ps_NoSize_NoEnds) (is_own (PySem.W.mg_of X G ea_NoTree) (kit_own hi_NoTree ht_NoTree ps_NoSize_NoTree hr_NoTree) (exm_own hb_NoTree hi_NoTree ht_NoTree ps_NoSize_NoTree) (is_own (PySem.W.mg_of X G ea_NoWindow) (kit_own hi_NoWindow ht_NoWindow ps_NoSize_NoWindow hr_NoWindow) (exm_own hb_NoWindow hi_NoWindow ht_NoWindow ps_NoSize_NoWindow) (is_own (PySem.W.mg_of X G ea_TooMany) (kit_own hi_TooMany ht_TooMany ps_NoSize_TooMany hr_TooMany) (exm_own hb_TooMany hi_TooMany ht_TooMany ps_NoSize_TooMany) (is_own (PySem.W.mg_of X G ea_NoSize) (kit_own hi_NoSize ht_NoSize ps_NoSize_NoSize hr_NoSize) (exm_own hb_NoSize hi_NoSize ht_NoSize ps_NoSize_NoSize) (is_own (PySem.W.mg_of X G ea_NoStand) (kit_own hi_NoStand ht_NoStand ps_NoSize_NoStand hr_NoStand) (exm_own hb_NoStand hi_NoStand ht_NoStand ps_NoSize_NoStand) (is_own (PySem.W.mg_of X G ea_NoNumber) (kit_own hi_NoNumber ht_NoNumber ps_NoSize_NoNumber hr_NoNumber) (exm_own hb_NoNumber hi_NoNumber ht_NoNumber ps_NoSize_NoNumber) (is_own (PySem.W.mg_of X G ea_NoEnd) (kit_own hi_NoEnd ht_NoEnd ps_NoSize_NoEnd hr_NoEnd) (exm_own hb_NoEnd hi_NoEnd ht_NoEnd ps_NoSize_NoEnd) (is_own (PySem.W.mg_of X G ea_NoDepth) (kit_own hi_NoDepth ht_NoDepth ps_NoSize_NoDepth hr_NoDepth) (exm_own hb_NoDepth hi_NoDepth ht_NoDepth ps_NoSize_NoDepth) (is_own (PySem.W.mg_of X G ea_NoWorth) (kit_own hi_NoWorth ht_NoWorth ps_NoSize_NoWorth hr_NoWorth) (exm_own hb_NoWorth hi_NoWorth ht_NoWorth ps_NoSize_NoWorth) (is_own (PySem.W.mg_of X G ea_NoChange) (kit_own hi_NoChange ht_NoChange ps_NoSize_NoChange hr_NoChange) (exm_own hb_NoChange hi_NoChange ht_NoChange ps_NoSize_NoChange) (is_own (PySem.W.mg_of X G ea_NoRow) (kit_own hi_NoRow ht_NoRow ps_NoSize_NoRow hr_NoRow) (exm_own hb_NoRow hi_NoRow ht_NoRow ps_NoSize_NoRow) (is_own (PySem.W.mg_of X G ea_NoName) (kit_own hi_NoName ht_NoName ps_NoSize_NoName hr_NoName) (exm_own hb_NoName hi_NoName ht_NoName ps_NoSize_NoName) (is_own (PySem.W.mg_of X G ea_BoughError) (kit_own hi_BoughError ht_BoughError ps_NoSize_BoughError hr_BoughError) (exm_own hb_BoughError hi_BoughError ht_BoughError ps_NoSize_BoughError) (is_ve (PySem.W.mg_none_of X G zVE) (kit_bi vs_NoSize) (exm_bi zVB vs_NoSize) is_nil))))))))))))))))))))) (xc_cons (xc_of (PySem.W.mg_of X G ea_NoStand) ek_NoStand e1_NoStand e2_NoStand e3_NoStand e4_NoStand e5_NoStand ex6 ex7 e8_NoStand et_NoStand eq_NoStand (is_own (PySem.W.mg_of X G ea_NoPlay) (kit_own hi_NoPlay ht_NoPlay ps_NoStand_NoPlay hr_NoPlay) (exm_own hb_NoPlay hi_NoPlay ht_NoPlay ps_NoStand_NoPlay) (is_own (PySem.W.mg_of X G ea_NoText) (kit_own hi_NoText ht_NoText ps_NoStand_NoText hr_NoText) (exm_own hb_NoText hi_NoText ht_NoText ps_NoStand_NoText) (is_own (PySem.W.mg_of X G ea_NoWay) (kit_own hi_NoWay ht_NoWay ps_NoStand_NoWay hr_NoWay) (exm_own hb_NoWay hi_NoWay ht_NoWay ps_NoStand_NoWay) (is_own (PySem.W.mg_of X G ea_NoRule) (kit_own hi_NoRule ht_NoRule ps_NoStand_NoRule hr_NoRule) (exm_own hb_NoRule hi_NoRule ht_NoRule ps_NoStand_NoRule) (is_own (PySem.W.mg_of X G ea_NoOrder) (kit_own hi_NoOrder ht_NoOrder ps_NoStand_NoOrder hr_NoOrder) (exm_own hb_NoOrder hi_NoOrder ht_NoOrder ps_NoStand_NoOrder) (is_own (PySem.W.mg_of X G ea_NoEnds) (kit_own hi_NoEnds ht_NoEnds ps_NoStand_NoEnds hr_NoEnds) (exm_own hb_NoEnds hi_NoEnds ht_NoEnds ps_NoStand_NoEnds) (is_own (PySem.W.mg_of X G ea_NoTree) (kit_own hi_NoTree ht_NoTree ps_NoStand_NoTree hr_NoTree) (exm_own hb_NoTree hi_NoTree ht_NoTree ps_NoStand_NoTree) (is_own (PySem.W.mg_of X G ea_NoWindow) (kit_own hi_NoWindow ht_NoWindow ps_NoStand_NoWindow hr_NoWindow) (exm_own hb_NoWindow hi_NoWindow ht_NoWindow ps_NoStand_NoWindow) (is_own (PySem.W.mg_of X G ea_TooMany) (kit_own hi_TooMany ht_TooMany ps_NoStand_TooMany hr_TooMany) (exm_own hb_TooMany hi_TooMany ht_TooMany ps_NoStand_TooMany) (is_own (PySem.W.mg_of X G ea_NoSize) (kit_own hi_NoSize ht_NoSize ps_NoStand_NoSize hr_NoSize) (exm_own hb_NoSize hi_NoSize ht_NoSize ps_NoStand_NoSize) (is_own (PySem.W.mg_of X G ea_NoStand) (kit_own hi_NoStand ht_NoStand ps_NoStand_NoStand hr_NoStand) (exm_own hb_NoStand hi_NoStand ht_NoStand ps_NoStand_NoStand) (is_own (PySem.W.mg_of X G ea_NoNumber) (kit_own hi_NoNumber ht_NoNumber ps_NoStand_NoNumber hr_NoNumber) (exm_own hb_NoNumber hi_NoNumber ht_NoNumber ps_NoStand_NoNumber) (is_own (PySem.W.mg_of X G ea_NoEnd) (kit_own hi_NoEnd ht_NoEnd ps_NoStand_NoEnd hr_NoEnd) (exm_own hb_NoEnd hi_NoEnd ht_NoEnd ps_NoStand_NoEnd) (is_own (PySem.W.mg_of X G ea_NoDepth) (kit_own hi_NoDepth ht_NoDepth ps_NoStand_NoDepth hr_NoDepth) (exm_own hb_NoDepth hi_NoDepth ht_NoDepth ps_NoStand_NoDepth) (is_own (PySem.W.mg_of X G ea_NoWorth) (kit_own hi_NoWorth ht_NoWorth ps_NoStand_NoWorth hr_NoWorth) (exm_own hb_NoWorth hi_NoWorth ht_NoWorth ps_NoStand_NoWorth) (is_own (PySem.W.mg_of X G ea_NoChange) (kit_own hi_NoChange ht_NoChange ps_NoStand_NoChange hr_NoChange) (exm_own hb_NoChange hi_NoChange ht_NoChange ps_NoStand_NoChange) (is_own (PySem.W.mg_of X G ea_NoRow) (kit_own hi_NoRow ht_NoRow ps_NoStand_NoRow hr_NoRow) (exm_own hb_NoRow hi_NoRow ht_NoRow ps_NoStand_NoRow) (is_own (PySem.W.mg_of X G ea_NoName) (kit_own hi_NoName ht_NoName ps_NoStand_NoName hr_NoName) (exm_own hb_NoName hi_NoName ht_NoName ps_NoStand_NoName) (is_own (PySem.W.mg_of X G ea_BoughError) (kit_own hi_BoughError ht_BoughError ps_NoStand_BoughError hr_BoughError) (exm_own hb_BoughError hi_BoughError ht_BoughError ps_NoStand_BoughError) (is_ve (PySem.W.mg_none_of X G zVE) (kit_bi vs_NoStand) (exm_bi zVB vs_NoStand) is_nil))))))))))))))))))))) (xc_cons (xc_of (PySem.W.mg_of X G ea_NoNumber) ek_NoNumber e1_NoNumber e2_NoNumber e3_NoNumber e4_NoNumber e5_NoNumber ex6 ex7 e8_NoNumber et_NoNumber eq_NoNumber (is_own (PySem.W.mg_of X G ea_NoPlay) (kit_own hi_NoPlay ht_NoPlay ps_NoNumber_NoPlay hr_NoPlay) (exm_own hb_NoPlay hi_NoPlay ht_NoPlay ps_NoNumber_NoPlay) (is_own (PySem.W.mg_of X G ea_NoText) (kit_own hi_NoText ht_NoText ps_NoNumber_NoText hr_NoText) (exm_own hb_NoText hi_NoText ht_NoText ps_NoNumber_NoText) (is_own (PySem.W.mg_of X G ea_NoWay) (kit_own hi_NoWay ht_NoWay ps_NoNumber_NoWay hr_NoWay) (exm_own hb_NoWay hi_NoWay ht_NoWay ps_NoNumber_NoWay) (is_own (PySem.W.mg_of X G ea_NoRule) (kit_own hi_NoRule ht_NoRule ps_NoNumber_NoRule hr_NoRule) (exm_own hb_NoRule hi_NoRule ht_NoRule ps_NoNumber_NoRule) (is_own (PySem.W.mg_of X G ea_NoOrder) (kit_own hi_NoOrder ht_NoOrder ps_NoNumber_NoOrder hr_NoOrder) (exm_own hb_NoOrder hi_NoOrder ht_NoOrder ps_NoNumber_NoOrder) (is_own (PySem.W.mg_of X G ea_NoEnds) (kit_own hi_NoEnds ht_NoEnds ps_NoNumber_NoEnds hr_NoEnds) (exm_own hb_NoEnds hi_NoEnds ht_NoEnds ps_NoNumber_NoEnds) (is_own (PySem.W.mg_of X G ea_NoTree) (kit_own hi_NoTree ht_NoTree ps_NoNumber_NoTree hr_NoTree) (exm_own hb_NoTree hi_NoTree ht_NoTree ps_NoNumber_NoTree) (is_own (PySem.W.mg_of X G ea_NoWindow) (kit_own hi_NoWindow ht_NoWindow ps_NoNumber_NoWindow hr_NoWindow) (exm_own hb_NoWindow hi_NoWindow ht_NoWindow ps_NoNumber_NoWindow) (is_own (PySem.W.mg_of X G ea_TooMany) (kit_own hi_TooMany ht_TooMany ps_NoNumber_TooMany hr_TooMany) (exm_own hb_TooMany hi_TooMany ht_TooMany ps_NoNumber_TooMany) (is_own (PySem.W.mg_of X G ea_NoSize) (kit_own hi_NoSize ht_NoSize ps_NoNumber_NoSize hr_NoSize) (exm_own hb_NoSize hi_NoSize ht_NoSize ps_NoNumber_NoSize) (is_own (PySem.W.mg_of X G ea_NoStand) (kit_own hi_NoStand ht_NoStand ps_NoNumber_NoStand hr_NoStand) (exm_own hb_NoStand hi_NoStand ht_NoStand ps_NoNumber_NoStand) (is_own (PySem.W.mg_of X G ea_NoNumber) (kit_own hi_NoNumber ht_NoNumber ps_NoNumber_NoNumber hr_NoNumber) (exm_own hb_NoNumber hi_NoNumber ht_NoNumber ps_NoNumber_NoNumber) (is_own (PySem.W.mg_of X G ea_NoEnd) (kit_own hi_NoEnd ht_NoEnd ps_NoNumber_NoEnd hr_NoEnd) (exm_own hb_NoEnd hi_NoEnd ht_NoEnd ps_NoNumber_NoEnd) (is_own (PySem.W.mg_of X G ea_NoDepth) (kit_own hi_NoDepth ht_NoDepth ps_NoNumber_NoDepth hr_NoDepth) (exm_own hb_NoDepth hi_NoDepth ht_NoDepth ps_NoNumber_NoDepth) (is_own (PySem.W.mg_of X G ea_NoWorth) (kit_own hi_NoWorth ht_NoWorth ps_NoNumber_NoWorth hr_NoWorth) (exm_own hb_NoWorth hi_NoWorth ht_NoWorth ps_NoNumber_NoWorth) (is_own (PySem.W.mg_of X G ea_NoChange) (kit_own hi_NoChange ht_NoChange ps_NoNumber_NoChange hr_NoChange) (exm_own hb_NoChange hi_NoChange ht_NoChange ps_NoNumber_NoChange) (is_own (PySem.W.mg_of X G ea_NoRow) (kit_own hi_NoRow ht_NoRow ps_NoNumber_NoRow hr_NoRow) (exm_own hb_NoRow hi_NoRow ht_NoRow ps_NoNumber_NoRow) (is_own (PySem.W.mg_of X G ea_NoName) (kit_own hi_NoName ht_NoName ps_NoNumber_NoName hr_NoName) (exm_own hb_NoName hi_NoName ht_NoName ps_NoNumber_NoName) (is_own (PySem.W.mg_of X G ea_BoughError) (kit_own hi_BoughError ht_BoughError ps_NoNumber_BoughError hr_BoughError) (exm_own hb_BoughError hi_BoughError ht_BoughError ps_NoNumber_BoughError) (is_ve (PySem.W.mg_none_of X G zVE) (kit_bi vs_NoNumber) (exm_bi zVB vs_NoNumber) is_nil))))))))))))))))))))) (xc_cons (xc_of (PySem.W.mg_of X G ea_NoEnd) ek_NoEnd e1_NoEnd e2_NoEnd e3_NoEnd e4_NoEnd e5_NoEnd ex6 ex7 e8_NoEnd et_NoEnd eq_NoEnd (is_own (PySem.W.mg_of X G ea_NoPlay) (kit_own hi_NoPlay ht_NoPlay ps_NoEnd_NoPlay hr_NoPlay) (exm_own hb_NoPlay hi_NoPlay ht_NoPlay ps_NoEnd_NoPlay) (is_own (PySem.W.mg_of X G ea_NoText) (kit_own hi_NoText ht_NoText ps_NoEnd_NoText hr_NoText) (exm_own hb_NoText hi_NoText ht_NoText ps_NoEnd_NoText) (is_own (PySem.W.mg_of X G ea_NoWay) (kit_own hi_NoWay ht_NoWay ps_NoEnd_NoWay hr_NoWay) (exm_own hb_NoWay hi_NoWay ht_NoWay ps_NoEnd_NoWay) (is_own (PySem.W.mg_of X G ea_NoRule) (kit_own hi_NoRule ht_NoRule ps_NoEnd_NoRule hr_NoRule) (exm_own hb_NoRule hi_NoRule ht_NoRule ps_NoEnd_NoRule) (is_own (PySem.W.mg_of X G ea_NoOrder) (kit_own hi_NoOrder ht_NoOrder ps_NoEnd_NoOrder hr_NoOrder) (exm_own hb_NoOrder hi_NoOrder ht_NoOrder ps_NoEnd_NoOrder) (is_own (PySem.W.mg_of X G ea_NoEnds) (kit_own hi_NoEnds ht_NoEnds ps_NoEnd_NoEnds hr_NoEnds) (exm_own hb_NoEnds hi_NoEnds ht_NoEnds ps_NoEnd_NoEnds) (is_own (PySem.W.mg_of X G ea_NoTree) (kit_own hi_NoTree ht_NoTree ps_NoEnd_NoTree hr_NoTree) (exm_own hb_NoTree hi_NoTree ht_NoTree ps_NoEnd_NoTree) (is_own (PySem.W.mg_of X G ea_NoWindow) (kit_own hi_NoWindow ht_NoWindow ps_NoEnd_NoWindow hr_NoWindow) (exm_own hb_NoWindow hi_NoWindow ht_NoWindow ps_NoEnd_NoWindow) (is_own (PySem.W.mg_of X G ea_TooMany) (kit_own hi_TooMany ht_TooMany ps_NoEnd_TooMany hr_TooMany) (exm_own hb_TooMany hi_TooMany ht_TooMany ps_NoEnd_TooMany) (is_own (PySem.W.mg_of X G ea_NoSize) (kit_own hi_NoSize ht_NoSize ps_NoEnd_NoSize hr_NoSize) (exm_own hb_NoSize hi_NoSize ht_NoSize ps_NoEnd_NoSize) (is_own (PySem.W.mg_of X G ea_NoStand) (kit_own hi_NoStand ht_NoStand ps_NoEnd_NoStand hr_NoStand) (exm_own hb_NoStand hi_NoStand ht_NoStand ps_NoEnd_NoStand) (is_own (PySem.W.mg_of X G ea_NoNumber) (kit_own hi_NoNumber ht_NoNumber ps_NoEnd_NoNumber hr_NoNumber) (exm_own hb_NoNumber hi_NoNumber ht_NoNumber ps_NoEnd_NoNumber) (is_own (PySem.W.mg_of X G ea_NoEnd) (kit_own hi_NoEnd ht_NoEnd ps_NoEnd_NoEnd hr_NoEnd) (exm_own hb_NoEnd hi_NoEnd ht_NoEnd ps_NoEnd_NoEnd) (is_own (PySem.W.mg_of X G ea_NoDepth) (kit_own hi_NoDepth ht_NoDepth ps_NoEnd_NoDepth hr_NoDepth) (exm_own hb_NoDepth hi_NoDepth ht_NoDepth ps_NoEnd_NoDepth) (is_own (PySem.W.mg_of X G ea_NoWorth) (kit_own hi_NoWorth ht_NoWorth ps_NoEnd_NoWorth hr_NoWorth) (exm_own hb_NoWorth hi_NoWorth ht_NoWorth ps_NoEnd_NoWorth) (is_own (PySem.W.mg_of X G ea_NoChange) (kit_own hi_NoChange ht_NoChange ps_NoEnd_NoChange hr_NoChange) (exm_own hb_NoChange hi_NoChange ht_NoChange ps_NoEnd_NoChange) (is_own (PySem.W.mg_of X G ea_NoRow) (kit_own hi_NoRow ht_NoRow ps_NoEnd_NoRow hr_NoRow) (exm_own hb_NoRow hi_NoRow ht_NoRow ps_NoEnd_NoRow) (is_own (PySem.W.mg_of X G ea_NoName) (kit_own hi_NoName ht_NoName ps_NoEnd_NoName hr_NoName) (exm_own hb_NoName hi_NoName ht_NoName ps_NoEnd_NoName) (is_own (PySem.W.mg_of X G ea_BoughError) (kit_own hi_BoughError ht_BoughError ps_NoEnd_BoughError hr_BoughError) (exm_own hb_BoughError hi_BoughError ht_BoughError ps_NoEnd_BoughError) (is_ve (PySem.W.mg_none_of X G zVE) (kit_bi vs_NoEnd) (exm_bi zVB vs_NoEnd) is_nil))))))))))))))))))))) (xc_cons (xc_of (PySem.W.mg_of X G ea_NoDepth) ek_NoDepth e1_NoDepth e2_NoDepth e3_NoDepth e4_NoDepth e5_NoDepth ex6 ex7 e8_NoDepth et_NoDepth eq_NoDepth (is_own (PySem.W.mg_of X G ea_NoPlay) (kit_own hi_NoPlay ht_NoPlay ps_NoDepth_NoPlay hr_NoPlay) (exm_own hb_NoPlay hi_NoPlay ht_NoPlay ps_NoDepth_NoPlay) (is_own (PySem.W.mg_of X G ea_NoText) (kit_own hi_NoText ht_NoText ps_NoDepth_NoText hr_NoText) (exm_own hb_NoText hi_NoText ht_NoText ps_NoDepth_NoText) (is_own (PySem.W.mg_of X G ea_NoWay) (kit_own hi_NoWay ht_NoWay ps_NoDepth_NoWay hr_NoWay) (exm_own hb_NoWay hi_NoWay ht_NoWay ps_NoDepth_NoWay) (is_own (PySem.W.mg_of X G ea_NoRule) (kit_own hi_NoRule ht_NoRule ps_NoDepth_NoRule hr_NoRule) (exm_own hb_NoRule hi_NoRule ht_NoRule ps_NoDepth_NoRule) (is_own (PySem.W.mg_of X G ea_NoOrder) (kit_own hi_NoOrder ht_NoOrder ps_NoDepth_NoOrder hr_NoOrder) (exm_own hb_NoOrder hi_NoOrder ht_NoOrder ps_NoDepth_NoOrder) (is_own (PySem.W.mg_of X G ea_NoEnds) (kit_own hi_NoEnds ht_NoEnds ps_NoDepth_NoEnds hr_NoEnds) (exm_own hb_NoEnds hi_NoEnds ht_NoEnds ps_NoDepth_NoEnds) (is_own (PySem.W.mg_of X G ea_NoTree) (kit_own hi_NoTree ht_NoTree ps_NoDepth_NoTree hr_NoTree) (exm_own hb_NoTree hi_NoTree ht_NoTree ps_NoDepth_NoTree) (is_own (PySem.W.mg_of X G ea_NoWindow) (kit_own hi_NoWindow ht_NoWindow ps_NoDepth_NoWindow hr_NoWindow) (exm_own hb_NoWindow hi_NoWindow ht_NoWindow ps_NoDepth_NoWindow) (is_own (PySem.W.mg_of X G ea_TooMany) (kit_own hi_TooMany ht_TooMany ps_NoDepth_TooMany hr_TooMany) (exm_own hb_TooMany hi_TooMany ht_TooMany ps_NoDepth_TooMany) (is_own (PySem.W.mg_of X G ea_NoSize) (kit_own hi_NoSize ht_NoSize ps_NoDepth_NoSize hr_NoSize) (exm_own hb_NoSize hi_NoSize ht_NoSize ps_NoDepth_NoSize) (is_own (PySem.W.mg_of X G ea_NoStand) (kit_own hi_NoStand ht_NoStand ps_NoDepth_NoStand hr_NoStand) (exm_own hb_NoStand hi_NoStand ht_NoStand ps_NoDepth_NoStand) (is_own (PySem.W.mg_of X G ea_NoNumber) (kit_own hi_NoNumber ht_NoNumber ps_NoDepth_NoNumber hr_NoNumber) (exm_own hb_NoNumber hi_NoNumber ht_NoNumber ps_NoDepth_NoNumber) (is_own (PySem.W.mg_of X G ea_NoEnd) (kit_own hi_NoEnd ht_NoEnd ps_NoDepth_NoEnd hr_NoEnd) (exm_own hb_NoEnd hi_NoEnd ht_NoEnd ps_NoDepth_NoEnd) (is_own (PySem.W.mg_of X G ea_NoDepth) (kit_own hi_NoDepth ht_NoDepth ps_NoDepth_NoDepth hr_NoDepth) (exm_own hb_NoDepth hi_NoDepth ht_NoDepth ps_NoDepth_NoDepth) (is_own (PySem.W.mg_of X G ea_NoWorth) (kit_own hi_NoWorth ht_NoWorth ps_NoDepth_NoWorth hr_NoWorth) (exm_own hb_NoWorth hi_NoWorth ht_NoWorth ps_NoDepth_NoWorth) (is_own (PySem.W.mg_of X G ea_NoChange) (kit_own hi_NoChange ht_NoChange ps_NoDepth_NoChange hr_NoChange) (exm_own hb_NoChange hi_NoChange ht_NoChange ps_NoDepth_NoChange) (is_own (PySem.W.mg_of X G ea_NoRow) (kit_own hi_NoRow ht_NoRow ps_NoDepth_NoRow hr_NoRow) (exm_own hb_NoRow hi_NoRow ht_NoRow ps_NoDepth_NoRow) (is_own (PySem.W.mg_of X G ea_NoName) (kit_own hi_NoName ht_NoName ps_NoDepth_NoName hr_NoName) (exm_own hb_NoName hi_NoName ht_NoName ps_NoDepth_NoName) (is_own (PySem.W.mg_of X G ea_BoughError) (kit_own hi_BoughError ht_BoughError ps_NoDepth_BoughError hr_BoughError) (exm_own hb_BoughError hi_BoughError ht_BoughError ps_NoDepth_BoughError) (is_ve (PySem.W.mg_none_of X G zVE) (kit_bi vs_NoDepth) (exm_bi zVB vs_NoDepth) is_nil))))))))))))))))))))) (xc_cons (xc_of (PySem.W.mg_of X G ea_NoWorth) ek_NoWorth e1_NoWorth e2_NoWorth e3_NoWorth e4_NoWorth e5_NoWorth ex6 ex7 e8_NoWorth et_NoWorth eq_NoWorth (is_own (PySem.W.mg_of X G ea_NoPlay) (kit_own hi_NoPlay ht_NoPlay ps_NoWorth_NoPlay hr_NoPlay) (exm_own hb_NoPlay hi_NoPlay ht_NoPlay ps_NoWorth_NoPlay) (is_own (PySem.W.mg_of X G ea_NoText) (kit_own hi_NoText ht_NoText ps_NoWorth_NoText hr_NoText) (exm_own hb_NoText hi_NoText ht_NoText ps_NoWorth_NoText) (is_own (PySem.W.mg_of X G ea_NoWay) (kit_own hi_NoWay ht_NoWay ps_NoWorth_NoWay hr_NoWay) (exm_own hb_NoWay hi_NoWay ht_NoWay ps_NoWorth_NoWay) (is_own (PySem.W.mg_of X G ea_NoRule) (kit_own hi_NoRule ht_NoRule ps_NoWorth_NoRule hr_NoRule) (exm_own hb_NoRule hi_NoRule ht_NoRule ps_NoWorth_NoRule) (is_own (PySem.W.mg_of X G ea_NoOrder) (kit_own hi_NoOrder ht_NoOrder ps_NoWorth_NoOrder hr_NoOrder) (exm_own hb_NoOrder hi_NoOrder ht_NoOrder ps_NoWorth_NoOrder) (is_own (PySem.W.mg_of X G ea_NoEnds) (kit_own hi_NoEnds ht_NoEnds ps_NoWorth_NoEnds hr_NoEnds) (exm_own hb_NoEnds hi_NoEnds ht_NoEnds ps_NoWorth_NoEnds) (is_own (PySem.W.mg_of X G ea_NoTree) (kit_own hi_NoTree ht_NoTree ps_NoWorth_NoTree hr_NoTree) (exm_own hb_NoTree hi_NoTree ht_NoTree ps_NoWorth_NoTree) (is_own (PySem.W.mg_of X G ea_NoWindow) (kit_own hi_NoWindow ht_NoWindow ps_NoWorth_NoWindow hr_NoWindow) (exm_own hb_NoWindow hi_NoWindow ht_NoWindow ps_NoWorth_NoWindow) (is_own (PySem.W.mg_of X G ea_TooMany) (kit_own hi_TooMany ht_TooMany ps_NoWorth_TooMany hr_TooMany) (exm_own hb_TooMany hi_TooMany ht_TooMany ps_NoWorth_TooMany) (is_own (PySem.W.mg_of X G ea_NoSize) (kit_own hi_NoSize ht_NoSize ps_NoWorth_NoSize hr_NoSize) (exm_own hb_NoSize hi_NoSize ht_NoSize ps_NoWorth_NoSize) (is_own (PySem.W.mg_of X G ea_NoStand) (kit_own hi_NoStand ht_NoStand ps_NoWorth_NoStand hr_NoStand) (exm_own hb_NoStand hi_NoStand ht_NoStand ps_NoWorth_NoStand) (is_own (PySem.W.mg_of X G ea_NoNumber) (kit_own hi_NoNumber ht_NoNumber ps_NoWorth_NoNumber hr_NoNumber) (exm_own hb_NoNumber hi_NoNumber ht_NoNumber ps_NoWorth_NoNumber) (is_own (PySem.W.mg_of X G ea_NoEnd) (kit_own hi_NoEnd ht_NoEnd ps_NoWorth_NoEnd hr_NoEnd) (exm_own hb_NoEnd hi_NoEnd ht_NoEnd ps_NoWorth_NoEnd) (is_own (PySem.W.mg_of X G ea_NoDepth) (kit_own hi_NoDepth ht_NoDepth ps_NoWorth_NoDepth hr_NoDepth) (exm_own hb_NoDepth hi_NoDepth ht_NoDepth ps_NoWorth_NoDepth) (is_own (PySem.W.mg_of X G ea_NoWorth) (kit_own hi_NoWorth ht_NoWorth ps_NoWorth_NoWorth hr_NoWorth) (exm_own hb_NoWorth hi_NoWorth ht_NoWorth ps_NoWorth_NoWorth) (is_own (PySem.W.mg_of X G ea_NoChange) (kit_own hi_NoChange ht_NoChange ps_NoWorth_NoChange hr_NoChange) (exm_own hb_NoChange hi_NoChange ht_NoChange ps_NoWorth_NoChange) (is_own (PySem.W.mg_of X G ea_NoRow) (kit_own hi_NoRow ht_NoRow ps_NoWorth_NoRow hr_NoRow) (exm_own hb_NoRow hi_NoRow ht_NoRow ps_NoWorth_NoRow) (is_own (PySem.W.mg_of X G ea_NoName) (kit_own hi_NoName ht_NoName ps_NoWorth_NoName hr_NoName) (exm_own hb_NoName hi_NoName ht_NoName ps_NoWorth_NoName) (is_own (PySem.W.mg_of X G ea_BoughError) (kit_own hi_BoughError ht_BoughError ps_NoWorth_BoughError hr_BoughError) (exm_own hb_BoughError hi_BoughError ht_BoughError ps_NoWorth_BoughError) (is_ve (PySem.W.mg_none_of X G zVE) (kit_bi vs_NoWorth) (exm_bi zVB vs_NoWorth) is_nil))))))))))))))))))))) (xc_cons (xc_of (PySem.W.mg_of X G ea_NoChange) ek_NoChange e1_NoChange e2_NoChange e3_NoChange e4_NoChange e5_NoChange ex6 ex7 e8_NoChange et_NoChange eq_NoChange (is_own (PySem.W.mg_of X G ea_NoPlay) (kit_own hi_NoPlay ht_NoPlay ps_NoChange_NoPlay hr_NoPlay) (exm_own hb_NoPlay hi_NoPlay ht_NoPlay ps_NoChange_NoPlay) (is_own (PySem.W.mg_of X G ea_NoText) (kit_own hi_NoText ht_NoText ps_NoChange_NoText hr_NoText) (exm_own hb_NoText hi_NoText ht_NoText ps_NoChange_NoText) (is_own (PySem.W.mg_of X G ea_NoWay) (kit_own hi_NoWay ht_NoWay ps_NoChange_NoWay hr_NoWay) (exm_own hb_NoWay hi_NoWay ht_NoWay ps_NoChange_NoWay) (is_own (PySem.W.mg_of X G ea_NoRule) (kit_own hi_NoRule ht_NoRule ps_NoChange_NoRule hr_NoRule) (exm_own hb_NoRule hi_NoRule ht_NoRule ps_NoChange_NoRule) (is_own (PySem.W.mg_of X G ea_NoOrder) (kit_own hi_NoOrder ht_NoOrder ps_NoChange_NoOrder hr_NoOrder) (exm_own hb_NoOrder hi_NoOrder ht_NoOrder ps_NoChange_NoOrder) (is_own (PySem.W.mg_of X G ea_NoEnds) (kit_own hi_NoEnds ht_NoEnds ps_NoChange_NoEnds hr_NoEnds) (exm_own hb_NoEnds hi_NoEnds ht_NoEnds ps_NoChange_NoEnds) (is_own (PySem.W.mg_of X G ea_NoTree) (kit_own hi_NoTree ht_NoTree ps_NoChange_NoTree hr_NoTree) (exm_own hb_NoTree hi_NoTree ht_NoTree ps_NoChange_NoTree) (is_own (PySem.W.mg_of X G ea_NoWindow) (kit_own hi_NoWindow ht_NoWindow ps_NoChange_NoWindow hr_NoWindow) (exm_own hb_NoWindow hi_NoWindow ht_NoWindow ps_NoChange_NoWindow) (is_own (PySem.W.mg_of X G ea_TooMany) (kit_own hi_TooMany ht_TooMany ps_NoChange_TooMany hr_TooMany) (exm_own hb_TooMany hi_TooMany ht_TooMany ps_NoChange_TooMany) (is_own (PySem.W.mg_of X G ea_NoSize) (kit_own hi_NoSize ht_NoSize ps_NoChange_NoSize hr_NoSize) (exm_own hb_NoSize hi_NoSize ht_NoSize ps_NoChange_NoSize) (is_own (PySem.W.mg_of X G ea_NoStand) (kit_own hi_NoStand ht_NoStand ps_NoChange_NoStand hr_NoStand) (exm_own hb_NoStand hi_NoStand ht_NoStand ps_NoChange_NoStand) (is_own (PySem.W.mg_of X G ea_NoNumber) (kit_own hi_NoNumber ht_NoNumber ps_NoChange_NoNumber hr_NoNumber) (exm_own hb_NoNumber hi_NoNumber ht_NoNumber ps_NoChange_NoNumber) (is_own (PySem.W.mg_of X G ea_NoEnd) (kit_own hi_NoEnd ht_NoEnd ps_NoChange_NoEnd hr_NoEnd) (exm_own hb_NoEnd hi_NoEnd ht_NoEnd ps_NoChange_NoEnd) (is_own (PySem.W.mg_of X G ea_NoDepth) (kit_own hi_NoDepth ht_NoDepth ps_NoChange_NoDepth hr_NoDepth) (exm_own hb_NoDepth hi_NoDepth ht_NoDepth ps_NoChange_NoDepth) (is_own (PySem.W.mg_of X G ea_NoWorth) (kit_own hi_NoWorth ht_NoWorth ps_NoChange_NoWorth hr_NoWorth) (exm_own hb_NoWorth hi_NoWorth ht_NoWorth ps_NoChange_NoWorth) (is_own (PySem.W.mg_of X G ea_NoChange) (kit_own hi_NoChange ht_NoChange ps_NoChange_NoChange hr_NoChange) (exm_own hb_NoChange hi_NoChange ht_NoChange ps_NoChange_NoChange) (is_own (PySem.W.mg_of X G ea_NoRow) (kit_own hi_NoRow ht_NoRow ps_NoChange_NoRow hr_NoRow) (exm_own hb_NoRow hi_NoRow ht_NoRow ps_NoChange_NoRow) (is_own (PySem.W.mg_of X G ea_NoName) (kit_own hi_NoName ht_NoName ps_NoChange_NoName hr_NoName) (exm_own hb_NoName hi_NoName ht_NoName ps_NoChange_NoName) (is_own (PySem.W.mg_of X G ea_BoughError) (kit_own hi_BoughError ht_BoughError ps_NoChange_BoughError hr_BoughError) (exm_own hb_BoughError hi_BoughError ht_BoughError ps_NoChange_BoughError) (is_ve (PySem.W.mg_none_of X G zVE) (kit_bi vs_NoChange) (exm_bi zVB vs_NoChange) is_nil))))))))))))))))))))) (xc_cons (xc_of (PySem.W.mg_of X G ea_NoRow) ek_NoRow e1_NoRow e2_NoRow e3_NoRow e4_NoRow e5_NoRow ex6 ex7 e8_NoRow et_NoRow eq_NoRow (is_own (PySem.W.mg_of X G ea_NoPlay) (kit_own hi_NoPlay ht_NoPlay ps_NoRow_NoPlay hr_NoPlay) (exm_own hb_NoPlay hi_NoPlay ht_NoPlay ps_NoRow_NoPlay) (is_own (PySem.W.mg_of X G ea_NoText) (kit_own hi_NoText ht_NoText ps_NoRow_NoText hr_NoText) (exm_own hb_NoText hi_NoText ht_NoText ps_NoRow_NoText) (is_own (PySem.W.mg_of X G ea_NoWay) (kit_own hi_NoWay ht_NoWay ps_NoRow_NoWay hr_NoWay) (exm_own hb_NoWay hi_NoWay ht_NoWay ps_NoRow_NoWay) (is_own (PySem.W.mg_of X G ea_NoRule) (kit_own hi_NoRule ht_NoRule ps_NoRow_NoRule hr_NoRule) (exm_own hb_NoRule hi_NoRule ht_NoRule ps_NoRow_NoRule) (is_own (PySem.W.mg_of X G ea_NoOrder) (kit_own hi_NoOrder ht_NoOrder ps_NoRow_NoOrder hr_NoOrder) (exm_own hb_NoOrder hi_NoOrder ht_NoOrder ps_NoRow_NoOrder) (is_own (PySem.W.mg_of X G ea_NoEnds) (kit_own hi_NoEnds ht_NoEnds ps_NoRow_NoEnds hr_NoEnds) (exm_own hb_NoEnds hi_NoEnds ht_NoEnds ps_NoRow_NoEnds) (is_own (PySem.W.mg_of X G ea_NoTree) (kit_own hi_NoTree ht_NoTree ps_NoRow_NoTree hr_NoTree) (exm_own hb_NoTree hi_NoTree ht_NoTree ps_NoRow_NoTree) (is_own (PySem.W.mg_of X G ea_NoWindow) (kit_own hi_NoWindow ht_NoWindow ps_NoRow_NoWindow hr_NoWindow) (exm_own hb_NoWindow hi_NoWindow ht_NoWindow ps_NoRow_NoWindow) (is_own (PySem.W.mg_of X G ea_TooMany) (kit_own hi_TooMany ht_TooMany ps_NoRow_TooMany hr_TooMany) (exm_own hb_TooMany hi_TooMany ht_TooMany ps_NoRow_TooMany) (is_own (PySem.W.mg_of X G ea_NoSize) (kit_own hi_NoSize ht_NoSize ps_NoRow_NoSize hr_NoSize) (exm_own hb_NoSize hi_NoSize ht_NoSize ps_NoRow_NoSize) (is_own (PySem.W.mg_of X G ea_NoStand) (kit_own hi_NoStand ht_NoStand ps_NoRow_NoStand hr_NoStand) (exm_own hb_NoStand hi_NoStand ht_NoStand ps_NoRow_NoStand) (is_own (PySem.W.mg_of X G ea_NoNumber) (kit_own hi_NoNumber ht_NoNumber ps_NoRow_NoNumber hr_NoNumber) (exm_own hb_NoNumber hi_NoNumber ht_NoNumber ps_NoRow_NoNumber) (is_own (PySem.W.mg_of X G ea_NoEnd) (kit_own hi_NoEnd ht_NoEnd ps_NoRow_NoEnd hr_NoEnd) (exm_own hb_NoEnd hi_NoEnd ht_NoEnd ps_NoRow_NoEnd) (is_own (PySem.W.mg_of X G ea_NoDepth) (kit_own hi_NoDepth ht_NoDepth ps_NoRow_NoDepth hr_NoDepth) (exm_own hb_NoDepth hi_NoDepth ht_NoDepth ps_NoRow_NoDepth) (is_own (PySem.W.mg_of X G ea_NoWorth) (kit_own hi_NoWorth ht_NoWorth ps_NoRow_NoWorth hr_NoWorth) (exm_own hb_NoWorth hi_NoWorth ht_NoWorth ps_NoRow_NoWorth) (is_own (PySem.W.mg_of X G ea_NoChange) (kit_own hi_NoChange ht_NoChange ps_NoRow_NoChange hr_NoChange) (exm_own hb_NoChange hi_NoChange ht_NoChange ps_NoRow_NoChange) (is_own (PySem.W.mg_of X G ea_NoRow) (kit_own hi_NoRow ht_NoRow ps_NoRow_NoRow hr_NoRow) (exm_own hb_NoRow hi_NoRow ht_NoRow ps_NoRow_NoRow) (is_own (PySem.W.mg_of X G ea_NoName) (kit_own hi_NoName ht_NoName ps_NoRow_NoName hr_NoName) (exm_own hb_NoName hi_NoName ht_NoName ps_NoRow_NoName) (is_own (PySem.W.mg_of X G ea_BoughError) (kit_own hi_BoughError ht_BoughError ps_NoRow_BoughError hr_BoughError) (exm_own hb_BoughError hi_BoughError ht_BoughError ps_NoRow_BoughError) (is_ve (PySem.W.mg_none_of X G zVE) (kit_bi vs_NoRow) (exm_bi zVB vs_NoRow) is_nil))))))))))))))))))))) (xc_cons (xc_of (PySem.W.mg_of X G ea_NoName) ek_NoName e1_NoName e2_NoName e3_NoName e4_NoName e5_NoName ex6 ex7 e8_NoName et_NoName eq_NoName (is_own (PySem.W.mg_of X G ea_NoPlay) (kit_own hi_NoPlay ht_NoPlay ps_NoName_NoPlay hr_NoPlay) (exm_own hb_NoPlay hi_NoPlay ht_NoPlay ps_NoName_NoPlay) (is_own (PySem.W.mg_of X G ea_NoText) (kit_own hi_NoText ht_NoText ps_NoName_NoText hr_NoText) (exm_own hb_NoText hi_NoText ht_NoText ps_NoName_NoText) (is_own (PySem.W.mg_of X G ea_NoWay) (kit_own hi_NoWay ht_NoWay ps_NoName_NoWay hr_NoWay) (exm_own hb_NoWay hi_NoWay ht_NoWay ps_NoName_NoWay) (is_own (PySem.W.mg_of X G ea_NoRule) (kit_own hi_NoRule ht_NoRule ps_NoName_NoRule hr_NoRule) (exm_own hb_NoRule hi_NoRule ht_NoRule ps_NoName_NoRule) (is_own (PySem.W.mg_of X G ea_NoOrder) (kit_own hi_NoOrder ht_NoOrder ps_NoName_NoOrder hr_NoOrder) (exm_own hb_NoOrder hi_NoOrder ht_NoOrder ps_NoName_NoOrder) (is_own (PySem.W.mg_of X G ea_NoEnds) (kit_own hi_NoEnds ht_NoEnds ps_NoName_NoEnds hr_NoEnds) (exm_own hb_NoEnds hi_NoEnds ht_NoEnds ps_NoName_NoEnds) (is_own (PySem.W.mg_of X G ea_NoTree) (kit_own hi_NoTree ht_NoTree ps_NoName_NoTree hr_NoTree) (exm_own hb_NoTree hi_NoTree ht_NoTree ps_NoName_NoTree) (is_own (PySem.W.mg_of X G ea_NoWindow) (kit_own hi_NoWindow ht_NoWindow ps_NoName_NoWindow hr_NoWindow) (exm_own hb_NoWindow hi_NoWindow ht_NoWindow ps_NoName_NoWindow) (is_own (PySem.W.mg_of X G ea_TooMany) (kit_own hi_TooMany ht_TooMany ps_NoName_TooMany hr_TooMany) (exm_own hb_TooMany hi_TooMany ht_TooMany ps_NoName_TooMany) (is_own (PySem.W.mg_of X G ea_NoSize) (kit_own hi_NoSize ht_NoSize ps_NoName_NoSize hr_NoSize) (exm_own hb_NoSize hi_NoSize ht_NoSize ps_NoName_NoSize) (is_own (PySem.W.mg_of X G ea_NoStand) (kit_own hi_NoStand ht_NoStand ps_NoName_NoStand hr_NoStand) (exm_own hb_NoStand hi_NoStand ht_NoStand ps_NoName_NoStand) (is_own (PySem.W.mg_of X G ea_NoNumber) (kit_own hi_NoNumber ht_NoNumber ps_NoName_NoNumber hr_NoNumber) (exm_own hb_NoNumber hi_NoNumber ht_NoNumber ps_NoName_NoNumber) (is_own (PySem.W.mg_of X G ea_NoEnd) (kit_own hi_NoEnd ht_NoEnd ps_NoName_NoEnd hr_NoEnd) (exm_own hb_NoEnd hi_NoEnd ht_NoEnd ps_NoName_NoEnd) (is_own (PySem.W.mg_of X G ea_NoDepth) (kit_own hi_NoDepth ht_NoDepth ps_NoName_NoDepth hr_NoDepth) (exm_own hb_NoDepth hi_NoDepth ht_NoDepth ps_NoName_NoDepth) (is_own (PySem.W.mg_of X G ea_NoWorth) (kit_own hi_NoWorth ht_NoWorth ps_NoName_NoWorth hr_NoWorth) (exm_own hb_NoWorth hi_NoWorth ht_NoWorth ps_NoName_NoWorth) (is_own (PySem.W.mg_of X G ea_NoChange) (kit_own hi_NoChange ht_NoChange ps_NoName_NoChange hr_NoChange) (exm_own hb_NoChange hi_NoChange ht_NoChange ps_NoName_NoChange) (is_own (PySem.W.mg_of X G ea_NoRow) (kit_own hi_NoRow ht_NoRow ps_NoName_NoRow hr_NoRow) (exm_own hb_NoRow hi_NoRow ht_NoRow ps_NoName_NoRow) (is_own (PySem.W.mg_of X G ea_NoName) (kit_own hi_NoName ht_NoName ps_NoName_NoName hr_NoName) (exm_own hb_NoName hi_NoName ht_NoName ps_NoName_NoName) (is_own (PySem.W.mg_of X G ea_BoughError) (kit_own hi_BoughError ht_BoughError ps_NoName_BoughError hr_BoughError) (exm_own hb_BoughError hi_BoughError ht_BoughError ps_NoName_BoughError) (is_ve (PySem.W.mg_none_of X G zVE) (kit_bi vs_NoName) (exm_bi zVB vs_NoName) is_nil))))))))))))))))))))) xc_nil)))))))))))))))), (fun _ _ h => by cases h), (xo_cons (xo_of (PySem.W.mg_of X G ea_NoPlay) ek_NoPlay (oex_of ol_NoPlay sa_NoPlay e3_NoPlay et_NoPlay ek_NoPlay) e1_NoPlay e2_NoPlay e3_NoPlay e4_NoPlay e5_NoPlay ex6 ex7 e8_NoPlay no_NoPlay (isx_own (PySem.W.mg_of X G ea_NoPlay) (kit_own hi_NoPlay ht_NoPlay ps_NoPlay_NoPlay hr_NoPlay) (isx_own (PySem.W.mg_of X G ea_NoText) (kit_own hi_NoText ht_NoText ps_NoPlay_NoText hr_NoText) (isx_own (PySem.W.mg_of X G ea_NoWay) (kit_own hi_NoWay ht_NoWay ps_NoPlay_NoWay hr_NoWay) (isx_own (PySem.W.mg_of X G ea_NoRule) (kit_own hi_NoRule ht_NoRule ps_NoPlay_NoRule hr_NoRule) (isx_own (PySem.W.mg_of X G ea_NoOrder) (kit_own hi_NoOrder ht_NoOrder ps_NoPlay_NoOrder hr_NoOrder) (isx_own (PySem.W.mg_of X G ea_NoEnds) (kit_own hi_NoEnds ht_NoEnds ps_NoPlay_NoEnds hr_NoEnds) (isx_own (PySem.W.mg_of X G ea_NoTree) (kit_own hi_NoTree ht_NoTree ps_NoPlay_NoTree hr_NoTree) (isx_own (PySem.W.mg_of X G ea_NoWindow) (kit_own hi_NoWindow ht_NoWindow ps_NoPlay_NoWindow hr_NoWindow) (isx_own (PySem.W.mg_of X G ea_TooMany) (kit_own hi_TooMany ht_TooMany ps_NoPlay_TooMany hr_TooMany) (isx_own (PySem.W.mg_of X G ea_NoSize) (kit_own hi_NoSize ht_NoSize ps_NoPlay_NoSize hr_NoSize) (isx_own (PySem.W.mg_of X G ea_NoStand) (kit_own hi_NoStand ht_NoStand ps_NoPlay_NoStand hr_NoStand) (isx_own (PySem.W.mg_of X G ea_NoNumber) (kit_own hi_NoNumber ht_NoNumber ps_NoPlay_NoNumber hr_NoNumber) (isx_own (PySem.W.mg_of X G ea_NoEnd) (kit_own hi_NoEnd ht_NoEnd ps_NoPlay_NoEnd hr_NoEnd) (isx_own (PySem.W.mg_of X G ea_NoDepth) (kit_own hi_NoDepth ht_NoDepth ps_NoPlay_NoDepth hr_NoDepth) (isx_own (PySem.W.mg_of X G ea_NoWorth) (kit_own hi_NoWorth ht_NoWorth ps_NoPlay_NoWorth hr_NoWorth) (isx_own (PySem.W.mg_of X G ea_NoChange) (kit_own hi_NoChange ht_NoChange ps_NoPlay_NoChange hr_NoChange) (isx_own (PySem.W.mg_of X G ea_NoRow) (kit_own hi_NoRow ht_NoRow ps_NoPlay_NoRow hr_NoRow) (isx_own (PySem.W.mg_of X G ea_NoName) (kit_own hi_NoName ht_NoName ps_NoPlay_NoName hr_NoName) (isx_own (PySem.W.mg_of X G ea_BoughError) (kit_own hi_BoughError ht_BoughError ps_NoPlay_BoughError hr_BoughError) (isx_ve (PySem.W.mg_none_of X G zVE) (kit_bi vs_NoPlay) isx_nil)))))))))))))))))))) a5 i5 (fnI_ok (k := 0) F5 sc_NoPlay_init (initBB_ok ib_NoPlay_init) (oex_of ol_NoPlay sa_NoPlay e3_NoPlay et_NoPlay ek_NoPlay) no_NoPlay (PySem.W.mg_of X G ea_BoughError) rd_BoughError sg_BoughError (fcG_ok fc_BoughError) (by decide +kernel) (by decide +kernel) (by decide +kernel) (by decide +kernel)) b5 (by decide)) (xo_cons (xo_of (PySem.W.mg_of X G ea_NoText) ek_NoText (oex_of ol_NoText sa_NoText e3_NoText et_NoText ek_NoText) e1_NoText e2_NoText e3_NoText e4_NoText e5_NoText ex6 ex7 e8_NoText no_NoText (isx_own (PySem.W.mg_of X G ea_NoPlay) (kit_own hi_NoPlay ht_NoPlay ps_NoText_NoPlay hr_NoPlay) (isx_own (PySem.W.mg_of X G ea_NoText) (kit_own hi_NoText ht_NoText ps_NoText_NoText hr_NoText) (isx_own (PySem.W.mg_of X G ea_NoWay) (kit_own hi_NoWay ht_NoWay ps_NoText_NoWay hr_NoWay) (isx_own (PySem.W.mg_of X G ea_NoRule) (kit_own hi_NoRule ht_NoRule ps_NoText_NoRule hr_NoRule) (isx_own (PySem.W.mg_of X G ea_NoOrder) (kit_own hi_NoOrder ht_NoOrder ps_NoText_NoOrder hr_NoOrder) (isx_own (PySem.W.mg_of X G ea_NoEnds) (kit_own hi_NoEnds ht_NoEnds ps_NoText_NoEnds hr_NoEnds) (isx_own (PySem.W.mg_of X G ea_NoTree) (kit_own hi_NoTree ht_NoTree ps_NoText_NoTree hr_NoTree) (isx_own (PySem.W.mg_of X G ea_NoWindow) (kit_own hi_NoWindow ht_NoWindow ps_NoText_NoWindow hr_NoWindow) (isx_own (PySem.W.mg_of X G ea_TooMany) (kit_own hi_TooMany ht_TooMany ps_NoText_TooMany hr_TooMany) (isx_own (PySem.W.mg_of X G ea_NoSize) (kit_own hi_NoSize ht_NoSize ps_NoText_NoSize hr_NoSize) (isx_own (PySem.W.mg_of X G ea_NoStand) (kit_own hi_NoStand ht_NoStand ps_NoText_NoStand hr_NoStand) (isx_own (PySem.W.mg_of X G ea_NoNumber) (kit_own hi_NoNumber ht_NoNumber ps_NoText_NoNumber hr_NoNumber) (isx_own (PySem.W.mg_of X G ea_NoEnd) (kit_own hi_NoEnd ht_NoEnd ps_NoText_NoEnd hr_NoEnd) (isx_own (PySem.W.mg_of X G ea_NoDepth) (kit_own hi_NoDepth ht_NoDepth ps_NoText_NoDepth hr_NoDepth) (isx_own (PySem.W.mg_of X G ea_NoWorth) (kit_own hi_NoWorth ht_NoWorth ps_NoText_NoWorth hr_NoWorth) (isx_own (PySem.W.mg_of X G ea_NoChange) (kit_own hi_NoChange ht_NoChange ps_NoText_NoChange hr_NoChange) (isx_own (PySem.W.mg_of X G ea_NoRow) (kit_own hi_NoRow ht_NoRow ps_NoText_NoRow hr_NoRow) (isx_own (PySem.W.mg_of X G ea_NoName) (kit_own hi_NoName ht_NoName ps_NoText_NoName hr_NoName) (isx_own (PySem.W.mg_of X G ea_BoughError) (kit_own hi_BoughError ht_BoughError ps_NoText_BoughError hr_BoughError) (isx_ve (PySem.W.mg_none_of X G zVE) (kit_bi vs_NoText) isx_nil)))))))))))))))))))) a6 i6 (fnI_ok (k := 0) F6 sc_NoText_init (initBB_ok ib_NoText_init) (oex_of ol_NoText sa_NoText e3_NoText et_NoText ek_NoText) no_NoText (PySem.W.mg_of X G ea_BoughError) rd_BoughError sg_BoughError (fcG_ok fc_BoughError) (by decide +kernel) (by decide +kernel) (by decide +kernel) (by decide +kernel)) b6 (by decide)) xo_nil)), (fun _ h => by cases h)⟩) rfl ch_law_sorts (w_law_sorts e_NoPlay e_NoText e_NoWay e_NoRule e_NoOrder e_NoEnds e_NoTree e_NoWindow e_TooMany e_NoSize e_NoStand e_NoNumber e_NoEnd e_NoDepth e_NoWorth e_NoChange e_NoRow e_NoName)
  exact fn_ok F4 sc_law rfl (show GOk l.prog w K mg base (Gm_law e_NoPlay e_NoText e_NoWay e_NoRule e_NoOrder e_NoEnds e_NoTree e_NoWindow e_TooMany e_NoSize e_NoStand e_NoNumber e_NoEnd e_NoDepth e_NoWorth e_NoChange e_NoRow e_NoName) 3 from ⟨gl_nil, (bi_cons (PySem.W.mg_none_of X G z3) (bi_cons (PySem.W.mg_none_of X G z2) bi_nil)), (fns_cons (I0.mono (by decide)) (fns_cons (I1.mono (by decide)) (fns_cons (I2.mono (by decide)) (fns_cons (I3.mono (by decide)) fns_nil)))), cl_nil, xfns_nil, xcl_nil, (xc_cons (xc_of (PySem.W.mg_of X G ea_NoWay) ek_NoWay e1_NoWay e2_NoWay e3_NoWay e4_NoWay e5_NoWay ex6 ex7 e8_NoWay et_NoWay eq_NoWay (is_own (PySem.W.mg_of X G ea_NoPlay) (kit_own hi_NoPlay ht_NoPlay ps_NoWay_NoPlay hr_NoPlay) (exm_own hb_NoPlay hi_NoPlay ht_NoPlay ps_NoWay_NoPlay) (is_own (PySem.W.mg_of X G ea_NoText) (kit_own hi_NoText ht_NoText ps_NoWay_NoText hr_NoText) (exm_own hb_NoText hi_NoText ht_NoText ps_NoWay_NoText) (is_own (PySem.W.mg_of X G ea_NoWay) (kit_own hi_NoWay ht_NoWay ps_NoWay_NoWay hr_NoWay) (exm_own hb_NoWay hi_NoWay ht_NoWay ps_NoWay_NoWay) (is_own (PySem.W.mg_of X G ea_NoRule) (kit_own hi_NoRule ht_NoRule ps_NoWay_NoRule hr_NoRule) (exm_own hb_NoRule hi_NoRule ht_NoRule ps_NoWay_NoRule) (is_own (PySem.W.mg_of X G ea_NoOrder) (kit_own hi_NoOrder ht_NoOrder ps_NoWay_NoOrder hr_NoOrder) (exm_own hb_NoOrder hi_NoOrder ht_NoOrder ps_NoWay_NoOrder) (is_own (PySem.W.mg_of X G ea_NoEnds) (kit_own hi_NoEnds ht_NoEnds ps_NoWay_NoEnds hr_NoEnds) (exm_own hb_NoEnds hi_NoEnds ht_NoEnds ps_NoWay_NoEnds) (is_own (PySem.W.mg_of X G ea_NoTree) (kit_own hi_NoTree ht_NoTree ps_NoWay_NoTree hr_NoTree) (exm_own hb_NoTree hi_NoTree ht_NoTree ps_NoWay_NoTree) (is_own (PySem.W.mg_of X G ea_NoWindow) (kit_own hi_NoWindow ht_NoWindow ps_NoWay_NoWindow hr_NoWindow) (exm_own hb_NoWindow hi_NoWindow ht_NoWindow ps_NoWay_NoWindow) (is_own (PySem.W.mg_of X G ea_TooMany) (kit_own hi_TooMany ht_TooMany ps_NoWay_TooMany hr_TooMany) (exm_own hb_TooMany hi_TooMany ht_TooMany ps_NoWay_TooMany) (is_own (PySem.W.mg_of X G ea_NoSize) (kit_own hi_NoSize ht_NoSize ps_NoWay_NoSize hr_NoSize) (exm_own hb_NoSize hi_NoSize ht_NoSize ps_NoWay_NoSize) (is_own (PySem.W.mg_of X G ea_NoStand) (kit_own hi_NoStand ht_NoStand ps_NoWay_NoStand hr_NoStand) (exm_own hb_NoStand hi_NoStand ht_NoStand ps_NoWay_NoStand) (is_own (PySem.W.mg_of X G ea_NoNumber) (kit_own hi_NoNumber ht_NoNumber ps_NoWay_NoNumber hr_NoNumber) (exm_own hb_NoNumber hi_NoNumber ht_NoNumber ps_NoWay_NoNumber) (is_own (PySem.W.mg_of X G ea_NoEnd) (kit_own hi_NoEnd ht_NoEnd ps_NoWay_NoEnd hr_NoEnd) (exm_own hb_NoEnd hi_NoEnd ht_NoEnd ps_NoWay_NoEnd) (is_own (PySem.W.mg_of X G ea_NoDepth) (kit_own hi_NoDepth ht_NoDepth ps_NoWay_NoDepth hr_NoDepth) (exm_own hb_NoDepth hi_NoDepth ht_NoDepth ps_NoWay_NoDepth) (is_own (PySem.W.mg_of X G ea_NoWorth) (kit_own hi_NoWorth ht_NoWorth ps_NoWay_NoWorth hr_NoWorth) (exm_own hb_NoWorth hi_NoWorth ht_NoWorth ps_NoWay_NoWorth) (is_own (PySem.W.mg_of X G ea_NoChange) (kit_own hi_NoChange ht_NoChange ps_NoWay_NoChange hr_NoChange) (exm_own hb_NoChange hi_NoChange ht_NoChange ps_NoWay_NoChange) (is_own (PySem.W.mg_of X G ea_NoRow) (kit_own hi_NoRow ht_NoRow ps_NoWay_NoRow hr_NoRow) (exm_own hb_NoRow hi_NoRow ht_NoRow ps_NoWay_NoRow) (is_own (PySem.W.mg_of X G ea_NoName) (kit_own hi_NoName ht_NoName ps_NoWay_NoName hr_NoName) (exm_own hb_NoName hi_NoName ht_NoName ps_NoWay_NoName) (is_own (PySem.W.mg_of X G ea_BoughError) (kit_own hi_BoughError ht_BoughError ps_NoWay_BoughError hr_BoughError) (exm_own hb_BoughError hi_BoughError ht_BoughError ps_NoWay_BoughError) (is_ve (PySem.W.mg_none_of X G zVE) (kit_bi vs_NoWay) (exm_bi zVB vs_NoWay) is_nil))))))))))))))))))))) (xc_cons (xc_of (PySem.W.mg_of X G ea_NoRule) ek_NoRule e1_NoRule e2_NoRule e3_NoRule e4_NoRule e5_NoRule ex6 ex7 e8_NoRule et_NoRule eq_NoRule (is_own (PySem.W.mg_of X G ea_NoPlay) (kit_own hi_NoPlay ht_NoPlay ps_NoRule_NoPlay hr_NoPlay) (exm_own hb_NoPlay hi_NoPlay ht_NoPlay ps_NoRule_NoPlay) (is_own (PySem.W.mg_of X G ea_NoText) (kit_own hi_NoText ht_NoText ps_NoRule_NoText hr_NoText) (exm_own hb_NoText hi_NoText ht_NoText ps_NoRule_NoText) (is_own (PySem.W.mg_of X G ea_NoWay) (kit_own hi_NoWay ht_NoWay ps_NoRule_NoWay hr_NoWay) (exm_own hb_NoWay hi_NoWay ht_NoWay ps_NoRule_NoWay) (is_own (PySem.W.mg_of X G ea_NoRule) (kit_own hi_NoRule ht_NoRule ps_NoRule_NoRule hr_NoRule) (exm_own hb_NoRule hi_NoRule ht_NoRule ps_NoRule_NoRule) (is_own (PySem.W.mg_of X G ea_NoOrder) (kit_own hi_NoOrder ht_NoOrder ps_NoRule_NoOrder hr_NoOrder) (exm_own hb_NoOrder hi_NoOrder ht_NoOrder ps_NoRule_NoOrder) (is_own (PySem.W.mg_of X G ea_NoEnds) (kit_own hi_NoEnds ht_NoEnds ps_NoRule_NoEnds hr_NoEnds) (exm_own hb_NoEnds hi_NoEnds ht_NoEnds ps_NoRule_NoEnds) (is_own (PySem.W.mg_of X G ea_NoTree) (kit_own hi_NoTree ht_NoTree ps_NoRule_NoTree hr_NoTree) (exm_own hb_NoTree hi_NoTree ht_NoTree ps_NoRule_NoTree) (is_own (PySem.W.mg_of X G ea_NoWindow) (kit_own hi_NoWindow ht_NoWindow ps_NoRule_NoWindow hr_NoWindow) (exm_own hb_NoWindow hi_NoWindow ht_NoWindow ps_NoRule_NoWindow) (is_own (PySem.W.mg_of X G ea_TooMany) (kit_own hi_TooMany ht_TooMany ps_NoRule_TooMany hr_TooMany) (exm_own hb_TooMany hi_TooMany ht_TooMany ps_NoRule_TooMany) (is_own (PySem.W.mg_of X G ea_NoSize) (kit_own hi_NoSize ht_NoSize ps_NoRule_NoSize hr_NoSize) (exm_own hb_NoSize hi_NoSize ht_NoSize ps_NoRule_NoSize) (is_own (PySem.W.mg_of X G ea_NoStand) (kit_own hi_NoStand ht_NoStand ps_NoRule_NoStand hr_NoStand) (exm_own hb_NoStand hi_NoStand ht_NoStand ps_NoRule_NoStand) (is_own (PySem.W.mg_of X G ea_NoNumber) (kit_own hi_NoNumber ht_NoNumber ps_NoRule_NoNumber hr_NoNumber) (exm_own hb_NoNumber hi_NoNumber ht_NoNumber ps_NoRule_NoNumber) (is_own (PySem.W.mg_of X G ea_NoEnd) (kit_own hi_NoEnd ht_NoEnd ps_NoRule_NoEnd hr_NoEnd) (exm_own hb_NoEnd hi_NoEnd ht_NoEnd ps_NoRule_NoEnd) (is_own (PySem.W.mg_of X G ea_NoDepth) (kit_own hi_NoDepth ht_NoDepth ps_NoRule_NoDepth hr_NoDepth) (exm_own hb_NoDepth hi_NoDepth ht_NoDepth ps_NoRule_NoDepth) (is_own (PySem.W.mg_of X G ea_NoWorth) (kit_own hi_NoWorth ht_NoWorth ps_NoRule_NoWorth hr_NoWorth) (exm_own hb_NoWorth hi_NoWorth ht_NoWorth ps_NoRule_NoWorth) (is_own (PySem.W.mg_of X G ea_NoChange) (kit_own hi_NoChange ht_NoChange ps_NoRule_NoChange hr_NoChange) (exm_own hb_NoChange hi_NoChange ht_NoChange ps_NoRule_NoChange) (is_own (PySem.W.mg_of X G ea_NoRow) (kit_own hi_NoRow ht_NoRow ps_NoRule_NoRow hr_NoRow) (exm_own hb_NoRow hi_NoRow ht_NoRow ps_NoRule_NoRow) (is_own (PySem.W.mg_of X G ea_NoName) (kit_own hi_NoName ht_NoName ps_NoRule_NoName hr_NoName) (exm_own hb_NoName hi_NoName ht_NoName ps_NoRule_NoName) (is_own (PySem.W.mg_of X G ea_BoughError) (kit_own hi_BoughError ht_BoughError ps_NoRule_BoughError hr_BoughError) (exm_own hb_BoughError hi_BoughError ht_BoughError ps_NoRule_BoughError) (is_ve (PySem.W.mg_none_of X G zVE) (kit_bi vs_NoRule) (exm_bi zVB vs_NoRule) is_nil))))))))))))))))))))) (xc_cons (xc_of (PySem.W.mg_of X G ea_NoOrder) ek_NoOrder e1_NoOrder e2_NoOrder e3_NoOrder e4_NoOrder e5_NoOrder ex6 ex7 e8_NoOrder et_NoOrder eq_NoOrder (is_own (PySem.W.mg_of X G ea_NoPlay) (kit_own hi_NoPlay ht_NoPlay ps_NoOrder_NoPlay hr_NoPlay) (exm_own hb_NoPlay hi_NoPlay ht_NoPlay ps_NoOrder_NoPlay) (is_own (PySem.W.mg_of X G ea_NoText) (kit_own hi_NoText ht_NoText ps_NoOrder_NoText hr_NoText) (exm_own hb_NoText hi_NoText ht_NoText ps_NoOrder_NoText) (is_own (PySem.W.mg_of X G ea_NoWay) (kit_own hi_NoWay ht_NoWay ps_NoOrder_NoWay hr_NoWay) (exm_own hb_NoWay hi_NoWay ht_NoWay ps_NoOrder_NoWay) (is_own (PySem.W.mg_of X G ea_NoRule) (kit_own hi_NoRule ht_NoRule ps_NoOrder_NoRule hr_NoRule) (exm_own hb_NoRule hi_NoRule ht_NoRule ps_NoOrder_NoRule) (is_own (PySem.W.mg_of X G ea_NoOrder) (kit_own hi_NoOrder ht_NoOrder ps_NoOrder_NoOrder hr_NoOrder) (exm_own hb_NoOrder hi_NoOrder ht_NoOrder ps_NoOrder_NoOrder) (is_own (PySem.W.mg_of X G ea_NoEnds) (kit_own hi_NoEnds ht_NoEnds ps_NoOrder_NoEnds hr_NoEnds) (exm_own hb_NoEnds hi_NoEnds ht_NoEnds ps_NoOrder_NoEnds) (is_own (PySem.W.mg_of X G ea_NoTree) (kit_own hi_NoTree ht_NoTree ps_NoOrder_NoTree hr_NoTree) (exm_own hb_NoTree hi_NoTree ht_NoTree ps_NoOrder_NoTree) (is_own (PySem.W.mg_of X G ea_NoWindow) (kit_own hi_NoWindow ht_NoWindow ps_NoOrder_NoWindow hr_NoWindow) (exm_own hb_NoWindow hi_NoWindow ht_NoWindow ps_NoOrder_NoWindow) (is_own (PySem.W.mg_of X G ea_TooMany) (kit_own hi_TooMany ht_TooMany ps_NoOrder_TooMany hr_TooMany) (exm_own hb_TooMany hi_TooMany ht_TooMany ps_NoOrder_TooMany) (is_own (PySem.W.mg_of X G ea_NoSize) (kit_own hi_NoSize ht_NoSize ps_NoOrder_NoSize hr_NoSize) (exm_own hb_NoSize hi_NoSize ht_NoSize ps_NoOrder_NoSize) (is_own (PySem.W.mg_of X G ea_NoStand) (kit_own hi_NoStand ht_NoStand ps_NoOrder_NoStand hr_NoStand) (exm_own hb_NoStand hi_NoStand ht_NoStand ps_NoOrder_NoStand) (is_own (PySem.W.mg_of X G ea_NoNumber) (kit_own hi_NoNumber ht_NoNumber ps_NoOrder_NoNumber hr_NoNumber) (exm_own hb_NoNumber hi_NoNumber ht_NoNumber ps_NoOrder_NoNumber) (is_own (PySem.W.mg_of X G ea_NoEnd) (kit_own hi_NoEnd ht_NoEnd ps_NoOrder_NoEnd hr_NoEnd) (exm_own hb_NoEnd hi_NoEnd ht_NoEnd ps_NoOrder_NoEnd) (is_own (PySem.W.mg_of X G ea_NoDepth) (kit_own hi_NoDepth ht_NoDepth ps_NoOrder_NoDepth hr_NoDepth) (exm_own hb_NoDepth hi_NoDepth ht_NoDepth ps_NoOrder_NoDepth) (is_own (PySem.W.mg_of X G ea_NoWorth) (kit_own hi_NoWorth ht_NoWorth ps_NoOrder_NoWorth hr_NoWorth) (exm_own hb_NoWorth hi_NoWorth ht_NoWorth ps_NoOrder_NoWorth) (is_own (PySem.W.mg_of X G ea_NoChange) (kit_own hi_NoChange ht_NoChange ps_NoOrder_NoChange hr_NoChange) (exm_own hb_NoChange hi_NoChange ht_NoChange ps_NoOrder_NoChange) (is_own (PySem.W.mg_of X G ea_NoRow) (kit_own hi_NoRow ht_NoRow ps_NoOrder_NoRow hr_NoRow) (exm_own hb_NoRow hi_NoRow ht_NoRow ps_NoOrder_NoRow) (is_own (PySem.W.mg_of X G ea_NoName) (kit_own hi_NoName ht_NoName ps_NoOrder_NoName hr_NoName) (exm_own hb_NoName hi_NoName ht_NoName ps_NoOrder_NoName) (is_own (PySem.W.mg_of X G ea_BoughError) (kit_own hi_BoughError ht_BoughError ps_NoOrder_BoughError hr_BoughError) (exm_own hb_BoughError hi_BoughError ht_BoughError ps_NoOrder_BoughError) (is_ve (PySem.W.mg_none_of X G zVE) (kit_bi vs_NoOrder) (exm_bi zVB vs_NoOrder) is_nil))))))))))))))))))))) (xc_cons (xc_of (PySem.W.mg_of X G ea_NoEnds) ek_NoEnds e1_NoEnds e2_NoEnds e3_NoEnds e4_NoEnds e5_NoEnds ex6 ex7 e8_NoEnds et_NoEnds eq_NoEnds (is_own (PySem.W.mg_of X G ea_NoPlay) (kit_own hi_NoPlay ht_NoPlay ps_NoEnds_NoPlay hr_NoPlay) (exm_own hb_NoPlay hi_NoPlay ht_NoPlay ps_NoEnds_NoPlay) (is_own (PySem.W.mg_of X G ea_NoText) (kit_own hi_NoText ht_NoText ps_NoEnds_NoText hr_NoText) (exm_own hb_NoText hi_NoText ht_NoText ps_NoEnds_NoText) (is_own (PySem.W.mg_of X G ea_NoWay) (kit_own hi_NoWay ht_NoWay ps_NoEnds_NoWay hr_NoWay) (exm_own hb_NoWay hi_NoWay ht_NoWay ps_NoEnds_NoWay) (is_own (PySem.W.mg_of X G ea_NoRule) (kit_own hi_NoRule ht_NoRule ps_NoEnds_NoRule hr_NoRule) (exm_own hb_NoRule hi_NoRule ht_NoRule ps_NoEnds_NoRule) (is_own (PySem.W.mg_of X G ea_NoOrder) (kit_own hi_NoOrder ht_NoOrder ps_NoEnds_NoOrder hr_NoOrder) (exm_own hb_NoOrder hi_NoOrder ht_NoOrder ps_NoEnds_NoOrder) (is_own (PySem.W.mg_of X G ea_NoEnds) (kit_own hi_NoEnds ht_NoEnds ps_NoEnds_NoEnds hr_NoEnds) (exm_own hb_NoEnds hi_NoEnds ht_NoEnds ps_NoEnds_NoEnds) (is_own (PySem.W.mg_of X G ea_NoTree) (kit_own hi_NoTree ht_NoTree ps_NoEnds_NoTree hr_NoTree) (exm_own hb_NoTree hi_NoTree ht_NoTree ps_NoEnds_NoTree) (is_own (PySem.W.mg_of X G ea_NoWindow) (kit_own hi_NoWindow ht_NoWindow ps_NoEnds_NoWindow hr_NoWindow) (exm_own hb_NoWindow hi_NoWindow ht_NoWindow ps_NoEnds_NoWindow) (is_own (PySem.W.mg_of X G ea_TooMany) (kit_own hi_TooMany ht_TooMany ps_NoEnds_TooMany hr_TooMany) (exm_own hb_TooMany hi_TooMany ht_TooMany ps_NoEnds_TooMany) (is_own (PySem.W.mg_of X G ea_NoSize) (kit_own hi_NoSize ht_NoSize ps_NoEnds_NoSize hr_NoSize) (exm_own hb_NoSize hi_NoSize ht_NoSize ps_NoEnds_NoSize) (is_own (PySem.W.mg_of X G ea_NoStand) (kit_own hi_NoStand ht_NoStand ps_NoEnds_NoStand hr_NoStand) (exm_own hb_NoStand hi_NoStand ht_NoStand ps_NoEnds_NoStand) (is_own (PySem.W.mg_of X G ea_NoNumber) (kit_own hi_NoNumber ht_NoNumber ps_NoEnds_NoNumber hr_NoNumber) (exm_own hb_NoNumber hi_NoNumber ht_NoNumber ps_NoEnds_NoNumber) (is_own (PySem.W.mg_of X G ea_NoEnd) (kit_own hi_NoEnd ht_NoEnd ps_NoEnds_NoEnd hr_NoEnd) (exm_own hb_NoEnd hi_NoEnd ht_NoEnd ps_NoEnds_NoEnd) (is_own (PySem.W.mg_of X G ea_NoDepth) (kit_own hi_NoDepth ht_NoDepth ps_NoEnds_NoDepth hr_NoDepth) (exm_own hb_NoDepth hi_NoDepth ht_NoDepth ps_NoEnds_NoDepth) (is_own (PySem.W.mg_of X G ea_NoWorth) (kit_own hi_NoWorth ht_NoWorth ps_NoEnds_NoWorth hr_NoWorth) (exm_own hb_NoWorth hi_NoWorth ht_NoWorth ps_NoEnds_NoWorth) (is_own (PySem.W.mg_of X G ea_NoChange) (kit_own hi_NoChange ht_NoChange ps_NoEnds_NoChange hr_NoChange) (exm_own hb_NoChange hi_NoChange ht_NoChange ps_NoEnds_NoChange) (is_own (PySem.W.mg_of X G ea_NoRow) (kit_own hi_NoRow ht_NoRow ps_NoEnds_NoRow hr_NoRow) (exm_own hb_NoRow hi_NoRow ht_NoRow ps_NoEnds_NoRow) (is_own (PySem.W.mg_of X G ea_NoName) (kit_own hi_NoName ht_NoName ps_NoEnds_NoName hr_NoName) (exm_own hb_NoName hi_NoName ht_NoName ps_NoEnds_NoName) (is_own (PySem.W.mg_of X G ea_BoughError) (kit_own hi_BoughError ht_BoughError ps_NoEnds_BoughError hr_BoughError) (exm_own hb_BoughError hi_BoughError ht_BoughError ps_NoEnds_BoughError) (is_ve (PySem.W.mg_none_of X G zVE) (kit_bi vs_NoEnds) (exm_bi zVB vs_NoEnds) is_nil))))))))))))))))))))) (xc_cons (xc_of (PySem.W.mg_of X G ea_NoTree) ek_NoTree e1_NoTree e2_NoTree e3_NoTree e4_NoTree e5_NoTree ex6 ex7 e8_NoTree et_NoTree eq_NoTree (is_own (PySem.W.mg_of X G ea_NoPlay) (kit_own hi_NoPlay ht_NoPlay ps_NoTree_NoPlay hr_NoPlay) (exm_own hb_NoPlay hi_NoPlay ht_NoPlay ps_NoTree_NoPlay) (is_own (PySem.W.mg_of X G ea_NoText) (kit_own hi_NoText ht_NoText ps_NoTree_NoText hr_NoText) (exm_own hb_NoText hi_NoText ht_NoText ps_NoTree_NoText) (is_own (PySem.W.mg_of X G ea_NoWay) (kit_own hi_NoWay ht_NoWay ps_NoTree_NoWay hr_NoWay) (exm_own hb_NoWay hi_NoWay ht_NoWay ps_NoTree_NoWay) (is_own (PySem.W.mg_of X G ea_NoRule) (kit_own hi_NoRule ht_NoRule ps_NoTree_NoRule hr_NoRule) (exm_own hb_NoRule hi_NoRule ht_NoRule ps_NoTree_NoRule) (is_own (PySem.W.mg_of X G ea_NoOrder) (kit_own hi_NoOrder ht_NoOrder ps_NoTree_NoOrder hr_NoOrder) (exm_own hb_NoOrder hi_NoOrder ht_NoOrder ps_NoTree_NoOrder) (is_own (PySem.W.mg_of X G ea_NoEnds) (kit_own hi_NoEnds ht_NoEnds ps_NoTree_NoEnds hr_NoEnds) (exm_own hb_NoEnds hi_NoEnds ht_NoEnds ps_NoTree_NoEnds) (is_own (PySem.W.mg_of X G ea_NoTree) (kit_own hi_NoTree ht_NoTree ps_NoTree_NoTree hr_NoTree) (exm_own hb_NoTree hi_NoTree ht_NoTree ps_NoTree_NoTree) (is_own (PySem.W.mg_of X G ea_NoWindow) (kit_own hi_NoWindow ht_NoWindow ps_NoTree_NoWindow hr_NoWindow) (exm_own hb_NoWindow hi_NoWindow ht_NoWindow ps_NoTree_NoWindow) (is_own (PySem.W.mg_of X G ea_TooMany) (kit_own hi_TooMany ht_TooMany ps_NoTree_TooMany hr_TooMany) (exm_own hb_TooMany hi_TooMany ht_TooMany ps_NoTree_TooMany) (is_own (PySem.W.mg_of X G ea_NoSize) (kit_own hi_NoSize ht_NoSize ps_NoTree_NoSize hr_NoSize) (exm_own hb_NoSize hi_NoSize ht_NoSize ps_NoTree_NoSize) (is_own (PySem.W.mg_of X G ea_NoStand) (kit_own hi_NoStand ht_NoStand ps_NoTree_NoStand hr_NoStand) (exm_own hb_NoStand hi_NoStand ht_NoStand ps_NoTree_NoStand) (is_own (PySem.W.mg_of X G ea_NoNumber) (kit_own hi_NoNumber ht_NoNumber ps_NoTree_NoNumber hr_NoNumber) (exm_own hb_NoNumber hi_NoNumber ht_NoNumber ps_NoTree_NoNumber) (is_own (PySem.W.mg_of X G ea_NoEnd) (kit_own hi_NoEnd ht_NoEnd ps_NoTree_NoEnd hr_NoEnd) (exm_own hb_NoEnd hi_NoEnd ht_NoEnd ps_NoTree_NoEnd) (is_own (PySem.W.mg_of X G ea_NoDepth) (kit_own hi_NoDepth ht_NoDepth ps_NoTree_NoDepth hr_NoDepth) (exm_own hb_NoDepth hi_NoDepth ht_NoDepth ps_NoTree_NoDepth) (is_own (PySem.W.mg_of X G ea_NoWorth) (kit_own hi_NoWorth ht_NoWorth ps_NoTree_NoWorth hr_NoWorth) (exm_own hb_NoWorth hi_NoWorth ht_NoWorth ps_NoTree_NoWorth) (is_own (PySem.W.mg_of X G ea_NoChange) (kit_own hi_NoChange ht_NoChange ps_NoTree_NoChange hr_NoChange) (exm_own hb_NoChange hi_NoChange ht_NoChange ps_NoTree_NoChange) (is_own (PySem.W.mg_of X G ea_NoRow) (kit_own hi_NoRow ht_NoRow ps_NoTree_NoRow hr_NoRow) (exm_own hb_NoRow hi_NoRow ht_NoRow ps_NoTree_NoRow) (is_own (PySem.W.mg_of X G ea_NoName) (kit_own hi_NoName ht_NoName ps_NoTree_NoName hr_NoName) (exm_own hb_NoName hi_NoName ht_NoName ps_NoTree_NoName) (is_own (PySem.W.mg_of X G ea_BoughError) (kit_own hi_BoughError ht_BoughError ps_NoTree_BoughError hr_BoughError) (exm_own hb_BoughError hi_BoughError ht_BoughError ps_NoTree_BoughError) (is_ve (PySem.W.mg_none_of X G zVE) (kit_bi vs_NoTree) (exm_bi zVB vs_NoTree) is_nil))))))))))))))))))))) (xc_cons (xc_of (PySem.W.mg_of X G ea_NoWindow) ek_NoWindow e1_NoWindow e2_NoWindow e3_NoWindow e4_NoWindow e5_NoWindow ex6 ex7 e8_NoWindow et_NoWindow eq_NoWindow (is_own (PySem.W.mg_of X G ea_NoPlay) (kit_own hi_NoPlay ht_NoPlay ps_NoWindow_NoPlay hr_NoPlay) (exm_own hb_NoPlay hi_NoPlay ht_NoPlay ps_NoWindow_NoPlay) (is_own (PySem.W.mg_of X G ea_NoText) (kit_own hi_NoText ht_NoText ps_NoWindow_NoText hr_NoText) (exm_own hb_NoText hi_NoText ht_NoText ps_NoWindow_NoText) (is_own (PySem.W.mg_of X G ea_NoWay) (kit_own hi_NoWay ht_NoWay ps_NoWindow_NoWay hr_NoWay) (exm_own hb_NoWay hi_NoWay ht_NoWay ps_NoWindow_NoWay) (is_own (PySem.W.mg_of X G ea_NoRule) (kit_own hi_NoRule ht_NoRule ps_NoWindow_NoRule hr_NoRule) (exm_own hb_NoRule hi_NoRule ht_NoRule ps_NoWindow_NoRule) (is_own (PySem.W.mg_of X G ea_NoOrder) (kit_own hi_NoOrder ht_NoOrder ps_NoWindow_NoOrder hr_NoOrder) (exm_own hb_NoOrder hi_NoOrder ht_NoOrder ps_NoWindow_NoOrder) (is_own (PySem.W.mg_of X G ea_NoEnds) (kit_own hi_NoEnds ht_NoEnds ps_NoWindow_NoEnds hr_NoEnds) (exm_own hb_NoEnds hi_NoEnds ht_NoEnds ps_NoWindow_NoEnds) (is_own (PySem.W.mg_of X G ea_NoTree) (kit_own hi_NoTree ht_NoTree ps_NoWindow_NoTree hr_NoTree) (exm_own hb_NoTree hi_NoTree ht_NoTree ps_NoWindow_NoTree) (is_own (PySem.W.mg_of X G ea_NoWindow) (kit_own hi_NoWindow ht_NoWindow ps_NoWindow_NoWindow hr_NoWindow) (exm_own hb_NoWindow hi_NoWindow ht_NoWindow ps_NoWindow_NoWindow) (is_own (PySem.W.mg_of X G ea_TooMany) (kit_own hi_TooMany ht_TooMany ps_NoWindow_TooMany hr_TooMany) (exm_own hb_TooMany hi_TooMany ht_TooMany ps_NoWindow_TooMany) (is_own (PySem.W.mg_of X G ea_NoSize) (kit_own hi_NoSize ht_NoSize ps_NoWindow_NoSize hr_NoSize) (exm_own hb_NoSize hi_NoSize ht_NoSize ps_NoWindow_NoSize) (is_own (PySem.W.mg_of X G ea_NoStand) (kit_own hi_NoStand ht_NoStand ps_NoWindow_NoStand hr_NoStand) (exm_own hb_NoStand hi_NoStand ht_NoStand ps_NoWindow_NoStand) (is_own (PySem.W.mg_of X G ea_NoNumber) (kit_own hi_NoNumber ht_NoNumber ps_NoWindow_NoNumber hr_NoNumber) (exm_own hb_NoNumber hi_NoNumber ht_NoNumber ps_NoWindow_NoNumber) (is_own (PySem.W.mg_of X G ea_NoEnd) (kit_own hi_NoEnd ht_NoEnd ps_NoWindow_NoEnd hr_NoEnd) (exm_own hb_NoEnd hi_NoEnd ht_NoEnd ps_NoWindow_NoEnd) (is_own (PySem.W.mg_of X G ea_NoDepth) (kit_own hi_NoDepth ht_NoDepth ps_NoWindow_NoDepth hr_NoDepth) (exm_own hb_NoDepth hi_NoDepth ht_NoDepth ps_NoWindow_NoDepth) (is_own (PySem.W.mg_of X G ea_NoWorth) (kit_own hi_NoWorth ht_NoWorth ps_NoWindow_NoWorth hr_NoWorth) (exm_own hb_NoWorth hi_NoWorth ht_NoWorth ps_NoWindow_NoWorth) (is_own (PySem.W.mg_of X G ea_NoChange) (kit_own hi_NoChange ht_NoChange ps_NoWindow_NoChange hr_NoChange) (exm_own hb_NoChange hi_NoChange ht_NoChange ps_NoWindow_NoChange) (is_own (PySem.W.mg_of X G ea_NoRow) (kit_own hi_NoRow ht_NoRow ps_NoWindow_NoRow hr_NoRow) (exm_own hb_NoRow hi_NoRow ht_NoRow ps_NoWindow_NoRow) (is_own (PySem.W.mg_of X G ea_NoName) (kit_own hi_NoName ht_NoName ps_NoWindow_NoName hr_NoName) (exm_own hb_NoName hi_NoName ht_NoName ps_NoWindow_NoName) (is_own (PySem.W.mg_of X G ea_BoughError) (kit_own hi_BoughError ht_BoughError ps_NoWindow_BoughError hr_BoughError) (exm_own hb_BoughError hi_BoughError ht_BoughError ps_NoWindow_BoughError) (is_ve (PySem.W.mg_none_of X G zVE) (kit_bi vs_NoWindow) (exm_bi zVB vs_NoWindow) is_nil))))))))))))))))))))) (xc_cons (xc_of (PySem.W.mg_of X G ea_TooMany) ek_TooMany e1_TooMany e2_TooMany e3_TooMany e4_TooMany e5_TooMany ex6 ex7 e8_TooMany et_TooMany eq_TooMany (is_own (PySem.W.mg_of X G ea_NoPlay) (kit_own hi_NoPlay ht_NoPlay ps_TooMany_NoPlay hr_NoPlay) (exm_own hb_NoPlay hi_NoPlay ht_NoPlay ps_TooMany_NoPlay) (is_own (PySem.W.mg_of X G ea_NoText) (kit_own hi_NoText ht_NoText ps_TooMany_NoText hr_NoText) (exm_own hb_NoText hi_NoText ht_NoText ps_TooMany_NoText) (is_own (PySem.W.mg_of X G ea_NoWay) (kit_own hi_NoWay ht_NoWay ps_TooMany_NoWay hr_NoWay) (exm_own hb_NoWay hi_NoWay ht_NoWay ps_TooMany_NoWay) (is_own (PySem.W.mg_of X G ea_NoRule) (kit_own hi_NoRule ht_NoRule ps_TooMany_NoRule hr_NoRule) (exm_own hb_NoRule hi_NoRule ht_NoRule ps_TooMany_NoRule) (is_own (PySem.W.mg_of X G ea_NoOrder) (kit_own hi_NoOrder ht_NoOrder ps_TooMany_NoOrder hr_NoOrder) (exm_own hb_NoOrder hi_NoOrder ht_NoOrder ps_TooMany_NoOrder) (is_own (PySem.W.mg_of X G ea_NoEnds) (kit_own hi_NoEnds ht_NoEnds ps_TooMany_NoEnds hr_NoEnds) (exm_own hb_NoEnds hi_NoEnds ht_NoEnds ps_TooMany_NoEnds) (is_own (PySem.W.mg_of X G ea_NoTree) (kit_own hi_NoTree ht_NoTree ps_TooMany_NoTree hr_NoTree) (exm_own hb_NoTree hi_NoTree ht_NoTree ps_TooMany_NoTree) (is_own (PySem.W.mg_of X G ea_NoWindow) (kit_own hi_NoWindow ht_NoWindow ps_TooMany_NoWindow hr_NoWindow) (exm_own hb_NoWindow hi_NoWindow ht_NoWindow ps_TooMany_NoWindow) (is_own (PySem.W.mg_of X G ea_TooMany) (kit_own hi_TooMany ht_TooMany ps_TooMany_TooMany hr_TooMany) (exm_own hb_TooMany hi_TooMany ht_TooMany ps_TooMany_TooMany) (is_own (PySem.W.mg_of X G ea_NoSize) (kit_own hi_NoSize ht_NoSize ps_TooMany_NoSize hr_NoSize) (exm_own hb_NoSize hi_NoSize ht_NoSize ps_TooMany_NoSize) (is_own (PySem.W.mg_of X G ea_NoStand) (kit_own hi_NoStand ht_NoStand ps_TooMany_NoStand hr_NoStand) (exm_own hb_NoStand hi_NoStand ht_NoStand ps_TooMany_NoStand) (is_own (PySem.W.mg_of X G ea_NoNumber) (kit_own hi_NoNumber ht_NoNumber ps_TooMany_NoNumber hr_NoNumber) (exm_own hb_NoNumber hi_NoNumber ht_NoNumber ps_TooMany_NoNumber) (is_own (PySem.W.mg_of X G ea_NoEnd) (kit_own hi_NoEnd ht_NoEnd ps_TooMany_NoEnd hr_NoEnd) (exm_own hb_NoEnd hi_NoEnd ht_NoEnd ps_TooMany_NoEnd) (is_own (PySem.W.mg_of X G ea_NoDepth) (kit_own hi_NoDepth ht_NoDepth ps_TooMany_NoDepth hr_NoDepth) (exm_own hb_NoDepth hi_NoDepth ht_NoDepth ps_TooMany_NoDepth) (is_own (PySem.W.mg_of X G ea_NoWorth) (kit_own hi_NoWorth ht_NoWorth ps_TooMany_NoWorth hr_NoWorth) (exm_own hb_NoWorth hi_NoWorth ht_NoWorth ps_TooMany_NoWorth) (is_own (PySem.W.mg_of X G ea_NoChange) (kit_own hi_NoChange ht_NoChange ps_TooMany_NoChange hr_NoChange) (exm_own hb_NoChange hi_NoChange ht_NoChange ps_TooMany_NoChange) (is_own (PySem.W.mg_of X G ea_NoRow) (kit_own hi_NoRow ht_NoRow ps_TooMany_NoRow hr_NoRow) (exm_own hb_NoRow hi_NoRow ht_NoRow ps_TooMany_NoRow) (is_own (PySem.W.mg_of X G ea_NoName) (kit_own hi_NoName ht_NoName ps_TooMany_NoName hr_NoName) (exm_own hb_NoName hi_NoName ht_NoName ps_TooMany_NoName) (is_own (PySem.W.mg_of X G ea_BoughError) (kit_own hi_BoughError ht_BoughError ps_TooMany_BoughError hr_BoughError) (exm_own hb_BoughError hi_BoughError ht_BoughError ps_TooMany_BoughError) (is_ve (PySem.W.mg_none_of X G zVE) (kit_bi vs_TooMany) (exm_bi zVB vs_TooMany) is_nil))))))))))))))))))))) (xc_cons (xc_of (PySem.W.mg_of X G ea_NoSize) ek_NoSize e1_NoSize e2_NoSize e3_NoSize e4_NoSize e5_NoSize ex6 ex7 e8_NoSize et_NoSize eq_NoSize (is_own (PySem.W.mg_of X G ea_NoPlay) (kit_own hi_NoPlay ht_NoPlay ps_NoSize_NoPlay hr_NoPlay) (exm_own hb_NoPlay hi_NoPlay ht_NoPlay ps_NoSize_NoPlay) (is_own (PySem.W.mg_of X G ea_NoText) (kit_own hi_NoText ht_NoText ps_NoSize_NoText hr_NoText) (exm_own hb_NoText hi_NoText ht_NoText ps_NoSize_NoText) (is_own (PySem.W.mg_of X G ea_NoWay) (kit_own hi_NoWay ht_NoWay ps_NoSize_NoWay hr_NoWay) (exm_own hb_NoWay hi_NoWay ht_NoWay ps_NoSize_NoWay) (is_own (PySem.W.mg_of X G ea_NoRule) (kit_own hi_NoRule ht_NoRule ps_NoSize_NoRule hr_NoRule) (exm_own hb_NoRule hi_NoRule ht_NoRule ps_NoSize_NoRule) (is_own (PySem.W.mg_of X G ea_NoOrder) (kit_own hi_NoOrder ht_NoOrder ps_NoSize_NoOrder hr_NoOrder) (exm_own hb_NoOrder hi_NoOrder ht_NoOrder ps_NoSize_NoOrder) (is_own (PySem.W.mg_of X G ea_NoEnds) (kit_own hi_NoEnds ht_NoEnds ps_NoSize_NoEnds hr_NoEnds) (exm_own hb_NoEnds hi_NoEnds ht_NoEnds ps_NoSize_NoEnds) (is_own (PySem.W.mg_of X G ea_NoTree) (kit_own hi_NoTree ht_NoTree ps_NoSize_NoTree hr_NoTree) (exm_own hb_NoTree hi_NoTree ht_NoTree ps_NoSize_NoTree) (is_own (PySem.W.mg_of X G ea_NoWindow) (kit_own hi_NoWindow ht_NoWindow ps_NoSize_NoWindow hr_NoWindow) (exm_own hb_NoWindow hi_NoWindow ht_NoWindow ps_NoSize_NoWindow) (is_own (PySem.W.mg_of X G ea_TooMany) (kit_own hi_TooMany ht_TooMany ps_NoSize_TooMany hr_TooMany) (exm_own hb_TooMany hi_TooMany ht_TooMany ps_NoSize_TooMany) (is_own (PySem.W.mg_of X G ea_NoSize) (kit_own hi_NoSize ht_NoSize ps_NoSize_NoSize hr_NoSize) (exm_own hb_NoSize hi_NoSize ht_NoSize ps_NoSize_NoSize) (is_own (PySem.W.mg_of X G ea_NoStand) (kit_own hi_NoStand ht_NoStand ps_NoSize_NoStand hr_NoStand) (exm_own hb_NoStand hi_NoStand ht_NoStand ps_NoSize_NoStand) (is_own (PySem.W.mg_of X G ea_NoNumber) (kit_own hi_NoNumber ht_NoNumber ps_NoSize_NoNumber hr_NoNumber) (exm_own hb_NoNumber hi_NoNumber ht_NoNumber ps_NoSize_NoNumber) (is_own (PySem.W.mg_of X G ea_NoEnd) (kit_own hi_NoEnd ht_NoEnd ps_NoSize_NoEnd hr_NoEnd) (exm_own hb_NoEnd hi_NoEnd ht_NoEnd ps_NoSize_NoEnd) (is_own (PySem.W.mg_of X G ea_NoDepth) (kit_own hi_NoDepth ht_NoDepth ps_NoSize_NoDepth hr_NoDepth) (exm_own hb_NoDepth hi_NoDepth ht_NoDepth ps_NoSize_NoDepth) (is_own (PySem.W.mg_of X G ea_NoWorth) (kit_own hi_NoWorth ht_NoWorth ps_NoSize_NoWorth hr_NoWorth) (exm_own hb_NoWorth hi_NoWorth ht_NoWorth ps_NoSize_NoWorth) (is_own (PySem.W.mg_of X G ea_NoChange) (kit_own hi_NoChange ht_NoChange ps_NoSize_NoChange hr_NoChange) (exm_own hb_NoChange hi_NoChange ht_NoChange ps_NoSize_NoChange) (is_own (PySem.W.mg_of X G ea_NoRow) (kit_own hi_NoRow ht_NoRow ps_NoSize_NoRow hr_NoRow) (exm_own hb_NoRow hi_NoRow ht_NoRow ps_NoSize_NoRow) (is_own (PySem.W.mg_of X G ea_NoName) (kit_own hi_NoName ht_NoName ps_NoSize_NoName hr_NoName) (exm_own hb_NoName hi_NoName ht_NoName ps_NoSize_NoName) (is_own (PySem.W.mg_of X G ea_BoughError) (kit_own hi_BoughError ht_BoughError ps_NoSize_BoughError hr_BoughError) (exm_own hb_BoughError hi_BoughError ht_BoughError ps_NoSize_BoughError) (is_ve (PySem.W.mg_none_of X G zVE) (kit_bi vs_NoSize) (exm_bi zVB vs_NoSize) is_nil))))))))))))))))))))) (xc_cons (xc_of (PySem.W.mg_of X G ea_NoStand) ek_NoStand e1_NoStand e2_NoStand e3_NoStand e4_NoStand e5_NoStand ex6 ex7 e8_NoStand et_NoStand eq_NoStand (is_own (PySem.W.mg_of X G ea_NoPlay) (kit_own hi_NoPlay ht_NoPlay ps_NoStand_NoPlay hr_NoPlay) (exm_own hb_NoPlay hi_NoPlay ht_NoPlay ps_NoStand_NoPlay) (is_own (PySem.W.mg_of X G ea_NoText) (kit_own hi_NoText ht_NoText ps_NoStand_NoText hr_NoText) (exm_own hb_NoText hi_NoText ht_NoText ps_NoStand_NoText) (is_own (PySem.W.mg_of X G ea_NoWay) (kit_own hi_NoWay ht_NoWay ps_NoStand_NoWay hr_NoWay) (exm_own hb_NoWay hi_NoWay ht_NoWay ps_NoStand_NoWay) (is_own (PySem.W.mg_of X G ea_NoRule) (kit_own hi_NoRule ht_NoRule ps_NoStand_NoRule hr_NoRule) (exm_own hb_NoRule hi_NoRule ht_NoRule ps_NoStand_NoRule) (is_own (PySem.W.mg_of X G ea_NoOrder) (kit_own hi_NoOrder ht_NoOrder ps_NoStand_NoOrder hr_NoOrder) (exm_own hb_NoOrder hi_NoOrder ht_NoOrder ps_NoStand_NoOrder) (is_own (PySem.W.mg_of X G ea_NoEnds) (kit_own hi_NoEnds ht_NoEnds ps_NoStand_NoEnds hr_NoEnds) (exm_own hb_NoEnds hi_NoEnds ht_NoEnds ps_NoStand_NoEnds) (is_own (PySem.W.mg_of X G ea_NoTree) (kit_own hi_NoTree ht_NoTree ps_NoStand_NoTree hr_NoTree) (exm_own hb_NoTree hi_NoTree ht_NoTree ps_NoStand_NoTree) (is_own (PySem.W.mg_of X G ea_NoWindow) (kit_own hi_NoWindow ht_NoWindow ps_NoStand_NoWindow hr_NoWindow) (exm_own hb_NoWindow hi_NoWindow ht_NoWindow ps_NoStand_NoWindow) (is_own (PySem.W.mg_of X G ea_TooMany) (kit_own hi_TooMany ht_TooMany ps_NoStand_TooMany hr_TooMany) (exm_own hb_TooMany hi_TooMany ht_TooMany ps_NoStand_TooMany) (is_own (PySem.W.mg_of X G ea_NoSize) (kit_own hi_NoSize ht_NoSize ps_NoStand_NoSize hr_NoSize) (exm_own hb_NoSize hi_NoSize ht_NoSize ps_NoStand_NoSize) (is_own (PySem.W.mg_of X G ea_NoStand) (kit_own hi_NoStand ht_NoStand ps_NoStand_NoStand hr_NoStand) (exm_own hb_NoStand hi_NoStand ht_NoStand ps_NoStand_NoStand) (is_own (PySem.W.mg_of X G ea_NoNumber) (kit_own hi_NoNumber ht_NoNumber ps_NoStand_NoNumber hr_NoNumber) (exm_own hb_NoNumber hi_NoNumber ht_NoNumber ps_NoStand_NoNumber) (is_own (PySem.W.mg_of X G ea_NoEnd) (kit_own hi_NoEnd ht_NoEnd ps_NoStand_NoEnd hr_NoEnd) (exm_own hb_NoEnd hi_NoEnd ht_NoEnd ps_NoStand_NoEnd) (is_own (PySem.W.mg_of X G ea_NoDepth) (kit_own hi_NoDepth ht_NoDepth ps_NoStand_NoDepth hr_NoDepth) (exm_own hb_NoDepth hi_NoDepth ht_NoDepth ps_NoStand_NoDepth) (is_own (PySem.W.mg_of X G ea_NoWorth) (kit_own hi_NoWorth ht_NoWorth ps_NoStand_NoWorth hr_NoWorth) (exm_own hb_NoWorth hi_NoWorth ht_NoWorth ps_NoStand_NoWorth) (is_own (PySem.W.mg_of X G ea_NoChange) (kit_own hi_NoChange ht_NoChange ps_NoStand_NoChange hr_NoChange) (exm_own hb_NoChange hi_NoChange ht_NoChange ps_NoStand_NoChange) (is_own (PySem.W.mg_of X G ea_NoRow) (kit_own hi_NoRow ht_NoRow ps_NoStand_NoRow hr_NoRow) (exm_own hb_NoRow hi_NoRow ht_NoRow ps_NoStand_NoRow) (is_own (PySem.W.mg_of X G ea_NoName) (kit_own hi_NoName ht_NoName ps_NoStand_NoName hr_NoName) (exm_own hb_NoName hi_NoName ht_NoName ps_NoStand_NoName) (is_own (PySem.W.mg_of X G ea_BoughError) (kit_own hi_BoughError ht_BoughError ps_NoStand_BoughError hr_BoughError) (exm_own hb_BoughError hi_BoughError ht_BoughError ps_NoStand_BoughError) (is_ve (PySem.W.mg_none_of X G zVE) (kit_bi vs_NoStand) (exm_bi zVB vs_NoStand) is_nil))))))))))))))))))))) (xc_cons (xc_of (PySem.W.mg_of X G ea_NoNumber) ek_NoNumber e1_NoNumber e2_NoNumber e3_NoNumber e4_NoNumber e5_NoNumber ex6 ex7 e8_NoNumber et_NoNumber eq_NoNumber (is_own (PySem.W.mg_of X G ea_NoPlay) (kit_own hi_NoPlay ht_NoPlay ps_NoNumber_NoPlay hr_NoPlay) (exm_own hb_NoPlay hi_NoPlay ht_NoPlay ps_NoNumber_NoPlay) (is_own (PySem.W.mg_of X G ea_NoText) (kit_own hi_NoText ht_NoText ps_NoNumber_NoText hr_NoText) (exm_own hb_NoText hi_NoText ht_NoText ps_NoNumber_NoText) (is_own (PySem.W.mg_of X G ea_NoWay) (kit_own hi_NoWay ht_NoWay ps_NoNumber_NoWay hr_NoWay) (exm_own hb_NoWay hi_NoWay ht_NoWay ps_NoNumber_NoWay) (is_own (PySem.W.mg_of X G ea_NoRule) (kit_own hi_NoRule ht_NoRule ps_NoNumber_NoRule hr_NoRule) (exm_own hb_NoRule hi_NoRule ht_NoRule ps_NoNumber_NoRule) (is_own (PySem.W.mg_of X G ea_NoOrder) (kit_own hi_NoOrder ht_NoOrder ps_NoNumber_NoOrder hr_NoOrder) (exm_own hb_NoOrder hi_NoOrder ht_NoOrder ps_NoNumber_NoOrder) (is_own (PySem.W.mg_of X G ea_NoEnds) (kit_own hi_NoEnds ht_NoEnds ps_NoNumber_NoEnds hr_NoEnds) (exm_own hb_NoEnds hi_NoEnds ht_NoEnds ps_NoNumber_NoEnds) (is_own (PySem.W.mg_of X G ea_NoTree) (kit_own hi_NoTree ht_NoTree ps_NoNumber_NoTree hr_NoTree) (exm_own hb_NoTree hi_NoTree ht_NoTree ps_NoNumber_NoTree) (is_own (PySem.W.mg_of X G ea_NoWindow) (kit_own hi_NoWindow ht_NoWindow ps_NoNumber_NoWindow hr_NoWindow) (exm_own hb_NoWindow hi_NoWindow ht_NoWindow ps_NoNumber_NoWindow) (is_own (PySem.W.mg_of X G ea_TooMany) (kit_own hi_TooMany ht_TooMany ps_NoNumber_TooMany hr_TooMany) (exm_own hb_TooMany hi_TooMany ht_TooMany ps_NoNumber_TooMany) (is_own (PySem.W.mg_of X G ea_NoSize) (kit_own hi_NoSize ht_NoSize ps_NoNumber_NoSize hr_NoSize) (exm_own hb_NoSize hi_NoSize ht_NoSize ps_NoNumber_NoSize) (is_own (PySem.W.mg_of X G ea_NoStand) (kit_own hi_NoStand ht_NoStand ps_NoNumber_NoStand hr_NoStand) (exm_own hb_NoStand hi_NoStand ht_NoStand ps_NoNumber_NoStand) (is_own (PySem.W.mg_of X G ea_NoNumber) (kit_own hi_NoNumber ht_NoNumber ps_NoNumber_NoNumber hr_NoNumber) (exm_own hb_NoNumber hi_NoNumber ht_NoNumber ps_NoNumber_NoNumber) (is_own (PySem.W.mg_of X G ea_NoEnd) (kit_own hi_NoEnd ht_NoEnd ps_NoNumber_NoEnd hr_NoEnd) (exm_own hb_NoEnd hi_NoEnd ht_NoEnd ps_NoNumber_NoEnd) (is_own (PySem.W.mg_of X G ea_NoDepth) (kit_own hi_NoDepth ht_NoDepth ps_NoNumber_NoDepth hr_NoDepth) (exm_own hb_NoDepth hi_NoDepth ht_NoDepth ps_NoNumber_NoDepth) (is_own (PySem.W.mg_of X G ea_NoWorth) (kit_own hi_NoWorth ht_NoWorth ps_NoNumber_NoWorth hr_NoWorth) (exm_own hb_NoWorth hi_NoWorth ht_NoWorth ps_NoNumber_NoWorth) (is_own (PySem.W.mg_of X G ea_NoChange) (kit_own hi_NoChange ht_NoChange ps_NoNumber_NoChange hr_NoChange) (exm_own hb_NoChange hi_NoChange ht_NoChange ps_NoNumber_NoChange) (is_own (PySem.W.mg_of X G ea_NoRow) (kit_own hi_NoRow ht_NoRow ps_NoNumber_NoRow hr_NoRow) (exm_own hb_NoRow hi_NoRow ht_NoRow ps_NoNumber_NoRow) (is_own (PySem.W.mg_of X G ea_NoName) (kit_own hi_NoName ht_NoName ps_NoNumber_NoName hr_NoName) (exm_own hb_NoName hi_NoName ht_NoName ps_NoNumber_NoName) (is_own (PySem.W.mg_of X G ea_BoughError) (kit_own hi_BoughError ht_BoughError ps_NoNumber_BoughError hr_BoughError) (exm_own hb_BoughError hi_BoughError ht_BoughError ps_NoNumber_BoughError) (is_ve (PySem.W.mg_none_of X G zVE) (kit_bi vs_NoNumber) (exm_bi zVB vs_NoNumber) is_nil))))))))))))))))))))) (xc_cons (xc_of (PySem.W.mg_of X G ea_NoEnd) ek_NoEnd e1_NoEnd e2_NoEnd e3_NoEnd e4_NoEnd e5_NoEnd ex6 ex7 e8_NoEnd et_NoEnd eq_NoEnd (is_own (PySem.W.mg_of X G ea_NoPlay) (kit_own hi_NoPlay ht_NoPlay ps_NoEnd_NoPlay hr_NoPlay) (exm_own hb_NoPlay hi_NoPlay ht_NoPlay ps_NoEnd_NoPlay) (is_own (PySem.W.mg_of X G ea_NoText) (kit_own hi_NoText ht_NoText ps_NoEnd_NoText hr_NoText) (exm_own hb_NoText hi_NoText ht_NoText ps_NoEnd_NoText) (is_own (PySem.W.mg_of X G ea_NoWay) (kit_own hi_NoWay ht_NoWay ps_NoEnd_NoWay hr_NoWay) (exm_own hb_NoWay hi_NoWay ht_NoWay ps_NoEnd_NoWay) (is_own (PySem.W.mg_of X G ea_NoRule) (kit_own hi_NoRule ht_NoRule ps_NoEnd_NoRule hr_NoRule) (exm_own hb_NoRule hi_NoRule ht_NoRule ps_NoEnd_NoRule) (is_own (PySem.W.mg_of X G ea_NoOrder) (kit_own hi_NoOrder ht_NoOrder ps_NoEnd_NoOrder hr_NoOrder) (exm_own hb_NoOrder hi_NoOrder ht_NoOrder ps_NoEnd_NoOrder) (is_own (PySem.W.mg_of X G ea_NoEnds) (kit_own hi_NoEnds ht_NoEnds ps_NoEnd_NoEnds hr_NoEnds) (exm_own hb_NoEnds hi_NoEnds ht_NoEnds ps_NoEnd_NoEnds) (is_own (PySem.W.mg_of X G ea_NoTree) (kit_own hi_NoTree ht_NoTree ps_NoEnd_NoTree hr_NoTree) (exm_own hb_NoTree hi_NoTree ht_NoTree ps_NoEnd_NoTree) (is_own (PySem.W.mg_of X G ea_NoWindow) (kit_own hi_NoWindow ht_NoWindow ps_NoEnd_NoWindow hr_NoWindow) (exm_own hb_NoWindow hi_NoWindow ht_NoWindow ps_NoEnd_NoWindow) (is_own (PySem.W.mg_of X G ea_TooMany) (kit_own hi_TooMany ht_TooMany ps_NoEnd_TooMany hr_TooMany) (exm_own hb_TooMany hi_TooMany ht_TooMany ps_NoEnd_TooMany) (is_own (PySem.W.mg_of X G ea_NoSize) (kit_own hi_NoSize ht_NoSize ps_NoEnd_NoSize hr_NoSize) (exm_own hb_NoSize hi_NoSize ht_NoSize ps_NoEnd_NoSize) (is_own (PySem.W.mg_of X G ea_NoStand) (kit_own hi_NoStand ht_NoStand ps_NoEnd_NoStand hr_NoStand) (exm_own hb_NoStand hi_NoStand ht_NoStand ps_NoEnd_NoStand) (is_own (PySem.W.mg_of X G ea_NoNumber) (kit_own hi_NoNumber ht_NoNumber ps_NoEnd_NoNumber hr_NoNumber) (exm_own hb_NoNumber hi_NoNumber ht_NoNumber ps_NoEnd_NoNumber) (is_own (PySem.W.mg_of X G ea_NoEnd) (kit_own hi_NoEnd ht_NoEnd ps_NoEnd_NoEnd hr_NoEnd) (exm_own hb_NoEnd hi_NoEnd ht_NoEnd ps_NoEnd_NoEnd) (is_own (PySem.W.mg_of X G ea_NoDepth) (kit_own hi_NoDepth ht_NoDepth ps_NoEnd_NoDepth hr_NoDepth) (exm_own hb_NoDepth hi_NoDepth ht_NoDepth ps_NoEnd_NoDepth) (is_own (PySem.W.mg_of X G ea_NoWorth) (kit_own hi_NoWorth ht_NoWorth ps_NoEnd_NoWorth hr_NoWorth) (exm_own hb_NoWorth hi_NoWorth ht_NoWorth ps_NoEnd_NoWorth) (is_own (PySem.W.mg_of X G ea_NoChange) (kit_own hi_NoChange ht_NoChange ps_NoEnd_NoChange hr_NoChange) (exm_own hb_NoChange hi_NoChange ht_NoChange ps_NoEnd_NoChange) (is_own (PySem.W.mg_of X G ea_NoRow) (kit_own hi_NoRow ht_NoRow ps_NoEnd_NoRow hr_NoRow) (exm_own hb_NoRow hi_NoRow ht_NoRow ps_NoEnd_NoRow) (is_own (PySem.W.mg_of X G ea_NoName) (kit_own hi_NoName ht_NoName ps_NoEnd_NoName hr_NoName) (exm_own hb_NoName hi_NoName ht_NoName ps_NoEnd_NoName) (is_own (PySem.W.mg_of X G ea_BoughError) (kit_own hi_BoughError ht_BoughError ps_NoEnd_BoughError hr_BoughError) (exm_own hb_BoughError hi_BoughError ht_BoughError ps_NoEnd_BoughError) (is_ve (PySem.W.mg_none_of X G zVE) (kit_bi vs_NoEnd) (exm_bi zVB vs_NoEnd) is_nil))))))))))))))))))))) (xc_cons (xc_of (PySem.W.mg_of X G ea_NoDepth) ek_NoDepth e1_NoDepth e2_NoDepth e3_NoDepth e4_NoDepth e5_NoDepth ex6 ex7 e8_NoDepth et_NoDepth eq_NoDepth (is_own (PySem.W.mg_of X G ea_NoPlay) (kit_own hi_NoPlay ht_NoPlay ps_NoDepth_NoPlay hr_NoPlay) (exm_own hb_NoPlay hi_NoPlay ht_NoPlay ps_NoDepth_NoPlay) (is_own (PySem.W.mg_of X G ea_NoText) (kit_own hi_NoText ht_NoText ps_NoDepth_NoText hr_NoText) (exm_own hb_NoText hi_NoText ht_NoText ps_NoDepth_NoText) (is_own (PySem.W.mg_of X G ea_NoWay) (kit_own hi_NoWay ht_NoWay ps_NoDepth_NoWay hr_NoWay) (exm_own hb_NoWay hi_NoWay ht_NoWay ps_NoDepth_NoWay) (is_own (PySem.W.mg_of X G ea_NoRule) (kit_own hi_NoRule ht_NoRule ps_NoDepth_NoRule hr_NoRule) (exm_own hb_NoRule hi_NoRule ht_NoRule ps_NoDepth_NoRule) (is_own (PySem.W.mg_of X G ea_NoOrder) (kit_own hi_NoOrder ht_NoOrder ps_NoDepth_NoOrder hr_NoOrder) (exm_own hb_NoOrder hi_NoOrder ht_NoOrder ps_NoDepth_NoOrder) (is_own (PySem.W.mg_of X G ea_NoEnds) (kit_own hi_NoEnds ht_NoEnds ps_NoDepth_NoEnds hr_NoEnds) (exm_own hb_NoEnds hi_NoEnds ht_NoEnds ps_NoDepth_NoEnds) (is_own (PySem.W.mg_of X G ea_NoTree) (kit_own hi_NoTree ht_NoTree ps_NoDepth_NoTree hr_NoTree) (exm_own hb_NoTree hi_NoTree ht_NoTree ps_NoDepth_NoTree) (is_own (PySem.W.mg_of X G ea_NoWindow) (kit_own hi_NoWindow ht_NoWindow ps_NoDepth_NoWindow hr_NoWindow) (exm_own hb_NoWindow hi_NoWindow ht_NoWindow ps_NoDepth_NoWindow) (is_own (PySem.W.mg_of X G ea_TooMany) (kit_own hi_TooMany ht_TooMany ps_NoDepth_TooMany hr_TooMany) (exm_own hb_TooMany hi_TooMany ht_TooMany ps_NoDepth_TooMany) (is_own (PySem.W.mg_of X G ea_NoSize) (kit_own hi_NoSize ht_NoSize ps_NoDepth_NoSize hr_NoSize) (exm_own hb_NoSize hi_NoSize ht_NoSize ps_NoDepth_NoSize) (is_own (PySem.W.mg_of X G ea_NoStand) (kit_own hi_NoStand ht_NoStand ps_NoDepth_NoStand hr_NoStand) (exm_own hb_NoStand hi_NoStand ht_NoStand ps_NoDepth_NoStand) (is_own (PySem.W.mg_of X G ea_NoNumber) (kit_own hi_NoNumber ht_NoNumber ps_NoDepth_NoNumber hr_NoNumber) (exm_own hb_NoNumber hi_NoNumber ht_NoNumber ps_NoDepth_NoNumber) (is_own (PySem.W.mg_of X G ea_NoEnd) (kit_own hi_NoEnd ht_NoEnd ps_NoDepth_NoEnd hr_NoEnd) (exm_own hb_NoEnd hi_NoEnd ht_NoEnd ps_NoDepth_NoEnd) (is_own (PySem.W.mg_of X G ea_NoDepth) (kit_own hi_NoDepth ht_NoDepth ps_NoDepth_NoDepth hr_NoDepth) (exm_own hb_NoDepth hi_NoDepth ht_NoDepth ps_NoDepth_NoDepth) (is_own (PySem.W.mg_of X G ea_NoWorth) (kit_own hi_NoWorth ht_NoWorth ps_NoDepth_NoWorth hr_NoWorth) (exm_own hb_NoWorth hi_NoWorth ht_NoWorth ps_NoDepth_NoWorth) (is_own (PySem.W.mg_of X G ea_NoChange) (kit_own hi_NoChange ht_NoChange ps_NoDepth_NoChange hr_NoChange) (exm_own hb_NoChange hi_NoChange ht_NoChange ps_NoDepth_NoChange) (is_own (PySem.W.mg_of X G ea_NoRow) (kit_own hi_NoRow ht_NoRow ps_NoDepth_NoRow hr_NoRow) (exm_own hb_NoRow hi_NoRow ht_NoRow ps_NoDepth_NoRow) (is_own (PySem.W.mg_of X G ea_NoName) (kit_own hi_NoName ht_NoName ps_NoDepth_NoName hr_NoName) (exm_own hb_NoName hi_NoName ht_NoName ps_NoDepth_NoName) (is_own (PySem.W.mg_of X G ea_BoughError) (kit_own hi_BoughError ht_BoughError ps_NoDepth_BoughError hr_BoughError) (exm_own hb_BoughError hi_BoughError ht_BoughError ps_NoDepth_BoughError) (is_ve (PySem.W.mg_none_of X G zVE) (kit_bi vs_NoDepth) (exm_bi zVB vs_NoDepth) is_nil))))))))))))))))))))) (xc_cons (xc_of (PySem.W.mg_of X G ea_NoWorth) ek_NoWorth e1_NoWorth e2_NoWorth e3_NoWorth e4_NoWorth e5_NoWorth ex6 ex7 e8_NoWorth et_NoWorth eq_NoWorth (is_own (PySem.W.mg_of X G ea_NoPlay) (kit_own hi_NoPlay ht_NoPlay ps_NoWorth_NoPlay hr_NoPlay) (exm_own hb_NoPlay hi_NoPlay ht_NoPlay ps_NoWorth_NoPlay) (is_own (PySem.W.mg_of X G ea_NoText) (kit_own hi_NoText ht_NoText ps_NoWorth_NoText hr_NoText) (exm_own hb_NoText hi_NoText ht_NoText ps_NoWorth_NoText) (is_own (PySem.W.mg_of X G ea_NoWay) (kit_own hi_NoWay ht_NoWay ps_NoWorth_NoWay hr_NoWay) (exm_own hb_NoWay hi_NoWay ht_NoWay ps_NoWorth_NoWay) (is_own (PySem.W.mg_of X G ea_NoRule) (kit_own hi_NoRule ht_NoRule ps_NoWorth_NoRule hr_NoRule) (exm_own hb_NoRule hi_NoRule ht_NoRule ps_NoWorth_NoRule) (is_own (PySem.W.mg_of X G ea_NoOrder) (kit_own hi_NoOrder ht_NoOrder ps_NoWorth_NoOrder hr_NoOrder) (exm_own hb_NoOrder hi_NoOrder ht_NoOrder ps_NoWorth_NoOrder) (is_own (PySem.W.mg_of X G ea_NoEnds) (kit_own hi_NoEnds ht_NoEnds ps_NoWorth_NoEnds hr_NoEnds) (exm_own hb_NoEnds hi_NoEnds ht_NoEnds ps_NoWorth_NoEnds) (is_own (PySem.W.mg_of X G ea_NoTree) (kit_own hi_NoTree ht_NoTree ps_NoWorth_NoTree hr_NoTree) (exm_own hb_NoTree hi_NoTree ht_NoTree ps_NoWorth_NoTree) (is_own (PySem.W.mg_of X G ea_NoWindow) (kit_own hi_NoWindow ht_NoWindow ps_NoWorth_NoWindow hr_NoWindow) (exm_own hb_NoWindow hi_NoWindow ht_NoWindow ps_NoWorth_NoWindow) (is_own (PySem.W.mg_of X G ea_TooMany) (kit_own hi_TooMany ht_TooMany ps_NoWorth_TooMany hr_TooMany) (exm_own hb_TooMany hi_TooMany ht_TooMany ps_NoWorth_TooMany) (is_own (PySem.W.mg_of X G ea_NoSize) (kit_own hi_NoSize ht_NoSize ps_NoWorth_NoSize hr_NoSize) (exm_own hb_NoSize hi_NoSize ht_NoSize ps_NoWorth_NoSize) (is_own (PySem.W.mg_of X G ea_NoStand) (kit_own hi_NoStand ht_NoStand ps_NoWorth_NoStand hr_NoStand) (exm_own hb_NoStand hi_NoStand ht_NoStand ps_NoWorth_NoStand) (is_own (PySem.W.mg_of X G ea_NoNumber) (kit_own hi_NoNumber ht_NoNumber ps_NoWorth_NoNumber hr_NoNumber) (exm_own hb_NoNumber hi_NoNumber ht_NoNumber ps_NoWorth_NoNumber) (is_own (PySem.W.mg_of X G ea_NoEnd) (kit_own hi_NoEnd ht_NoEnd ps_NoWorth_NoEnd hr_NoEnd) (exm_own hb_NoEnd hi_NoEnd ht_NoEnd ps_NoWorth_NoEnd) (is_own (PySem.W.mg_of X G ea_NoDepth) (kit_own hi_NoDepth ht_NoDepth ps_NoWorth_NoDepth hr_NoDepth) (exm_own hb_NoDepth hi_NoDepth ht_NoDepth ps_NoWorth_NoDepth) (is_own (PySem.W.mg_of X G ea_NoWorth) (kit_own hi_NoWorth ht_NoWorth ps_NoWorth_NoWorth hr_NoWorth) (exm_own hb_NoWorth hi_NoWorth ht_NoWorth ps_NoWorth_NoWorth) (is_own (PySem.W.mg_of X G ea_NoChange) (kit_own hi_NoChange ht_NoChange ps_NoWorth_NoChange hr_NoChange) (exm_own hb_NoChange hi_NoChange ht_NoChange ps_NoWorth_NoChange) (is_own (PySem.W.mg_of X G ea_NoRow) (kit_own hi_NoRow ht_NoRow ps_NoWorth_NoRow hr_NoRow) (exm_own hb_NoRow hi_NoRow ht_NoRow ps_NoWorth_NoRow) (is_own (PySem.W.mg_of X G ea_NoName) (kit_own hi_NoName ht_NoName ps_NoWorth_NoName hr_NoName) (exm_own hb_NoName hi_NoName ht_NoName ps_NoWorth_NoName) (is_own (PySem.W.mg_of X G ea_BoughError) (kit_own hi_BoughError ht_BoughError ps_NoWorth_BoughError hr_BoughError) (exm_own hb_BoughError hi_BoughError ht_BoughError ps_NoWorth_BoughError) (is_ve (PySem.W.mg_none_of X G zVE) (kit_bi vs_NoWorth) (exm_bi zVB vs_NoWorth) is_nil))))))))))))))))))))) (xc_cons (xc_of (PySem.W.mg_of X G ea_NoChange) ek_NoChange e1_NoChange e2_NoChange e3_NoChange e4_NoChange e5_NoChange ex6 ex7 e8_NoChange et_NoChange eq_NoChange (is_own (PySem.W.mg_of X G ea_NoPlay) (kit_own hi_NoPlay ht_NoPlay ps_NoChange_NoPlay hr_NoPlay) (exm_own hb_NoPlay hi_NoPlay ht_NoPlay ps_NoChange_NoPlay) (is_own (PySem.W.mg_of X G ea_NoText) (kit_own hi_NoText ht_NoText ps_NoChange_NoText hr_NoText) (exm_own hb_NoText hi_NoText ht_NoText ps_NoChange_NoText) (is_own (PySem.W.mg_of X G ea_NoWay) (kit_own hi_NoWay ht_NoWay ps_NoChange_NoWay hr_NoWay) (exm_own hb_NoWay hi_NoWay ht_NoWay ps_NoChange_NoWay) (is_own (PySem.W.mg_of X G ea_NoRule) (kit_own hi_NoRule ht_NoRule ps_NoChange_NoRule hr_NoRule) (exm_own hb_NoRule hi_NoRule ht_NoRule ps_NoChange_NoRule) (is_own (PySem.W.mg_of X G ea_NoOrder) (kit_own hi_NoOrder ht_NoOrder ps_NoChange_NoOrder hr_NoOrder) (exm_own hb_NoOrder hi_NoOrder ht_NoOrder ps_NoChange_NoOrder) (is_own (PySem.W.mg_of X G ea_NoEnds) (kit_own hi_NoEnds ht_NoEnds ps_NoChange_NoEnds hr_NoEnds) (exm_own hb_NoEnds hi_NoEnds ht_NoEnds ps_NoChange_NoEnds) (is_own (PySem.W.mg_of X G ea_NoTree) (kit_own hi_NoTree ht_NoTree ps_NoChange_NoTree hr_NoTree) (exm_own hb_NoTree hi_NoTree ht_NoTree ps_NoChange_NoTree) (is_own (PySem.W.mg_of X G ea_NoWindow) (kit_own hi_NoWindow ht_NoWindow ps_NoChange_NoWindow hr_NoWindow) (exm_own hb_NoWindow hi_NoWindow ht_NoWindow ps_NoChange_NoWindow) (is_own (PySem.W.mg_of X G ea_TooMany) (kit_own hi_TooMany ht_TooMany ps_NoChange_TooMany hr_TooMany) (exm_own hb_TooMany hi_TooMany ht_TooMany ps_NoChange_TooMany) (is_own (PySem.W.mg_of X G ea_NoSize) (kit_own hi_NoSize ht_NoSize ps_NoChange_NoSize hr_NoSize) (exm_own hb_NoSize hi_NoSize ht_NoSize ps_NoChange_NoSize) (is_own (PySem.W.mg_of X G ea_NoStand) (kit_own hi_NoStand ht_NoStand ps_NoChange_NoStand hr_NoStand) (exm_own hb_NoStand hi_NoStand ht_NoStand ps_NoChange_NoStand) (is_own (PySem.W.mg_of X G ea_NoNumber) (kit_own hi_NoNumber ht_NoNumber ps_NoChange_NoNumber hr_NoNumber) (exm_own hb_NoNumber hi_NoNumber ht_NoNumber ps_NoChange_NoNumber) (is_own (PySem.W.mg_of X G ea_NoEnd) (kit_own hi_NoEnd ht_NoEnd ps_NoChange_NoEnd hr_NoEnd) (exm_own hb_NoEnd hi_NoEnd ht_NoEnd ps_NoChange_NoEnd) (is_own (PySem.W.mg_of X G ea_NoDepth) (kit_own hi_NoDepth ht_NoDepth ps_NoChange_NoDepth hr_NoDepth) (exm_own hb_NoDepth hi_NoDepth ht_NoDepth ps_NoChange_NoDepth) (is_own (PySem.W.mg_of X G ea_NoWorth) (kit_own hi_NoWorth ht_NoWorth ps_NoChange_NoWorth hr_NoWorth) (exm_own hb_NoWorth hi_NoWorth ht_NoWorth ps_NoChange_NoWorth) (is_own (PySem.W.mg_of X G ea_NoChange) (kit_own hi_NoChange ht_NoChange ps_NoChange_NoChange hr_NoChange) (exm_own hb_NoChange hi_NoChange ht_NoChange ps_NoChange_NoChange) (is_own (PySem.W.mg_of X G ea_NoRow) (kit_own hi_NoRow ht_NoRow ps_NoChange_NoRow hr_NoRow) (exm_own hb_NoRow hi_NoRow ht_NoRow ps_NoChange_NoRow) (is_own (PySem.W.mg_of X G ea_NoName) (kit_own hi_NoName ht_NoName ps_NoChange_NoName hr_NoName) (exm_own hb_NoName hi_NoName ht_NoName ps_NoChange_NoName) (is_own (PySem.W.mg_of X G ea_BoughError) (kit_own hi_BoughError ht_BoughError ps_NoChange_BoughError hr_BoughError) (exm_own hb_BoughError hi_BoughError ht_BoughError ps_NoChange_BoughError) (is_ve (PySem.W.mg_none_of X G zVE) (kit_bi vs_NoChange) (exm_bi zVB vs_NoChange) is_nil))))))))))))))))))))) (xc_cons (xc_of (PySem.W.mg_of X G ea_NoRow) ek_NoRow e1_NoRow e2_NoRow e3_NoRow e4_NoRow e5_NoRow ex6 ex7 e8_NoRow et_NoRow eq_NoRow (is_own (PySem.W.mg_of X G ea_NoPlay) (kit_own hi_NoPlay ht_NoPlay ps_NoRow_NoPlay hr_NoPlay) (exm_own hb_NoPlay hi_NoPlay ht_NoPlay ps_NoRow_NoPlay) (is_own (PySem.W.mg_of X G ea_NoText) (kit_own hi_NoText ht_NoText ps_NoRow_NoText hr_NoText) (exm_own hb_NoText hi_NoText ht_NoText ps_NoRow_NoText) (is_own (PySem.W.mg_of X G ea_NoWay) (kit_own hi_NoWay ht_NoWay ps_NoRow_NoWay hr_NoWay) (exm_own hb_NoWay hi_NoWay ht_NoWay ps_NoRow_NoWay) (is_own (PySem.W.mg_of X G ea_NoRule) (kit_own hi_NoRule ht_NoRule ps_NoRow_NoRule hr_NoRule) (exm_own hb_NoRule hi_NoRule ht_NoRule ps_NoRow_NoRule) (is_own (PySem.W.mg_of X G ea_NoOrder) (kit_own hi_NoOrder ht_NoOrder ps_NoRow_NoOrder hr_NoOrder) (exm_own hb_NoOrder hi_NoOrder ht_NoOrder ps_NoRow_NoOrder) (is_own (PySem.W.mg_of X G ea_NoEnds) (kit_own hi_NoEnds ht_NoEnds ps_NoRow_NoEnds hr_NoEnds) (exm_own hb_NoEnds hi_NoEnds ht_NoEnds ps_NoRow_NoEnds) (is_own (PySem.W.mg_of X G ea_NoTree) (kit_own hi_NoTree ht_NoTree ps_NoRow_NoTree hr_NoTree) (exm_own hb_NoTree hi_NoTree ht_NoTree ps_NoRow_NoTree) (is_own (PySem.W.mg_of X G ea_NoWindow) (kit_own hi_NoWindow ht_NoWindow ps_NoRow_NoWindow hr_NoWindow) (exm_own hb_NoWindow hi_NoWindow ht_NoWindow ps_NoRow_NoWindow) (is_own (PySem.W.mg_of X G ea_TooMany) (kit_own hi_TooMany ht_TooMany ps_NoRow_TooMany hr_TooMany) (exm_own hb_TooMany hi_TooMany ht_TooMany ps_NoRow_TooMany) (is_own (PySem.W.mg_of X G ea_NoSize) (kit_own hi_NoSize ht_NoSize ps_NoRow_NoSize hr_NoSize) (exm_own hb_NoSize hi_NoSize ht_NoSize ps_NoRow_NoSize) (is_own (PySem.W.mg_of X G ea_NoStand) (kit_own hi_NoStand ht_NoStand ps_NoRow_NoStand hr_NoStand) (exm_own hb_NoStand hi_NoStand ht_NoStand ps_NoRow_NoStand) (is_own (PySem.W.mg_of X G ea_NoNumber) (kit_own hi_NoNumber ht_NoNumber ps_NoRow_NoNumber hr_NoNumber) (exm_own hb_NoNumber hi_NoNumber ht_NoNumber ps_NoRow_NoNumber) (is_own (PySem.W.mg_of X G ea_NoEnd) (kit_own hi_NoEnd ht_NoEnd ps_NoRow_NoEnd hr_NoEnd) (exm_own hb_NoEnd hi_NoEnd ht_NoEnd ps_NoRow_NoEnd) (is_own (PySem.W.mg_of X G ea_NoDepth) (kit_own hi_NoDepth ht_NoDepth ps_NoRow_NoDepth hr_NoDepth) (exm_own hb_NoDepth hi_NoDepth ht_NoDepth ps_NoRow_NoDepth) (is_own (PySem.W.mg_of X G ea_NoWorth) (kit_own hi_NoWorth ht_NoWorth ps_NoRow_NoWorth hr_NoWorth) (exm_own hb_NoWorth hi_NoWorth ht_NoWorth ps_NoRow_NoWorth) (is_own (PySem.W.mg_of X G ea_NoChange) (kit_own hi_NoChange ht_NoChange ps_NoRow_NoChange hr_NoChange) (exm_own hb_NoChange hi_NoChange ht_NoChange ps_NoRow_NoChange) (is_own (PySem.W.mg_of X G ea_NoRow) (kit_own hi_NoRow ht_NoRow ps_NoRow_NoRow hr_NoRow) (exm_own hb_NoRow hi_NoRow ht_NoRow ps_NoRow_NoRow) (is_own (PySem.W.mg_of X G ea_NoName) (kit_own hi_NoName ht_NoName ps_NoRow_NoName hr_NoName) (exm_own hb_NoName hi_NoName ht_NoName ps_NoRow_NoName) (is_own (PySem.W.mg_of X G ea_BoughError) (kit_own hi_BoughError ht_BoughError ps_NoRow_BoughError hr_BoughError) (exm_own hb_BoughError hi_BoughError ht_BoughError ps_NoRow_BoughError) (is_ve (PySem.W.mg_none_of X G zVE) (kit_bi vs_NoRow) (exm_bi zVB vs_NoRow) is_nil))))))))))))))))))))) (xc_cons (xc_of (PySem.W.mg_of X G ea_NoName) ek_NoName e1_NoName e2_NoName e3_NoName e4_NoName e5_NoName ex6 ex7 e8_NoName et_NoName eq_NoName (is_own (PySem.W.mg_of X G ea_NoPlay) (kit_own hi_NoPlay ht_NoPlay ps_NoName_NoPlay hr_NoPlay) (exm_own hb_NoPlay hi_NoPlay ht_NoPlay ps_NoName_NoPlay) (is_own (PySem.W.mg_of X G ea_NoText) (kit_own hi_NoText ht_NoText ps_NoName_NoText hr_NoText) (exm_own hb_NoText hi_NoText ht_NoText ps_NoName_NoText) (is_own (PySem.W.mg_of X G ea_NoWay) (kit_own hi_NoWay ht_NoWay ps_NoName_NoWay hr_NoWay) (exm_own hb_NoWay hi_NoWay ht_NoWay ps_NoName_NoWay) (is_own (PySem.W.mg_of X G ea_NoRule) (kit_own hi_NoRule ht_NoRule ps_NoName_NoRule hr_NoRule) (exm_own hb_NoRule hi_NoRule ht_NoRule ps_NoName_NoRule) (is_own (PySem.W.mg_of X G ea_NoOrder) (kit_own hi_NoOrder ht_NoOrder ps_NoName_NoOrder hr_NoOrder) (exm_own hb_NoOrder hi_NoOrder ht_NoOrder ps_NoName_NoOrder) (is_own (PySem.W.mg_of X G ea_NoEnds) (kit_own hi_NoEnds ht_NoEnds ps_NoName_NoEnds hr_NoEnds) (exm_own hb_NoEnds hi_NoEnds ht_NoEnds ps_NoName_NoEnds) (is_own (PySem.W.mg_of X G ea_NoTree) (kit_own hi_NoTree ht_NoTree ps_NoName_NoTree hr_NoTree) (exm_own hb_NoTree hi_NoTree ht_NoTree ps_NoName_NoTree) (is_own (PySem.W.mg_of X G ea_NoWindow) (kit_own hi_NoWindow ht_NoWindow ps_NoName_NoWindow hr_NoWindow) (exm_own hb_NoWindow hi_NoWindow ht_NoWindow ps_NoName_NoWindow) (is_own (PySem.W.mg_of X G ea_TooMany) (kit_own hi_TooMany ht_TooMany ps_NoName_TooMany hr_TooMany) (exm_own hb_TooMany hi_TooMany ht_TooMany ps_NoName_TooMany) (is_own (PySem.W.mg_of X G ea_NoSize) (kit_own hi_NoSize ht_NoSize ps_NoName_NoSize hr_NoSize) (exm_own hb_NoSize hi_NoSize ht_NoSize ps_NoName_NoSize) (is_own (PySem.W.mg_of X G ea_NoStand) (kit_own hi_NoStand ht_NoStand ps_NoName_NoStand hr_NoStand) (exm_own hb_NoStand hi_NoStand ht_NoStand ps_NoName_NoStand) (is_own (PySem.W.mg_of X G ea_NoNumber) (kit_own hi_NoNumber ht_NoNumber ps_NoName_NoNumber hr_NoNumber) (exm_own hb_NoNumber hi_NoNumber ht_NoNumber ps_NoName_NoNumber) (is_own (PySem.W.mg_of X G ea_NoEnd) (kit_own hi_NoEnd ht_NoEnd ps_NoName_NoEnd hr_NoEnd) (exm_own hb_NoEnd hi_NoEnd ht_NoEnd ps_NoName_NoEnd) (is_own (PySem.W.mg_of X G ea_NoDepth) (kit_own hi_NoDepth ht_NoDepth ps_NoName_NoDepth hr_NoDepth) (exm_own hb_NoDepth hi_NoDepth ht_NoDepth ps_NoName_NoDepth) (is_own (PySem.W.mg_of X G ea_NoWorth) (kit_own hi_NoWorth ht_NoWorth ps_NoName_NoWorth hr_NoWorth) (exm_own hb_NoWorth hi_NoWorth ht_NoWorth ps_NoName_NoWorth) (is_own (PySem.W.mg_of X G ea_NoChange) (kit_own hi_NoChange ht_NoChange ps_NoName_NoChange hr_NoChange) (exm_own hb_NoChange hi_NoChange ht_NoChange ps_NoName_NoChange) (is_own (PySem.W.mg_of X G ea_NoRow) (kit_own hi_NoRow ht_NoRow ps_NoName_NoRow hr_NoRow) (exm_own hb_NoRow hi_NoRow ht_NoRow ps_NoName_NoRow) (is_own (PySem.W.mg_of X G ea_NoName) (kit_own hi_NoName ht_NoName ps_NoName_NoName hr_NoName) (exm_own hb_NoName hi_NoName ht_NoName ps_NoName_NoName) (is_own (PySem.W.mg_of X G ea_BoughError) (kit_own hi_BoughError ht_BoughError ps_NoName_BoughError hr_BoughError) (exm_own hb_BoughError hi_BoughError ht_BoughError ps_NoName_BoughError) (is_ve (PySem.W.mg_none_of X G zVE) (kit_bi vs_NoName) (exm_bi zVB vs_NoName) is_nil))))))))))))))))))))) xc_nil)))))))))))))))), (fun _ _ h => by cases h), (xo_cons (xo_of (PySem.W.mg_of X G ea_NoPlay) ek_NoPlay (oex_of ol_NoPlay sa_NoPlay e3_NoPlay et_NoPlay ek_NoPlay) e1_NoPlay e2_NoPlay e3_NoPlay e4_NoPlay e5_NoPlay ex6 ex7 e8_NoPlay no_NoPlay (isx_own (PySem.W.mg_of X G ea_NoPlay) (kit_own hi_NoPlay ht_NoPlay ps_NoPlay_NoPlay hr_NoPlay) (isx_own (PySem.W.mg_of X G ea_NoText) (kit_own hi_NoText ht_NoText ps_NoPlay_NoText hr_NoText) (isx_own (PySem.W.mg_of X G ea_NoWay) (kit_own hi_NoWay ht_NoWay ps_NoPlay_NoWay hr_NoWay) (isx_own (PySem.W.mg_of X G ea_NoRule) (kit_own hi_NoRule ht_NoRule ps_NoPlay_NoRule hr_NoRule) (isx_own (PySem.W.mg_of X G ea_NoOrder) (kit_own hi_NoOrder ht_NoOrder ps_NoPlay_NoOrder hr_NoOrder) (isx_own (PySem.W.mg_of X G ea_NoEnds) (kit_own hi_NoEnds ht_NoEnds ps_NoPlay_NoEnds hr_NoEnds) (isx_own (PySem.W.mg_of X G ea_NoTree) (kit_own hi_NoTree ht_NoTree ps_NoPlay_NoTree hr_NoTree) (isx_own (PySem.W.mg_of X G ea_NoWindow) (kit_own hi_NoWindow ht_NoWindow ps_NoPlay_NoWindow hr_NoWindow) (isx_own (PySem.W.mg_of X G ea_TooMany) (kit_own hi_TooMany ht_TooMany ps_NoPlay_TooMany hr_TooMany) (isx_own (PySem.W.mg_of X G ea_NoSize) (kit_own hi_NoSize ht_NoSize ps_NoPlay_NoSize hr_NoSize) (isx_own (PySem.W.mg_of X G ea_NoStand) (kit_own hi_NoStand ht_NoStand ps_NoPlay_NoStand hr_NoStand) (isx_own (PySem.W.mg_of X G ea_NoNumber) (kit_own hi_NoNumber ht_NoNumber ps_NoPlay_NoNumber hr_NoNumber) (isx_own (PySem.W.mg_of X G ea_NoEnd) (kit_own hi_NoEnd ht_NoEnd ps_NoPlay_NoEnd hr_NoEnd) (isx_own (PySem.W.mg_of X G ea_NoDepth) (kit_own hi_NoDepth ht_NoDepth ps_NoPlay_NoDepth hr_NoDepth) (isx_own (PySem.W.mg_of X G ea_NoWorth) (kit_own hi_NoWorth ht_NoWorth ps_NoPlay_NoWorth hr_NoWorth) (isx_own (PySem.W.mg_of X G ea_NoChange) (kit_own hi_NoChange ht_NoChange ps_NoPlay_NoChange hr_NoChange) (isx_own (PySem.W.mg_of X G ea_NoRow) (kit_own hi_NoRow ht_NoRow ps_NoPlay_NoRow hr_NoRow) (isx_own (PySem.W.mg_of X G ea_NoName) (kit_own hi_NoName ht_NoName ps_NoPlay_NoName hr_NoName) (isx_own (PySem.W.mg_of X G ea_BoughError) (kit_own hi_BoughError ht_BoughError ps_NoPlay_BoughError hr_BoughError) (isx_ve (PySem.W.mg_none_of X G zVE) (kit_bi vs_NoPlay) isx_nil)))))))))))))))))))) a5 i5 (fnI_ok (k := 0) F5 sc_NoPlay_init (initBB_ok ib_NoPlay_init) (oex_of ol_NoPlay sa_NoPlay e3_NoPlay et_NoPlay ek_NoPlay) no_NoPlay (PySem.W.mg_of X G ea_BoughError) rd_BoughError sg_BoughError (fcG_ok fc_BoughError) (by decide +kernel) (by decide +kernel) (by decide +kernel) (by decide +kernel)) b5 (by decide)) (xo_cons (xo_of (PySem.W.mg_of X G ea_NoText) ek_NoText (oex_of ol_NoText sa_NoText e3_NoText et_NoText ek_NoText) e1_NoText e2_NoText e3_NoText e4_NoText e5_NoText ex6 ex7 e8_NoText no_NoText (isx_own (PySem.W.mg_of X G ea_NoPlay) (kit_own hi_NoPlay ht_NoPlay ps_NoText_NoPlay hr_NoPlay) (isx_own (PySem.W.mg_of X G ea_NoText) (kit_own hi_NoText ht_NoText ps_NoText_NoText hr_NoText) (isx_own (PySem.W.mg_of X G ea_NoWay) (kit_own hi_NoWay ht_NoWay ps_NoText_NoWay hr_NoWay) (isx_own (PySem.W.mg_of X G ea_NoRule) (kit_own hi_NoRule ht_NoRule ps_NoText_NoRule hr_NoRule) (isx_own (PySem.W.mg_of X G ea_NoOrder) (kit_own hi_NoOrder ht_NoOrder ps_NoText_NoOrder hr_NoOrder) (isx_own (PySem.W.mg_of X G ea_NoEnds) (kit_own hi_NoEnds ht_NoEnds ps_NoText_NoEnds hr_NoEnds) (isx_own (PySem.W.mg_of X G ea_NoTree) (kit_own hi_NoTree ht_NoTree ps_NoText_NoTree hr_NoTree) (isx_own (PySem.W.mg_of X G ea_NoWindow) (kit_own hi_NoWindow ht_NoWindow ps_NoText_NoWindow hr_NoWindow) (isx_own (PySem.W.mg_of X G ea_TooMany) (kit_own hi_TooMany ht_TooMany ps_NoText_TooMany hr_TooMany) (isx_own (PySem.W.mg_of X G ea_NoSize) (kit_own hi_NoSize ht_NoSize ps_NoText_NoSize hr_NoSize) (isx_own (PySem.W.mg_of X G ea_NoStand) (kit_own hi_NoStand ht_NoStand ps_NoText_NoStand hr_NoStand) (isx_own (PySem.W.mg_of X G ea_NoNumber) (kit_own hi_NoNumber ht_NoNumber ps_NoText_NoNumber hr_NoNumber) (isx_own (PySem.W.mg_of X G ea_NoEnd) (kit_own hi_NoEnd ht_NoEnd ps_NoText_NoEnd hr_NoEnd) (isx_own (PySem.W.mg_of X G ea_NoDepth) (kit_own hi_NoDepth ht_NoDepth ps_NoText_NoDepth hr_NoDepth) (isx_own (PySem.W.mg_of X G ea_NoWorth) (kit_own hi_NoWorth ht_NoWorth ps_NoText_NoWorth hr_NoWorth) (isx_own (PySem.W.mg_of X G ea_NoChange) (kit_own hi_NoChange ht_NoChange ps_NoText_NoChange hr_NoChange) (isx_own (PySem.W.mg_of X G ea_NoRow) (kit_own hi_NoRow ht_NoRow ps_NoText_NoRow hr_NoRow) (isx_own (PySem.W.mg_of X G ea_NoName) (kit_own hi_NoName ht_NoName ps_NoText_NoName hr_NoName) (isx_own (PySem.W.mg_of X G ea_BoughError) (kit_own hi_BoughError ht_BoughError ps_NoText_BoughError hr_BoughError) (isx_ve (PySem.W.mg_none_of X G zVE) (kit_bi vs_NoText) isx_nil)))))))))))))))))))) a6 i6 (fnI_ok (k := 0) F6 sc_NoText_init (initBB_ok ib_NoText_init) (oex_of ol_NoText sa_NoText e3_NoText et_NoText ek_NoText) no_NoText (PySem.W.mg_of X G ea_BoughError) rd_BoughError sg_BoughError (fcG_ok fc_BoughError) (by decide +kernel) (by decide +kernel) (by decide +kernel) (by decide +kernel)) b6 (by decide)) xo_nil)), (fun _ h => by cases h)⟩) rfl ch_law (w_law e_NoPlay e_NoText e_NoWay e_NoRule e_NoOrder e_NoEnds e_NoTree e_NoWindow e_TooMany e_NoSize e_NoStand e_NoNumber e_NoEnd e_NoDepth e_NoWorth e_NoChange e_NoRow e_NoName)
theorem allH {l : PySem.W.OpenLaw} {w : World} {K : PySem.W.Frag} {h : Heap} {mg : Str → Option Value} {fa : Addr} (c : obsH fH dH K = He.valD dH) (X : K.In h) (G : h.Ns mainGlobals mg) (hfa : mg "law" = some (.ref fa)) :
    ∃ fd : FuncData, (∀ (s : Shared) (v : Value), BindsTo s fd ⟨[v], []⟩ [("_law_script", v)]) ∧ ∀ base : Heap, K.In base → base.Ns mainGlobals mg → (∀ p ∈ tabsC K, LamX.TabB base mg p.1 p.2) → FnG l.prog w K mg base CX0 4 fa fd ["_law_script"] (spV K [.bor] (FLaw 63)) := by
  obtain ⟨_, _, _, _, _, _, _, _, _, hl0, hc0, hk0⟩ := fun_of (defH c 0 (d := ⟨⟨"_law_pool", none⟩, "_law_pool", "_law_pool", defArgs s_law_pool, defBody s_law_pool, defScope s_law_pool, [], []⟩) rfl)
  obtain ⟨_, _, _, _, _, _, _, _, _, hl1, hc1, hk1⟩ := fun_of (defH c 1 (d := ⟨⟨"_law_take", none⟩, "_law_take", "_law_take", defArgs s_law_take, defBody s_law_take, defScope s_law_take, [], []⟩) rfl)
  obtain ⟨_, _, _, _, _, _, _, _, _, hl2, hc2, hk2⟩ := fun_of (defH c 2 (d := ⟨⟨"_law_made", none⟩, "_law_made", "_law_made", defArgs s_law_made, defBody s_law_made, defScope s_law_made, [], []⟩) rfl)
  obtain ⟨_, _, _, _, _, _, _, _, _, hl3, hc3, hk3⟩ := fun_of (defH c 3 (d := ⟨⟨"_law_sorts", none⟩, "_law_sorts", "_law_sorts", defArgs s_law_sorts, defBody s_law_sorts, defScope s_law_sorts, [], []⟩) rfl)
  obtain ⟨_, _, _, _, _, _, _, _, _, hl4, hc4, hk4⟩ := fun_of (defH c 4 (d := ⟨⟨"law", none⟩, "law", "law", defArgs s_law, defBody s_law, defScope s_law, [], []⟩) rfl)
  obtain ⟨_, _, _, _, _, _, _, _, _, hl5, hc5, hk5⟩ := fun_of (defH c 5 (d := ⟨⟨"NoPlay", some "__init__"⟩, "__init__", "NoPlay.__init__", defArgs s_NoPlay_init, defBody s_NoPlay_init, defScope s_NoPlay_init, [], []⟩) rfl)
  obtain ⟨_, _, _, _, _, _, _, _, _, hl6, hc6, hk6⟩ := fun_of (defH c 6 (d := ⟨⟨"NoText", some "__init__"⟩, "__init__", "NoText.__init__", defArgs s_NoText_init, defBody s_NoText_init, defScope s_NoText_init, [], []⟩) rfl)
  exact all_mk X G hfa (of_decide_eq_true (factH c 0 (f := fun K => decide (PySem.W.nsIn K mainGlobals "NoWay" = some (some (.ref (He.ga K "NoWay"))))) rfl)) (of_decide_eq_true (factH c 1 (f := fun K => decide (PySem.W.nsIn K mainGlobals "NoPlay" = some (some (.ref (He.ga K "NoPlay"))))) rfl)) (of_decide_eq_true (factH c 2 (f := fun K => decide (PySem.W.nsIn K mainGlobals "NoText" = some (some (.ref (He.ga K "NoText"))))) rfl)) (of_decide_eq_true (factH c 3 (f := fun K => decide (PySem.W.nsIn K mainGlobals "NoRule" = some (some (.ref (He.ga K "NoRule"))))) rfl)) (of_decide_eq_true (factH c 4 (f := fun K => decide (PySem.W.nsIn K mainGlobals "NoOrder" = some (some (.ref (He.ga K "NoOrder"))))) rfl)) (of_decide_eq_true (factH c 5 (f := fun K => decide (PySem.W.nsIn K mainGlobals "NoEnds" = some (some (.ref (He.ga K "NoEnds"))))) rfl)) (of_decide_eq_true (factH c 6 (f := fun K => decide (PySem.W.nsIn K mainGlobals "NoTree" = some (some (.ref (He.ga K "NoTree"))))) rfl)) (of_decide_eq_true (factH c 7 (f := fun K => decide (PySem.W.nsIn K mainGlobals "NoWindow" = some (some (.ref (He.ga K "NoWindow"))))) rfl)) (of_decide_eq_true (factH c 8 (f := fun K => decide (PySem.W.nsIn K mainGlobals "TooMany" = some (some (.ref (He.ga K "TooMany"))))) rfl)) (of_decide_eq_true (factH c 9 (f := fun K => decide (PySem.W.nsIn K mainGlobals "NoSize" = some (some (.ref (He.ga K "NoSize"))))) rfl)) (of_decide_eq_true (factH c 10 (f := fun K => decide (PySem.W.nsIn K mainGlobals "NoStand" = some (some (.ref (He.ga K "NoStand"))))) rfl)) (of_decide_eq_true (factH c 11 (f := fun K => decide (PySem.W.nsIn K mainGlobals "NoNumber" = some (some (.ref (He.ga K "NoNumber"))))) rfl)) (of_decide_eq_true (factH c 12 (f := fun K => decide (PySem.W.nsIn K mainGlobals "NoEnd" = some (some (.ref (He.ga K "NoEnd"))))) rfl)) (of_decide_eq_true (factH c 13 (f := fun K => decide (PySem.W.nsIn K mainGlobals "NoDepth" = some (some (.ref (He.ga K "NoDepth"))))) rfl)) (of_decide_eq_true (factH c 14 (f := fun K => decide (PySem.W.nsIn K mainGlobals "NoWorth" = some (some (.ref (He.ga K "NoWorth"))))) rfl)) (of_decide_eq_true (factH c 15 (f := fun K => decide (PySem.W.nsIn K mainGlobals "NoChange" = some (some (.ref (He.ga K "NoChange"))))) rfl)) (of_decide_eq_true (factH c 16 (f := fun K => decide (PySem.W.nsIn K mainGlobals "NoRow" = some (some (.ref (He.ga K "NoRow"))))) rfl)) (of_decide_eq_true (factH c 17 (f := fun K => decide (PySem.W.nsIn K mainGlobals "NoName" = some (some (.ref (He.ga K "NoName"))))) rfl)) (of_decide_eq_true (factH c 18 (f := fun K => decide (PySem.W.nsIn K mainGlobals "BoughError" = some (some (.ref (He.ga K "BoughError"))))) rfl)) (of_decide_eq_true (factH c 19 (f := fun K => decide (PySem.W.specialIn K (.builtin "object.__class__") "__get__" = some (some (.builtin "getset_descriptor.__get__")))) rfl)) (of_decide_eq_true (factH c 20 (f := fun K => decide (PySem.W.takesIn K (.builtin "object.__class__") = some true)) rfl)) (of_decide_eq_true (factH c 21 (f := fun K => decide (PySem.W.keepIn K (.ref (He.ga K "NoWay")) = true)) rfl)) (of_decide_eq_true (factH c 22 (f := fun K => decide (PySem.W.findIn K (.ref (He.ga K "NoWay")) "__getattribute__" = some (some (.builtin "BaseException.__getattribute__")))) rfl)) (of_decide_eq_true (factH c 23 (f := fun K => decide (PySem.W.findIn K (.ref (He.ga K "NoWay")) "__getattr__" = some none)) rfl)) (of_decide_eq_true (factH c 24 (f := fun K => decide (PySem.W.subIn K (.ref (He.ga K "NoWay")) (.type "BaseException") = some true)) rfl)) (of_decide_eq_true (factH c 25 (f := fun K => decide (PySem.W.hasDictIn K (He.ga K "NoWay") = true)) rfl)) (of_decide_eq_true (factH c 26 (f := fun K => decide (PySem.W.findIn K (.ref (He.ga K "NoWay")) "__class__" = some (some (.builtin "object.__class__")))) rfl)) (of_decide_eq_true (factH c 27 (f := fun K => decide (PySem.W.mroIn K (He.ga K "NoWay") (.type "object") = some true)) rfl)) (of_decide_eq_true (factH c 28 (f := fun K => decide (PySem.W.typeIn K (.ref (He.ga K "NoWay")) = some (.type "type"))) rfl)) (of_decide_eq_true (factH c 29 (f := fun K => decide (PySem.W.excIn K (He.ga K "NoWay") [.type "ValueError", .type "Exception", .type "BaseException", .type "object"] "ValueError.__new__" = true)) rfl)) (of_decide_eq_true (factH c 30 (f := fun K => decide (PySem.W.keepIn K (.ref (He.ga K "NoRule")) = true)) rfl)) (of_decide_eq_true (factH c 31 (f := fun K => decide (PySem.W.findIn K (.ref (He.ga K "NoRule")) "__getattribute__" = some (some (.builtin "BaseException.__getattribute__")))) rfl)) (of_decide_eq_true (factH c 32 (f := fun K => decide (PySem.W.findIn K (.ref (He.ga K "NoRule")) "__getattr__" = some none)) rfl)) (of_decide_eq_true (factH c 33 (f := fun K => decide (PySem.W.subIn K (.ref (He.ga K "NoRule")) (.type "BaseException") = some true)) rfl)) (of_decide_eq_true (factH c 34 (f := fun K => decide (PySem.W.hasDictIn K (He.ga K "NoRule") = true)) rfl)) (of_decide_eq_true (factH c 35 (f := fun K => decide (PySem.W.findIn K (.ref (He.ga K "NoRule")) "__class__" = some (some (.builtin "object.__class__")))) rfl)) (of_decide_eq_true (factH c 36 (f := fun K => decide (PySem.W.mroIn K (He.ga K "NoRule") (.type "object") = some true)) rfl)) (of_decide_eq_true (factH c 37 (f := fun K => decide (PySem.W.typeIn K (.ref (He.ga K "NoRule")) = some (.type "type"))) rfl)) (of_decide_eq_true (factH c 38 (f := fun K => decide (PySem.W.excIn K (He.ga K "NoRule") [.type "ValueError", .type "Exception", .type "BaseException", .type "object"] "ValueError.__new__" = true)) rfl)) (of_decide_eq_true (factH c 39 (f := fun K => decide (PySem.W.keepIn K (.ref (He.ga K "NoOrder")) = true)) rfl)) (of_decide_eq_true (factH c 40 (f := fun K => decide (PySem.W.findIn K (.ref (He.ga K "NoOrder")) "__getattribute__" = some (some (.builtin "BaseException.__getattribute__")))) rfl)) (of_decide_eq_true (factH c 41 (f := fun K => decide (PySem.W.findIn K (.ref (He.ga K "NoOrder")) "__getattr__" = some none)) rfl)) (of_decide_eq_true (factH c 42 (f := fun K => decide (PySem.W.subIn K (.ref (He.ga K "NoOrder")) (.type "BaseException") = some true)) rfl)) (of_decide_eq_true (factH c 43 (f := fun K => decide (PySem.W.hasDictIn K (He.ga K "NoOrder") = true)) rfl)) (of_decide_eq_true (factH c 44 (f := fun K => decide (PySem.W.findIn K (.ref (He.ga K "NoOrder")) "__class__" = some (some (.builtin "object.__class__")))) rfl)) (of_decide_eq_true (factH c 45 (f := fun K => decide (PySem.W.mroIn K (He.ga K "NoOrder") (.type "object") = some true)) rfl)) (of_decide_eq_true (factH c 46 (f := fun K => decide (PySem.W.typeIn K (.ref (He.ga K "NoOrder")) = some (.type "type"))) rfl)) (of_decide_eq_true (factH c 47 (f := fun K => decide (PySem.W.excIn K (He.ga K "NoOrder") [.type "ValueError", .type "Exception", .type "BaseException", .type "object"] "ValueError.__new__" = true)) rfl)) (of_decide_eq_true (factH c 48 (f := fun K => decide (PySem.W.keepIn K (.ref (He.ga K "NoEnds")) = true)) rfl)) (of_decide_eq_true (factH c 49 (f := fun K => decide (PySem.W.findIn K (.ref (He.ga K "NoEnds")) "__getattribute__" = some (some (.builtin "BaseException.__getattribute__")))) rfl)) (of_decide_eq_true (factH c 50 (f := fun K => decide (PySem.W.findIn K (.ref (He.ga K "NoEnds")) "__getattr__" = some none)) rfl)) (of_decide_eq_true (factH c 51 (f := fun K => decide (PySem.W.subIn K (.ref (He.ga K "NoEnds")) (.type "BaseException") = some true)) rfl)) (of_decide_eq_true (factH c 52 (f := fun K => decide (PySem.W.hasDictIn K (He.ga K "NoEnds") = true)) rfl)) (of_decide_eq_true (factH c 53 (f := fun K => decide (PySem.W.findIn K (.ref (He.ga K "NoEnds")) "__class__" = some (some (.builtin "object.__class__")))) rfl)) (of_decide_eq_true (factH c 54 (f := fun K => decide (PySem.W.mroIn K (He.ga K "NoEnds") (.type "object") = some true)) rfl)) (of_decide_eq_true (factH c 55 (f := fun K => decide (PySem.W.typeIn K (.ref (He.ga K "NoEnds")) = some (.type "type"))) rfl)) (of_decide_eq_true (factH c 56 (f := fun K => decide (PySem.W.excIn K (He.ga K "NoEnds") [.type "ValueError", .type "Exception", .type "BaseException", .type "object"] "ValueError.__new__" = true)) rfl)) (of_decide_eq_true (factH c 57 (f := fun K => decide (PySem.W.keepIn K (.ref (He.ga K "NoTree")) = true)) rfl)) (of_decide_eq_true (factH c 58 (f := fun K => decide (PySem.W.findIn K (.ref (He.ga K "NoTree")) "__getattribute__" = some (some (.builtin "BaseException.__getattribute__")))) rfl)) (of_decide_eq_true (factH c 59 (f := fun K => decide (PySem.W.findIn K (.ref (He.ga K "NoTree")) "__getattr__" = some none)) rfl)) (of_decide_eq_true (factH c 60 (f := fun K => decide (PySem.W.subIn K (.ref (He.ga K "NoTree")) (.type "BaseException") = some true)) rfl)) (of_decide_eq_true (factH c 61 (f := fun K => decide (PySem.W.hasDictIn K (He.ga K "NoTree") = true)) rfl)) (of_decide_eq_true (factH c 62 (f := fun K => decide (PySem.W.findIn K (.ref (He.ga K "NoTree")) "__class__" = some (some (.builtin "object.__class__")))) rfl)) (of_decide_eq_true (factH c 63 (f := fun K => decide (PySem.W.mroIn K (He.ga K "NoTree") (.type "object") = some true)) rfl)) (of_decide_eq_true (factH c 64 (f := fun K => decide (PySem.W.typeIn K (.ref (He.ga K "NoTree")) = some (.type "type"))) rfl)) (of_decide_eq_true (factH c 65 (f := fun K => decide (PySem.W.excIn K (He.ga K "NoTree") [.type "ValueError", .type "Exception", .type "BaseException", .type "object"] "ValueError.__new__" = true)) rfl)) (of_decide_eq_true (factH c 66 (f := fun K => decide (PySem.W.keepIn K (.ref (He.ga K "NoWindow")) = true)) rfl)) (of_decide_eq_true (factH c 67 (f := fun K => decide (PySem.W.findIn K (.ref (He.ga K "NoWindow")) "__getattribute__" = some (some (.builtin "BaseException.__getattribute__")))) rfl)) (of_decide_eq_true (factH c 68 (f := fun K => decide (PySem.W.findIn K (.ref (He.ga K "NoWindow")) "__getattr__" = some none)) rfl)) (of_decide_eq_true (factH c 69 (f := fun K => decide (PySem.W.subIn K (.ref (He.ga K "NoWindow")) (.type "BaseException") = some true)) rfl)) (of_decide_eq_true (factH c 70 (f := fun K => decide (PySem.W.hasDictIn K (He.ga K "NoWindow") = true)) rfl)) (of_decide_eq_true (factH c 71 (f := fun K => decide (PySem.W.findIn K (.ref (He.ga K "NoWindow")) "__class__" = some (some (.builtin "object.__class__")))) rfl)) (of_decide_eq_true (factH c 72 (f := fun K => decide (PySem.W.mroIn K (He.ga K "NoWindow") (.type "object") = some true)) rfl)) (of_decide_eq_true (factH c 73 (f := fun K => decide (PySem.W.typeIn K (.ref (He.ga K "NoWindow")) = some (.type "type"))) rfl)) (of_decide_eq_true (factH c 74 (f := fun K => decide (PySem.W.excIn K (He.ga K "NoWindow") [.type "ValueError", .type "Exception", .type "BaseException", .type "object"] "ValueError.__new__" = true)) rfl)) (of_decide_eq_true (factH c 75 (f := fun K => decide (PySem.W.keepIn K (.ref (He.ga K "TooMany")) = true)) rfl)) (of_decide_eq_true (factH c 76 (f := fun K => decide (PySem.W.findIn K (.ref (He.ga K "TooMany")) "__getattribute__" = some (some (.builtin "BaseException.__getattribute__")))) rfl)) (of_decide_eq_true (factH c 77 (f := fun K => decide (PySem.W.findIn K (.ref (He.ga K "TooMany")) "__getattr__" = some none)) rfl)) (of_decide_eq_true (factH c 78 (f := fun K => decide (PySem.W.subIn K (.ref (He.ga K "TooMany")) (.type "BaseException") = some true)) rfl)) (of_decide_eq_true (factH c 79 (f := fun K => decide (PySem.W.hasDictIn K (He.ga K "TooMany") = true)) rfl)) (of_decide_eq_true (factH c 80 (f := fun K => decide (PySem.W.findIn K (.ref (He.ga K "TooMany")) "__class__" = some (some (.builtin "object.__class__")))) rfl)) (of_decide_eq_true (factH c 81 (f := fun K => decide (PySem.W.mroIn K (He.ga K "TooMany") (.type "object") = some true)) rfl)) (of_decide_eq_true (factH c 82 (f := fun K => decide (PySem.W.typeIn K (.ref (He.ga K "TooMany")) = some (.type "type"))) rfl)) (of_decide_eq_true (factH c 83 (f := fun K => decide (PySem.W.excIn K (He.ga K "TooMany") [.type "ValueError", .type "Exception", .type "BaseException", .type "object"] "ValueError.__new__" = true)) rfl)) (of_decide_eq_true (factH c 84 (f := fun K => decide (PySem.W.keepIn K (.ref (He.ga K "NoSize")) = true)) rfl)) (of_decide_eq_true (factH c 85 (f := fun K => decide (PySem.W.findIn K (.ref (He.ga K "NoSize")) "__getattribute__" = some (some (.builtin "BaseException.__getattribute__")))) rfl)) (of_decide_eq_true (factH c 86 (f := fun K => decide (PySem.W.findIn K (.ref (He.ga K "NoSize")) "__getattr__" = some none)) rfl)) (of_decide_eq_true (factH c 87 (f := fun K => decide (PySem.W.subIn K (.ref (He.ga K "NoSize")) (.type "BaseException") = some true)) rfl)) (of_decide_eq_true (factH c 88 (f := fun K => decide (PySem.W.hasDictIn K (He.ga K "NoSize") = true)) rfl)) (of_decide_eq_true (factH c 89 (f := fun K => decide (PySem.W.findIn K (.ref (He.ga K "NoSize")) "__class__" = some (some (.builtin "object.__class__")))) rfl)) (of_decide_eq_true (factH c 90 (f := fun K => decide (PySem.W.mroIn K (He.ga K "NoSize") (.type "object") = some true)) rfl)) (of_decide_eq_true (factH c 91 (f := fun K => decide (PySem.W.typeIn K (.ref (He.ga K "NoSize")) = some (.type "type"))) rfl)) (of_decide_eq_true (factH c 92 (f := fun K => decide (PySem.W.excIn K (He.ga K "NoSize") [.type "ValueError", .type "Exception", .type "BaseException", .type "object"] "ValueError.__new__" = true)) rfl)) (of_decide_eq_true (factH c 93 (f := fun K => decide (PySem.W.keepIn K (.ref (He.ga K "NoStand")) = true)) rfl)) (of_decide_eq_true (factH c 94 (f := fun K => decide (PySem.W.findIn K (.ref (He.ga K "NoStand")) "__getattribute__" = some (some (.builtin "BaseException.__getattribute__")))) rfl)) (of_decide_eq_true (factH c 95 (f := fun K => decide (PySem.W.findIn K (.ref (He.ga K "NoStand")) "__getattr__" = some none)) rfl)) (of_decide_eq_true (factH c 96 (f := fun K => decide (PySem.W.subIn K (.ref (He.ga K "NoStand")) (.type "BaseException") = some true)) rfl)) (of_decide_eq_true (factH c 97 (f := fun K => decide (PySem.W.hasDictIn K (He.ga K "NoStand") = true)) rfl)) (of_decide_eq_true (factH c 98 (f := fun K => decide (PySem.W.findIn K (.ref (He.ga K "NoStand")) "__class__" = some (some (.builtin "object.__class__")))) rfl)) (of_decide_eq_true (factH c 99 (f := fun K => decide (PySem.W.mroIn K (He.ga K "NoStand") (.type "object") = some true)) rfl)) (of_decide_eq_true (factH c 100 (f := fun K => decide (PySem.W.typeIn K (.ref (He.ga K "NoStand")) = some (.type "type"))) rfl)) (of_decide_eq_true (factH c 101 (f := fun K => decide (PySem.W.excIn K (He.ga K "NoStand") [.type "ValueError", .type "Exception", .type "BaseException", .type "object"] "ValueError.__new__" = true)) rfl)) (of_decide_eq_true (factH c 102 (f := fun K => decide (PySem.W.keepIn K (.ref (He.ga K "NoNumber")) = true)) rfl)) (of_decide_eq_true (factH c 103 (f := fun K => decide (PySem.W.findIn K (.ref (He.ga K "NoNumber")) "__getattribute__" = some (some (.builtin "BaseException.__getattribute__")))) rfl)) (of_decide_eq_true (factH c 104 (f := fun K => decide (PySem.W.findIn K (.ref (He.ga K "NoNumber")) "__getattr__" = some none)) rfl)) (of_decide_eq_true (factH c 105 (f := fun K => decide (PySem.W.subIn K (.ref (He.ga K "NoNumber")) (.type "BaseException") = some true)) rfl)) (of_decide_eq_true (factH c 106 (f := fun K => decide (PySem.W.hasDictIn K (He.ga K "NoNumber") = true)) rfl)) (of_decide_eq_true (factH c 107 (f := fun K => decide (PySem.W.findIn K (.ref (He.ga K "NoNumber")) "__class__" = some (some (.builtin "object.__class__")))) rfl)) (of_decide_eq_true (factH c 108 (f := fun K => decide (PySem.W.mroIn K (He.ga K "NoNumber") (.type "object") = some true)) rfl)) (of_decide_eq_true (factH c 109 (f := fun K => decide (PySem.W.typeIn K (.ref (He.ga K "NoNumber")) = some (.type "type"))) rfl)) (of_decide_eq_true (factH c 110 (f := fun K => decide (PySem.W.excIn K (He.ga K "NoNumber") [.type "ValueError", .type "Exception", .type "BaseException", .type "object"] "ValueError.__new__" = true)) rfl)) (of_decide_eq_true (factH c 111 (f := fun K => decide (PySem.W.keepIn K (.ref (He.ga K "NoEnd")) = true)) rfl)) (of_decide_eq_true (factH c 112 (f := fun K => decide (PySem.W.findIn K (.ref (He.ga K "NoEnd")) "__getattribute__" = some (some (.builtin "BaseException.__getattribute__")))) rfl)) (of_decide_eq_true (factH c 113 (f := fun K => decide (PySem.W.findIn K (.ref (He.ga K "NoEnd")) "__getattr__" = some none)) rfl)) (of_decide_eq_true (factH c 114 (f := fun K => decide (PySem.W.subIn K (.ref (He.ga K "NoEnd")) (.type "BaseException") = some true)) rfl)) (of_decide_eq_true (factH c 115 (f := fun K => decide (PySem.W.hasDictIn K (He.ga K "NoEnd") = true)) rfl)) (of_decide_eq_true (factH c 116 (f := fun K => decide (PySem.W.findIn K (.ref (He.ga K "NoEnd")) "__class__" = some (some (.builtin "object.__class__")))) rfl)) (of_decide_eq_true (factH c 117 (f := fun K => decide (PySem.W.mroIn K (He.ga K "NoEnd") (.type "object") = some true)) rfl)) (of_decide_eq_true (factH c 118 (f := fun K => decide (PySem.W.typeIn K (.ref (He.ga K "NoEnd")) = some (.type "type"))) rfl)) (of_decide_eq_true (factH c 119 (f := fun K => decide (PySem.W.excIn K (He.ga K "NoEnd") [.type "ValueError", .type "Exception", .type "BaseException", .type "object"] "ValueError.__new__" = true)) rfl)) (of_decide_eq_true (factH c 120 (f := fun K => decide (PySem.W.keepIn K (.ref (He.ga K "NoDepth")) = true)) rfl)) (of_decide_eq_true (factH c 121 (f := fun K => decide (PySem.W.findIn K (.ref (He.ga K "NoDepth")) "__getattribute__" = some (some (.builtin "BaseException.__getattribute__")))) rfl)) (of_decide_eq_true (factH c 122 (f := fun K => decide (PySem.W.findIn K (.ref (He.ga K "NoDepth")) "__getattr__" = some none)) rfl)) (of_decide_eq_true (factH c 123 (f := fun K => decide (PySem.W.subIn K (.ref (He.ga K "NoDepth")) (.type "BaseException") = some true)) rfl)) (of_decide_eq_true (factH c 124 (f := fun K => decide (PySem.W.hasDictIn K (He.ga K "NoDepth") = true)) rfl)) (of_decide_eq_true (factH c 125 (f := fun K => decide (PySem.W.findIn K (.ref (He.ga K "NoDepth")) "__class__" = some (some (.builtin "object.__class__")))) rfl)) (of_decide_eq_true (factH c 126 (f := fun K => decide (PySem.W.mroIn K (He.ga K "NoDepth") (.type "object") = some true)) rfl)) (of_decide_eq_true (factH c 127 (f := fun K => decide (PySem.W.typeIn K (.ref (He.ga K "NoDepth")) = some (.type "type"))) rfl)) (of_decide_eq_true (factH c 128 (f := fun K => decide (PySem.W.excIn K (He.ga K "NoDepth") [.type "ValueError", .type "Exception", .type "BaseException", .type "object"] "ValueError.__new__" = true)) rfl)) (of_decide_eq_true (factH c 129 (f := fun K => decide (PySem.W.keepIn K (.ref (He.ga K "NoWorth")) = true)) rfl)) (of_decide_eq_true (factH c 130 (f := fun K => decide (PySem.W.findIn K (.ref (He.ga K "NoWorth")) "__getattribute__" = some (some (.builtin "BaseException.__getattribute__")))) rfl)) (of_decide_eq_true (factH c 131 (f := fun K => decide (PySem.W.findIn K (.ref (He.ga K "NoWorth")) "__getattr__" = some none)) rfl)) (of_decide_eq_true (factH c 132 (f := fun K => decide (PySem.W.subIn K (.ref (He.ga K "NoWorth")) (.type "BaseException") = some true)) rfl)) (of_decide_eq_true (factH c 133 (f := fun K => decide (PySem.W.hasDictIn K (He.ga K "NoWorth") = true)) rfl)) (of_decide_eq_true (factH c 134 (f := fun K => decide (PySem.W.findIn K (.ref (He.ga K "NoWorth")) "__class__" = some (some (.builtin "object.__class__")))) rfl)) (of_decide_eq_true (factH c 135 (f := fun K => decide (PySem.W.mroIn K (He.ga K "NoWorth") (.type "object") = some true)) rfl)) (of_decide_eq_true (factH c 136 (f := fun K => decide (PySem.W.typeIn K (.ref (He.ga K "NoWorth")) = some (.type "type"))) rfl)) (of_decide_eq_true (factH c 137 (f := fun K => decide (PySem.W.excIn K (He.ga K "NoWorth") [.type "ValueError", .type "Exception", .type "BaseException", .type "object"] "ValueError.__new__" = true)) rfl)) (of_decide_eq_true (factH c 138 (f := fun K => decide (PySem.W.keepIn K (.ref (He.ga K "NoChange")) = true)) rfl)) (of_decide_eq_true (factH c 139 (f := fun K => decide (PySem.W.findIn K (.ref (He.ga K "NoChange")) "__getattribute__" = some (some (.builtin "BaseException.__getattribute__")))) rfl)) (of_decide_eq_true (factH c 140 (f := fun K => decide (PySem.W.findIn K (.ref (He.ga K "NoChange")) "__getattr__" = some none)) rfl)) (of_decide_eq_true (factH c 141 (f := fun K => decide (PySem.W.subIn K (.ref (He.ga K "NoChange")) (.type "BaseException") = some true)) rfl)) (of_decide_eq_true (factH c 142 (f := fun K => decide (PySem.W.hasDictIn K (He.ga K "NoChange") = true)) rfl)) (of_decide_eq_true (factH c 143 (f := fun K => decide (PySem.W.findIn K (.ref (He.ga K "NoChange")) "__class__" = some (some (.builtin "object.__class__")))) rfl)) (of_decide_eq_true (factH c 144 (f := fun K => decide (PySem.W.mroIn K (He.ga K "NoChange") (.type "object") = some true)) rfl)) (of_decide_eq_true (factH c 145 (f := fun K => decide (PySem.W.typeIn K (.ref (He.ga K "NoChange")) = some (.type "type"))) rfl)) (of_decide_eq_true (factH c 146 (f := fun K => decide (PySem.W.excIn K (He.ga K "NoChange") [.type "ValueError", .type "Exception", .type "BaseException", .type "object"] "ValueError.__new__" = true)) rfl)) (of_decide_eq_true (factH c 147 (f := fun K => decide (PySem.W.keepIn K (.ref (He.ga K "NoRow")) = true)) rfl)) (of_decide_eq_true (factH c 148 (f := fun K => decide (PySem.W.findIn K (.ref (He.ga K "NoRow")) "__getattribute__" = some (some (.builtin "BaseException.__getattribute__")))) rfl)) (of_decide_eq_true (factH c 149 (f := fun K => decide (PySem.W.findIn K (.ref (He.ga K "NoRow")) "__getattr__" = some none)) rfl)) (of_decide_eq_true (factH c 150 (f := fun K => decide (PySem.W.subIn K (.ref (He.ga K "NoRow")) (.type "BaseException") = some true)) rfl)) (of_decide_eq_true (factH c 151 (f := fun K => decide (PySem.W.hasDictIn K (He.ga K "NoRow") = true)) rfl)) (of_decide_eq_true (factH c 152 (f := fun K => decide (PySem.W.findIn K (.ref (He.ga K "NoRow")) "__class__" = some (some (.builtin "object.__class__")))) rfl)) (of_decide_eq_true (factH c 153 (f := fun K => decide (PySem.W.mroIn K (He.ga K "NoRow") (.type "object") = some true)) rfl)) (of_decide_eq_true (factH c 154 (f := fun K => decide (PySem.W.typeIn K (.ref (He.ga K "NoRow")) = some (.type "type"))) rfl)) (of_decide_eq_true (factH c 155 (f := fun K => decide (PySem.W.excIn K (He.ga K "NoRow") [.type "ValueError", .type "Exception", .type "BaseException", .type "object"] "ValueError.__new__" = true)) rfl)) (of_decide_eq_true (factH c 156 (f := fun K => decide (PySem.W.keepIn K (.ref (He.ga K "NoName")) = true)) rfl)) (of_decide_eq_true (factH c 157 (f := fun K => decide (PySem.W.findIn K (.ref (He.ga K "NoName")) "__getattribute__" = some (some (.builtin "BaseException.__getattribute__")))) rfl)) (of_decide_eq_true (factH c 158 (f := fun K => decide (PySem.W.findIn K (.ref (He.ga K "NoName")) "__getattr__" = some none)) rfl)) (of_decide_eq_true (factH c 159 (f := fun K => decide (PySem.W.subIn K (.ref (He.ga K "NoName")) (.type "BaseException") = some true)) rfl)) (of_decide_eq_true (factH c 160 (f := fun K => decide (PySem.W.hasDictIn K (He.ga K "NoName") = true)) rfl)) (of_decide_eq_true (factH c 161 (f := fun K => decide (PySem.W.findIn K (.ref (He.ga K "NoName")) "__class__" = some (some (.builtin "object.__class__")))) rfl)) (of_decide_eq_true (factH c 162 (f := fun K => decide (PySem.W.mroIn K (He.ga K "NoName") (.type "object") = some true)) rfl)) (of_decide_eq_true (factH c 163 (f := fun K => decide (PySem.W.typeIn K (.ref (He.ga K "NoName")) = some (.type "type"))) rfl)) (of_decide_eq_true (factH c 164 (f := fun K => decide (PySem.W.excIn K (He.ga K "NoName") [.type "ValueError", .type "Exception", .type "BaseException", .type "object"] "ValueError.__new__" = true)) rfl)) (of_decide_eq_true (factH c 165 (f := fun K => decide (PySem.W.keepIn K (.ref (He.ga K "NoPlay")) = true)) rfl)) (of_decide_eq_true (factH c 166 (f := fun K => decide (PySem.W.findIn K (.ref (He.ga K "NoPlay")) "__getattribute__" = some (some (.builtin "BaseException.__getattribute__")))) rfl)) (of_decide_eq_true (factH c 167 (f := fun K => decide (PySem.W.findIn K (.ref (He.ga K "NoPlay")) "__getattr__" = some none)) rfl)) (of_decide_eq_true (factH c 168 (f := fun K => decide (PySem.W.subIn K (.ref (He.ga K "NoPlay")) (.type "BaseException") = some true)) rfl)) (of_decide_eq_true (factH c 169 (f := fun K => decide (PySem.W.hasDictIn K (He.ga K "NoPlay") = true)) rfl)) (of_decide_eq_true (factH c 170 (f := fun K => decide (PySem.W.findIn K (.ref (He.ga K "NoPlay")) "__class__" = some (some (.builtin "object.__class__")))) rfl)) (of_decide_eq_true (factH c 171 (f := fun K => decide (PySem.W.mroIn K (He.ga K "NoPlay") (.type "object") = some true)) rfl)) (of_decide_eq_true (factH c 172 (f := fun K => decide (PySem.W.typeIn K (.ref (He.ga K "NoPlay")) = some (.type "type"))) rfl)) (of_decide_eq_true (factH c 173 (f := fun K => decide (PySem.W.findIn K (.ref (He.ga K "NoPlay")) "__setattr__" = some (some (.builtin "object.__setattr__")))) rfl)) (of_decide_eq_true (factH c 174 (f := fun K => decide (xoG K (He.ga K "NoPlay") = true)) rfl)) (of_decide_eq_true (factH c 175 (f := fun K => decide (PySem.W.findIn K (.ref (He.ga K "NoPlay")) "place" = some none)) rfl)) (of_decide_eq_true (factH c 176 (f := fun K => decide (PySem.W.keepIn K (.ref (He.ga K "NoText")) = true)) rfl)) (of_decide_eq_true (factH c 177 (f := fun K => decide (PySem.W.findIn K (.ref (He.ga K "NoText")) "__getattribute__" = some (some (.builtin "BaseException.__getattribute__")))) rfl)) (of_decide_eq_true (factH c 178 (f := fun K => decide (PySem.W.findIn K (.ref (He.ga K "NoText")) "__getattr__" = some none)) rfl)) (of_decide_eq_true (factH c 179 (f := fun K => decide (PySem.W.subIn K (.ref (He.ga K "NoText")) (.type "BaseException") = some true)) rfl)) (of_decide_eq_true (factH c 180 (f := fun K => decide (PySem.W.hasDictIn K (He.ga K "NoText") = true)) rfl)) (of_decide_eq_true (factH c 181 (f := fun K => decide (PySem.W.findIn K (.ref (He.ga K "NoText")) "__class__" = some (some (.builtin "object.__class__")))) rfl)) (of_decide_eq_true (factH c 182 (f := fun K => decide (PySem.W.mroIn K (He.ga K "NoText") (.type "object") = some true)) rfl)) (of_decide_eq_true (factH c 183 (f := fun K => decide (PySem.W.typeIn K (.ref (He.ga K "NoText")) = some (.type "type"))) rfl)) (of_decide_eq_true (factH c 184 (f := fun K => decide (PySem.W.findIn K (.ref (He.ga K "NoText")) "__setattr__" = some (some (.builtin "object.__setattr__")))) rfl)) (of_decide_eq_true (factH c 185 (f := fun K => decide (xoG K (He.ga K "NoText") = true)) rfl)) (of_decide_eq_true (factH c 186 (f := fun K => decide (PySem.W.findIn K (.ref (He.ga K "NoText")) "row" = some none)) rfl)) (of_decide_eq_true (factH c 187 (f := fun K => decide (PySem.W.readsIn K (He.ga K "BoughError") (.type "type") = true)) rfl)) (of_decide_eq_true (factH c 188 (f := fun K => decide (PySem.W.specialIn K (.ref (He.ga K "BoughError")) "__getattribute__" = some (some (.builtin "type.__getattribute__")))) rfl)) (of_decide_eq_true (factH c 189 (f := fun K => decide (fcG K (He.ga K "BoughError") = true)) rfl)) (of_decide_eq_true (factH c 190 (f := fun K => decide (PySem.W.isClsIn K (He.ga K "BoughError") = true)) rfl)) (of_decide_eq_true (factH c 191 (f := fun K => decide (PySem.W.typeIn K (.ref (He.ga K "BoughError")) = some (.type "type"))) rfl)) (of_decide_eq_true (factH c 192 (f := fun K => decide (PySem.W.subIn K (.ref (He.ga K "BoughError")) (.type "BaseException") = some true)) rfl)) (of_decide_eq_true (factH c 193 (f := fun K => decide (PySem.W.subIn K (.ref (He.ga K "BoughError")) (.ref (He.ga K "BoughError")) = some true)) rfl)) (of_decide_eq_true (factH c 194 (f := fun K => decide (PySem.W.isClsIn K (He.ga K "NoChange") = true)) rfl)) (of_decide_eq_true (factH c 195 (f := fun K => decide (PySem.W.typeIn K (.ref (He.ga K "NoChange")) = some (.type "type"))) rfl)) (of_decide_eq_true (factH c 196 (f := fun K => decide (PySem.W.subIn K (.ref (He.ga K "NoChange")) (.type "BaseException") = some true)) rfl)) (of_decide_eq_true (factH c 197 (f := fun K => decide (PySem.W.subIn K (.ref (He.ga K "NoChange")) (.ref (He.ga K "NoChange")) = some true)) rfl)) (of_decide_eq_true (factH c 198 (f := fun K => decide (PySem.W.isClsIn K (He.ga K "NoDepth") = true)) rfl)) (of_decide_eq_true (factH c 199 (f := fun K => decide (PySem.W.typeIn K (.ref (He.ga K "NoDepth")) = some (.type "type"))) rfl)) (of_decide_eq_true (factH c 200 (f := fun K => decide (PySem.W.subIn K (.ref (He.ga K "NoDepth")) (.type "BaseException") = some true)) rfl)) (of_decide_eq_true (factH c 201 (f := fun K => decide (PySem.W.subIn K (.ref (He.ga K "NoDepth")) (.ref (He.ga K "NoDepth")) = some true)) rfl)) (of_decide_eq_true (factH c 202 (f := fun K => decide (PySem.W.isClsIn K (He.ga K "NoEnd") = true)) rfl)) (of_decide_eq_true (factH c 203 (f := fun K => decide (PySem.W.typeIn K (.ref (He.ga K "NoEnd")) = some (.type "type"))) rfl)) (of_decide_eq_true (factH c 204 (f := fun K => decide (PySem.W.subIn K (.ref (He.ga K "NoEnd")) (.type "BaseException") = some true)) rfl)) (of_decide_eq_true (factH c 205 (f := fun K => decide (PySem.W.subIn K (.ref (He.ga K "NoEnd")) (.ref (He.ga K "NoEnd")) = some true)) rfl)) (of_decide_eq_true (factH c 206 (f := fun K => decide (PySem.W.isClsIn K (He.ga K "NoEnds") = true)) rfl)) (of_decide_eq_true (factH c 207 (f := fun K => decide (PySem.W.typeIn K (.ref (He.ga K "NoEnds")) = some (.type "type"))) rfl)) (of_decide_eq_true (factH c 208 (f := fun K => decide (PySem.W.subIn K (.ref (He.ga K "NoEnds")) (.type "BaseException") = some true)) rfl)) (of_decide_eq_true (factH c 209 (f := fun K => decide (PySem.W.subIn K (.ref (He.ga K "NoEnds")) (.ref (He.ga K "NoEnds")) = some true)) rfl)) (of_decide_eq_true (factH c 210 (f := fun K => decide (PySem.W.isClsIn K (He.ga K "NoName") = true)) rfl)) (of_decide_eq_true (factH c 211 (f := fun K => decide (PySem.W.typeIn K (.ref (He.ga K "NoName")) = some (.type "type"))) rfl)) (of_decide_eq_true (factH c 212 (f := fun K => decide (PySem.W.subIn K (.ref (He.ga K "NoName")) (.type "BaseException") = some true)) rfl)) (of_decide_eq_true (factH c 213 (f := fun K => decide (PySem.W.subIn K (.ref (He.ga K "NoName")) (.ref (He.ga K "NoName")) = some true)) rfl)) (of_decide_eq_true (factH c 214 (f := fun K => decide (PySem.W.isClsIn K (He.ga K "NoNumber") = true)) rfl)) (of_decide_eq_true (factH c 215 (f := fun K => decide (PySem.W.typeIn K (.ref (He.ga K "NoNumber")) = some (.type "type"))) rfl)) (of_decide_eq_true (factH c 216 (f := fun K => decide (PySem.W.subIn K (.ref (He.ga K "NoNumber")) (.type "BaseException") = some true)) rfl)) (of_decide_eq_true (factH c 217 (f := fun K => decide (PySem.W.subIn K (.ref (He.ga K "NoNumber")) (.ref (He.ga K "NoNumber")) = some true)) rfl)) (of_decide_eq_true (factH c 218 (f := fun K => decide (PySem.W.isClsIn K (He.ga K "NoOrder") = true)) rfl)) (of_decide_eq_true (factH c 219 (f := fun K => decide (PySem.W.typeIn K (.ref (He.ga K "NoOrder")) = some (.type "type"))) rfl)) (of_decide_eq_true (factH c 220 (f := fun K => decide (PySem.W.subIn K (.ref (He.ga K "NoOrder")) (.type "BaseException") = some true)) rfl)) (of_decide_eq_true (factH c 221 (f := fun K => decide (PySem.W.subIn K (.ref (He.ga K "NoOrder")) (.ref (He.ga K "NoOrder")) = some true)) rfl)) (of_decide_eq_true (factH c 222 (f := fun K => decide (PySem.W.isClsIn K (He.ga K "NoPlay") = true)) rfl)) (of_decide_eq_true (factH c 223 (f := fun K => decide (PySem.W.typeIn K (.ref (He.ga K "NoPlay")) = some (.type "type"))) rfl)) (of_decide_eq_true (factH c 224 (f := fun K => decide (PySem.W.subIn K (.ref (He.ga K "NoPlay")) (.type "BaseException") = some true)) rfl)) (of_decide_eq_true (factH c 225 (f := fun K => decide (PySem.W.subIn K (.ref (He.ga K "NoPlay")) (.ref (He.ga K "NoPlay")) = some true)) rfl)) (of_decide_eq_true (factH c 226 (f := fun K => decide (PySem.W.isClsIn K (He.ga K "NoRow") = true)) rfl)) (of_decide_eq_true (factH c 227 (f := fun K => decide (PySem.W.typeIn K (.ref (He.ga K "NoRow")) = some (.type "type"))) rfl)) (of_decide_eq_true (factH c 228 (f := fun K => decide (PySem.W.subIn K (.ref (He.ga K "NoRow")) (.type "BaseException") = some true)) rfl)) (of_decide_eq_true (factH c 229 (f := fun K => decide (PySem.W.subIn K (.ref (He.ga K "NoRow")) (.ref (He.ga K "NoRow")) = some true)) rfl)) (of_decide_eq_true (factH c 230 (f := fun K => decide (PySem.W.isClsIn K (He.ga K "NoRule") = true)) rfl)) (of_decide_eq_true (factH c 231 (f := fun K => decide (PySem.W.typeIn K (.ref (He.ga K "NoRule")) = some (.type "type"))) rfl)) (of_decide_eq_true (factH c 232 (f := fun K => decide (PySem.W.subIn K (.ref (He.ga K "NoRule")) (.type "BaseException") = some true)) rfl)) (of_decide_eq_true (factH c 233 (f := fun K => decide (PySem.W.subIn K (.ref (He.ga K "NoRule")) (.ref (He.ga K "NoRule")) = some true)) rfl)) (of_decide_eq_true (factH c 234 (f := fun K => decide (PySem.W.isClsIn K (He.ga K "NoSize") = true)) rfl)) (of_decide_eq_true (factH c 235 (f := fun K => decide (PySem.W.typeIn K (.ref (He.ga K "NoSize")) = some (.type "type"))) rfl)) (of_decide_eq_true (factH c 236 (f := fun K => decide (PySem.W.subIn K (.ref (He.ga K "NoSize")) (.type "BaseException") = some true)) rfl)) (of_decide_eq_true (factH c 237 (f := fun K => decide (PySem.W.subIn K (.ref (He.ga K "NoSize")) (.ref (He.ga K "NoSize")) = some true)) rfl)) (of_decide_eq_true (factH c 238 (f := fun K => decide (PySem.W.isClsIn K (He.ga K "NoStand") = true)) rfl)) (of_decide_eq_true (factH c 239 (f := fun K => decide (PySem.W.typeIn K (.ref (He.ga K "NoStand")) = some (.type "type"))) rfl)) (of_decide_eq_true (factH c 240 (f := fun K => decide (PySem.W.subIn K (.ref (He.ga K "NoStand")) (.type "BaseException") = some true)) rfl)) (of_decide_eq_true (factH c 241 (f := fun K => decide (PySem.W.subIn K (.ref (He.ga K "NoStand")) (.ref (He.ga K "NoStand")) = some true)) rfl)) (of_decide_eq_true (factH c 242 (f := fun K => decide (PySem.W.isClsIn K (He.ga K "NoText") = true)) rfl)) (of_decide_eq_true (factH c 243 (f := fun K => decide (PySem.W.typeIn K (.ref (He.ga K "NoText")) = some (.type "type"))) rfl)) (of_decide_eq_true (factH c 244 (f := fun K => decide (PySem.W.subIn K (.ref (He.ga K "NoText")) (.type "BaseException") = some true)) rfl)) (of_decide_eq_true (factH c 245 (f := fun K => decide (PySem.W.subIn K (.ref (He.ga K "NoText")) (.ref (He.ga K "NoText")) = some true)) rfl)) (of_decide_eq_true (factH c 246 (f := fun K => decide (PySem.W.isClsIn K (He.ga K "NoTree") = true)) rfl)) (of_decide_eq_true (factH c 247 (f := fun K => decide (PySem.W.typeIn K (.ref (He.ga K "NoTree")) = some (.type "type"))) rfl)) (of_decide_eq_true (factH c 248 (f := fun K => decide (PySem.W.subIn K (.ref (He.ga K "NoTree")) (.type "BaseException") = some true)) rfl)) (of_decide_eq_true (factH c 249 (f := fun K => decide (PySem.W.subIn K (.ref (He.ga K "NoTree")) (.ref (He.ga K "NoTree")) = some true)) rfl)) (of_decide_eq_true (factH c 250 (f := fun K => decide (PySem.W.isClsIn K (He.ga K "NoWay") = true)) rfl)) (of_decide_eq_true (factH c 251 (f := fun K => decide (PySem.W.typeIn K (.ref (He.ga K "NoWay")) = some (.type "type"))) rfl)) (of_decide_eq_true (factH c 252 (f := fun K => decide (PySem.W.subIn K (.ref (He.ga K "NoWay")) (.type "BaseException") = some true)) rfl)) (of_decide_eq_true (factH c 253 (f := fun K => decide (PySem.W.subIn K (.ref (He.ga K "NoWay")) (.ref (He.ga K "NoWay")) = some true)) rfl)) (of_decide_eq_true (factH c 254 (f := fun K => decide (PySem.W.isClsIn K (He.ga K "NoWindow") = true)) rfl)) (of_decide_eq_true (factH c 255 (f := fun K => decide (PySem.W.typeIn K (.ref (He.ga K "NoWindow")) = some (.type "type"))) rfl)) (of_decide_eq_true (factH c 256 (f := fun K => decide (PySem.W.subIn K (.ref (He.ga K "NoWindow")) (.type "BaseException") = some true)) rfl)) (of_decide_eq_true (factH c 257 (f := fun K => decide (PySem.W.subIn K (.ref (He.ga K "NoWindow")) (.ref (He.ga K "NoWindow")) = some true)) rfl)) (of_decide_eq_true (factH c 258 (f := fun K => decide (PySem.W.isClsIn K (He.ga K "NoWorth") = true)) rfl)) (of_decide_eq_true (factH c 259 (f := fun K => decide (PySem.W.typeIn K (.ref (He.ga K "NoWorth")) = some (.type "type"))) rfl)) (of_decide_eq_true (factH c 260 (f := fun K => decide (PySem.W.subIn K (.ref (He.ga K "NoWorth")) (.type "BaseException") = some true)) rfl)) (of_decide_eq_true (factH c 261 (f := fun K => decide (PySem.W.subIn K (.ref (He.ga K "NoWorth")) (.ref (He.ga K "NoWorth")) = some true)) rfl)) (of_decide_eq_true (factH c 262 (f := fun K => decide (PySem.W.isClsIn K (He.ga K "TooMany") = true)) rfl)) (of_decide_eq_true (factH c 263 (f := fun K => decide (PySem.W.typeIn K (.ref (He.ga K "TooMany")) = some (.type "type"))) rfl)) (of_decide_eq_true (factH c 264 (f := fun K => decide (PySem.W.subIn K (.ref (He.ga K "TooMany")) (.type "BaseException") = some true)) rfl)) (of_decide_eq_true (factH c 265 (f := fun K => decide (PySem.W.subIn K (.ref (He.ga K "TooMany")) (.ref (He.ga K "TooMany")) = some true)) rfl)) (of_decide_eq_true (factH c 266 (f := fun K => decide (PySem.W.subIn K (.ref (He.ga K "NoWay")) (.ref (He.ga K "NoPlay")) = some false)) rfl)) (of_decide_eq_true (factH c 267 (f := fun K => decide (PySem.W.subIn K (.ref (He.ga K "NoWay")) (.ref (He.ga K "NoText")) = some false)) rfl)) (of_decide_eq_true (factH c 268 (f := fun K => decide (PySem.W.subIn K (.ref (He.ga K "NoWay")) (.ref (He.ga K "NoWay")) = some true)) rfl)) (of_decide_eq_true (factH c 269 (f := fun K => decide (PySem.W.subIn K (.ref (He.ga K "NoWay")) (.ref (He.ga K "NoRule")) = some false)) rfl)) (of_decide_eq_true (factH c 270 (f := fun K => decide (PySem.W.subIn K (.ref (He.ga K "NoWay")) (.ref (He.ga K "NoOrder")) = some false)) rfl)) (of_decide_eq_true (factH c 271 (f := fun K => decide (PySem.W.subIn K (.ref (He.ga K "NoWay")) (.ref (He.ga K "NoEnds")) = some false)) rfl)) (of_decide_eq_true (factH c 272 (f := fun K => decide (PySem.W.subIn K (.ref (He.ga K "NoWay")) (.ref (He.ga K "NoTree")) = some false)) rfl)) (of_decide_eq_true (factH c 273 (f := fun K => decide (PySem.W.subIn K (.ref (He.ga K "NoWay")) (.ref (He.ga K "NoWindow")) = some false)) rfl)) (of_decide_eq_true (factH c 274 (f := fun K => decide (PySem.W.subIn K (.ref (He.ga K "NoWay")) (.ref (He.ga K "TooMany")) = some false)) rfl)) (of_decide_eq_true (factH c 275 (f := fun K => decide (PySem.W.subIn K (.ref (He.ga K "NoWay")) (.ref (He.ga K "NoSize")) = some false)) rfl)) (of_decide_eq_true (factH c 276 (f := fun K => decide (PySem.W.subIn K (.ref (He.ga K "NoWay")) (.ref (He.ga K "NoStand")) = some false)) rfl)) (of_decide_eq_true (factH c 277 (f := fun K => decide (PySem.W.subIn K (.ref (He.ga K "NoWay")) (.ref (He.ga K "NoNumber")) = some false)) rfl)) (of_decide_eq_true (factH c 278 (f := fun K => decide (PySem.W.subIn K (.ref (He.ga K "NoWay")) (.ref (He.ga K "NoEnd")) = some false)) rfl)) (of_decide_eq_true (factH c 279 (f := fun K => decide (PySem.W.subIn K (.ref (He.ga K "NoWay")) (.ref (He.ga K "NoDepth")) = some false)) rfl)) (of_decide_eq_true (factH c 280 (f := fun K => decide (PySem.W.subIn K (.ref (He.ga K "NoWay")) (.ref (He.ga K "NoWorth")) = some false)) rfl)) (of_decide_eq_true (factH c 281 (f := fun K => decide (PySem.W.subIn K (.ref (He.ga K "NoWay")) (.ref (He.ga K "NoChange")) = some false)) rfl)) (of_decide_eq_true (factH c 282 (f := fun K => decide (PySem.W.subIn K (.ref (He.ga K "NoWay")) (.ref (He.ga K "NoRow")) = some false)) rfl)) (of_decide_eq_true (factH c 283 (f := fun K => decide (PySem.W.subIn K (.ref (He.ga K "NoWay")) (.ref (He.ga K "NoName")) = some false)) rfl)) (of_decide_eq_true (factH c 284 (f := fun K => decide (PySem.W.subIn K (.ref (He.ga K "NoWay")) (.ref (He.ga K "BoughError")) = some true)) rfl)) (of_decide_eq_true (factH c 285 (f := fun K => decide (PySem.W.subIn K (.ref (He.ga K "NoRule")) (.ref (He.ga K "NoPlay")) = some false)) rfl)) (of_decide_eq_true (factH c 286 (f := fun K => decide (PySem.W.subIn K (.ref (He.ga K "NoRule")) (.ref (He.ga K "NoText")) = some false)) rfl)) (of_decide_eq_true (factH c 287 (f := fun K => decide (PySem.W.subIn K (.ref (He.ga K "NoRule")) (.ref (He.ga K "NoWay")) = some false)) rfl)) (of_decide_eq_true (factH c 288 (f := fun K => decide (PySem.W.subIn K (.ref (He.ga K "NoRule")) (.ref (He.ga K "NoRule")) = some true)) rfl)) (of_decide_eq_true (factH c 289 (f := fun K => decide (PySem.W.subIn K (.ref (He.ga K "NoRule")) (.ref (He.ga K "NoOrder")) = some false)) rfl)) (of_decide_eq_true (factH c 290 (f := fun K => decide (PySem.W.subIn K (.ref (He.ga K "NoRule")) (.ref (He.ga K "NoEnds")) = some false)) rfl)) (of_decide_eq_true (factH c 291 (f := fun K => decide (PySem.W.subIn K (.ref (He.ga K "NoRule")) (.ref (He.ga K "NoTree")) = some false)) rfl)) (of_decide_eq_true (factH c 292 (f := fun K => decide (PySem.W.subIn K (.ref (He.ga K "NoRule")) (.ref (He.ga K "NoWindow")) = some false)) rfl)) (of_decide_eq_true (factH c 293 (f := fun K => decide (PySem.W.subIn K (.ref (He.ga K "NoRule")) (.ref (He.ga K "TooMany")) = some false)) rfl)) (of_decide_eq_true (factH c 294 (f := fun K => decide (PySem.W.subIn K (.ref (He.ga K "NoRule")) (.ref (He.ga K "NoSize")) = some false)) rfl)) (of_decide_eq_true (factH c 295 (f := fun K => decide (PySem.W.subIn K (.ref (He.ga K "NoRule")) (.ref (He.ga K "NoStand")) = some false)) rfl)) (of_decide_eq_true (factH c 296 (f := fun K => decide (PySem.W.subIn K (.ref (He.ga K "NoRule")) (.ref (He.ga K "NoNumber")) = some false)) rfl)) (of_decide_eq_true (factH c 297 (f := fun K => decide (PySem.W.subIn K (.ref (He.ga K "NoRule")) (.ref (He.ga K "NoEnd")) = some false)) rfl)) (of_decide_eq_true (factH c 298 (f := fun K => decide (PySem.W.subIn K (.ref (He.ga K "NoRule")) (.ref (He.ga K "NoDepth")) = some false)) rfl)) (of_decide_eq_true (factH c 299 (f := fun K => decide (PySem.W.subIn K (.ref (He.ga K "NoRule")) (.ref (He.ga K "NoWorth")) = some false)) rfl)) (of_decide_eq_true (factH c 300 (f := fun K => decide (PySem.W.subIn K (.ref (He.ga K "NoRule")) (.ref (He.ga K "NoChange")) = some false)) rfl)) (of_decide_eq_true (factH c 301 (f := fun K => decide (PySem.W.subIn K (.ref (He.ga K "NoRule")) (.ref (He.ga K "NoRow")) = some false)) rfl)) (of_decide_eq_true (factH c 302 (f := fun K => decide (PySem.W.subIn K (.ref (He.ga K "NoRule")) (.ref (He.ga K "NoName")) = some false)) rfl)) (of_decide_eq_true (factH c 303 (f := fun K => decide (PySem.W.subIn K (.ref (He.ga K "NoRule")) (.ref (He.ga K "BoughError")) = some true)) rfl)) (of_decide_eq_true (factH c 304 (f := fun K => decide (PySem.W.subIn K (.ref (He.ga K "NoOrder")) (.ref (He.ga K "NoPlay")) = some false)) rfl)) (of_decide_eq_true (factH c 305 (f := fun K => decide (PySem.W.subIn K (.ref (He.ga K "NoOrder")) (.ref (He.ga K "NoText")) = some false)) rfl)) (of_decide_eq_true (factH c 306 (f := fun K => decide (PySem.W.subIn K (.ref (He.ga K "NoOrder")) (.ref (He.ga K "NoWay")) = some false)) rfl)) (of_decide_eq_true (factH c 307 (f := fun K => decide (PySem.W.subIn K (.ref (He.ga K "NoOrder")) (.ref (He.ga K "NoRule")) = some false)) rfl)) (of_decide_eq_true (factH c 308 (f := fun K => decide (PySem.W.subIn K (.ref (He.ga K "NoOrder")) (.ref (He.ga K "NoOrder")) = some true)) rfl)) (of_decide_eq_true (factH c 309 (f := fun K => decide (PySem.W.subIn K (.ref (He.ga K "NoOrder")) (.ref (He.ga K "NoEnds")) = some false)) rfl)) (of_decide_eq_true (factH c 310 (f := fun K => decide (PySem.W.subIn K (.ref (He.ga K "NoOrder")) (.ref (He.ga K "NoTree")) = some false)) rfl)) (of_decide_eq_true (factH c 311 (f := fun K => decide (PySem.W.subIn K (.ref (He.ga K "NoOrder")) (.ref (He.ga K "NoWindow")) = some false)) rfl)) (of_decide_eq_true (factH c 312 (f := fun K => decide (PySem.W.subIn K (.ref (He.ga K "NoOrder")) (.ref (He.ga K "TooMany")) = some false)) rfl)) (of_decide_eq_true (factH c 313 (f := fun K => decide (PySem.W.subIn K (.ref (He.ga K "NoOrder")) (.ref (He.ga K "NoSize")) = some false)) rfl)) (of_decide_eq_true (factH c 314 (f := fun K => decide (PySem.W.subIn K (.ref (He.ga K "NoOrder")) (.ref (He.ga K "NoStand")) = some false)) rfl)) (of_decide_eq_true (factH c 315 (f := fun K => decide (PySem.W.subIn K (.ref (He.ga K "NoOrder")) (.ref (He.ga K "NoNumber")) = some false)) rfl)) (of_decide_eq_true (factH c 316 (f := fun K => decide (PySem.W.subIn K (.ref (He.ga K "NoOrder")) (.ref (He.ga K "NoEnd")) = some false)) rfl)) (of_decide_eq_true (factH c 317 (f := fun K => decide (PySem.W.subIn K (.ref (He.ga K "NoOrder")) (.ref (He.ga K "NoDepth")) = some false)) rfl)) (of_decide_eq_true (factH c 318 (f := fun K => decide (PySem.W.subIn K (.ref (He.ga K "NoOrder")) (.ref (He.ga K "NoWorth")) = some false)) rfl)) (of_decide_eq_true (factH c 319 (f := fun K => decide (PySem.W.subIn K (.ref (He.ga K "NoOrder")) (.ref (He.ga K "NoChange")) = some false)) rfl)) (of_decide_eq_true (factH c 320 (f := fun K => decide (PySem.W.subIn K (.ref (He.ga K "NoOrder")) (.ref (He.ga K "NoRow")) = some false)) rfl)) (of_decide_eq_true (factH c 321 (f := fun K => decide (PySem.W.subIn K (.ref (He.ga K "NoOrder")) (.ref (He.ga K "NoName")) = some false)) rfl)) (of_decide_eq_true (factH c 322 (f := fun K => decide (PySem.W.subIn K (.ref (He.ga K "NoOrder")) (.ref (He.ga K "BoughError")) = some true)) rfl)) (of_decide_eq_true (factH c 323 (f := fun K => decide (PySem.W.subIn K (.ref (He.ga K "NoEnds")) (.ref (He.ga K "NoPlay")) = some false)) rfl)) (of_decide_eq_true (factH c 324 (f := fun K => decide (PySem.W.subIn K (.ref (He.ga K "NoEnds")) (.ref (He.ga K "NoText")) = some false)) rfl)) (of_decide_eq_true (factH c 325 (f := fun K => decide (PySem.W.subIn K (.ref (He.ga K "NoEnds")) (.ref (He.ga K "NoWay")) = some false)) rfl)) (of_decide_eq_true (factH c 326 (f := fun K => decide (PySem.W.subIn K (.ref (He.ga K "NoEnds")) (.ref (He.ga K "NoRule")) = some false)) rfl)) (of_decide_eq_true (factH c 327 (f := fun K => decide (PySem.W.subIn K (.ref (He.ga K "NoEnds")) (.ref (He.ga K "NoOrder")) = some false)) rfl)) (of_decide_eq_true (factH c 328 (f := fun K => decide (PySem.W.subIn K (.ref (He.ga K "NoEnds")) (.ref (He.ga K "NoEnds")) = some true)) rfl)) (of_decide_eq_true (factH c 329 (f := fun K => decide (PySem.W.subIn K (.ref (He.ga K "NoEnds")) (.ref (He.ga K "NoTree")) = some false)) rfl)) (of_decide_eq_true (factH c 330 (f := fun K => decide (PySem.W.subIn K (.ref (He.ga K "NoEnds")) (.ref (He.ga K "NoWindow")) = some false)) rfl)) (of_decide_eq_true (factH c 331 (f := fun K => decide (PySem.W.subIn K (.ref (He.ga K "NoEnds")) (.ref (He.ga K "TooMany")) = some false)) rfl)) (of_decide_eq_true (factH c 332 (f := fun K => decide (PySem.W.subIn K (.ref (He.ga K "NoEnds")) (.ref (He.ga K "NoSize")) = some false)) rfl)) (of_decide_eq_true (factH c 333 (f := fun K => decide (PySem.W.subIn K (.ref (He.ga K "NoEnds")) (.ref (He.ga K "NoStand")) = some false)) rfl)) (of_decide_eq_true (factH c 334 (f := fun K => decide (PySem.W.subIn K (.ref (He.ga K "NoEnds")) (.ref (He.ga K "NoNumber")) = some false)) rfl)) (of_decide_eq_true (factH c 335 (f := fun K => decide (PySem.W.subIn K (.ref (He.ga K "NoEnds")) (.ref (He.ga K "NoEnd")) = some false)) rfl)) (of_decide_eq_true (factH c 336 (f := fun K => decide (PySem.W.subIn K (.ref (He.ga K "NoEnds")) (.ref (He.ga K "NoDepth")) = some false)) rfl)) (of_decide_eq_true (factH c 337 (f := fun K => decide (PySem.W.subIn K (.ref (He.ga K "NoEnds")) (.ref (He.ga K "NoWorth")) = some false)) rfl)) (of_decide_eq_true (factH c 338 (f := fun K => decide (PySem.W.subIn K (.ref (He.ga K "NoEnds")) (.ref (He.ga K "NoChange")) = some false)) rfl)) (of_decide_eq_true (factH c 339 (f := fun K => decide (PySem.W.subIn K (.ref (He.ga K "NoEnds")) (.ref (He.ga K "NoRow")) = some false)) rfl)) (of_decide_eq_true (factH c 340 (f := fun K => decide (PySem.W.subIn K (.ref (He.ga K "NoEnds")) (.ref (He.ga K "NoName")) = some false)) rfl)) (of_decide_eq_true (factH c 341 (f := fun K => decide (PySem.W.subIn K (.ref (He.ga K "NoEnds")) (.ref (He.ga K "BoughError")) = some true)) rfl)) (of_decide_eq_true (factH c 342 (f := fun K => decide (PySem.W.subIn K (.ref (He.ga K "NoTree")) (.ref (He.ga K "NoPlay")) = some false)) rfl)) (of_decide_eq_true (factH c 343 (f := fun K => decide (PySem.W.subIn K (.ref (He.ga K "NoTree")) (.ref (He.ga K "NoText")) = some false)) rfl)) (of_decide_eq_true (factH c 344 (f := fun K => decide (PySem.W.subIn K (.ref (He.ga K "NoTree")) (.ref (He.ga K "NoWay")) = some false)) rfl)) (of_decide_eq_true (factH c 345 (f := fun K => decide (PySem.W.subIn K (.ref (He.ga K "NoTree")) (.ref (He.ga K "NoRule")) = some false)) rfl)) (of_decide_eq_true (factH c 346 (f := fun K => decide (PySem.W.subIn K (.ref (He.ga K "NoTree")) (.ref (He.ga K "NoOrder")) = some false)) rfl)) (of_decide_eq_true (factH c 347 (f := fun K => decide (PySem.W.subIn K (.ref (He.ga K "NoTree")) (.ref (He.ga K "NoEnds")) = some false)) rfl)) (of_decide_eq_true (factH c 348 (f := fun K => decide (PySem.W.subIn K (.ref (He.ga K "NoTree")) (.ref (He.ga K "NoTree")) = some true)) rfl)) (of_decide_eq_true (factH c 349 (f := fun K => decide (PySem.W.subIn K (.ref (He.ga K "NoTree")) (.ref (He.ga K "NoWindow")) = some false)) rfl)) (of_decide_eq_true (factH c 350 (f := fun K => decide (PySem.W.subIn K (.ref (He.ga K "NoTree")) (.ref (He.ga K "TooMany")) = some false)) rfl)) (of_decide_eq_true (factH c 351 (f := fun K => decide (PySem.W.subIn K (.ref (He.ga K "NoTree")) (.ref (He.ga K "NoSize")) = some false)) rfl)) (of_decide_eq_true (factH c 352 (f := fun K => decide (PySem.W.subIn K (.ref (He.ga K "NoTree")) (.ref (He.ga K "NoStand")) = some false)) rfl)) (of_decide_eq_true (factH c 353 (f := fun K => decide (PySem.W.subIn K (.ref (He.ga K "NoTree")) (.ref (He.ga K "NoNumber")) = some false)) rfl)) (of_decide_eq_true (factH c 354 (f := fun K => decide (PySem.W.subIn K (.ref (He.ga K "NoTree")) (.ref (He.ga K "NoEnd")) = some false)) rfl)) (of_decide_eq_true (factH c 355 (f := fun K => decide (PySem.W.subIn K (.ref (He.ga K "NoTree")) (.ref (He.ga K "NoDepth")) = some false)) rfl)) (of_decide_eq_true (factH c 356 (f := fun K => decide (PySem.W.subIn K (.ref (He.ga K "NoTree")) (.ref (He.ga K "NoWorth")) = some false)) rfl)) (of_decide_eq_true (factH c 357 (f := fun K => decide (PySem.W.subIn K (.ref (He.ga K "NoTree")) (.ref (He.ga K "NoChange")) = some false)) rfl)) (of_decide_eq_true (factH c 358 (f := fun K => decide (PySem.W.subIn K (.ref (He.ga K "NoTree")) (.ref (He.ga K "NoRow")) = some false)) rfl)) (of_decide_eq_true (factH c 359 (f := fun K => decide (PySem.W.subIn K (.ref (He.ga K "NoTree")) (.ref (He.ga K "NoName")) = some false)) rfl)) (of_decide_eq_true (factH c 360 (f := fun K => decide (PySem.W.subIn K (.ref (He.ga K "NoTree")) (.ref (He.ga K "BoughError")) = some true)) rfl)) (of_decide_eq_true (factH c 361 (f := fun K => decide (PySem.W.subIn K (.ref (He.ga K "NoWindow")) (.ref (He.ga K "NoPlay")) = some false)) rfl)) (of_decide_eq_true (factH c 362 (f := fun K => decide (PySem.W.subIn K (.ref (He.ga K "NoWindow")) (.ref (He.ga K "NoText")) = some false)) rfl)) (of_decide_eq_true (factH c 363 (f := fun K => decide (PySem.W.subIn K (.ref (He.ga K "NoWindow")) (.ref (He.ga K "NoWay")) = some false)) rfl)) (of_decide_eq_true (factH c 364 (f := fun K => decide (PySem.W.subIn K (.ref (He.ga K "NoWindow")) (.ref (He.ga K "NoRule")) = some false)) rfl)) (of_decide_eq_true (factH c 365 (f := fun K => decide (PySem.W.subIn K (.ref (He.ga K "NoWindow")) (.ref (He.ga K "NoOrder")) = some false)) rfl)) (of_decide_eq_true (factH c 366 (f := fun K => decide (PySem.W.subIn K (.ref (He.ga K "NoWindow")) (.ref (He.ga K "NoEnds")) = some false)) rfl)) (of_decide_eq_true (factH c 367 (f := fun K => decide (PySem.W.subIn K (.ref (He.ga K "NoWindow")) (.ref (He.ga K "NoTree")) = some false)) rfl)) (of_decide_eq_true (factH c 368 (f := fun K => decide (PySem.W.subIn K (.ref (He.ga K "NoWindow")) (.ref (He.ga K "NoWindow")) = some true)) rfl)) (of_decide_eq_true (factH c 369 (f := fun K => decide (PySem.W.subIn K (.ref (He.ga K "NoWindow")) (.ref (He.ga K "TooMany")) = some false)) rfl)) (of_decide_eq_true (factH c 370 (f := fun K => decide (PySem.W.subIn K (.ref (He.ga K "NoWindow")) (.ref (He.ga K "NoSize")) = some false)) rfl)) (of_decide_eq_true (factH c 371 (f := fun K => decide (PySem.W.subIn K (.ref (He.ga K "NoWindow")) (.ref (He.ga K "NoStand")) = some false)) rfl)) (of_decide_eq_true (factH c 372 (f := fun K => decide (PySem.W.subIn K (.ref (He.ga K "NoWindow")) (.ref (He.ga K "NoNumber")) = some false)) rfl)) (of_decide_eq_true (factH c 373 (f := fun K => decide (PySem.W.subIn K (.ref (He.ga K "NoWindow")) (.ref (He.ga K "NoEnd")) = some false)) rfl)) (of_decide_eq_true (factH c 374 (f := fun K => decide (PySem.W.subIn K (.ref (He.ga K "NoWindow")) (.ref (He.ga K "NoDepth")) = some false)) rfl)) (of_decide_eq_true (factH c 375 (f := fun K => decide (PySem.W.subIn K (.ref (He.ga K "NoWindow")) (.ref (He.ga K "NoWorth")) = some false)) rfl)) (of_decide_eq_true (factH c 376 (f := fun K => decide (PySem.W.subIn K (.ref (He.ga K "NoWindow")) (.ref (He.ga K "NoChange")) = some false)) rfl)) (of_decide_eq_true (factH c 377 (f := fun K => decide (PySem.W.subIn K (.ref (He.ga K "NoWindow")) (.ref (He.ga K "NoRow")) = some false)) rfl)) (of_decide_eq_true (factH c 378 (f := fun K => decide (PySem.W.subIn K (.ref (He.ga K "NoWindow")) (.ref (He.ga K "NoName")) = some false)) rfl)) (of_decide_eq_true (factH c 379 (f := fun K => decide (PySem.W.subIn K (.ref (He.ga K "NoWindow")) (.ref (He.ga K "BoughError")) = some true)) rfl)) (of_decide_eq_true (factH c 380 (f := fun K => decide (PySem.W.subIn K (.ref (He.ga K "TooMany")) (.ref (He.ga K "NoPlay")) = some false)) rfl)) (of_decide_eq_true (factH c 381 (f := fun K => decide (PySem.W.subIn K (.ref (He.ga K "TooMany")) (.ref (He.ga K "NoText")) = some false)) rfl)) (of_decide_eq_true (factH c 382 (f := fun K => decide (PySem.W.subIn K (.ref (He.ga K "TooMany")) (.ref (He.ga K "NoWay")) = some false)) rfl)) (of_decide_eq_true (factH c 383 (f := fun K => decide (PySem.W.subIn K (.ref (He.ga K "TooMany")) (.ref (He.ga K "NoRule")) = some false)) rfl)) (of_decide_eq_true (factH c 384 (f := fun K => decide (PySem.W.subIn K (.ref (He.ga K "TooMany")) (.ref (He.ga K "NoOrder")) = some false)) rfl)) (of_decide_eq_true (factH c 385 (f := fun K => decide (PySem.W.subIn K (.ref (He.ga K "TooMany")) (.ref (He.ga K "NoEnds")) = some false)) rfl)) (of_decide_eq_true (factH c 386 (f := fun K => decide (PySem.W.subIn K (.ref (He.ga K "TooMany")) (.ref (He.ga K "NoTree")) = some false)) rfl)) (of_decide_eq_true (factH c 387 (f := fun K => decide (PySem.W.subIn K (.ref (He.ga K "TooMany")) (.ref (He.ga K "NoWindow")) = some false)) rfl)) (of_decide_eq_true (factH c 388 (f := fun K => decide (PySem.W.subIn K (.ref (He.ga K "TooMany")) (.ref (He.ga K "TooMany")) = some true)) rfl)) (of_decide_eq_true (factH c 389 (f := fun K => decide (PySem.W.subIn K (.ref (He.ga K "TooMany")) (.ref (He.ga K "NoSize")) = some false)) rfl)) (of_decide_eq_true (factH c 390 (f := fun K => decide (PySem.W.subIn K (.ref (He.ga K "TooMany")) (.ref (He.ga K "NoStand")) = some false)) rfl)) (of_decide_eq_true (factH c 391 (f := fun K => decide (PySem.W.subIn K (.ref (He.ga K "TooMany")) (.ref (He.ga K "NoNumber")) = some false)) rfl)) (of_decide_eq_true (factH c 392 (f := fun K => decide (PySem.W.subIn K (.ref (He.ga K "TooMany")) (.ref (He.ga K "NoEnd")) = some false)) rfl)) (of_decide_eq_true (factH c 393 (f := fun K => decide (PySem.W.subIn K (.ref (He.ga K "TooMany")) (.ref (He.ga K "NoDepth")) = some false)) rfl)) (of_decide_eq_true (factH c 394 (f := fun K => decide (PySem.W.subIn K (.ref (He.ga K "TooMany")) (.ref (He.ga K "NoWorth")) = some false)) rfl)) (of_decide_eq_true (factH c 395 (f := fun K => decide (PySem.W.subIn K (.ref (He.ga K "TooMany")) (.ref (He.ga K "NoChange")) = some false)) rfl)) (of_decide_eq_true (factH c 396 (f := fun K => decide (PySem.W.subIn K (.ref (He.ga K "TooMany")) (.ref (He.ga K "NoRow")) = some false)) rfl)) (of_decide_eq_true (factH c 397 (f := fun K => decide (PySem.W.subIn K (.ref (He.ga K "TooMany")) (.ref (He.ga K "NoName")) = some false)) rfl)) (of_decide_eq_true (factH c 398 (f := fun K => decide (PySem.W.subIn K (.ref (He.ga K "TooMany")) (.ref (He.ga K "BoughError")) = some true)) rfl)) (of_decide_eq_true (factH c 399 (f := fun K => decide (PySem.W.subIn K (.ref (He.ga K "NoSize")) (.ref (He.ga K "NoPlay")) = some false)) rfl)) (of_decide_eq_true (factH c 400 (f := fun K => decide (PySem.W.subIn K (.ref (He.ga K "NoSize")) (.ref (He.ga K "NoText")) = some false)) rfl)) (of_decide_eq_true (factH c 401 (f := fun K => decide (PySem.W.subIn K (.ref (He.ga K "NoSize")) (.ref (He.ga K "NoWay")) = some false)) rfl)) (of_decide_eq_true (factH c 402 (f := fun K => decide (PySem.W.subIn K (.ref (He.ga K "NoSize")) (.ref (He.ga K "NoRule")) = some false)) rfl)) (of_decide_eq_true (factH c 403 (f := fun K => decide (PySem.W.subIn K (.ref (He.ga K "NoSize")) (.ref (He.ga K "NoOrder")) = some false)) rfl)) (of_decide_eq_true (factH c 404 (f := fun K => decide (PySem.W.subIn K (.ref (He.ga K "NoSize")) (.ref (He.ga K "NoEnds")) = some false)) rfl)) (of_decide_eq_true (factH c 405 (f := fun K => decide (PySem.W.subIn K (.ref (He.ga K "NoSize")) (.ref (He.ga K "NoTree")) = some false)) rfl)) (of_decide_eq_true (factH c 406 (f := fun K => decide (PySem.W.subIn K (.ref (He.ga K "NoSize")) (.ref (He.ga K "NoWindow")) = some false)) rfl)) (of_decide_eq_true (factH c 407 (f := fun K => decide (PySem.W.subIn K (.ref (He.ga K "NoSize")) (.ref (He.ga K "TooMany")) = some false)) rfl)) (of_decide_eq_true (factH c 408 (f := fun K => decide (PySem.W.subIn K (.ref (He.ga K "NoSize")) (.ref (He.ga K "NoSize")) = some true)) rfl)) (of_decide_eq_true (factH c 409 (f := fun K => decide (PySem.W.subIn K (.ref (He.ga K "NoSize")) (.ref (He.ga K "NoStand")) = some false)) rfl)) (of_decide_eq_true (factH c 410 (f := fun K => decide (PySem.W.subIn K (.ref (He.ga K "NoSize")) (.ref (He.ga K "NoNumber")) = some false)) rfl)) (of_decide_eq_true (factH c 411 (f := fun K => decide (PySem.W.subIn K (.ref (He.ga K "NoSize")) (.ref (He.ga K "NoEnd")) = some false)) rfl)) (of_decide_eq_true (factH c 412 (f := fun K => decide (PySem.W.subIn K (.ref (He.ga K "NoSize")) (.ref (He.ga K "NoDepth")) = some false)) rfl)) (of_decide_eq_true (factH c 413 (f := fun K => decide (PySem.W.subIn K (.ref (He.ga K "NoSize")) (.ref (He.ga K "NoWorth")) = some false)) rfl)) (of_decide_eq_true (factH c 414 (f := fun K => decide (PySem.W.subIn K (.ref (He.ga K "NoSize")) (.ref (He.ga K "NoChange")) = some false)) rfl)) (of_decide_eq_true (factH c 415 (f := fun K => decide (PySem.W.subIn K (.ref (He.ga K "NoSize")) (.ref (He.ga K "NoRow")) = some false)) rfl)) (of_decide_eq_true (factH c 416 (f := fun K => decide (PySem.W.subIn K (.ref (He.ga K "NoSize")) (.ref (He.ga K "NoName")) = some false)) rfl)) (of_decide_eq_true (factH c 417 (f := fun K => decide (PySem.W.subIn K (.ref (He.ga K "NoSize")) (.ref (He.ga K "BoughError")) = some true)) rfl)) (of_decide_eq_true (factH c 418 (f := fun K => decide (PySem.W.subIn K (.ref (He.ga K "NoStand")) (.ref (He.ga K "NoPlay")) = some false)) rfl)) (of_decide_eq_true (factH c 419 (f := fun K => decide (PySem.W.subIn K (.ref (He.ga K "NoStand")) (.ref (He.ga K "NoText")) = some false)) rfl)) (of_decide_eq_true (factH c 420 (f := fun K => decide (PySem.W.subIn K (.ref (He.ga K "NoStand")) (.ref (He.ga K "NoWay")) = some false)) rfl)) (of_decide_eq_true (factH c 421 (f := fun K => decide (PySem.W.subIn K (.ref (He.ga K "NoStand")) (.ref (He.ga K "NoRule")) = some false)) rfl)) (of_decide_eq_true (factH c 422 (f := fun K => decide (PySem.W.subIn K (.ref (He.ga K "NoStand")) (.ref (He.ga K "NoOrder")) = some false)) rfl)) (of_decide_eq_true (factH c 423 (f := fun K => decide (PySem.W.subIn K (.ref (He.ga K "NoStand")) (.ref (He.ga K "NoEnds")) = some false)) rfl)) (of_decide_eq_true (factH c 424 (f := fun K => decide (PySem.W.subIn K (.ref (He.ga K "NoStand")) (.ref (He.ga K "NoTree")) = some false)) rfl)) (of_decide_eq_true (factH c 425 (f := fun K => decide (PySem.W.subIn K (.ref (He.ga K "NoStand")) (.ref (He.ga K "NoWindow")) = some false)) rfl)) (of_decide_eq_true (factH c 426 (f := fun K => decide (PySem.W.subIn K (.ref (He.ga K "NoStand")) (.ref (He.ga K "TooMany")) = some false)) rfl)) (of_decide_eq_true (factH c 427 (f := fun K => decide (PySem.W.subIn K (.ref (He.ga K "NoStand")) (.ref (He.ga K "NoSize")) = some false)) rfl)) (of_decide_eq_true (factH c 428 (f := fun K => decide (PySem.W.subIn K (.ref (He.ga K "NoStand")) (.ref (He.ga K "NoStand")) = some true)) rfl)) (of_decide_eq_true (factH c 429 (f := fun K => decide (PySem.W.subIn K (.ref (He.ga K "NoStand")) (.ref (He.ga K "NoNumber")) = some false)) rfl)) (of_decide_eq_true (factH c 430 (f := fun K => decide (PySem.W.subIn K (.ref (He.ga K "NoStand")) (.ref (He.ga K "NoEnd")) = some false)) rfl)) (of_decide_eq_true (factH c 431 (f := fun K => decide (PySem.W.subIn K (.ref (He.ga K "NoStand")) (.ref (He.ga K "NoDepth")) = some false)) rfl)) (of_decide_eq_true (factH c 432 (f := fun K => decide (PySem.W.subIn K (.ref (He.ga K "NoStand")) (.ref (He.ga K "NoWorth")) = some false)) rfl)) (of_decide_eq_true (factH c 433 (f := fun K => decide (PySem.W.subIn K (.ref (He.ga K "NoStand")) (.ref (He.ga K "NoChange")) = some false)) rfl)) (of_decide_eq_true (factH c 434 (f := fun K => decide (PySem.W.subIn K (.ref (He.ga K "NoStand")) (.ref (He.ga K "NoRow")) = some false)) rfl)) (of_decide_eq_true (factH c 435 (f := fun K => decide (PySem.W.subIn K (.ref (He.ga K "NoStand")) (.ref (He.ga K "NoName")) = some false)) rfl)) (of_decide_eq_true (factH c 436 (f := fun K => decide (PySem.W.subIn K (.ref (He.ga K "NoStand")) (.ref (He.ga K "BoughError")) = some true)) rfl)) (of_decide_eq_true (factH c 437 (f := fun K => decide (PySem.W.subIn K (.ref (He.ga K "NoNumber")) (.ref (He.ga K "NoPlay")) = some false)) rfl)) (of_decide_eq_true (factH c 438 (f := fun K => decide (PySem.W.subIn K (.ref (He.ga K "NoNumber")) (.ref (He.ga K "NoText")) = some false)) rfl)) (of_decide_eq_true (factH c 439 (f := fun K => decide (PySem.W.subIn K (.ref (He.ga K "NoNumber")) (.ref (He.ga K "NoWay")) = some false)) rfl)) (of_decide_eq_true (factH c 440 (f := fun K => decide (PySem.W.subIn K (.ref (He.ga K "NoNumber")) (.ref (He.ga K "NoRule")) = some false)) rfl)) (of_decide_eq_true (factH c 441 (f := fun K => decide (PySem.W.subIn K (.ref (He.ga K "NoNumber")) (.ref (He.ga K "NoOrder")) = some false)) rfl)) (of_decide_eq_true (factH c 442 (f := fun K => decide (PySem.W.subIn K (.ref (He.ga K "NoNumber")) (.ref (He.ga K "NoEnds")) = some false)) rfl)) (of_decide_eq_true (factH c 443 (f := fun K => decide (PySem.W.subIn K (.ref (He.ga K "NoNumber")) (.ref (He.ga K "NoTree")) = some false)) rfl)) (of_decide_eq_true (factH c 444 (f := fun K => decide (PySem.W.subIn K (.ref (He.ga K "NoNumber")) (.ref (He.ga K "NoWindow")) = some false)) rfl)) (of_decide_eq_true (factH c 445 (f := fun K => decide (PySem.W.subIn K (.ref (He.ga K "NoNumber")) (.ref (He.ga K "TooMany")) = some false)) rfl)) (of_decide_eq_true (factH c 446 (f := fun K => decide (PySem.W.subIn K (.ref (He.ga K "NoNumber")) (.ref (He.ga K "NoSize")) = some false)) rfl)) (of_decide_eq_true (factH c 447 (f := fun K => decide (PySem.W.subIn K (.ref (He.ga K "NoNumber")) (.ref (He.ga K "NoStand")) = some false)) rfl)) (of_decide_eq_true (factH c 448 (f := fun K => decide (PySem.W.subIn K (.ref (He.ga K "NoNumber")) (.ref (He.ga K "NoNumber")) = some true)) rfl)) (of_decide_eq_true (factH c 449 (f := fun K => decide (PySem.W.subIn K (.ref (He.ga K "NoNumber")) (.ref (He.ga K "NoEnd")) = some false)) rfl)) (of_decide_eq_true (factH c 450 (f := fun K => decide (PySem.W.subIn K (.ref (He.ga K "NoNumber")) (.ref (He.ga K "NoDepth")) = some false)) rfl)) (of_decide_eq_true (factH c 451 (f := fun K => decide (PySem.W.subIn K (.ref (He.ga K "NoNumber")) (.ref (He.ga K "NoWorth")) = some false)) rfl)) (of_decide_eq_true (factH c 452 (f := fun K => decide (PySem.W.subIn K (.ref (He.ga K "NoNumber")) (.ref (He.ga K "NoChange")) = some false)) rfl)) (of_decide_eq_true (factH c 453 (f := fun K => decide (PySem.W.subIn K (.ref (He.ga K "NoNumber")) (.ref (He.ga K "NoRow")) = some false)) rfl)) (of_decide_eq_true (factH c 454 (f := fun K => decide (PySem.W.subIn K (.ref (He.ga K "NoNumber")) (.ref (He.ga K "NoName")) = some false)) rfl)) (of_decide_eq_true (factH c 455 (f := fun K => decide (PySem.W.subIn K (.ref (He.ga K "NoNumber")) (.ref (He.ga K "BoughError")) = some true)) rfl)) (of_decide_eq_true (factH c 456 (f := fun K => decide (PySem.W.subIn K (.ref (He.ga K "NoEnd")) (.ref (He.ga K "NoPlay")) = some false)) rfl)) (of_decide_eq_true (factH c 457 (f := fun K => decide (PySem.W.subIn K (.ref (He.ga K "NoEnd")) (.ref (He.ga K "NoText")) = some false)) rfl)) (of_decide_eq_true (factH c 458 (f := fun K => decide (PySem.W.subIn K (.ref (He.ga K "NoEnd")) (.ref (He.ga K "NoWay")) = some false)) rfl)) (of_decide_eq_true (factH c 459 (f := fun K => decide (PySem.W.subIn K (.ref (He.ga K "NoEnd")) (.ref (He.ga K "NoRule")) = some false)) rfl)) (of_decide_eq_true (factH c 460 (f := fun K => decide (PySem.W.subIn K (.ref (He.ga K "NoEnd")) (.ref (He.ga K "NoOrder")) = some false)) rfl)) (of_decide_eq_true (factH c 461 (f := fun K => decide (PySem.W.subIn K (.ref (He.ga K "NoEnd")) (.ref (He.ga K "NoEnds")) = some false)) rfl)) (of_decide_eq_true (factH c 462 (f := fun K => decide (PySem.W.subIn K (.ref (He.ga K "NoEnd")) (.ref (He.ga K "NoTree")) = some false)) rfl)) (of_decide_eq_true (factH c 463 (f := fun K => decide (PySem.W.subIn K (.ref (He.ga K "NoEnd")) (.ref (He.ga K "NoWindow")) = some false)) rfl)) (of_decide_eq_true (factH c 464 (f := fun K => decide (PySem.W.subIn K (.ref (He.ga K "NoEnd")) (.ref (He.ga K "TooMany")) = some false)) rfl)) (of_decide_eq_true (factH c 465 (f := fun K => decide (PySem.W.subIn K (.ref (He.ga K "NoEnd")) (.ref (He.ga K "NoSize")) = some false)) rfl)) (of_decide_eq_true (factH c 466 (f := fun K => decide (PySem.W.subIn K (.ref (He.ga K "NoEnd")) (.ref (He.ga K "NoStand")) = some false)) rfl)) (of_decide_eq_true (factH c 467 (f := fun K => decide (PySem.W.subIn K (.ref (He.ga K "NoEnd")) (.ref (He.ga K "NoNumber")) = some false)) rfl)) (of_decide_eq_true (factH c 468 (f := fun K => decide (PySem.W.subIn K (.ref (He.ga K "NoEnd")) (.ref (He.ga K "NoEnd")) = some true)) rfl)) (of_decide_eq_true (factH c 469 (f := fun K => decide (PySem.W.subIn K (.ref (He.ga K "NoEnd")) (.ref (He.ga K "NoDepth")) = some false)) rfl)) (of_decide_eq_true (factH c 470 (f := fun K => decide (PySem.W.subIn K (.ref (He.ga K "NoEnd")) (.ref (He.ga K "NoWorth")) = some false)) rfl)) (of_decide_eq_true (factH c 471 (f := fun K => decide (PySem.W.subIn K (.ref (He.ga K "NoEnd")) (.ref (He.ga K "NoChange")) = some false)) rfl)) (of_decide_eq_true (factH c 472 (f := fun K => decide (PySem.W.subIn K (.ref (He.ga K "NoEnd")) (.ref (He.ga K "NoRow")) = some false)) rfl)) (of_decide_eq_true (factH c 473 (f := fun K => decide (PySem.W.subIn K (.ref (He.ga K "NoEnd")) (.ref (He.ga K "NoName")) = some false)) rfl)) (of_decide_eq_true (factH c 474 (f := fun K => decide (PySem.W.subIn K (.ref (He.ga K "NoEnd")) (.ref (He.ga K "BoughError")) = some true)) rfl)) (of_decide_eq_true (factH c 475 (f := fun K => decide (PySem.W.subIn K (.ref (He.ga K "NoDepth")) (.ref (He.ga K "NoPlay")) = some false)) rfl)) (of_decide_eq_true (factH c 476 (f := fun K => decide (PySem.W.subIn K (.ref (He.ga K "NoDepth")) (.ref (He.ga K "NoText")) = some false)) rfl)) (of_decide_eq_true (factH c 477 (f := fun K => decide (PySem.W.subIn K (.ref (He.ga K "NoDepth")) (.ref (He.ga K "NoWay")) = some false)) rfl)) (of_decide_eq_true (factH c 478 (f := fun K => decide (PySem.W.subIn K (.ref (He.ga K "NoDepth")) (.ref (He.ga K "NoRule")) = some false)) rfl)) (of_decide_eq_true (factH c 479 (f := fun K => decide (PySem.W.subIn K (.ref (He.ga K "NoDepth")) (.ref (He.ga K "NoOrder")) = some false)) rfl)) (of_decide_eq_true (factH c 480 (f := fun K => decide (PySem.W.subIn K (.ref (He.ga K "NoDepth")) (.ref (He.ga K "NoEnds")) = some false)) rfl)) (of_decide_eq_true (factH c 481 (f := fun K => decide (PySem.W.subIn K (.ref (He.ga K "NoDepth")) (.ref (He.ga K "NoTree")) = some false)) rfl)) (of_decide_eq_true (factH c 482 (f := fun K => decide (PySem.W.subIn K (.ref (He.ga K "NoDepth")) (.ref (He.ga K "NoWindow")) = some false)) rfl)) (of_decide_eq_true (factH c 483 (f := fun K => decide (PySem.W.subIn K (.ref (He.ga K "NoDepth")) (.ref (He.ga K "TooMany")) = some false)) rfl)) (of_decide_eq_true (factH c 484 (f := fun K => decide (PySem.W.subIn K (.ref (He.ga K "NoDepth")) (.ref (He.ga K "NoSize")) = some false)) rfl)) (of_decide_eq_true (factH c 485 (f := fun K => decide (PySem.W.subIn K (.ref (He.ga K "NoDepth")) (.ref (He.ga K "NoStand")) = some false)) rfl)) (of_decide_eq_true (factH c 486 (f := fun K => decide (PySem.W.subIn K (.ref (He.ga K "NoDepth")) (.ref (He.ga K "NoNumber")) = some false)) rfl)) (of_decide_eq_true (factH c 487 (f := fun K => decide (PySem.W.subIn K (.ref (He.ga K "NoDepth")) (.ref (He.ga K "NoEnd")) = some false)) rfl)) (of_decide_eq_true (factH c 488 (f := fun K => decide (PySem.W.subIn K (.ref (He.ga K "NoDepth")) (.ref (He.ga K "NoDepth")) = some true)) rfl)) (of_decide_eq_true (factH c 489 (f := fun K => decide (PySem.W.subIn K (.ref (He.ga K "NoDepth")) (.ref (He.ga K "NoWorth")) = some false)) rfl)) (of_decide_eq_true (factH c 490 (f := fun K => decide (PySem.W.subIn K (.ref (He.ga K "NoDepth")) (.ref (He.ga K "NoChange")) = some false)) rfl)) (of_decide_eq_true (factH c 491 (f := fun K => decide (PySem.W.subIn K (.ref (He.ga K "NoDepth")) (.ref (He.ga K "NoRow")) = some false)) rfl)) (of_decide_eq_true (factH c 492 (f := fun K => decide (PySem.W.subIn K (.ref (He.ga K "NoDepth")) (.ref (He.ga K "NoName")) = some false)) rfl)) (of_decide_eq_true (factH c 493 (f := fun K => decide (PySem.W.subIn K (.ref (He.ga K "NoDepth")) (.ref (He.ga K "BoughError")) = some true)) rfl)) (of_decide_eq_true (factH c 494 (f := fun K => decide (PySem.W.subIn K (.ref (He.ga K "NoWorth")) (.ref (He.ga K "NoPlay")) = some false)) rfl)) (of_decide_eq_true (factH c 495 (f := fun K => decide (PySem.W.subIn K (.ref (He.ga K "NoWorth")) (.ref (He.ga K "NoText")) = some false)) rfl)) (of_decide_eq_true (factH c 496 (f := fun K => decide (PySem.W.subIn K (.ref (He.ga K "NoWorth")) (.ref (He.ga K "NoWay")) = some false)) rfl)) (of_decide_eq_true (factH c 497 (f := fun K => decide (PySem.W.subIn K (.ref (He.ga K "NoWorth")) (.ref (He.ga K "NoRule")) = some false)) rfl)) (of_decide_eq_true (factH c 498 (f := fun K => decide (PySem.W.subIn K (.ref (He.ga K "NoWorth")) (.ref (He.ga K "NoOrder")) = some false)) rfl)) (of_decide_eq_true (factH c 499 (f := fun K => decide (PySem.W.subIn K (.ref (He.ga K "NoWorth")) (.ref (He.ga K "NoEnds")) = some false)) rfl)) (of_decide_eq_true (factH c 500 (f := fun K => decide (PySem.W.subIn K (.ref (He.ga K "NoWorth")) (.ref (He.ga K "NoTree")) = some false)) rfl)) (of_decide_eq_true (factH c 501 (f := fun K => decide (PySem.W.subIn K (.ref (He.ga K "NoWorth")) (.ref (He.ga K "NoWindow")) = some false)) rfl)) (of_decide_eq_true (factH c 502 (f := fun K => decide (PySem.W.subIn K (.ref (He.ga K "NoWorth")) (.ref (He.ga K "TooMany")) = some false)) rfl)) (of_decide_eq_true (factH c 503 (f := fun K => decide (PySem.W.subIn K (.ref (He.ga K "NoWorth")) (.ref (He.ga K "NoSize")) = some false)) rfl)) (of_decide_eq_true (factH c 504 (f := fun K => decide (PySem.W.subIn K (.ref (He.ga K "NoWorth")) (.ref (He.ga K "NoStand")) = some false)) rfl)) (of_decide_eq_true (factH c 505 (f := fun K => decide (PySem.W.subIn K (.ref (He.ga K "NoWorth")) (.ref (He.ga K "NoNumber")) = some false)) rfl)) (of_decide_eq_true (factH c 506 (f := fun K => decide (PySem.W.subIn K (.ref (He.ga K "NoWorth")) (.ref (He.ga K "NoEnd")) = some false)) rfl)) (of_decide_eq_true (factH c 507 (f := fun K => decide (PySem.W.subIn K (.ref (He.ga K "NoWorth")) (.ref (He.ga K "NoDepth")) = some false)) rfl)) (of_decide_eq_true (factH c 508 (f := fun K => decide (PySem.W.subIn K (.ref (He.ga K "NoWorth")) (.ref (He.ga K "NoWorth")) = some true)) rfl)) (of_decide_eq_true (factH c 509 (f := fun K => decide (PySem.W.subIn K (.ref (He.ga K "NoWorth")) (.ref (He.ga K "NoChange")) = some false)) rfl)) (of_decide_eq_true (factH c 510 (f := fun K => decide (PySem.W.subIn K (.ref (He.ga K "NoWorth")) (.ref (He.ga K "NoRow")) = some false)) rfl)) (of_decide_eq_true (factH c 511 (f := fun K => decide (PySem.W.subIn K (.ref (He.ga K "NoWorth")) (.ref (He.ga K "NoName")) = some false)) rfl)) (of_decide_eq_true (factH c 512 (f := fun K => decide (PySem.W.subIn K (.ref (He.ga K "NoWorth")) (.ref (He.ga K "BoughError")) = some true)) rfl)) (of_decide_eq_true (factH c 513 (f := fun K => decide (PySem.W.subIn K (.ref (He.ga K "NoChange")) (.ref (He.ga K "NoPlay")) = some false)) rfl)) (of_decide_eq_true (factH c 514 (f := fun K => decide (PySem.W.subIn K (.ref (He.ga K "NoChange")) (.ref (He.ga K "NoText")) = some false)) rfl)) (of_decide_eq_true (factH c 515 (f := fun K => decide (PySem.W.subIn K (.ref (He.ga K "NoChange")) (.ref (He.ga K "NoWay")) = some false)) rfl)) (of_decide_eq_true (factH c 516 (f := fun K => decide (PySem.W.subIn K (.ref (He.ga K "NoChange")) (.ref (He.ga K "NoRule")) = some false)) rfl)) (of_decide_eq_true (factH c 517 (f := fun K => decide (PySem.W.subIn K (.ref (He.ga K "NoChange")) (.ref (He.ga K "NoOrder")) = some false)) rfl)) (of_decide_eq_true (factH c 518 (f := fun K => decide (PySem.W.subIn K (.ref (He.ga K "NoChange")) (.ref (He.ga K "NoEnds")) = some false)) rfl)) (of_decide_eq_true (factH c 519 (f := fun K => decide (PySem.W.subIn K (.ref (He.ga K "NoChange")) (.ref (He.ga K "NoTree")) = some false)) rfl)) (of_decide_eq_true (factH c 520 (f := fun K => decide (PySem.W.subIn K (.ref (He.ga K "NoChange")) (.ref (He.ga K "NoWindow")) = some false)) rfl)) (of_decide_eq_true (factH c 521 (f := fun K => decide (PySem.W.subIn K (.ref (He.ga K "NoChange")) (.ref (He.ga K "TooMany")) = some false)) rfl)) (of_decide_eq_true (factH c 522 (f := fun K => decide (PySem.W.subIn K (.ref (He.ga K "NoChange")) (.ref (He.ga K "NoSize")) = some false)) rfl)) (of_decide_eq_true (factH c 523 (f := fun K => decide (PySem.W.subIn K (.ref (He.ga K "NoChange")) (.ref (He.ga K "NoStand")) = some false)) rfl)) (of_decide_eq_true (factH c 524 (f := fun K => decide (PySem.W.subIn K (.ref (He.ga K "NoChange")) (.ref (He.ga K "NoNumber")) = some false)) rfl)) (of_decide_eq_true (factH c 525 (f := fun K => decide (PySem.W.subIn K (.ref (He.ga K "NoChange")) (.ref (He.ga K "NoEnd")) = some false)) rfl)) (of_decide_eq_true (factH c 526 (f := fun K => decide (PySem.W.subIn K (.ref (He.ga K "NoChange")) (.ref (He.ga K "NoDepth")) = some false)) rfl)) (of_decide_eq_true (factH c 527 (f := fun K => decide (PySem.W.subIn K (.ref (He.ga K "NoChange")) (.ref (He.ga K "NoWorth")) = some false)) rfl)) (of_decide_eq_true (factH c 528 (f := fun K => decide (PySem.W.subIn K (.ref (He.ga K "NoChange")) (.ref (He.ga K "NoChange")) = some true)) rfl)) (of_decide_eq_true (factH c 529 (f := fun K => decide (PySem.W.subIn K (.ref (He.ga K "NoChange")) (.ref (He.ga K "NoRow")) = some false)) rfl)) (of_decide_eq_true (factH c 530 (f := fun K => decide (PySem.W.subIn K (.ref (He.ga K "NoChange")) (.ref (He.ga K "NoName")) = some false)) rfl)) (of_decide_eq_true (factH c 531 (f := fun K => decide (PySem.W.subIn K (.ref (He.ga K "NoChange")) (.ref (He.ga K "BoughError")) = some true)) rfl)) (of_decide_eq_true (factH c 532 (f := fun K => decide (PySem.W.subIn K (.ref (He.ga K "NoRow")) (.ref (He.ga K "NoPlay")) = some false)) rfl)) (of_decide_eq_true (factH c 533 (f := fun K => decide (PySem.W.subIn K (.ref (He.ga K "NoRow")) (.ref (He.ga K "NoText")) = some false)) rfl)) (of_decide_eq_true (factH c 534 (f := fun K => decide (PySem.W.subIn K (.ref (He.ga K "NoRow")) (.ref (He.ga K "NoWay")) = some false)) rfl)) (of_decide_eq_true (factH c 535 (f := fun K => decide (PySem.W.subIn K (.ref (He.ga K "NoRow")) (.ref (He.ga K "NoRule")) = some false)) rfl)) (of_decide_eq_true (factH c 536 (f := fun K => decide (PySem.W.subIn K (.ref (He.ga K "NoRow")) (.ref (He.ga K "NoOrder")) = some false)) rfl)) (of_decide_eq_true (factH c 537 (f := fun K => decide (PySem.W.subIn K (.ref (He.ga K "NoRow")) (.ref (He.ga K "NoEnds")) = some false)) rfl)) (of_decide_eq_true (factH c 538 (f := fun K => decide (PySem.W.subIn K (.ref (He.ga K "NoRow")) (.ref (He.ga K "NoTree")) = some false)) rfl)) (of_decide_eq_true (factH c 539 (f := fun K => decide (PySem.W.subIn K (.ref (He.ga K "NoRow")) (.ref (He.ga K "NoWindow")) = some false)) rfl)) (of_decide_eq_true (factH c 540 (f := fun K => decide (PySem.W.subIn K (.ref (He.ga K "NoRow")) (.ref (He.ga K "TooMany")) = some false)) rfl)) (of_decide_eq_true (factH c 541 (f := fun K => decide (PySem.W.subIn K (.ref (He.ga K "NoRow")) (.ref (He.ga K "NoSize")) = some false)) rfl)) (of_decide_eq_true (factH c 542 (f := fun K => decide (PySem.W.subIn K (.ref (He.ga K "NoRow")) (.ref (He.ga K "NoStand")) = some false)) rfl)) (of_decide_eq_true (factH c 543 (f := fun K => decide (PySem.W.subIn K (.ref (He.ga K "NoRow")) (.ref (He.ga K "NoNumber")) = some false)) rfl)) (of_decide_eq_true (factH c 544 (f := fun K => decide (PySem.W.subIn K (.ref (He.ga K "NoRow")) (.ref (He.ga K "NoEnd")) = some false)) rfl)) (of_decide_eq_true (factH c 545 (f := fun K => decide (PySem.W.subIn K (.ref (He.ga K "NoRow")) (.ref (He.ga K "NoDepth")) = some false)) rfl)) (of_decide_eq_true (factH c 546 (f := fun K => decide (PySem.W.subIn K (.ref (He.ga K "NoRow")) (.ref (He.ga K "NoWorth")) = some false)) rfl)) (of_decide_eq_true (factH c 547 (f := fun K => decide (PySem.W.subIn K (.ref (He.ga K "NoRow")) (.ref (He.ga K "NoChange")) = some false)) rfl)) (of_decide_eq_true (factH c 548 (f := fun K => decide (PySem.W.subIn K (.ref (He.ga K "NoRow")) (.ref (He.ga K "NoRow")) = some true)) rfl)) (of_decide_eq_true (factH c 549 (f := fun K => decide (PySem.W.subIn K (.ref (He.ga K "NoRow")) (.ref (He.ga K "NoName")) = some false)) rfl)) (of_decide_eq_true (factH c 550 (f := fun K => decide (PySem.W.subIn K (.ref (He.ga K "NoRow")) (.ref (He.ga K "BoughError")) = some true)) rfl)) (of_decide_eq_true (factH c 551 (f := fun K => decide (PySem.W.subIn K (.ref (He.ga K "NoName")) (.ref (He.ga K "NoPlay")) = some false)) rfl)) (of_decide_eq_true (factH c 552 (f := fun K => decide (PySem.W.subIn K (.ref (He.ga K "NoName")) (.ref (He.ga K "NoText")) = some false)) rfl)) (of_decide_eq_true (factH c 553 (f := fun K => decide (PySem.W.subIn K (.ref (He.ga K "NoName")) (.ref (He.ga K "NoWay")) = some false)) rfl)) (of_decide_eq_true (factH c 554 (f := fun K => decide (PySem.W.subIn K (.ref (He.ga K "NoName")) (.ref (He.ga K "NoRule")) = some false)) rfl)) (of_decide_eq_true (factH c 555 (f := fun K => decide (PySem.W.subIn K (.ref (He.ga K "NoName")) (.ref (He.ga K "NoOrder")) = some false)) rfl)) (of_decide_eq_true (factH c 556 (f := fun K => decide (PySem.W.subIn K (.ref (He.ga K "NoName")) (.ref (He.ga K "NoEnds")) = some false)) rfl)) (of_decide_eq_true (factH c 557 (f := fun K => decide (PySem.W.subIn K (.ref (He.ga K "NoName")) (.ref (He.ga K "NoTree")) = some false)) rfl)) (of_decide_eq_true (factH c 558 (f := fun K => decide (PySem.W.subIn K (.ref (He.ga K "NoName")) (.ref (He.ga K "NoWindow")) = some false)) rfl)) (of_decide_eq_true (factH c 559 (f := fun K => decide (PySem.W.subIn K (.ref (He.ga K "NoName")) (.ref (He.ga K "TooMany")) = some false)) rfl)) (of_decide_eq_true (factH c 560 (f := fun K => decide (PySem.W.subIn K (.ref (He.ga K "NoName")) (.ref (He.ga K "NoSize")) = some false)) rfl)) (of_decide_eq_true (factH c 561 (f := fun K => decide (PySem.W.subIn K (.ref (He.ga K "NoName")) (.ref (He.ga K "NoStand")) = some false)) rfl)) (of_decide_eq_true (factH c 562 (f := fun K => decide (PySem.W.subIn K (.ref (He.ga K "NoName")) (.ref (He.ga K "NoNumber")) = some false)) rfl)) (of_decide_eq_true (factH c 563 (f := fun K => decide (PySem.W.subIn K (.ref (He.ga K "NoName")) (.ref (He.ga K "NoEnd")) = some false)) rfl)) (of_decide_eq_true (factH c 564 (f := fun K => decide (PySem.W.subIn K (.ref (He.ga K "NoName")) (.ref (He.ga K "NoDepth")) = some false)) rfl)) (of_decide_eq_true (factH c 565 (f := fun K => decide (PySem.W.subIn K (.ref (He.ga K "NoName")) (.ref (He.ga K "NoWorth")) = some false)) rfl)) (of_decide_eq_true (factH c 566 (f := fun K => decide (PySem.W.subIn K (.ref (He.ga K "NoName")) (.ref (He.ga K "NoChange")) = some false)) rfl)) (of_decide_eq_true (factH c 567 (f := fun K => decide (PySem.W.subIn K (.ref (He.ga K "NoName")) (.ref (He.ga K "NoRow")) = some false)) rfl)) (of_decide_eq_true (factH c 568 (f := fun K => decide (PySem.W.subIn K (.ref (He.ga K "NoName")) (.ref (He.ga K "NoName")) = some true)) rfl)) (of_decide_eq_true (factH c 569 (f := fun K => decide (PySem.W.subIn K (.ref (He.ga K "NoName")) (.ref (He.ga K "BoughError")) = some true)) rfl)) (of_decide_eq_true (factH c 570 (f := fun K => decide (PySem.W.subIn K (.ref (He.ga K "NoPlay")) (.ref (He.ga K "NoPlay")) = some true)) rfl)) (of_decide_eq_true (factH c 571 (f := fun K => decide (PySem.W.subIn K (.ref (He.ga K "NoPlay")) (.ref (He.ga K "NoText")) = some false)) rfl)) (of_decide_eq_true (factH c 572 (f := fun K => decide (PySem.W.subIn K (.ref (He.ga K "NoPlay")) (.ref (He.ga K "NoWay")) = some false)) rfl)) (of_decide_eq_true (factH c 573 (f := fun K => decide (PySem.W.subIn K (.ref (He.ga K "NoPlay")) (.ref (He.ga K "NoRule")) = some false)) rfl)) (of_decide_eq_true (factH c 574 (f := fun K => decide (PySem.W.subIn K (.ref (He.ga K "NoPlay")) (.ref (He.ga K "NoOrder")) = some false)) rfl)) (of_decide_eq_true (factH c 575 (f := fun K => decide (PySem.W.subIn K (.ref (He.ga K "NoPlay")) (.ref (He.ga K "NoEnds")) = some false)) rfl)) (of_decide_eq_true (factH c 576 (f := fun K => decide (PySem.W.subIn K (.ref (He.ga K "NoPlay")) (.ref (He.ga K "NoTree")) = some false)) rfl)) (of_decide_eq_true (factH c 577 (f := fun K => decide (PySem.W.subIn K (.ref (He.ga K "NoPlay")) (.ref (He.ga K "NoWindow")) = some false)) rfl)) (of_decide_eq_true (factH c 578 (f := fun K => decide (PySem.W.subIn K (.ref (He.ga K "NoPlay")) (.ref (He.ga K "TooMany")) = some false)) rfl)) (of_decide_eq_true (factH c 579 (f := fun K => decide (PySem.W.subIn K (.ref (He.ga K "NoPlay")) (.ref (He.ga K "NoSize")) = some false)) rfl)) (of_decide_eq_true (factH c 580 (f := fun K => decide (PySem.W.subIn K (.ref (He.ga K "NoPlay")) (.ref (He.ga K "NoStand")) = some false)) rfl)) (of_decide_eq_true (factH c 581 (f := fun K => decide (PySem.W.subIn K (.ref (He.ga K "NoPlay")) (.ref (He.ga K "NoNumber")) = some false)) rfl)) (of_decide_eq_true (factH c 582 (f := fun K => decide (PySem.W.subIn K (.ref (He.ga K "NoPlay")) (.ref (He.ga K "NoEnd")) = some false)) rfl)) (of_decide_eq_true (factH c 583 (f := fun K => decide (PySem.W.subIn K (.ref (He.ga K "NoPlay")) (.ref (He.ga K "NoDepth")) = some false)) rfl)) (of_decide_eq_true (factH c 584 (f := fun K => decide (PySem.W.subIn K (.ref (He.ga K "NoPlay")) (.ref (He.ga K "NoWorth")) = some false)) rfl)) (of_decide_eq_true (factH c 585 (f := fun K => decide (PySem.W.subIn K (.ref (He.ga K "NoPlay")) (.ref (He.ga K "NoChange")) = some false)) rfl)) (of_decide_eq_true (factH c 586 (f := fun K => decide (PySem.W.subIn K (.ref (He.ga K "NoPlay")) (.ref (He.ga K "NoRow")) = some false)) rfl)) (of_decide_eq_true (factH c 587 (f := fun K => decide (PySem.W.subIn K (.ref (He.ga K "NoPlay")) (.ref (He.ga K "NoName")) = some false)) rfl)) (of_decide_eq_true (factH c 588 (f := fun K => decide (PySem.W.subIn K (.ref (He.ga K "NoPlay")) (.ref (He.ga K "BoughError")) = some true)) rfl)) (of_decide_eq_true (factH c 589 (f := fun K => decide (PySem.W.subIn K (.ref (He.ga K "NoText")) (.ref (He.ga K "NoPlay")) = some false)) rfl)) (of_decide_eq_true (factH c 590 (f := fun K => decide (PySem.W.subIn K (.ref (He.ga K "NoText")) (.ref (He.ga K "NoText")) = some true)) rfl)) (of_decide_eq_true (factH c 591 (f := fun K => decide (PySem.W.subIn K (.ref (He.ga K "NoText")) (.ref (He.ga K "NoWay")) = some false)) rfl)) (of_decide_eq_true (factH c 592 (f := fun K => decide (PySem.W.subIn K (.ref (He.ga K "NoText")) (.ref (He.ga K "NoRule")) = some false)) rfl)) (of_decide_eq_true (factH c 593 (f := fun K => decide (PySem.W.subIn K (.ref (He.ga K "NoText")) (.ref (He.ga K "NoOrder")) = some false)) rfl)) (of_decide_eq_true (factH c 594 (f := fun K => decide (PySem.W.subIn K (.ref (He.ga K "NoText")) (.ref (He.ga K "NoEnds")) = some false)) rfl)) (of_decide_eq_true (factH c 595 (f := fun K => decide (PySem.W.subIn K (.ref (He.ga K "NoText")) (.ref (He.ga K "NoTree")) = some false)) rfl)) (of_decide_eq_true (factH c 596 (f := fun K => decide (PySem.W.subIn K (.ref (He.ga K "NoText")) (.ref (He.ga K "NoWindow")) = some false)) rfl)) (of_decide_eq_true (factH c 597 (f := fun K => decide (PySem.W.subIn K (.ref (He.ga K "NoText")) (.ref (He.ga K "TooMany")) = some false)) rfl)) (of_decide_eq_true (factH c 598 (f := fun K => decide (PySem.W.subIn K (.ref (He.ga K "NoText")) (.ref (He.ga K "NoSize")) = some false)) rfl)) (of_decide_eq_true (factH c 599 (f := fun K => decide (PySem.W.subIn K (.ref (He.ga K "NoText")) (.ref (He.ga K "NoStand")) = some false)) rfl)) (of_decide_eq_true (factH c 600 (f := fun K => decide (PySem.W.subIn K (.ref (He.ga K "NoText")) (.ref (He.ga K "NoNumber")) = some false)) rfl)) (of_decide_eq_true (factH c 601 (f := fun K => decide (PySem.W.subIn K (.ref (He.ga K "NoText")) (.ref (He.ga K "NoEnd")) = some false)) rfl)) (of_decide_eq_true (factH c 602 (f := fun K => decide (PySem.W.subIn K (.ref (He.ga K "NoText")) (.ref (He.ga K "NoDepth")) = some false)) rfl)) (of_decide_eq_true (factH c 603 (f := fun K => decide (PySem.W.subIn K (.ref (He.ga K "NoText")) (.ref (He.ga K "NoWorth")) = some false)) rfl)) (of_decide_eq_true (factH c 604 (f := fun K => decide (PySem.W.subIn K (.ref (He.ga K "NoText")) (.ref (He.ga K "NoChange")) = some false)) rfl)) (of_decide_eq_true (factH c 605 (f := fun K => decide (PySem.W.subIn K (.ref (He.ga K "NoText")) (.ref (He.ga K "NoRow")) = some false)) rfl)) (of_decide_eq_true (factH c 606 (f := fun K => decide (PySem.W.subIn K (.ref (He.ga K "NoText")) (.ref (He.ga K "NoName")) = some false)) rfl)) (of_decide_eq_true (factH c 607 (f := fun K => decide (PySem.W.subIn K (.ref (He.ga K "NoText")) (.ref (He.ga K "BoughError")) = some true)) rfl)) (of_decide_eq_true (factH c 608 (f := fun K => decide (PySem.W.nsIn K mainGlobals "ValueError" = some none)) rfl)) (of_decide_eq_true (factH c 609 (f := fun K => decide (PySem.W.subIn K (.type "ValueError") (.type "BaseException") = some true)) rfl)) (of_decide_eq_true (factH c 610 (f := fun K => decide (PySem.W.subIn K (.ref (He.ga K "NoWay")) (.type "ValueError") = some true)) rfl)) (of_decide_eq_true (factH c 611 (f := fun K => decide (PySem.W.subIn K (.ref (He.ga K "NoRule")) (.type "ValueError") = some true)) rfl)) (of_decide_eq_true (factH c 612 (f := fun K => decide (PySem.W.subIn K (.ref (He.ga K "NoOrder")) (.type "ValueError") = some true)) rfl)) (of_decide_eq_true (factH c 613 (f := fun K => decide (PySem.W.subIn K (.ref (He.ga K "NoEnds")) (.type "ValueError") = some true)) rfl)) (of_decide_eq_true (factH c 614 (f := fun K => decide (PySem.W.subIn K (.ref (He.ga K "NoTree")) (.type "ValueError") = some true)) rfl)) (of_decide_eq_true (factH c 615 (f := fun K => decide (PySem.W.subIn K (.ref (He.ga K "NoWindow")) (.type "ValueError") = some true)) rfl)) (of_decide_eq_true (factH c 616 (f := fun K => decide (PySem.W.subIn K (.ref (He.ga K "TooMany")) (.type "ValueError") = some true)) rfl)) (of_decide_eq_true (factH c 617 (f := fun K => decide (PySem.W.subIn K (.ref (He.ga K "NoSize")) (.type "ValueError") = some true)) rfl)) (of_decide_eq_true (factH c 618 (f := fun K => decide (PySem.W.subIn K (.ref (He.ga K "NoStand")) (.type "ValueError") = some true)) rfl)) (of_decide_eq_true (factH c 619 (f := fun K => decide (PySem.W.subIn K (.ref (He.ga K "NoNumber")) (.type "ValueError") = some true)) rfl)) (of_decide_eq_true (factH c 620 (f := fun K => decide (PySem.W.subIn K (.ref (He.ga K "NoEnd")) (.type "ValueError") = some true)) rfl)) (of_decide_eq_true (factH c 621 (f := fun K => decide (PySem.W.subIn K (.ref (He.ga K "NoDepth")) (.type "ValueError") = some true)) rfl)) (of_decide_eq_true (factH c 622 (f := fun K => decide (PySem.W.subIn K (.ref (He.ga K "NoWorth")) (.type "ValueError") = some true)) rfl)) (of_decide_eq_true (factH c 623 (f := fun K => decide (PySem.W.subIn K (.ref (He.ga K "NoChange")) (.type "ValueError") = some true)) rfl)) (of_decide_eq_true (factH c 624 (f := fun K => decide (PySem.W.subIn K (.ref (He.ga K "NoRow")) (.type "ValueError") = some true)) rfl)) (of_decide_eq_true (factH c 625 (f := fun K => decide (PySem.W.subIn K (.ref (He.ga K "NoName")) (.type "ValueError") = some true)) rfl)) (of_decide_eq_true (factH c 626 (f := fun K => decide (PySem.W.subIn K (.ref (He.ga K "NoPlay")) (.type "ValueError") = some true)) rfl)) (of_decide_eq_true (factH c 627 (f := fun K => decide (PySem.W.subIn K (.ref (He.ga K "NoText")) (.type "ValueError") = some true)) rfl)) (of_decide_eq_true (factH c 628 (f := fun K => decide (PySem.W.nsIn K mainGlobals "_law_pool" = some (some (.ref (He.ga K "_law_pool"))))) rfl)) hl0 hc0 hk0 (of_decide_eq_true (factH c 629 (f := fun K => decide (PySem.W.nsIn K mainGlobals "_law_take" = some (some (.ref (He.ga K "_law_take"))))) rfl)) hl1 hc1 hk1 (of_decide_eq_true (factH c 630 (f := fun K => decide (PySem.W.nsIn K mainGlobals "_law_made" = some (some (.ref (He.ga K "_law_made"))))) rfl)) hl2 hc2 hk2 (of_decide_eq_true (factH c 631 (f := fun K => decide (PySem.W.nsIn K mainGlobals "_law_sorts" = some (some (.ref (He.ga K "_law_sorts"))))) rfl)) hl3 hc3 hk3 (of_decide_eq_true (factH c 632 (f := fun K => decide (PySem.W.nsIn K mainGlobals "law" = some (some (.ref (He.ga K "law"))))) rfl)) hl4 hc4 hk4 (of_decide_eq_true (factH c 633 (f := fun K => decide (PySem.W.findIn K (.ref (He.ga K "NoPlay")) "__init__" = some (some (.ref (He.ma K (He.ga K "NoPlay") "__init__"))))) rfl)) (of_decide_eq_true (factH c 634 (f := fun K => decide (PySem.W.typeIn K (.ref (He.ma K (He.ga K "NoPlay") "__init__")) = some (.type "function"))) rfl)) hl5 hc5 hk5 (of_decide_eq_true (factH c 635 (f := fun K => decide (PySem.W.findIn K (.ref (He.ga K "NoText")) "__init__" = some (some (.ref (He.ma K (He.ga K "NoText") "__init__"))))) rfl)) (of_decide_eq_true (factH c 636 (f := fun K => decide (PySem.W.typeIn K (.ref (He.ma K (He.ga K "NoText") "__init__")) = some (.type "function"))) rfl)) hl6 hc6 hk6 (of_decide_eq_true (factH c 637 (f := fun K => decide (PySem.W.nsIn K mainGlobals "len" = some none)) rfl)) (of_decide_eq_true (factH c 638 (f := fun K => decide (PySem.W.nsIn K mainGlobals "int" = some none)) rfl)) (of_decide_eq_true (factH c 639 (f := fun K => decide (PySem.W.nsIn K mainGlobals "isinstance" = some none)) rfl)) (of_decide_eq_true (factH c 640 (f := fun K => decide (PySem.W.nsIn K mainGlobals "range" = some none)) rfl))
end VL
open PySem PySem.W PySem.Calls PyProof.Rows
set_option maxHeartbeats 0 in
theorem PySem.Challenge.cw_cutboughs_k06_refusals_holds : PySem.Challenge.rw_cutboughs_k06_refusals.Holds := by
  w_on; o_law
  refine HandSHeadRun.head_any (r := OpenLaw.row PySem.Challenge.rw_cutboughs_k06_refusals) (q := view (OpenLaw.row PySem.Challenge.rw_cutboughs_k06_refusals).prog [25]) (H := VL.hookH 5 VL.fH VL.dH) (ob := VL.obG 5 VL.fH VL.dH) (M := 6000) (loose := VL.nmH) (d := HandSHeadRun.topDef (OpenLaw.row PySem.Challenge.rw_cutboughs_k06_refusals).prog 25) (kwd := []) VL.obG_eq
    (by kernel_rfl) (fun s => by kernel_rfl) VL.runH (by kernel_rfl) (by kernel_rfl) (by kernel_rfl) (by rfl) (by first | assumption | decide +kernel) (by decide +kernel) ⟨rfl, rfl, rfl, rfl, rfl, by decide +kernel⟩ ?hw ?hc
  case hw => w_witness2
  case hc =>
    refine VL.walkGE (l := PySem.Challenge.rw_cutboughs_k06_refusals) (n := 63) (k := 4) (x := "_law_script") rfl (by decide) (by kernel_rfl) ⟨rfl, by decide, by decide⟩ ?F
    intro w mg fa h Y G hmg0
    obtain ⟨K, KX, c, tb⟩ := Y
    have hmg : mg ("law" : PySem.Str) = some (.ref fa) := by
      have e : (HandSHeadRun.topDef (OpenLaw.row PySem.Challenge.rw_cutboughs_k06_refusals).prog 25).name = ("law" : PySem.Str) := by kernel_rfl
      rw [← e]
      exact hmg0
    obtain ⟨fd, hb, hF⟩ := VL.allH (l := PySem.Challenge.rw_cutboughs_k06_refusals) (w := w) c KX G hmg
    exact ⟨K, fd, KX, tb, hb, hF⟩
