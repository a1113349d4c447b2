import PyProof.Rows.All
import Wide.All
import OpenK.AllK
import Wide.FinOn
import HandS.Base
import HandS.Lambda
import KE.KStateDown
import HandS.Words
import HandS.Head0
import HandS.Head1
import HandS.Head2
import HandS.HeadHook1
import HandS.HeadHook2
import HandS.ForMost
import HandS.Wide
import HandS.SortInts
import HandS.RevRange
import HandS.Exc
import HandS.Flow
import HandS.Style
import HandS.IsInst
import HandS.Conv
import PyProof.ReprRoads
import KE.SortKeyHeap
import PyProof.MinMaxWalk
import HandS.Text
import HandS.TupAny
import HandS.Ends
import HandS.ExcOwn
import HandS.ExcIs
import HandS.TryOnly
import HandS.More
import HandS.Zip
import HandS.Iter
import KE.GoesMore
import HandS.Small
import HandS.DictComp
import PyProof.ReprReads
import HandS.WordsDict
import HandS.SortKw
import KE.DataMinMax
import PyProof.Rows.SetFrom
import PyProof.SetRoads
import KE.KDictCopyH
import HandS.Finally
import KE.KEqNest
import PyProof.NeKinds
import HandS.SetFor
import HandS.DictTup
import HandS.SortRule
import KE.SortKeyed
import HandS.ExcValue
import KE.DataMinKey
import KE.DataFind
import KE.KDictKeyed
import KE.KDictDisplayH
import HandS.Deep
import HandS.EndBits
import HandS.EndTab
import PyProof.ReprBulk
import PyProof.StrLawsIn
import PySem.Challenge.RW_cutboughs_k09_whole_texts_and_plays
set_option Elab.async false
set_option linter.all false
set_option maxRecDepth 100000
set_option maxHeartbeats 4000000
namespace VL
open PySem PySem.Spec PyProof.Rows L2
/-- the defs of a program that make lambdas -/
def lamNames : List Str := ["order_by_marks", "grown"]
/-- a def's code object and its table -/
def tabOf (K : PySem.W.Frag) (f : Addr) : Option (Addr × Addr) := match K.lookup f with
  | some ⟨_, _, .func fd, _⟩ => match fd.code with
    | .ref c => match K.lookup c with
      | some ⟨_, _, .fields vs, _⟩ => match (vs[11]? : Option Value) with
        | some (.ref P) => some (c, P)
        | _ => none
      | _ => none
    | _ => none
  | _ => none
/-- the tables of code objects that may grow, with the name of what is made -/
def tabsK (K : PySem.W.Frag) : List (Addr × Str) := lamNames.filterMap fun nm => match PySem.W.nsIn K mainGlobals nm with
  | some (some (.ref f)) => (tabOf K f).map fun p => (p.2, (nm ++ (".<locals>." : Str)) ++ ("<lambda>" : Str))
  | _ => none
def tabA (K : PySem.W.Frag) : List Addr := (tabsK K).map (·.1)
/-- the code objects and their tables -/
def tabsC (K : PySem.W.Frag) : List (Addr × Addr) := lamNames.filterMap fun nm => match PySem.W.nsIn K mainGlobals nm with
  | some (some (.ref f)) => tabOf K f
  | _ => none
theorem tabA_C {K : PySem.W.Frag} {a : Addr} (h : a ∈ tabA K) : ∃ c, (c, a) ∈ tabsC K := by
  obtain ⟨p, hp, rfl⟩ := List.mem_map.mp h
  obtain ⟨nm, hn, e⟩ := List.mem_filterMap.mp hp
  split at e
  · rename_i f hf
    obtain ⟨q, hq, rfl⟩ := Option.map_eq_some_iff.mp e
    exact ⟨q.1, List.mem_filterMap.mpr ⟨nm, hn, by rw [hf]; exact hq⟩⟩
  · cases e
/-- what a namespace names -/
def nsRefs (g : Addr → Option Obj) (a : Addr) : List Addr := match g a with
  | some ⟨_, _, .dict es _, _⟩ => es.toList.flatMap fun e => He.refV e.val
  | _ => []
/-- the code of a function -/
def codeRef (g : Addr → Option Obj) (a : Addr) : List Addr := match g a with
  | some ⟨_, _, .func fd, _⟩ => He.refV fd.code
  | _ => []
/-- the module's objects, the functions' code, the classes' methods and their code: each name once -/
def asP (g : Addr → Option Obj) : List Addr := mainGlobals :: (nsRefs g mainGlobals).flatMap fun a => a :: match g a with
  | some ⟨_, _, .func fd, _⟩ => He.refV fd.code
  | some ⟨_, _, .cls cd, _⟩ => cd.ns :: (nsRefs g cd.ns).flatMap fun f => f :: codeRef g f
  | _ => []
def obsH (fa : List (PySem.W.Frag → Bool)) (fn : List He.DefD) (K : PySem.W.Frag) : He.AlD := ((fa.all fun f => f K) && fn.all fun d => d.ok K, fn.map fun d => He.fnW K d.at_)
/-- an empty table -/
def tab0B (g : Addr → Option Obj) (P : Addr) : Bool := match g P with
  | some ⟨.none, none, .fields vs, sl⟩ => decide (vs.size = 0) && decide (sl.size = 0)
  | _ => false
theorem tab0_ok {g : Addr → Option Obj} {P : Addr} (h : tab0B g P = true) : g P = some (PySem.W.tabObj #[]) := by
  unfold tab0B at h
  split at h
  · rename_i vs sl e
    rw [Bool.and_eq_true, decide_eq_true_eq, decide_eq_true_eq] at h
    rw [e]
    have h1 := Array.eq_empty_of_size_eq_zero h.1
    have h2 := Array.eq_empty_of_size_eq_zero h.2
    subst h1 h2
    rfl
  · cases h
/-- a code object with a table -/
def codeHB (g : Addr → Option Obj) (c P : Addr) : Bool := match g c with
  | some ⟨.type t, _, .fields vs, _⟩ => decide (t = "code") && ((match (vs[11]? : Option Value) with | some (.ref q) => decide (q = P) | _ => false) && ((match vs.getD 11 .none with | .ref q => decide (q = P) | _ => false) && ((match vs.getD 18 .none with | .str _ _ => true | _ => false) && ((match vs.getD 7 .none with | .int _ _ => true | _ => false) && ((match vs.getD 9 .none with | .bool _ => true | _ => false) && ((match vs.getD 10 .none with | .int _ _ => true | _ => false) && decide (c ≠ P)))))))
  | _ => false
theorem codeH_ok {h : Heap} {c P : Addr} (e : codeHB h.get? c P = true) : PySem.W.CodeHd h c P := by
  unfold codeHB at e
  split at e
  · rename_i t d vs sl e0
    simp only [Bool.and_eq_true, decide_eq_true_eq] at e
    obtain ⟨rfl, e1, e2, e3, e4, e5, e6, e7⟩ := e
    split at e1 <;> first | (cases e1; done) | skip
    split at e2 <;> first | (cases e2; done) | skip
    split at e3 <;> first | (cases e3; done) | skip
    split at e4 <;> first | (cases e4; done) | skip
    split at e5 <;> first | (cases e5; done) | skip
    split at e6 <;> first | (cases e6; done) | skip
    rename_i a1 b1 _ a2 b2 _ _ _ b3 _ _ _ b4 _ _ b5 _ _ _ b6
    have e1 := of_decide_eq_true e1
    have e2 := of_decide_eq_true e2
    subst e1
    rw [e2] at b2
    exact ⟨_, vs, _, _, _, _, _, _, _, e0, rfl, rfl, b1, b2, b3, b4, b5, b6, e7⟩
  · cases e
def tabsB (g : Addr → Option Obj) (K : PySem.W.Frag) : Bool := (tabsC K).all fun p => codeHB g p.1 p.2 && (tab0B g p.2 && (K.lookup p.2).isNone)
/-- the tables as they are at the law's begin -/
def TabsH (K : PySem.W.Frag) (h : Heap) : Prop := ∀ p ∈ tabsC K, PySem.W.CodeHd h p.1 p.2 ∧ h.get? p.2 = some (PySem.W.tabObj #[]) ∧ K.lookup p.2 = none
theorem tabsB_ok {h : Heap} {K : PySem.W.Frag} (e : tabsB h.get? K = true) : TabsH K h := fun p hp => by
  have := List.all_eq_true.mp e p hp
  simp only [Bool.and_eq_true] at this
  exact ⟨codeH_ok this.1, tab0_ok this.2.1, by simpa using this.2.2⟩
def obsT (g : Addr → Option Obj) (fa : List (PySem.W.Frag → Bool)) (fn : List He.DefD) (K : PySem.W.Frag) : He.AlD := ((obsH fa fn K).1 && tabsB g K, (obsH fa fn K).2)
theorem obsT_ok {g : Addr → Option Obj} {fa : List (PySem.W.Frag → Bool)} {fn : List He.DefD} {K : PySem.W.Frag} (e : obsT g fa fn K = He.valD fn) : obsH fa fn K = He.valD fn ∧ tabsB g K = true := by
  unfold obsT He.valD at e
  have a := congrArg Prod.fst e
  have b := congrArg Prod.snd e
  simp only [Bool.and_eq_true] at a
  exact ⟨Prod.ext a.1 b, a.2⟩
def hookH (_n : Nat) (fa : List (PySem.W.Frag → Bool)) (fn : List He.DefD) : PySem.W.Hook where
  α := He.AlD
  obs := fun s => obsT s.heap.get? fa fn (He.frG s.heap.get? (asP s.heap.get?))
  val := fun _ => He.valD fn
  says := fun _ h => ∃ K : PySem.W.Frag, K.In h ∧ obsH fa fn K = He.valD fn ∧ TabsH K h
  of := fun _ _ e => ⟨_, He.frG_in, (obsT_ok e).1, tabsB_ok (obsT_ok e).2⟩
  keeps := fun _ _ _ ⟨K, hK, c, t⟩ k => ⟨K, PySem.W.Frag.In.keeps hK k, c, fun p hp => ⟨(t p hp).1.keeps k, k _ _ (t p hp).2.1, (t p hp).2.2⟩⟩
def obG (_n : Nat) (fa : List (PySem.W.Frag → Bool)) (fn : List He.DefD) (s : PySem.W.SharedT) : He.AlD := obsT (HandSHeadRun.getT s) fa fn (He.frG (HandSHeadRun.getT s) (asP (HandSHeadRun.getT s)))
theorem obG_eq {n : Nat} {fa : List (PySem.W.Frag → Bool)} {fn : List He.DefD} (s : PySem.W.SharedT) : obG n fa fn s = (hookH n fa fn).obs s.abs := by
  have e : HandSHeadRun.getT s = s.abs.heap.get? := funext (HandSHeadRun.getT_eq s)
  unfold obG
  rw [e] <;> rfl
section
variable {fa : List (PySem.W.Frag → Bool)} {fn : List He.DefD} {K : PySem.W.Frag}
theorem factH (c : obsH fa fn K = He.valD fn) (i : Nat) {f : PySem.W.Frag → Bool} (h : fa[i]? = some f) : f K = true := by
  have c1 := (Bool.and_eq_true_iff.mp (show ((fa.all fun f => f K) && fn.all fun d => d.ok K) = true from congrArg (fun z : He.AlD => z.1) c)).1
  exact List.all_eq_true.mp c1 f (List.mem_of_getElem? h)
theorem defH (c : obsH fa fn K = He.valD fn) (i : Nat) {d : He.DefD} (h : fn[i]? = some d) : ∃ fd, FunD K d.name d.qual d.params d.body d.scope (d.dvs K) (d.kws K) (He.fAd K d.at_) fd := by
  have c2 := (Bool.and_eq_true_iff.mp (show ((fa.all fun f => f K) && fn.all fun d => d.ok K) = true from congrArg (fun z : He.AlD => z.1) c)).2
  have e : fn.map (fun d => He.fnW K d.at_) = fn.map He.DefD.val := congrArg (fun z : He.AlD => z.2) c
  have e2 : (fn.map fun d => He.fnW K d.at_)[i]? = (fn.map He.DefD.val)[i]? := by rw [e]
  rw [List.getElem?_map, List.getElem?_map, h] at e2
  exact He.DefD.funD (Option.some.inj e2) (List.all_eq_true.mp c2 d (List.mem_of_getElem? h))
end
section
variable {K : PySem.W.Frag}
/-- a whole number's global -/
def intG (K : PySem.W.Frag) (x : Str) (i : Int) : Bool := match PySem.W.nsIn K mainGlobals x with
  | some (some (.int j _)) => decide (j = i)
  | _ => false
theorem intG_ok {x : Str} {i : Int} (h : intG K x i = true) : ∃ t, PySem.W.nsIn K mainGlobals x = some (some (.int i t)) := by
  unfold intG at h
  split at h
  · rename_i j t e
    have ej : j = i := of_decide_eq_true h
    exact ⟨t, ej ▸ e⟩
  · cases h
/-- a global tuple of two texts -/
def twoG (K : PySem.W.Frag) (x a b : Str) : Bool := match K.lookup (He.ga K x) with
  | some ⟨.type c, _, .seq its _, _⟩ => decide (c = "tuple") && (match its.toList with
    | [.str y _, .str z _] => decide (y = a) && decide (z = b)
    | _ => false)
  | _ => false
theorem twoG_ok {x a b : Str} (h : twoG K x a b = true) : ∃ (d : Option Addr) (n : Nat) (s : Array (Option Value)) (t u : Nat), K.lookup (He.ga K x) = some ⟨.type "tuple", d, .seq #[.str a t, .str b u] n, s⟩ := by
  unfold twoG at h
  split at h
  · rename_i c d its n s e
    obtain ⟨h1, h2⟩ := Bool.and_eq_true_iff.mp h
    split at h2
    · rename_i y t z u e2
      obtain ⟨h3, h4⟩ := Bool.and_eq_true_iff.mp h2
      have e3 : c = "tuple" := of_decide_eq_true h1
      have e4 : y = a := of_decide_eq_true h3
      have e5 : z = b := of_decide_eq_true h4
      have e6 : its = #[.str a t, .str b u] := by
        apply Array.toList_inj.mp
        rw [e2, e4, e5]
      subst e3 e6
      exact ⟨d, n, s, t, u, e⟩
    · cases h2
  · cases h
/-- a global text -/
def strG (K : PySem.W.Frag) (x : Str) (i : Str) : Bool := match PySem.W.nsIn K mainGlobals x with
  | some (some (.str j _)) => decide (j = i)
  | _ => false
theorem strG_ok {x : Str} {i : Str} (h : strG K x i = true) : ∃ t, PySem.W.nsIn K mainGlobals x = some (some (.str i t)) := by
  unfold strG at h
  split at h
  · rename_i j t e
    have ej : j = i := of_decide_eq_true h
    exact ⟨t, ej ▸ e⟩
  · cases h
end
abbrev s_law_pool : Stmt := PySem.Challenge.pw_cutboughs_k09_whole_texts_and_plays.main.body.getD 27 (.Pass ⟨0, 0, 0, 0⟩)
abbrev s_law_take : Stmt := PySem.Challenge.pw_cutboughs_k09_whole_texts_and_plays.main.body.getD 28 (.Pass ⟨0, 0, 0, 0⟩)
abbrev s_law_kids : Stmt := PySem.Challenge.pw_cutboughs_k09_whole_texts_and_plays.main.body.getD 29 (.Pass ⟨0, 0, 0, 0⟩)
abbrev s_law_merged : Stmt := PySem.Challenge.pw_cutboughs_k09_whole_texts_and_plays.main.body.getD 31 (.Pass ⟨0, 0, 0, 0⟩)
abbrev s_law_hand : Stmt := PySem.Challenge.pw_cutboughs_k09_whole_texts_and_plays.main.body.getD 32 (.Pass ⟨0, 0, 0, 0⟩)
abbrev s_law_worth : Stmt := PySem.Challenge.pw_cutboughs_k09_whole_texts_and_plays.main.body.getD 30 (.Pass ⟨0, 0, 0, 0⟩)
abbrev s_law_play : Stmt := PySem.Challenge.pw_cutboughs_k09_whole_texts_and_plays.main.body.getD 33 (.Pass ⟨0, 0, 0, 0⟩)
abbrev s_shown : Stmt := PySem.Challenge.pw_cutboughs_k09_whole_texts_and_plays.main.body.getD 21 (.Pass ⟨0, 0, 0, 0⟩)
abbrev s_is_figures : Stmt := PySem.Challenge.pw_cutboughs_k09_whole_texts_and_plays.main.body.getD 22 (.Pass ⟨0, 0, 0, 0⟩)
abbrev s_number_of : Stmt := PySem.Challenge.pw_cutboughs_k09_whole_texts_and_plays.main.body.getD 23 (.Pass ⟨0, 0, 0, 0⟩)
abbrev s_is_whole : Stmt := PySem.Challenge.pw_cutboughs_k09_whole_texts_and_plays.main.body.getD 10 (.Pass ⟨0, 0, 0, 0⟩)
abbrev s_is_worth : Stmt := PySem.Challenge.pw_cutboughs_k09_whole_texts_and_plays.main.body.getD 11 (.Pass ⟨0, 0, 0, 0⟩)
abbrev s_stand_of : Stmt := PySem.Challenge.pw_cutboughs_k09_whole_texts_and_plays.main.body.getD 24 (.Pass ⟨0, 0, 0, 0⟩)
abbrev s_are_steps : Stmt := PySem.Challenge.pw_cutboughs_k09_whole_texts_and_plays.main.body.getD 12 (.Pass ⟨0, 0, 0, 0⟩)
abbrev s_is_stand : Stmt := PySem.Challenge.pw_cutboughs_k09_whole_texts_and_plays.main.body.getD 13 (.Pass ⟨0, 0, 0, 0⟩)
abbrev s_steps_of : Stmt := PySem.Challenge.pw_cutboughs_k09_whole_texts_and_plays.main.body.getD 14 (.Pass ⟨0, 0, 0, 0⟩)
abbrev s_led_to : Stmt := PySem.Challenge.pw_cutboughs_k09_whole_texts_and_plays.main.body.getD 16 (.Pass ⟨0, 0, 0, 0⟩)
abbrev s_farthest : Stmt := PySem.Challenge.pw_cutboughs_k09_whole_texts_and_plays.main.body.getD 15 (.Pass ⟨0, 0, 0, 0⟩)
abbrev s_look_at_play : Stmt := PySem.Challenge.pw_cutboughs_k09_whole_texts_and_plays.main.body.getD 17 (.Pass ⟨0, 0, 0, 0⟩)
abbrev s_read : Stmt := PySem.Challenge.pw_cutboughs_k09_whole_texts_and_plays.main.body.getD 25 (.Pass ⟨0, 0, 0, 0⟩)
abbrev s_law_back : Stmt := PySem.Challenge.pw_cutboughs_k09_whole_texts_and_plays.main.body.getD 35 (.Pass ⟨0, 0, 0, 0⟩)
abbrev s_law_other : Stmt := PySem.Challenge.pw_cutboughs_k09_whole_texts_and_plays.main.body.getD 34 (.Pass ⟨0, 0, 0, 0⟩)
abbrev s_law : Stmt := PySem.Challenge.pw_cutboughs_k09_whole_texts_and_plays.main.body.getD 36 (.Pass ⟨0, 0, 0, 0⟩)
def dH : List He.DefD := [⟨⟨"_law_pool", none⟩, "_law_pool", "_law_pool", defArgs s_law_pool, defBody s_law_pool, defScope s_law_pool, [], []⟩, ⟨⟨"_law_take", none⟩, "_law_take", "_law_take", defArgs s_law_take, defBody s_law_take, defScope s_law_take, [], []⟩, ⟨⟨"_law_kids", none⟩, "_law_kids", "_law_kids", defArgs s_law_kids, defBody s_law_kids, defScope s_law_kids, [], []⟩, ⟨⟨"_law_merged", none⟩, "_law_merged", "_law_merged", defArgs s_law_merged, defBody s_law_merged, defScope s_law_merged, [], []⟩, ⟨⟨"_law_hand", none⟩, "_law_hand", "_law_hand", defArgs s_law_hand, defBody s_law_hand, defScope s_law_hand, [], []⟩, ⟨⟨"_law_worth", none⟩, "_law_worth", "_law_worth", defArgs s_law_worth, defBody s_law_worth, defScope s_law_worth, [], []⟩, ⟨⟨"_law_play", none⟩, "_law_play", "_law_play", defArgs s_law_play, defBody s_law_play, defScope s_law_play, [], []⟩, ⟨⟨"shown", none⟩, "shown", "shown", defArgs s_shown, defBody s_shown, defScope s_shown, [], []⟩, ⟨⟨"is_figures", none⟩, "is_figures", "is_figures", defArgs s_is_figures, defBody s_is_figures, defScope s_is_figures, [], []⟩, ⟨⟨"number_of", none⟩, "number_of", "number_of", defArgs s_number_of, defBody s_number_of, defScope s_number_of, [], []⟩, ⟨⟨"is_whole", none⟩, "is_whole", "is_whole", defArgs s_is_whole, defBody s_is_whole, defScope s_is_whole, [], []⟩, ⟨⟨"is_worth", none⟩, "is_worth", "is_worth", defArgs s_is_worth, defBody s_is_worth, defScope s_is_worth, [], []⟩, ⟨⟨"stand_of", none⟩, "stand_of", "stand_of", defArgs s_stand_of, defBody s_stand_of, defScope s_stand_of, [], []⟩, ⟨⟨"are_steps", none⟩, "are_steps", "are_steps", defArgs s_are_steps, defBody s_are_steps, defScope s_are_steps, [], []⟩, ⟨⟨"is_stand", none⟩, "is_stand", "is_stand", defArgs s_is_stand, defBody s_is_stand, defScope s_is_stand, [], []⟩, ⟨⟨"steps_of", none⟩, "steps_of", "steps_of", defArgs s_steps_of, defBody s_steps_of, defScope s_steps_of, [], []⟩, ⟨⟨"led_to", none⟩, "led_to", "led_to", defArgs s_led_to, defBody s_led_to, defScope s_led_to, [], []⟩, ⟨⟨"farthest", none⟩, "farthest", "farthest", defArgs s_farthest, defBody s_farthest, defScope s_farthest, [], []⟩, ⟨⟨"look_at_play", none⟩, "look_at_play", "look_at_play", defArgs s_look_at_play, defBody s_look_at_play, defScope s_look_at_play, [], []⟩, ⟨⟨"read", none⟩, "read", "read", defArgs s_read, defBody s_read, defScope s_read, [], []⟩, ⟨⟨"_law_back", none⟩, "_law_back", "_law_back", defArgs s_law_back, defBody s_law_back, defScope s_law_back, [], []⟩, ⟨⟨"_law_other", none⟩, "_law_other", "_law_other", defArgs s_law_other, defBody s_law_other, defScope s_law_other, [], []⟩, ⟨⟨"law", none⟩, "law", "law", defArgs s_law, defBody s_law, defScope s_law, [], []⟩]
def fH : List (PySem.W.Frag → Bool) := [fun K => decide (PySem.W.nsIn K mainGlobals "_law_pool" = some (some (.ref (He.ga K "_law_pool")))),
  fun K => decide (PySem.W.nsIn K mainGlobals "_law_take" = some (some (.ref (He.ga K "_law_take")))),
  fun K => decide (PySem.W.nsIn K mainGlobals "_law_kids" = some (some (.ref (He.ga K "_law_kids")))),
  fun K => decide (PySem.W.nsIn K mainGlobals "_law_merged" = some (some (.ref (He.ga K "_law_merged")))),
  fun K => decide (PySem.W.nsIn K mainGlobals "_law_hand" = some (some (.ref (He.ga K "_law_hand")))),
  fun K => decide (PySem.W.nsIn K mainGlobals "_law_worth" = some (some (.ref (He.ga K "_law_worth")))),
  fun K => decide (PySem.W.nsIn K mainGlobals "_law_play" = some (some (.ref (He.ga K "_law_play")))),
  fun K => decide (PySem.W.nsIn K mainGlobals "shown" = some (some (.ref (He.ga K "shown")))),
  fun K => decide (PySem.W.nsIn K mainGlobals "is_figures" = some (some (.ref (He.ga K "is_figures")))),
  fun K => decide (PySem.W.nsIn K mainGlobals "number_of" = some (some (.ref (He.ga K "number_of")))),
  fun K => decide (PySem.W.nsIn K mainGlobals "is_whole" = some (some (.ref (He.ga K "is_whole")))),
  fun K => decide (PySem.W.nsIn K mainGlobals "is_worth" = some (some (.ref (He.ga K "is_worth")))),
  fun K => decide (PySem.W.nsIn K mainGlobals "stand_of" = some (some (.ref (He.ga K "stand_of")))),
  fun K => decide (PySem.W.nsIn K mainGlobals "are_steps" = some (some (.ref (He.ga K "are_steps")))),
  fun K => decide (PySem.W.nsIn K mainGlobals "is_stand" = some (some (.ref (He.ga K "is_stand")))),
  fun K => decide (PySem.W.nsIn K mainGlobals "steps_of" = some (some (.ref (He.ga K "steps_of")))),
  fun K => decide (PySem.W.nsIn K mainGlobals "led_to" = some (some (.ref (He.ga K "led_to")))),
  fun K => decide (PySem.W.nsIn K mainGlobals "farthest" = some (some (.ref (He.ga K "farthest")))),
  fun K => decide (PySem.W.nsIn K mainGlobals "look_at_play" = some (some (.ref (He.ga K "look_at_play")))),
  fun K => decide (PySem.W.nsIn K mainGlobals "read" = some (some (.ref (He.ga K "read")))),
  fun K => decide (PySem.W.nsIn K mainGlobals "_law_back" = some (some (.ref (He.ga K "_law_back")))),
  fun K => decide (PySem.W.nsIn K mainGlobals "_law_other" = some (some (.ref (He.ga K "_law_other")))),
  fun K => decide (PySem.W.nsIn K mainGlobals "law" = some (some (.ref (He.ga K "law")))),
  fun K => decide (PySem.W.nsIn K mainGlobals "len" = some none),
  fun K => decide (PySem.W.nsIn K mainGlobals "int" = some none),
  fun K => decide (PySem.W.nsIn K mainGlobals "range" = some none),
  fun K => decide (PySem.W.nsIn K mainGlobals "max" = some none),
  fun K => decide (PySem.W.nsIn K mainGlobals "min" = some none),
  fun K => decide (PySem.W.nsIn K mainGlobals "tuple" = some none),
  fun K => decide (PySem.W.nsIn K mainGlobals "str" = some none),
  fun K => decide (PySem.W.nsIn K mainGlobals "all" = some none),
  fun K => decide (PySem.W.nsIn K mainGlobals "isinstance" = some none),
  fun K => decide (PySem.W.nsIn K mainGlobals "bool" = some none),
  fun K => decide (PySem.W.nsIn K mainGlobals "abs" = some none),
  fun K => decide (PySem.W.nsIn K mainGlobals "enumerate" = some none),
  fun K => decide (PySem.W.nsIn K mainGlobals "list" = some none),
  fun K => decide (PySem.W.nsIn K mainGlobals "repr" = some none),
  fun K => strG K "FIGURES" "0123456789",
  fun K => intG K "MOST_FIGURES" 31,
  fun K => intG K "GREATEST" 1000000000000000000000000000000,
  fun K => decide (PySem.W.nsIn K mainGlobals "HANDS" = some (some (.ref (He.ga K "HANDS")))),
  fun K => twoG K "HANDS" "high" "low",
  fun K => intG K "MOST_BOUGHS" 12,
  fun K => intG K "MOST_STANDS" 400,
  fun K => intG K "MOST_STEPS" 40]
def nmH0 : List PySem.Str := ["__name__", "BoughError", "NoPlay", "NoText", "__name__", "GREATEST", "MOST_STANDS", "MOST_BOUGHS", "MOST_STEPS", "HANDS", "is_whole", "is_worth", "are_steps", "is_stand", "steps_of", "farthest", "led_to", "look_at_play", "__name__", "FIGURES"]
def nmH1 : List PySem.Str := ["MOST_FIGURES", "shown", "is_figures", "number_of", "stand_of", "read", "__name__", "_law_pool", "_law_take", "_law_kids", "_law_worth", "_law_merged", "_law_hand", "_law_play", "_law_other", "_law_back"]
def nmH : List PySem.Str := nmH0 ++ (nmH1)
abbrev rowH : PySem.W.OpenRow := PySem.W.OpenLaw.row PySem.Challenge.rw_cutboughs_k09_whole_texts_and_plays
theorem runH (w : World) : HandSHeadRun.RunEq rowH (PySem.W.view rowH.prog [36]) (hookH 5 fH dH) (obG 5 fH dH) 6000 nmH w := by
  intro os
  kernel_rfl
def keyD : Key → PyData
  | .inl i => .int i
  | .inr x => .str x
def zipD (ks : List Key) (ds : List PyData) : List (PyData × PyData) := (ks.map keyD).zip ds
mutual
inductive Rp (K : PySem.W.Frag) (H : Hp) : V → PyData → Prop
  | non : Rp K H .non .none
  | bl (b : Bool) : Rp K H (.bl b) (.bool b)
  | int (i : Int) : Rp K H (.int i) (.int i)
  | str (x : Str) : Rp K H (.str x) (.str x)
  | lst {a : Addr} {xs : List V} {ds : List PyData} : SqL K H a xs → RpAll K H xs ds → Rp K H (.ref a) (.list ds)
  | tup {a : Addr} {xs : List V} {ds : List PyData} : SqT K H a xs → RpAll K H xs ds → Rp K H (.ref a) (.tuple ds)
  | dct {a : Addr} {ks : List Key} {xs : List V} {ds : List PyData} : ks.length = xs.length → Rd H a (.dK (ks.zip xs)) → RpAll K H xs ds → Rp K H (.ref a) (.dict (zipD ks ds))
inductive RpAll (K : PySem.W.Frag) (H : Hp) : List V → List PyData → Prop
  | nil : RpAll K H [] []
  | cons {v : V} {vs : List V} {d : PyData} {ds : List PyData} : Rp K H v d → RpAll K H vs ds → RpAll K H (v :: vs) (d :: ds)
end
theorem Rd.mono {H H' : Hp} {a : Addr} {o : HO} (e : Same H H') (h : Rd H a o) : Rd H' a o := by
  rcases h with h | ⟨u, h⟩
  · exact .inl (e _ _ h)
  · exact .inr ⟨u, e _ _ h⟩
theorem SqL.mono {K : PySem.W.Frag} {H H' : Hp} {a : Addr} {xs : List V} (e : Same H H') (h : SqL K H a xs) : SqL K H' a xs := h.elim (fun z => .inl (Rd.mono e z)) .inr
theorem SqT.mono {K : PySem.W.Frag} {H H' : Hp} {a : Addr} {xs : List V} (e : Same H H') (h : SqT K H a xs) : SqT K H' a xs := by
  rcases h with (h | ⟨o, h⟩) | h
  · exact .inl (.inl (e _ _ h))
  · exact .inl (.inr ⟨o, e _ _ h⟩)
  · exact .inr h
mutual
theorem Rp.mono {K : PySem.W.Frag} {H H' : Hp} (e : Same H H') : ∀ {v : V} {x : PyData}, Rp K H v x → Rp K H' v x
  | _, _, .non => .non
  | _, _, .bl b => .bl b
  | _, _, .int i => .int i
  | _, _, .str s => .str s
  | _, _, .lst a b => .lst (SqL.mono e a) (RpAll.mono e b)
  | _, _, .tup a b => .tup (SqT.mono e a) (RpAll.mono e b)
  | _, _, .dct l a b => .dct l (Rd.mono e a) (RpAll.mono e b)
theorem RpAll.mono {K : PySem.W.Frag} {H H' : Hp} (e : Same H H') : ∀ {vs : List V} {xs : List PyData}, RpAll K H vs xs → RpAll K H' vs xs
  | _, _, .nil => .nil
  | _, _, .cons a b => .cons (Rp.mono e a) (RpAll.mono e b)
end
mutual
theorem Rp.dp {K : PySem.W.Frag} {H : Hp} : ∀ {v : V} {x : PyData}, Rp K H v x → x.canLay0 = true → Dp K H v x
  | _, _, .non, _ => .non
  | _, _, .bl b, _ => .bl b
  | _, _, .int i, _ => .int i
  | _, _, .str s, _ => .str s
  | _, _, .lst a b, h => .lst a (RpAll.dp b (by simpa [PyData.canLay0] using h))
  | _, _, .tup a b, h => .tup a (RpAll.dp b (by simpa [PyData.canLay0] using h))
  | _, _, .dct l a b, h => by simp [PyData.canLay0] at h
theorem RpAll.dp {K : PySem.W.Frag} {H : Hp} : ∀ {vs : List V} {xs : List PyData}, RpAll K H vs xs → PyData.canLayAll0 xs = true → DpAll K H vs xs
  | _, _, .nil, _ => .nil
  | _, _, .cons a b, h => by
    simp only [PyData.canLayAll0, Bool.and_eq_true] at h
    exact .cons (Rp.dp a h.1) (RpAll.dp b h.2)
end
theorem RpAll.length {K : PySem.W.Frag} {H : Hp} : ∀ {vs : List V} {xs : List PyData}, RpAll K H vs xs → vs.length = xs.length
  | _, _, .nil => rfl
  | _, _, .cons a b => by rw [List.length_cons, List.length_cons, RpAll.length b]
theorem RpAll.get {K : PySem.W.Frag} {H : Hp} : ∀ {vs : List V} {xs : List PyData} {i : Nat} {x : PyData}, RpAll K H vs xs → xs[i]? = some x → ∃ v, vs[i]? = some v ∧ Rp K H v x
  | _, _, i, x, .nil, h => by simp at h
  | _, _, 0, x, .cons a b, h => by simp at h; subst h; exact ⟨_, rfl, a⟩
  | _, _, i + 1, x, .cons a b, h => by
    obtain ⟨v, h1, h2⟩ := RpAll.get (i := i) (x := x) b (by simpa using h)
    exact ⟨v, by simpa using h1, h2⟩
inductive Kd where
  | list | tup | tupw
  | dict (ks : List Key)
  | inst (C : Addr) (ns : List Str)
  | exc (n : Str) (C : Addr)
  | rsd (n : Str)
inductive T where
  | dead
  | d (x : PyData)
  | nd (k : Kd) (ts : List T)
inductive TA where
  | dead (v : V)
  | d (v : V) (x : PyData)
  | nd (k : Kd) (a : Addr) (ts : List TA)
instance : Inhabited T := ⟨.dead⟩
instance : Inhabited TA := ⟨.dead .non⟩
def TA.v : TA → V
  | .dead v => v
  | .d v _ => v
  | .nd _ a _ => .ref a
def TA.isDead : TA → Bool
  | .dead _ => true
  | _ => false
def T.isDead : T → Bool
  | .dead => true
  | _ => false
/-- an exception of the class at C that was caught and is kept -/
def ExK (C a : Addr) : HO := .ext fun h => ∃ (oe : Obj) (vs : Array Value), h.get? a = some oe ∧ Zc (.ref C) none oe ∧ oe.data = .fields vs
def Kd.at (H : Hp) (k : Kd) (a : Addr) (vs : List V) : Prop := match k with
  | .list => H a = some (.lst vs)
  | .tup => H a = some (.tup vs)
  | .tupw => H a = some (.tup vs)
  | .dict ks => ks.length = vs.length ∧ H a = some (.dK (ks.zip vs))
  | .inst C ns => ns.length = vs.length ∧ ∃ dx, H a = some (.ins C dx (ns.zip vs))
  | .exc _ C => vs = [] ∧ H a = some (ExK C a)
  | .rsd _ => False
def Kd.isTup : Kd → Bool
  | .tup => true
  | _ => false
mutual
def TA.t : TA → T
  | .dead _ => .dead
  | .d _ x => .d x
  | .nd k _ ts => .nd k (TA.tl ts)
def TA.tl : List TA → List T
  | [] => []
  | t :: r => t.t :: TA.tl r
end
mutual
def TA.fp : TA → List Addr
  | .dead _ => []
  | .d _ _ => []
  | .nd _ a ts => a :: TA.fpl ts
def TA.fpl : List TA → List Addr
  | [] => []
  | t :: r => t.fp ++ TA.fpl r
end
mutual
def TA.ok (K : PySem.W.Frag) (Hs H : Hp) : TA → Prop
  | .dead _ => True
  | .d v x => Rp K Hs v x
  | .nd k a ts => k.at H a (ts.map TA.v) ∧ TA.okl K Hs H ts
def TA.okl (K : PySem.W.Frag) (Hs H : Hp) : List TA → Prop
  | [] => True
  | t :: r => t.ok K Hs H ∧ TA.okl K Hs H r
end
mutual
def TA.noTup : TA → Bool
  | .dead _ => true
  | .d _ _ => true
  | .nd k _ ts => !k.isTup && TA.noTupl ts
def TA.noTupl : List TA → Bool
  | [] => true
  | t :: r => t.noTup && TA.noTupl r
end
mutual
def T.noTup : T → Bool
  | .dead => true
  | .d _ => true
  | .nd k ts => !k.isTup && T.noTupl ts
def T.noTupl : List T → Bool
  | [] => true
  | t :: r => t.noTup && T.noTupl r
end
mutual
def T.data : T → Option PyData
  | .dead => none
  | .d x => some x
  | .nd k ts => match k with
    | .list => (T.datal ts).map .list
    | .tup => (T.datal ts).map .tuple
    | .tupw => none
    | .dict ks => (T.datal ts).map fun xs => .dict (zipD ks xs)
    | .inst _ _ => none
    | .exc _ _ => none
    | .rsd _ => none
def T.datal : List T → Option (List PyData)
  | [] => some []
  | t :: r => match t.data, T.datal r with
    | some x, some xs => some (x :: xs)
    | _, _ => none
end
theorem TA.tl_map : ∀ ts : List TA, TA.tl ts = ts.map TA.t
  | [] => rfl
  | t :: r => by rw [TA.tl, TA.tl_map r]; rfl
theorem TA.fpl_flat : ∀ ts : List TA, TA.fpl ts = ts.flatMap TA.fp
  | [] => rfl
  | t :: r => by rw [TA.fpl, TA.fpl_flat r]; rfl
theorem TA.fpl_append : ∀ ts us : List TA, TA.fpl (ts ++ us) = TA.fpl ts ++ TA.fpl us
  | [], us => by simp [TA.fpl]
  | t :: r, us => by rw [List.cons_append, TA.fpl, TA.fpl_append r us, TA.fpl, List.append_assoc]
theorem TA.okl_all {K : PySem.W.Frag} {Hs H : Hp} : ∀ {ts : List TA}, TA.okl K Hs H ts ↔ ∀ t ∈ ts, t.ok K Hs H
  | [] => by simp [TA.okl]
  | t :: r => by rw [TA.okl, TA.okl_all (ts := r)]; simp
theorem TA.okl_append {K : PySem.W.Frag} {Hs H : Hp} {ts us : List TA} : TA.okl K Hs H (ts ++ us) ↔ TA.okl K Hs H ts ∧ TA.okl K Hs H us := by
  rw [TA.okl_all, TA.okl_all, TA.okl_all]
  constructor
  · intro h
    exact ⟨fun t ht => h t (List.mem_append_left _ ht), fun t ht => h t (List.mem_append_right _ ht)⟩
  · rintro ⟨h1, h2⟩ t ht
    rcases List.mem_append.mp ht with z | z
    · exact h1 t z
    · exact h2 t z
theorem TA.noTupl_all : ∀ {ts : List TA}, TA.noTupl ts = true ↔ ∀ t ∈ ts, t.noTup = true
  | [] => by simp [TA.noTupl]
  | t :: r => by rw [TA.noTupl, Bool.and_eq_true, TA.noTupl_all (ts := r)]; simp
mutual
theorem TA.noTup_t : ∀ t : TA, t.t.noTup = t.noTup
  | .dead _ => rfl
  | .d _ _ => rfl
  | .nd k a ts => by rw [TA.t, T.noTup, TA.noTup, TA.noTup_tl ts]
theorem TA.noTup_tl : ∀ ts : List TA, T.noTupl (TA.tl ts) = TA.noTupl ts
  | [] => rfl
  | t :: r => by rw [TA.tl, T.noTupl, TA.noTupl, TA.noTup_t t, TA.noTup_tl r]
end
theorem TA.isDead_t (t : TA) : t.t.isDead = t.isDead := by cases t <;> rfl
theorem Kd.at_same {H H' : Hp} {k : Kd} {a : Addr} {vs : List V} (h : k.at H a vs) (e : H' a = H a) : k.at H' a vs := by
  cases k with
  | list => exact e.trans h
  | tup => exact e.trans h
  | tupw => exact e.trans h
  | dict ks => exact ⟨h.1, e.trans h.2⟩
  | inst C ns => obtain ⟨l, dx, q⟩ := h; exact ⟨l, dx, e.trans q⟩
  | exc n C => exact ⟨h.1, e.trans h.2⟩
  | rsd n => exact h
theorem Kd.at_some {H : Hp} {k : Kd} {a : Addr} {vs : List V} (h : k.at H a vs) : H a ≠ none := by
  intro z
  cases k with
  | list => rw [show H a = some (.lst vs) from h] at z; cases z
  | tup => rw [show H a = some (.tup vs) from h] at z; cases z
  | tupw => rw [show H a = some (.tup vs) from h] at z; cases z
  | dict ks => rw [show H a = some _ from h.2] at z; cases z
  | inst C ns => obtain ⟨l, dx, q⟩ := h; rw [q] at z; cases z
  | exc n C => rw [show H a = some _ from h.2] at z; cases z
  | rsd n => exact h.elim
mutual
theorem TA.fp_some {K : PySem.W.Frag} {Hs H : Hp} : ∀ (t : TA), t.ok K Hs H → ∀ a ∈ t.fp, H a ≠ none
  | .dead _, _, a, h => by simp [TA.fp] at h
  | .d _ _, _, a, h => by simp [TA.fp] at h
  | .nd k b ts, ok, a, h => by
    rw [TA.ok] at ok
    rw [TA.fp] at h
    rcases List.mem_cons.mp h with rfl | h
    · exact Kd.at_some ok.1
    · exact TA.fpl_some ts ok.2 a h
theorem TA.fpl_some {K : PySem.W.Frag} {Hs H : Hp} : ∀ (ts : List TA), TA.okl K Hs H ts → ∀ a ∈ TA.fpl ts, H a ≠ none
  | [], _, a, h => by simp [TA.fpl] at h
  | t :: r, ok, a, h => by
    rw [TA.okl] at ok
    rw [TA.fpl] at h
    rcases List.mem_append.mp h with h | h
    · exact TA.fp_some t ok.1 a h
    · exact TA.fpl_some r ok.2 a h
end
mutual
theorem TA.ok_mono {K : PySem.W.Frag} {Hs H Hs' H' : Hp} (e : Same Hs Hs') : ∀ (t : TA), t.ok K Hs H → (∀ a ∈ t.fp, H' a = H a) → t.ok K Hs' H'
  | .dead _, _, _ => by rw [TA.ok]; trivial
  | .d v x, h, _ => by rw [TA.ok] at h ⊢; exact Rp.mono e h
  | .nd k a ts, h, hf => by
    rw [TA.ok] at h ⊢
    exact ⟨Kd.at_same h.1 (hf a (by rw [TA.fp]; exact List.mem_cons_self)), TA.okl_mono e ts h.2 fun b hb => hf b (by rw [TA.fp]; exact List.mem_cons_of_mem _ hb)⟩
theorem TA.okl_mono {K : PySem.W.Frag} {Hs H Hs' H' : Hp} (e : Same Hs Hs') : ∀ (ts : List TA), TA.okl K Hs H ts → (∀ a ∈ TA.fpl ts, H' a = H a) → TA.okl K Hs' H' ts
  | [], _, _ => by rw [TA.okl]; trivial
  | t :: r, h, hf => by
    rw [TA.okl] at h ⊢
    exact ⟨TA.ok_mono e t h.1 fun b hb => hf b (by rw [TA.fpl]; exact List.mem_append_left _ hb), TA.okl_mono e r h.2 fun b hb => hf b (by rw [TA.fpl]; exact List.mem_append_right _ hb)⟩
end
mutual
/-- a tree's data stands in the whole heap -/
theorem TA.reads {K : PySem.W.Frag} {Hs H : Hp} (e : Same Hs H) : ∀ (t : TA) (x : PyData), t.ok K Hs H → t.t.data = some x → Rp K H t.v x
  | .dead _, x, _, h => by rw [TA.t, T.data] at h; cases h
  | .d v y, x, ok, h => by
    rw [TA.t, T.data] at h
    cases h
    rw [TA.ok] at ok
    exact Rp.mono e ok
  | .nd k a ts, x, ok, h => by
    rw [TA.ok] at ok
    rw [TA.t] at h
    cases k with
    | list =>
      rw [T.data, Option.map_eq_some_iff] at h
      obtain ⟨xs, h1, rfl⟩ := h
      exact .lst (.inl (.inl ok.1)) (TA.readsl e ts xs ok.2 h1)
    | tup =>
      rw [T.data, Option.map_eq_some_iff] at h
      obtain ⟨xs, h1, rfl⟩ := h
      exact .tup (SqT.of ok.1) (TA.readsl e ts xs ok.2 h1)
    | dict ks =>
      rw [T.data, Option.map_eq_some_iff] at h
      obtain ⟨xs, h1, rfl⟩ := h
      exact .dct ok.1.1 (.inl ok.1.2) (TA.readsl e ts xs ok.2 h1)
    | tupw => simp [T.data] at h
    | inst C ns => simp [T.data] at h
    | exc n C => simp [T.data] at h
    | rsd n => simp [T.data] at h
theorem TA.readsl {K : PySem.W.Frag} {Hs H : Hp} (e : Same Hs H) : ∀ (ts : List TA) (xs : List PyData), TA.okl K Hs H ts → T.datal (TA.tl ts) = some xs → RpAll K H (ts.map TA.v) xs
  | [], xs, _, h => by
    rw [TA.tl, T.datal] at h
    cases h
    exact .nil
  | t :: r, xs, ok, h => by
    rw [TA.okl] at ok
    rw [TA.tl, T.datal] at h
    split at h
    · rename_i x ys e1 e2
      cases h
      exact .cons (TA.reads e t x ok.1 e1) (TA.readsl e r ys ok.2 e2)
    · cases h
end
def T.at (t : T) : List Nat → Option T
  | [] => some t
  | j :: p => match t with
    | .nd _ ts => match ts[j]? with
      | some c => c.at p
      | none => none
    | _ => none
def T.put (t : T) (s : T) : List Nat → T
  | [] => s
  | j :: p => match t with
    | .nd k ts => match ts[j]? with
      | some c => .nd k (ts.set j (c.put s p))
      | none => t
    | _ => t
def TA.at (t : TA) : List Nat → Option TA
  | [] => some t
  | j :: p => match t with
    | .nd _ _ ts => match ts[j]? with
      | some c => c.at p
      | none => none
    | _ => none
def TA.put (t : TA) (s : TA) : List Nat → TA
  | [] => s
  | j :: p => match t with
    | .nd k a ts => match ts[j]? with
      | some c => .nd k a (ts.set j (c.put s p))
      | none => t
    | _ => t
theorem TA.at_t : ∀ (p : List Nat) (t : TA), t.t.at p = (t.at p).map TA.t
  | [], t => rfl
  | j :: p, t => by
    cases t with
    | dead => rfl
    | d v x => rfl
    | nd k a ts =>
      rw [TA.t, T.at, TA.at, TA.tl_map, List.getElem?_map]
      cases e : ts[j]? with
      | none => rfl
      | some c => exact TA.at_t p c
theorem TA.put_t (s : TA) : ∀ (p : List Nat) (t : TA), (t.put s p).t = t.t.put s.t p
  | [], t => rfl
  | j :: p, t => by
    cases t with
    | dead => rfl
    | d v x => rfl
    | nd k a ts =>
      rw [TA.put, TA.t, T.put, TA.tl_map, List.getElem?_map]
      cases e : ts[j]? with
      | none => simp only [Option.map_none, TA.t, TA.tl_map]
      | some c => simp only [Option.map_some, TA.t, TA.tl_map, List.map_set, TA.put_t s p c]
theorem TA.put_v (s : TA) : ∀ (p : List Nat) (t : TA) (c : TA), t.at p = some c → s.v = c.v → (t.put s p).v = t.v
  | [], t, c, h, e => by
    rw [TA.at] at h
    cases h
    exact e
  | j :: p, t, c, h, e => by
    cases t with
    | dead => rfl
    | d v x => rfl
    | nd k a ts =>
      rw [TA.put]
      cases q : ts[j]? <;> rfl
theorem getElem?_split {α : Type} {l : List α} {i : Nat} {x : α} (h : l[i]? = some x) : ∃ l1 l2, l = l1 ++ x :: l2 ∧ l1.length = i := by
  obtain ⟨hi, e⟩ := List.getElem?_eq_some_iff.mp h
  refine ⟨l.take i, l.drop (i + 1), ?_, by simp; omega⟩
  rw [← e, List.getElem_cons_drop, List.take_append_drop]
theorem set_split {α : Type} {l1 l2 : List α} {x y : α} : (l1 ++ x :: l2).set l1.length y = l1 ++ y :: l2 := by
  rw [List.set_append_right _ _ (Nat.le_refl _), Nat.sub_self]
  rfl
/-- a place's footprint lies within its tree's -/
theorem TA.lens : ∀ (p : List Nat) (t c : TA), t.at p = some c → ∃ l1 l2, t.fp = l1 ++ c.fp ++ l2 ∧ ∀ s : TA, (t.put s p).fp = l1 ++ s.fp ++ l2
  | [], t, c, h => by
    rw [TA.at] at h
    cases h
    exact ⟨[], [], by simp, fun s => by simp [TA.put]⟩
  | j :: p, t, c, h => by
    cases t with
    | dead => cases h
    | d v x => cases h
    | nd k a ts =>
      rw [TA.at] at h
      cases q : ts[j]? with
      | none => rw [q] at h; cases h
      | some b =>
        rw [q] at h
        obtain ⟨l1, l2, e1, e2⟩ := TA.lens p b c h
        obtain ⟨u1, u2, eu, hu⟩ := getElem?_split q
        refine ⟨a :: (TA.fpl u1 ++ l1), l2 ++ TA.fpl u2, ?_, fun s => ?_⟩
        · rw [TA.fp, eu, TA.fpl_append, TA.fpl, e1]
          simp
        · simp only [TA.put, q]
          rw [TA.fp, eu, ← hu, set_split, TA.fpl_append, TA.fpl, e2 s]
          simp
theorem TA.at_ok {K : PySem.W.Frag} {Hs H : Hp} : ∀ (p : List Nat) (t c : TA), t.at p = some c → t.ok K Hs H → c.ok K Hs H
  | [], t, c, h, ok => by
    rw [TA.at] at h
    cases h
    exact ok
  | j :: p, t, c, h, ok => by
    cases t with
    | dead => cases h
    | d v x => cases h
    | nd k a ts =>
      rw [TA.at] at h
      cases q : ts[j]? with
      | none => rw [q] at h; cases h
      | some b =>
        rw [q] at h
        rw [TA.ok] at ok
        exact TA.at_ok p b c h (TA.okl_all.mp ok.2 b (List.mem_of_getElem? q))
theorem TA.at_noTup : ∀ (p : List Nat) (t c : TA), t.at p = some c → t.noTup = true → c.noTup = true
  | [], t, c, h, ok => by
    rw [TA.at] at h
    cases h
    exact ok
  | j :: p, t, c, h, ok => by
    cases t with
    | dead => cases h
    | d v x => cases h
    | nd k a ts =>
      rw [TA.at] at h
      cases q : ts[j]? with
      | none => rw [q] at h; cases h
      | some b =>
        rw [q] at h
        rw [TA.noTup, Bool.and_eq_true] at ok
        exact TA.at_noTup p b c h (TA.noTupl_all.mp ok.2 b (List.mem_of_getElem? q))
theorem mem_set_or {α : Type} {l : List α} {i : Nat} {x y : α} (h : y ∈ l.set i x) : y = x ∨ y ∈ l := by
  rcases List.mem_or_eq_of_mem_set h with z | z
  · exact .inr z
  · exact .inl z
theorem TA.put_noTup (s : TA) (hs : s.noTup = true) : ∀ (p : List Nat) (t : TA), t.noTup = true → (t.put s p).noTup = true
  | [], t, ok => hs
  | j :: p, t, ok => by
    cases t with
    | dead => exact ok
    | d v x => exact ok
    | nd k a ts =>
      rw [TA.put]
      cases q : ts[j]? with
      | none => exact ok
      | some b =>
        rw [TA.noTup, Bool.and_eq_true] at ok
        simp only [TA.noTup, Bool.and_eq_true]
        refine ⟨ok.1, TA.noTupl_all.mpr fun u hu => ?_⟩
        rcases mem_set_or hu with rfl | hu
        · exact TA.put_noTup s hs p b (TA.noTupl_all.mp ok.2 b (List.mem_of_getElem? q))
        · exact TA.noTupl_all.mp ok.2 u hu
theorem map_set_same {α β : Type} (f : α → β) {l : List α} {i : Nat} {x y : α} (h : l[i]? = some x) (e : f y = f x) : (l.set i y).map f = l.map f := by
  obtain ⟨l1, l2, rfl, rfl⟩ := getElem?_split h
  rw [set_split]
  simp [e]
theorem nodup_mid {l1 m l2 : List Addr} (h : (l1 ++ m ++ l2).Nodup) : (∀ a ∈ m, a ∉ l1 ∧ a ∉ l2) ∧ m.Nodup ∧ (l1 ++ l2).Nodup := by
  rw [List.append_assoc, List.nodup_append] at h
  obtain ⟨h1, h2, h3⟩ := h
  rw [List.nodup_append] at h2
  obtain ⟨h4, h5, h6⟩ := h2
  refine ⟨fun a ha => ⟨fun z => h3 a z a (List.mem_append_left _ ha) rfl, fun z => h6 a ha a z rfl⟩, h4, ?_⟩
  rw [List.nodup_append]
  exact ⟨h1, h5, fun a ha b hb => h3 a ha b (List.mem_append_right _ hb)⟩
/-- the tree with another one at a place, in a heap that is another one there alone -/
theorem TA.put_ok {K : PySem.W.Frag} {Hs H Hs' H' : Hp} (e : Same Hs Hs') (s : TA) (hs : s.ok K Hs' H') : ∀ (p : List Nat) (t c : TA), t.at p = some c → s.v = c.v → t.ok K Hs H → t.fp.Nodup → (∀ a ∈ t.fp, a ∉ c.fp → H' a = H a) → (t.put s p).ok K Hs' H'
  | [], t, c, h, hv, ok, hn, hf => by
    exact hs
  | j :: p, t, c, h, hv, ok, hn, hf => by
    cases t with
    | dead => cases h
    | d v x => cases h
    | nd k a ts =>
      rw [TA.at] at h
      cases q : ts[j]? with
      | none => rw [q] at h; cases h
      | some b =>
        rw [q] at h
        obtain ⟨l1, l2, e1, e2⟩ := TA.lens p b c h
        obtain ⟨u1, u2, eu, hu⟩ := getElem?_split q
        rw [TA.ok] at ok
        have hcb : ∀ z ∈ c.fp, z ∈ b.fp := fun z hz => by rw [e1]; exact List.mem_append_left _ (List.mem_append_right _ hz)
        have nd' := hn
        rw [TA.fp, eu, TA.fpl_append, TA.fpl, List.nodup_cons] at nd'
        obtain ⟨n1, n2⟩ := nd'
        have n3 := nodup_mid (l1 := TA.fpl u1) (m := b.fp) (l2 := TA.fpl u2) (by rw [List.append_assoc]; exact n2)
        simp only [TA.put, q]
        rw [TA.ok]
        refine ⟨?_, ?_⟩
        · have hav : (ts.set j (b.put s p)).map TA.v = ts.map TA.v := map_set_same TA.v q (TA.put_v s p b c h hv)
          rw [hav]
          refine Kd.at_same ok.1 (hf a (by rw [TA.fp]; exact List.mem_cons_self) fun z => n1 ?_)
          exact List.mem_append_right _ (List.mem_append_left _ (hcb a z))
        · refine TA.okl_all.mpr fun u hu' => ?_
          subst eu
          subst hu
          rw [set_split] at hu'
          rw [TA.okl_append, TA.okl] at ok
          have hmem : ∀ z, z ∈ TA.fpl u1 ∨ z ∈ b.fp ∨ z ∈ TA.fpl u2 → z ∈ (TA.nd k a (u1 ++ b :: u2)).fp := fun z hz => by
            rw [TA.fp, TA.fpl_append, TA.fpl]
            refine List.mem_cons_of_mem _ ?_
            rcases hz with hz | hz | hz
            · exact List.mem_append_left _ hz
            · exact List.mem_append_right _ (List.mem_append_left _ hz)
            · exact List.mem_append_right _ (List.mem_append_right _ hz)
          have side : ∀ w : TA, w.ok K Hs H → (∀ z ∈ w.fp, z ∈ TA.fpl u1 ∨ z ∈ TA.fpl u2) → w.ok K Hs' H' := fun w hw hz => by
            refine TA.ok_mono e w hw fun z hzz => hf z ?_ ?_
            · rcases hz z hzz with y | y
              · exact hmem z (.inl y)
              · exact hmem z (.inr (.inr y))
            · intro hc
              have := n3.1 z (hcb z hc)
              rcases hz z hzz with y | y
              · exact this.1 y
              · exact this.2 y
          have inl : ∀ (us : List TA) (w : TA), w ∈ us → ∀ z ∈ w.fp, z ∈ TA.fpl us := fun us w hw z hz => by
            rw [TA.fpl_flat]
            exact List.mem_flatMap.mpr ⟨w, hw, hz⟩
          rcases List.mem_append.mp hu' with hu' | hu'
          · exact side u (TA.okl_all.mp ok.2.1 u hu') fun z hz => .inl (inl u1 u hu' z hz)
          · rcases List.mem_cons.mp hu' with rfl | hu'
            · exact TA.put_ok e s hs p b c h hv ok.2.2.1 n3.2.1 fun z hz hzc => hf z (hmem z (.inr (.inl hz))) hzc
            · exact side u (TA.okl_all.mp ok.2.2.2 u hu') fun z hz => .inr (inl u2 u hu' z hz)
/-- each table is known; what it tells are code objects of that name, which stay -/
structure TabsV (K : PySem.W.Frag) (Hs H : Hp) : Prop where
  t : ∀ p ∈ tabsK K, ∃ ps : Array Value, H p.1 = some (.tbl ps) ∧ TriplesOk ps.toList ∧ ∀ (pos : Pos) (cv : Value), codeAmong pos ps.toList = some cv → ∃ c, cv = .ref c ∧ Hs c = some (LamX.CodeO c p.2)
  n : ∀ a ∈ tabA K, Hs a = none
theorem TabsV.some_ {K : PySem.W.Frag} {Hs H : Hp} (t : TabsV K Hs H) {a : Addr} (h : a ∈ tabA K) : ∃ ps, H a = some (.tbl ps) := by
  obtain ⟨p, hp, rfl⟩ := List.mem_map.mp h
  obtain ⟨ps, e, _⟩ := t.t p hp
  exact ⟨ps, e⟩
/-- the tables stay, the shared heap grows -/
theorem TabsV.to {K : PySem.W.Frag} {Hs H Hs' H' : Hp} (t : TabsV K Hs H) (h1 : ∀ a ps, H a = some (.tbl ps) → H' a = some (.tbl ps)) (h2 : ∀ c q, Hs c = some (LamX.CodeO c q) → Hs' c = some (LamX.CodeO c q)) (h3 : ∀ a ∈ tabA K, Hs' a = none) : TabsV K Hs' H' := ⟨fun p hp => by
  obtain ⟨ps, e1, e2, e3⟩ := t.t p hp
  refine ⟨ps, h1 _ _ e1, e2, fun pos cv h => ?_⟩
  obtain ⟨c, rfl, e⟩ := e3 pos cv h
  exact ⟨c, rfl, h2 _ _ e⟩, h3⟩
theorem TabsV.grow {K : PySem.W.Frag} {Hs H Hs' H' : Hp} (t : TabsV K Hs H) (h1 : Same H H') (h2 : Same Hs Hs') (h3 : ∀ a ∈ tabA K, Hs' a = none) : TabsV K Hs' H' := t.to (fun a ps e => h1 a _ e) (fun c q e => h2 c _ e) h3
theorem TabsV.growH {K : PySem.W.Frag} {Hs H H' : Hp} (t : TabsV K Hs H) (h1 : Same H H') : TabsV K Hs H' := t.grow h1 (Same.refl _) t.n
/-- a shared object that is new -/
theorem TabsV.new {K : PySem.W.Frag} {Hs H : Hp} {p : Addr} {o : HO} (t : TabsV K Hs H) (hp : H p = none) : ∀ a ∈ tabA K, upd Hs p o a = none := fun a ha => by
  obtain ⟨ps, e⟩ := t.some_ ha
  rw [upd_ne fun z => by rw [z, hp] at e; cases e]
  exact t.n a ha
mutual
theorem TA.fp_tbl {K : PySem.W.Frag} {Hs H : Hp} : ∀ t : TA, t.ok K Hs H → ∀ a ∈ t.fp, ∀ ps, H a ≠ some (.tbl ps)
  | .dead _, _, a, h => by simp [TA.fp] at h
  | .d _ _, _, a, h => by simp [TA.fp] at h
  | .nd k b ts, ok, a, h => by
    rw [TA.ok] at ok
    rw [TA.fp] at h
    rcases List.mem_cons.mp h with rfl | h
    · intro ps
      cases k with
      | list => rw [show H a = _ from ok.1]; intro z; cases z
      | tup => rw [show H a = _ from ok.1]; intro z; cases z
      | tupw => rw [show H a = _ from ok.1]; intro z; cases z
      | dict ks => rw [show H a = _ from ok.1.2]; intro z; cases z
      | inst C ns => obtain ⟨_, dx, e⟩ := ok.1; rw [e]; intro z; cases z
      | exc n C => rw [show H a = _ from ok.1.2]; intro z; cases z
      | rsd n => exact ok.1.elim
    · exact TA.fpl_tbl ts ok.2 a h
theorem TA.fpl_tbl {K : PySem.W.Frag} {Hs H : Hp} : ∀ ts : List TA, TA.okl K Hs H ts → ∀ a ∈ TA.fpl ts, ∀ ps, H a ≠ some (.tbl ps)
  | [], _, a, h => by simp [TA.fpl] at h
  | t :: r, ok, a, h => by
    rw [TA.okl] at ok
    rw [TA.fpl] at h
    rcases List.mem_append.mp h with h | h
    · exact TA.fp_tbl t ok.1 a h
    · exact TA.fpl_tbl r ok.2 a h
end
structure B0 where
  H0 : Hp
  Hs0 : Hp
  A0 : List Addr
  pin : List (Nat × V)
structure Bs extends B0 where
  ix : List Nat
structure Rel (K : PySem.W.Frag) (B : Bs) (Hs H : Hp) (σ : L2.St) (sl tp : List TA) : Prop where
  len : sl.length = σ.length
  val : ∀ (i : Nat) (t : TA), sl[i]? = some t → t.isDead = false → σ[i]? = some (some t.v)
  ok : TA.okl K Hs H (sl ++ tp)
  uq : (TA.fpl (sl ++ tp)).Nodup
  out : ∀ a ∈ TA.fpl (sl ++ tp), Hs a = none
  sub : Same Hs H
  keep : ∀ a o, B.H0 a = some o → a ∉ B.A0 → H a = some o
  fresh : ∀ a ∈ TA.fpl (sl ++ tp), a ∈ B.A0 ∨ B.H0 a = none
  hs : Same B.Hs0 Hs
  hsNew : ∀ a, Hs a ≠ none → B.Hs0 a ≠ none ∨ a ∈ B.A0 ∨ B.H0 a = none
  ntup : ∀ t ∈ sl, t.noTup = true
  pin : ∀ p ∈ B.pin, p.1 ∈ B.ix ∧ ∃ t, sl[p.1]? = some t ∧ t.v = p.2 ∧ σ[p.1]? = some (some p.2)
  tab : TabsV K Hs H
  tabB : ∀ a ∈ tabA K, a ∈ B.A0
section
variable {K : PySem.W.Frag} {B : Bs} {Hs H Hs' H' : Hp} {σ σ' : L2.St} {sl sl' tp tp' ts xs : List TA} {t c s x : TA} {p : Addr} {i : Nat}
theorem Rel.no_tab (R : Rel K B Hs H σ sl tp) {a : Addr} (h : a ∈ TA.fpl (sl ++ tp)) : a ∉ tabA K := fun z => by
  obtain ⟨ps, e⟩ := R.tab.some_ z
  exact TA.fpl_tbl _ R.ok a h ps e
theorem fpl_mem {ts : List TA} {t : TA} {a : Addr} (h : t ∈ ts) (ha : a ∈ t.fp) : a ∈ TA.fpl ts := by
  rw [TA.fpl_flat]
  exact List.mem_flatMap.mpr ⟨t, h, ha⟩
theorem fpl_one (t : TA) : TA.fpl [t] = t.fp := by rw [TA.fpl, TA.fpl, List.append_nil]
theorem Rel.some_of (R : Rel K B Hs H σ sl tp) {a : Addr} (h : a ∈ TA.fpl (sl ++ tp)) : H a ≠ none := TA.fpl_some _ R.ok a h
theorem Rel.not_new (R : Rel K B Hs H σ sl tp) (hp : H p = none) : p ∉ TA.fpl (sl ++ tp) := fun h => R.some_of h hp
theorem Rel.new_free (R : Rel K B Hs H σ sl tp) (hp : H p = none) : p ∈ B.A0 ∨ B.H0 p = none := by
  cases q : B.H0 p with
  | none => exact .inr rfl
  | some o =>
    by_cases ha : p ∈ B.A0
    · exact .inl ha
    · have := R.keep p o q ha
      rw [hp] at this
      cases this
theorem Rel.hs_none (R : Rel K B Hs H σ sl tp) (hp : H p = none) : Hs p = none := R.sub.free hp
theorem same_upd {H : Hp} {p : Addr} {o : HO} (h : H p = none) : Same H (upd H p o) := fun b x e => by
  rw [upd_ne (ne_of_none e h)]
  exact e
theorem same_upd2 {Hs H : Hp} {p : Addr} {o : HO} (e : Same Hs H) : Same (upd Hs p o) (upd H p o) := fun b x h => by
  by_cases hb : b = p
  · subst hb; rw [upd_same] at h ⊢; exact h
  · rw [upd_ne hb] at h ⊢; exact e b x h
/-- a new frozen object -/
theorem Rel.allocF (R : Rel K B Hs H σ sl tp) (hp : H p = none) (o : HO) : Rel K B (upd Hs p o) (upd H p o) σ sl tp := by
  have hn := R.not_new hp
  have hne : ∀ a ∈ TA.fpl (sl ++ tp), a ≠ p := fun a ha e => hn (e ▸ ha)
  refine ⟨R.len, R.val, TA.okl_mono (same_upd (R.hs_none hp)) _ R.ok fun a ha => upd_ne (hne a ha), R.uq, fun a ha => by rw [upd_ne (hne a ha)]; exact R.out a ha,
    same_upd2 R.sub, fun a u h1 h2 => by rw [upd_ne (ne_of_none (R.keep a u h1 h2) hp)]; exact R.keep a u h1 h2, R.fresh, R.hs.trans (same_upd (R.hs_none hp)), fun a ha => ?_, R.ntup, R.pin, R.tab.grow (same_upd hp) (same_upd (R.hs_none hp)) (R.tab.new hp), R.tabB⟩
  by_cases e : a = p
  · subst e; exact .inr (R.new_free hp)
  · rw [upd_ne e] at ha; exact R.hsNew a ha
/-- the heap grows by things that nobody here knows -/
theorem Rel.allocN (R : Rel K B Hs H σ sl tp) (hp : H p = none) (o : HO) : Rel K B Hs (upd H p o) σ sl tp := by
  have hn := R.not_new hp
  have hne : ∀ a ∈ TA.fpl (sl ++ tp), a ≠ p := fun a ha e => hn (e ▸ ha)
  exact ⟨R.len, R.val, TA.okl_mono (Same.refl _) _ R.ok fun a ha => upd_ne (hne a ha), R.uq, R.out,
    R.sub.trans (same_upd hp), fun a u h1 h2 => by rw [upd_ne (ne_of_none (R.keep a u h1 h2) hp)]; exact R.keep a u h1 h2, R.fresh, R.hs, R.hsNew, R.ntup, R.pin, R.tab.growH (same_upd hp), R.tabB⟩
/-- all but the tables stay -/
def ExtT (K : PySem.W.Frag) (H H' : Hp) : Prop := ∀ a o, H a = some o → a ∉ tabA K → H' a = some o
theorem ExtT.of {K : PySem.W.Frag} {H H' : Hp} (h : Same H H') : ExtT K H H' := fun a o e _ => h a o e
theorem ExtT.trans {K : PySem.W.Frag} {H H' H'' : Hp} (h : ExtT K H H') (k : ExtT K H' H'') : ExtT K H H'' := fun a o e n => k a o (h a o e n) n
theorem Rel.grow (R : Rel K B Hs H σ sl tp) (e : Same H H') : Rel K B Hs H' σ sl tp := by
  refine ⟨R.len, R.val, TA.okl_mono (Same.refl _) _ R.ok fun a ha => ?_, R.uq, R.out, R.sub.trans e, fun a u h1 h2 => e _ _ (R.keep a u h1 h2), R.fresh, R.hs, R.hsNew, R.ntup, R.pin, R.tab.growH e, R.tabB⟩
  cases q : H a with
  | none => exact absurd q (R.some_of ha)
  | some o => exact e _ _ q
/-- other temporaries, out of the ones there are -/
theorem Rel.temps (R : Rel K B Hs H σ sl tp) (ok : TA.okl K Hs H tp') (sub : ∀ a ∈ TA.fpl tp', a ∈ TA.fpl tp) (uq : (TA.fpl tp').Nodup) : Rel K B Hs H σ sl tp' := by
  have hsub : ∀ a ∈ TA.fpl (sl ++ tp'), a ∈ TA.fpl (sl ++ tp) := fun a ha => by
    rw [TA.fpl_append] at ha ⊢
    rcases List.mem_append.mp ha with z | z
    · exact List.mem_append_left _ z
    · exact List.mem_append_right _ (sub a z)
  have hu := R.uq
  rw [TA.fpl_append, List.nodup_append] at hu
  refine ⟨R.len, R.val, TA.okl_append.mpr ⟨(TA.okl_append.mp R.ok).1, ok⟩, ?_, fun a ha => R.out a (hsub a ha), R.sub, R.keep, fun a ha => R.fresh a (hsub a ha), R.hs, R.hsNew, R.ntup, R.pin, R.tab, R.tabB⟩
  rw [TA.fpl_append, List.nodup_append]
  exact ⟨hu.1, uq, fun a ha b hb => hu.2.2 a ha b (sub b hb)⟩
theorem Rel.okT (R : Rel K B Hs H σ sl tp) : TA.okl K Hs H tp := (TA.okl_append.mp R.ok).2
theorem Rel.okS (R : Rel K B Hs H σ sl tp) : TA.okl K Hs H sl := (TA.okl_append.mp R.ok).1
theorem Rel.uqT (R : Rel K B Hs H σ sl tp) : (TA.fpl tp).Nodup := by
  have hu := R.uq
  rw [TA.fpl_append, List.nodup_append] at hu
  exact hu.2.1
theorem Rel.uqS (R : Rel K B Hs H σ sl tp) : (TA.fpl sl).Nodup := by
  have hu := R.uq
  rw [TA.fpl_append, List.nodup_append] at hu
  exact hu.1
theorem Rel.drop (R : Rel K B Hs H σ sl (tp ++ ts)) : Rel K B Hs H σ sl tp := by
  refine R.temps (TA.okl_append.mp R.okT).1 (fun a ha => ?_) ?_
  · rw [TA.fpl_append]; exact List.mem_append_left _ ha
  · have := R.uqT
    rw [TA.fpl_append, List.nodup_append] at this
    exact this.1
theorem Rel.leaf {v : V} {y : PyData} (R : Rel K B Hs H σ sl tp) (h : Rp K Hs v y) : Rel K B Hs H σ sl (tp ++ [.d v y]) := by
  have e : TA.fpl (tp ++ [TA.d v y]) = TA.fpl tp := by rw [TA.fpl_append, fpl_one, TA.fp, List.append_nil]
  refine R.temps (TA.okl_append.mpr ⟨R.okT, ?_⟩) (fun a ha => by rw [e] at ha; exact ha) (by rw [e]; exact R.uqT)
  rw [TA.okl, TA.ok, TA.okl]
  exact ⟨h, trivial⟩
theorem Rel.child {k : Kd} {a : Addr} {j : Nat} (R : Rel K B Hs H σ sl (tp ++ [.nd k a ts])) (h : ts[j]? = some c) : Rel K B Hs H σ sl (tp ++ [c]) := by
  have ok := R.okT
  rw [TA.okl_append, TA.okl, TA.ok] at ok
  have uq := R.uqT
  rw [TA.fpl_append, fpl_one, TA.fp] at uq
  obtain ⟨l1, l2, rfl, _⟩ := getElem?_split h
  have sub : ∀ z ∈ c.fp, z ∈ TA.fpl (l1 ++ c :: l2) := fun z hz => fpl_mem (by simp) hz
  refine R.temps (TA.okl_append.mpr ⟨ok.1, ?_⟩) (fun z hz => ?_) ?_
  · rw [TA.okl, TA.okl]
    exact ⟨TA.okl_all.mp ok.2.1.2 c (by simp), trivial⟩
  · rw [TA.fpl_append, fpl_one] at hz ⊢
    rcases List.mem_append.mp hz with z' | z'
    · exact List.mem_append_left _ z'
    · exact List.mem_append_right _ (by rw [TA.fp]; exact List.mem_cons_of_mem _ (sub z z'))
  · rw [TA.fpl_append, fpl_one]
    rw [List.nodup_append] at uq ⊢
    refine ⟨uq.1, ?_, fun z hz w hw => uq.2.2 z hz w (List.mem_cons_of_mem _ (sub w hw))⟩
    have := (List.nodup_cons.mp uq.2.1).2
    rw [TA.fpl_append, TA.fpl, ← List.append_assoc] at this
    exact (nodup_mid this).2.1
theorem Rel.kids {k : Kd} {a : Addr} (R : Rel K B Hs H σ sl (tp ++ [.nd k a ts])) : Rel K B Hs H σ sl (tp ++ ts) := by
  have ok := R.okT
  rw [TA.okl_append, TA.okl, TA.ok] at ok
  have uq := R.uqT
  rw [TA.fpl_append, fpl_one, TA.fp] at uq
  refine R.temps (TA.okl_append.mpr ⟨ok.1, ok.2.1.2⟩) (fun z hz => ?_) ?_
  · rw [TA.fpl_append] at hz ⊢
    rw [fpl_one, TA.fp]
    rcases List.mem_append.mp hz with z' | z'
    · exact List.mem_append_left _ z'
    · exact List.mem_append_right _ (List.mem_cons_of_mem _ z')
  · rw [TA.fpl_append]
    rw [List.nodup_append] at uq ⊢
    exact ⟨uq.1, (List.nodup_cons.mp uq.2.1).2, fun z hz w hw => uq.2.2 z hz w (List.mem_cons_of_mem _ hw)⟩
/-- a new node of one's own, out of temporaries -/
theorem Rel.allocO {k : Kd} {o : HO} (R : Rel K B Hs H σ sl (tp ++ ts)) (hp : H p = none) (h : k.at (upd H p o) p (ts.map TA.v)) : Rel K B Hs (upd H p o) σ sl (tp ++ [.nd k p ts]) := by
  have R' := R.allocN hp o
  have hn := R.not_new hp
  have ok := R'.okT
  rw [TA.okl_append] at ok
  have e1 : TA.fpl (sl ++ (tp ++ [.nd k p ts])) = TA.fpl sl ++ (TA.fpl tp ++ p :: TA.fpl ts) := by rw [TA.fpl_append, TA.fpl_append, fpl_one, TA.fp]
  have e2 : TA.fpl (sl ++ (tp ++ ts)) = TA.fpl sl ++ (TA.fpl tp ++ TA.fpl ts) := by rw [TA.fpl_append, TA.fpl_append]
  have pm : (TA.fpl (sl ++ (tp ++ [.nd k p ts]))).Perm (p :: TA.fpl (sl ++ (tp ++ ts))) := by
    rw [e1, e2, ← List.append_assoc, ← List.append_assoc]
    exact List.perm_middle
  have mem : ∀ a ∈ TA.fpl (sl ++ (tp ++ [.nd k p ts])), a = p ∨ a ∈ TA.fpl (sl ++ (tp ++ ts)) := fun a ha => List.mem_cons.mp (pm.mem_iff.mp ha)
  refine ⟨R'.len, R'.val, TA.okl_append.mpr ⟨R'.okS, TA.okl_append.mpr ⟨ok.1, ?_⟩⟩, pm.nodup_iff.mpr (List.nodup_cons.mpr ⟨hn, R.uq⟩), fun a ha => ?_, R'.sub, R'.keep, fun a ha => ?_, R'.hs, R'.hsNew, R'.ntup, R'.pin, R'.tab, R'.tabB⟩
  · rw [TA.okl, TA.ok, TA.okl]
    exact ⟨⟨h, ok.2⟩, trivial⟩
  · rcases mem a ha with rfl | z
    · exact R.hs_none hp
    · exact R.out a z
  · rcases mem a ha with rfl | z
    · exact R.new_free hp
    · exact R.fresh a z
/-- the shared heap with some of the owned objects in it -/
def frzH (Hs H : Hp) (A : List Addr) : Hp := fun a => if a ∈ A then H a else Hs a
theorem frzH_same {A : List Addr} (h : ∀ a ∈ A, Hs a = none) : Same Hs (frzH Hs H A) := fun a o e => by
  unfold frzH
  rw [if_neg]
  · exact e
  · intro z
    rw [h a z] at e
    cases e
theorem frzH_sub {A : List Addr} (h : Same Hs H) : Same (frzH Hs H A) H := fun a o e => by
  unfold frzH at e
  split at e
  · exact e
  · exact h a o e
/-- a whole tree as data of a heap that holds it -/
theorem TA.reads_frz (e : Same Hs H) (t : TA) {y : PyData} (ok : t.ok K Hs H) (hy : t.t.data = some y) (out : ∀ a ∈ t.fp, Hs a = none) : Rp K (frzH Hs H t.fp) t.v y := by
  refine TA.reads (frzH_same out) t y (TA.ok_mono (Same.refl _) t ok fun a ha => ?_) hy
  unfold frzH
  rw [if_pos ha]
/-- freezing: general -/
theorem Rel.frz {A : List Addr} (R : Rel K B Hs H σ sl tp) (hA : ∀ a ∈ A, a ∈ TA.fpl (sl ++ tp)) (len : sl'.length = σ.length)
    (val : ∀ (i : Nat) (t : TA), sl'[i]? = some t → t.isDead = false → σ[i]? = some (some t.v)) (ok : TA.okl K (frzH Hs H A) H (sl' ++ tp')) (uq : (TA.fpl (sl' ++ tp')).Nodup)
    (sub : ∀ a ∈ TA.fpl (sl' ++ tp'), a ∈ TA.fpl (sl ++ tp) ∧ a ∉ A) (nt : ∀ t ∈ sl', t.noTup = true) (pin : ∀ p ∈ B.pin, p.1 ∈ B.ix ∧ ∃ t, sl'[p.1]? = some t ∧ t.v = p.2 ∧ σ[p.1]? = some (some p.2)) : Rel K B (frzH Hs H A) H σ sl' tp' := by
  refine ⟨len, val, ok, uq, fun a ha => ?_, frzH_sub R.sub, R.keep, fun a ha => R.fresh a (sub a ha).1, R.hs.trans (frzH_same fun a ha => R.out a (hA a ha)), fun a ha => ?_, nt, pin, R.tab.grow (Same.refl _) (frzH_same fun a ha => R.out a (hA a ha)) (fun a ha => by unfold frzH; rw [if_neg fun z => R.no_tab (hA a z) ha]; exact R.tab.n a ha), R.tabB⟩
  · unfold frzH
    rw [if_neg (sub a ha).2]
    exact R.out a (sub a ha).1
  · unfold frzH at ha
    split at ha
    · rename_i z
      exact .inr (R.fresh a (hA a z))
    · exact R.hsNew a ha
theorem Rel.frzT {y : PyData} (R : Rel K B Hs H σ sl (tp ++ [t])) (hy : t.t.data = some y) : Rel K B (frzH Hs H t.fp) H σ sl (tp ++ [.d t.v y]) := by
  have hin : ∀ a ∈ t.fp, a ∈ TA.fpl (sl ++ (tp ++ [t])) := fun a ha => fpl_mem (by simp) ha
  have ok := TA.okl_append.mp R.ok
  have okt := TA.okl_append.mp ok.2
  have okt' : t.ok K Hs H := by have := okt.2; rw [TA.okl] at this; exact this.1
  have uq := R.uq
  rw [TA.fpl_append, TA.fpl_append, fpl_one, ← List.append_assoc, List.nodup_append] at uq
  have e1 : TA.fpl (sl ++ (tp ++ [TA.d t.v y])) = TA.fpl sl ++ TA.fpl tp := by rw [TA.fpl_append, TA.fpl_append, fpl_one, TA.fp, List.append_nil]
  have sm : Same Hs (frzH Hs H t.fp) := frzH_same fun a ha => R.out a (hin a ha)
  refine R.frz hin R.len R.val (TA.okl_append.mpr ⟨TA.okl_mono sm _ ok.1 fun _ _ => rfl, TA.okl_append.mpr ⟨TA.okl_mono sm _ okt.1 fun _ _ => rfl, ?_⟩⟩) (by rw [e1]; exact uq.1) (fun a ha => ?_) R.ntup R.pin
  · rw [TA.okl, TA.ok, TA.okl]
    exact ⟨TA.reads_frz R.sub t okt' hy fun a ha => R.out a (hin a ha), trivial⟩
  · rw [e1] at ha
    refine ⟨?_, fun z => uq.2.2 a ha a z rfl⟩
    rw [TA.fpl_append, TA.fpl_append, ← List.append_assoc]
    exact List.mem_append_left _ ha
theorem set_pre {α : Type} {l : List α} {i : Nat} {x y : α} (h : l[i]? = some x) : ∃ l1 l2, l = l1 ++ x :: l2 ∧ l.set i y = l1 ++ y :: l2 ∧ l1.length = i := by
  obtain ⟨l1, l2, rfl, rfl⟩ := getElem?_split h
  exact ⟨l1, l2, rfl, set_split, rfl⟩
theorem Rel.lens {q : List Nat} (h : sl[i]? = some t) (hc : t.at q = some c) : ∃ l1 l2, TA.fpl (sl ++ tp) = l1 ++ c.fp ++ l2 ∧ ∀ s : TA, TA.fpl (sl.set i (t.put s q) ++ tp) = l1 ++ s.fp ++ l2 := by
  obtain ⟨m1, m2, e1, e2⟩ := TA.lens q t c hc
  obtain ⟨u1, u2, eu, -, hu⟩ := set_pre (y := t) h
  refine ⟨TA.fpl u1 ++ m1, m2 ++ TA.fpl u2 ++ TA.fpl tp, ?_, fun s => ?_⟩
  · rw [eu, TA.fpl_append, TA.fpl_append, TA.fpl, e1]
    simp
  · rw [eu, ← hu, set_split, TA.fpl_append, TA.fpl_append, TA.fpl, e2]
    simp
theorem Rel.slot_ok (R : Rel K B Hs H σ sl tp) (h : sl[i]? = some t) : t.ok K Hs H := TA.okl_all.mp R.okS t (List.mem_of_getElem? h)
theorem Rel.slot_uq (R : Rel K B Hs H σ sl tp) (h : sl[i]? = some t) : t.fp.Nodup := by
  obtain ⟨l1, l2, e1, _⟩ := Rel.lens (tp := tp) (q := []) h rfl
  have := R.uq
  rw [e1] at this
  exact (nodup_mid this).2.1
/-- slots with a tree exchanged at a place for one of the same value: val, pin -/
theorem Rel.put_val {q : List Nat} (R : Rel K B Hs H σ sl tp) (h : sl[i]? = some t) (hc : t.at q = some c) (hv : s.v = c.v) (hdd : q = [] → s.isDead = false → σ[i]? = some (some s.v)) : (∀ (j : Nat) (u : TA), (sl.set i (t.put s q))[j]? = some u → u.isDead = false → σ[j]? = some (some u.v)) ∧
    ∀ p ∈ B.pin, p.1 ∈ B.ix ∧ ∃ u, (sl.set i (t.put s q))[p.1]? = some u ∧ u.v = p.2 ∧ σ[p.1]? = some (some p.2) := by
  have hi : i < sl.length := (List.getElem?_eq_some_iff.mp h).1
  have ev : (t.put s q).v = t.v := TA.put_v s q t c hc hv
  refine ⟨fun j u hu hud => ?_, fun p hp => ?_⟩
  · by_cases hj : j = i
    · subst hj
      rw [List.getElem?_set_self hi] at hu
      cases hu
      cases q with
      | nil => exact hdd rfl hud
      | cons m q =>
        rw [ev]
        refine R.val _ t h ?_
        cases t with
        | dead _ => cases hc
        | d v x => rfl
        | nd k a ts => rfl
    · rw [List.getElem?_set_ne (Ne.symm hj)] at hu
      exact R.val j u hu hud
  · obtain ⟨hx, u, h1, h3⟩ := R.pin p hp
    refine ⟨hx, ?_⟩
    by_cases hj : p.1 = i
    · rw [hj] at h1
      rw [h] at h1
      cases h1
      exact ⟨_, by rw [hj]; exact List.getElem?_set_self hi, by rw [ev]; exact h3.1, h3.2⟩
    · exact ⟨u, by rw [List.getElem?_set_ne (Ne.symm hj)]; exact h1, h3⟩
/-- something is done to the object at a place -/
theorem Rel.put {q : List Nat} (R : Rel K B Hs H σ sl (tp ++ xs)) (h : sl[i]? = some t) (hc : t.at q = some c) (hv : s.v = c.v) (hdd : q = [] → s.isDead = false → σ[i]? = some (some s.v)) (hn : s.noTup = true)
    (hH : ∀ a, a ∉ c.fp → H' a = H a) (ok : s.ok K Hs H') (uq : s.fp.Nodup) (sub : ∀ a ∈ s.fp, a ∈ c.fp ∨ a ∈ TA.fpl xs) : Rel K B Hs H' σ (sl.set i (t.put s q)) tp := by
  obtain ⟨l1, l2, e1, e2⟩ := Rel.lens (tp := tp ++ xs) h hc
  obtain ⟨m1, m2, f1, f2⟩ := Rel.lens (tp := tp) h hc
  have uq0 := R.uq
  rw [e1] at uq0
  have nm := nodup_mid uq0
  have hi : i < sl.length := (List.getElem?_eq_some_iff.mp h).1
  have hout : ∀ a ∈ c.fp, a ∈ TA.fpl (sl ++ (tp ++ xs)) := fun a ha => by rw [e1]; exact List.mem_append_left _ (List.mem_append_right _ ha)
  have hxs : ∀ a ∈ TA.fpl xs, a ∈ TA.fpl (sl ++ (tp ++ xs)) := fun a ha => by rw [TA.fpl_append, TA.fpl_append]; exact List.mem_append_right _ (List.mem_append_right _ ha)
  have hm : ∀ a ∈ m1 ++ m2, a ∉ c.fp ∧ a ∉ TA.fpl xs ∧ a ∈ TA.fpl (sl ++ (tp ++ xs)) := fun a ha => by
    have uq1 : (TA.fpl (sl ++ tp) ++ TA.fpl xs).Nodup := by rw [← TA.fpl_append, List.append_assoc]; exact R.uq
    rw [List.nodup_append] at uq1
    have hmem : a ∈ TA.fpl (sl ++ tp) := by
      rw [f1]
      rcases List.mem_append.mp ha with z | z
      · exact List.mem_append_left _ (List.mem_append_left _ z)
      · exact List.mem_append_right _ z
    have u2 := uq1.1
    rw [f1] at u2
    refine ⟨fun z => ?_, fun z => uq1.2.2 a hmem a z rfl, by rw [← List.append_assoc, TA.fpl_append]; exact List.mem_append_left _ hmem⟩
    have := (nodup_mid u2).1 a z
    rcases List.mem_append.mp ha with y | y
    · exact this.1 y
    · exact this.2 y
  have mem : ∀ a ∈ TA.fpl (sl.set i (t.put s q) ++ tp), a ∈ TA.fpl (sl ++ (tp ++ xs)) := fun a ha => by
    rw [f2 s] at ha
    rcases List.mem_append.mp ha with z | z
    · rcases List.mem_append.mp z with z | z
      · exact (hm a (List.mem_append_left _ z)).2.2
      · rcases sub a z with y | y
        · exact hout a y
        · exact hxs a y
    · exact (hm a (List.mem_append_right _ z)).2.2
  have uqS := R.uqS
  have same : Same Hs H' := fun a o e => by
    rw [hH a fun z => ?_]
    · exact R.sub a o e
    · rw [R.out a (hout a z)] at e
      cases e
  obtain ⟨pv1, pv2⟩ := R.put_val h hc hv hdd
  refine ⟨by rw [List.length_set]; exact R.len, pv1, ?_, ?_, fun a ha => R.out a (mem a ha), same, fun a o h1 h2 => ?_, fun a ha => R.fresh a (mem a ha), R.hs, R.hsNew, fun u hu => ?_, pv2, R.tab.to (fun a ps e => by rw [hH a fun z => TA.fpl_tbl _ R.ok a (hout a z) ps e]; exact e) (fun c q e => e) R.tab.n, R.tabB⟩
  · rw [TA.okl_append]
    constructor
    · refine TA.okl_all.mpr fun u hu => ?_
      obtain ⟨u1, u2, eu, es, hl⟩ := set_pre (y := t.put s q) h
      rw [es] at hu
      have okS := R.okS
      have uqS' := uqS
      rw [eu, TA.fpl_append, TA.fpl, ← List.append_assoc] at uqS'
      have nm' := nodup_mid uqS'
      obtain ⟨g1, g2, ge, _⟩ := TA.lens q t c hc
      have cin : ∀ a ∈ c.fp, a ∈ t.fp := fun a ha => by rw [ge]; exact List.mem_append_left _ (List.mem_append_right _ ha)
      have side : ∀ w : TA, w.ok K Hs H → (∀ a ∈ w.fp, a ∈ TA.fpl u1 ∨ a ∈ TA.fpl u2) → w.ok K Hs H' := fun w hw hz =>
        TA.ok_mono (Same.refl _) w hw fun a ha => hH a fun hc' => by
          have := nm'.1 a (cin a hc')
          rcases hz a ha with y | y
          · exact this.1 y
          · exact this.2 y
      rcases List.mem_append.mp hu with hu | hu
      · exact side u (TA.okl_all.mp okS u (by rw [eu]; exact List.mem_append_left _ hu)) fun a ha => .inl (fpl_mem hu ha)
      · rcases List.mem_cons.mp hu with rfl | hu
        · exact TA.put_ok (Same.refl _) s ok q t c hc hv (R.slot_ok h) (R.slot_uq h) fun a _ ha => hH a ha
        · exact side u (TA.okl_all.mp okS u (by rw [eu]; exact List.mem_append_right _ (List.mem_cons_of_mem _ hu))) fun a ha => .inr (fpl_mem hu ha)
    · refine TA.okl_mono (Same.refl _) _ (TA.okl_append.mp R.okT).1 fun a ha => hH a fun z => ?_
      have u1 := R.uq
      rw [← List.append_assoc, TA.fpl_append, List.nodup_append] at u1
      have u2 := u1.1
      rw [TA.fpl_append, List.nodup_append] at u2
      refine u2.2.2 a ?_ a ha rfl
      obtain ⟨g1, g2, ge, _⟩ := TA.lens q t c hc
      exact fpl_mem (List.mem_of_getElem? h) (by rw [ge]; exact List.mem_append_left _ (List.mem_append_right _ z))
  · rw [f2 s]
    have u0 : (TA.fpl (sl ++ tp)).Nodup := by
      have := R.uq
      rw [← List.append_assoc, TA.fpl_append, List.nodup_append] at this
      exact this.1
    rw [f1] at u0
    have nn := (nodup_mid u0).2.2
    rw [List.nodup_append] at nn
    have dis : ∀ a ∈ s.fp, a ∉ m1 ∧ a ∉ m2 := fun a ha => by
      refine ⟨fun z => ?_, fun z => ?_⟩
      · have := hm a (List.mem_append_left _ z)
        rcases sub a ha with y | y
        · exact this.1 y
        · exact this.2.1 y
      · have := hm a (List.mem_append_right _ z)
        rcases sub a ha with y | y
        · exact this.1 y
        · exact this.2.1 y
    rw [List.append_assoc, List.nodup_append]
    refine ⟨nn.1, List.nodup_append.mpr ⟨uq, nn.2.1, fun a ha b hb e => (dis a ha).2 (e ▸ hb)⟩, fun a ha b hb e => ?_⟩
    rcases List.mem_append.mp hb with y | y
    · exact (dis b y).1 (e ▸ ha)
    · exact nn.2.2 a ha b y e
  · by_cases z : a ∈ c.fp
    · rcases R.fresh a (hout a z) with y | y
      · exact absurd y h2
      · rw [h1] at y; cases y
    · rw [hH a z]
      exact R.keep a o h1 h2
  · rcases mem_set_or hu with rfl | hu
    · exact TA.put_noTup s hn q t (R.ntup t (List.mem_of_getElem? h))
    · exact R.ntup u hu
/-- the object at a place is frozen -/
theorem Rel.frzP {q : List Nat} {y : PyData} (R : Rel K B Hs H σ sl tp) (h : sl[i]? = some t) (hc : t.at q = some c) (hcd : c.isDead = false) (hy : c.t.data = some y) :
    Rel K B (frzH Hs H c.fp) H σ (sl.set i (t.put (.d c.v y) q)) tp ∧ Rp K (frzH Hs H c.fp) c.v y := by
  obtain ⟨l1, l2, e1, e2⟩ := Rel.lens (tp := tp) h hc
  have uq := R.uq
  rw [e1] at uq
  have nm := nodup_mid uq
  have hin : ∀ a ∈ c.fp, a ∈ TA.fpl (sl ++ tp) := fun a ha => by rw [e1]; exact List.mem_append_left _ (List.mem_append_right _ ha)
  have sm : Same Hs (frzH Hs H c.fp) := frzH_same fun a ha => R.out a (hin a ha)
  have okc : c.ok K Hs H := TA.at_ok q t c hc (R.slot_ok h)
  have dp : Rp K (frzH Hs H c.fp) c.v y := TA.reads_frz R.sub c okc hy fun a ha => R.out a (hin a ha)
  obtain ⟨pv1, pv2⟩ := R.put_val (s := .d c.v y) h hc rfl (fun e _ => by subst e; rw [TA.at] at hc; cases hc; exact R.val i t h hcd)
  have e3 : TA.fpl (sl.set i (t.put (.d c.v y) q) ++ tp) = l1 ++ l2 := by rw [e2, TA.fp, List.append_nil]
  refine ⟨R.frz hin (by rw [List.length_set]; exact R.len) pv1 ?_ (by rw [e3]; exact nm.2.2) (fun a ha => ?_) (fun u hu => ?_) pv2, dp⟩
  · refine TA.okl_append.mpr ⟨TA.okl_all.mpr fun u hu => ?_, TA.okl_mono sm _ R.okT fun _ _ => rfl⟩
    rcases mem_set_or hu with rfl | hu
    · exact TA.put_ok sm (.d c.v y) (by rw [TA.ok]; exact dp) q t c hc rfl (R.slot_ok h) (R.slot_uq h) fun _ _ _ => rfl
    · exact TA.ok_mono sm u (TA.okl_all.mp R.okS u hu) fun _ _ => rfl
  · rw [e3] at ha
    rw [e1]
    refine ⟨?_, fun z => ?_⟩
    · rcases List.mem_append.mp ha with y' | y'
      · exact List.mem_append_left _ (List.mem_append_left _ y')
      · exact List.mem_append_right _ y'
    · have := nm.1 a z
      rcases List.mem_append.mp ha with y' | y'
      · exact this.1 y'
      · exact this.2 y'
  · rcases mem_set_or hu with rfl | hu
    · exact TA.put_noTup _ rfl q t (R.ntup t (List.mem_of_getElem? h))
    · exact R.ntup u hu
/-- a temporary goes into a slot -/
theorem Rel.setS (R : Rel K B Hs H σ sl (tp ++ [x])) (hi : i < sl.length) (hpi : i ∉ B.ix) (hn : x.noTup = true) : Rel K B Hs H (σ.set i (some x.v)) (sl.set i x) tp := by
  have hg : sl[i]? = some sl[i] := List.getElem?_eq_getElem hi
  obtain ⟨u1, u2, eu, es, hl⟩ := set_pre (y := x) hg
  have e1 : TA.fpl (sl ++ (tp ++ [x])) = TA.fpl u1 ++ sl[i].fp ++ (TA.fpl u2 ++ TA.fpl tp ++ x.fp) := by
    conv => lhs; rw [eu]
    rw [TA.fpl_append, TA.fpl_append, TA.fpl, TA.fpl_append, fpl_one]
    simp
  have e2 : TA.fpl (sl.set i x ++ tp) = TA.fpl u1 ++ x.fp ++ (TA.fpl u2 ++ TA.fpl tp) := by
    rw [es, TA.fpl_append, TA.fpl_append, TA.fpl]
    simp
  have uq := R.uq
  rw [e1] at uq
  have nn := (nodup_mid uq).2.2
  have pm : (TA.fpl u1 ++ x.fp ++ (TA.fpl u2 ++ TA.fpl tp)).Perm (TA.fpl u1 ++ (TA.fpl u2 ++ TA.fpl tp ++ x.fp)) := by
    rw [List.append_assoc]
    exact List.Perm.append_left _ List.perm_append_comm
  have mem : ∀ a ∈ TA.fpl (sl.set i x ++ tp), a ∈ TA.fpl (sl ++ (tp ++ [x])) := fun a ha => by
    rw [e2] at ha
    rw [e1]
    have := pm.mem_iff.mp ha
    rcases List.mem_append.mp this with z | z
    · exact List.mem_append_left _ (List.mem_append_left _ z)
    · exact List.mem_append_right _ z
  have okT := TA.okl_append.mp R.okT
  have hiσ : i < σ.length := by rw [← R.len]; exact hi
  refine ⟨by rw [List.length_set, List.length_set]; exact R.len, fun j u hu hud => ?_, ?_, by rw [e2]; exact pm.nodup_iff.mpr nn, fun a ha => R.out a (mem a ha), R.sub, R.keep, fun a ha => R.fresh a (mem a ha), R.hs, R.hsNew, fun u hu => ?_, fun p hp' => ?_, R.tab, R.tabB⟩
  · by_cases hj : j = i
    · subst hj
      rw [List.getElem?_set_self hi] at hu
      cases hu
      rw [List.getElem?_set_self hiσ]
    · rw [List.getElem?_set_ne (Ne.symm hj)] at hu ⊢
      exact R.val j u hu hud
  · refine TA.okl_append.mpr ⟨TA.okl_all.mpr fun u hu => ?_, okT.1⟩
    rcases mem_set_or hu with rfl | hu
    · have := okT.2
      rw [TA.okl] at this
      exact this.1
    · exact TA.okl_all.mp R.okS u hu
  · rcases mem_set_or hu with rfl | hu
    · exact hn
    · exact R.ntup u hu
  · obtain ⟨hx, u, h1, h2⟩ := R.pin p hp'
    exact ⟨hx, u, by rw [List.getElem?_set_ne (fun z => hpi (by rw [z]; exact hx))]; exact h1, h2.1, by rw [List.getElem?_set_ne (fun z => hpi (by rw [z]; exact hx))]; exact h2.2⟩
/-- a slot's content put by, the slot dead -/
theorem Rel.hide (R : Rel K B Hs H σ sl tp) (h : sl[i]? = some t) (hpi : i ∉ B.ix) (hl : σ'.length = σ.length) (hσ : ∀ j, j ≠ i → σ'[j]? = σ[j]?) : Rel K B Hs H σ' (sl.set i (.dead .non)) (tp ++ [t]) := by
  have hi : i < sl.length := (List.getElem?_eq_some_iff.mp h).1
  obtain ⟨u1, u2, eu, es, hl'⟩ := set_pre (y := TA.dead .non) h
  have e1 : TA.fpl (sl ++ tp) = TA.fpl u1 ++ t.fp ++ (TA.fpl u2 ++ TA.fpl tp) := by
    conv => lhs; rw [eu]
    rw [TA.fpl_append, TA.fpl_append, TA.fpl]
    simp
  have e2 : TA.fpl (sl.set i (.dead .non) ++ (tp ++ [t])) = TA.fpl u1 ++ ((TA.fpl u2 ++ TA.fpl tp) ++ t.fp) := by
    rw [es, TA.fpl_append, TA.fpl_append, TA.fpl, TA.fpl_append, fpl_one, TA.fp]
    simp
  have pm : (TA.fpl (sl.set i (.dead .non) ++ (tp ++ [t]))).Perm (TA.fpl (sl ++ tp)) := by
    rw [e1, e2, List.append_assoc (TA.fpl u1) t.fp]
    exact List.Perm.append_left _ List.perm_append_comm
  have mem : ∀ a, a ∈ TA.fpl (sl.set i (.dead .non) ++ (tp ++ [t])) → a ∈ TA.fpl (sl ++ tp) := fun a => pm.mem_iff.mp
  refine ⟨by rw [List.length_set, hl]; exact R.len, fun j u hu hud => ?_, ?_, pm.nodup_iff.mpr R.uq, fun a ha => R.out a (mem a ha), R.sub, R.keep, fun a ha => R.fresh a (mem a ha), R.hs, R.hsNew, fun u hu => ?_, fun p hp' => ?_, R.tab, R.tabB⟩
  · by_cases hj : j = i
    · subst hj
      rw [List.getElem?_set_self hi] at hu
      cases hu
      cases hud
    · rw [List.getElem?_set_ne (Ne.symm hj)] at hu
      rw [hσ j hj]
      exact R.val j u hu hud
  · refine TA.okl_append.mpr ⟨TA.okl_all.mpr fun u hu => ?_, TA.okl_append.mpr ⟨R.okT, ?_⟩⟩
    · rcases mem_set_or hu with rfl | hu
      · rw [TA.ok]; trivial
      · exact TA.okl_all.mp R.okS u hu
    · rw [TA.okl, TA.okl]
      exact ⟨R.slot_ok h, trivial⟩
  · rcases mem_set_or hu with rfl | hu
    · rfl
    · exact R.ntup u hu
  · obtain ⟨hx, u, h1, h2⟩ := R.pin p hp'
    exact ⟨hx, u, by rw [List.getElem?_set_ne (fun z => hpi (by rw [z]; exact hx))]; exact h1, h2.1, by rw [hσ _ (fun z => hpi (by rw [← z]; exact hx))]; exact h2.2⟩
/-- and back again -/
theorem Rel.unhide (R : Rel K B Hs H σ' sl (tp ++ [t])) (hi : i < sl.length) (hpi : i ∉ B.ix) (hn : t.noTup = true) (hl : σ'.length = σ.length) (hσ : ∀ j, j ≠ i → σ'[j]? = σ[j]?) (ht : t.isDead = false → σ[i]? = some (some t.v)) : Rel K B Hs H σ (sl.set i t) tp := by
  have R1 := R.setS hi hpi hn
  refine ⟨by rw [List.length_set]; exact R.len.trans hl, fun j u hu hud => ?_, R1.ok, R1.uq, R1.out, R1.sub, R1.keep, R1.fresh, R1.hs, R1.hsNew, R1.ntup, fun p hp => by
    obtain ⟨hx, u, h1, h2, h3⟩ := R1.pin p hp
    have hne : p.1 ≠ i := fun z => hpi (by rw [← z]; exact hx)
    rw [List.getElem?_set_ne (Ne.symm hne)] at h3
    exact ⟨hx, u, h1, h2, by rw [← hσ _ hne]; exact h3⟩, R1.tab, R1.tabB⟩
  by_cases hj : j = i
  · subst hj
    rw [List.getElem?_set_self hi] at hu
    cases hu
    exact ht hud
  · rw [List.getElem?_set_ne (Ne.symm hj)] at hu
    rw [← hσ j hj]
    exact R.val j u hu hud
end
/-- a branch -/
def br (z : Bool) (A B : Prop) : Prop := (z = true → A) ∧ (z = false → B)
theorem br_t {A B : Prop} : br true A B = A := propext ⟨fun h => h.1 rfl, fun h => ⟨fun _ => h, fun z => by cases z⟩⟩
theorem br_f {A B : Prop} : br false A B = B := propext ⟨fun h => h.2 rfl, fun h => ⟨fun z => (by cases z), fun _ => h⟩⟩
inductive BOp where | add | sub | mul | fdiv | mod | pow | shl | shr | band deriving DecidableEq
inductive COp where | lt | le | gt | ge | eq | ne | isin | notin | is | isnot deriving DecidableEq
inductive Blt where | len | max | min | sum | abs | int | str | tuple | list | sorted | all | any | listRange deriving DecidableEq
inductive Mth where | append | insert | pop | clear | reverse | index | extend | count deriving DecidableEq
inductive ItK where | e | rng1 | rng2 | rng3 | rrng | enum | zip deriving DecidableEq
inductive Md where | own | bor deriving DecidableEq
mutual
/-- data, dicts among it -/
def layE : PyData → Bool
  | .list xs => layEs xs
  | .tuple xs => layEs xs
  | .dict kvs => layKv kvs
  | _ => true
def layEs : List PyData → Bool
  | [] => true
  | d :: ds => layE d && layEs ds
def layKv : List (PyData × PyData) → Bool
  | [] => true
  | (_, d) :: r => layE d && layKv r
end
inductive E where
  | var (i : Nat)
  | k (x : PyData)
  | glob (g : Str)
  | bin (op : BOp) (a b : E)
  | neg (a : E)
  | cmp (op : COp) (a b : E)
  | chain (op op' : COp) (a b c : E)
  | and (a b : E) | or (a b : E) | not (a : E)
  | ix (o i : E)
  | sl (lo hi : Bool) (o : E) (es : List E)
  | lst (es : List E) | tup (es : List E)
  | call (f : Str) (es : List E)
  | blt (b : Blt) (es : List E)
  | isi (a : E) (ty : String)
  | mth (m : Mth) (o : E) (es : List E)
  | lc (is : List Nat) (bor : Bool) (elt : E) (it : ItK) (ies : List E) (cond : List E)
  | rpr (a : E)
  | frz (e : E)
  | spl (o e : E)
  | jn (o e : E)
  | ind (neg : Bool) (a b : E)
inductive S where
  | asg (i : Nat) (e : E)
  | unp (is : List Nat) (e : E)
  | setix (o i e : E)
  | augix (op : BOp) (o i : E) (y : Int)
  | rse
  | ex (e : E)
  | ret (e : E)
  | retm (es : List E)
  | ife (c : E) (a b : List S)
  | for_ (is : List Nat) (it : ItK) (ies : List E) (body : List S)
abbrev St := List T
inductive R where
  | v (t : T)
  | p (i : Nat) (q : List Nat)
structure FS where
  md : List Md
  F : List T → (T → List T → Prop) → Prop
/-- a method that changes nothing, of a class: its promise about its result, which is data -/
structure PMd where
  c : Str
  md : List Md
  F : List T → (PyData → Prop) → Prop
/-- a class: where it stands, its methods (self is the first argument; __init__ among them), the names of its fields -/
structure CI where
  C : Addr
  mt : List (Str × FS)
  fld : List Str
/-- a class of exceptions: where it stands; which classes its exceptions are of, and are not -/
structure XI where
  C : Addr
  is : List (Str × Bool)
structure Ctx where
  fn : List (Str × FS)
  glob : List (Str × PyData)
  bs : List Str
  pin : List Nat
  cls : List (Str × CI) := []
  xfn : List (Str × FS) := []
  xcls : List (Str × CI) := []
  xc : List (Str × XI) := []
  pms : List (Str × PMd) := []
  lam : Bool := false
/-- the names of a context: all that the checker looks at -/
structure Sk where
  fn : List Str
  bs : List Str
  pin : List Nat
  cls : List (Str × List Str × List Str)
  xfn : List Str
  xcls : List (Str × List Str × List Str)
  xc : List (Str × List Str)
  pms : List (Str × Str)
  lam : Bool
def Ctx.sk (Γ : Ctx) : Sk := ⟨Γ.fn.map (·.1), Γ.bs, Γ.pin, Γ.cls.map (fun c => (c.1, c.2.mt.map (·.1), c.2.fld)), Γ.xfn.map (·.1), Γ.xcls.map (fun c => (c.1, c.2.mt.map (·.1), c.2.fld)), Γ.xc.map (fun c => (c.1, c.2.is.map (·.1))), Γ.pms.map (fun p => (p.1, p.2.c)), Γ.lam⟩
def R.get (r : R) (σ : St) : Option T := match r with
  | .v t => some t
  | .p i q => match σ[i]? with
    | some t => t.at q
    | none => none
def R.top : R → Bool
  | .v _ => true
  | .p _ [] => true
  | .p _ (_ :: _) => false
def R.isP : R → Bool
  | .v _ => false
  | .p _ _ => true
def R.data (r : R) (σ : St) : Option PyData := match r.get σ with
  | some t => t.data
  | none => none
def putS (σ : St) (i : Nat) (q : List Nat) (s : T) : St := match σ[i]? with
  | some t => σ.set i (t.put s q)
  | none => σ
/-- a value to be kept: what is seen at a place is frozen there -/
def toV (pu : Bool) (r : R) (σ : St) (K : T → St → Prop) : Prop := match r with
  | .v t => K t σ
  | .p i q => pu = false ∧ match (R.p i q).data σ with
    | some x => K (.d x) (putS σ i q (.d x))
    | none => False
def toVs (pu : Bool) : List R → St → (List T → St → Prop) → Prop
  | [], σ, K => K [] σ
  | r :: rs, σ, K => toV pu r σ fun t σ1 => toVs pu rs σ1 fun ts σ2 => K (t :: ts) σ2
def T.leaves : List T → Option (List PyData)
  | [] => some []
  | .d x :: r => match T.leaves r with
    | some xs => some (x :: xs)
    | none => none
  | _ :: _ => none
/-- the items of a list, to stand in a new one -/
def R.kids (r : R) (σ : St) : Option (List T) := match r.get σ with
  | some (.d (.list xs)) => some (xs.map .d)
  | some (.nd .list ts) => match r with
    | .v _ => some ts
    | .p _ _ => if (T.leaves ts).isSome then some ts else none
  | _ => none
def T.truth : T → Option Bool
  | .d .none => some false
  | .d (.bool b) => some b
  | .d (.int i) => some (i != 0)
  | .d (.str s) => if s.length ≤ sizeLine then some ((s.length : Int) != 0) else none
  | .d (.list xs) => some (!xs.isEmpty)
  | .d (.tuple xs) => some (!xs.isEmpty)
  | .nd .list ts => some (!ts.isEmpty)
  | _ => none
def truW (r : R) (σ : St) (K : Bool → Prop) : Prop := match r.get σ with
  | some t => match t.truth with
    | some b => K b
    | none => False
  | none => False
def binI (op : BOp) (i j : Int) (K : Int → Prop) : Prop := match op with
  | .add => K (i + j)
  | .sub => K (i - j)
  | .mul => CMul i j ∧ K (i * j)
  | .fdiv => CDivW i j ∧ K (i / j)
  | .mod => 0 < j ∧ K (i % j)
  | .pow => CPow i j ∧ K (i ^ j.toNat)
  | .shl => CPow i j ∧ K (i * 2 ^ j.toNat)
  | .shr => 0 ≤ j ∧ K (i / 2 ^ j.toNat)
  | .band => K (Builtin.bitAnd i j)
def binW (op : BOp) (ra rb : R) (σ : St) (K : R → St → Prop) : Prop := match ra.get σ, rb.get σ with
  | some (.d (.int i)), some (.d (.int j)) => binI op i j fun z => K (.v (.d (.int z))) σ
  | some (.d (.str s)), some (.d (.str t)) => op = .add ∧ s.length + t.length ≤ sizeLine ∧ K (.v (.d (.str (s ++ t)))) σ
  | some (.d (.tuple xs)), some (.d (.tuple ys)) => op = .add ∧ xs.length + ys.length ≤ sizeLine ∧ K (.v (.d (.tuple (xs ++ ys)))) σ
  | some (.nd .list ts), some (.d (.int j)) => op = .mul ∧ match T.leaves ts with
    | some xs => -(2 ^ 63) ≤ j ∧ j < 2 ^ 63 ∧ xs.length * j.toNat ≤ sizeLine ∧ K (.v (.nd .list ((List.replicate j.toNat xs).flatten.map .d))) σ
    | none => False
  | _, _ => op = .add ∧ match ra.kids σ, rb.kids σ with
    | some ts, some us => ts.length + us.length ≤ sizeLine ∧ K (.v (.nd .list (ts ++ us))) σ
    | _, _ => False
def flatD : PyData → Bool
  | .none => true
  | .bool _ => true
  | .int _ => true
  | .str _ => true
  | _ => false
def eqW (x y : PyData) (K : Bool → Prop) : Prop := match x, y with
  | .int i, .int j => K (decide (i = j))
  | .str s, .str t => K (decide (s = t))
  | _, _ => SeqAt.shaped x = true ∧ SeqAt.shaped y = true ∧ K (PyData.eqv x y)
def inW (x y : PyData) (K : Bool → Prop) : Prop := match y with
  | .list xs => flatD x = true ∧ xs.all flatD = true ∧ K (xs.any fun z => PyData.eqv z x)
  | .tuple xs => flatD x = true ∧ xs.all flatD = true ∧ K (xs.any fun z => PyData.eqv z x)
  | .str s => match x with
    | .str t => K (!(Builtin.Str.occurrences s t 0 s.length 1).isEmpty)
    | _ => False
  | _ => False
def T.isNone : T → Bool
  | .d .none => true
  | _ => false
def isW (x y : T) (K : Bool → Prop) : Prop := match x, y with
  | .d (.bool a), .d (.bool b) => K (decide (a = b))
  | x, .d .none => K x.isNone
  | _, _ => False
def cmpI (op : COp) (i j : Int) (K : Bool → Prop) : Prop := match op with
  | .lt => K (decide (i < j))
  | .le => K (decide (i ≤ j))
  | .gt => K (decide (j < i))
  | .ge => K (decide (j ≤ i))
  | _ => False
def cmpW (op : COp) (ra rb : R) (σ : St) (K : Bool → Prop) : Prop := match op with
  | .eq => match ra.data σ, rb.data σ with
    | some x, some y => eqW x y K
    | _, _ => False
  | .ne => match ra.data σ, rb.data σ with
    | some x, some y => eqW x y fun b => K (!b)
    | _, _ => False
  | .isin => match ra.data σ, rb.data σ with
    | some x, some y => inW x y K
    | _, _ => False
  | .notin => match ra.data σ, rb.data σ with
    | some x, some y => inW x y fun b => K (!b)
    | _, _ => False
  | .is => match ra.get σ, rb.get σ with
    | some x, some y => isW x y K
    | _, _ => False
  | .isnot => match ra.get σ, rb.get σ with
    | some x, some y => isW x y fun b => K (!b)
    | _, _ => False
  | op => match ra.get σ, rb.get σ with
    | some (.d (.int i)), some (.d (.int j)) => cmpI op i j K
    | _, _ => False
def ixW (ro ri : R) (σ : St) (K : R → St → Prop) : Prop := match ro.get σ, ri.get σ with
  | some (.d (.list xs)), some (.d (.int i)) => match atI xs i with
    | some x => K (.v (.d x)) σ
    | none => False
  | some (.d (.tuple xs)), some (.d (.int i)) => match atI xs i with
    | some x => K (.v (.d x)) σ
    | none => False
  | some (.d (.str s)), some (.d (.int i)) => s.length ≤ sizeLine ∧ match atI s.cps.toList i with
    | some c => K (.v (.d (.str ⟨#[c]⟩))) σ
    | none => False
  | some (.nd .list ts), some (.d (.int i)) => match ixN ts.length i with
    | some j => match ts[j]? with
      | some (.d x) => K (.v (.d x)) σ
      | some (.nd k us) => match ro with
        | .v _ => K (.v (.nd k us)) σ
        | .p a q => K (.p a (q ++ [j])) σ
      | _ => False
    | none => False
  | some (.nd .tupw ts), some (.d (.int i)) => match ixN ts.length i with
    | some j => match ts[j]? with
      | some (.d x) => K (.v (.d x)) σ
      | some (.nd k us) => match ro with
        | .v _ => K (.v (.nd k us)) σ
        | .p a q => K (.p a (q ++ [j])) σ
      | _ => False
    | none => False
  | some (.nd .tup ts), some (.d (.int i)) => match ixN ts.length i with
    | some j => match ts[j]? with
      | some (.d x) => K (.v (.d x)) σ
      | _ => False
    | none => False
  | _, _ => False
def cutL {α : Type} (xs : List α) (lo hi : Option Int) : List α := (xs.drop (HT.sIx xs.length 0 lo)).take (HT.sIx xs.length xs.length hi - HT.sIx xs.length 0 lo)
/-- the items of a slice, to stand in a new list -/
def R.cut (r : R) (lo hi : Option Int) (σ : St) : Option (List T) := match r.get σ with
  | some (.d (.list xs)) => some (cutL (xs.map .d) lo hi)
  | some (.nd .list ts) => match r with
    | .v _ => some (cutL ts lo hi)
    | .p _ _ => if (T.leaves (cutL ts lo hi)).isSome then some (cutL ts lo hi) else none
  | _ => none
/-- texts -/
def strsD : List PyData → Option (List Str)
  | [] => some []
  | .str s :: r => (strsD r).map (s :: ·)
  | _ :: _ => none
def slW (ro : R) (lo hi : Option Int) (σ : St) (K : R → St → Prop) : Prop := match ro.get σ with
  | some (.d (.tuple xs)) => K (.v (.d (.tuple (cutL xs lo hi)))) σ
  | some (.d (.str z)) => z.length ≤ sizeLine ∧ K (.v (.d (.str (L2.cutS z lo hi)))) σ
  | _ => match ro.cut lo hi σ with
    | some ts => K (.v (.nd .list ts)) σ
    | none => False
/-- the bounds of a slice -/
def slArg (lo hi : Bool) (ns : List Int) (K : Option Int → Option Int → Prop) : Prop := match lo, hi, ns with
  | false, false, [] => K none none
  | true, false, [i] => K (some i) none
  | false, true, [i] => K none (some i)
  | true, true, [i, j] => K (some i) (some j)
  | _, _, _ => False
def mkTup (ts : List T) : T := match T.leaves ts with
  | some xs => .d (.tuple xs)
  | none => .nd .tup ts
mutual
/-- no list, no dict within: may be shared whatever is done -/
def immD : PyData → Bool
  | .none => true
  | .bool _ => true
  | .int _ => true
  | .str _ => true
  | .tuple xs => immDl xs
  | .list _ => false
  | .dict _ => false
def immDl : List PyData → Bool
  | [] => true
  | x :: xs => immD x && immDl xs
end
mutual
def T.flat : T → Bool
  | .dead => true
  | .d x => immD x
  | .nd _ ts => T.flatl ts
def T.flatl : List T → Bool
  | [] => true
  | t :: r => t.flat && T.flatl r
end
def passes : List Md → List R → St → Option (List T × Bool)
  | [], [], _ => some ([], false)
  | m :: ms, r :: rs, σ => match r.get σ, passes ms rs σ with
    | some (.d x), some (ts, b) => some (.d x :: ts, b)
    | some (.nd k us), some (ts, b) => match m with
      | .own => if r.isP || (T.nd k us).noTup then some (.nd k us :: ts, b) else none
      | .bor => match (T.nd k us).data with
        | some x => some (.d x :: ts, b || r.isP)
        | none => none
    | _, _ => none
  | _, _, _ => none
def backs : List Md → List R → List T → St → St
  | m :: ms, r :: rs, t :: ts, σ => match m, r with
    | .own, .p i q => putS (backs ms rs ts σ) i q t
    | _, _ => backs ms rs ts σ
  | _, _, _, σ => σ
/-- the slots that are handed in by place: those that may be changed, those that are lent -/
def ownPl : List Md → List R → List Nat
  | .own :: ms, .p i _ :: rs => i :: ownPl ms rs
  | _ :: ms, _ :: rs => ownPl ms rs
  | _, _ => []
def borPl : List Md → List R → List Nat
  | .bor :: ms, .p i _ :: rs => i :: borPl ms rs
  | _ :: ms, _ :: rs => borPl ms rs
  | _, _ => []
def apart (md : List Md) (rs : List R) : Bool := decide (ownPl md rs).Nodup && (borPl md rs).all fun i => !(ownPl md rs).contains i
def callW (fs : FS) (pu : Bool) (rs : List R) (σ : St) (K : R → St → Prop) : Prop := match passes fs.md rs σ with
  | some (ts, b) => apart fs.md rs = true ∧ (pu = true → fs.md.all (fun m => decide (m = .bor)) = true) ∧ fs.F ts fun r ts' => (b = true → r.flat = true ∧ T.flatl ts' = true) ∧ K (.v r) (backs fs.md rs ts' σ)
  | none => False
def intsOf : List PyData → Option (List Int)
  | [] => some []
  | .int i :: r => match intsOf r with
    | some ns => some (i :: ns)
    | none => none
  | _ :: _ => none
def boolsOf : List PyData → Option (List Bool)
  | [] => some []
  | .bool i :: r => match boolsOf r with
    | some ns => some (i :: ns)
    | none => none
  | _ :: _ => none
def maxL : List Int → Int
  | [] => 0
  | [x] => x
  | x :: y :: r => max x (maxL (y :: r))
def minL : List Int → Int
  | [] => 0
  | [x] => x
  | x :: y :: r => min x (minL (y :: r))
def sortI (ns : List Int) : List Int := ns.mergeSort fun a b => decide (a ≤ b)
def bltD (b : Blt) (xs : List PyData) (K : T → Prop) : Prop := match b, xs with
  | .max, [.list ys] => match intsOf ys with
    | some ns => ns ≠ [] ∧ K (.d (.int (maxL ns)))
    | none => False
  | .max, [.int i, .int j] => K (.d (.int (max i j)))
  | .min, [.list ys] => match intsOf ys with
    | some ns => ns ≠ [] ∧ K (.d (.int (minL ns)))
    | none => False
  | .min, [.int i, .int j] => K (.d (.int (min i j)))
  | .sum, [.list ys] => match intsOf ys with
    | some ns => K (.d (.int ns.sum))
    | none => False
  | .all, [.list ys] => match boolsOf ys with
    | some bs => K (.d (.bool (bs.all id)))
    | none => False
  | .any, [.list ys] => match boolsOf ys with
    | some bs => K (.d (.bool (bs.any id)))
    | none => False
  | .sorted, [.list ys] => match intsOf ys with
    | some ns => K (.nd .list ((sortI ns).map fun i => .d (.int i)))
    | none => False
  | .abs, [.int i] => K (.d (.int (if i < 0 then -i else i)))
  | .int, [.int i] => K (.d (.int i))
  | .int, [.bool k] => K (.d (.int (if k then 1 else 0)))
  | .int, [.str s] => match PySem.intText? s with
    | some n => s.length ≤ 640 ∧ K (.d (.int n))
    | none => False
  | .str, [.int i] => i.natAbs.log2 < 1920 ∧ K (.d (.str (toString i)))
  | .listRange, [.int j] => -(2 ^ 62) ≤ j ∧ j ≤ 1000000 ∧ K (.nd .list ((List.range j.toNat).map fun (n : Nat) => T.d (.int (n : Int))))
  | .len, [.str s] => s.length ≤ sizeLine ∧ K (.d (.int s.length))
  | .len, [.list ys] => K (.d (.int ys.length))
  | .len, [.tuple ys] => K (.d (.int ys.length))
  | _, _ => False
def R.datas (σ : St) : List R → Option (List PyData)
  | [] => some []
  | r :: rs => match r.data σ, R.datas σ rs with
    | some x, some xs => some (x :: xs)
    | _, _ => none
def bltW (b : Blt) (rs : List R) (σ : St) (K : R → St → Prop) : Prop := match b with
  | .list => match rs with
    | [r] => match r.get σ with
      | some (.d (.tuple xs)) => K (.v (.nd .list (xs.map .d))) σ
      | _ => match r.kids σ with
        | some ts => K (.v (.nd .list ts)) σ
        | none => False
    | _ => False
  | .tuple => match rs with
    | [r] => match r.get σ with
      | some (.d (.tuple xs)) => K (.v (.d (.tuple xs))) σ
      | some (.d (.list xs)) => K (.v (.d (.tuple xs))) σ
      | some (.nd .list ts) => match T.leaves ts with
        | some xs => K (.v (.d (.tuple xs))) σ
        | none => False
      | _ => False
    | _ => False
  | .len => match rs with
    | [r] => match r.get σ with
      | some (.nd .list ts) => K (.v (.d (.int ts.length))) σ
      | some (.nd .tupw ts) => K (.v (.d (.int ts.length))) σ
      | some (.d x) => bltD .len [x] fun t => K (.v t) σ
      | _ => False
    | _ => False
  | b => match R.datas σ rs with
    | some xs => bltD b xs fun t => K (.v t) σ
    | none => False
def tyName : T → Option String
  | .d .none => some "NoneType"
  | .d (.bool _) => some "bool"
  | .d (.int _) => some "int"
  | .d (.str _) => some "str"
  | .d (.list _) => some "list"
  | .d (.tuple _) => some "tuple"
  | .d (.dict _) => some "dict"
  | .nd .list _ => some "list"
  | .nd .tup _ => some "tuple"
  | .nd .tupw _ => some "tuple"
  | .nd (.dict _) _ => some "dict"
  | _ => none
def isiB (a b : String) : Bool := a == b || (a == "bool" && b == "int")
def isiW (r : R) (ty : String) (σ : St) (K : Bool → Prop) : Prop := match r.get σ with
  | some t => match tyName t with
    | some n => K (isiB n ty)
    | none => False
  | none => False
/-- something is done to a list at a place -/
def atList (r : R) (σ : St) (K : List T → (List T → St) → Prop) : Prop := match r with
  | .p i q => match r.get σ with
    | some (.nd .list ts) => K ts fun us => putS σ i q (.nd .list us)
    | _ => False
  | .v _ => False
/-- the object of a method is of its kind -/
def mtyW (m : Mth) (r : R) (σ : St) : Prop := match r.get σ with
  | some (.nd .list _) => True
  | some (.d (.list _)) => True
  | _ => False
def mthW (m : Mth) (pu : Bool) (rs : List R) (σ : St) (K : R → St → Prop) : Prop := match m, rs with
  | .append, [r, x] => pu = false ∧ toV pu x σ fun t σ1 => t.noTup = true ∧ match r with
    | .v (.nd .list ts) => ts.length < sizeLine ∧ K (.v (.d .none)) σ1
    | r => atList r σ1 fun ts bk => ts.length < sizeLine ∧ K (.v (.d .none)) (bk (ts ++ [t]))
  | .insert, [r, i, x] => pu = false ∧ toV pu x σ fun t σ1 => t.noTup = true ∧ atList r σ1 fun ts bk => ts.length < sizeLine ∧ match i.get σ1 with
    | some (.d (.int k)) => 0 ≤ k ∧ k < 2 ^ 63 ∧ K (.v (.d .none)) (bk (ts.take k.toNat ++ [t] ++ ts.drop k.toNat))
    | _ => False
  | .pop, [r] => pu = false ∧ atList r σ fun ts bk => match ts[ts.length - 1]? with
    | some t => t.isDead = false ∧ K (.v t) (bk ts.dropLast)
    | none => False
  | .clear, [r] => pu = false ∧ match r with
    | .v (.nd .list _) => K (.v (.d .none)) σ
    | r => atList r σ fun _ bk => K (.v (.d .none)) (bk [])
  | .reverse, [r] => pu = false ∧ atList r σ fun ts bk => K (.v (.d .none)) (bk ts.reverse)
  | .index, [r, x] => match r.data σ, x.data σ with
    | some (.list ys), some y => flatD y = true ∧ ys.all flatD = true ∧ match ys.findIdx? fun z => PyData.eqv z y with
      | some j => K (.v (.d (.int j))) σ
      | none => False
    | _, _ => False
  | .count, [r, x] => match r.data σ, x.data σ with
    | some (.list ys), some y => flatD y = true ∧ ys.all flatD = true ∧ K (.v (.d (.int ((ys.countP fun z => PyData.eqv z y : Nat) : Int)))) σ
    | _, _ => False
  | .extend, [r, x] => pu = false ∧ toV pu x σ fun t σ1 => match t with
    | .nd .list zs => atList r σ1 fun ts bk => ts.length + zs.length ≤ sizeLine ∧ T.noTupl zs = true ∧ K (.v (.d .none)) (bk (ts ++ zs))
    | _ => False
  | _, _ => False
/-- what a loop goes through -/
def rngL (i : Int) (n : Nat) : List PyData := (List.range n).map fun k => .int (i + (k : Nat))
def rngC (i c : Int) (n : Nat) : List PyData := (List.range n).map fun k => .int (i + (k : Nat) * c)
def inR (i : Int) : Prop := -(2 ^ 62) ≤ i ∧ i < 2 ^ 62
def enumL (xs : List PyData) : List PyData := (List.range xs.length).map fun k => .tuple [.int (k : Nat), xs.getD k .none]
def zipL (xs ys : List PyData) : List PyData := (List.range xs.length).map fun k => .tuple [xs.getD k .none, ys.getD k .none]
def seqW (pu bor : Bool) (r : R) (σ : St) (K : List PyData → St → Prop) : Prop := match r.get σ with
  | some (.d (.list xs)) => K xs σ
  | some (.nd .list ts) => match bor with
    | true => match T.leaves ts with
      | some xs => K xs σ
      | none => False
    | false => match (T.nd .list ts).data with
      | some (.list xs) => match r with
        | .v _ => K xs σ
        | .p i q => pu = false ∧ K xs (putS σ i q (.d (.list xs)))
      | _ => False
  | _ => False
def strIt (s : Str) : List PyData := s.cps.toList.map fun c => .str ⟨#[c]⟩
def itW (pu bor : Bool) (it : ItK) (rs : List R) (σ : St) (K : List PyData → St → Prop) : Prop := match it, rs with
  | .e, [r] => match r.get σ with
    | some (.d (.tuple xs)) => K xs σ
    | some (.d (.str s)) => K (strIt s) σ
    | _ => seqW pu bor r σ K
  | .enum, [r] => match r.get σ with
    | some (.d (.tuple xs)) => K (enumL xs) σ
    | _ => seqW pu bor r σ fun xs σ1 => K (enumL xs) σ1
  | .zip, [r, r'] => match r.get σ, r'.get σ with
    | some (.d (.list xs)), some (.d (.list ys)) => xs.length = ys.length ∧ K (zipL xs ys) σ
    | _, _ => False
  | .rng1, [r] => match r.get σ with
    | some (.d (.int j)) => inR j ∧ K (rngL 0 j.toNat) σ
    | _ => False
  | .rng2, [r, r'] => match r.get σ, r'.get σ with
    | some (.d (.int i)), some (.d (.int j)) => inR i ∧ inR j ∧ K (rngL i (j - i).toNat) σ
    | _, _ => False
  | .rng3, [r, r', r''] => match r.get σ, r'.get σ, r''.get σ with
    | some (.d (.int i)), some (.d (.int j)), some (.d (.int (-1))) => inR i ∧ inR j ∧ K (rngC i (-1) (i - j).toNat) σ
    | some (.d (.int i)), some (.d (.int j)), some (.d (.int c)) => ∃ n, RgC i j c n ∧ K (rngC i c n) σ
    | _, _, _ => False
  | .rrng, [r] => match r.get σ with
    | some (.d (.int j)) => inR j ∧ K (rngC ((j.toNat : Int) - 1) (-1) j.toNat) σ
    | _ => False
  | _, _ => False
/-- an item is given to its names -/
def setsD : List Nat → List PyData → St → Option St
  | [], [], σ => some σ
  | i :: is, x :: xs, σ => if i < σ.length then setsD is xs (σ.set i (.d x)) else none
  | _, _, _ => none
def bindD (is : List Nat) (x : PyData) (σ : St) : Option St := match is with
  | [i] => setsD [i] [x] σ
  | is => match x with
    | .tuple xs => setsD is xs σ
    | _ => none
def wipeT (σ : St) : List Nat → St
  | [] => σ
  | v :: vs => (wipeT σ vs).set v .dead
/-- the names as they were ahead of it -/
def restT (σ0 : St) : List Nat → St → St
  | [], σ => σ
  | i :: is, σ => restT σ0 is (σ.set i (σ0.getD i .dead))
def lcW (is : List Nat) (σ0 : St) (tst : St → (Bool → St → Prop) → Prop) (el : St → (T → St → Prop) → Prop) : List PyData → List T → St → (List T → St → Prop) → Prop
  | [], acc, σ, K => K acc σ
  | x :: xs, acc, σ, K => match bindD is x (wipeT σ is) with
    | some σ1 => tst σ1 fun b σ2 => br b (el σ2 fun t σ3 => acc.length < sizeLine ∧ lcW is σ0 tst el xs (acc ++ [t]) (restT σ0 is σ3) K) (lcW is σ0 tst el xs acc (restT σ0 is σ2) K)
    | none => False
def free (Γ : Ctx) (is : List Nat) : Bool := is.all fun i => !Γ.pin.contains i
mutual
def wE (Γ : Ctx) : Bool → E → St → (R → St → Prop) → Prop
  | pu, .var i, σ, K => match σ[i]? with
    | some (.d x) => K (.v (.d x)) σ
    | some (.nd _ _) => K (.p i []) σ
    | _ => False
  | pu, .k x, σ, K => K (.v (.d x)) σ
  | pu, .glob g, σ, K => match Γ.glob.lookup g with
    | some x => K (.v (.d x)) σ
    | none => False
  | pu, .bin op a b, σ, K => wE Γ pu a σ fun ra σ1 => wE Γ (pu || !ra.top) b σ1 fun rb σ2 => binW op ra rb σ2 K
  | pu, .neg a, σ, K => wE Γ pu a σ fun ra σ1 => match ra.get σ1 with
    | some (.d (.int i)) => K (.v (.d (.int (-i)))) σ1
    | _ => False
  | pu, .cmp op a b, σ, K => wE Γ pu a σ fun ra σ1 => wE Γ (pu || !ra.top) b σ1 fun rb σ2 => cmpW op ra rb σ2 fun z => K (.v (.d (.bool z))) σ2
  | pu, .chain op op' a b c, σ, K => wE Γ pu a σ fun ra σ1 => wE Γ (pu || !ra.top) b σ1 fun rb σ2 => cmpW op ra rb σ2 fun z => br z (wE Γ (pu || !rb.top) c σ2 fun rc σ3 => cmpW op' rb rc σ3 fun z' => K (.v (.d (.bool z'))) σ3) (K (.v (.d (.bool false))) σ2)
  | pu, .and a b, σ, K => wE Γ pu a σ fun ra σ1 => truW ra σ1 fun c => br c (wE Γ pu b σ1 K) (K ra σ1)
  | pu, .or a b, σ, K => wE Γ pu a σ fun ra σ1 => truW ra σ1 fun c => br c (K ra σ1) (wE Γ pu b σ1 K)
  | pu, .not a, σ, K => wE Γ pu a σ fun ra σ1 => truW ra σ1 fun c => K (.v (.d (.bool (!c)))) σ1
  | pu, .ix o i, σ, K => wE Γ pu o σ fun ro σ1 => wE Γ (pu || !ro.top) i σ1 fun ri σ2 => ixW ro ri σ2 K
  | pu, .sl lo hi o es, σ, K => wE Γ pu o σ fun ro σ1 => wN Γ (pu || !ro.top) es σ1 fun ns σ2 => slArg lo hi ns fun l h => slW ro l h σ2 K
  | pu, .spl o e, σ, K => wE Γ pu o σ fun ro σ1 => match ro.get σ1 with
    | some (.d (.str a)) => wE Γ (pu || !ro.top) e σ1 fun re σ2 => match re.get σ2 with
      | some (.d (.str b)) => ((b.length == 0) = false ∧ a.length + 2 ≤ sizeLine) ∧ K (.v (.nd .list ((Txt.split a b).map fun s => .d (.str s)))) σ2
      | _ => False
    | _ => False
  | pu, .jn o e, σ, K => wE Γ pu o σ fun ro σ1 => match ro.get σ1 with
    | some (.d (.str a)) => wE Γ (pu || !ro.top) e σ1 fun re σ2 => match re.data σ2 with
      | some (.list ys) => match strsD ys with
        | some ss => (ss.map (·.length)).sum + ss.length * a.length ≤ 16777216 ∧ K (.v (.d (.str (Txt.join a ss)))) σ2
        | none => False
      | _ => False
    | _ => False
  | pu, .ind neg a b, σ, K => wE Γ pu a σ fun ra σ1 => wE Γ (pu || !ra.top) b σ1 fun rb σ2 => match ra.data σ2, rb.data σ2 with
    | some x, some (.list ys) => SeqAt.shaped x = true ∧ SeqAt.shaped (.list ys) = true ∧ K (.v (.d (.bool ((ys.any fun z => PyData.eqv z x) != neg)))) σ2
    | _, _ => False
  | pu, .lst es, σ, K => wA Γ pu es σ fun rs σ1 => toVs pu rs σ1 fun ts σ2 => ts.length ≤ sizeLine ∧ K (.v (.nd .list ts)) σ2
  | pu, .tup es, σ, K => wA Γ pu es σ fun rs σ1 => toVs pu rs σ1 fun ts σ2 => ts.length ≤ sizeLine ∧ K (.v (mkTup ts)) σ2
  | pu, .call f es, σ, K => wA Γ pu es σ fun rs σ1 => match Γ.fn.lookup f with
    | some fs => callW fs pu rs σ1 K
    | none => False
  | pu, .blt b es, σ, K => wA Γ pu es σ fun rs σ1 => bltW b rs σ1 K
  | pu, .isi a ty, σ, K => wE Γ pu a σ fun ra σ1 => isiW ra ty σ1 fun z => K (.v (.d (.bool z))) σ1
  | pu, .mth m o es, σ, K => wE Γ pu o σ fun ro σ1 => mtyW m ro σ1 ∧ wA Γ (pu || !ro.top) es σ1 fun rs σ2 => mthW m pu (ro :: rs) σ2 K
  | pu, .lc is bor elt it ies cond, σ, K => wA Γ pu ies σ fun rs σ1 => itW pu bor it rs σ1 fun xs σ2 =>
      lcW is σ2 (fun σ3 Q => wC Γ (pu || bor) cond σ3 Q) (fun σ3 Q => wE Γ (pu || bor) elt σ3 fun r σ4 => toV (pu || bor) r σ4 Q) xs [] σ2 fun acc σ3 => K (.v (.nd .list acc)) σ3
  | pu, .rpr a, σ, K => wE Γ pu a σ fun ra σ1 => match ra.data σ1 with
    | some x => x.canLay0 = true ∧ x.depth ≤ 64 ∧ x.showable = true ∧ x.shown.length ≤ sizeLine ∧ K (.v (.d (.str x.shown))) σ1
    | none => False
  | pu, .frz e, σ, K => wE Γ pu e σ fun r σ1 => toV pu r σ1 fun t σ2 => match t.data with
    | some x => K (.v (.d x)) σ2
    | none => False
def wA (Γ : Ctx) : Bool → List E → St → (List R → St → Prop) → Prop
  | pu, [], σ, K => K [] σ
  | pu, e :: es, σ, K => wE Γ pu e σ fun r σ1 => wA Γ (pu || !r.top) es σ1 fun rs σ2 => K (r :: rs) σ2
def wN (Γ : Ctx) : Bool → List E → St → (List Int → St → Prop) → Prop
  | pu, [], σ, K => K [] σ
  | pu, e :: es, σ, K => wE Γ pu e σ fun r σ1 => match r.get σ1 with
    | some (.d (.int i)) => wN Γ pu es σ1 fun ns σ2 => K (i :: ns) σ2
    | _ => False
def wL (Γ : Ctx) : Bool → List E → St → (List PyData → St → Prop) → Prop
  | pu, [], σ, K => K [] σ
  | pu, e :: es, σ, K => wE Γ pu e σ fun r σ1 => match r with
    | .v (.d x) => wL Γ pu es σ1 fun xs σ2 => K (x :: xs) σ2
    | _ => False
def wC (Γ : Ctx) : Bool → List E → St → (Bool → St → Prop) → Prop
  | pu, [], σ, K => K true σ
  | pu, e :: es, σ, K => es = [] ∧ wE Γ pu e σ fun r σ1 => truW r σ1 fun b => K b σ1
end
def wT (Γ : Ctx) (pu : Bool) (e : E) (σ : St) (K : Bool → St → Prop) : Prop := wE Γ pu e σ fun r σ1 => truW r σ1 fun b => K b σ1
/-- values that are moved out of their slots -/
def movs : List R → St → (List T → St → Prop) → Prop
  | [], σ, K => K [] σ
  | .v t :: rs, σ, K => movs rs σ fun ts σ1 => K (t :: ts) σ1
  | .p i [] :: rs, σ, K => match σ[i]? with
    | some (.nd k us) => movs rs (σ.set i .dead) fun ts σ1 => K (.nd k us :: ts) σ1
    | _ => False
  | .p i (j :: q) :: rs, σ, K => (rs.all fun r => match r with
      | .p i' q' => i' != i || (match q' with
        | [] => false
        | j' :: _ => j' != j)
      | .v _ => true) = true ∧ match (R.p i (j :: q)).get σ with
    | some (.nd k us) => movs rs (putS σ i (j :: q) .dead) fun ts σ1 => K (.nd k us :: ts) σ1
    | _ => False
structure AE where
  nx : St → Prop
  rt : T → St → Prop
  bk : St → Prop := fun _ => False
  ct : St → Prop := fun _ => False
  ex : Str → St → Prop := fun _ _ => False
def forW (is : List Nat) (bd : AE → St → Prop) (D : AE) : List PyData → St → Prop
  | [], σ => D.nx σ
  | x :: xs, σ => match bindD is x σ with
    | some σ1 => bd { nx := forW is bd D xs, rt := D.rt, bk := D.nx, ct := forW is bd D xs, ex := D.ex } σ1
    | none => False
def setsT : List Nat → List T → St → Option St
  | [], [], σ => some σ
  | i :: is, x :: xs, σ => if i < σ.length then setsT is xs (σ.set i x) else none
  | _, _, _ => none
/-- a, b, .. = a value -/
def unpW (is : List Nat) (r : R) (σ : St) (K : St → Prop) : Prop := match r.get σ with
  | some (.d (.tuple xs)) => match setsD is xs σ with
    | some σ1 => K σ1
    | none => False
  | some (.nd .tup ts) => match r with
    | .v _ => T.noTupl ts = true ∧ match setsT is ts σ with
      | some σ1 => K σ1
      | none => False
    | .p _ _ => False
  | some (.nd .tupw ts) => match r with
    | .p i [] => T.noTupl ts = true ∧ match setsT is ts (σ.set i .dead) with
      | some σ1 => K σ1
      | none => False
    | _ => False
  | _ => False
def setixW (ro ri : R) (t : T) (σ : St) (K : St → Prop) : Prop := t.noTup = true ∧ t.isDead = false ∧ atList ro σ fun ts bk => match ri.get σ with
  | some (.d (.int i)) => match ixN ts.length i with
    | some j => K (bk (ts.set j t))
    | none => False
  | _ => False
mutual
def wS (Γ : Ctx) : S → AE → St → Prop
  | .asg i e, D, σ => free Γ [i] = true ∧ wE Γ false e σ fun r σ1 => toV false r σ1 fun t σ2 => t.noTup = true ∧ i < σ2.length ∧ D.nx (σ2.set i t)
  | .unp is e, D, σ => free Γ is = true ∧ wE Γ false e σ fun r σ1 => unpW is r σ1 D.nx
  | .setix o i e, D, σ => wE Γ false e σ fun r σ1 => toV false r σ1 fun t σ2 => wE Γ false o σ2 fun ro σ3 => wE Γ (!ro.top) i σ3 fun ri σ4 => setixW ro ri t σ4 D.nx
  | .augix op o i y, D, σ => wE Γ false o σ fun ro σ1 => wE Γ (!ro.top) i σ1 fun ri σ2 => atList ro σ2 fun ts bk => match ri.get σ2 with
    | some (.d (.int k)) => 0 ≤ k ∧ match ts[k.toNat]? with
      | some (.d (.int x)) => D.nx (bk (ts.set k.toNat (.d (.int (if op = .add then x + y else x - y)))))
      | _ => False
    | _ => False
  | .rse, _, _ => False
  | .ex e, D, σ => wE Γ false e σ fun _ σ1 => D.nx σ1
  | .ret e, D, σ => wE Γ false e σ fun r σ1 => match r with
    | .v t => D.rt t σ1
    | .p i q => if Γ.pin.contains i then toV false r σ1 D.rt else match r.get σ1 with
      | some t => D.rt t (σ1.set i .dead)
      | none => False
  | .retm es, D, σ => wA Γ false es σ fun rs σ1 => movs rs σ1 fun ts σ2 => ts.length ≤ sizeLine ∧ D.rt (mkTup ts) σ2
  | .ife c a b, D, σ => wT Γ false c σ fun z σ1 => br z (wSs Γ a D σ1) (wSs Γ b D σ1)
  | .for_ is it ies body, D, σ => free Γ is = true ∧ wA Γ false ies σ fun rs σ1 => itW false false it rs σ1 fun xs σ2 => forW is (fun D' σ' => wSs Γ body D' σ') D xs σ2
def wSs (Γ : Ctx) : List S → AE → St → Prop
  | [], D, σ => D.nx σ
  | s :: r, D, σ => wS Γ s { D with nx := fun σ' => wSs Γ r D σ' } σ
end
/-- what a result is, in the trees with addresses -/
def RR (r : R) (v : V) (sl nw : List TA) : Prop := match r with
  | .v t => ∃ x, nw = [x] ∧ x.t = t ∧ x.v = v ∧ x.isDead = false
  | .p i q => nw = [] ∧ ∃ t c, sl[i]? = some t ∧ t.at q = some c ∧ c.v = v ∧ c.isDead = false
/-- from one state of the slots to a later one -/
structure Stp (pu : Bool) (H H' : Hp) (sl sl' : List TA) : Prop where
  pure : pu = true → sl' = sl ∧ LamX.ExtN H H'
  live : ∀ (i : Nat) t, sl[i]? = some t → t.isDead = false → ∃ t', sl'[i]? = some t' ∧ t'.isDead = false
section
variable {K : PySem.W.Frag} {B : Bs} {Hs H H' H1 H2 Hs' : Hp} {σ : L2.St} {sl sl' sl1 sl2 tp tp' nw nw' : List TA} {pu pu' : Bool} {r r' : R} {v v' : V}
theorem Stp.refl : Stp pu H H sl sl := ⟨fun _ => ⟨rfl, LamX.ExtN.refl _⟩, fun i t h d => ⟨t, h, d⟩⟩
theorem Stp.ext (h : LamX.ExtN H H') : Stp pu H H' sl sl := ⟨fun _ => ⟨rfl, h⟩, fun i t h d => ⟨t, h, d⟩⟩
theorem Stp.same (h : Same H H') : Stp pu H H' sl sl := ⟨fun _ => ⟨rfl, LamX.ExtN.of h⟩, fun i t h d => ⟨t, h, d⟩⟩
theorem Stp.trans (a : Stp pu H H1 sl sl1) (b : Stp pu' H1 H2 sl1 sl2) (h : pu = true → pu' = true) : Stp pu H H2 sl sl2 := by
  refine ⟨fun hp => ?_, fun i t ht hd => ?_⟩
  · obtain ⟨e1, s1⟩ := a.pure hp
    obtain ⟨e2, s2⟩ := b.pure (h hp)
    exact ⟨e2.trans e1, s1.trans s2⟩
  · obtain ⟨t1, h1, d1⟩ := a.live i t ht hd
    exact b.live i t1 h1 d1
theorem Stp.weak (a : Stp pu H H' sl sl') (h : pu' = true → pu = true) : Stp pu' H H' sl sl' := ⟨fun hp => a.pure (h hp), a.live⟩
/-- a result stays what it is -/
theorem RR.stay (h : RR r v sl nw) (R1 : Rel K B Hs H σ sl tp) (R2 : Rel K B Hs' H' σ sl' tp') (s : Stp pu H H' sl sl') (ht : r.top = false → pu = true) : RR r v sl' nw := by
  cases r with
  | v t => exact h
  | p i q =>
    obtain ⟨e, t, c, h1, h2, h3, h4⟩ := h
    refine ⟨e, ?_⟩
    cases q with
    | nil =>
      rw [TA.at] at h2
      cases h2
      obtain ⟨t', g1, g2⟩ := s.live i t h1 h4
      refine ⟨t', t', g1, rfl, ?_, g2⟩
      have e1 := R1.val i t h1 h4
      have e2 := R2.val i t' g1 g2
      rw [e1] at e2
      have e3 : t.v = t'.v := by simpa using e2
      rw [← e3]
      exact h3
    | cons j q =>
      have := (s.pure (ht rfl)).1
      rw [this]
      exact ⟨t, c, h1, h2, h3, h4⟩
theorem tl_get (sl : List TA) (i : Nat) : (TA.tl sl)[i]? = (sl[i]?).map TA.t := by rw [TA.tl_map, List.getElem?_map]
theorem RR.get (h : RR r v sl nw) (R1 : Rel K B Hs H σ sl (tp ++ nw)) : ∃ c : TA, r.get (TA.tl sl) = some c.t ∧ c.v = v ∧ c.isDead = false ∧ c.ok K Hs H ∧ (∀ a ∈ c.fp, a ∈ TA.fpl (sl ++ (tp ++ nw))) ∧ (r.isP = false → nw = [c]) ∧ (∀ i q, r = .p i q → ∃ t, sl[i]? = some t ∧ t.at q = some c) := by
  cases r with
  | v t =>
    obtain ⟨x, e1, e2, e3, e4⟩ := h
    subst e1
    refine ⟨x, ?_, e3, e4, ?_, fun a ha => fpl_mem (by simp) ha, fun _ => rfl, fun i q z => by cases z⟩
    · rw [R.get, e2]
    · have := TA.okl_append.mp R1.okT
      have h2 := this.2
      rw [TA.okl] at h2
      exact h2.1
  | p i q =>
    obtain ⟨e, t, c, h1, h2, h3, h4⟩ := h
    refine ⟨c, ?_, h3, h4, TA.at_ok q t c h2 (R1.slot_ok h1), fun a ha => ?_, fun z => (by cases z), fun i' q' z => by cases z; exact ⟨t, h1, h2⟩⟩
    · rw [R.get, tl_get, h1]
      simp only [Option.map_some]
      rw [TA.at_t, h2]
      rfl
    · obtain ⟨l1, l2, e1, _⟩ := TA.lens q t c h2
      exact fpl_mem (List.mem_append_left _ (List.mem_of_getElem? h1)) (by rw [e1]; exact List.mem_append_left _ (List.mem_append_right _ ha))
/-- its data in the heap -/
theorem RR.dp {x : PyData} (h : RR r v sl nw) (R1 : Rel K B Hs H σ sl (tp ++ nw)) (hx : r.data (TA.tl sl) = some x) : Rp K H v x := by
  obtain ⟨c, h1, h2, h3, h4, _⟩ := h.get R1
  rw [R.data, h1] at hx
  rw [← h2]
  exact TA.reads R1.sub c x h4 hx
theorem RR.dpT {x : PyData} (h : RR r v sl nw) (R1 : Rel K B Hs H σ sl (tp ++ nw)) (hx : r.get (TA.tl sl) = some (.d x)) : Rp K Hs v x ∧ Rp K H v x := by
  obtain ⟨c, h1, h2, h3, h4, _⟩ := h.get R1
  rw [h1] at hx
  have e : c.t = .d x := Option.some.inj hx
  cases c with
  | dead => cases h3
  | d w y =>
    rw [TA.t] at e
    cases e
    rw [TA.ok] at h4
    rw [← h2]
    exact ⟨h4, Rp.mono R1.sub h4⟩
  | nd k a ts => rw [TA.t] at e; cases e
end
/-- the reading of a value -/
def LE (X : Cx) (ix : List Nat) (pu : Bool) (w : St → (R → St → Prop) → Prop) : TE := fun σ H Q => ∃ B Hs sl tp P, Rel X.K ⟨B, ix⟩ Hs H σ sl tp ∧ w (TA.tl sl) P ∧
  ∀ r v Hs' H' sl' nw, Rel X.K ⟨B, ix⟩ Hs' H' σ sl' (tp ++ nw) → RR r v sl' nw → Stp pu H H' sl sl' → P r (TA.tl sl') → Q v H'
/-- several results -/
inductive RRs (sl : List TA) : List R → List V → List (List TA) → Prop
  | nil : RRs sl [] [] []
  | cons {r : R} {v : V} {nw : List TA} {rs : List R} {vs : List V} {nws : List (List TA)} : RR r v sl nw → RRs sl rs vs nws → RRs sl (r :: rs) (v :: vs) (nw :: nws)
def LA (X : Cx) (ix : List Nat) (pu : Bool) (w : St → (List R → St → Prop) → Prop) : L2.TA := fun σ H Q => ∃ B Hs sl tp P, Rel X.K ⟨B, ix⟩ Hs H σ sl tp ∧ w (TA.tl sl) P ∧
  ∀ rs vs Hs' H' sl' nws, Rel X.K ⟨B, ix⟩ Hs' H' σ sl' (tp ++ nws.flatten) → RRs sl' rs vs nws → Stp pu H H' sl sl' → P rs (TA.tl sl') → Q vs H'
section
variable {X : Cx} {a b e : Expr} {wa wb w : St → (R → St → Prop) → Prop} {pu : Bool} {pos : Pos} {ix : List Nat}
/-- two values, one behind the other -/
theorem two {σ : L2.St} {H : Hp} {B : B0} {Hs : Hp} {sl tp : List TA} {P : R → R → St → Prop} {pb : R → Bool} {wb : R → St → (R → St → Prop) → Prop} {wb' : Bool → St → (R → St → Prop) → Prop} (R0 : Rel X.K ⟨B, ix⟩ Hs H σ sl tp)
    (hw : wa (TA.tl sl) fun ra σ1 => wb' (pu || !ra.top) σ1 fun rb σ2 => P ra rb σ2) (hb : ∀ pu', PE X b (LE X ix pu' (wb' pu'))) {pins : List (Addr × Obj)} {s : Shared} (I : Inv X pins σ H s) (ha : PE X a (LE X ix pu wa))
    {α : Type} {Q : α → Shared → Prop} {f : Value → Value → Sem α}
    (hf : ∀ v u s2 x y H2 ra rb Hs2 sl2 nw1 nw2, Inv X pins σ H2 s2 → RelV x v → RelV y u → Rel X.K ⟨B, ix⟩ Hs2 H2 σ sl2 ((tp ++ nw1) ++ nw2) → RR ra x sl2 nw1 → RR rb y sl2 nw2 → Stp pu H H2 sl sl2 → P ra rb (TA.tl sl2) → wpAny (model X.prog X.w) X.A (f v u) Q X.xe s2) :
    wpAny (model X.prog X.w) X.A (eval a X.env) (fun v s₁ => wpAny (model X.prog X.w) X.A (eval b X.env) (fun u s₂ => wpAny (model X.prog X.w) X.A (f v u) Q X.xe s₂) X.xe s₁) X.xe s := by
  refine thn (ha.run pins s σ H (fun x H1 => ∃ ra Hs1 sl1 nw1, Rel X.K ⟨B, ix⟩ Hs1 H1 σ sl1 (tp ++ nw1) ∧ RR ra x sl1 nw1 ∧ Stp pu H H1 sl sl1 ∧ wb' (pu || !ra.top) (TA.tl sl1) fun rb σ2 => P ra rb σ2) I ⟨B, Hs, sl, tp, _, R0, hw, fun ra v Hs1 H1 sl1 nw1 R1 rr1 st1 p1 => ⟨ra, Hs1, sl1, nw1, R1, rr1, st1, p1⟩⟩) fun v s1 h1 => ?_
  obtain ⟨x, H1, I1, rx, ra, Hs1, sl1, nw1, R1, rr1, st1, p1⟩ := h1
  refine thn ((hb (pu || !ra.top)).run pins s1 σ H1 (fun y H2 => ∃ rb Hs2 sl2 nw2, Rel X.K ⟨B, ix⟩ Hs2 H2 σ sl2 ((tp ++ nw1) ++ nw2) ∧ RR rb y sl2 nw2 ∧ Stp (pu || !ra.top) H1 H2 sl1 sl2 ∧ P ra rb (TA.tl sl2)) I1 ⟨B, Hs1, sl1, tp ++ nw1, _, R1, p1, fun rb v Hs2 H2 sl2 nw2 R2 rr2 st2 p2 => ⟨rb, Hs2, sl2, nw2, R2, rr2, st2, p2⟩⟩) fun u s2 h2 => ?_
  obtain ⟨y, H2, I2, ry, rb, Hs2, sl2, nw2, R2, rr2, st2, p2⟩ := h2
  exact hf v u s2 x y H2 ra rb Hs2 sl2 nw1 nw2 I2 rx ry R2 (rr1.stay R1 R2 st2 (fun z => by rw [z]; simp)) rr2 (st1.trans st2 (fun z => by rw [z]; rfl)) p2
/-- one value -/
theorem one {σ : L2.St} {H : Hp} {B : B0} {Hs : Hp} {sl tp : List TA} {P : R → St → Prop} (R0 : Rel X.K ⟨B, ix⟩ Hs H σ sl tp) (hw : wa (TA.tl sl) P) {pins : List (Addr × Obj)} {s : Shared} (I : Inv X pins σ H s) (ha : PE X a (LE X ix pu wa))
    {Q : Value → Shared → Prop}
    (hf : ∀ v s1 x H1 ra Hs1 sl1 nw1, Inv X pins σ H1 s1 → RelV x v → Rel X.K ⟨B, ix⟩ Hs1 H1 σ sl1 (tp ++ nw1) → RR ra x sl1 nw1 → Stp pu H H1 sl sl1 → P ra (TA.tl sl1) → Q v s1) :
    wpAny (model X.prog X.w) X.A (eval a X.env) Q X.xe s := by
  refine thn (ha.run pins s σ H (fun x H1 => ∃ ra Hs1 sl1 nw1, Rel X.K ⟨B, ix⟩ Hs1 H1 σ sl1 (tp ++ nw1) ∧ RR ra x sl1 nw1 ∧ Stp pu H H1 sl sl1 ∧ P ra (TA.tl sl1)) I ⟨B, Hs, sl, tp, _, R0, hw, fun ra v Hs1 H1 sl1 nw1 R1 rr1 st1 p1 => ⟨ra, Hs1, sl1, nw1, R1, rr1, st1, p1⟩⟩) fun v s1 h1 => ?_
  obtain ⟨x, H1, I1, rx, ra, Hs1, sl1, nw1, R1, rr1, st1, p1⟩ := h1
  exact hf v s1 x H1 ra Hs1 sl1 nw1 I1 rx R1 rr1 st1 p1
/-- an argument list -/
theorem la_nil : PA X [] (LA X ix pu fun σ K => K [] σ) := ⟨fun pos pins s σ H Q I h => by
  obtain ⟨B, Hs, sl, tp, P, R0, hw, hk⟩ := h
  exact pa_nil.run pos pins s σ H Q I (hk [] [] Hs H sl [] (by simpa using R0) .nil .refl hw)⟩
theorem RRs.stay {K : PySem.W.Frag} {B : Bs} {Hs H H' Hs' : Hp} {σ : L2.St} {sl sl' tp tp' : List TA} (R1 : Rel K B Hs H σ sl tp) (R2 : Rel K B Hs' H' σ sl' tp') (s : Stp pu H H' sl sl') : ∀ {rs : List R} {vs : List V} {nws : List (List TA)}, RRs sl rs vs nws → (∀ r ∈ rs, r.top = false → pu = true) → RRs sl' rs vs nws
  | _, _, _, .nil, _ => .nil
  | _, _, _, .cons h t, ht => .cons (h.stay R1 R2 s (ht _ (by simp))) (RRs.stay R1 R2 s t fun r hr => ht r (by simp [hr]))
theorem la_cons {es : List Expr} {wr : Bool → St → (List R → St → Prop) → Prop} (ha : PE X a (LE X ix pu wa)) (hr : ∀ pu', PA X es (LA X ix pu' (wr pu'))) (hs : starEach (a :: es) X.env = (false, eval a X.env) :: starEach es X.env) :
    PA X (a :: es) (LA X ix pu fun σ K => wa σ fun r σ1 => wr (pu || !r.top) σ1 fun rs σ2 => K (r :: rs) σ2) := by
  refine ⟨fun pos pins s σ H Q I h => ?_⟩
  obtain ⟨B, Hs, sl, tp, P, R0, hw, hk⟩ := h
  refine (pa_cons (te := LE X ix pu wa) (t := fun σ' H1 Q' => ∃ pu', LA X ix pu' (wr pu') σ' H1 Q') ha ⟨fun pos pins s σ H Q I h => ?_⟩ hs).run pos pins s σ H Q I ?_
  · obtain ⟨pu', h⟩ := h
    exact (hr pu').run pos pins s σ H Q I h
  · refine ⟨B, Hs, sl, tp, _, R0, hw, fun ra v Hs1 H1 sl1 nw1 R1 rr1 st1 p1 => ⟨pu || !ra.top, B, Hs1, sl1, tp ++ nw1, _, R1, p1, fun rs vs Hs2 H2 sl2 nws R2 rrs st2 p2 => ?_⟩⟩
    refine hk (ra :: rs) (v :: vs) Hs2 H2 sl2 (nw1 :: nws) ?_ (.cons (rr1.stay R1 R2 st2 (fun z => by rw [z]; simp)) rrs) (st1.trans st2 (fun z => by rw [z]; rfl)) p2
    rw [List.flatten_cons, ← List.append_assoc]
    exact R2
end
/-- what is wanted behind a value -/
abbrev Cont (X : Cx) (B : Bs) (σ : L2.St) (tp : List TA) (pu : Bool) (H : Hp) (sl : List TA) (P : R → St → Prop) (Q : VK) : Prop :=
  ∀ r v Hs' H' sl' nw, Rel X.K B Hs' H' σ sl' (tp ++ nw) → RR r v sl' nw → Stp pu H H' sl sl' → P r (TA.tl sl') → Q v H'
section
variable {X : Cx} {pins : List (Addr × Obj)} {s : Shared} {σ : L2.St} {H H2 Hs2 : Hp} {B : Bs} {sl sl2 tp nw nw1 nw2 as : List TA} {P : R → St → Prop} {Q : VK} {pu : Bool} {ra rb : R} {x y : V} {v u : Value}
theorem Cont.leaf {v : V} {d : PyData} (hk : Cont X B σ tp pu H sl P Q) (R1 : Rel X.K B Hs2 H2 σ sl2 tp) (dp : Rp X.K Hs2 v d) (st : Stp pu H H2 sl sl2) (hp : P (.v (.d d)) (TA.tl sl2)) : Q v H2 :=
  hk (.v (.d d)) v Hs2 H2 sl2 [.d v d] (R1.leaf dp) ⟨.d v d, rfl, rfl, rfl, rfl⟩ st hp
theorem Cont.node {k : Kd} {p : Addr} {o : HO} (hk : Cont X B σ tp pu H sl P Q) (R1 : Rel X.K B Hs2 H2 σ sl2 (tp ++ as)) (hp0 : H2 p = none) (ho : k.at (upd H2 p o) p (as.map TA.v)) (st : Stp pu H H2 sl sl2) (hp : P (.v (.nd k (TA.tl as))) (TA.tl sl2)) : Q (.ref p) (upd H2 p o) :=
  hk (.v (.nd k (TA.tl as))) (.ref p) Hs2 (upd H2 p o) sl2 [.nd k p as] (R1.allocO hp0 ho) ⟨.nd k p as, rfl, by rw [TA.t], rfl, rfl⟩ (st.trans (pu' := pu) (.same (same_upd hp0)) id) hp
theorem Cont.lst {p : Addr} (hk : Cont X B σ tp pu H sl P Q) (R1 : Rel X.K B Hs2 H2 σ sl2 (tp ++ as)) (hp0 : H2 p = none) (st : Stp pu H H2 sl sl2) (hp : P (.v (.nd .list (TA.tl as))) (TA.tl sl2)) : Q (.ref p) (upd H2 p (.lst (as.map TA.v))) :=
  hk.node (k := .list) R1 hp0 (show upd H2 p (.lst (as.map TA.v)) p = some (.lst (as.map TA.v)) from upd_same) st hp
/-- a new tuple of data -/
theorem Cont.tup {p : Addr} {vs : List V} {ds : List PyData} (hk : Cont X B σ tp pu H sl P Q) (R1 : Rel X.K B Hs2 H2 σ sl2 tp) (hp0 : H2 p = none) (dp : RpAll X.K Hs2 vs ds) (st : Stp pu H H2 sl sl2) (hp : P (.v (.d (.tuple ds))) (TA.tl sl2)) : Q (.ref p) (upd H2 p (.tup vs)) :=
  hk.leaf (R1.allocF hp0 (.tup vs)) (.tup (SqT.of upd_same) (dp.mono (same_upd (R1.hs_none hp0)))) (st.trans (pu' := pu) (.same (same_upd hp0)) id) hp
theorem Rel.tempsS {K : PySem.W.Frag} {Hs : Hp} {tp' : List TA} (R1 : Rel K B Hs H σ sl tp) (ok : TA.okl K Hs H tp') (sub : (TA.fpl tp').Sublist (TA.fpl tp)) : Rel K B Hs H σ sl tp' :=
  R1.temps ok (fun a ha => sub.subset ha) (sub.nodup R1.uqT)
theorem Rel.leaves {K : PySem.W.Frag} {Hs : Hp} {ls : List TA} (R1 : Rel K B Hs H σ sl tp) (ok : TA.okl K Hs H ls) (hf : TA.fpl ls = []) : Rel K B Hs H σ sl (tp ++ ls) :=
  R1.tempsS (TA.okl_append.mpr ⟨R1.okT, ok⟩) (by rw [TA.fpl_append, hf, List.append_nil]; exact List.Sublist.refl _)
def leafs (vs : List V) (ds : List PyData) : List TA := List.zipWith TA.d vs ds
theorem leafs_ok {K : PySem.W.Frag} {Hs H : Hp} : ∀ {vs : List V} {ds : List PyData}, RpAll K Hs vs ds → TA.okl K Hs H (leafs vs ds) ∧ TA.fpl (leafs vs ds) = [] ∧ TA.tl (leafs vs ds) = ds.map .d ∧ (leafs vs ds).map TA.v = vs
  | _, _, .nil => ⟨by show TA.okl K Hs H []; rw [TA.okl]; trivial, rfl, rfl, rfl⟩
  | _, _, .cons (v := v) (d := d) (vs := vs) (ds := ds) a b => by
    obtain ⟨h1, h2, h3, h4⟩ := leafs_ok (H := H) b
    have e : leafs (v :: vs) (d :: ds) = .d v d :: leafs vs ds := rfl
    rw [e]
    refine ⟨?_, ?_, ?_, ?_⟩
    · rw [TA.okl, TA.ok]; exact ⟨a, h1⟩
    · rw [TA.fpl, TA.fp, h2]; rfl
    · rw [TA.tl, TA.t, h3]; rfl
    · rw [List.map_cons, h4]; rfl
theorem leaves_of : ∀ {ts : List TA} {xs : List PyData}, T.leaves (TA.tl ts) = some xs → TA.fpl ts = [] ∧ TA.tl ts = xs.map .d ∧ (∀ {K : PySem.W.Frag} {Hs H : Hp}, TA.okl K Hs H ts → RpAll K Hs (ts.map TA.v) xs)
  | [], xs, h => by
    rw [TA.tl, T.leaves] at h
    cases h
    exact ⟨rfl, rfl, fun _ => .nil⟩
  | t :: r, xs, h => by
    rw [TA.tl] at h
    cases t with
    | dead => rw [TA.t, T.leaves] at h; cases h; simp
    | nd k a ts => rw [TA.t, T.leaves] at h; cases h; simp
    | d v x =>
      rw [TA.t, T.leaves] at h
      split at h
      · rename_i ys e
        cases h
        obtain ⟨h1, h2, h3⟩ := leaves_of e
        refine ⟨by rw [TA.fpl, TA.fp, h1]; rfl, by rw [TA.tl, TA.t, h2]; rfl, fun {K Hs H} ok => ?_⟩
        rw [TA.okl, TA.ok] at ok
        exact .cons ok.1 (h3 ok.2)
      · cases h
/-- a result whose tree is a leaf -/
theorem ta_d {c : TA} {x : PyData} (h : c.t = .d x) : ∃ w, c = .d w x := by
  cases c with
  | dead => rw [TA.t] at h; cases h
  | d w y => rw [TA.t] at h; cases h; exact ⟨w, rfl⟩
  | nd k a ts => rw [TA.t] at h; cases h
theorem ta_nd {c : TA} {k : Kd} {ts : List T} (h : c.t = .nd k ts) : ∃ a us, c = .nd k a us ∧ TA.tl us = ts := by
  cases c with
  | dead => rw [TA.t] at h; cases h
  | d w y => rw [TA.t] at h; cases h
  | nd k' a us => rw [TA.t] at h; cases h; exact ⟨a, us, rfl, rfl⟩
/-- a result that is an own node: its object -/
theorem RR.node {K : PySem.W.Frag} {Hs : Hp} {r : R} {v : V} {k : Kd} {ts : List T} (h : RR r v sl nw) (R1 : Rel K B Hs H σ sl (tp ++ nw)) (hx : r.get (TA.tl sl) = some (.nd k ts)) :
    ∃ a us, v = .ref a ∧ TA.tl us = ts ∧ k.at H a (us.map TA.v) ∧ TA.okl K Hs H us ∧ (r.isP = false → nw = [.nd k a us]) ∧ (∀ i q, r = .p i q → ∃ t, sl[i]? = some t ∧ t.at q = some (.nd k a us)) := by
  obtain ⟨c, h1, h2, h3, h4, _, h5, h6⟩ := h.get R1
  rw [h1] at hx
  obtain ⟨a, us, rfl, e⟩ := ta_nd (Option.some.inj hx)
  rw [TA.ok] at h4
  exact ⟨a, us, h2.symm, e, h4.1, h4.2, h5, h6⟩
/-- the items of a list that is a result -/
theorem RR.kids {K : PySem.W.Frag} {Hs : Hp} {r : R} {v : V} {ts : List T} (h : RR r v sl nw) (R1 : Rel K B Hs H σ sl (tp ++ nw)) (hk : r.kids (TA.tl sl) = some ts) :
    ∃ a us, v = .ref a ∧ TA.tl us = ts ∧ SqL K H a (us.map TA.v) ∧ TA.okl K Hs H us ∧ (TA.fpl us).Sublist (TA.fpl nw) := by
  unfold R.kids at hk
  split at hk
  · rename_i xs e
    cases hk
    obtain ⟨d1, d2⟩ := h.dpT R1 e
    cases d1 with
    | lst hr ha =>
      obtain ⟨h1, h2, h3, h4⟩ := leafs_ok (H := H) ha
      exact ⟨_, _, rfl, h3, by rw [h4]; exact SqL.mono R1.sub hr, h1, by rw [h2]; exact List.nil_sublist _⟩
  · rename_i us e
    obtain ⟨a, us', e1, e2, e3, e4, e5, e6⟩ := h.node R1 e
    cases r with
    | v t =>
      cases hk
      refine ⟨a, us', e1, e2, .inl (.inl e3), e4, ?_⟩
      rw [e5 rfl, fpl_one, TA.fp]
      exact List.sublist_cons_self _ _
    | p i q =>
      simp only at hk
      split at hk
      · rename_i hl
        cases hk
        obtain ⟨xs, hxs⟩ := Option.isSome_iff_exists.mp hl
        rw [← e2] at hxs
        obtain ⟨f1, f2, f3⟩ := leaves_of hxs
        exact ⟨a, us', e1, e2, .inl (.inl e3), e4, by rw [f1]; exact List.nil_sublist _⟩
      · cases hk
  · cases hk
end
def bopIs : BOp → Operator → Bool
  | .add, .Add => true
  | .sub, .Sub => true
  | .mul, .Mult => true
  | .fdiv, .FloorDiv => true
  | .mod, .Mod => true
  | .pow, .Pow => true
  | .shl, .LShift => true
  | .shr, .RShift => true
  | .band, .BitAnd => true
  | _, _ => false
def copIs : COp → CmpOp → Bool
  | .lt, .Lt => true
  | .le, .LtE => true
  | .gt, .Gt => true
  | .ge, .GtE => true
  | .eq, .Eq => true
  | .ne, .NotEq => true
  | .isin, .In => true
  | .notin, .NotIn => true
  | .is, .Is => true
  | .isnot, .IsNot => true
  | _, _ => false
section
variable {X : Cx} {pins : List (Addr × Obj)} {s : Shared} {σ : L2.St} {H H2 Hs2 : Hp} {B : Bs} {sl sl2 tp nw nw1 nw2 as : List TA} {P : R → St → Prop} {Q : VK} {pu : Bool} {ra rb : R} {x y : V} {v u : Value}
theorem Rp.int_v {K : PySem.W.Frag} {H : Hp} {v : V} {i : Int} (h : Rp K H v (.int i)) : v = .int i := by cases h; rfl
theorem Rp.str_v {K : PySem.W.Frag} {H : Hp} {v : V} {i : Str} (h : Rp K H v (.str i)) : v = .str i := by cases h; rfl
theorem Rp.bool_v {K : PySem.W.Frag} {H : Hp} {v : V} {i : Bool} (h : Rp K H v (.bool i)) : v = .bl i := by cases h; rfl
theorem Rp.none_v {K : PySem.W.Frag} {H : Hp} {v : V} (h : Rp K H v .none) : v = .non := by cases h; rfl
/-- two lists, one behind the other, also locked ones -/
theorem op_catR : OpR X (binaryOp .Add) (fun x y H Q => ∃ l b xs zs, x = .ref l ∧ y = .ref b ∧ SqL X.K H l xs ∧ SqL X.K H b zs ∧ xs.length + zs.length ≤ sizeLine ∧ ∀ p, H p = none → Q (.ref p) (upd H p (.lst (xs ++ zs)))) := by
  intro pins s σ H x y v u Q I rx ry h
  obtain ⟨l, b, xs, zs, rfl, rfl, hH, hB, hz, q⟩ := h
  cases rx
  cases ry
  obtain ⟨its, r, pl, z⟩ := I.list hH
  obtain ⟨its2, r2, pl2, z2⟩ := I.list hB
  obtain ⟨⟨cls, dd, data, sl⟩, ho, hc, n, hd⟩ := pl.isList
  obtain ⟨⟨cls2, dd2, data2, sl2⟩, ho2, hc2, n2, hd2⟩ := pl2.isList
  simp only at hc hd hc2 hd2
  subst hc hd hc2 hd2
  have e : its.toArray ++ its2.toArray = (its ++ its2).toArray := by simp
  have l1 := r.length
  have l2 := r2.length
  refine concat_meets ⟨_, ho, rfl⟩ ⟨_, ho2, rfl⟩ noFill_list_add seq_list_add PySem.F.slot_list_add PySem.F.entry_list_add (PySem.F.args_list_add_2 _ _) (list_addW l b its.toArray its2.toArray n n2 dd dd2 sl sl2 (by rw [List.size_toArray, List.size_toArray]; omega)) ⟨ho, ho2, ?_⟩
  rw [e]
  exact ⟨.ref _, _, I.lnew (t' := s.toks) (r.append r2) (by rw [List.length_append]; omega), rfl, q _ I.fresh⟩
def bopO : BOp → Operator
  | .add => .Add
  | .sub => .Sub
  | .mul => .Mult
  | .fdiv => .FloorDiv
  | .mod => .Mod
  | .pow => .Pow
  | .shl => .LShift
  | .shr => .RShift
  | .band => .BitAnd
theorem bopIs_eq {op : BOp} {o : Operator} (ho : bopIs op o = true) : o = bopO op := by
  cases op <;> cases o <;> first | rfl | exact (Bool.noConfusion ho)
theorem binI_ok {op : BOp} {i j : Int} {Kk : Int → Prop} (I : Inv X pins σ H s) (rx : RelV (.int i) v) (ry : RelV (.int j) u) (h : binI op i j Kk) (q : ∀ z, Kk z → Q (.int z) H) :
    wpAny (model X.prog X.w) X.A (binaryOp (bopO op) v u) (EP X pins σ Q) X.xe s := by
  cases op with
  | add => exact op_add pins s σ H _ _ v u Q I rx ry ⟨i, j, rfl, rfl, q _ h⟩
  | sub => exact op_sub pins s σ H _ _ v u Q I rx ry ⟨i, j, rfl, rfl, q _ h⟩
  | mul => exact op_mul pins s σ H _ _ v u Q I rx ry ⟨i, j, rfl, rfl, h.1, q _ h.2⟩
  | fdiv => exact op_fdivW pins s σ H _ _ v u Q I rx ry ⟨i, j, rfl, rfl, h.1, q _ h.2⟩
  | mod => exact op_mod pins s σ H _ _ v u Q I rx ry ⟨i, j, rfl, rfl, h.1, q _ h.2⟩
  | pow => exact op_pow pins s σ H _ _ v u Q I rx ry ⟨i, j, rfl, rfl, h.1, q _ h.2⟩
  | shl => exact op_shl pins s σ H _ _ v u Q I rx ry ⟨i, j, rfl, rfl, h.1, q _ h.2⟩
  | shr => exact op_shr pins s σ H _ _ v u Q I rx ry ⟨i, j, rfl, rfl, h.1, q _ h.2⟩
  | band => exact op_and pins s σ H _ _ v u Q I rx ry ⟨i, j, rfl, rfl, q _ h⟩
theorem RpAll.append {K : PySem.W.Frag} {H : Hp} : ∀ {vs ws : List V} {xs ys : List PyData}, RpAll K H vs xs → RpAll K H ws ys → RpAll K H (vs ++ ws) (xs ++ ys)
  | _, _, _, _, .nil, h => h
  | _, _, _, _, .cons a b, h => .cons a (RpAll.append b h)
theorem rep_ok {K : PySem.W.Frag} {Hs : Hp} {vs : List V} {ds : List PyData} (h : RpAll K Hs vs ds) : ∀ n : Nat, RpAll K Hs (List.replicate n vs).flatten (List.replicate n ds).flatten
  | 0 => .nil
  | n + 1 => by
    rw [List.replicate_succ, List.flatten_cons, List.replicate_succ, List.flatten_cons]
    exact h.append (rep_ok h n)
theorem op_binW {op : BOp} (I : Inv X pins σ H2 s) (rx : RelV x v) (ry : RelV y u) (R2 : Rel X.K B Hs2 H2 σ sl2 ((tp ++ nw1) ++ nw2)) (r1 : RR ra x sl2 nw1) (r2 : RR rb y sl2 nw2) (st : Stp pu H H2 sl sl2) (hk : Cont X B σ tp pu H sl P Q) (h : binW op ra rb (TA.tl sl2) P) :
    wpAny (model X.prog X.w) X.A (binaryOp (bopO op) v u) (EP X pins σ Q) X.xe s := by
  have R1 := R2.drop
  have R0 := R1.drop
  unfold binW at h
  split at h
  · rename_i i j e1 e2
    have a1 := (r1.dpT R1 e1).2.int_v
    have a2 := (r2.dpT R2 e2).2.int_v
    subst a1 a2
    exact binI_ok I rx ry h fun z hz => hk.leaf R0 (.int z) st hz
  · rename_i i j e1 e2
    have a1 := (r1.dpT R1 e1).2.str_v
    have a2 := (r2.dpT R2 e2).2.str_v
    subst a1 a2
    obtain ⟨rfl, hz, h⟩ := h
    exact op_add_str pins s σ H2 _ _ v u Q I rx ry ⟨i, j, rfl, rfl, hz, hk.leaf R0 (.str _) st h⟩
  · rename_i xs ys e1 e2
    obtain ⟨rfl, hz, h⟩ := h
    have d1 := (r1.dpT R1 e1).1
    have d2 := (r2.dpT R2 e2).1
    cases d1 with
    | tup h1 a1 =>
      cases d2 with
      | tup h2 a2 =>
        have l1 := a1.length
        have l2 := a2.length
        refine op_catA pins s σ H2 _ _ v u Q I rx ry ⟨_, _, _, _, rfl, rfl, SqT.mono R2.sub h1, SqT.mono R2.sub h2, by omega, fun e => ?_, fun e1 e2 => ?_, fun _ _ p hp => ?_⟩
        · subst e
          have e3 : xs = [] := by cases a1; rfl
          subst e3
          exact hk.leaf R0 (.tup h2 a2) st h
        · subst e2
          have e3 : ys = [] := by cases a2; rfl
          subst e3
          rw [List.append_nil] at h
          exact hk.leaf R0 (.tup h1 a1) st h
        · exact hk.tup R0 hp (a1.append a2) st h
  · rename_i ts j e1 e2
    obtain ⟨rfl, h⟩ := h
    split at h
    · rename_i xs hl
      obtain ⟨b1, b2, hz, h⟩ := h
      obtain ⟨a, us, rfl, e3, e4, e5, _, _⟩ := r1.node R1 e1
      have a2 := (r2.dpT R2 e2).2.int_v
      subst a2
      rw [← e3] at hl
      obtain ⟨f1, f2, f3⟩ := leaves_of hl
      have ra := rep_ok (f3 e5) j.toNat
      obtain ⟨g1, g2, g3, g4⟩ := leafs_ok (H := H2) ra
      have lz : (us.map TA.v).length = xs.length := (f3 e5).length
      refine op_rep pins s σ H2 _ _ v u Q I rx ry ⟨a, j, _, rfl, rfl, e4, b1, b2, by rw [lz]; exact hz, fun p hp => ?_⟩
      have := hk.lst (R0.leaves g1 g2) hp st (by rw [g3]; exact h)
      rw [g4] at this
      exact this
    · exact h.elim
  · obtain ⟨rfl, h⟩ := h
    split at h
    · rename_i ts us e1 e2
      obtain ⟨hz, h⟩ := h
      obtain ⟨a, as1, rfl, t1, d1, o1, s1⟩ := r1.kids R1 e1
      obtain ⟨b, as2, rfl, t2, d2, o2, s2⟩ := r2.kids R2 e2
      have len1 : (as1.map TA.v).length = ts.length := by rw [← t1, TA.tl_map]; simp
      have len2 : (as2.map TA.v).length = us.length := by rw [← t2, TA.tl_map]; simp
      refine op_catR pins s σ H2 _ _ v u Q I rx ry ⟨a, b, _, _, rfl, rfl, d1, d2, by rw [len1, len2]; exact hz, fun p hp => ?_⟩
      have R3 : Rel X.K B Hs2 H2 σ sl2 (tp ++ (as1 ++ as2)) := by
        refine R2.tempsS (TA.okl_append.mpr ⟨R0.okT, TA.okl_append.mpr ⟨o1, o2⟩⟩) ?_
        rw [TA.fpl_append, TA.fpl_append, TA.fpl_append, TA.fpl_append, List.append_assoc]
        exact (List.Sublist.refl _).append (s1.append s2)
      have := hk.lst R3 hp st (by rw [TA.tl_map, List.map_append, ← TA.tl_map, ← TA.tl_map, t1, t2]; exact h)
      rw [List.map_append] at this
      exact this
    · exact h.elim
theorem Rp.eqV {K : PySem.W.Frag} {H : Hp} {v w : V} {a b : PyData} (h1 : Rp K H v a) (h2 : Rp K H w b) (f1 : flatD a = true) (f2 : flatD b = true) : eqV v w = PyData.eqv a b ∧ flatV v = true ∧ flatV w = true := by
  cases h1 <;> cases h2 <;> first | (exact (Bool.noConfusion f1)) | (exact (Bool.noConfusion f2)) | exact ⟨rfl, rfl, rfl⟩
theorem all_flat {K : PySem.W.Frag} {H : Hp} : ∀ {vs : List V} {xs : List PyData}, RpAll K H vs xs → xs.all flatD = true → vs.all flatV = true
  | _, _, .nil, _ => rfl
  | _, _, .cons a b, h => by
    simp only [List.all_cons, Bool.and_eq_true] at h ⊢
    exact ⟨(a.eqV a h.1 h.1).2.1, all_flat b h.2⟩
theorem any_eqV {K : PySem.W.Frag} {H : Hp} {w : V} {x : PyData} (hx : Rp K H w x) (fx : flatD x = true) : ∀ {vs : List V} {xs : List PyData}, RpAll K H vs xs → xs.all flatD = true → inV w vs = xs.any fun z => PyData.eqv z x
  | _, _, .nil, _ => rfl
  | _, _, .cons a b, h => by
    simp only [List.all_cons, Bool.and_eq_true] at h
    have := any_eqV hx fx b h.2
    unfold inV at this ⊢
    rw [List.any_cons, List.any_cons, this, (a.eqV hx h.1 fx).1]
end
def copO : COp → CmpOp
  | .lt => .Lt
  | .le => .LtE
  | .gt => .Gt
  | .ge => .GtE
  | .eq => .Eq
  | .ne => .NotEq
  | .isin => .In
  | .notin => .NotIn
  | .is => .Is
  | .isnot => .IsNot
theorem copIs_eq {op : COp} {o : CmpOp} (ho : copIs op o = true) : o = copO op := by
  cases op <;> cases o <;> first | rfl | exact (Bool.noConfusion ho)
section
variable {X : Cx} {pins : List (Addr × Obj)} {s : Shared} {σ : L2.St} {H H2 Hs2 : Hp} {B : Bs} {sl sl2 tp nw nw1 nw2 as : List TA} {P : R → St → Prop} {Q : VK} {pu : Bool} {ra rb : R} {x y : V} {v u : Value}
theorem isNone_of {K : PySem.W.Frag} {Hs : Hp} {c : TA} (ok : c.ok K Hs H) (hd : c.isDead = false) : decide (c.v = .non) = c.t.isNone := by
  cases c with
  | dead => cases hd
  | nd k a ts => rfl
  | d w z =>
    rw [TA.ok] at ok
    cases ok <;> rfl
theorem eqW_ok {a b : PyData} {Kk : Bool → Prop} {neg : Bool} (hu : X.A.units + 64 < cLine) (I : Inv X pins σ H s) (rx : RelV x v) (ry : RelV y u) (h1 : Rp X.K H x a) (h2 : Rp X.K H y b) (h : eqW a b Kk) (q : ∀ z, Kk z → Q (.bl (if neg = true then !z else z)) H) :
    wpAny (model X.prog X.w) X.A (compareOp (if neg = true then .NotEq else .Eq) v u) (EP X pins σ Q) X.xe s := by
  unfold eqW at h
  split at h
  · have e1 := h1.int_v
    have e2 := h2.int_v
    subst e1 e2
    rename_i i j
    have ed : decide (V.int i = V.int j) = decide (i = j) := by simp
    cases neg with
    | false => exact op_eq pins s σ H _ _ v u Q I rx ry ⟨rfl, by rw [ed]; exact q _ h⟩
    | true => exact op_ne pins s σ H _ _ v u Q I rx ry ⟨rfl, by rw [ed]; exact q _ h⟩
  · have e1 := h1.str_v
    have e2 := h2.str_v
    subst e1 e2
    rename_i i j
    have ed : decide (V.str i = V.str j) = decide (i = j) := by simp
    cases neg with
    | false => exact op_eq pins s σ H _ _ v u Q I rx ry ⟨rfl, by rw [ed]; exact q _ h⟩
    | true => exact op_ne pins s σ H _ _ v u Q I rx ry ⟨rfl, by rw [ed]; exact q _ h⟩
  · obtain ⟨s1, s2, h⟩ := h
    have d1 := h1.dp (SeqAt.canLay_of_shaped s1)
    have d2 := h2.dp (SeqAt.canLay_of_shaped s2)
    cases neg with
    | false => exact op_eqD hu pins s σ H _ _ v u Q I rx ry ⟨a, b, d1, d2, s1, s2, q _ h⟩
    | true => exact op_neD hu pins s σ H _ _ v u Q I rx ry ⟨a, b, d1, d2, s1, s2, q _ h⟩
theorem inW_ok {a b : PyData} {Kk : Bool → Prop} {neg : Bool} (I : Inv X pins σ H s) (rx : RelV x v) (ry : RelV y u) (h1 : Rp X.K H x a) (h2 : Rp X.K H y b) (h : inW a b Kk) (q : ∀ z, Kk z → Q (.bl (if neg = true then !z else z)) H) :
    wpAny (model X.prog X.w) X.A (compareOp (if neg = true then .NotIn else .In) v u) (EP X pins σ Q) X.xe s := by
  unfold inW at h
  split at h
  · obtain ⟨f1, f2, h⟩ := h
    cases h2 with
    | lst hr ha =>
      have e := any_eqV h1 f1 ha f2
      have fx := (h1.eqV h1 f1 f1).2.1
      cases neg with
      | false => exact op_in_seq pins s σ H _ _ v u Q I rx ry ⟨_, _, rfl, .inl hr, fx, all_flat ha f2, by simp only [Bool.false_eq_true, if_false]; rw [e]; exact q _ h⟩
      | true => exact op_notIn_seq pins s σ H _ _ v u Q I rx ry ⟨_, _, rfl, .inl hr, fx, all_flat ha f2, by simp only [if_true]; rw [e]; exact q _ h⟩
  · obtain ⟨f1, f2, h⟩ := h
    cases h2 with
    | tup hr ha =>
      have e := any_eqV h1 f1 ha f2
      have fx := (h1.eqV h1 f1 f1).2.1
      cases neg with
      | false => exact op_in_seq pins s σ H _ _ v u Q I rx ry ⟨_, _, rfl, .inr hr, fx, all_flat ha f2, by simp only [Bool.false_eq_true, if_false]; rw [e]; exact q _ h⟩
      | true => exact op_notIn_seq pins s σ H _ _ v u Q I rx ry ⟨_, _, rfl, .inr hr, fx, all_flat ha f2, by simp only [if_true]; rw [e]; exact q _ h⟩
  · split at h
    · have e1 := h1.str_v
      have e2 := h2.str_v
      subst e1 e2
      cases neg with
      | false => exact op_in_str pins s σ H _ _ v u Q I rx ry ⟨_, _, rfl, rfl, q _ h⟩
      | true => exact op_notin_str pins s σ H _ _ v u Q I rx ry ⟨_, _, rfl, rfl, q _ h⟩
    · exact h.elim
  · exact h.elim
theorem isW_ok {a b : TA} {Hs : Hp} {Kk : Bool → Prop} {neg : Bool} (I : Inv X pins σ H s) (rx : RelV a.v v) (ry : RelV b.v u) (h1 : a.ok X.K Hs H) (d1 : a.isDead = false) (h2 : b.ok X.K Hs H) (h : isW a.t b.t Kk) (q : ∀ z, Kk z → Q (.bl (if neg = true then !z else z)) H) :
    wpAny (model X.prog X.w) X.A (compareOp (if neg = true then .IsNot else .Is) v u) (EP X pins σ Q) X.xe s := by
  unfold isW at h
  split at h
  · rename_i p r e1 e2
    obtain ⟨w1, rfl⟩ := ta_d e1
    obtain ⟨w2, rfl⟩ := ta_d e2
    rw [TA.ok] at h1 h2
    have e1 := h1.bool_v
    have e2 := h2.bool_v
    subst e1 e2
    cases neg with
    | false => exact op_isBl pins s σ H _ _ v u Q I rx ry ⟨p, r, rfl, rfl, q _ h⟩
    | true => exact op_notBl pins s σ H _ _ v u Q I rx ry ⟨p, r, rfl, rfl, q _ h⟩
  · rename_i e2
    obtain ⟨w2, rfl⟩ := ta_d e2
    rw [TA.ok] at h2
    have e2 := h2.none_v
    subst e2
    have e := isNone_of h1 d1
    cases neg with
    | false => exact op_isN pins s σ H _ _ v u Q I rx ry ⟨rfl, by rw [e]; exact q _ h⟩
    | true => exact op_notN pins s σ H _ _ v u Q I rx ry ⟨rfl, by rw [e]; exact q _ h⟩
  · exact h.elim
theorem op_cmpW {op : COp} {Kk : Bool → Prop} (hu : X.A.units + 64 < cLine) (I : Inv X pins σ H2 s) (rx : RelV x v) (ry : RelV y u) (R2 : Rel X.K B Hs2 H2 σ sl2 ((tp ++ nw1) ++ nw2)) (r1 : RR ra x sl2 nw1) (r2 : RR rb y sl2 nw2) (h : cmpW op ra rb (TA.tl sl2) Kk) (q : ∀ z, Kk z → Q (.bl z) H2) :
    wpAny (model X.prog X.w) X.A (compareOp (copO op) v u) (EP X pins σ Q) X.xe s := by
  have R1 := R2.drop
  have intsE : ∀ {i j : Int}, ra.get (TA.tl sl2) = some (.d (.int i)) → rb.get (TA.tl sl2) = some (.d (.int j)) → x = .int i ∧ y = .int j := fun e1 e2 => ⟨(r1.dpT R1 e1).2.int_v, (r2.dpT R2 e2).2.int_v⟩
  cases op with
  | eq =>
    simp only [cmpW] at h
    split at h
    · rename_i e1 e2
      exact eqW_ok (neg := false) hu I rx ry (r1.dp R1 e1) (r2.dp R2 e2) h fun z hz => q _ hz
    · exact h.elim
  | ne =>
    simp only [cmpW] at h
    split at h
    · rename_i e1 e2
      exact eqW_ok (neg := true) hu I rx ry (r1.dp R1 e1) (r2.dp R2 e2) h fun z hz => q _ hz
    · exact h.elim
  | isin =>
    simp only [cmpW] at h
    split at h
    · rename_i e1 e2
      exact inW_ok (neg := false) I rx ry (r1.dp R1 e1) (r2.dp R2 e2) h fun z hz => q _ hz
    · exact h.elim
  | notin =>
    simp only [cmpW] at h
    split at h
    · rename_i e1 e2
      exact inW_ok (neg := true) I rx ry (r1.dp R1 e1) (r2.dp R2 e2) h fun z hz => q _ hz
    · exact h.elim
  | is =>
    simp only [cmpW] at h
    split at h
    · rename_i e1 e2
      obtain ⟨c1, g1, rfl, g3, g4, _⟩ := r1.get R1
      obtain ⟨c2, k1, rfl, k3, k4, _⟩ := r2.get R2
      rw [g1] at e1
      rw [k1] at e2
      cases e1
      cases e2
      exact isW_ok (neg := false) I rx ry g4 g3 k4 h fun z hz => q _ hz
    · exact h.elim
  | isnot =>
    simp only [cmpW] at h
    split at h
    · rename_i e1 e2
      obtain ⟨c1, g1, rfl, g3, g4, _⟩ := r1.get R1
      obtain ⟨c2, k1, rfl, k3, k4, _⟩ := r2.get R2
      rw [g1] at e1
      rw [k1] at e2
      cases e1
      cases e2
      exact isW_ok (neg := true) I rx ry g4 g3 k4 h fun z hz => q _ hz
    · exact h.elim
  | lt =>
    simp only [cmpW] at h
    split at h
    · rename_i i j e1 e2
      obtain ⟨rfl, rfl⟩ := intsE e1 e2
      exact op_lt pins s σ H2 _ _ v u Q I rx ry ⟨i, j, rfl, rfl, q _ h⟩
    · exact h.elim
  | le =>
    simp only [cmpW] at h
    split at h
    · rename_i i j e1 e2
      obtain ⟨rfl, rfl⟩ := intsE e1 e2
      exact op_le pins s σ H2 _ _ v u Q I rx ry ⟨i, j, rfl, rfl, q _ h⟩
    · exact h.elim
  | gt =>
    simp only [cmpW] at h
    split at h
    · rename_i i j e1 e2
      obtain ⟨rfl, rfl⟩ := intsE e1 e2
      exact op_gt pins s σ H2 _ _ v u Q I rx ry ⟨i, j, rfl, rfl, q _ h⟩
    · exact h.elim
  | ge =>
    simp only [cmpW] at h
    split at h
    · rename_i i j e1 e2
      obtain ⟨rfl, rfl⟩ := intsE e1 e2
      exact op_ge pins s σ H2 _ _ v u Q I rx ry ⟨i, j, rfl, rfl, q _ h⟩
    · exact h.elim
/-- truth -/
theorem truth_of {K : PySem.W.Frag} {Hs : Hp} {c : TA} {b : Bool} (sub : Same Hs H) (ok : c.ok K Hs H) (h : c.t.truth = some b) : TruV K c.v H b := by
  cases c with
  | dead => rw [TA.t, T.truth] at h; cases h; all_goals simp
  | d w z =>
    rw [TA.ok] at ok
    rw [TA.t] at h
    have ok' := ok.mono sub
    cases ok' with
    | non => simp only [T.truth, Option.some.injEq] at h; exact h.symm
    | bl k => simp only [T.truth, Option.some.injEq] at h; exact h.symm
    | int i => simp only [T.truth, Option.some.injEq] at h; exact h.symm
    | str z =>
      simp only [T.truth] at h
      split at h
      · rename_i hz
        simp only [Option.some.injEq] at h
        exact ⟨hz, h.symm⟩
      · cases h
    | lst hr ha =>
      simp only [T.truth, Option.some.injEq] at h
      refine .inl ⟨_, hr, ?_⟩
      rw [← h]
      cases ha <;> rfl
    | tup hr ha =>
      simp only [T.truth, Option.some.injEq] at h
      refine .inr (.inl ⟨_, hr, ?_⟩)
      rw [← h]
      cases ha <;> rfl
    | dct l hr ha => simp [T.truth] at h
  | nd k a ts =>
    rw [TA.ok] at ok
    rw [TA.t] at h
    cases k with
    | list =>
      simp only [T.truth, Option.some.injEq] at h
      refine .inl ⟨_, .inl (.inl ok.1), ?_⟩
      rw [← h, TA.tl_map]
      cases ts <;> rfl
    | tup => simp [T.truth] at h
    | tupw => simp [T.truth] at h
    | dict ks => simp [T.truth] at h
    | inst C ns => simp [T.truth] at h
    | exc n C => simp [T.truth] at h
    | rsd n => simp [T.truth] at h
theorem truW_of {Kk : Bool → Prop} (R1 : Rel X.K B Hs2 H2 σ sl2 (tp ++ nw)) (r1 : RR ra x sl2 nw) (h : truW ra (TA.tl sl2) Kk) : ∃ b, TruV X.K x H2 b ∧ Kk b := by
  obtain ⟨c, g1, rfl, g3, g4, _⟩ := r1.get R1
  unfold truW at h
  rw [g1] at h
  simp only at h
  split at h
  · rename_i b hb
    exact ⟨b, truth_of R1.sub g4 hb, h⟩
  · exact h.elim
/-- a value of two others, as a reading of values -/
def R2W (X : Cx) (w : R → R → St → (R → St → Prop) → Prop) : R2 := fun x y H2 Q => ∃ σ B Hs2 sl2 tp nw1 nw2 ra rb P H sl pu, Rel X.K B Hs2 H2 σ sl2 ((tp ++ nw1) ++ nw2) ∧ RR ra x sl2 nw1 ∧ RR rb y sl2 nw2 ∧ Stp pu H H2 sl sl2 ∧ w ra rb (TA.tl sl2) P ∧ Cont X B σ tp pu H sl P Q
theorem RpAll.atI {K : PySem.W.Frag} {H : Hp} {vs : List V} {xs : List PyData} {i : Int} {x : PyData} (h : RpAll K H vs xs) (e : L2.atI xs i = some x) : ∃ v, L2.atI vs i = some v ∧ Rp K H v x := by
  unfold L2.atI at e ⊢
  rw [h.length]
  cases q : ixN xs.length i with
  | none => rw [q] at e; cases e
  | some j =>
    rw [q] at e
    exact h.get (show xs[j]? = some x from e)
theorem ix_W : IxR X (R2W X ixW) := by
  intro value slice pins s σ' H2 x y v u Q I rx ry h hs
  obtain ⟨σ, B, Hs2, sl2, tp, nw1, nw2, ra, rb, P, H, sl, pu, R2, r1, r2, st, h, hk⟩ := h
  have R1 := R2.drop
  have R0 := R1.drop
  unfold ixW at h
  split at h
  · rename_i xs i e1 e2
    have a2 := (r2.dpT R2 e2).2.int_v
    subst a2
    have d1 := (r1.dpT R1 e1).1
    cases d1 with
    | lst hr ha =>
      split at h
      · rename_i z hz
        obtain ⟨w, hw, dw⟩ := ha.atI hz
        exact ix_list value slice pins s σ' H2 _ _ v u Q I rx ry ⟨_, _, i, w, rfl, rfl, SqL.mono R2.sub hr, hw, hk.leaf R0 dw st h⟩ hs
      · exact h.elim
  · rename_i xs i e1 e2
    have a2 := (r2.dpT R2 e2).2.int_v
    subst a2
    have d1 := (r1.dpT R1 e1).1
    cases d1 with
    | tup hr ha =>
      split at h
      · rename_i z hz
        obtain ⟨w, hw, dw⟩ := ha.atI hz
        exact ix_tup value slice pins s σ' H2 _ _ v u Q I rx ry ⟨_, _, i, w, rfl, rfl, SqT.mono R2.sub hr, hw, hk.leaf R0 dw st h⟩ hs
      · exact h.elim
  · rename_i z i e1 e2
    have a2 := (r2.dpT R2 e2).2.int_v
    have a1 := (r1.dpT R1 e1).2.str_v
    subst a1 a2
    obtain ⟨hz, h⟩ := h
    split at h
    · rename_i c hc
      exact ix_str value slice pins s σ' H2 _ _ v u Q I rx ry ⟨z, i, c, rfl, rfl, hz, hc, hk.leaf R0 (.str _) st h⟩ hs
    · exact h.elim
  · rename_i ts i e1 e2
    have a2 := (r2.dpT R2 e2).2.int_v
    subst a2
    obtain ⟨a, us, rfl, e3, e4, e5, e6, e7⟩ := r1.node R1 e1
    split at h
    · rename_i j hj
      have hj' : ixN (us.map TA.v).length i = some j := by rw [List.length_map]; rw [← e3, TA.tl_map, List.length_map] at hj; exact hj
      have go : ∀ c : TA, us[j]? = some c → Q c.v H2 → wpAny (model X.prog X.w) X.A (subscriptTail value slice v u) (EP X pins σ' Q) X.xe s := fun c hc q =>
        ix_list value slice pins s σ' H2 _ _ v u Q I rx ry ⟨a, _, i, c.v, rfl, rfl, SqL.of e4, by unfold atI; rw [hj']; show (us.map TA.v)[j]? = some c.v; rw [List.getElem?_map, hc]; rfl, q⟩ hs
      have tj : ts[j]? = (us[j]?).map TA.t := by rw [← e3]; exact tl_get us j
      split at h
      · rename_i d hd
        rw [tj] at hd
        obtain ⟨c, hc, hct⟩ := Option.map_eq_some_iff.mp hd
        obtain ⟨w, rfl⟩ := ta_d hct
        have okc := TA.okl_all.mp e5 _ (List.mem_of_getElem? hc)
        rw [TA.ok] at okc
        exact go _ hc (hk.leaf R0 okc st h)
      · rename_i k2 us2 hd
        rw [tj] at hd
        obtain ⟨c, hc, hct⟩ := Option.map_eq_some_iff.mp hd
        obtain ⟨a2, us3, rfl, e8⟩ := ta_nd hct
        cases ra with
        | v t =>
          have hn := e6 rfl
          subst hn
          exact go _ hc (hk (.v (.nd k2 us2)) _ Hs2 H2 sl2 [.nd k2 a2 us3] (R1.child hc) ⟨_, rfl, by rw [TA.t, e8], rfl, rfl⟩ st h)
        | p i0 q0 =>
          obtain ⟨t0, g1, g2⟩ := e7 i0 q0 rfl
          have hn : nw1 = [] := r1.1
          subst hn
          refine go _ hc (hk (.p i0 (q0 ++ [j])) _ Hs2 H2 sl2 [] (by simpa using R0) ⟨rfl, t0, _, g1, ?_, rfl, rfl⟩ st h)
          have : ∀ (q : List Nat) (t c' : TA), t.at q = some (.nd .list a us) → t.at (q ++ [j]) = some (.nd k2 a2 us3) := by
            intro q
            induction q with
            | nil =>
              intro t c' ht
              rw [TA.at] at ht
              cases ht
              show (TA.nd .list a us).at [j] = _
              simp only [TA.at, hc]
            | cons m q ih =>
              intro t c' ht
              cases t with
              | dead => cases ht
              | d _ _ => cases ht
              | nd kk aa tt =>
                rw [List.cons_append]
                rw [TA.at] at ht ⊢
                cases hm : tt[m]? with
                | none => rw [hm] at ht; cases ht
                | some b => rw [hm] at ht; exact ih b c' ht
          exact this q0 t0 (.dead .non) g2
      · exact h.elim
    · exact h.elim
  · rename_i ts i e1 e2
    have a2 := (r2.dpT R2 e2).2.int_v
    subst a2
    obtain ⟨a, us, rfl, e3, e4, e5, e6, e7⟩ := r1.node R1 e1
    split at h
    · rename_i j hj
      have hj' : ixN (us.map TA.v).length i = some j := by rw [List.length_map]; rw [← e3, TA.tl_map, List.length_map] at hj; exact hj
      have go : ∀ c : TA, us[j]? = some c → Q c.v H2 → wpAny (model X.prog X.w) X.A (subscriptTail value slice v u) (EP X pins σ' Q) X.xe s := fun c hc q =>
        ix_tup value slice pins s σ' H2 _ _ v u Q I rx ry ⟨a, _, i, c.v, rfl, rfl, SqT.of e4, by unfold atI; rw [hj']; show (us.map TA.v)[j]? = some c.v; rw [List.getElem?_map, hc]; rfl, q⟩ hs
      have tj : ts[j]? = (us[j]?).map TA.t := by rw [← e3]; exact tl_get us j
      split at h
      · rename_i d hd
        rw [tj] at hd
        obtain ⟨c, hc, hct⟩ := Option.map_eq_some_iff.mp hd
        obtain ⟨w, rfl⟩ := ta_d hct
        have okc := TA.okl_all.mp e5 _ (List.mem_of_getElem? hc)
        rw [TA.ok] at okc
        exact go _ hc (hk.leaf R0 okc st h)
      · rename_i k2 us2 hd
        rw [tj] at hd
        obtain ⟨c, hc, hct⟩ := Option.map_eq_some_iff.mp hd
        obtain ⟨a2, us3, rfl, e8⟩ := ta_nd hct
        cases ra with
        | v t =>
          have hn := e6 rfl
          subst hn
          exact go _ hc (hk (.v (.nd k2 us2)) _ Hs2 H2 sl2 [.nd k2 a2 us3] (R1.child hc) ⟨_, rfl, by rw [TA.t, e8], rfl, rfl⟩ st h)
        | p i0 q0 =>
          obtain ⟨t0, g1, g2⟩ := e7 i0 q0 rfl
          have hn : nw1 = [] := r1.1
          subst hn
          refine go _ hc (hk (.p i0 (q0 ++ [j])) _ Hs2 H2 sl2 [] (by simpa using R0) ⟨rfl, t0, _, g1, ?_, rfl, rfl⟩ st h)
          have : ∀ (q : List Nat) (t c' : TA), t.at q = some (.nd .tupw a us) → t.at (q ++ [j]) = some (.nd k2 a2 us3) := by
            intro q
            induction q with
            | nil =>
              intro t c' ht
              rw [TA.at] at ht
              cases ht
              show (TA.nd .tupw a us).at [j] = _
              simp only [TA.at, hc]
            | cons m q ih =>
              intro t c' ht
              cases t with
              | dead => cases ht
              | d _ _ => cases ht
              | nd kk aa tt =>
                rw [List.cons_append]
                rw [TA.at] at ht ⊢
                cases hm : tt[m]? with
                | none => rw [hm] at ht; cases ht
                | some b => rw [hm] at ht; exact ih b c' ht
          exact this q0 t0 (.dead .non) g2
      · exact h.elim
    · exact h.elim
  · rename_i ts i e1 e2
    have a2 := (r2.dpT R2 e2).2.int_v
    subst a2
    obtain ⟨a, us, rfl, e3, e4, e5, e6, e7⟩ := r1.node R1 e1
    split at h
    · rename_i j hj
      have hj' : ixN (us.map TA.v).length i = some j := by rw [List.length_map]; rw [← e3, TA.tl_map, List.length_map] at hj; exact hj
      have go : ∀ c : TA, us[j]? = some c → Q c.v H2 → wpAny (model X.prog X.w) X.A (subscriptTail value slice v u) (EP X pins σ' Q) X.xe s := fun c hc q =>
        ix_tup value slice pins s σ' H2 _ _ v u Q I rx ry ⟨a, _, i, c.v, rfl, rfl, SqT.of e4, by unfold atI; rw [hj']; show (us.map TA.v)[j]? = some c.v; rw [List.getElem?_map, hc]; rfl, q⟩ hs
      have tj : ts[j]? = (us[j]?).map TA.t := by rw [← e3]; exact tl_get us j
      split at h
      · rename_i d hd
        rw [tj] at hd
        obtain ⟨c, hc, hct⟩ := Option.map_eq_some_iff.mp hd
        obtain ⟨w, rfl⟩ := ta_d hct
        have okc := TA.okl_all.mp e5 _ (List.mem_of_getElem? hc)
        rw [TA.ok] at okc
        exact go _ hc (hk.leaf R0 okc st h)
      · exact h.elim
    · exact h.elim
  · exact h.elim
theorem cutL_map {α β : Type} (f : α → β) (xs : List α) (lo hi : Option Int) : cutL (xs.map f) lo hi = (cutL xs lo hi).map f := by
  unfold cutL
  rw [List.length_map, List.map_take, List.map_drop]
theorem cutL_V (xs : List V) (lo hi : Option Int) : cutL xs lo hi = cutV xs lo hi := rfl
theorem RpAll.drop {K : PySem.W.Frag} {H : Hp} : ∀ {vs : List V} {xs : List PyData} (n : Nat), RpAll K H vs xs → RpAll K H (vs.drop n) (xs.drop n)
  | _, _, 0, h => h
  | _, _, _ + 1, .nil => .nil
  | _, _, n + 1, .cons _ b => RpAll.drop n b
theorem RpAll.take {K : PySem.W.Frag} {H : Hp} : ∀ {vs : List V} {xs : List PyData} (n : Nat), RpAll K H vs xs → RpAll K H (vs.take n) (xs.take n)
  | _, _, 0, h => .nil
  | _, _, _ + 1, .nil => .nil
  | _, _, n + 1, .cons a b => .cons a (RpAll.take n b)
theorem RpAll.cut {K : PySem.W.Frag} {H : Hp} {vs : List V} {xs : List PyData} (h : RpAll K H vs xs) (lo hi : Option Int) : RpAll K H (cutV vs lo hi) (cutL xs lo hi) := by
  unfold cutV cutL
  rw [h.length]
  exact (h.drop _).take _
theorem fpl_sub {us us' : List TA} (h : us'.Sublist us) : (TA.fpl us').Sublist (TA.fpl us) := by
  induction h with
  | slnil => exact List.Sublist.refl _
  | cons a h ih => rw [TA.fpl]; exact ih.trans (List.sublist_append_right _ _)
  | cons_cons a h ih => rw [TA.fpl, TA.fpl]; exact (List.Sublist.refl _).append ih
theorem cutL_sub {α : Type} (xs : List α) (lo hi : Option Int) : (cutL xs lo hi).Sublist xs := (List.take_sublist _ _).trans (List.drop_sublist _ _)
theorem RR.cut {K : PySem.W.Frag} {B : Bs} {Hs H : Hp} {σ : L2.St} {sl tp nw : List TA} {r : R} {v : V} {lo hi : Option Int} {ts : List T} (h : RR r v sl nw) (R1 : Rel K B Hs H σ sl (tp ++ nw)) (hk : r.cut lo hi (TA.tl sl) = some ts) :
    ∃ a us, v = .ref a ∧ TA.tl (cutL us lo hi) = ts ∧ SqL K H a (us.map TA.v) ∧ TA.okl K Hs H us ∧ (TA.fpl (cutL us lo hi)).Sublist (TA.fpl nw) := by
  unfold R.cut at hk
  split at hk
  · rename_i xs e
    cases hk
    obtain ⟨d1, d2⟩ := h.dpT R1 e
    cases d1 with
    | lst hr ha =>
      obtain ⟨h1, h2, h3, h4⟩ := leafs_ok (H := H) ha
      refine ⟨_, _, rfl, by rw [TA.tl_map, ← cutL_map, ← TA.tl_map, h3], by rw [h4]; exact SqL.mono R1.sub hr, h1, (fpl_sub (cutL_sub _ lo hi)).trans ?_⟩
      rw [h2]
      exact List.nil_sublist _
  · rename_i us e
    obtain ⟨a, us', e1, e2, e3, e4, e5, e6⟩ := h.node R1 e
    have e7 : TA.tl (cutL us' lo hi) = cutL us lo hi := by rw [TA.tl_map, ← cutL_map, ← TA.tl_map, e2]
    cases r with
    | v t =>
      cases hk
      refine ⟨a, us', e1, e7, .inl (.inl e3), e4, (fpl_sub (cutL_sub _ lo hi)).trans ?_⟩
      rw [e5 rfl, fpl_one, TA.fp]
      exact List.sublist_cons_self _ _
    | p i q =>
      simp only at hk
      split at hk
      · rename_i hl
        cases hk
        obtain ⟨xs, hxs⟩ := Option.isSome_iff_exists.mp hl
        rw [← e7] at hxs
        obtain ⟨f1, f2, f3⟩ := leaves_of hxs
        exact ⟨a, us', e1, e7, .inl (.inl e3), e4, by rw [f1]; exact List.nil_sublist _⟩
      · cases hk
  · cases hk
/-- a slice of a result -/
def SlW (X : Cx) : V → Option Int → Option Int → Hp → VK → Prop := fun x lo hi H2 Q => ∃ σ B Hs2 sl2 tp nw1 ra P H sl pu, Rel X.K B Hs2 H2 σ sl2 (tp ++ nw1) ∧ RR ra x sl2 nw1 ∧ Stp pu H H2 sl sl2 ∧ slW ra lo hi (TA.tl sl2) P ∧ Cont X B σ tp pu H sl P Q
theorem sl_W : SlR X (SlW X) := by
  intro pins s σ' H2 x v vl vu lo hi sa Q I rx hs pl pu' h
  obtain ⟨σ, B, Hs2, sl2, tp, nw1, ra, P, H, sl, pu, R1, r1, st, h, hk⟩ := h
  have R0 := R1.drop
  unfold slW at h
  split at h
  · rename_i xs e1
    have d1 := (r1.dpT R1 e1).1
    cases d1 with
    | tup hr ha =>
      rename_i a vs
      refine sl_tupA pins s σ' H2 _ v vl vu lo hi sa Q I rx hs pl pu' ⟨_, _, rfl, SqT.mono R1.sub hr, fun hw => ?_, fun hw p hp => ?_⟩
      · have e : cutL xs lo hi = xs := by
          have hl := ha.length
          unfold cutL
          rw [← hl, hw.1, hw.2]
          simp [hl]
        rw [e] at h
        exact hk.leaf R0 (.tup hr ha) st h
      · exact hk.tup R0 hp (ha.cut lo hi) st h
  · rename_i z e1
    have d1 := (r1.dpT R1 e1).1
    cases d1
    exact sl_str pins s σ' H2 _ v vl vu lo hi sa Q I rx hs pl pu' ⟨_, rfl, h.1, hk.leaf R0 (.str _) st h.2⟩
  · split at h
    · rename_i ts hts
      obtain ⟨a, us, rfl, t1, d1, o1, s1⟩ := r1.cut R1 hts
      refine sl_list pins s σ' H2 _ v vl vu lo hi sa Q I rx hs pl pu' ⟨a, _, rfl, d1, fun p hp => ?_⟩
      have R3 : Rel X.K B Hs2 H2 σ sl2 (tp ++ cutL us lo hi) := by
        refine R1.tempsS (TA.okl_append.mpr ⟨R0.okT, TA.okl_all.mpr fun t ht => TA.okl_all.mp o1 t ((cutL_sub us lo hi).subset ht)⟩) ?_
        rw [TA.fpl_append, TA.fpl_append]
        exact (List.Sublist.refl _).append s1
      have := hk.lst R3 hp st (by rw [t1]; exact h)
      rw [← cutL_map, cutL_V] at this
      exact this
    · exact h.elim
end
theorem tl_set (sl : List TA) (i : Nat) (x : TA) : TA.tl (sl.set i x) = (TA.tl sl).set i x.t := by rw [TA.tl_map, TA.tl_map, List.map_set]
theorem tl_app (a b : List TA) : TA.tl (a ++ b) = TA.tl a ++ TA.tl b := by rw [TA.tl_map, TA.tl_map, TA.tl_map, List.map_append]
theorem tl_len (a : List TA) : (TA.tl a).length = a.length := by rw [TA.tl_map, List.length_map]
theorem tl_putS {sl : List TA} {i : Nat} {t s : TA} {q : List Nat} (h : sl[i]? = some t) : TA.tl (sl.set i (t.put s q)) = putS (TA.tl sl) i q s.t := by
  unfold putS
  rw [tl_set, tl_get, h, TA.put_t]
  rfl
/-- as RR, of a place that may be gone -/
def RR' (r : R) (v : V) (sl nw : List TA) : Prop := match r with
  | .v t => ∃ x, nw = [x] ∧ x.t = t ∧ x.v = v ∧ x.isDead = false
  | .p i q => nw = [] ∧ ∀ t c, sl[i]? = some t → t.at q = some c → c.v = v
theorem RR.weak {r : R} {v : V} {sl nw : List TA} (h : RR r v sl nw) : RR' r v sl nw := by
  cases r with
  | v t => exact h
  | p i q =>
    obtain ⟨e, t, c, h1, h2, h3, h4⟩ := h
    refine ⟨e, fun t' c' g1 g2 => ?_⟩
    rw [h1] at g1
    cases g1
    rw [h2] at g2
    cases g2
    exact h3
theorem TA.put_at {v : V} {y : PyData} : ∀ (q q' : List Nat) (t c c' : TA), t.at q = some c → c.v = v → (t.put (.d v y) q).at q' = some c' → ∃ c'', t.at q' = some c'' ∧ c''.v = c'.v
  | [], [], t, c, c', h, hv, h' => by
    rw [TA.at] at h
    cases h
    rw [TA.put, TA.at] at h'
    cases h'
    exact ⟨t, rfl, hv⟩
  | [], j :: q', t, c, c', h, hv, h' => by
    rw [TA.put, TA.at] at h'
    cases h'
    simp
  | j :: q, [], t, c, c', h, hv, h' => by
    rw [TA.at] at h'
    cases h'
    exact ⟨t, rfl, (TA.put_v (.d v y) (j :: q) t c h hv.symm).symm⟩
  | j :: q, j' :: q', t, c, c', h, hv, h' => by
    cases t with
    | dead => cases h
    | d _ _ => cases h
    | nd k a ts =>
      rw [TA.at] at h
      cases e : ts[j]? with
      | none => rw [e] at h; cases h
      | some b =>
        rw [e] at h
        simp only [TA.put, e] at h'
        rw [TA.at] at h' ⊢
        have hj : j < ts.length := (List.getElem?_eq_some_iff.mp e).1
        by_cases hjj : j' = j
        · subst hjj
          rw [List.getElem?_set_self hj] at h'
          rw [e]
          exact TA.put_at q q' b c c' h hv h'
        · rw [List.getElem?_set_ne (Ne.symm hjj)] at h'
          cases e2 : ts[j']? with
          | none => rw [e2] at h'; cases h'
          | some b2 => rw [e2] at h'; exact ⟨c', h', rfl⟩
section
variable {K : PySem.W.Frag} {B : Bs} {Hs H Hs' H' : Hp} {σ : L2.St} {sl sl' tp nw rest : List TA} {pu : Bool} {r r' : R} {v v' : V}
theorem frz_live {i : Nat} {t c : TA} {q : List Nat} {y : PyData} (h1 : sl[i]? = some t) (h2 : t.at q = some c) (hd : c.isDead = false) : ∀ (j : Nat) u, sl[j]? = some u → u.isDead = false → ∃ u', (sl.set i (t.put (.d c.v y) q))[j]? = some u' ∧ u'.isDead = false := fun j u hu hud => by
  have hi : i < sl.length := (List.getElem?_eq_some_iff.mp h1).1
  by_cases hj : j = i
  · subst hj
    rw [h1] at hu
    cases hu
    refine ⟨_, List.getElem?_set_self hi, ?_⟩
    cases q with
    | nil => rfl
    | cons m q =>
      cases t with
      | dead => cases hud
      | d _ _ => rfl
      | nd k a ts => rw [TA.put]; cases ts[m]? <;> rfl
  · exact ⟨u, by rw [List.getElem?_set_ne (Ne.symm hj)]; exact hu, hud⟩
/-- a result is made a value of one's own -/
theorem toV_ok {Kk : T → St → Prop} (R1 : Rel K B Hs H σ sl (tp ++ (nw ++ rest))) (rr : RR' r v sl nw) (h : toV pu r (TA.tl sl) Kk) :
    ∃ (x : TA) (Hs' : Hp) (sl' : List TA), Rel K B Hs' H σ sl' (tp ++ ([x] ++ rest)) ∧ x.v = v ∧ x.isDead = false ∧ Stp pu H H sl sl' ∧ Kk x.t (TA.tl sl') ∧ ∀ r' v' nw', RR' r' v' sl nw' → RR' r' v' sl' nw' := by
  cases r with
  | v t =>
    obtain ⟨x, e1, e2, e3, e4⟩ := rr
    subst e1
    exact ⟨x, Hs, sl, R1, e3, e4, .refl, by rw [e2]; exact h, fun _ _ _ z => z⟩
  | p i q =>
    obtain ⟨e1, rr⟩ := rr
    subst e1
    obtain ⟨hpu, h⟩ := h
    subst hpu
    split at h
    · rename_i y hy
      unfold R.data R.get at hy
      simp only at hy
      rw [tl_get] at hy
      cases h1 : sl[i]? with
      | none => rw [h1] at hy; cases hy
      | some t =>
        rw [h1] at hy
        simp only [Option.map_some, TA.at_t] at hy
        cases h2 : t.at q with
        | none => rw [h2] at hy; cases hy
        | some c =>
          rw [h2] at hy
          simp only [Option.map_some] at hy
          have hcd : c.isDead = false := by
            cases c with
            | dead => rw [TA.t, T.data] at hy; cases hy
            | d _ _ => rfl
            | nd _ _ _ => rfl
          have hv : c.v = v := rr t c h1 h2
          obtain ⟨R2, dp⟩ := R1.frzP h1 h2 hcd hy
          refine ⟨.d c.v y, frzH Hs H c.fp, sl.set i (t.put (.d c.v y) q), ?_, hv, rfl, ⟨fun z => (by cases z), frz_live h1 h2 hcd⟩, ?_, fun r' v' nw' rr' => ?_⟩
          · refine R2.tempsS ?_ ?_
            · have := TA.okl_append.mp R2.okT
              rw [List.nil_append] at this
              refine TA.okl_append.mpr ⟨this.1, TA.okl_append.mpr ⟨?_, this.2⟩⟩
              rw [TA.okl, TA.ok, TA.okl]
              exact ⟨dp, trivial⟩
            · rw [List.nil_append, TA.fpl_append, TA.fpl_append, TA.fpl_append, fpl_one, TA.fp, List.nil_append]
              exact List.Sublist.refl _
          · rw [tl_putS h1]
            exact h
          · cases r' with
            | v t => exact rr'
            | p i' q' =>
              obtain ⟨z1, z2⟩ := rr'
              refine ⟨z1, fun t' c' g1 g2 => ?_⟩
              by_cases hi : i' = i
              · subst hi
                rw [List.getElem?_set_self (List.getElem?_eq_some_iff.mp h1).1] at g1
                cases g1
                obtain ⟨c'', k1, k2⟩ := TA.put_at q q' t c c' h2 rfl g2
                rw [← k2]
                exact z2 t c'' h1 k1
              · rw [List.getElem?_set_ne (Ne.symm hi)] at g1
                exact z2 t' c' g1 g2
    · exact h.elim
/-- several results -/
inductive RRs' (sl : List TA) : List R → List V → List (List TA) → Prop
  | nil : RRs' sl [] [] []
  | cons {r : R} {v : V} {nw : List TA} {rs : List R} {vs : List V} {nws : List (List TA)} : RR' r v sl nw → RRs' sl rs vs nws → RRs' sl (r :: rs) (v :: vs) (nw :: nws)
theorem RRs.weak : ∀ {rs : List R} {vs : List V} {nws : List (List TA)}, RRs sl rs vs nws → RRs' sl rs vs nws
  | _, _, _, .nil => .nil
  | _, _, _, .cons a b => .cons a.weak b.weak
theorem RRs'.map (f : ∀ r v nw, RR' r v sl nw → RR' r v sl' nw) : ∀ {rs : List R} {vs : List V} {nws : List (List TA)}, RRs' sl rs vs nws → RRs' sl' rs vs nws
  | _, _, _, .nil => .nil
  | _, _, _, .cons a b => .cons (f _ _ _ a) (RRs'.map f b)
theorem toVs_ok {rs : List R} : ∀ {vs : List V} {nws : List (List TA)} {Hs : Hp} {sl tp : List TA} {Kk : List T → St → Prop}, Rel K B Hs H σ sl (tp ++ nws.flatten) → RRs' sl rs vs nws → toVs pu rs (TA.tl sl) Kk →
    ∃ (xs : List TA) (Hs' : Hp) (sl' : List TA), Rel K B Hs' H σ sl' (tp ++ xs) ∧ xs.map TA.v = vs ∧ Stp pu H H sl sl' ∧ Kk (TA.tl xs) (TA.tl sl') := by
  induction rs with
  | nil =>
    intro vs nws Hs sl tp Kk R1 rr h
    cases rr
    exact ⟨[], Hs, sl, R1, rfl, .refl, h⟩
  | cons r rs ih =>
    intro vs nws Hs sl tp Kk R1 rr h
    cases rr with
    | @cons _ v nw _ vs nws a b =>
      rw [List.flatten_cons] at R1
      rw [toVs] at h
      obtain ⟨x, Hs1, sl1, R2, e1, e2, st1, h1, f⟩ := toV_ok R1 a h
      have R3 : Rel K B Hs1 H σ sl1 ((tp ++ [x]) ++ nws.flatten) := by rw [List.append_assoc]; exact R2
      obtain ⟨xs, Hs2, sl2, R4, e3, st2, h2⟩ := ih R3 (b.map f) h1
      refine ⟨x :: xs, Hs2, sl2, ?_, by rw [List.map_cons, e1, e3], st1.trans st2 id, h2⟩
      rw [List.append_assoc] at R4
      exact R4
/-- a list at a place -/
theorem atList_ok {Kk : List T → (List T → St) → Prop} (rr : RR' r v sl nw) (h : atList r (TA.tl sl) Kk) : ∃ i q t a us, r = .p i q ∧ nw = [] ∧ sl[i]? = some t ∧ t.at q = some (.nd .list a us) ∧ v = .ref a ∧ Kk (TA.tl us) fun us' => putS (TA.tl sl) i q (.nd .list us') := by
  unfold atList at h
  cases r with
  | v t => exact h.elim
  | p i q =>
    simp only at h
    split at h
    · rename_i ts hts
      unfold R.get at hts
      simp only at hts
      rw [tl_get] at hts
      cases h1 : sl[i]? with
      | none => rw [h1] at hts; cases hts
      | some t =>
        rw [h1] at hts
        simp only [Option.map_some, TA.at_t] at hts
        cases h2 : t.at q with
        | none => rw [h2] at hts; cases hts
        | some c =>
          rw [h2] at hts
          obtain ⟨a, us, rfl, e⟩ := ta_nd (Option.some.inj hts)
          refine ⟨i, q, t, a, us, rfl, rr.1, h1, h2, (rr.2 t _ h1 h2).symm, ?_⟩
          rw [e]
          exact h
    · exact h.elim
/-- a list at a place is changed -/
theorem Rel.chg {i : Nat} {q : List Nat} {t : TA} {a : Addr} {us us' xs : List TA} (R1 : Rel K B Hs H σ sl (tp ++ xs)) (h1 : sl[i]? = some t) (h2 : t.at q = some (.nd .list a us)) (ok : TA.okl K Hs H us') (sub : ∀ b ∈ TA.fpl us', b ∈ TA.fpl us ∨ b ∈ TA.fpl xs) (uq : (TA.fpl us').Nodup)
    (hn : TA.noTupl us' = true) : Rel K B Hs (upd H a (.lst (us'.map TA.v))) σ (sl.set i (t.put (.nd .list a us') q)) tp ∧ TA.tl (sl.set i (t.put (.nd .list a us') q)) = putS (TA.tl sl) i q (.nd .list (TA.tl us')) := by
  have okc := TA.at_ok q t _ h2 (R1.slot_ok h1)
  rw [TA.ok] at okc
  have hanot : a ∉ TA.fpl us' := fun z => by
    have hu := R1.uq
    obtain ⟨l1, l2, e1, e2⟩ := Rel.lens (tp := tp ++ xs) h1 h2
    rw [e1] at hu
    have nm := nodup_mid hu
    rw [TA.fp, List.nodup_cons] at nm
    rcases sub a z with y | y
    · exact nm.2.1.1 y
    · have u3 := R1.uq
      rw [TA.fpl_append, TA.fpl_append, ← List.append_assoc, List.nodup_append] at u3
      refine u3.2.2 a ?_ a y rfl
      obtain ⟨g1, g2, ge, _⟩ := TA.lens q t _ h2
      exact List.mem_append_left _ (fpl_mem (List.mem_of_getElem? h1) (by rw [ge, TA.fp]; simp))
  refine ⟨R1.put h1 h2 rfl (fun e _ => by subst e; rw [TA.at] at h2; cases h2; exact R1.val i (.nd .list a us) h1 rfl) ?_ ?_ ?_ ?_ ?_, ?_⟩
  · simp only [TA.noTup, Kd.isTup, Bool.not_false, Bool.true_and]; exact hn
  · intro b hb
    exact upd_ne fun z => hb (by rw [z, TA.fp]; exact List.mem_cons_self)
  · rw [TA.ok]
    refine ⟨show upd H a (.lst (us'.map TA.v)) a = some (.lst (us'.map TA.v)) from upd_same, TA.okl_mono (Same.refl _) _ ok fun b hb => upd_ne fun z => hanot (z ▸ hb)⟩
  · rw [TA.fp]
    exact List.nodup_cons.mpr ⟨hanot, uq⟩
  · intro b hb
    rw [TA.fp] at hb
    rcases List.mem_cons.mp hb with rfl | hb
    · exact .inl (by rw [TA.fp]; exact List.mem_cons_self)
    · rcases sub b hb with z | z
      · exact .inl (by rw [TA.fp]; exact List.mem_cons_of_mem _ z)
      · exact .inr z
  · rw [tl_putS h1, TA.t]
theorem chg_live {i : Nat} {t s : TA} {q : List Nat} {c : TA} (h1 : sl[i]? = some t) (h2 : t.at q = some c) (hd : s.isDead = false) : ∀ (j : Nat) u, sl[j]? = some u → u.isDead = false → ∃ u', (sl.set i (t.put s q))[j]? = some u' ∧ u'.isDead = false := fun j u hu hud => by
  have hi : i < sl.length := (List.getElem?_eq_some_iff.mp h1).1
  by_cases hj : j = i
  · subst hj
    rw [h1] at hu
    cases hu
    refine ⟨_, List.getElem?_set_self hi, ?_⟩
    cases q with
    | nil => exact hd
    | cons m q =>
      cases t with
      | dead => cases hud
      | d _ _ => rfl
      | nd k a ts => rw [TA.put]; cases ts[m]? <;> rfl
  · exact ⟨u, by rw [List.getElem?_set_ne (Ne.symm hj)]; exact hu, hud⟩
end
theorem intsOf_v {K : PySem.W.Frag} {H : Hp} : ∀ {vs : List V} {xs : List PyData} {ns : List Int}, RpAll K H vs xs → intsOf xs = some ns → vs = ns.map V.int
  | _, _, ns, .nil, h => by rw [intsOf] at h; cases h; rfl
  | _, _, ns, .cons (d := d) a b, h => by
    cases d with
    | int i =>
      rw [intsOf] at h
      split at h
      · rename_i ms e
        cases h
        rw [intsOf_v b e, a.int_v]
        rfl
      · cases h
    | _ => simp [intsOf] at h
theorem boolsOf_v {K : PySem.W.Frag} {H : Hp} : ∀ {vs : List V} {xs : List PyData} {ns : List Bool}, RpAll K H vs xs → boolsOf xs = some ns → vs = ns.map V.bl
  | _, _, ns, .nil, h => by rw [boolsOf] at h; cases h; rfl
  | _, _, ns, .cons (d := d) a b, h => by
    cases d with
    | bool i =>
      rw [boolsOf] at h
      split at h
      · rename_i ms e
        cases h
        rw [boolsOf_v b e, a.bool_v]
        rfl
      · cases h
    | _ => simp [boolsOf] at h
theorem maxL_spec : ∀ ns : List Int, ns ≠ [] → maxL ns ∈ ns ∧ ∀ y ∈ ns, y ≤ maxL ns
  | [], h => absurd rfl h
  | [x], _ => ⟨by simp [maxL], by simp [maxL]⟩
  | x :: y :: r, _ => by
    obtain ⟨h1, h2⟩ := maxL_spec (y :: r) (by simp)
    rw [maxL]
    refine ⟨?_, fun z hz => ?_⟩
    · rcases Int.le_total x (maxL (y :: r)) with h | h
      · rw [Int.max_eq_right h]; exact List.mem_cons_of_mem _ h1
      · rw [Int.max_eq_left h]; exact List.mem_cons_self
    · rcases List.mem_cons.mp hz with rfl | hz
      · exact Int.le_max_left _ _
      · exact Int.le_trans (h2 z hz) (Int.le_max_right _ _)
theorem minL_spec : ∀ ns : List Int, ns ≠ [] → minL ns ∈ ns ∧ ∀ y ∈ ns, minL ns ≤ y
  | [], h => absurd rfl h
  | [x], _ => ⟨by simp [minL], by simp [minL]⟩
  | x :: y :: r, _ => by
    obtain ⟨h1, h2⟩ := minL_spec (y :: r) (by simp)
    rw [minL]
    refine ⟨?_, fun z hz => ?_⟩
    · rcases Int.le_total x (minL (y :: r)) with h | h
      · rw [Int.min_eq_left h]; exact List.mem_cons_self
      · rw [Int.min_eq_right h]; exact List.mem_cons_of_mem _ h1
    · rcases List.mem_cons.mp hz with rfl | hz
      · exact Int.min_le_left _ _
      · exact Int.le_trans (Int.min_le_right _ _) (h2 z hz)
theorem sortI_perm (ns : List Int) : (sortI ns).Perm ns := List.mergeSort_perm _ _
theorem sortI_sorted (ns : List Int) : (sortI ns).Pairwise (· ≤ ·) := by
  have := List.pairwise_mergeSort (le := fun a b : Int => decide (a ≤ b)) (fun a b c h1 h2 => by simp at *; omega) (fun a b => by simp; omega) ns
  exact this.imp fun h => by simpa using h
theorem sortI_unique {ns ms : List Int} (h : ms.Perm ns) (hs : ms.Pairwise (· ≤ ·)) : ms = sortI ns := PySem.W.ksm_same (h.trans (sortI_perm ns).symm) hs (sortI_sorted ns)
theorem intLeafs {K : PySem.W.Frag} {Hs : Hp} : ∀ ns : List Int, RpAll K Hs (ns.map V.int) (ns.map PyData.int)
  | [] => .nil
  | n :: ns => .cons (.int n) (intLeafs ns)
section
variable {X : Cx} {pins : List (Addr × Obj)} {s : Shared} {σ : L2.St} {H H2 Hs2 : Hp} {B : Bs} {sl sl2 tp nw nw1 nw2 as : List TA} {P : R → St → Prop} {Q : VK} {pu : Bool} {ra rb : R} {x y : V} {v u : Value}
/-- a call by values -/
def CaW (X : Cx) (w : List R → St → (R → St → Prop) → Prop) : List V → Hp → VK → Prop := fun xs H2 Q => ∃ σ B Hs2 sl2 tp nws rs P H sl pu, Rel X.K B Hs2 H2 σ sl2 (tp ++ nws.flatten) ∧ RRs sl2 rs xs nws ∧ Stp pu H H2 sl sl2 ∧ w rs (TA.tl sl2) P ∧ Cont X B σ tp pu H sl P Q
theorem RRs.one {sl : List TA} {r : R} {xs : List V} {nws : List (List TA)} (h : RRs sl [r] xs nws) : ∃ x nw, xs = [x] ∧ nws = [nw] ∧ RR r x sl nw := by
  cases h with
  | cons a b =>
    cases b
    exact ⟨_, _, rfl, rfl, a⟩
theorem RRs.two {sl : List TA} {r r' : R} {xs : List V} {nws : List (List TA)} (h : RRs sl [r, r'] xs nws) : ∃ x y nw nw', xs = [x, y] ∧ nws = [nw, nw'] ∧ RR r x sl nw ∧ RR r' y sl nw' := by
  cases h with
  | cons a b =>
    cases b with
    | cons c d =>
      cases d
      exact ⟨_, _, _, _, rfl, rfl, a, c⟩
/-- the data of several results -/
theorem datas_ok {K : PySem.W.Frag} {Hs : Hp} : ∀ {rs : List R} {vs : List V} {nws : List (List TA)} {xs : List PyData} {tp : List TA}, Rel K B Hs H σ sl (tp ++ nws.flatten) → RRs sl rs vs nws → R.datas (TA.tl sl) rs = some xs → RpAll K H vs xs := by
  intro rs
  induction rs with
  | nil =>
    intro vs nws xs tp R1 rr h
    cases rr
    rw [R.datas] at h
    cases h
    exact .nil
  | cons r rs ih =>
    intro vs nws xs tp R1 rr h
    cases rr with
    | @cons _ v nw _ vs nws a b =>
      rw [R.datas] at h
      split at h
      · rename_i x ys e1 e2
        cases h
        rw [List.flatten_cons] at R1
        have R2 : Rel K B Hs H σ sl ((tp ++ nw) ++ nws.flatten) := by rw [List.append_assoc]; exact R1
        exact .cons (a.dp R2.drop e1) (ih R2 b e2)
      · cases h
theorem RpAll.one_v {K : PySem.W.Frag} {H : Hp} {vs : List V} {x : PyData} (h : RpAll K H vs [x]) : ∃ v, vs = [v] ∧ Rp K H v x := by
  cases h with
  | cons a b => cases b; exact ⟨_, rfl, a⟩
theorem RpAll.two_v {K : PySem.W.Frag} {H : Hp} {vs : List V} {x y : PyData} (h : RpAll K H vs [x, y]) : ∃ v w, vs = [v, w] ∧ Rp K H v x ∧ Rp K H w y := by
  cases h with
  | cons a b => cases b with | cons c d => cases d; exact ⟨_, _, rfl, a, c⟩
def bltV : Blt → Value
  | .len => .builtin "len"
  | .max => .builtin "max"
  | .min => .builtin "min"
  | .sum => .builtin "sum"
  | .abs => .builtin "abs"
  | .int => .type "int"
  | .str => .type "str"
  | .tuple => .type "tuple"
  | .list => .type "list"
  | .sorted => .builtin "sorted"
  | .all => .builtin "all"
  | .any => .builtin "any"
  | .listRange => .none
theorem call_bltD {b : Blt} {xs : List PyData} {vs : List V} {us : List Value} {Kk : T → Prop} (hc : X.calm = true) (hb : b ≠ .listRange) (I : Inv X pins σ H s) (rv : Vals vs us) (dp : RpAll X.K H vs xs) (h : bltD b xs Kk) (q1 : ∀ v d, Kk (.d d) → (∀ Hs, Rp X.K Hs v d) → Q v H)
    (q2 : ∀ (ns : List Int) p, H p = none → Kk (.nd .list (ns.map fun i => .d (.int i))) → Q (.ref p) (upd H p (.lst (ns.map V.int)))) : wpAny (model X.prog X.w) X.A (call (bltV b) us) (EP X pins σ Q) X.xe s := by
  have int1 : ∀ {i : Int}, Kk (.d (.int i)) → Q (.int i) H := fun k => q1 _ _ k fun _ => .int _
  unfold bltD at h
  split at h
  -- max of a list
  · obtain ⟨w, rfl, d1⟩ := dp.one_v
    cases d1 with
    | lst hr ha =>
      split at h
      · rename_i ns e
        obtain ⟨hne, h⟩ := h
        have := intsOf_v ha e
        subst this
        refine cr_max hc pins s σ H _ us Q I rv ⟨_, ns, rfl, hr, by cases ns with | nil => exact absurd rfl hne | cons _ _ => simp, fun m hm hle => ?_⟩
        obtain ⟨g1, g2⟩ := maxL_spec ns hne
        have : m = maxL ns := Int.le_antisymm (g2 m hm) (hle _ g1)
        rw [this]
        exact int1 h
      · exact h.elim
  · obtain ⟨w, w', rfl, d1, d2⟩ := dp.two_v
    rename_i i j
    have e1 := d1.int_v
    have e2 := d2.int_v
    subst e1 e2
    refine call_max2 hc pins s σ H _ us Q I rv ⟨i, j, rfl, ?_⟩
    have : (if j > i then j else i) = max i j := by
      rw [Int.max_def]
      split <;> split <;> omega
    rw [this]
    exact int1 h
  · obtain ⟨w, rfl, d1⟩ := dp.one_v
    cases d1 with
    | lst hr ha =>
      split at h
      · rename_i ns e
        obtain ⟨hne, h⟩ := h
        have := intsOf_v ha e
        subst this
        refine cr_min hc pins s σ H _ us Q I rv ⟨_, ns, rfl, hr, by cases ns with | nil => exact absurd rfl hne | cons _ _ => simp, fun m hm hle => ?_⟩
        obtain ⟨g1, g2⟩ := minL_spec ns hne
        have : m = minL ns := Int.le_antisymm (hle _ g1) (g2 m hm)
        rw [this]
        exact int1 h
      · exact h.elim
  · obtain ⟨w, w', rfl, d1, d2⟩ := dp.two_v
    rename_i i j
    have e1 := d1.int_v
    have e2 := d2.int_v
    subst e1 e2
    refine call_min2 hc pins s σ H _ us Q I rv ⟨i, j, rfl, ?_⟩
    have : (if j < i then j else i) = min i j := by
      rw [Int.min_def]
      split <;> split <;> omega
    rw [this]
    exact int1 h
  · obtain ⟨w, rfl, d1⟩ := dp.one_v
    cases d1 with
    | lst hr ha =>
      split at h
      · rename_i ns e
        have := intsOf_v ha e
        subst this
        exact cr_sum hc pins s σ H _ us Q I rv ⟨_, ns, rfl, hr, int1 h⟩
      · exact h.elim
  · obtain ⟨w, rfl, d1⟩ := dp.one_v
    cases d1 with
    | lst hr ha =>
      split at h
      · rename_i bs e
        have := boolsOf_v ha e
        subst this
        exact cr_all hc pins s σ H _ us Q I rv ⟨_, bs, rfl, hr, q1 _ _ h fun _ => .bl _⟩
      · exact h.elim
  · obtain ⟨w, rfl, d1⟩ := dp.one_v
    cases d1 with
    | lst hr ha =>
      split at h
      · rename_i bs e
        have := boolsOf_v ha e
        subst this
        exact cr_any hc pins s σ H _ us Q I rv ⟨_, bs, rfl, hr, q1 _ _ h fun _ => .bl _⟩
      · exact h.elim
  · obtain ⟨w, rfl, d1⟩ := dp.one_v
    cases d1 with
    | lst hr ha =>
      split at h
      · rename_i ns e
        have := intsOf_v ha e
        subst this
        refine cr_sortedI pins s σ H _ us Q I rv ⟨_, ns, rfl, hr, fun ms p hp hs hn => ?_⟩
        rw [sortI_unique hp hs]
        exact q2 _ p hn h
      · exact h.elim
  · obtain ⟨w, rfl, d1⟩ := dp.one_v
    have e1 := d1.int_v
    subst e1
    exact call_abs pins s σ H _ us Q I rv ⟨_, rfl, int1 h⟩
  · obtain ⟨w, rfl, d1⟩ := dp.one_v
    have e1 := d1.int_v
    subst e1
    exact call_int1 pins s σ H _ us Q I rv (.inl ⟨_, rfl, int1 h⟩)
  · obtain ⟨w, rfl, d1⟩ := dp.one_v
    have e1 := d1.bool_v
    subst e1
    exact call_int1 pins s σ H _ us Q I rv (.inr ⟨_, rfl, int1 h⟩)
  · obtain ⟨w, rfl, d1⟩ := dp.one_v
    have e1 := d1.str_v
    subst e1
    split at h
    · rename_i n hn
      exact call_int_str pins s σ H _ us Q I rv ⟨_, n, rfl, hn, h.1, int1 h.2⟩
    · exact h.elim
  · obtain ⟨w, rfl, d1⟩ := dp.one_v
    have e1 := d1.int_v
    subst e1
    exact call_str_int pins s σ H _ us Q I rv ⟨_, rfl, h.1, q1 _ _ h.2 fun _ => .str _⟩
  · exact absurd rfl hb
  · obtain ⟨w, rfl, d1⟩ := dp.one_v
    have e1 := d1.str_v
    subst e1
    exact call_len_str pins s σ H _ us Q I rv ⟨_, rfl, h.1, int1 h.2⟩
  · obtain ⟨w, rfl, d1⟩ := dp.one_v
    cases d1 with
    | lst hr ha => exact call_len_seq pins s σ H _ us Q I rv ⟨_, _, rfl, .inl hr, by rw [ha.length]; exact int1 h⟩
  · obtain ⟨w, rfl, d1⟩ := dp.one_v
    cases d1 with
    | tup hr ha => exact call_len_seq pins s σ H _ us Q I rv ⟨_, _, rfl, .inr hr, by rw [ha.length]; exact int1 h⟩
  · exact h.elim
theorem call_bltW {b : Blt} (hc : X.calm = true) (hb : b ≠ .listRange) : CallR X (bltV b) (CaW X (bltW b)) := by
  intro pins s σ' H2 xs us Q I rv h
  obtain ⟨σ, B, Hs2, sl2, tp, nws, rs, P, H, sl, pu, R1, rr, st, h, hk⟩ := h
  have R0 : Rel X.K B Hs2 H2 σ sl2 tp := R1.drop
  have gen : ∀ ds, R.datas (TA.tl sl2) rs = some ds → bltD b ds (fun t => P (.v t) (TA.tl sl2)) → wpAny (model X.prog X.w) X.A (call (bltV b) us) (EP X pins σ' Q) X.xe s := fun ds hd h => by
    refine call_bltD hc hb I rv (datas_ok R1 rr hd) h (fun v d k dp => hk.leaf R0 (dp _) st k) fun ns p hp k => ?_
    obtain ⟨g1, g2, g3, g4⟩ := leafs_ok (H := H2) (intLeafs (K := X.K) (Hs := Hs2) ns)
    have := hk.lst (R0.leaves g1 g2) hp st (by rw [g3, List.map_map]; exact k)
    rw [g4] at this
    exact this
  have single : ∀ r, rs = [r] → ∃ x nw, xs = [x] ∧ RR r x sl2 nw ∧ Rel X.K B Hs2 H2 σ sl2 (tp ++ nw) := fun r e => by
    subst e
    obtain ⟨x, nw, rfl, rfl, rr1⟩ := rr.one
    exact ⟨x, nw, rfl, rr1, by simpa using R1⟩
  cases b with
  | list =>
    simp only [bltW] at h
    split at h
    · rename_i r
      obtain ⟨x, nw, rfl, r1, R2⟩ := single r rfl
      split at h
      · rename_i ds e
        have d1 := (r1.dpT R2 e).1
        cases d1 with
        | tup hr ha =>
          refine call_list_of pins s σ' H2 _ us Q I rv ⟨_, _, rfl, .inr (SqT.mono R2.sub hr), fun l hl => ?_⟩
          obtain ⟨g1, g2, g3, g4⟩ := leafs_ok (H := H2) ha
          have := hk.lst (R0.leaves g1 g2) hl st (by rw [g3]; exact h)
          rw [g4] at this
          exact this
      · split at h
        · rename_i ts hts
          obtain ⟨a, us', rfl, t1, d1, o1, s1⟩ := r1.kids R2 hts
          refine call_list_of pins s σ' H2 _ us Q I rv ⟨_, _, rfl, .inl (d1), fun l hl => ?_⟩
          have R3 : Rel X.K B Hs2 H2 σ sl2 (tp ++ us') := by
            refine R2.tempsS (TA.okl_append.mpr ⟨R0.okT, o1⟩) ?_
            rw [TA.fpl_append, TA.fpl_append]
            exact (List.Sublist.refl _).append s1
          exact hk.lst R3 hl st (by rw [t1]; exact h)
        · exact h.elim
    · exact h.elim
  | tuple =>
    simp only [bltW] at h
    split at h
    · rename_i r
      obtain ⟨x, nw, rfl, r1, R2⟩ := single r rfl
      split at h
      · rename_i ds e
        have d1 := (r1.dpT R2 e).1
        cases d1 with
        | tup hr ha => exact call_tuple_of pins s σ' H2 _ us Q I rv ⟨_, _, rfl, .inr ⟨SqT.mono R2.sub hr, hk.leaf R0 (.tup hr ha) st h⟩⟩
      · rename_i ds e
        have d1 := (r1.dpT R2 e).1
        cases d1 with
        | lst hr ha => exact call_tuple_of pins s σ' H2 _ us Q I rv ⟨_, _, rfl, .inl ⟨SqL.mono R2.sub hr, fun l hl => hk.tup R0 hl ha st h⟩⟩
      · rename_i ts e
        split at h
        · rename_i ds hl
          obtain ⟨a, us', rfl, e3, e4, e5, _, _⟩ := r1.node R2 e
          rw [← e3] at hl
          obtain ⟨f1, f2, f3⟩ := leaves_of hl
          exact call_tuple_of pins s σ' H2 _ us Q I rv ⟨_, _, rfl, .inl ⟨SqL.of e4, fun l hl => hk.tup R0 hl (f3 e5) st h⟩⟩
        · exact h.elim
      · exact h.elim
    · exact h.elim
  | len =>
    simp only [bltW] at h
    split at h
    · rename_i r
      obtain ⟨x, nw, rfl, r1, R2⟩ := single r rfl
      split at h
      · rename_i ts e
        obtain ⟨a, us', rfl, e3, e4, e5, _, _⟩ := r1.node R2 e
        refine call_len_seq pins s σ' H2 _ us Q I rv ⟨_, _, rfl, .inl (SqL.of e4), ?_⟩
        have : (us'.map TA.v).length = ts.length := by rw [← e3, tl_len, List.length_map]
        rw [this]
        exact hk.leaf R0 (.int _) st h
      · rename_i ts e
        obtain ⟨a, us', rfl, e3, e4, e5, _, _⟩ := r1.node R2 e
        refine call_len_seq pins s σ' H2 _ us Q I rv ⟨_, _, rfl, .inr (SqT.of e4), ?_⟩
        have : (us'.map TA.v).length = ts.length := by rw [← e3, tl_len, List.length_map]
        rw [this]
        exact hk.leaf R0 (.int _) st h
      · rename_i d e
        exact gen [d] (by simp [R.datas, R.data, e, T.data]) h
      · exact h.elim
    · exact h.elim
  | listRange => exact absurd rfl hb
  | _ =>
    simp only [bltW] at h
    split at h
    · rename_i ds hd
      exact gen ds hd h
    · exact h.elim
/-- isinstance -/
theorem tyName_of {K : PySem.W.Frag} {Hs : Hp} {c : TA} {n : String} (sub : Same Hs H) (ok : c.ok K Hs H) (h : tyName c.t = some n) : TyX K H c.v (.type n) := by
  cases c with
  | dead => simp [TA.t, tyName] at h
  | d w z =>
    rw [TA.ok] at ok
    rw [TA.t] at h
    cases ok.mono sub with
    | non => simp only [tyName, Option.some.injEq] at h; subst h; exact .base .non
    | bl k => simp only [tyName, Option.some.injEq] at h; subst h; exact .base (.bl k)
    | int i => simp only [tyName, Option.some.injEq] at h; subst h; exact .base (.int i)
    | str z => simp only [tyName, Option.some.injEq] at h; subst h; exact .base (.str z)
    | lst hr ha =>
      simp only [tyName, Option.some.injEq] at h
      subst h
      rcases hr with (hr | ⟨o, hr⟩) | ⟨o, its, n, hk, hc, _⟩
      · exact .base (.lst hr)
      · exact .base (.frz hr)
      · exact .kList hk hc
    | tup hr ha =>
      simp only [tyName, Option.some.injEq] at h
      subst h
      rcases hr with (hr | ⟨o, hr⟩) | ⟨o, its, m, hk, hc, _⟩
      · exact .base (.tup hr)
      · exact .fTuple hr
      · exact .kTuple hk hc
    | dct l hr ha =>
      simp only [tyName, Option.some.injEq] at h
      subst h
      rcases hr with hr | ⟨o, hr⟩
      · exact .base (.dK hr)
      · exact .fDict hr
  | nd k a ts =>
    rw [TA.ok] at ok
    rw [TA.t] at h
    cases k with
    | list => simp only [tyName, Option.some.injEq] at h; subst h; exact .base (.lst ok.1)
    | tup => simp only [tyName, Option.some.injEq] at h; subst h; exact .base (.tup ok.1)
    | tupw => simp only [tyName, Option.some.injEq] at h; subst h; exact .base (.tup ok.1)
    | dict ks => simp only [tyName, Option.some.injEq] at h; subst h; exact .base (.dK ok.1.2)
    | inst C ns => simp [tyName] at h
    | exc n C => simp [tyName] at h
    | rsd n => simp [tyName] at h
end
/-- the promise of a def: its arguments as trees, its result, the arguments behind it -/
def spV (K : PySem.W.Frag) (md : List Md) (F : List T → (T → List T → Prop) → Prop) : Sp := fun vs H Q _ => ∃ Hs as P, vs.length = md.length ∧ Rel K ⟨⟨H, Hs, TA.fpl as ++ tabA K, []⟩, []⟩ Hs H (vs.map some) as [] ∧ as.map TA.v = vs ∧ (∀ t ∈ as, t.isDead = false) ∧ (∀ (i : Nat) (t : TA), md[i]? = some Md.bor → as[i]? = some t → ∃ v x, t = TA.d v x) ∧ F (TA.tl as) P ∧
  ∀ H' Hs' as' r, Rel K ⟨⟨H, Hs, TA.fpl as ++ tabA K, []⟩, []⟩ Hs' H' (vs.map some) as' [r] → as'.map TA.v = vs → (∀ (i : Nat) (t : TA), md[i]? = some Md.own → as'[i]? = some t → t.isDead = false) → r.isDead = false → P r.t (TA.tl as') → Q r.v H'
/-- the promise of a method that changes nothing: its result is data -/
def spP (K : PySem.W.Frag) (md : List Md) (F : List T → (PyData → Prop) → Prop) : Sp := fun vs H Q _ => ∃ Hs as P, vs.length = md.length ∧ Rel K ⟨⟨H, Hs, TA.fpl as ++ tabA K, []⟩, []⟩ Hs H (vs.map some) as [] ∧ as.map TA.v = vs ∧ (∀ t ∈ as, t.isDead = false) ∧ (∀ (i : Nat) (t : TA), md[i]? = some Md.bor → as[i]? = some t → ∃ v x, t = TA.d v x) ∧ F (TA.tl as) P ∧
  ∀ H' Hs' v y, Same H H' → Same Hs Hs' → Same Hs' H' → (∀ a, Hs' a ≠ none → Hs a ≠ none ∨ H a = none) → Rp K Hs' v y → P y → Q v H'
section
variable {K : PySem.W.Frag} {B : Bs} {Hs H Hs' H' : Hp} {σ : L2.St} {sl sl' tp tp' cs as as' : List TA} {t c x r : TA} {i : Nat} {q : List Nat}
theorem Rel.perm (R : Rel K B Hs H σ sl tp) (h : tp.Perm tp') : Rel K B Hs H σ sl tp' := by
  have hp : (TA.fpl tp).Perm (TA.fpl tp') := by rw [TA.fpl_flat, TA.fpl_flat]; exact h.flatMap_right _
  exact R.temps (TA.okl_all.mpr fun u hu => TA.okl_all.mp R.okT u (h.mem_iff.mpr hu)) (fun a ha => hp.mem_iff.mpr ha) (hp.nodup_iff.mp R.uqT)
/-- the object at a place is taken out -/
theorem Rel.out1 (R : Rel K B Hs H σ sl tp) (h : sl[i]? = some t) (hc : t.at q = some c) : Rel K B Hs H σ (sl.set i (t.put (.dead c.v) q)) (tp ++ [c]) := by
  obtain ⟨l1, l2, e1, e2⟩ := Rel.lens (tp := tp) h hc
  have e3 : TA.fpl (sl.set i (t.put (.dead c.v) q) ++ (tp ++ [c])) = l1 ++ l2 ++ c.fp := by
    rw [← List.append_assoc, TA.fpl_append, e2, TA.fp, List.append_nil, fpl_one]
  have pm : (TA.fpl (sl.set i (t.put (.dead c.v) q) ++ (tp ++ [c]))).Perm (TA.fpl (sl ++ tp)) := by
    rw [e3, e1, List.append_assoc, List.append_assoc]
    exact List.Perm.append_left _ List.perm_append_comm
  obtain ⟨pv1, pv2⟩ := R.put_val (s := .dead c.v) h hc rfl (fun _ z => by cases z)
  have okc : c.ok K Hs H := TA.at_ok q t c hc (R.slot_ok h)
  refine ⟨by rw [List.length_set]; exact R.len, pv1, TA.okl_append.mpr ⟨TA.okl_all.mpr fun u hu => ?_, TA.okl_append.mpr ⟨R.okT, ?_⟩⟩, pm.nodup_iff.mpr R.uq, fun a ha => R.out a (pm.mem_iff.mp ha), R.sub, R.keep, fun a ha => R.fresh a (pm.mem_iff.mp ha), R.hs, R.hsNew, fun u hu => ?_, pv2, R.tab, R.tabB⟩
  · rcases mem_set_or hu with rfl | hu
    · exact TA.put_ok (Same.refl _) (.dead c.v) (by rw [TA.ok]; trivial) q t c hc rfl (R.slot_ok h) (R.slot_uq h) fun _ _ _ => rfl
    · exact TA.okl_all.mp R.okS u hu
  · rw [TA.okl, TA.okl]; exact ⟨okc, trivial⟩
  · rcases mem_set_or hu with rfl | hu
    · exact TA.put_noTup _ rfl q t (R.ntup t (List.mem_of_getElem? h))
    · exact R.ntup u hu
/-- .. and put back -/
theorem Rel.in1 (R : Rel K B Hs H σ sl (tp ++ [x])) (h : sl[i]? = some t) (hc : t.at q = some c) (hcv : x.v = c.v) (hn : x.noTup = true) (hσ : q = [] → x.isDead = false → σ[i]? = some (some x.v)) : Rel K B Hs H σ (sl.set i (t.put x q)) tp := by
  have okx := R.okT
  rw [TA.okl_append, TA.okl] at okx
  have uqx := R.uqT
  rw [TA.fpl_append, fpl_one, List.nodup_append] at uqx
  exact R.put h hc hcv hσ hn (fun _ _ => rfl) okx.2.1 uqx.2.1 (fun a ha => .inr (by rw [fpl_one]; exact ha))
/-- the shared heap without what was lent -/
def unfrz (Hs : Hp) (A : List Addr) : Hp := fun a => if a ∈ A then none else Hs a
mutual
theorem Rp.unlend {A : List Addr} (hA : ∀ a ∈ A, ∀ vs o, Hs a ≠ some (.tup vs) ∧ Hs a ≠ some (.frz o (.tup vs))) : ∀ {v : V} {d : PyData}, Rp K Hs v d → immD d = true → Rp K (unfrz Hs A) v d
  | _, _, .non, _ => .non
  | _, _, .bl b, _ => .bl b
  | _, _, .int b, _ => .int b
  | _, _, .str b, _ => .str b
  | _, _, .lst _ _, h => by simp [immD] at h
  | _, _, .dct _ _ _, h => by simp [immD] at h
  | _, _, .tup (a := a) (xs := xs) hs ha, h => by
    refine .tup ?_ (RpAll.unlend hA ha (by simpa [immD] using h))
    rcases hs with (hs | ⟨o, hs⟩) | hs
    · refine .inl (.inl ?_)
      unfold unfrz
      rw [if_neg fun z => (hA a z xs default).1 hs]
      exact hs
    · refine .inl (.inr ⟨o, ?_⟩)
      unfold unfrz
      rw [if_neg fun z => (hA a z xs o).2 hs]
      exact hs
    · exact .inr hs
theorem RpAll.unlend {A : List Addr} (hA : ∀ a ∈ A, ∀ vs o, Hs a ≠ some (.tup vs) ∧ Hs a ≠ some (.frz o (.tup vs))) : ∀ {vs : List V} {ds : List PyData}, RpAll K Hs vs ds → immDl ds = true → RpAll K (unfrz Hs A) vs ds
  | _, _, .nil, _ => .nil
  | _, _, .cons a b, h => by
    simp only [immDl, Bool.and_eq_true] at h
    exact .cons (Rp.unlend hA a h.1) (RpAll.unlend hA b h.2)
end
mutual
theorem TA.unlend {A : List Addr} (hA : ∀ a ∈ A, ∀ vs o, Hs a ≠ some (.tup vs) ∧ Hs a ≠ some (.frz o (.tup vs))) : ∀ t : TA, t.ok K Hs H → t.t.flat = true → t.ok K (unfrz Hs A) H
  | .dead _, _, _ => by rw [TA.ok]; trivial
  | .d v x, h, f => by
    rw [TA.ok] at h ⊢
    rw [TA.t, T.flat] at f
    exact h.unlend hA f
  | .nd k a ts, h, f => by
    rw [TA.ok] at h ⊢
    rw [TA.t, T.flat] at f
    exact ⟨h.1, TA.unlendl hA ts h.2 f⟩
theorem TA.unlendl {A : List Addr} (hA : ∀ a ∈ A, ∀ vs o, Hs a ≠ some (.tup vs) ∧ Hs a ≠ some (.frz o (.tup vs))) : ∀ ts : List TA, TA.okl K Hs H ts → T.flatl (TA.tl ts) = true → TA.okl K (unfrz Hs A) H ts
  | [], _, _ => by rw [TA.okl]; trivial
  | t :: r, h, f => by
    rw [TA.okl] at h ⊢
    rw [TA.tl, T.flatl, Bool.and_eq_true] at f
    exact ⟨TA.unlend hA t h.1 f.1, TA.unlendl hA r h.2 f.2⟩
end
theorem unfrz_nil : unfrz Hs [] = Hs := by funext a; unfold unfrz; rw [if_neg (by simp)]
mutual
theorem TA.fp_kind : ∀ t : TA, t.ok K Hs H → t.noTup = true → t.t.data.isSome = true → ∀ a ∈ t.fp, ∀ vs o, H a ≠ some (.tup vs) ∧ H a ≠ some (.frz o (.tup vs))
  | .dead _, _, _, _, a, h => by simp [TA.fp] at h
  | .d _ _, _, _, _, a, h => by simp [TA.fp] at h
  | .nd k b ts, ok, nt, dt, a, h => by
    rw [TA.ok] at ok
    rw [TA.noTup, Bool.and_eq_true] at nt
    have dtl : (T.datal (TA.tl ts)).isSome = true := by
      rw [TA.t] at dt
      cases k <;> first | (simp [T.data] at dt; done) | (simpa [T.data] using dt)
    rw [TA.fp] at h
    rcases List.mem_cons.mp h with rfl | h
    · intro vs o
      cases k with
      | list => rw [show H a = _ from ok.1]; exact ⟨(by intro z; cases z), (by intro z; cases z)⟩
      | tup => simp [Kd.isTup] at nt
      | tupw => rw [TA.t] at dt; simp [T.data] at dt
      | dict ks => rw [show H a = _ from ok.1.2]; exact ⟨(by intro z; cases z), (by intro z; cases z)⟩
      | inst C ns => obtain ⟨_, dx, e⟩ := ok.1; rw [e]; exact ⟨(by intro z; cases z), (by intro z; cases z)⟩
      | exc n C => rw [show H a = _ from ok.1.2]; exact ⟨(by intro z; cases z), (by intro z; cases z)⟩
      | rsd n => exact ok.1.elim
    · exact TA.fpl_kind ts ok.2 nt.2 dtl a h
theorem TA.fpl_kind : ∀ ts : List TA, TA.okl K Hs H ts → TA.noTupl ts = true → (T.datal (TA.tl ts)).isSome = true → ∀ a ∈ TA.fpl ts, ∀ vs o, H a ≠ some (.tup vs) ∧ H a ≠ some (.frz o (.tup vs))
  | [], _, _, _, a, h => by simp [TA.fpl] at h
  | t :: r, ok, nt, dt, a, h => by
    rw [TA.okl] at ok
    rw [TA.noTupl, Bool.and_eq_true] at nt
    have d2 : t.t.data.isSome = true ∧ (T.datal (TA.tl r)).isSome = true := by
      rw [TA.tl, T.datal] at dt
      cases e1 : t.t.data <;> cases e2 : T.datal (TA.tl r) <;> rw [e1, e2] at dt <;> first | exact ⟨rfl, rfl⟩ | (cases dt)
    rw [TA.fpl] at h
    rcases List.mem_append.mp h with h | h
    · exact TA.fp_kind t ok.1 nt.1 d2.1 a h
    · exact TA.fpl_kind r ok.2 nt.2 d2.2 a h
end
mutual
theorem TA.fp_code : ∀ t : TA, t.ok K Hs H → t.noTup = true → t.t.data.isSome = true → ∀ a ∈ t.fp, ∀ c q, H a ≠ some (LamX.CodeO c q)
  | .dead _, _, _, _, a, h => by simp [TA.fp] at h
  | .d _ _, _, _, _, a, h => by simp [TA.fp] at h
  | .nd k b ts, ok, nt, dt, a, h => by
    rw [TA.ok] at ok
    rw [TA.noTup, Bool.and_eq_true] at nt
    have dtl : (T.datal (TA.tl ts)).isSome = true := by
      rw [TA.t] at dt
      cases k <;> first | (simp [T.data] at dt; done) | (simpa [T.data] using dt)
    rw [TA.fp] at h
    rcases List.mem_cons.mp h with rfl | h
    · intro c q
      unfold LamX.CodeO
      cases k with
      | list => rw [show H a = _ from ok.1]; intro z; cases z
      | tup => simp [Kd.isTup] at nt
      | tupw => rw [TA.t] at dt; simp [T.data] at dt
      | dict ks => rw [show H a = _ from ok.1.2]; intro z; cases z
      | inst C ns => rw [TA.t] at dt; simp [T.data] at dt
      | exc n C => rw [TA.t] at dt; simp [T.data] at dt
      | rsd n => exact ok.1.elim
    · exact TA.fpl_code ts ok.2 nt.2 dtl a h
theorem TA.fpl_code : ∀ ts : List TA, TA.okl K Hs H ts → TA.noTupl ts = true → (T.datal (TA.tl ts)).isSome = true → ∀ a ∈ TA.fpl ts, ∀ c q, H a ≠ some (LamX.CodeO c q)
  | [], _, _, _, a, h => by simp [TA.fpl] at h
  | t :: r, ok, nt, dt, a, h => by
    rw [TA.okl] at ok
    rw [TA.noTupl, Bool.and_eq_true] at nt
    have d2 : t.t.data.isSome = true ∧ (T.datal (TA.tl r)).isSome = true := by
      rw [TA.tl, T.datal] at dt
      cases e1 : t.t.data <;> cases e2 : T.datal (TA.tl r) <;> rw [e1, e2] at dt <;> first | exact ⟨rfl, rfl⟩ | (cases dt)
    rw [TA.fpl] at h
    rcases List.mem_append.mp h with h | h
    · exact TA.fp_code t ok.1 nt.1 d2.1 a h
    · exact TA.fpl_code r ok.2 nt.2 d2.2 a h
end
/-- the state that a callee sees -/
theorem Rel.enter {A : List Addr} {vs : List V} (R : Rel K B Hs H σ sl (tp ++ cs)) (hA : ∀ a ∈ A, a ∈ TA.fpl sl) (ok : TA.okl K (frzH Hs H A) H as) (hf : TA.fpl as = TA.fpl cs) (hv : as.map TA.v = vs) (hn : ∀ t ∈ as, t.noTup = true) :
    Rel K ⟨⟨H, frzH Hs H A, TA.fpl as ++ tabA K, []⟩, []⟩ (frzH Hs H A) H (vs.map some) as [] := by
  have hcs : ∀ a ∈ TA.fpl as, a ∈ TA.fpl (sl ++ (tp ++ cs)) ∧ a ∉ A := fun a ha => by
    rw [hf] at ha
    refine ⟨by rw [TA.fpl_append, TA.fpl_append]; exact List.mem_append_right _ (List.mem_append_right _ ha), fun z => ?_⟩
    have uq := R.uq
    rw [TA.fpl_append, List.nodup_append] at uq
    exact uq.2.2 a (hA a z) a (by rw [TA.fpl_append]; exact List.mem_append_right _ ha) rfl
  refine ⟨by rw [List.length_map, ← hv, List.length_map], fun i t h hd => ?_, by rw [List.append_nil]; exact ok, ?_, fun a ha => ?_, frzH_sub R.sub, fun a o h _ => h, fun a ha => .inl (by rw [List.append_nil] at ha; exact List.mem_append_left _ ha), Same.refl _, fun a ha => .inl ha, hn, fun p hp => by simp at hp, R.tab.grow (Same.refl _) (frzH_same fun a ha => R.out a (by rw [← List.append_assoc, TA.fpl_append, TA.fpl_append]; exact List.mem_append_left _ (List.mem_append_left _ (hA a ha)))) (fun a ha => by unfold frzH; rw [if_neg fun z => R.no_tab (by rw [← List.append_assoc, TA.fpl_append, TA.fpl_append]; exact List.mem_append_left _ (List.mem_append_left _ (hA a z))) ha]; exact R.tab.n a ha), fun a ha => List.mem_append_right _ ha⟩
  · rw [List.getElem?_map, ← hv, List.getElem?_map, h]; rfl
  · rw [List.append_nil, hf]
    have := R.uqT
    rw [TA.fpl_append, List.nodup_append] at this
    exact this.2.1
  · rw [List.append_nil] at ha
    obtain ⟨h1, h2⟩ := hcs a ha
    unfold frzH
    rw [if_neg h2]
    exact R.out a h1
/-- .. and the state behind it -/
theorem Rel.leave {A : List Addr} {σ' : L2.St} (R : Rel K B Hs H σ sl (tp ++ cs)) (hA : ∀ a ∈ A, a ∈ TA.fpl sl) (hf : TA.fpl as = TA.fpl cs) (R' : Rel K ⟨⟨H, frzH Hs H A, TA.fpl as ++ tabA K, []⟩, []⟩ Hs' H' σ' as' [r])
    (flat : A = [] ∨ (r.t.flat = true ∧ T.flatl (TA.tl as') = true)) (kA : ∀ a ∈ A, ∀ vs o, H a ≠ some (.tup vs) ∧ H a ≠ some (.frz o (.tup vs))) (kC : ∀ a ∈ A, ∀ c q, H a ≠ some (LamX.CodeO c q)) : Rel K B (unfrz Hs' A) H' σ sl (tp ++ (as' ++ [r])) := by
  have uq0 := R.uq
  rw [← List.append_assoc, TA.fpl_append, List.nodup_append] at uq0
  have hA' : ∀ a ∈ A, a ∈ TA.fpl (sl ++ tp) := fun a ha => by rw [TA.fpl_append]; exact List.mem_append_left _ (hA a ha)
  have rest : ∀ a ∈ TA.fpl (sl ++ tp), H a ≠ none ∧ a ∉ TA.fpl as ∧ H' a = H a := fun a ha => by
    have h1 : H a ≠ none := R.some_of (by rw [← List.append_assoc, TA.fpl_append]; exact List.mem_append_left _ ha)
    have h2 : a ∉ TA.fpl as := fun z => uq0.2.2 a ha a (hf ▸ z) rfl
    refine ⟨h1, h2, ?_⟩
    cases q : H a with
    | none => exact absurd q h1
    | some o => exact R'.keep a o q fun z => (List.mem_append.mp z).elim h2 (R.no_tab (by rw [← List.append_assoc, TA.fpl_append]; exact List.mem_append_left _ ha))
  have hsA : ∀ a ∈ A, Hs a = none := fun a ha => R.out a (by rw [← List.append_assoc, TA.fpl_append]; exact List.mem_append_left _ (hA' a ha))
  have sm1 : Same Hs (frzH Hs H A) := frzH_same hsA
  have smc : Same (frzH Hs H A) Hs' := R'.hs
  have sm : Same Hs (unfrz Hs' A) := fun a o e => by
    unfold unfrz
    rw [if_neg fun z => by rw [hsA a z] at e; cases e]
    exact smc a o (sm1 a o e)
  have newfp : ∀ a ∈ TA.fpl (as' ++ [r]), a ∈ TA.fpl as ∨ H a = none := fun a ha => (R'.fresh a ha).imp (fun z => (List.mem_append.mp z).resolve_right (R'.no_tab ha)) id
  have ndis : ∀ a ∈ TA.fpl (as' ++ [r]), a ∉ TA.fpl (sl ++ tp) := fun a ha z => by
    obtain ⟨h1, h2, _⟩ := rest a z
    rcases newfp a ha with y | y
    · exact h2 y
    · exact h1 y
  have okA : ∀ a ∈ A, ∀ vs o, Hs' a ≠ some (.tup vs) ∧ Hs' a ≠ some (.frz o (.tup vs)) := fun a ha vs o => by
    have ka := kA a ha vs o
    have e : Hs' a = H a := by
      cases q : H a with
      | none => exact absurd q (rest a (hA' a ha)).1
      | some u => exact smc a u (by unfold frzH; rw [if_pos ha]; exact q)
    rw [e]
    exact ka
  have ok' : TA.okl K (unfrz Hs' A) H' (as' ++ [r]) := by
    rcases flat with rfl | ⟨f1, f2⟩
    · rw [unfrz_nil]; exact R'.ok
    · refine TA.unlendl okA _ R'.ok ?_
      rw [tl_app]
      have : ∀ l1 l2 : List T, T.flatl l1 = true → T.flatl l2 = true → T.flatl (l1 ++ l2) = true := by
        intro l1
        induction l1 with
        | nil => intro l2 _ h; exact h
        | cons a l1 ih =>
          intro l2 h1 h2
          rw [T.flatl, Bool.and_eq_true] at h1
          rw [List.cons_append, T.flatl, Bool.and_eq_true]
          exact ⟨h1.1, ih l2 h1.2 h2⟩
      refine this _ _ f2 ?_
      rw [TA.tl, TA.tl, T.flatl, T.flatl, f1]
      rfl
  have okr : TA.okl K (unfrz Hs' A) H' (sl ++ tp) := by
    have := R.ok
    rw [← List.append_assoc] at this
    exact TA.okl_mono sm _ (TA.okl_append.mp this).1 fun a ha => (rest a ha).2.2
  refine ⟨R.len, R.val, by rw [← List.append_assoc]; exact TA.okl_append.mpr ⟨okr, ok'⟩, ?_, fun a ha => ?_, fun a o e => ?_, fun a o h1 h2 => ?_, fun a ha => ?_, R.hs.trans sm, fun a ha => ?_, R.ntup, R.pin, R'.tab.to (fun a ps e => e) (fun c q ec => ?_) (fun a ha => by unfold unfrz; split; rfl; exact R'.tab.n a ha), R.tabB⟩
  · rw [← List.append_assoc, TA.fpl_append, List.nodup_append]
    exact ⟨uq0.1, R'.uq, fun a ha b hb e => ndis b hb (e ▸ ha)⟩
  · rw [← List.append_assoc, TA.fpl_append] at ha
    unfold unfrz
    split
    · rfl
    · rename_i hn
      rcases List.mem_append.mp ha with z | z
      · cases q : Hs' a with
        | none => rfl
        | some o =>
          obtain ⟨g1, g2, _⟩ := rest a z
          rcases R'.hsNew a (by rw [q]; simp) with y | y | y
          · exfalso
            apply y
            show frzH Hs H A a = none
            unfold frzH
            rw [if_neg hn]
            exact R.out a (by rw [← List.append_assoc, TA.fpl_append]; exact List.mem_append_left _ z)
          · rcases List.mem_append.mp y with y | y
            · exact absurd y g2
            · exact absurd y (R.no_tab (by rw [← List.append_assoc, TA.fpl_append]; exact List.mem_append_left _ z))
          · exact absurd y g1
      · exact R'.out a z
  · unfold unfrz at e
    split at e
    · cases e
    · exact R'.sub a o e
  · have h3 := R.keep a o h1 h2
    refine R'.keep a o h3 fun z => ?_
    have z : a ∈ TA.fpl as := (List.mem_append.mp z).resolve_right fun y => h2 (R.tabB a y)
    rw [hf] at z
    rcases R.fresh a (by rw [TA.fpl_append, TA.fpl_append]; exact List.mem_append_right _ (List.mem_append_right _ z)) with y | y
    · exact h2 y
    · rw [h1] at y; cases y
  · rw [← List.append_assoc, TA.fpl_append] at ha
    rcases List.mem_append.mp ha with z | z
    · exact R.fresh a (by rw [← List.append_assoc, TA.fpl_append]; exact List.mem_append_left _ z)
    · rcases newfp a z with y | y
      · rw [hf] at y
        exact R.fresh a (by rw [TA.fpl_append, TA.fpl_append]; exact List.mem_append_right _ (List.mem_append_right _ y))
      · exact R.new_free y
  · unfold unfrz at ha
    split at ha
    · exact absurd rfl ha
    · rename_i hn
      rcases R'.hsNew a ha with y | y | y
      · have y : frzH Hs H A a ≠ none := y
        unfold frzH at y
        rw [if_neg hn] at y
        exact R.hsNew a y
      · rcases List.mem_append.mp y with y | y
        · rw [hf] at y
          exact .inr (R.fresh a (by rw [TA.fpl_append, TA.fpl_append]; exact List.mem_append_right _ (List.mem_append_right _ y)))
        · exact .inr (.inl (R.tabB a y))
      · exact .inr (R.new_free y)
  · unfold unfrz
    rw [if_neg fun hca => ?_]
    · exact ec
    · have g : frzH Hs H A c = H c := by unfold frzH; rw [if_pos hca]
      cases u : H c with
      | none => exact (rest c (hA' c hca)).1 u
      | some o =>
        have e2 := smc c o (by rw [g]; exact u)
        rw [ec] at e2
        exact kC c hca c q (by rw [u, ← e2])
end
theorem T.put_put (a b : T) : ∀ (q : List Nat) (t c : T), t.at q = some c → (t.put a q).put b q = t.put b q
  | [], t, c, h => rfl
  | j :: q, t, c, h => by
    cases t with
    | dead => cases h
    | d x => cases h
    | nd k ts =>
      rw [T.at] at h
      cases e : ts[j]? with
      | none => rw [e] at h; cases h
      | some d =>
        rw [e] at h
        have hj : j < ts.length := (List.getElem?_eq_some_iff.mp e).1
        simp only [T.put, e]
        rw [List.getElem?_set_self hj]
        simp only
        rw [List.set_set, T.put_put a b q d c h]
theorem TA.put_at_self (s : TA) : ∀ (q : List Nat) (t c : TA), t.at q = some c → (t.put s q).at q = some s
  | [], t, c, h => rfl
  | j :: q, t, c, h => by
    cases t with
    | dead => cases h
    | d _ _ => cases h
    | nd k a ts =>
      rw [TA.at] at h
      cases e : ts[j]? with
      | none => rw [e] at h; cases h
      | some d =>
        rw [e] at h
        have hj : j < ts.length := (List.getElem?_eq_some_iff.mp e).1
        simp only [TA.put, e]
        rw [TA.at, List.getElem?_set_self hj]
        exact TA.put_at_self s q d c h
theorem backs_len : ∀ (ms : List Md) (rs : List R) (ts : List T) (σ : St), (backs ms rs ts σ).length = σ.length
  | [], _, _, σ => by cases ‹List R› <;> cases ‹List T› <;> rfl
  | m :: ms, [], _, σ => by cases ‹List T› <;> rfl
  | m :: ms, r :: rs, [], σ => rfl
  | m :: ms, r :: rs, t :: ts, σ => by
    have ih := backs_len ms rs ts σ
    unfold backs
    split
    · unfold putS
      split
      · rw [List.length_set]; exact ih
      · exact ih
    · exact ih
theorem ownPl_cons (m : Md) (ms : List Md) (r : R) (rs : List R) : ownPl (m :: ms) (r :: rs) = (match m, r with | .own, .p i _ => [i] | _, _ => []) ++ ownPl ms rs := by
  cases m <;> cases r <;> rfl
theorem borPl_cons (m : Md) (ms : List Md) (r : R) (rs : List R) : borPl (m :: ms) (r :: rs) = (match m, r with | .bor, .p i _ => [i] | _, _ => []) ++ borPl ms rs := by
  cases m <;> cases r <;> rfl
theorem putS_ne {σ : St} {i j : Nat} {q : List Nat} {t : T} (h : j ≠ i) : (putS σ i q t)[j]? = σ[j]? := by
  unfold putS
  split
  · rw [List.getElem?_set_ne (Ne.symm h)]
  · rfl
theorem backs_ne : ∀ (ms : List Md) (rs : List R) (ts : List T) (σ : St) (j : Nat), j ∉ ownPl ms rs → (backs ms rs ts σ)[j]? = σ[j]?
  | [], _, _, σ, j, _ => by cases ‹List R› <;> cases ‹List T› <;> rfl
  | m :: ms, [], _, σ, j, _ => by cases ‹List T› <;> rfl
  | m :: ms, r :: rs, [], σ, j, _ => rfl
  | m :: ms, r :: rs, t :: ts, σ, j, h => by
    rw [ownPl_cons] at h
    have ih := backs_ne ms rs ts σ j (fun z => h (List.mem_append_right _ z))
    unfold backs
    split
    · rw [putS_ne fun z => h (by subst z; simp)]
      exact ih
    · exact ih
theorem set_comm' {α : Type} (l : List α) {i j : Nat} (a b : α) (h : i ≠ j) : (l.set i a).set j b = (l.set j b).set i a := List.set_comm _ _ h
theorem backs_set : ∀ (ms : List Md) (rs : List R) (ts : List T) (σ : St) (i : Nat) (u : T), i ∉ ownPl ms rs → backs ms rs ts (σ.set i u) = (backs ms rs ts σ).set i u
  | [], rs, ts, σ, i, u, _ => by cases rs <;> cases ts <;> rfl
  | m :: ms, [], ts, σ, i, u, _ => by cases ts <;> rfl
  | m :: ms, r :: rs, [], σ, i, u, _ => rfl
  | m :: ms, r :: rs, t :: ts, σ, i, u, h => by
    rw [ownPl_cons] at h
    have ih := backs_set ms rs ts σ i u (fun z => h (List.mem_append_right _ z))
    unfold backs
    split
    · rename_i i' q
      have hne : i' ≠ i := fun z => h (by subst z; simp)
      rw [ih]
      unfold putS
      rw [List.getElem?_set_ne (Ne.symm hne)]
      cases (backs ms rs ts σ)[i']? with
      | some t' => exact set_comm' _ _ _ (Ne.symm hne)
      | none => rfl
    · exact ih
theorem passes_congr : ∀ (ms : List Md) (rs : List R) (σ σ' : St), (∀ i ∈ ownPl ms rs ++ borPl ms rs, σ'[i]? = σ[i]?) → passes ms rs σ' = passes ms rs σ
  | [], [], σ, σ', _ => rfl
  | [], _ :: _, σ, σ', _ => rfl
  | _ :: _, [], σ, σ', _ => rfl
  | m :: ms, r :: rs, σ, σ', h => by
    rw [ownPl_cons, borPl_cons] at h
    have ih := passes_congr ms rs σ σ' fun i hi => h i (by
      rcases List.mem_append.mp hi with z | z
      · exact List.mem_append_left _ (List.mem_append_right _ z)
      · exact List.mem_append_right _ (List.mem_append_right _ z))
    have hg : r.get σ' = r.get σ := by
      cases r with
      | v t => rfl
      | p i q =>
        unfold R.get
        simp only
        rw [h i (by cases m <;> simp)]
    unfold passes
    rw [ih, hg]
/-- an argument made ready -/
inductive Ag where
  | leaf (v : V) (x : PyData)
  | own (c : TA)
  | lend (c : TA) (x : PyData)
def Ag.ta : Ag → TA
  | .leaf v x => .d v x
  | .own c => c
  | .lend c x => .d c.v x
def Ag.cs : Ag → List TA
  | .own c => [c]
  | _ => []
def Ag.A : Ag → List Addr
  | .lend c _ => c.fp
  | _ => []
def Ag.ok (K : PySem.W.Frag) (Hs H : Hp) (sl : List TA) : Ag → Prop
  | .leaf v x => Rp K Hs v x
  | .own c => c.noTup = true ∧ c.isDead = false
  | .lend c x => c.ok K Hs H ∧ c.t.data = some x ∧ (∀ a ∈ c.fp, a ∈ TA.fpl sl) ∧ c.noTup = true
def Ag.bor : Ag → Bool
  | .own _ => false
  | _ => true
section
variable {K : PySem.W.Frag} {B : Bs} {H : Hp} {σ : L2.St}
theorem fpl_slot {sl : List TA} {i : Nat} {t : TA} {a : Addr} (h : sl[i]? = some t) (ha : a ∈ t.fp) : a ∈ TA.fpl sl := fpl_mem (List.mem_of_getElem? h) ha
structure Rdy (K : PySem.W.Frag) (B : Bs) (Hs H : Hp) (σ : L2.St) (md : List Md) (rs : List R) (vs : List V) (ts : List T) (b : Bool) (sl tp : List TA) (Hs' : Hp) (sl' : List TA) (gs : List Ag) : Prop where
  hs : Same Hs Hs'
  rel : Rel K B Hs' H σ sl' (tp ++ gs.flatMap Ag.cs)
  ok : ∀ g ∈ gs, g.ok K Hs' H sl'
  v : gs.map (fun g => g.ta.v) = vs
  tl : gs.map (fun g => g.ta.t) = ts
  mode : ∀ (i : Nat) (g : Ag), md[i]? = some Md.bor → gs[i]? = some g → g.bor = true
  len : vs.length = md.length
  none : b = false → ∀ g ∈ gs, g.A = []
  back : ∀ (as' : List TA) (Hs2 H2 : Hp) (tp2 : List TA), as'.map TA.v = vs → (∀ t ∈ as', t.noTup = true) → (∀ (i : Nat) (t : TA), md[i]? = some Md.own → as'[i]? = some t → t.isDead = false) → Rel K B Hs2 H2 σ sl' (tp2 ++ as') →
    ∃ sl'', Rel K B Hs2 H2 σ sl'' tp2 ∧ TA.tl sl'' = backs md rs (TA.tl as') (TA.tl sl) ∧ (∀ j, j ∉ ownPl md rs → sl''[j]? = sl[j]?) ∧ sl''.length = sl.length ∧ (∀ (j : Nat) (t : TA), sl[j]? = some t → t.isDead = false → ∃ t', sl''[j]? = some t' ∧ t'.isDead = false)
  same : ∀ j, j ∉ ownPl md rs → sl'[j]? = sl[j]?
theorem RRs'.setS {sl : List TA} {i : Nat} {u : TA} {rs : List R} : ∀ {ms : List Md} {vs : List V} {nws : List (List TA)}, ms.length = rs.length → (∀ i' ∈ ownPl ms rs ++ borPl ms rs, i' ≠ i) → RRs' sl rs vs nws → RRs' (sl.set i u) rs vs nws := by
  induction rs with
  | nil =>
    intro ms vs nws hl h rr
    cases rr
    exact .nil
  | cons r rs ih =>
    intro ms vs nws hl h rr
    cases ms with
    | nil => simp at hl
    | cons m ms =>
      cases rr with
      | cons a b =>
        rw [ownPl_cons, borPl_cons] at h
        refine .cons ?_ (ih (ms := ms) (by simpa using hl) (fun i' hi => h i' (by
          rcases List.mem_append.mp hi with z | z
          · exact List.mem_append_left _ (List.mem_append_right _ z)
          · exact List.mem_append_right _ (List.mem_append_right _ z))) b)
        cases r with
        | v t => exact a
        | p i' q =>
          obtain ⟨e, f⟩ := a
          refine ⟨e, fun t c h1 h2 => f t c ?_ h2⟩
          have hne : i' ≠ i := h i' (by cases m <;> simp)
          rw [List.getElem?_set_ne (Ne.symm hne)] at h1
          exact h1
theorem passes_len : ∀ {ms : List Md} {rs : List R} {σ : St} {x : List T × Bool}, passes ms rs σ = some x → ms.length = rs.length
  | [], [], _, _, _ => rfl
  | [], _ :: _, _, _, h => by simp [passes] at h
  | _ :: _, [], _, _, h => by simp [passes] at h
  | m :: ms, r :: rs, σ, x, h => by
    rw [passes] at h
    cases e : passes ms rs σ with
    | none =>
      rw [e] at h
      cases r.get σ with
      | none => simp at h
      | some t => cases t <;> simp at h
    | some y => rw [List.length_cons, List.length_cons, passes_len e]
theorem prep {rs : List R} : ∀ {md : List Md} {vs : List V} {nws : List (List TA)} {ts : List T} {b : Bool} {Hs : Hp} {sl tp : List TA}, Rel K B Hs H σ sl (tp ++ nws.flatten) → RRs' sl rs vs nws → passes md rs (TA.tl sl) = some (ts, b) → (ownPl md rs).Nodup → (∀ i ∈ borPl md rs, i ∉ ownPl md rs) →
    ∃ Hs' sl' gs, Rdy K B Hs H σ md rs vs ts b sl tp Hs' sl' gs := by
  induction rs with
  | nil =>
    intro md vs nws ts b Hs sl tp R1 rr hp hn hb
    cases rr
    cases md with
    | cons m ms => simp [passes] at hp
    | nil =>
      rw [passes] at hp
      cases hp
      refine ⟨Hs, sl, [], Same.refl _, R1, fun g hg => by simp at hg, rfl, rfl, fun i g h => by simp at h, rfl, fun _ g hg => by simp at hg, fun as' Hs2 H2 tp2 hv hn2 hn3 R2 => ?_, fun j _ => rfl⟩
      cases as' with
      | nil => exact ⟨sl, by simpa using R2, rfl, fun _ _ => rfl, rfl, fun j t h1 h2 => ⟨t, h1, h2⟩⟩
      | cons _ _ => simp at hv
  | cons r rs ih =>
    intro md vs nws ts b Hs sl tp R1 rr hp hn hb
    cases md with
    | nil => simp [passes] at hp
    | cons m ms =>
    cases rr with
    | @cons _ v nw _ vs nws a0 bt =>
    rw [List.flatten_cons] at R1
    rw [ownPl_cons] at hn
    have hn2 := (List.nodup_append.mp hn).2.1
    have hb2 : ∀ i ∈ borPl ms rs, i ∉ ownPl ms rs := fun i hi z => hb i (by rw [borPl_cons]; exact List.mem_append_right _ hi) (by rw [ownPl_cons]; exact List.mem_append_right _ z)
    rw [passes] at hp
    have hget : ∀ T0, r.get (TA.tl sl) = some T0 → T0.isDead = false → ∃ c : TA, c.t = T0 ∧ c.v = v ∧ c.isDead = false ∧ c.ok K Hs H ∧ (r.isP = false → nw = [c]) ∧ (∀ i q, r = .p i q → nw = [] ∧ ∃ t, sl[i]? = some t ∧ t.at q = some c) := by
      intro T0 hT hTd
      cases r with
      | v t =>
        obtain ⟨x, e1, e2, e3, e4⟩ := a0
        subst e1
        rw [R.get, Option.some.injEq] at hT
        refine ⟨x, e2.trans hT, e3, e4, ?_, fun _ => rfl, fun i q z => by cases z⟩
        have := R1.okT
        rw [TA.okl_append, TA.okl_append, TA.okl] at this
        exact this.2.1.1
      | p i q =>
        obtain ⟨e1, e2⟩ := a0
        unfold R.get at hT
        simp only at hT
        rw [tl_get] at hT
        cases h1 : sl[i]? with
        | none => rw [h1] at hT; cases hT
        | some t =>
          rw [h1] at hT
          simp only [Option.map_some, TA.at_t] at hT
          cases h2 : t.at q with
          | none => rw [h2] at hT; cases hT
          | some c =>
            rw [h2] at hT
            have e3 : c.t = T0 := Option.some.inj hT
            exact ⟨c, e3, e2 t c h1 h2, by rw [← TA.isDead_t, e3]; exact hTd, TA.at_ok q t c h2 (R1.slot_ok h1), fun z => (by cases z), fun i' q' z => by cases z; exact ⟨e1, t, h1, h2⟩⟩
    have Rt : Rel K B Hs H σ sl (tp ++ nws.flatten) := R1.tempsS (by
        have := R1.okT
        rw [TA.okl_append, TA.okl_append] at this
        exact TA.okl_append.mpr ⟨this.1, this.2.2⟩) (by
        rw [TA.fpl_append, TA.fpl_append, TA.fpl_append]
        exact (List.Sublist.refl _).append (List.sublist_append_right _ _))
    -- an argument in front that takes nothing out of the slots
    have front : ∀ (g : Ag) (ts1 : List T) (b1 bx : Bool) (Hs1 : Hp) (tpx : List TA), Same Hs Hs1 → Rel K B Hs1 H σ sl ((tp ++ g.cs) ++ nws.flatten) → passes ms rs (TA.tl sl) = some (ts1, b1) → (∀ Hs2 sl2, Same Hs1 Hs2 → (∀ j, j ∉ ownPl ms rs → sl2[j]? = sl[j]?) → g.ok K Hs2 H sl2) → g.ta.v = v → (m = .bor → g.bor = true) → (bx = false → g.A = []) →
        (∀ i q, m = .own → r = .p i q → ∃ t c, sl[i]? = some t ∧ t.at q = some c ∧ c.v = v ∧ c.isDead = false) → ∃ Hs' sl' gs, Rdy K B Hs H σ (m :: ms) (r :: rs) (v :: vs) (g.ta.t :: ts1) (b1 || bx) sl tp Hs' sl' gs := by
      intro g ts1 b1 bx Hs1 _ hs1 R2 hp2 hg hgv hgm hgx hpl
      obtain ⟨Hs', sl', gs, Y⟩ := ih R2 bt hp2 hn2 hb2
      refine ⟨Hs', sl', g :: gs, hs1.trans Y.hs, by rw [List.flatMap_cons, ← List.append_assoc]; exact Y.rel, fun g' hg' => ?_, by rw [List.map_cons, hgv, Y.v], by rw [List.map_cons, Y.tl], fun i g' h1 h2 => ?_, by rw [List.length_cons, List.length_cons, Y.len], fun hbb g' hg' => ?_, fun as' Hs2 H2 tp2 hv hnt hnd R3 => ?_, fun j hj => Y.same j fun z => hj (by rw [ownPl_cons]; exact List.mem_append_right _ z)⟩
      · rcases List.mem_cons.mp hg' with rfl | hg'
        · exact hg Hs' sl' Y.hs Y.same
        · exact Y.ok g' hg'
      · cases i with
        | zero =>
          simp only [List.getElem?_cons_zero, Option.some.injEq] at h1 h2
          subst h2
          exact hgm h1
        | succ i => exact Y.mode i g' (by simpa using h1) (by simpa using h2)
      · simp only [Bool.or_eq_false_iff] at hbb
        rcases List.mem_cons.mp hg' with rfl | hg'
        · exact hgx hbb.2
        · exact Y.none hbb.1 g' hg'
      · cases as' with
        | nil => simp at hv
        | cons a1 as1 =>
          rw [List.map_cons, List.cons.injEq] at hv
          have R4 : Rel K B Hs2 H2 σ sl' ((tp2 ++ [a1]) ++ as1) := by rw [List.append_assoc]; exact R3
          obtain ⟨sl2, R5, e1, e2, e3, e4⟩ := Y.back as1 Hs2 H2 (tp2 ++ [a1]) hv.2 (fun t ht => hnt t (List.mem_cons_of_mem _ ht)) (fun i t h1 h2 => hnd (i + 1) t h1 h2) R4
          by_cases hmo : ∃ i q, m = .own ∧ r = .p i q
          · obtain ⟨i, q, hm, hr⟩ := hmo
            subst hm hr
            obtain ⟨t, c, g1, g2, g3, g4⟩ := hpl i q rfl rfl
            have hnot : i ∉ ownPl ms rs := fun z => (List.nodup_append.mp hn).2.2 i (by simp) i z rfl
            have g1' : sl2[i]? = some t := (e2 i hnot).trans g1
            have hi : i < sl2.length := (List.getElem?_eq_some_iff.mp g1').1
            refine ⟨sl2.set i (t.put a1 q), R5.in1 g1' g2 (hv.1.trans g3.symm) (hnt a1 (by simp)) (fun e _ => ?_), ?_, fun j hj => ?_, by rw [List.length_set]; exact e3, fun j t' h1 h2 => ?_⟩
            · subst e
              rw [TA.at] at g2
              cases g2
              rw [hv.1, ← g3]
              exact R1.val i t g1 g4
            · rw [tl_putS g1', e1, TA.tl, backs]
            · rw [ownPl_cons] at hj
              have hji : j ≠ i := fun z => hj (by subst z; simp)
              rw [List.getElem?_set_ne (Ne.symm hji)]
              exact e2 j fun z => hj (List.mem_append_right _ z)
            · obtain ⟨t2, k1, k2⟩ := e4 j t' h1 h2
              exact chg_live g1' g2 (hnd 0 a1 rfl rfl) j t2 k1 k2
          · refine ⟨sl2, R5.drop, ?_, fun j hj => e2 j fun z => hj (by rw [ownPl_cons]; exact List.mem_append_right _ z), e3, e4⟩
            rw [e1, TA.tl]
            cases m with
            | bor => cases r <;> rfl
            | own =>
              cases r with
              | v _ => rfl
              | p i q => exact (hmo ⟨i, q, rfl, rfl⟩).elim
    cases hT : r.get (TA.tl sl) with
    | none => rw [hT] at hp; simp at hp
    | some T0 =>
    cases hps : passes ms rs (TA.tl sl) with
    | none => rw [hT, hps] at hp; cases T0 <;> simp at hp
    | some y =>
    obtain ⟨ts1, b1⟩ := y
    rw [hT, hps] at hp
    cases T0 with
    | dead => simp at hp
    | d x =>
      simp only [Option.some.injEq, Prod.mk.injEq] at hp
      obtain ⟨rfl, rfl⟩ := hp
      obtain ⟨c, c1, c2, c3, c4, c5, c6⟩ := hget _ hT rfl
      obtain ⟨w, rfl⟩ := ta_d c1
      rw [TA.ok] at c4
      have := front (.leaf v x) ts1 b1 false Hs [] (Same.refl _) (by simpa [Ag.cs] using Rt) hps (fun Hs2 sl2 hs _ => by have e : w = v := c2; subst e; exact c4.mono hs) rfl (fun _ => rfl) (fun _ => rfl) (fun i q hm hr => by
        obtain ⟨_, t, g1, g2⟩ := c6 i q hr
        exact ⟨t, _, g1, g2, c2, rfl⟩)
      rw [Bool.or_false] at this
      exact this
    | nd k us =>
      obtain ⟨c, c1, c2, c3, c4, c5, c6⟩ := hget _ hT rfl
      cases m with
      | bor =>
        simp only at hp
        split at hp
        · rename_i x hx
          simp only [Option.some.injEq, Prod.mk.injEq] at hp
          obtain ⟨rfl, rfl⟩ := hp
          have hx' : c.t.data = some x := by rw [c1]; exact hx
          cases r with
          | v t0 =>
            have hnw := c5 rfl
            subst hnw
            have R2 : Rel K B Hs H σ sl ((tp ++ nws.flatten) ++ [c]) := R1.perm (by
              rw [List.append_assoc]
              exact List.Perm.append_left _ List.perm_append_comm)
            have R3 := (R2.frzT hx').drop
            have hin : ∀ a ∈ c.fp, Hs a = Option.none := fun a ha => R1.out a (fpl_mem (by simp) ha)
            have rp : Rp K (frzH Hs H c.fp) c.v x := TA.reads_frz R1.sub c c4 hx' hin
            exact front (.leaf v x) ts1 b1 false (frzH Hs H c.fp) [] (frzH_same hin) (by simpa [Ag.cs] using R3) hps (fun Hs2 sl2 hs _ => by rw [← c2]; exact rp.mono hs) rfl (fun _ => rfl) (fun _ => rfl) (fun i q hm hr => by cases hm)
          | p i q =>
            obtain ⟨_, t, g1, g2⟩ := c6 i q rfl
            have hnot : i ∉ ownPl ms rs := fun z => hb i (by rw [borPl_cons]; simp) (by rw [ownPl_cons]; exact List.mem_append_right _ z)
            have := front (.lend c x) ts1 b1 true Hs [] (Same.refl _) (by simpa [Ag.cs] using Rt) hps (fun Hs2 sl2 hs hsame => ⟨TA.ok_mono hs c c4 fun _ _ => rfl, hx', fun a ha => by
                obtain ⟨l1, l2, le, _⟩ := TA.lens q t c g2
                exact fpl_slot ((hsame i hnot).trans g1) (by rw [le]; exact List.mem_append_left _ (List.mem_append_right _ ha)), TA.at_noTup q t c g2 (R1.ntup t (List.mem_of_getElem? g1))⟩) c2 (fun _ => rfl) (fun z => by cases z) (fun i q hm hr => by cases hm)
            exact this
        · simp at hp
      | own =>
        simp only at hp
        split at hp
        · rename_i hnt
          simp only [Option.some.injEq, Prod.mk.injEq] at hp
          obtain ⟨rfl, rfl⟩ := hp
          cases r with
          | v t0 =>
            have hnw := c5 rfl
            subst hnw
            have := front (.own c) ts1 b1 false Hs [] (Same.refl _) (by rw [List.append_assoc]; exact R1) hps (fun Hs2 sl2 hs _ => ⟨by rw [← TA.noTup_t, c1]; simpa [R.isP] using hnt, c3⟩) c2 (fun z => by cases z) (fun _ => rfl) (fun i q hm hr => by cases hr)
            rw [Bool.or_false] at this
            have e : (Ag.own c).ta.t = T.nd k us := c1
            rw [e] at this
            exact this
          | p i q =>
            obtain ⟨hnw, t, g1, g2⟩ := c6 i q rfl
            subst hnw
            have hi : i < sl.length := (List.getElem?_eq_some_iff.mp g1).1
            have hnot : i ∉ ownPl ms rs := fun z => (List.nodup_append.mp hn).2.2 i (by simp) i z rfl
            have hnotb : i ∉ borPl ms rs := fun z => hb i (by rw [borPl_cons]; exact List.mem_append_right _ z) (by rw [ownPl_cons]; simp)
            have hne : ∀ i' ∈ ownPl ms rs ++ borPl ms rs, i' ≠ i := fun i' hi' e => by
              subst e
              rcases List.mem_append.mp hi' with z | z
              · exact hnot z
              · exact hnotb z
            have R2 : Rel K B Hs H σ (sl.set i (t.put (.dead c.v) q)) ((tp ++ [c]) ++ nws.flatten) := (Rt.out1 g1 g2).perm (by
              rw [List.append_assoc, List.append_assoc]
              exact List.Perm.append_left _ List.perm_append_comm)
            have hps2 : passes ms rs (TA.tl (sl.set i (t.put (.dead c.v) q))) = some (ts1, b1) := by
              rw [← hps]
              refine passes_congr ms rs _ _ fun i' hi' => ?_
              rw [tl_set, List.getElem?_set_ne (Ne.symm (hne i' hi'))]
            obtain ⟨Hs', sl', gs, Y⟩ := ih R2 (bt.setS (passes_len hps) hne) hps2 hn2 hb2
            have hci : (sl.set i (t.put (.dead c.v) q))[i]? = some (t.put (.dead c.v) q) := List.getElem?_set_self hi
            refine ⟨Hs', sl', .own c :: gs, Y.hs, by rw [List.flatMap_cons, ← List.append_assoc]; exact Y.rel, fun g' hg' => ?_, by rw [List.map_cons, Y.v]; exact congrArg (· :: vs) c2, by rw [List.map_cons, Y.tl]; exact congrArg (· :: ts1) c1, fun j g' h1 h2 => ?_, by rw [List.length_cons, List.length_cons, Y.len], fun hbb g' hg' => ?_, fun as' Hs2 H2 tp2 hv hnt2 hnd2 R3 => ?_, fun j hj => ?_⟩
            · rcases List.mem_cons.mp hg' with rfl | hg'
              · exact ⟨TA.at_noTup q t c g2 (R1.ntup t (List.mem_of_getElem? g1)), c3⟩
              · exact Y.ok g' hg'
            · cases j with
              | zero => simp at h1
              | succ j => exact Y.mode j g' (by simpa using h1) (by simpa using h2)
            · rcases List.mem_cons.mp hg' with rfl | hg'
              · rfl
              · exact Y.none hbb g' hg'
            · cases as' with
              | nil => simp at hv
              | cons a1 as1 =>
                rw [List.map_cons, List.cons.injEq] at hv
                have R4 : Rel K B Hs2 H2 σ sl' ((tp2 ++ [a1]) ++ as1) := by rw [List.append_assoc]; exact R3
                obtain ⟨sl2, R5, e1, e2, e3, e4⟩ := Y.back as1 Hs2 H2 (tp2 ++ [a1]) hv.2 (fun t ht => hnt2 t (List.mem_cons_of_mem _ ht)) (fun i t h1 h2 => hnd2 (i + 1) t h1 h2) R4
                have g1' : sl2[i]? = some (t.put (.dead c.v) q) := (e2 i hnot).trans hci
                have g2' : (t.put (.dead c.v) q).at q = some (.dead c.v) := TA.put_at_self _ q t c g2
                refine ⟨sl2.set i ((t.put (.dead c.v) q).put a1 q), R5.in1 g1' g2' (hv.1.trans c2.symm) (hnt2 a1 (by simp)) (fun e _ => ?_), ?_, fun j hj => ?_, by rw [List.length_set, e3, List.length_set], fun j t' h1 h2 => ?_⟩
                · subst e
                  rw [TA.at] at g2
                  cases g2
                  rw [hv.1, ← c2]
                  exact R1.val i _ g1 c3
                · rw [tl_putS g1', e1, TA.tl]
                  show putS (backs ms rs (TA.tl as1) (TA.tl (sl.set i (t.put (.dead c.v) q)))) i q a1.t = putS (backs ms rs (TA.tl as1) (TA.tl sl)) i q a1.t
                  rw [tl_set, backs_set _ _ _ _ _ _ hnot]
                  have hlen : i < (backs ms rs (TA.tl as1) (TA.tl sl)).length := by rw [backs_len, tl_len]; exact hi
                  have hti : (backs ms rs (TA.tl as1) (TA.tl sl))[i]? = some t.t := by rw [backs_ne _ _ _ _ _ hnot, tl_get, g1]; rfl
                  unfold putS
                  rw [List.getElem?_set_self hlen, hti]
                  simp only
                  rw [List.set_set, TA.put_t, T.put_put _ _ q t.t c.t (by rw [TA.at_t, g2]; rfl)]
                · rw [ownPl_cons] at hj
                  have hji : j ≠ i := fun z => hj (by subst z; simp)
                  rw [List.getElem?_set_ne (Ne.symm hji), e2 j fun z => hj (List.mem_append_right _ z), List.getElem?_set_ne (Ne.symm hji)]
                · by_cases hji : j = i
                  · subst hji
                    refine ⟨_, List.getElem?_set_self (List.getElem?_eq_some_iff.mp g1').1, ?_⟩
                    rw [g1] at h1
                    cases h1
                    cases q with
                    | nil => exact (hnd2 0 a1 rfl rfl)
                    | cons m' q' =>
                      cases t with
                      | dead _ => cases h2
                      | d _ _ => rfl
                      | nd k' a' ts' =>
                        simp only [TA.put]
                        cases ts'[m']? with
                        | none => simp only [TA.put]; cases ts'[m']? <;> rfl
                        | some d' => simp only; cases (ts'.set m' (d'.put (TA.dead c.v) q'))[m']? <;> rfl
                  · obtain ⟨t2, k1, k2⟩ := e4 j t' (by rw [List.getElem?_set_ne (Ne.symm hji)]; exact h1) h2
                    exact ⟨t2, by rw [List.getElem?_set_ne (Ne.symm hji)]; exact k1, k2⟩
            · rw [ownPl_cons] at hj
              have hji : j ≠ i := fun z => hj (by subst z; simp)
              rw [Y.same j fun z => hj (List.mem_append_right _ z), List.getElem?_set_ne (Ne.symm hji)]
        · simp at hp
theorem Ag.fp : ∀ gs : List Ag, TA.fpl (gs.map Ag.ta) = TA.fpl (gs.flatMap Ag.cs)
  | [] => rfl
  | g :: gs => by
    rw [List.map_cons, List.flatMap_cons, TA.fpl, TA.fpl_append, Ag.fp gs]
    cases g with
    | leaf v x => rfl
    | own c => rw [Ag.ta, Ag.cs, fpl_one]
    | lend c x => rfl
/-- a call: the way in, and the way out again -/
structure Way (K : PySem.W.Frag) (B : Bs) (σ : L2.St) (H0 H2 : Hp) (sl sl2 tp : List TA) (md : List Md) (rs : List R) (vs : List V) (pu : Bool) (ts : List T) (b : Bool) (Hs : Hp) (as : List TA) : Prop where
  len : vs.length = md.length
  rel : Rel K ⟨⟨H2, Hs, TA.fpl as ++ tabA K, []⟩, []⟩ Hs H2 (vs.map some) as []
  v : as.map TA.v = vs
  nd : ∀ t ∈ as, t.isDead = false
  bor : ∀ (i : Nat) (t : TA), md[i]? = some Md.bor → as[i]? = some t → ∃ v x, t = TA.d v x
  tl : TA.tl as = ts
  out : ∀ H' Hs' as' r, Rel K ⟨⟨H2, Hs, TA.fpl as ++ tabA K, []⟩, []⟩ Hs' H' (vs.map some) as' [r] → as'.map TA.v = vs → (∀ (i : Nat) (t : TA), md[i]? = some Md.own → as'[i]? = some t → t.isDead = false) → (b = true → r.t.flat = true ∧ T.flatl (TA.tl as') = true) →
    ∃ Hs'' sl3, Rel K B Hs'' H' σ sl3 (tp ++ [r]) ∧ Stp pu H0 H' sl sl3 ∧ TA.tl sl3 = backs md rs (TA.tl as') (TA.tl sl2)
theorem call_way {K : PySem.W.Frag} {md : List Md} {Hs2 H0 H2 : Hp} {sl sl2 tp : List TA} {nws : List (List TA)} {rs : List R} {vs : List V} {pu : Bool} {ts : List T} {b : Bool} (R1 : Rel K B Hs2 H2 σ sl2 (tp ++ nws.flatten)) (rr : RRs sl2 rs vs nws) (st : Stp pu H0 H2 sl sl2) (hps : passes md rs (TA.tl sl2) = some (ts, b)) (hap : apart md rs = true) (hpu : pu = true → md.all (fun m => decide (m = .bor)) = true) :
    ∃ Hs as, Way K B σ H0 H2 sl sl2 tp md rs vs pu ts b Hs as := by
  unfold apart at hap
  rw [Bool.and_eq_true] at hap
  obtain ⟨Hs', sl', gs, Y⟩ := prep R1 rr.weak hps (of_decide_eq_true hap.1) (fun i hi z => by
    have := List.all_eq_true.mp hap.2 i hi
    simp at this
    exact this z)
  have hA : ∀ a ∈ gs.flatMap Ag.A, a ∈ TA.fpl sl' := fun a ha => by
    obtain ⟨g, hg, hga⟩ := List.mem_flatMap.mp ha
    have := Y.ok g hg
    cases g with
    | leaf v x => simp [Ag.A] at hga
    | own c => simp [Ag.A] at hga
    | lend c x => exact this.2.2.1 a hga
  have kA : ∀ a ∈ gs.flatMap Ag.A, ∀ vs o, H2 a ≠ some (.tup vs) ∧ H2 a ≠ some (.frz o (.tup vs)) := fun a ha => by
    obtain ⟨g, hg, hga⟩ := List.mem_flatMap.mp ha
    have := Y.ok g hg
    cases g with
    | leaf v x => simp [Ag.A] at hga
    | own c => simp [Ag.A] at hga
    | lend c x => exact TA.fp_kind c this.1 this.2.2.2 (by rw [this.2.1]; rfl) a hga
  have kC : ∀ a ∈ gs.flatMap Ag.A, ∀ c q, H2 a ≠ some (LamX.CodeO c q) := fun a ha => by
    obtain ⟨g, hg, hga⟩ := List.mem_flatMap.mp ha
    have := Y.ok g hg
    cases g with
    | leaf v x => simp [Ag.A] at hga
    | own c => simp [Ag.A] at hga
    | lend c x => exact TA.fp_code c this.1 this.2.2.2 (by rw [this.2.1]; rfl) a hga
  have hsA : ∀ a ∈ gs.flatMap Ag.A, Hs' a = none := fun a ha => Y.rel.out a (by rw [TA.fpl_append]; exact List.mem_append_left _ (hA a ha))
  have sm : Same Hs' (frzH Hs' H2 (gs.flatMap Ag.A)) := frzH_same hsA
  have hcs : TA.okl K Hs' H2 (gs.flatMap Ag.cs) := (TA.okl_append.mp Y.rel.okT).2
  have ok : TA.okl K (frzH Hs' H2 (gs.flatMap Ag.A)) H2 (gs.map Ag.ta) := TA.okl_all.mpr fun t ht => by
    obtain ⟨g, hg, rfl⟩ := List.mem_map.mp ht
    have := Y.ok g hg
    cases g with
    | leaf v x => rw [Ag.ta, TA.ok]; exact Rp.mono sm this
    | own c => exact TA.ok_mono sm c (TA.okl_all.mp hcs c (List.mem_flatMap.mpr ⟨_, hg, by simp [Ag.cs]⟩)) fun _ _ => rfl
    | lend c x =>
      rw [Ag.ta, TA.ok]
      refine TA.reads sm c x (TA.ok_mono (Same.refl _) c this.1 fun a ha => ?_) this.2.1
      unfold frzH
      rw [if_pos (List.mem_flatMap.mpr ⟨_, hg, ha⟩)]
  have hv : (gs.map Ag.ta).map TA.v = vs := by rw [List.map_map]; exact Y.v
  have hfp := Ag.fp gs
  have R2 := Y.rel.enter hA ok hfp hv (fun t ht => by
    obtain ⟨g, hg, rfl⟩ := List.mem_map.mp ht
    have := Y.ok g hg
    cases g with
    | leaf v x => rfl
    | own c => exact this.1
    | lend c x => rfl)
  refine ⟨_, gs.map Ag.ta, ⟨Y.len, R2, hv, fun t ht => ?_, fun i t h1 h2 => ?_, by rw [TA.tl_map, List.map_map]; exact Y.tl, fun H' Hs'' as' r R3 hv' hd' hfl => ?_⟩⟩
  · obtain ⟨g, hg, rfl⟩ := List.mem_map.mp ht
    have := Y.ok g hg
    cases g with
    | leaf v x => rfl
    | own c => exact this.2
    | lend c x => rfl
  · rw [List.getElem?_map] at h2
    obtain ⟨g, hg, rfl⟩ := Option.map_eq_some_iff.mp h2
    have := Y.mode i g h1 hg
    cases g with
    | leaf v x => exact ⟨v, x, rfl⟩
    | own c => cases this
    | lend c x => exact ⟨c.v, x, rfl⟩
  · have flat : gs.flatMap Ag.A = [] ∨ (r.t.flat = true ∧ T.flatl (TA.tl as') = true) := by
      cases b with
      | false =>
        refine .inl ?_
        have := Y.none rfl
        rw [List.flatMap_eq_nil_iff]
        exact this
      | true => exact .inr (hfl rfl)
    have R4 := Y.rel.leave hA hfp R3 flat kA kC
    have R5 := R4.perm (tp' := (tp ++ [r]) ++ as') (by
      rw [List.append_assoc]
      exact List.Perm.append_left _ List.perm_append_comm)
    obtain ⟨sl3, R6, e1, e2, e3, e4⟩ := Y.back as' _ H' (tp ++ [r]) hv' R3.ntup hd' R5
    refine ⟨_, sl3, R6, st.trans (pu' := pu) ⟨fun hp => ?_, e4⟩ id, e1⟩
    have hall := hpu hp
    have hown : ∀ (ms : List Md) (rs : List R), ms.all (fun m => decide (m = .bor)) = true → ownPl ms rs = [] := by
      intro ms
      induction ms with
      | nil => intro rs _; cases rs <;> rfl
      | cons m ms ih =>
        intro rs hm
        simp only [List.all_cons, Bool.and_eq_true, decide_eq_true_eq] at hm
        cases rs with
        | nil => rw [hm.1]; rfl
        | cons r rs => rw [ownPl_cons, ih rs hm.2, hm.1]; rfl
    refine ⟨?_, fun a o ho hn => R3.keep a o ho ?_⟩
    · apply List.ext_getElem?
      intro j
      exact e2 j (by rw [hown _ _ hall]; simp)
    · have hz : TA.fpl (gs.map Ag.ta) = [] := by
        have : ∀ (gs : List Ag), (∀ g ∈ gs, g.bor = true) → TA.fpl (gs.map Ag.ta) = [] := by
          intro gs
          induction gs with
          | nil => intro _; rfl
          | cons g gs ih =>
            intro hg
            rw [List.map_cons, TA.fpl, ih fun g' h' => hg g' (List.mem_cons_of_mem _ h')]
            have := hg g List.mem_cons_self
            cases g with
            | leaf v x => rfl
            | own c => cases this
            | lend c x => rfl
        refine this gs fun g hg => ?_
        obtain ⟨i, hi⟩ := List.getElem?_of_mem hg
        have hlen : gs.length = md.length := by
          have := Y.len
          rw [← Y.v, List.length_map] at this
          exact this
        have hil : i < md.length := by rw [← hlen]; exact (List.getElem?_eq_some_iff.mp hi).1
        refine Y.mode i g ?_ hi
        rw [List.getElem?_eq_getElem hil]
        have := List.all_eq_true.mp hall _ (List.getElem_mem hil)
        simp only [decide_eq_true_eq] at this
        rw [this]
      show a ∉ TA.fpl (gs.map Ag.ta) ++ tabA K
      rw [hz, List.nil_append]
      intro z
      obtain ⟨ps, e⟩ := R1.tab.some_ z
      rw [ho] at e
      cases e
      exact hn ps rfl
/-- a call by its promise -/
theorem call_ok {X : Cx} {fs : FS} {Hs2 H0 H2 : Hp} {sl sl2 tp : List TA} {nws : List (List TA)} {rs : List R} {vs : List V} {pu : Bool} {P : R → St → Prop} {Q : VK} {E : XK} (R1 : Rel X.K B Hs2 H2 σ sl2 (tp ++ nws.flatten)) (rr : RRs sl2 rs vs nws) (st : Stp pu H0 H2 sl sl2) (h : callW fs pu rs (TA.tl sl2) P)
    (hk : ∀ r v Hs' H' sl' nw, Rel X.K B Hs' H' σ sl' (tp ++ nw) → RR r v sl' nw → Stp pu H0 H' sl sl' → P r (TA.tl sl') → Q v H') : spV X.K fs.md fs.F vs H2 Q E := by
  unfold callW at h
  split at h
  · rename_i ts b hps
    obtain ⟨hap, hpu, hF⟩ := h
    obtain ⟨Hs, as, Y⟩ := call_way R1 rr st hps hap hpu
    refine ⟨Hs, as, _, Y.len, Y.rel, Y.v, Y.nd, Y.bor, by rw [Y.tl]; exact hF, fun H' Hs' as' r R3 hv' hd' hdr hP => ?_⟩
    obtain ⟨Hs'', sl3, R6, st3, e1⟩ := Y.out H' Hs' as' r R3 hv' hd' hP.1
    exact hk (.v r.t) r.v _ H' sl3 [r] R6 ⟨r, rfl, rfl, rfl, hdr⟩ st3 (by rw [e1]; exact hP.2)
  · exact h.elim
/-- the promise of a def that may raise -/
def spX (K : PySem.W.Frag) (mg : Str → Option Value) (md : List Md) (F : List T → (T → List T → Prop) → Prop) : Sp := fun vs H Q E => ∃ Hs as P, vs.length = md.length ∧ Rel K ⟨⟨H, Hs, TA.fpl as ++ tabA K, []⟩, []⟩ Hs H (vs.map some) as [] ∧ as.map TA.v = vs ∧ (∀ t ∈ as, t.isDead = false) ∧ (∀ (i : Nat) (t : TA), md[i]? = some Md.bor → as[i]? = some t → ∃ v x, t = TA.d v x) ∧ F (TA.tl as) P ∧
  (∀ H' Hs' as' r, Rel K ⟨⟨H, Hs, TA.fpl as ++ tabA K, []⟩, []⟩ Hs' H' (vs.map some) as' [r] → as'.map TA.v = vs → (∀ (i : Nat) (t : TA), md[i]? = some Md.own → as'[i]? = some t → t.isDead = false) → r.isDead = false → P r.t (TA.tl as') → Q r.v H') ∧
  (∀ H' Hs' as' n C, Rel K ⟨⟨H, Hs, TA.fpl as ++ tabA K, []⟩, []⟩ Hs' H' (vs.map some) as' [] → as'.map TA.v = vs → (∀ (i : Nat) (t : TA), md[i]? = some Md.own → as'[i]? = some t → t.isDead = false) → mg n = some (.ref C) → P (.nd (.rsd n) []) (TA.tl as') → E (.ref C) none H')
end
structure Blk where
  N : List Str
  sc : Scope
  fnb : Str → Bool
def visB (sc : Scope) (x : Str) : Bool := match sc.names.lookup x with
  | some .local => true
  | some .cell => true
  | some .free => true
  | _ => false
def globB (sc : Scope) (x : Str) : Bool := match sc.names.lookup x with
  | some .globalImplicit => true
  | _ => false
def locB (b : Blk) (x : Str) : Bool := match b.sc.names.lookup x with
  | some .local => true
  | some .cell => b.fnb x
  | _ => false
def okNm (x : Str) : Bool := !(x == ("__debug__" : Str)) && !(x == ("__classdict__" : Str)) && !decide (x = ("__name__" : Str))
def varB (b : Blk) (i : Nat) (x : Str) : Bool := decide (b.N[i]? = some x) && visB b.sc x && okNm x
def tgB (b : Blk) (i : Nat) (x : Str) : Bool := decide (b.N[i]? = some x) && locB b x
def constIs : PyData → Const → Bool
  | .none, .none => true
  | .bool b, .bool c => b == c
  | .int i, .int j => i == j
  | .str s, .str t => decide (s = t)
  | _, _ => false
def noStar : Expr → Bool
  | .Starred _ _ => false
  | _ => true
def noSlice : Expr → Bool
  | .Slice _ _ _ _ => false
  | _ => true
def noSet : Expr → Bool
  | .Set _ _ _ => false
  | _ => true
def bltNm : Blt → Str
  | .len => "len"
  | .max => "max"
  | .min => "min"
  | .sum => "sum"
  | .abs => "abs"
  | .int => "int"
  | .str => "str"
  | .tuple => "tuple"
  | .list => "list"
  | .sorted => "sorted"
  | .all => "all"
  | .any => "any"
  | .listRange => "list"
def mthNm : Mth → Str
  | .append => "append"
  | .insert => "insert"
  | .extend => "extend"
  | .pop => "pop"
  | .clear => "clear"
  | .reverse => "reverse"
  | .index => "index"
  | .count => "count"
def bltCall (Γ : Sk) (b : Blk) (nm : Str) (x : Str) : Bool := decide (nm = x) && globB b.sc x && Γ.bs.contains x && okNm x
/-- the targets of a loop: one name, or a tuple of names -/
def tgsB (b : Blk) : List Nat → List Expr → Bool
  | [], [] => true
  | i :: is, .Name x _ :: es => tgB b i x && tgsB b is es
  | _, _ => false
def targB (b : Blk) (is : List Nat) (e : Expr) : Bool := match is, e with
  | [i], .Name x _ => tgB b i x
  | i :: j :: is, .Tuple es _ _ => tgsB b (i :: j :: is) es
  | _, _ => false
def blkOf (b : Blk) (scope : Scope) : Blk := ⟨b.N, relS scope b.sc, fun x => (scope.names.lookup x == some .cell) && !(x == ("<lambda>" : Str))⟩
def ownOf (N : List Str) (is : List Nat) : List (Str × Nat) := is.filterMap fun i => (N[i]?).map fun x => (x, i)
def enB (it : ItK) (tg : Expr) : Bool := match it, tg with
  | .enum, .Tuple _ _ _ => true
  | .enum, _ => false
  | .zip, .Tuple _ _ _ => true
  | .zip, _ => false
  | _, _ => true
def isTyNm (t : String) : Bool := t == "int" || t == "bool" || t == "list" || t == "tuple" || t == "str" || t == "dict"
def noCall : Expr → Bool
  | .Call (.Name _ _) [] [] _ => false
  | _ => true
/-- what a loop's iterable asks, its arguments -/
def itX (Γ : Sk) (b : Blk) (it : ItK) (e : Expr) : Option (List Expr) := match it with
  | .e => some [e]
  | .rng1 => match e with
    | .Call (.Name x _) [a] [] _ => if bltCall Γ b "range" x then some [a] else none
    | _ => none
  | .rng2 => match e with
    | .Call (.Name x _) [a, c] [] _ => if bltCall Γ b "range" x then some [a, c] else none
    | _ => none
  | .rng3 => match e with
    | .Call (.Name x _) [a, c, d] [] _ => if bltCall Γ b "range" x then some [a, c, d] else none
    | _ => none
  | .rrng => match e with
    | .Call (.Name y _) [.Call (.Name x _) [a] [] _] [] _ => if bltCall Γ b "reversed" y && bltCall Γ b "range" x then some [a] else none
    | _ => none
  | .enum => match e with
    | .Call (.Name x _) [a] [] _ => if bltCall Γ b "enumerate" x then some [a] else none
    | _ => none
  | .zip => match e with
    | .Call (.Name x _) [a, c] [] _ => if bltCall Γ b "zip" x then some [a, c] else none
    | _ => none
def plainE : Expr → Bool
  | .Call _ _ _ _ => true
  | .Name _ _ => true
  | .List _ _ => true
  | .ListComp _ _ _ _ => true
  | .Subscript _ _ _ => true
  | .Tuple _ _ _ => true
  | .Attribute _ _ _ => true
  | .Dict _ _ _ => true
  | .BinOp _ _ _ _ => true
  | _ => false
mutual
/-- the names of a lambda's scope: its parameter, captured ones, globals -/
def lamS1B (x : Str) (sc scope : Scope) : Bool :=
  decide (scope.kind = .function) && !scope.isCoroutine && !scope.isGenerator && decide (scope.names.lookup x = some .local) && scope.names.all fun y => !decide (y.2 = .cell) && (!decide (y.2 = .local) || decide (y.1 = x)) && (!decide (y.2 = .free) || decide (sc.names.lookup y.1 = some .cell) || decide (sc.names.lookup y.1 = some .free))
/-- one parameter, no default -/
def param1B (p : Arguments) (x : Str) : Bool := match p with
  | ⟨[], [⟨y, none, _⟩], none, [], [], none, []⟩ => decide (y = x) && (decide (y = ("place" : Str)) || decide (y = ("one" : Str)))
  | _ => false
def lamB (b : Blk) (j : Nat) (p : Arguments) (scope : Scope) : Bool := match b.N[j]? with
  | some x => lamS1B x b.sc scope && param1B p x && okNm x
  | none => false
def chk (Γ : Sk) : Blk → E → Expr → Bool
  | b, .var i, e => match e with
    | .Name x _ => varB b i x
    | _ => false
  | b, .k c, e => match e with
    | .Constant k _ _ => constIs c k
    | _ => false
  | b, .glob g, e => match e with
    | .Name x _ => decide (g = x) && globB b.sc x && okNm x
    | _ => false
  | b, .bin op p q, e => match e with
    | .BinOp ea o eb _ => bopIs op o && chk Γ b p ea && chk Γ b q eb
    | _ => false
  | b, .neg p, e => match e with
    | .UnaryOp .USub ea _ => chk Γ b p ea
    | _ => false
  | b, .not p, e => match e with
    | .UnaryOp .Not ea _ => chk Γ b p ea
    | _ => false
  | b, .cmp op p q, e => match e with
    | .Compare ea [o] [eb] _ => copIs op o && noSet eb && chk Γ b p ea && chk Γ b q eb
    | _ => false
  | b, .chain op op' p q r, e => match e with
    | .Compare ea [o, o'] [eb, ec] _ => copIs op o && copIs op' o' && noSet eb && noSet ec && chk Γ b p ea && chk Γ b q eb && chk Γ b r ec
    | _ => false
  | b, .and p q, e => match e with
    | .BoolOp .And (e1 :: e2 :: es) pos => chk Γ b p e1 && (match es with
      | [] => chk Γ b q e2
      | e3 :: es => chk Γ b q (.BoolOp .And (e2 :: e3 :: es) pos))
    | _ => false
  | b, .or p q, e => match e with
    | .BoolOp .Or (e1 :: e2 :: es) pos => chk Γ b p e1 && (match es with
      | [] => chk Γ b q e2
      | e3 :: es => chk Γ b q (.BoolOp .Or (e2 :: e3 :: es) pos))
    | _ => false
  | b, .ix o i, e => match e with
    | .Subscript eo ei _ => noSlice ei && chk Γ b o eo && chk Γ b i ei
    | _ => false
  | b, .sl lo hi o es, e => match e with
    | .Subscript eo (.Slice l h none _) _ => chk Γ b o eo && (match l, h with
      | none, none => !lo && !hi && chkL Γ b es []
      | some l, none => lo && !hi && chkL Γ b es [l]
      | none, some h => !lo && hi && chkL Γ b es [h]
      | some l, some h => lo && hi && chkL Γ b es [l, h])
    | _ => false
  | b, .spl o p, e => match e with
    | .Call (.Attribute eo nm ap) [ea] [] cp => decide (nm = ("split" : Str)) && noCall eo && (ap.endLine == cp.line) && noStar ea && chk Γ b o eo && chk Γ b p ea
    | _ => false
  | b, .jn o p, e => match e with
    | .Call (.Attribute eo nm ap) [ea] [] cp => decide (nm = ("join" : Str)) && noCall eo && (ap.endLine == cp.line) && noStar ea && chk Γ b o eo && chk Γ b p ea
    | _ => false
  | b, .ind neg p q, e => match e with
    | .Compare ea [op] [eb] _ => copIs (if neg then .notin else .isin) op && noSet eb && chk Γ b p ea && chk Γ b q eb
    | _ => false
  | b, .lst es, e => match e with
    | .List ees _ => chkL Γ b es ees
    | _ => false
  | b, .tup es, e => match e with
    | .Tuple ees _ _ => chkL Γ b es ees
    | _ => false
  | b, .call f es, e => match e with
    | .Call (.Name x _) (a :: as) [] _ => decide (f = x) && Γ.fn.contains f && globB b.sc x && okNm x && chkL Γ b es (a :: as)
    | .Call (.Name x _) [] [] _ => decide (f = x) && Γ.fn.contains f && globB b.sc x && okNm x && es.isEmpty
    | _ => false
  | b, .blt t es, e => match e with
    | .Call (.Name x _) (a :: as) [] _ => match t with
      | .listRange => match a, as with
        | .Call (.Name y _) [n] [] _, [] => bltCall Γ b "list" x && bltCall Γ b "range" y && chkL Γ b es [n]
        | _, _ => false
      | t => bltCall Γ b (bltNm t) x && chkL Γ b es (a :: as)
    | _ => false
  | b, .isi p ty, e => match e with
    | .Call (.Name x _) [ea, .Name t _] [] _ => bltCall Γ b "isinstance" x && bltCall Γ b (Str.ofString ty) t && isTyNm ty && noStar ea && chk Γ b p ea
    | _ => false
  | b, .mth m o es, e => match e with
    | .Call (.Attribute eo nm ap) ees [] cp => decide (nm = mthNm m) && noCall eo && (ap.endLine == cp.line) && decide (ees.length < 20) && chk Γ b o eo && chkL Γ b es ees
    | _ => false
  | b, .lc is bor elt it ies cond, e => match e with
    | .ListComp e0 [⟨tg, iter, ifs, a⟩] scope _ => decide (a = 0) && (is.all fun i => !Γ.pin.contains i) && decide is.Nodup && noSet iter && blkC b.N b.sc scope (ownOf b.N is) && ((ownOf b.N is).map (·.2) == is) && targB (blkOf b scope) is tg && (match itX Γ b it iter with | some as => chkL Γ b ies as | none => false) && chk Γ (blkOf b scope) elt e0 && chkL Γ (blkOf b scope) cond ifs && decide (ifs.length ≤ 1) && enB it tg
    | _ => false
  | b, .rpr p, e => match e with
    | .Call (.Name x _) [ea] [] _ => bltCall Γ b "repr" x && noStar ea && chk Γ b p ea
    | _ => false
  | b, .frz p, e => plainE e && chk Γ b p e
def chkL (Γ : Sk) : Blk → List E → List Expr → Bool
  | b, [], es => match es with
    | [] => true
    | _ :: _ => false
  | b, c :: cs, es => match es with
    | e :: es => noStar e && chk Γ b c e && chkL Γ b cs es
    | [] => false
end
def chkIt (Γ : Sk) (b : Blk) (it : ItK) (es : List E) (e : Expr) : Bool := match itX Γ b it e with
  | some as => chkL Γ b es as
  | none => false
structure FnG (P : Program) (w : World) (K : PySem.W.Frag) (mg : Str → Option Value) (base : Heap) (CX : CXT) (k : Nat) (f : Addr) (fd : FuncData) (ps : List Str) (sp : Sp) : Prop where
  len : ∀ vs H Q E, sp vs H Q E → vs.length = ps.length
  run : ∀ (A : Around) (outer : List Env) (s : Shared) (H : Hp) (args : Args) (us : List Value) (vs : List V) (Q : VK) (E : XK), Room k A → A.guards = some [] → Env0 P w K mg base A outer s H → BindsTo s fd args (ps.zip us) → Vals vs us → sp vs H Q E →
    codeAny (model P w) A (.call (.ref f) args) (CR CX outer P w H s Q E) s
theorem FnG.mono {P : Program} {w : World} {K : PySem.W.Frag} {mg : Str → Option Value} {base : Heap} {CX : CXT} {j k : Nat} {f : Addr} {fd : FuncData} {ps : List Str} {sp : Sp} (F : FnG P w K mg base CX j f fd ps sp) (h : j ≤ k) : FnG P w K mg base CX k f fd ps sp :=
  ⟨F.len, fun A outer s H args us vs Q E hr hg => F.run A outer s H args us vs Q E (hr.mono h) hg⟩
theorem room_deeper2 {k : Nat} {A : Around} (r : Room (k + 1) A) (env : Env) : Room k (A.deeper env).in1.in1 :=
  ⟨r.hd, by have := r.dp; show A.depth + 1 + 3 * k + 5 < _; omega, by have := r.un; show A.units + 3 + 1 + 1 + 16 * k + 200 < _; omega⟩
theorem room_lam {k : Nat} {A : Around} (r : Room (k + 1) A) (e0 e1 : Env) : Room k ((A.deeper e0).in1.in1.deeper e1) :=
  ⟨r.hd, by have := r.dp; show A.depth + 1 + 1 + 3 * k + 5 < _; omega, by have := r.un; show A.units + 3 + 1 + 1 + 3 + 16 * k + 200 < _; omega⟩
theorem room_lam2 {k : Nat} {A : Around} (r : Room (k + 1) A) (e0 e1 : Env) : Room k ((A.deeper e0).in1.in1.deeper e1).in1.in1 :=
  ⟨r.hd, by have := r.dp; show A.depth + 1 + 1 + 3 * k + 5 < _; omega, by have := r.un; show A.units + 3 + 1 + 1 + 3 + 1 + 1 + 16 * k + 200 < _; omega⟩
theorem room_out2 {k : Nat} {A : Around} (r : Room k A.in1.in1) : Room k A :=
  ⟨r.hd, r.dp, by have := r.un; have h : A.units + 1 + 1 + 16 * k + 200 < cLine := this; omega⟩
theorem fnG_of {CX : CXT} {P : Program} {w : World} {K : PySem.W.Frag} {mg : Str → Option Value} {base : Heap} {k : Nat} {f : Addr} {name qual : Str} {params : Arguments} {body : List Stmt} {scope : Scope} {dV kV doc pm cdv ct oc : Value} {an od : Option Addr} {osl : Array (Option Value)} {N ps : List Str} {sp : Sp}
    (lk : K.lookup f = some ⟨oc, od, .func (PySem.W.fnOf name qual params body scope dV kV doc pm an cdv ct), osl⟩) (hcd : PySem.W.codeIn K cdv qual = true) (S : FnScope N ps scope) (len : ∀ vs H Q E, sp vs H Q E → vs.length = ps.length)
    (hbody : ∀ (A : Around) (outer : List Env) (s : Shared) (H : Hp) (vs : List V) (Q : VK) (E : XK), Room (k + 1) A → Room k (A.deeper (envOfC qual scope s.heap.objs.size f cdv)).in1.in1 → (A.deeper (envOfC qual scope s.heap.objs.size f cdv)).guards = some [] → sp vs H Q E →
      ∃ t, PSs (cxOf CX P w K mg base N qual scope f cdv A outer s H E) body t ∧ t { nx := fun _ H' => Q .non H', rt := Q } (start N vs) H) :
    FnG P w K mg base CX (k + 1) f (PySem.W.fnOf name qual params body scope dV kV doc pm an cdv ct) ps sp := by
  refine ⟨len, fun A outer s H args us vs Q E hr hgd env hbd rv hsp => ?_⟩
  have hlen := len _ _ _ _ hsp
  have kin : K.In s.heap := env.mod.kin.keeps fun b o z => (env.bs b o z).1
  have nlim : s.heap.NoLimit := env.mod.nolimit.keeps fun b o z => (env.bs b o z).1
  have kinds : ∀ y ∈ ps.zip us, scope.names.lookup y.1 = some .local ∨ (scope.names.lookup y.1 = some .cell ∧ ((cellsFrom (s.heap.objs.size + 1) scope.names []).lookup y.1).isSome = true) := by
    rintro ⟨nm, vl⟩ hy
    exact (S.par nm (List.of_mem_zip hy).1).imp id fun z => ⟨z, PySem.W.cellsFrom_some _ _ _ (.inl z)⟩
  refine codeAny_call_function hr.depth (kin _ _ lk) rfl S.co S.gen rfl (PySem.W.codeRec_of kin hcd) (hbd _ _ _ _ (wpAny_newFunctionEnv_cells S.kind kinds fun env' he' s1 x => ?_))
  subst he'
  obtain ⟨t, ht, hq⟩ := hbody A outer s H vs Q E hr (room_deeper2 hr _) hgd hsp
  have I0 : Inv (cxOf CX P w K mg base N qual scope f cdv A outer s H E) [] (start N vs) H s1 := inv_start S hr.hd env hlen rv x
  refine ⟨nlim.keeps x.toInCall.keep, codeAny_func (wpAny_mono (ht.run [] s1 (start N vs) H _ I0 hq) (fun fl s' hs => ?_) fun _ _ z => z)⟩
  cases fl with
  | ret u => obtain ⟨v, σ', H', J, r2, q⟩ := hs; exact ⟨v, H', J.os, J.bare, J.base, J.hok, r2, q⟩
  | next => obtain ⟨σ', H', J, q⟩ := hs; exact ⟨V.non, H', J.os, J.bare, J.base, J.hok, rfl, q⟩
  | brk => obtain ⟨_, _, _, q⟩ := hs; exact q.elim
  | cont => obtain ⟨_, _, _, q⟩ := hs; exact q.elim
/-- a def by its body -/
theorem fun_okG {P : Program} {w : World} {K : PySem.W.Frag} {mg : Str → Option Value} {base : Heap} {x qual : Str} {st : Stmt} {f : Addr} {fd : FuncData} {N ps : List Str} {k : Nat} {sp : Sp} (F : Fun K x qual st f fd) (S : FnScope N ps (defScope st)) (len : ∀ vs H Q E, sp vs H Q E → vs.length = ps.length)
    (hbody : ∀ (cdv : Value) (A : Around) (outer : List Env) (s : Shared) (H : Hp) (vs : List V) (Q : VK) (E : XK), (∃ oc od fd osl, K.lookup f = some ⟨oc, od, .func fd, osl⟩ ∧ fd.code = cdv) → Room (k + 1) A → Room k (A.deeper (envOfC qual (defScope st) s.heap.objs.size f cdv)).in1.in1 → (A.deeper (envOfC qual (defScope st) s.heap.objs.size f cdv)).guards = some [] → sp vs H Q E →
      ∃ t, PSs (cxOf CX0 P w K mg base N qual (defScope st) f cdv A outer s H E).nox (defBody st) t ∧ t { nx := fun _ H' => Q .non H', rt := Q } (start N vs) H) : FnG P w K mg base CX0 (k + 1) f fd ps sp := by
  obtain ⟨oc, od, kV, doc, pm, an, cdv, ct, osl, rfl, lk, hcd⟩ := F.ex
  exact fnG_of lk hcd S len fun A outer s H vs Q E hR hr hgd hsp => (hbody cdv A outer s H vs Q E ⟨_, _, _, _, lk, rfl⟩ hR hr hgd hsp).imp fun t ⟨h, q⟩ => ⟨h.nox, q⟩
section
variable {X : Cx} {CX : CXT} {k : Nat} {f : Addr} {fd : FuncData} {ps : List Str} {sp : Sp} {dvs : List V} {ds : List Value} {E : XK} {x : Str} {p pos : Pos} {e : Expr} {es : List Expr} {t : L2.TA}
theorem runG {pins : List (Addr × Obj)} {σ : L2.St} {H : Hp} {s : Shared} {Q : VK} {us : List Value} {vs : List V} (F : FnG X.prog X.w X.K X.mg X.base CX k f fd ps sp) (hr : Room k X.A) (hgd : X.A.guards = some []) (hb : Binds X.K fd ps ds) (hd : Vals dvs ds) (hx : Passes CX X E)
    (I : Inv X pins σ H s) (r : Vals vs us) (h : sp (vs ++ dvs) H Q E) : wpAny (model X.prog X.w) X.A (call (.ref f) us) (EP X pins σ Q) X.xe s := by
  have both : Vals (vs ++ dvs) (us ++ ds) := r.append hd
  have hlen : (us ++ ds).length = ps.length := by rw [← both.length, F.len _ _ _ _ h]
  refine wpAny_call (codeAny_mono (F.run X.A X.stack s H ⟨us, []⟩ (us ++ ds) (vs ++ dvs) Q E hr hgd I.env0 (hb s us I.kIn hlen) both h) fun res s' hres => ?_)
  match res, hres with
  | .error e, z => exact hx pins σ H s e s' I z
  | .ok (.ret u), z => exact I.after z
theorem pe_callG (F : FnG X.prog X.w X.K X.mg X.base CX k f fd ps sp) (hr : Room k X.A) (hgd : X.A.guards = some []) (hg : Gl X x) (hm : X.mg x = some (.ref f)) (hk : PySem.W.keepIn X.K (.ref f) = true) (hb : Binds X.K fd ps ds) (hd : Vals dvs ds) (hx : Passes CX X E)
    (ha : PA X (e :: es) t) (hdb : (x == ("__debug__" : Str)) = false) (he : starEach (e :: es) X.env = (false, eval e X.env) :: starEach es X.env) (hpl : (backTo pos (starEach es X.env)).any (·.1) = false) : PE X (.Call (.Name x p) (e :: es) [] pos) (tCall sp dvs E t) :=
  ⟨fun pins s σ H Q I h => wpAny_Call_Name_kw (ld_glob I hg hm (PySem.W.callWith_K (h₀ := X.base) I.ok.mod.kin hk (thn (ha.run pos pins s σ H _ I h) fun us s1 ⟨vs, H1, I1, r, q⟩ => ⟨I1.kIn, runG F hr hgd hb hd hx I1 r q⟩) he hpl) hdb)⟩
end
structure ClsOk (P : Program) (w : World) (K : PySem.W.Frag) (mg : Str → Option Value) (base : Heap) (k : Nat) (c : Str) (ci : CI) : Prop where
  cl : Cls K ci.C
  fld : ∀ a ∈ ci.fld, NoAttr K ci.C a
  mt : ∀ m fs, ci.mt.lookup m = some fs → m ≠ "__init__" → ∃ f fd ps, Meth K ci.C m f ∧ FnG P w K mg base CX0 k f fd ps (spV K fs.md fs.F) ∧ Binds K fd ps []
  ini : ∀ fs, ci.mt.lookup ("__init__" : Str) = some fs → mg c = some (.ref ci.C) ∧ ∃ f fd ps j, j + 1 ≤ k ∧ Mk K ci.C f ∧ FnG P w K mg base CX0 j f fd ps (spV K fs.md fs.F) ∧ Binds K fd ps []
/-- .. with methods that may raise -/
structure ClsX (P : Program) (w : World) (K : PySem.W.Frag) (mg : Str → Option Value) (base : Heap) (k : Nat) (c : Str) (ci : CI) : Prop where
  cl : Cls K ci.C
  fld : ∀ a ∈ ci.fld, NoAttr K ci.C a
  mt : ∀ m fs, ci.mt.lookup m = some fs → m ≠ "__init__" → ∃ f fd ps, Meth K ci.C m f ∧ FnG P w K mg base (L2.CX P w) k f fd ps (spX K mg fs.md fs.F) ∧ Binds K fd ps []
  ini : ∀ fs, ci.mt.lookup ("__init__" : Str) = some fs → mg c = some (.ref ci.C) ∧ ∃ f fd ps j, j + 1 ≤ k ∧ Mk K ci.C f ∧ FnG P w K mg base (L2.CX P w) j f fd ps (spX K mg fs.md fs.F) ∧ Binds K fd ps []
/-- a class by its name: one of the module's, or a built-in one -/
def NmV (mg : Str → Option Value) (h : Str) (v : V) (cv : Value) : Prop := (∃ a, mg h = some (.ref a) ∧ v = .ref a ∧ cv = .ref a) ∨ (∃ t, mg h = none ∧ bootBuiltins h = some (.type t) ∧ v = .ty t ∧ cv = .type t)
/-- a class of exceptions -/
structure XcOk (K : PySem.W.Frag) (mg : Str → Option Value) (n : Str) (xi : XI) : Prop where
  gm : mg n = some (.ref xi.C)
  keep : PySem.W.keepIn K (.ref xi.C) = true
  exc : ExcC K xi.C
  ty : PySem.W.typeIn K (.ref xi.C) = some (.type "type")
  mkx : ∃ bm B newId initId, ExcBaseFacts B newId initId bm ∧ PySem.W.excIn K xi.C bm newId = true
  is : ∀ h b, xi.is.lookup h = some b → ∃ v cv, NmV mg h v cv ∧ PySem.W.kitOne K (.ref xi.C) cv = some b ∧ PySem.W.exmOne K (.ref xi.C) cv = some b
/-- where lambdas are made and called -/
structure LamCx (X : Cx) (k : Nat) : Prop where
  room : ∀ env, Room k (X.A.in1.in1.deeper env)
  rm2 : ∀ env, Room k (X.A.in1.in1.deeper env).in1.in1
  code : ∃ c P, X.env.code = .ref c ∧ LamX.TabB X.base X.mg c P ∧ (P, X.env.qual ++ "<lambda>") ∈ tabsK X.K ∧ ∀ p ∈ tabsK X.K, p.1 = P → p.2 = X.env.qual ++ "<lambda>"
structure CxOk (X : Cx) (Γ : Ctx) (b : Blk) (k : Nat) : Prop where
  N : X.N = b.N
  sc : X.env.scope = b.sc
  calm : X.calm = true
  room : Room k X.A
  gd : X.A.guards = some []
  nd : b.N.Nodup
  fn : ∀ x, b.fnb x = true → X.fn x = true
  glob : ∀ g x, Γ.glob.lookup g = some x → ∃ v u, X.mg g = some u ∧ RelV v u ∧ ∀ Hs, Rp X.K Hs v x
  bi : ∀ n ∈ Γ.bs, X.mg n = none
  fns : ∀ f fs, Γ.fn.lookup f = some fs → ∃ a fd ps, FnG X.prog X.w X.K X.mg X.base CX0 k a fd ps (spV X.K fs.md fs.F) ∧ X.mg f = some (.ref a) ∧ PySem.W.keepIn X.K (.ref a) = true ∧ Binds X.K fd ps []
  cls : ∀ c ci, Γ.cls.lookup c = some ci → ClsOk X.prog X.w X.K X.mg X.base k c ci
  xfns : ∀ f fs, Γ.xfn.lookup f = some fs → ∃ a fd ps, FnG X.prog X.w X.K X.mg X.base (L2.CX X.prog X.w) k a fd ps (spX X.K X.mg fs.md fs.F) ∧ X.mg f = some (.ref a) ∧ PySem.W.keepIn X.K (.ref a) = true ∧ Binds X.K fd ps []
  xcls : ∀ c ci, Γ.xcls.lookup c = some ci → ClsX X.prog X.w X.K X.mg X.base k c ci
  xc : ∀ n xi, Γ.xc.lookup n = some xi → XcOk X.K X.mg n xi
  rm2 : Room k X.A.in1.in1
  pms : ∀ m ps, Γ.pms.lookup m = some ps → ∃ ci g fd pn, Γ.cls.lookup ps.c = some ci ∧ Meth X.K ci.C m g ∧ FnG X.prog X.w X.K X.mg X.base CX0 k g fd pn (spP X.K ps.md ps.F) ∧ Binds X.K fd pn []
  lam : b.fnb "<lambda>" = true → Γ.lam = true → LamCx X k
section
variable {X : Cx} {Γ : Ctx} {b : Blk} {k : Nat} {pos : Pos} {ea eb ec : Expr} {p q r : E} {pu : Bool}
theorem CxOk.gl (C : CxOk X Γ b k) {x : Str} (h : globB b.sc x = true) : Gl X x := by
  unfold Gl Env.kindOf
  rw [C.sc]
  unfold globB at h
  split at h
  · assumption
  · cases h
theorem CxOk.vis (C : CxOk X Γ b k) {x : Str} (h : visB b.sc x = true) : Vis X.env.scope x := by
  unfold Vis
  rw [C.sc]
  unfold visB at h
  split at h
  · exact .inl (by assumption)
  · exact .inr (.inl (by assumption))
  · exact .inr (.inr (by assumption))
  · cases h
theorem CxOk.loc (C : CxOk X Γ b k) {x : Str} (h : locB b x = true) : L2.Loc X.env.scope x ∧ (X.fn x = true ∨ X.env.scope.names.lookup x = some .local) := by
  unfold L2.Loc
  rw [C.sc]
  unfold locB at h
  split at h
  · exact ⟨.inl (by assumption), .inr (by assumption)⟩
  · exact ⟨.inr (by assumption), .inl (C.fn x h)⟩
  · cases h
theorem okNm_of {x : Str} (h : okNm x = true) : (x == ("__debug__" : Str)) = false ∧ (x == ("__classdict__" : Str)) = false ∧ x ≠ "__name__" := by
  unfold okNm at h
  simp only [Bool.and_eq_true, Bool.not_eq_true', decide_eq_false_iff_not] at h
  exact ⟨h.1.1, h.1.2, h.2⟩
theorem star_of {e : Expr} {es : List Expr} {env : Env} (h : noStar e = true) : starEach (e :: es) env = (false, eval e env) :: starEach es env := by
  cases e <;> first | rfl | (exact (Bool.noConfusion h))
theorem stars_of {env : Env} {pos : Pos} : ∀ {es : List Expr}, es.all noStar = true → (backTo pos (starEach es env)).any (·.1) = false
  | [], _ => rfl
  | e :: es, h => by
    simp only [List.all_cons, Bool.and_eq_true] at h
    rw [star_of h.1]
    show (false || (backTo pos (starEach es env)).any (·.1)) = false
    rw [stars_of h.2]
    rfl
theorem le_var {i : Nat} {x : Str} (C : CxOk X Γ b k) (h : varB b i x = true) : PE X (.Name x pos) (LE X Γ.pin pu (wE Γ pu (.var i))) := by
  unfold varB at h
  simp only [Bool.and_eq_true, decide_eq_true_eq] at h
  obtain ⟨h1, h2, _⟩ := okNm_of h.2
  refine ⟨fun pins s σ H Q I hw => ?_⟩
  obtain ⟨B, Hs, sl, tp, P, R0, hw, hk⟩ := hw
  refine (pe_var (by rw [C.N]; exact h.1.1) (C.vis h.1.2) h1 h2).run pins s σ H Q I ?_
  rw [wE, tl_get] at hw
  cases e : sl[i]? with
  | none => rw [e] at hw; exact hw.elim
  | some t =>
    rw [e] at hw
    simp only [Option.map_some] at hw
    cases t with
    | dead v => rw [TA.t] at hw; exact hw.elim
    | d v y =>
      rw [TA.t] at hw
      have ok := R0.slot_ok e
      rw [TA.ok] at ok
      exact ⟨v, R0.val i _ e rfl, Cont.leaf hk R0 ok .refl hw⟩
    | nd kk a ts =>
      rw [TA.t] at hw
      exact ⟨.ref a, R0.val i _ e rfl, hk (.p i []) (.ref a) Hs H sl [] (by simpa using R0) ⟨rfl, _, _, e, rfl, rfl, rfl⟩ .refl hw⟩
theorem le_k {c : PyData} {cc : Const} {j : Nat} (h : constIs c cc = true) : PE X (.Constant cc j pos) (LE X Γ.pin pu (wE Γ pu (.k c))) := by
  refine ⟨fun pins s σ H Q I hw => ?_⟩
  obtain ⟨B, Hs, sl, tp, P, R0, hw, hk⟩ := hw
  rw [wE] at hw
  cases c <;> cases cc <;> first
    | exact (Bool.noConfusion h)
    | (simp only [constIs, beq_iff_eq, decide_eq_true_eq] at h
       try subst h
       first
        | exact pe_non.run pins s σ H Q I (Cont.leaf hk R0 .non .refl hw)
        | exact pe_bl.run pins s σ H Q I (Cont.leaf hk R0 (.bl _) .refl hw)
        | exact pe_int.run pins s σ H Q I (Cont.leaf hk R0 (.int _) .refl hw)
        | exact pe_str.run pins s σ H Q I (Cont.leaf hk R0 (.str _) .refl hw))
theorem le_glob {g x : Str} (C : CxOk X Γ b k) (h : (decide (g = x) && globB b.sc x && okNm x) = true) : PE X (.Name x pos) (LE X Γ.pin pu (wE Γ pu (.glob g))) := by
  simp only [Bool.and_eq_true, decide_eq_true_eq] at h
  obtain ⟨⟨rfl, h2⟩, h3⟩ := h
  refine ⟨fun pins s σ H Q I hw => ?_⟩
  obtain ⟨B, Hs, sl, tp, P, R0, hw, hk⟩ := hw
  rw [wE] at hw
  split at hw
  · rename_i y hy
    obtain ⟨v, u, g1, g2, g3⟩ := C.glob g y hy
    exact (pe_glob (C.gl h2) g1 g2 (okNm_of h3).1).run pins s σ H Q I (Cont.leaf hk R0 (g3 _) .refl hw)
  · exact hw.elim
abbrev PEc (X : Cx) (Γ : Ctx) (e : Expr) (c : E) : Prop := ∀ pu, PE X e (LE X Γ.pin pu (wE Γ pu c))
theorem le_bin {op : BOp} (ha : PEc X Γ ea p) (hb : PEc X Γ eb q) : PE X (.BinOp ea (bopO op) eb pos) (LE X Γ.pin pu (wE Γ pu (.bin op p q))) := by
  refine ⟨fun pins s σ H Q I hw => ?_⟩
  obtain ⟨B, Hs, sl, tp, P, R0, hw, hk⟩ := hw
  rw [wE] at hw
  exact wpAny_BinOp (two (pb := fun _ => pu) (wb := fun _ => wE Γ pu q) (wb' := fun pu' => wE Γ pu' q) R0 hw hb I (ha pu) fun v u s2 x y H2 ra rb Hs2 sl2 nw1 nw2 I2 rx ry R2 r1 r2 st h => op_binW I2 rx ry R2 r1 r2 st hk h)
theorem le_neg (ha : PEc X Γ ea p) : PE X (.UnaryOp .USub ea pos) (LE X Γ.pin pu (wE Γ pu (.neg p))) := by
  refine ⟨fun pins s σ H Q I hw => ?_⟩
  obtain ⟨B, Hs, sl, tp, P, R0, hw, hk⟩ := hw
  rw [wE] at hw
  refine UnaryOp_ (one R0 hw I (ha pu) fun v s1 x H1 ra Hs1 sl1 nw1 I1 rx R1 r1 st h => ?_)
  split at h
  · rename_i i e
    have := (r1.dpT R1 e).2.int_v
    subst this
    exact un_neg pins s1 σ H1 _ v Q I1 rx ⟨i, rfl, Cont.leaf hk R1.drop (.int _) st h⟩
  · exact h.elim
theorem le_cmp {op : COp} (C : CxOk X Γ b k) (hs : noSet eb = true) (ha : PEc X Γ ea p) (hb : PEc X Γ eb q) : PE X (.Compare ea [copO op] [eb] pos) (LE X Γ.pin pu (wE Γ pu (.cmp op p q))) := by
  refine ⟨fun pins s σ H Q I hw => ?_⟩
  obtain ⟨B, Hs, sl, tp, P, R0, hw, hk⟩ := hw
  rw [wE] at hw
  refine wpAny_Compare1 (two (pb := fun _ => pu) (wb := fun _ => wE Γ pu q) (wb' := fun pu' => wE Γ pu' q) R0 hw hb I (ha pu) fun v u s2 x y H2 ra rb Hs2 sl2 nw1 nw2 I2 rx ry R2 r1 r2 st h => op_cmpW C.room.units I2 rx ry R2 r1 r2 h fun z hz => Cont.leaf hk R2.drop.drop (.bl z) st hz) ?_
  cases eb <;> first | rfl | (exact (Bool.noConfusion hs))
/-- the reading of a test: the result, and its truth -/
def LR (X : Cx) (ix : List Nat) (pu : Bool) (w : St → (R → St → Prop) → Prop) : TT := fun σ H Q => ∃ (B : B0) (Hs : Hp) (sl tp : List TA) (P : R → Bool → St → Prop), Rel X.K ⟨B, ix⟩ Hs H σ sl tp ∧ w (TA.tl sl) (fun r σ1 => truW r σ1 fun c => P r c σ1) ∧
  ∀ r v c Hs' H' sl' nw, Rel X.K ⟨B, ix⟩ Hs' H' σ sl' (tp ++ nw) → RR r v sl' nw → Stp pu H H' sl sl' → (∀ Kk : Bool → Prop, truW r (TA.tl sl') Kk → Kk c) → P r c (TA.tl sl') → Q c H'
abbrev PTc (X : Cx) (Γ : Ctx) (e : Expr) (c : E) : Prop := ∀ pu, PT X e (LR X Γ.pin pu (wE Γ pu c))
theorem truW_at {r : R} {σ : St} {Kk : Bool → Prop} (h : truW r σ Kk) : ∃ c, Kk c ∧ ∀ Kk' : Bool → Prop, truW r σ Kk' → Kk' c := by
  unfold truW at h
  split at h
  · rename_i t ht
    split at h
    · rename_i c hc
      refine ⟨c, h, fun Kk' h' => ?_⟩
      unfold truW at h'
      rw [ht] at h'
      simp only at h'
      rw [hc] at h'
      exact h'
    · exact h.elim
  · exact h.elim
/-- any value's truth -/
theorem lr_plain {e : Expr} {c : E} (h : PEc X Γ e c) (he : ∀ whole, isTrue e X.env whole = (do let v ← whole; standAt e.pos; holding [v] (truthy v))) : PT X e (LR X Γ.pin pu (wE Γ pu c)) := by
  refine ⟨fun pins s σ H Q I hw => ?_⟩
  obtain ⟨B, Hs, sl, tp, P, R0, hw, hk⟩ := hw
  refine isTrue_plain (one R0 hw I (h pu) fun v s1 x H1 ra Hs1 sl1 nw1 I1 rx R1 r1 st h => ?_) (he _)
  obtain ⟨c, hc, hu⟩ := truW_at h
  obtain ⟨c', ht, hc'⟩ := truW_of (Kk := fun c' => c' = c) R1 r1 (by
    unfold truW at h ⊢
    split at h
    · split at h
      · rename_i b0 hb0
        have := hu (fun z => z = b0) (by unfold truW; simp only [*])
        simp only [*]
      · exact h.elim
    · exact h.elim)
  subst hc'
  exact tru_ok pins s1 σ H1 x v Q I1 rx ⟨c', ht, hk ra x c' Hs1 H1 sl1 nw1 R1 r1 st hu hc⟩
theorem lr_cmp {op : COp} (C : CxOk X Γ b k) (hs : noSet eb = true) (ha : PEc X Γ ea p) (hb : PEc X Γ eb q) : PT X (.Compare ea [copO op] [eb] pos) (LR X Γ.pin pu (wE Γ pu (.cmp op p q))) := by
  refine ⟨fun pins s σ H Q I hw => ?_⟩
  obtain ⟨B, Hs, sl, tp, P, R0, hw, hk⟩ := hw
  rw [wE] at hw
  refine wpAny_isTrue_Compare1 (two (pb := fun _ => pu) (wb := fun _ => wE Γ pu q) (wb' := fun pu' => wE Γ pu' q) R0 hw hb I (ha pu) fun v u s2 x y H2 ra rb Hs2 sl2 nw1 nw2 I2 rx ry R2 r1 r2 st h => thn (op_cmpW (Q := fun z H' => ∃ c, z = .bl c ∧ Q c H') C.room.units I2 rx ry R2 r1 r2 h fun z hz => ⟨z, rfl, ?_⟩) fun w s3 ⟨x3, H3, I3, r3, c, e3, q3⟩ => ?_) ?_
  · exact hk (.v (.d (.bool z))) (.bl z) z Hs2 H2 sl2 [.d (.bl z) (.bool z)] (R2.drop.drop.leaf (.bl z)) ⟨_, rfl, rfl, rfl, rfl⟩ st (fun Kk h => h) hz
  · subst e3
    cases r3
    exact wpAny_truthy_bool ⟨H3, I3, q3⟩
  · cases eb <;> first | rfl | (exact (Bool.noConfusion hs))
theorem lr_not (ha : PTc X Γ ea p) : PT X (.UnaryOp .Not ea pos) (LR X Γ.pin pu (wE Γ pu (.not p))) := by
  refine ⟨fun pins s σ H Q I hw => ?_⟩
  obtain ⟨B, Hs, sl, tp, P, R0, hw, hk⟩ := hw
  rw [wE] at hw
  refine (pt_not (ha pu)).run pins s σ H Q I ⟨B, Hs, sl, tp, _, R0, hw, fun r v c Hs' H' sl' nw R1 rr st _ hP => ?_⟩
  exact hk (.v (.d (.bool (!c)))) (.bl (!c)) (!c) Hs' H' sl' [.d (.bl (!c)) (.bool (!c))] (R1.drop.leaf (.bl _)) ⟨_, rfl, rfl, rfl, rfl⟩ st (fun Kk h => h) hP
theorem le_not (ha : PEc X Γ ea p) : PE X (.UnaryOp .Not ea pos) (LE X Γ.pin pu (wE Γ pu (.not p))) := by
  refine ⟨fun pins s σ H Q I hw => ?_⟩
  obtain ⟨B, Hs, sl, tp, P, R0, hw, hk⟩ := hw
  rw [wE] at hw
  refine (pe_notT (ha pu)).run pins s σ H Q I ⟨B, Hs, sl, tp, _, R0, hw, fun ra v Hs1 H1 sl1 nw1 R1 rr1 st1 p1 => ?_⟩
  obtain ⟨c, ht, hc⟩ := truW_of R1 rr1 p1
  exact ⟨c, ht, Cont.leaf hk R1.drop (.bl _) st1 hc⟩
theorem le_and {es : List Expr} (ha : PEc X Γ ea p) (hb : PEc X Γ (.BoolOp .And (eb :: es) pos) q) : PE X (.BoolOp .And (ea :: eb :: es) pos) (LE X Γ.pin pu (wE Γ pu (.and p q))) := by
  refine ⟨fun pins s σ H Q I hw => ?_⟩
  obtain ⟨B, Hs, sl, tp, P, R0, hw, hk⟩ := hw
  rw [wE] at hw
  refine (pe_andT (ha pu) (hb pu)).run pins s σ H Q I ⟨B, Hs, sl, tp, _, R0, hw, fun ra v Hs1 H1 sl1 nw1 R1 rr1 st1 p1 => ?_⟩
  obtain ⟨c, ht, hc⟩ := truW_of R1 rr1 p1
  refine ⟨c, ht, ?_⟩
  cases c with
  | true =>
    simp only [br_t, if_true] at hc ⊢
    exact ⟨B, Hs1, sl1, tp, _, R1.drop, hc, fun r v Hs2 H2 sl2 nw R2 rr2 st2 p2 => hk r v Hs2 H2 sl2 nw R2 rr2 (st1.trans st2 id) p2⟩
  | false =>
    simp only [br_f, Bool.false_eq_true, if_false] at hc ⊢
    exact hk ra v Hs1 H1 sl1 nw1 R1 rr1 st1 hc
theorem le_or {es : List Expr} (ha : PEc X Γ ea p) (hb : PEc X Γ (.BoolOp .Or (eb :: es) pos) q) : PE X (.BoolOp .Or (ea :: eb :: es) pos) (LE X Γ.pin pu (wE Γ pu (.or p q))) := by
  refine ⟨fun pins s σ H Q I hw => ?_⟩
  obtain ⟨B, Hs, sl, tp, P, R0, hw, hk⟩ := hw
  rw [wE] at hw
  refine (pe_orT (ha pu) (hb pu)).run pins s σ H Q I ⟨B, Hs, sl, tp, _, R0, hw, fun ra v Hs1 H1 sl1 nw1 R1 rr1 st1 p1 => ?_⟩
  obtain ⟨c, ht, hc⟩ := truW_of R1 rr1 p1
  refine ⟨c, ht, ?_⟩
  cases c with
  | false =>
    simp only [br_f, Bool.false_eq_true, if_false] at hc ⊢
    exact ⟨B, Hs1, sl1, tp, _, R1.drop, hc, fun r v Hs2 H2 sl2 nw R2 rr2 st2 p2 => hk r v Hs2 H2 sl2 nw R2 rr2 (st1.trans st2 id) p2⟩
  | true =>
    simp only [br_t, if_true] at hc ⊢
    exact hk ra v Hs1 H1 sl1 nw1 R1 rr1 st1 hc
abbrev PWc (X : Cx) (Γ : Ctx) (e : Expr) (c : E) : Prop := ∀ pu, PW X e (LR X Γ.pin pu (wE Γ pu c))
theorem lr_and {es : List Expr} (ha : PTc X Γ ea p) (hb : PWc X Γ (.BoolOp .And (eb :: es) pos) q) : PW X (.BoolOp .And (ea :: eb :: es) pos) (LR X Γ.pin pu (wE Γ pu (.and p q))) := by
  refine ⟨fun wh pins s σ H Q I hw => ?_⟩
  obtain ⟨B, Hs, sl, tp, P, R0, hw, hk⟩ := hw
  rw [wE] at hw
  refine (pw_and (ha pu) (hb pu)).run wh pins s σ H Q I ⟨B, Hs, sl, tp, _, R0, hw, fun ra v c Hs1 H1 sl1 nw1 R1 rr1 st1 hu p1 => ?_⟩
  cases c with
  | true =>
    simp only [br_t, if_true] at p1 ⊢
    exact ⟨B, Hs1, sl1, tp, _, R1.drop, p1, fun r v c Hs2 H2 sl2 nw R2 rr2 st2 hu2 p2 => hk r v c Hs2 H2 sl2 nw R2 rr2 (st1.trans st2 id) hu2 p2⟩
  | false =>
    simp only [br_f, Bool.false_eq_true, if_false] at p1 ⊢
    exact hk ra v false Hs1 H1 sl1 nw1 R1 rr1 st1 hu (hu _ p1)
theorem lr_or {es : List Expr} (ha : PTc X Γ ea p) (hb : PWc X Γ (.BoolOp .Or (eb :: es) pos) q) : PW X (.BoolOp .Or (ea :: eb :: es) pos) (LR X Γ.pin pu (wE Γ pu (.or p q))) := by
  refine ⟨fun wh pins s σ H Q I hw => ?_⟩
  obtain ⟨B, Hs, sl, tp, P, R0, hw, hk⟩ := hw
  rw [wE] at hw
  refine (pw_or (ha pu) (hb pu)).run wh pins s σ H Q I ⟨B, Hs, sl, tp, _, R0, hw, fun ra v c Hs1 H1 sl1 nw1 R1 rr1 st1 hu p1 => ?_⟩
  cases c with
  | false =>
    simp only [br_f, Bool.false_eq_true, if_false] at p1 ⊢
    exact ⟨B, Hs1, sl1, tp, _, R1.drop, p1, fun r v c Hs2 H2 sl2 nw R2 rr2 st2 hu2 p2 => hk r v c Hs2 H2 sl2 nw R2 rr2 (st1.trans st2 id) hu2 p2⟩
  | true =>
    simp only [br_t, if_true] at p1 ⊢
    exact hk ra v true Hs1 H1 sl1 nw1 R1 rr1 st1 hu (hu _ p1)
/-- a test that wants less -/
theorem LR.of {ix : List Nat} {w : St → (R → St → Prop) → Prop} {σ : L2.St} {H : Hp} {Q : Bool → Hp → Prop} {B : B0} {Hs : Hp} {sl tp : List TA} {P : Bool → St → Prop} (R0 : Rel X.K ⟨B, ix⟩ Hs H σ sl tp) (hw : w (TA.tl sl) fun r σ1 => truW r σ1 fun c => P c σ1)
    (hk : ∀ c Hs' H' sl', Rel X.K ⟨B, ix⟩ Hs' H' σ sl' tp → Stp pu H H' sl sl' → P c (TA.tl sl') → Q c H') : LR X ix pu w σ H Q :=
  ⟨B, Hs, sl, tp, fun _ c σ1 => P c σ1, R0, hw, fun r v c Hs' H' sl' nw R1 rr st _ hP => hk c Hs' H' sl' R1.drop st hP⟩
theorem le_ix {eo ei : Expr} {o i : E} (hs : noSlice ei = true) (ho : PEc X Γ eo o) (hi : PEc X Γ ei i) : PE X (.Subscript eo ei pos) (LE X Γ.pin pu (wE Γ pu (.ix o i))) := by
  refine ⟨fun pins s σ H Q I hw => ?_⟩
  obtain ⟨B, Hs, sl, tp, P, R0, hw, hk⟩ := hw
  rw [wE] at hw
  have hp : PlainIx ei := fun _ _ => by cases ei <;> first | rfl | (exact (Bool.noConfusion hs))
  exact Subscript_ (two (pb := fun _ => pu) (wb := fun _ => wE Γ pu i) (wb' := fun pu' => wE Γ pu' i) R0 hw hi I (ho pu) fun v u s2 x y H2 ra rb Hs2 sl2 nw1 nw2 I2 rx ry R2 r1 r2 st h => ix_W eo ei pins s2 σ H2 x y v u Q I2 rx ry ⟨σ, ⟨B, Γ.pin⟩, Hs2, sl2, tp, nw1, nw2, ra, rb, P, H, sl, pu, R2, r1, r2, st, h, hk⟩ (hp _ _))
theorem le_chain {op op' : COp} (C : CxOk X Γ b k) (h1 : noSet eb = true) (h2 : noSet ec = true) (ha : PEc X Γ ea p) (hb : PEc X Γ eb q) (hc : PEc X Γ ec r) : PE X (.Compare ea [copO op, copO op'] [eb, ec] pos) (LE X Γ.pin pu (wE Γ pu (.chain op op' p q r))) := by
  refine ⟨fun pins s σ H Q I hw => ?_⟩
  obtain ⟨B, Hs, sl, tp, P, R0, hw, hk⟩ := hw
  rw [wE] at hw
  refine Compare_chain (one R0 hw I (ha pu) fun v s1 x H1 ra Hs1 sl1 nw1 I1 rx R1 r1 st1 h1 => chain_link (one R1 h1 I1 (hb (pu || !ra.top)) fun u s2 y H2 rb Hs2 sl2 nw2 I2 ry R2 r2 st2 h2 => ?_)) ?_
  · have r1' := r1.stay R1 R2 st2 (fun z => by rw [z]; simp)
    have st12 := st1.trans st2 (fun z => by rw [z]; rfl)
    refine thn (op_cmpW (Q := fun z H' => H' = H2 ∧ ∃ c, z = .bl c ∧ br c (wE Γ (pu || !rb.top) r (TA.tl sl2) (fun rc σ3 => cmpW op' rb rc σ3 fun z' => P (.v (.d (.bool z'))) σ3)) (P (.v (.d (.bool false))) (TA.tl sl2))) C.room.units I2 rx ry R2 r1' r2 h2 fun z hz => ⟨rfl, z, rfl, hz⟩) fun d s3 ⟨z, H3, I3, r3, e3, c, ec', hc'⟩ => ?_
    subst e3
    subst ec'
    cases r3
    refine wpAny_truthy_bool ?_
    cases c with
    | false =>
      simp only [br_f, Bool.false_eq_true, if_false] at hc'
      exact ite_ff ⟨.bl false, H3, I3, rfl, Cont.leaf hk R2.drop.drop (.bl false) st12 hc'⟩
    | true =>
      simp only [br_t, if_true] at hc'
      refine ite_tt (chain_last (one R2 hc' I3 (hc (pu || !rb.top)) fun w s4 z H4 rc Hs4 sl4 nw4 I4 rz R4 r4 st4 h4 => ?_))
      have r2' := r2.stay R2 R4 st4 (fun z => by rw [z]; simp)
      exact op_cmpW C.room.units I4 ry rz R4 r2' r4 h4 fun z hz => Cont.leaf hk R4.drop.drop.drop (.bl z) (st12.trans st4 (fun z => by rw [z]; rfl)) hz
  · cases ec <;> first | rfl | (exact (Bool.noConfusion h2))
theorem lr_chain {op op' : COp} (C : CxOk X Γ b k) (h1 : noSet eb = true) (h2 : noSet ec = true) (ha : PEc X Γ ea p) (hb : PEc X Γ eb q) (hc : PEc X Γ ec r) : PT X (.Compare ea [copO op, copO op'] [eb, ec] pos) (LR X Γ.pin pu (wE Γ pu (.chain op op' p q r))) := by
  refine ⟨fun pins s σ H Q I hw => ?_⟩
  obtain ⟨B, Hs, sl, tp, P, R0, hw, hk⟩ := hw
  rw [wE] at hw
  have bl : ∀ (z : Bool) (Hs2 H2 : Hp) (sl2 : List TA), Rel X.K ⟨B, Γ.pin⟩ Hs2 H2 σ sl2 tp → Stp pu H H2 sl sl2 → P (.v (.d (.bool z))) z (TA.tl sl2) → Q z H2 := fun z Hs2 H2 sl2 R2 st hz =>
    hk (.v (.d (.bool z))) (.bl z) z Hs2 H2 sl2 [.d (.bl z) (.bool z)] (R2.leaf (.bl z)) ⟨_, rfl, rfl, rfl, rfl⟩ st (fun Kk h => h) hz
  refine isTrue_chain (one R0 hw I (ha pu) fun v s1 x H1 ra Hs1 sl1 nw1 I1 rx R1 r1 st1 h1 => test_link (one R1 h1 I1 (hb (pu || !ra.top)) fun u s2 y H2 rb Hs2 sl2 nw2 I2 ry R2 r2 st2 h2 => ?_)) ?_
  · have r1' := r1.stay R1 R2 st2 (fun z => by rw [z]; simp)
    have st12 := st1.trans st2 (fun z => by rw [z]; rfl)
    refine thn (op_cmpW (Q := fun z H' => H' = H2 ∧ ∃ c, z = .bl c ∧ br c (wE Γ (pu || !rb.top) r (TA.tl sl2) (fun rc σ3 => cmpW op' rb rc σ3 fun z' => P (.v (.d (.bool z'))) z' σ3)) (P (.v (.d (.bool false))) false (TA.tl sl2))) C.room.units I2 rx ry R2 r1' r2 h2 fun z hz => ⟨rfl, z, rfl, hz⟩) fun d s3 ⟨z, H3, I3, r3, e3, c, ec', hc'⟩ => ?_
    subst e3
    subst ec'
    cases r3
    refine wpAny_truthy_bool ?_
    cases c with
    | false =>
      simp only [br_f, Bool.false_eq_true, if_false] at hc'
      exact ite_ff ⟨H3, I3, bl false Hs2 H3 sl2 R2.drop.drop st12 hc'⟩
    | true =>
      simp only [br_t, if_true] at hc'
      refine ite_tt (test_last (one R2 hc' I3 (hc (pu || !rb.top)) fun w s4 z H4 rc Hs4 sl4 nw4 I4 rz R4 r4 st4 h4 => ?_))
      have r2' := r2.stay R2 R4 st4 (fun z => by rw [z]; simp)
      refine thn (op_cmpW (Q := fun z H' => ∃ c, z = .bl c ∧ Q c H') C.room.units I4 ry rz R4 r2' r4 h4 fun z hz => ⟨z, rfl, bl z Hs4 H4 sl4 R4.drop.drop.drop (st12.trans st4 (fun z => by rw [z]; rfl)) hz⟩) fun d2 s5 ⟨z2, H5, I5, r5, c2, e5, q5⟩ => ?_
      subst e5
      cases r5
      exact wpAny_truthy_bool ⟨H5, I5, q5⟩
  · cases ec <;> first | rfl | (exact (Bool.noConfusion h2))
end
abbrev PAc (X : Cx) (Γ : Ctx) (es : List Expr) (cs : List E) : Prop := ∀ pu, PA X es (LA X Γ.pin pu (wA Γ pu cs))
section
variable {X : Cx} {Γ : Ctx} {b : Blk} {k : Nat} {pos : Pos} {ea eb ec : Expr} {es : List Expr} {cs : List E} {p q r : E} {pu : Bool}
theorem lac_nil : PAc X Γ [] [] := fun pu => by
  have h := la_nil (X := X) (pu := pu) (ix := Γ.pin)
  refine ⟨fun pos pins s σ H Q I hw => h.run pos pins s σ H Q I ?_⟩
  obtain ⟨B, Hs, sl, tp, P, R0, hw, hk⟩ := hw
  rw [wA] at hw
  exact ⟨B, Hs, sl, tp, P, R0, hw, hk⟩
theorem lac_cons (hs : noStar ea = true) (ha : PEc X Γ ea p) (hr : PAc X Γ es cs) : PAc X Γ (ea :: es) (p :: cs) := fun pu => by
  have h := la_cons (ha pu) hr (star_of hs)
  refine ⟨fun pos pins s σ H Q I hw => h.run pos pins s σ H Q I ?_⟩
  obtain ⟨B, Hs, sl, tp, P, R0, hw, hk⟩ := hw
  rw [wA] at hw
  exact ⟨B, Hs, sl, tp, P, R0, hw, hk⟩
theorem le_lst (h : PAc X Γ es cs) : PE X (.List es pos) (LE X Γ.pin pu (wE Γ pu (.lst cs))) := by
  refine ⟨fun pins s σ H Q I hw => ?_⟩
  obtain ⟨B, Hs, sl, tp, P, R0, hw, hk⟩ := hw
  rw [wE] at hw
  refine (pe_lst (h pu)).run pins s σ H Q I ⟨B, Hs, sl, tp, _, R0, hw, fun rs vs Hs1 H1 sl1 nws R1 rr st1 p1 => ?_⟩
  obtain ⟨xs, Hs2, sl2, R2, e1, st2, hz, hp⟩ := toVs_ok R1 rr.weak p1
  refine ⟨by rw [← e1, List.length_map, ← tl_len]; exact hz, fun l hl => ?_⟩
  rw [← e1]
  exact Cont.lst hk R2 hl (st1.trans st2 id) hp
theorem leaves_none_or (ts : List TA) : (∃ xs, T.leaves (TA.tl ts) = some xs ∧ mkTup (TA.tl ts) = .d (.tuple xs)) ∨ mkTup (TA.tl ts) = .nd .tup (TA.tl ts) := by
  unfold mkTup
  cases e : T.leaves (TA.tl ts) with
  | none => exact .inr rfl
  | some xs => exact .inl ⟨xs, rfl, rfl⟩
theorem le_tup {j : Nat} (h : PAc X Γ es cs) : PE X (.Tuple es j pos) (LE X Γ.pin pu (wE Γ pu (.tup cs))) := by
  refine ⟨fun pins s σ H Q I hw => ?_⟩
  obtain ⟨B, Hs, sl, tp, P, R0, hw, hk⟩ := hw
  rw [wE] at hw
  refine (pe_tup (h pu)).run pins s σ H Q I ⟨B, Hs, sl, tp, _, R0, hw, fun rs vs Hs1 H1 sl1 nws R1 rr st1 p1 => ?_⟩
  obtain ⟨xs, Hs2, sl2, R2, e1, st2, hz, hp⟩ := toVs_ok R1 rr.weak p1
  refine ⟨by rw [← e1, List.length_map, ← tl_len]; exact hz, fun l hl => ?_⟩
  rw [← e1]
  rcases leaves_none_or xs with ⟨ds, hl2, e2⟩ | e2
  · rw [e2] at hp
    obtain ⟨f1, f2, f3⟩ := leaves_of hl2
    exact Cont.tup hk R2.drop hl (f3 (TA.okl_append.mp R2.okT).2) (st1.trans st2 id) hp
  · rw [e2] at hp
    exact Cont.node (k := .tup) hk R2 hl (show upd H1 l (.tup (xs.map TA.v)) l = some (.tup (xs.map TA.v)) from upd_same) (st1.trans st2 id) hp
theorem fn_some : ∀ {l : List (Str × FS)} {f : Str}, (l.map (·.1)).contains f = true → (l.lookup f).isSome = true
  | [], f, h => by simp at h
  | (g, x) :: l, f, h => by
    rw [List.map_cons, List.contains_cons, Bool.or_eq_true] at h
    rw [List.lookup_cons]
    cases e : f == g with
    | true => rfl
    | false =>
      refine fn_some (h.resolve_left fun z => ?_)
      rw [e] at z
      cases z
theorem le_call {f x : Str} {p0 : Pos} (C : CxOk X Γ b k) (hx : f = x) (hf : Γ.sk.fn.contains f = true) (hg : globB b.sc x = true) (hn : okNm x = true) (hst : (ea :: es).all noStar = true) (h : PAc X Γ (ea :: es) cs) : PE X (.Call (.Name x p0) (ea :: es) [] pos) (LE X Γ.pin pu (wE Γ pu (.call f cs))) := by
  subst hx
  refine ⟨fun pins s σ H Q I hw => ?_⟩
  obtain ⟨B, Hs, sl, tp, P, R0, hw, hk⟩ := hw
  rw [wE] at hw
  obtain ⟨fs, hfn⟩ := Option.isSome_iff_exists.mp (fn_some hf)
  obtain ⟨a, fd, ps, F, hm, hkp, hb⟩ := C.fns f fs hfn
  simp only [List.all_cons, Bool.and_eq_true] at hst
  refine (pe_callG F C.room C.gd (C.gl hg) hm hkp hb .nil pass0 (h pu) (okNm_of hn).1 (star_of hst.1) (stars_of hst.2)).run pins s σ H Q I ⟨B, Hs, sl, tp, _, R0, hw, fun rs vs Hs1 H1 sl1 nws R1 rr st1 p1 => ?_⟩
  rw [hfn] at p1
  rw [List.append_nil]
  exact call_ok R1 rr st1 p1 hk
theorem bltCall_of (C : CxOk X Γ b k) {nm x : Str} (h : bltCall Γ.sk b nm x = true) : nm = x ∧ Gl X x ∧ X.mg x = none ∧ (x == ("__debug__" : Str)) = false ∧ x ≠ "__name__" := by
  unfold bltCall at h
  simp only [Bool.and_eq_true, decide_eq_true_eq] at h
  obtain ⟨h1, _, h3⟩ := okNm_of h.2
  exact ⟨h.1.1.1, C.gl h.1.1.2, C.bi x ((by have := h.1.2; simpa [Ctx.sk] using this)), h1, h3⟩
theorem boot_blt {t : Blt} (ht : t ≠ .listRange) : bootBuiltins (bltNm t) = some (bltV t) := by
  cases t <;> first | exact absurd rfl ht | decide +kernel
theorem le_blt {t : Blt} {x : Str} {p0 : Pos} (C : CxOk X Γ b k) (ht : t ≠ .listRange) (hx : bltCall Γ.sk b (bltNm t) x = true) (hst : (ea :: es).all noStar = true) (h : PAc X Γ (ea :: es) cs) : PE X (.Call (.Name x p0) (ea :: es) [] pos) (LE X Γ.pin pu (wE Γ pu (.blt t cs))) := by
  obtain ⟨rfl, hg, hm, hd, hnm⟩ := bltCall_of C hx
  refine ⟨fun pins s σ H Q I hw => ?_⟩
  obtain ⟨B, Hs, sl, tp, P, R0, hw, hk⟩ := hw
  rw [wE] at hw
  simp only [List.all_cons, Bool.and_eq_true] at hst
  have hcr := call_bltW (X := X) (b := t) C.calm ht
  have hbt := boot_blt ht
  have rd : tCB (CaW X (bltW t)) (LA X Γ.pin pu (wA Γ pu cs)) σ H Q := ⟨B, Hs, sl, tp, _, R0, hw, fun rs vs Hs1 H1 sl1 nws R1 rr st1 p1 => ⟨σ, ⟨B, Γ.pin⟩, Hs1, sl1, tp, nws, rs, P, H, sl, pu, R1, rr, st1, p1, hk⟩⟩
  cases t <;> first
    | exact absurd rfl ht
    | exact (pe_callB hcr hg hm hbt (h pu) hnm hd (star_of hst.1) (stars_of hst.2)).run pins s σ H Q I rd
    | exact (pe_callTy hcr hg hm hbt (h pu) hnm hd (star_of hst.1) (stars_of hst.2)).run pins s σ H Q I rd
theorem le_listRange {x y : Str} {p0 p1 p2 : Pos} (C : CxOk X Γ b k) (hx : bltCall Γ.sk b "list" x = true) (hy : bltCall Γ.sk b "range" y = true) (hs : noStar ea = true) (h : PAc X Γ [ea] cs) (hcs : ∃ c, cs = [c] ∧ PEc X Γ ea c) : PE X (.Call (.Name x p0) [.Call (.Name y p1) [ea] [] p2] [] pos) (LE X Γ.pin pu (wE Γ pu (.blt .listRange cs))) := by
  obtain ⟨rfl, hg, hm, hd, hnm⟩ := bltCall_of C hx
  obtain ⟨rfl, hg2, hm2, _, _⟩ := bltCall_of C hy
  obtain ⟨c, rfl, hc⟩ := hcs
  refine ⟨fun pins s σ H Q I hw => ?_⟩
  obtain ⟨B, Hs, sl, tp, P, R0, hw, hk⟩ := hw
  rw [wE, wA] at hw
  refine (pe_listRg C.calm hg hm (prg_1 hg2 hm2 (hc pu) (star_of hs))).run pins s σ H Q I ⟨B, Hs, sl, tp, _, R0, hw, fun ra v Hs1 H1 sl1 nw1 R1 rr1 st1 p1 => ?_⟩
  rw [wA] at p1
  simp only [bltW, R.datas] at p1
  cases hd1 : ra.data (TA.tl sl1) with
  | none => rw [hd1] at p1; exact p1.elim
  | some d =>
    rw [hd1] at p1
    simp only at p1
    cases d with
    | int j =>
      have := (rr1.dp R1 hd1).int_v
      subst this
      obtain ⟨b1, b2, p1⟩ := p1
      refine ⟨j, rfl, ⟨by omega, by omega, by omega, by omega, by omega⟩, fun l hl => ?_⟩
      have e : rgV 0 j = ((List.range j.toNat).map fun n : Nat => (n : Int)).map V.int := by
        unfold rgV
        rw [List.map_map]
        simp
      rw [e]
      obtain ⟨g1, g2, g3, g4⟩ := leafs_ok (H := H1) (intLeafs (K := X.K) (Hs := Hs1) ((List.range j.toNat).map fun n : Nat => (n : Int)))
      have := Cont.lst hk (R1.drop.leaves g1 g2) hl st1 (by rw [g3, List.map_map, List.map_map]; exact p1)
      rw [g4] at this
      exact this
    | _ => exact p1.elim
theorem isi_kit {n ty : String} (hn : n = "NoneType" ∨ n = "bool" ∨ n = "int" ∨ n = "str" ∨ n = "list" ∨ n = "tuple" ∨ n = "dict") (ht : isTyNm ty = true) : kitB n ty = some (isiB n ty) := by
  unfold isTyNm at ht
  simp only [Bool.or_eq_true, beq_iff_eq] at ht
  rcases ht with ((((rfl | rfl) | rfl) | rfl) | rfl) | rfl <;> rcases hn with rfl | rfl | rfl | rfl | rfl | rfl | rfl <;> decide +kernel
theorem boot_ty {ty : String} (ht : isTyNm ty = true) : bootBuiltins (Str.ofString ty) = some (.type ty) := by
  unfold isTyNm at ht
  simp only [Bool.or_eq_true, beq_iff_eq] at ht
  rcases ht with ((((rfl | rfl) | rfl) | rfl) | rfl) | rfl <;> decide +kernel
theorem tyName_in {t : T} {n : String} (h : tyName t = some n) : n = "NoneType" ∨ n = "bool" ∨ n = "int" ∨ n = "str" ∨ n = "list" ∨ n = "tuple" ∨ n = "dict" := by
  unfold tyName at h
  split at h <;> first | (cases h; simp) | cases h
theorem le_isi {ty : String} {x t : Str} {p0 p1 : Pos} (C : CxOk X Γ b k) (hx : bltCall Γ.sk b "isinstance" x = true) (ht : bltCall Γ.sk b (Str.ofString ty) t = true) (hty : isTyNm ty = true) (hs : noStar ea = true) (h : PEc X Γ ea p) : PE X (.Call (.Name x p0) [ea, .Name t p1] [] pos) (LE X Γ.pin pu (wE Γ pu (.isi p ty))) := by
  obtain ⟨rfl, hg, hm, hd, hnm⟩ := bltCall_of C hx
  obtain ⟨rfl, hg2, hm2, hd2, hnm2⟩ := bltCall_of C ht
  refine ⟨fun pins s σ H Q I hw => ?_⟩
  obtain ⟨B, Hs, sl, tp, P, R0, hw, hk⟩ := hw
  rw [wE] at hw
  have h2 : PE X (.Name (Str.ofString ty) p1) (tC (.ty ty)) := pe_bltn (u := .type ty) hg2 hm2 (boot_ty hty) rfl hnm2 hd2
  refine (pe_callB call_isi hg hm (by decide +kernel) (pa_cons (h pu) (pa_cons h2 pa_nil (star_of rfl)) (star_of hs)) hnm hd (star_of hs) (stars_of rfl)).run pins s σ H Q I ⟨B, Hs, sl, tp, _, R0, hw, fun ra v Hs1 H1 sl1 nw1 R1 rr1 st1 p1 => ?_⟩
  obtain ⟨c, g1, rfl, g3, g4, _⟩ := rr1.get R1
  unfold isiW at p1
  rw [g1] at p1
  simp only at p1
  split at p1
  · rename_i n hn
    exact ⟨c.v, .ty ty, .type n, .type ty, _, rfl, .ty ty, tyName_of R1.sub g4 hn, kit_ty (isi_kit (tyName_in hn) hty), Cont.leaf hk R1.drop (.bl _) st1 p1⟩
  · exact p1.elim
end
theorem tl_take (a : List TA) (n : Nat) : TA.tl (a.take n) = (TA.tl a).take n := by rw [TA.tl_map, TA.tl_map, List.map_take]
theorem tl_drop (a : List TA) (n : Nat) : TA.tl (a.drop n) = (TA.tl a).drop n := by rw [TA.tl_map, TA.tl_map, List.map_drop]
theorem tl_rev (a : List TA) : TA.tl a.reverse = (TA.tl a).reverse := by rw [TA.tl_map, TA.tl_map, List.map_reverse]
theorem TA.at_snoc {kk : Kd} {a : Addr} {us : List TA} {j : Nat} {c : TA} (hc : us[j]? = some c) : ∀ (q : List Nat) (t : TA), t.at q = some (.nd kk a us) → t.at (q ++ [j]) = some c
  | [], t, h => by
    rw [TA.at] at h
    cases h
    show (TA.nd kk a us).at [j] = _
    simp only [TA.at, hc]
  | m :: q, t, h => by
    cases t with
    | dead _ => cases h
    | d _ _ => cases h
    | nd k' a' ts =>
      rw [List.cons_append]
      rw [TA.at] at h ⊢
      cases hm : ts[m]? with
      | none => rw [hm] at h; cases h
      | some b => rw [hm] at h; exact TA.at_snoc hc q b h
theorem TA.put_snoc {kk : Kd} {a : Addr} {us : List TA} {j : Nat} {c : TA} (s : TA) (hc : us[j]? = some c) : ∀ (q : List Nat) (t : TA), t.at q = some (.nd kk a us) → t.put s (q ++ [j]) = t.put (.nd kk a (us.set j s)) q
  | [], t, h => by
    rw [TA.at] at h
    cases h
    show (TA.nd kk a us).put s [j] = _
    simp only [TA.put, hc]
  | m :: q, t, h => by
    cases t with
    | dead _ => cases h
    | d _ _ => cases h
    | nd k' a' ts =>
      rw [List.cons_append]
      rw [TA.at] at h
      cases hm : ts[m]? with
      | none => rw [hm] at h; cases h
      | some b =>
        rw [hm] at h
        simp only [TA.put, hm]
        rw [TA.put_snoc s hc q b h]
section
variable {X : Cx} {Γ : Ctx} {b : Blk} {k : Nat} {pos : Pos} {ea eb ec : Expr} {es : List Expr} {cs : List E} {p q r : E} {pu : Bool}
theorem base_of {o : Expr} {nm : Str} {env : Env} (h : noCall o = true) : attributeBase o nm env (eval o env) = eval o env := by
  cases o with
  | Call f es ks p =>
    cases f with
    | Name x q =>
      cases es with
      | nil =>
        cases ks with
        | nil => exact (Bool.noConfusion h)
        | cons k ks => rfl
      | cons e es => rfl
    | _ => rfl
  | _ => rfl
theorem stars_all {env : Env} {pos : Pos} : ∀ {es : List Expr}, es.all noStar = true → (backTo pos (starEach es env)).all (fun x => !x.1) = true
  | [], _ => rfl
  | e :: es, h => by
    simp only [List.all_cons, Bool.and_eq_true] at h
    rw [star_of h.1]
    show (true && (backTo pos (starEach es env)).all (fun x => !x.1)) = true
    rw [stars_all h.2]
    rfl
theorem noTupl_app {a c : List TA} (h1 : TA.noTupl a = true) (h2 : TA.noTupl c = true) : TA.noTupl (a ++ c) = true := by
  rw [TA.noTupl_all] at h1 h2 ⊢
  intro t ht
  rcases List.mem_append.mp ht with z | z
  · exact h1 t z
  · exact h2 t z
/-- a list at a place was changed; nothing is told -/
theorem chg_done {B : Bs} {Hs H H0 : Hp} {σ : L2.St} {sl0 sl tp : List TA} {P : R → St → Prop} {Q : VK} {i : Nat} {q : List Nat} {t : TA} {a : Addr} {us us' xs : List TA} (hk : Cont X B σ tp false H0 sl0 P Q) (st : Stp false H0 H sl0 sl) (R1 : Rel X.K B Hs H σ sl (tp ++ xs)) (h1 : sl[i]? = some t) (h2 : t.at q = some (.nd .list a us))
    (ok : TA.okl X.K Hs H us') (sub : (TA.fpl us').Perm (TA.fpl us ++ TA.fpl xs) ∨ (TA.fpl us').Sublist (TA.fpl us)) (hn : TA.noTupl us' = true) (hP : P (.v (.d .none)) (putS (TA.tl sl) i q (.nd .list (TA.tl us')))) : Q .non (upd H a (.lst (us'.map TA.v))) := by
  have uq : (TA.fpl us ++ TA.fpl xs).Nodup := by
    have hu := R1.uq
    rw [TA.fpl_append, TA.fpl_append, ← List.append_assoc, List.nodup_append] at hu
    rw [List.nodup_append]
    have us1 : (TA.nd .list a us).fp.Nodup := by
      obtain ⟨l1, l2, e1, _⟩ := TA.lens q t _ h2
      have := R1.slot_uq h1
      rw [e1] at this
      exact (nodup_mid this).2.1
    rw [TA.fp] at us1
    refine ⟨(List.nodup_cons.mp us1).2, hu.2.1, fun x hx y hy e => hu.2.2 x (List.mem_append_left _ ?_) y hy e⟩
    obtain ⟨l1, l2, e1, _⟩ := TA.lens q t _ h2
    exact fpl_slot h1 (by rw [e1, TA.fp]; exact List.mem_append_left _ (List.mem_append_right _ (List.mem_cons_of_mem _ hx)))
  obtain ⟨R2, e2⟩ := R1.chg h1 h2 ok (fun z hz => by
    rcases sub with s | s
    · exact List.mem_append.mp (s.mem_iff.mp hz)
    · exact .inl (s.subset hz)) (by
    rcases sub with s | s
    · exact s.nodup_iff.mpr uq
    · exact s.nodup (List.nodup_append.mp uq).1) hn
  exact Cont.leaf hk R2 .non (st.trans (pu' := false) ⟨fun z => (by cases z), chg_live h1 h2 rfl⟩ id) (by rw [e2]; exact hP)
theorem slot_noTupl {B : Bs} {Hs H : Hp} {σ : L2.St} {sl tp : List TA} {i : Nat} {q : List Nat} {t : TA} {a : Addr} {us : List TA} {K : PySem.W.Frag} (R1 : Rel K B Hs H σ sl tp) (h1 : sl[i]? = some t) (h2 : t.at q = some (.nd .list a us)) : TA.noTupl us = true ∧ TA.okl K Hs H us ∧ H a = some (.lst (us.map TA.v)) := by
  have n := TA.at_noTup q t _ h2 (R1.ntup t (List.mem_of_getElem? h1))
  rw [TA.noTup, Bool.and_eq_true] at n
  have o := TA.at_ok q t _ h2 (R1.slot_ok h1)
  rw [TA.ok] at o
  exact ⟨n.2, o.2, o.1⟩
theorem RRs.three {sl : List TA} {r r' r'' : R} {xs : List V} {nws : List (List TA)} (h : RRs sl [r, r', r''] xs nws) : ∃ x y z nw nw' nw'', xs = [x, y, z] ∧ nws = [nw, nw', nw''] ∧ RR r x sl nw ∧ RR r' y sl nw' ∧ RR r'' z sl nw'' := by
  cases h with
  | cons a b =>
    cases b with
    | cons c d =>
      cases d with
      | cons e f =>
        cases f
        exact ⟨_, _, _, _, _, _, rfl, rfl, a, c, e⟩
theorem RR'.rr {r : R} {v : V} {sl nw : List TA} {T0 : T} (h : RR' r v sl nw) (hg : r.get (TA.tl sl) = some T0) (hd : T0.isDead = false) : RR r v sl nw := by
  cases r with
  | v t => exact h
  | p i q =>
    obtain ⟨e, f⟩ := h
    unfold R.get at hg
    simp only at hg
    rw [tl_get] at hg
    cases h1 : sl[i]? with
    | none => rw [h1] at hg; cases hg
    | some t =>
      rw [h1] at hg
      simp only [Option.map_some, TA.at_t] at hg
      cases h2 : t.at q with
      | none => rw [h2] at hg; cases hg
      | some c =>
        rw [h2] at hg
        have e3 : c.t = T0 := Option.some.inj hg
        exact ⟨e, t, c, h1, h2, f t c h1 h2, by rw [← TA.isDead_t, e3]; exact hd⟩
def MtW (X : Cx) (m : Mth) : V → List V → Hp → VK → Prop := fun x xs H2 Q => ∃ σ B Hs2 sl2 tp nws rs P H sl pu, Rel X.K B Hs2 H2 σ sl2 (tp ++ nws.flatten) ∧ RRs sl2 rs (x :: xs) nws ∧ Stp pu H H2 sl sl2 ∧ mthW m pu rs (TA.tl sl2) P ∧ Cont X B σ tp pu H sl P Q
def mthId : Mth → String
  | .append => "list.append"
  | .insert => "list.insert"
  | .extend => "list.extend"
  | .pop => "list.pop"
  | .clear => "list.clear"
  | .reverse => "list.reverse"
  | .index => "list.index"
  | .count => "list.count"
theorem okl_one {K : PySem.W.Frag} {Hs H : Hp} {x : TA} : TA.okl K Hs H [x] ↔ x.ok K Hs H := by rw [TA.okl, TA.okl]; simp
/-- an object of the temporaries that are given up is changed -/
theorem Rel.updT {K : PySem.W.Frag} {B : Bs} {Hs H : Hp} {σ : L2.St} {sl tp rest : List TA} {a : Addr} {o : HO} (R : Rel K B Hs H σ sl (tp ++ rest)) (ha : a ∈ TA.fpl rest) : Rel K B Hs (upd H a o) σ sl tp := by
  have hin : a ∈ TA.fpl (sl ++ (tp ++ rest)) := by rw [TA.fpl_append, TA.fpl_append]; exact List.mem_append_right _ (List.mem_append_right _ ha)
  have hnot : a ∉ TA.fpl (sl ++ tp) := fun z => by
    have hu := R.uq
    rw [← List.append_assoc, TA.fpl_append, List.nodup_append] at hu
    exact hu.2.2 a z a ha rfl
  have hsub : ∀ b ∈ TA.fpl (sl ++ tp), b ∈ TA.fpl (sl ++ (tp ++ rest)) := fun b hb => by rw [← List.append_assoc, TA.fpl_append]; exact List.mem_append_left _ hb
  have hok := R.ok
  rw [← List.append_assoc, TA.okl_append] at hok
  refine ⟨R.len, R.val, TA.okl_mono (Same.refl _) _ hok.1 fun b hb => upd_ne fun z => hnot (z ▸ hb), ?_, fun b hb => R.out b (hsub b hb), fun b o' hb => ?_, fun b o' hb hA => ?_, fun b hb => R.fresh b (hsub b hb), R.hs, R.hsNew, R.ntup, R.pin, R.tab.to (fun c ps e => by rw [upd_ne (show c ≠ a from fun z => TA.fpl_tbl _ R.ok a hin ps (by rw [← z]; exact e))]; exact e) (fun c q e => e) R.tab.n, R.tabB⟩
  · have hu := R.uq
    rw [← List.append_assoc, TA.fpl_append, List.nodup_append] at hu
    exact hu.1
  · rw [upd_ne fun z => ?_]
    · exact R.sub b o' hb
    · subst z
      rw [R.out _ hin] at hb
      cases hb
  · rw [upd_ne fun z => ?_]
    · exact R.keep b o' hb hA
    · subst z
      rcases R.fresh _ hin with w | w
      · exact hA w
      · rw [w] at hb
        cases hb
theorem mt_append_W : MtR X "list.append" (MtW X .append) := by
  intro pins s σ' H2 x xs v us0 Q I rx rxs h
  obtain ⟨σ, B, Hs2, sl2, tp, nws, rs, P, H, sl, pu, R1, rr, st, h, hk⟩ := h
  unfold mthW at h
  split at h <;> first | exact (absurd ‹Mth.append = _› (by decide)) | skip
  · obtain ⟨hpu, h⟩ := h
    subst hpu
    obtain ⟨x1, y1, nw, nw', e1, rfl, r1, r2⟩ := rr.two
    simp only [List.cons.injEq] at e1
    obtain ⟨rfl, rfl⟩ := e1
    have R2 : Rel X.K B Hs2 H2 σ sl2 ((tp ++ nw) ++ (nw' ++ [])) := by simpa using R1
    obtain ⟨c, Hs3, sl3, R3, cv, cd, st3, ⟨hnt, h⟩, f⟩ := toV_ok R2 r2.weak h
    split at h
    · obtain ⟨hz, hP⟩ := h
      obtain ⟨xa, e1, e2, e3, e4⟩ := r1
      obtain ⟨a, us, rfl, e⟩ := ta_nd e2
      subst e1
      subst e3
      have okx : TA.okl X.K Hs3 H2 [TA.nd .list a us] := by simpa using (TA.okl_append.mp (TA.okl_append.mp R3.okT).1).2
      have a1 : H2 a = some (.lst (us.map TA.v)) := by
        have := okl_one.mp okx
        rw [TA.ok] at this
        exact this.1
      refine mt_append pins s σ' H2 _ _ v us0 Q I rx rxs ⟨a, _, y1, rfl, rfl, a1, by rw [List.length_map, ← tl_len, e]; exact hz, ?_⟩
      have R4 : Rel X.K B Hs3 (upd H2 a (.lst (us.map TA.v ++ [y1]))) σ sl3 tp := by
        refine Rel.updT (rest := [TA.nd .list a us] ++ ([] ++ [c])) (by simpa using R3) (by rw [TA.fpl_append, fpl_one, TA.fp]; simp)
      exact Cont.leaf hk R4 .non ((st.trans st3 id).trans (pu' := false) ⟨fun z => (by cases z), fun i t h d => ⟨t, h, d⟩⟩ id) hP
    obtain ⟨i, q, t, a, us, rfl, hnw, h1, h2, rfl, hz, hP⟩ := atList_ok (f _ _ _ r1.weak) h
    subst hnw
    rw [List.append_nil, List.append_nil] at R3
    obtain ⟨n1, o1, a1⟩ := slot_noTupl R3 h1 h2
    have okc : c.ok X.K Hs3 H2 := okl_one.mp (TA.okl_append.mp R3.okT).2
    refine mt_append pins s σ' H2 _ _ v us0 Q I rx rxs ⟨a, _, y1, rfl, rfl, a1, by rw [List.length_map, ← tl_len]; exact hz, ?_⟩
    have := chg_done (us' := us ++ [c]) hk (st.trans st3 id) R3 h1 h2 (TA.okl_append.mpr ⟨o1, okl_one.mpr okc⟩) (.inl (by rw [TA.fpl_append])) (noTupl_app n1 (by simp [TA.noTupl, ← TA.noTup_t, hnt])) (by rw [tl_app]; exact hP)
    rw [List.map_append, List.map_cons, List.map_nil, cv] at this
    exact this
  all_goals first | exact h.elim | skip
theorem mt_extend_W : MtR X "list.extend" (MtW X .extend) := by
  intro pins s σ' H2 x xs v us0 Q I rx rxs h
  obtain ⟨σ, B, Hs2, sl2, tp, nws, rs, P, H, sl, pu, R1, rr, st, h, hk⟩ := h
  unfold mthW at h
  split at h <;> first | exact (absurd ‹Mth.extend = _› (by decide)) | skip
  · obtain ⟨hpu, h⟩ := h
    subst hpu
    obtain ⟨x1, y1, nw, nw', e1, rfl, r1, r2⟩ := rr.two
    simp only [List.cons.injEq] at e1
    obtain ⟨rfl, rfl⟩ := e1
    have R2 : Rel X.K B Hs2 H2 σ sl2 ((tp ++ nw) ++ (nw' ++ [])) := by simpa using R1
    obtain ⟨c, Hs3, sl3, R3, cv, cd, st3, h, f⟩ := toV_ok R2 r2.weak h
    split at h
    · rename_i zs hct
      cases c with
      | dead _ => cases hct
      | d _ _ => cases hct
      | nd kd az zt =>
        rw [TA.t] at hct
        injection hct with hc1 hc2
        subst hc1
        subst hc2
        obtain ⟨i, q, t, a, us, rfl, hnw, h1, h2, rfl, hz, hzn, hP⟩ := atList_ok (f _ _ _ r1.weak) h
        subst hnw
        rw [List.append_nil, List.append_nil] at R3
        obtain ⟨n1, o1, a1⟩ := slot_noTupl R3 h1 h2
        have okc : (TA.nd .list az zt).ok X.K Hs3 H2 := okl_one.mp (TA.okl_append.mp R3.okT).2
        rw [TA.ok] at okc
        have hzt : H2 az = some (.lst (zt.map TA.v)) := okc.1
        have hy1 : y1 = .ref az := cv.symm
        refine mt_extend pins s σ' H2 _ _ v us0 Q I rx rxs ⟨a, az, _, _, rfl, by rw [hy1], a1, hzt, by rw [List.length_map, List.length_map, ← tl_len, ← tl_len]; exact hz, ?_⟩
        have R4 : Rel X.K B Hs3 H2 σ sl3 (tp ++ zt) := by simpa using R3.kids
        have := chg_done (us' := us ++ zt) hk (st.trans st3 id) R4 h1 h2 (TA.okl_append.mpr ⟨o1, (TA.okl_append.mp R4.okT).2⟩) (.inl (by rw [TA.fpl_append])) (noTupl_app n1 (by rw [← TA.noTup_tl]; exact hzn)) (by rw [tl_app]; exact hP)
        rw [List.map_append] at this
        exact this
    · exact h.elim
  all_goals first | exact h.elim | skip
theorem mt_insert_W : MtR X "list.insert" (MtW X .insert) := by
  intro pins s σ' H2 x xs v us0 Q I rx rxs h
  obtain ⟨σ, B, Hs2, sl2, tp, nws, rs, P, H, sl, pu, R1, rr, st, h, hk⟩ := h
  unfold mthW at h
  split at h <;> first | exact (absurd ‹Mth.insert = _› (by decide)) | skip
  · obtain ⟨hpu, h⟩ := h
    subst hpu
    obtain ⟨x1, y1, z1, nw, nw', nw'', e1, rfl, r1, r2, r3⟩ := rr.three
    simp only [List.cons.injEq] at e1
    obtain ⟨rfl, rfl⟩ := e1
    have R2 : Rel X.K B Hs2 H2 σ sl2 ((tp ++ nw ++ nw') ++ (nw'' ++ [])) := by simpa using R1
    obtain ⟨c, Hs3, sl3, R3, cv, cd, st3, ⟨hnt, h⟩, f⟩ := toV_ok R2 r3.weak h
    obtain ⟨i, q, t, a, us, rfl, hnw, h1, h2, rfl, hz, hP⟩ := atList_ok (f _ _ _ r1.weak) h
    subst hnw
    split at hP
    · rename_i kk hkk
      obtain ⟨b1, b2, hP⟩ := hP
      rw [List.append_nil, List.append_nil] at R3
      have R3' : Rel X.K B Hs3 H2 σ sl3 (tp ++ [c]) := R3.tempsS (by
          have := R3.okT
          rw [TA.okl_append, TA.okl_append] at this
          exact TA.okl_append.mpr ⟨this.1.1, this.2⟩) (by
          rw [TA.fpl_append, TA.fpl_append, TA.fpl_append]
          exact (List.sublist_append_left _ _).append (List.Sublist.refl _))
      -- the index
      have hy : y1 = .int kk := ((f _ _ _ r2.weak).rr hkk rfl |>.dpT (tp := tp) (R3.tempsS (by
          have := R3.okT
          rw [TA.okl_append, TA.okl_append] at this
          exact TA.okl_append.mpr ⟨this.1.1, this.1.2⟩) (by
          rw [TA.fpl_append, TA.fpl_append, TA.fpl_append]
          exact List.sublist_append_left _ _)) hkk).2.int_v
      subst hy
      obtain ⟨n1, o1, a1⟩ := slot_noTupl R3' h1 h2
      have okc : c.ok X.K Hs3 H2 := okl_one.mp (TA.okl_append.mp R3'.okT).2
      refine mt_insert pins s σ' H2 _ _ v us0 Q I rx rxs ⟨a, _, kk, z1, rfl, rfl, a1, by rw [List.length_map, ← tl_len]; exact hz, b1, b2, ?_⟩
      have pm : (us.take kk.toNat ++ [c] ++ us.drop kk.toNat).Perm (us ++ [c]) := by
        have h1 : (us.take kk.toNat ++ [c] ++ us.drop kk.toNat).Perm (us.take kk.toNat ++ us.drop kk.toNat ++ [c]) := by
          rw [List.append_assoc, List.append_assoc]
          exact List.Perm.append_left _ List.perm_append_comm
        rw [List.take_append_drop] at h1
        exact h1
      have := chg_done (us' := us.take kk.toNat ++ [c] ++ us.drop kk.toNat) hk (st.trans st3 id) R3' h1 h2 (TA.okl_all.mpr fun t' ht' => by
          rcases List.mem_append.mp (pm.mem_iff.mp ht') with z | z
          · exact TA.okl_all.mp o1 t' z
          · simp at z; subst z; exact okc) (.inl (by
          rw [TA.fpl_flat, TA.fpl_flat, TA.fpl_flat, ← List.flatMap_append]
          exact pm.flatMap_right _)) (TA.noTupl_all.mpr fun t' ht' => by
          rcases List.mem_append.mp (pm.mem_iff.mp ht') with z | z
          · exact TA.noTupl_all.mp n1 t' z
          · simp at z; subst z; rw [← TA.noTup_t]; exact hnt) (by
          rw [tl_app, tl_app, tl_take, tl_drop]
          exact hP)
      rw [List.map_append, List.map_append, List.map_cons, List.map_nil, cv, List.map_take, List.map_drop] at this
      exact this
    · exact hP.elim
  all_goals first | exact h.elim | skip
theorem mt_clear_W : MtR X "list.clear" (MtW X .clear) := by
  intro pins s σ' H2 x xs v us0 Q I rx rxs h
  obtain ⟨σ, B, Hs2, sl2, tp, nws, rs, P, H, sl, pu, R1, rr, st, h, hk⟩ := h
  unfold mthW at h
  split at h <;> first | exact (absurd ‹Mth.clear = _› (by decide)) | skip
  · obtain ⟨hpu, h⟩ := h
    subst hpu
    obtain ⟨x1, nw, e1, rfl, r1⟩ := rr.one
    simp only [List.cons.injEq] at e1
    obtain ⟨rfl, rfl⟩ := e1
    split at h
    · obtain ⟨xa, e1, e2, e3, e4⟩ := r1
      obtain ⟨a, us, rfl, e⟩ := ta_nd e2
      subst e1
      subst e3
      have R1' : Rel X.K B Hs2 H2 σ sl2 (tp ++ [TA.nd .list a us]) := by simpa using R1
      have okx := (TA.okl_append.mp R1'.okT).2
      have a1 : H2 a = some (.lst (us.map TA.v)) := by
        have := okl_one.mp okx
        rw [TA.ok] at this
        exact this.1
      refine mt_clear pins s σ' H2 _ _ v us0 Q I rx rxs ⟨a, _, rfl, rfl, a1, ?_⟩
      have R4 : Rel X.K B Hs2 (upd H2 a (.lst [])) σ sl2 tp := Rel.updT (rest := [TA.nd .list a us]) R1' (by rw [fpl_one, TA.fp]; simp)
      exact Cont.leaf hk R4 .non (st.trans (pu' := false) ⟨fun z => (by cases z), fun i t h d => ⟨t, h, d⟩⟩ id) h
    obtain ⟨i, q, t, a, us, rfl, hnw, h1, h2, rfl, hP⟩ := atList_ok r1.weak h
    subst hnw
    obtain ⟨n1, o1, a1⟩ := slot_noTupl R1 h1 h2
    refine mt_clear pins s σ' H2 _ _ v us0 Q I rx rxs ⟨a, _, rfl, rfl, a1, ?_⟩
    exact chg_done (us' := []) (xs := []) hk st (by simpa using R1) h1 h2 (by rw [TA.okl]; trivial) (.inr (List.nil_sublist _)) rfl hP
  all_goals first | exact h.elim | skip
theorem mt_reverse_W : MtR X "list.reverse" (MtW X .reverse) := by
  intro pins s σ' H2 x xs v us0 Q I rx rxs h
  obtain ⟨σ, B, Hs2, sl2, tp, nws, rs, P, H, sl, pu, R1, rr, st, h, hk⟩ := h
  unfold mthW at h
  split at h <;> first | exact (absurd ‹Mth.reverse = _› (by decide)) | skip
  · obtain ⟨hpu, h⟩ := h
    subst hpu
    obtain ⟨x1, nw, e1, rfl, r1⟩ := rr.one
    simp only [List.cons.injEq] at e1
    obtain ⟨rfl, rfl⟩ := e1
    obtain ⟨i, q, t, a, us, rfl, hnw, h1, h2, rfl, hP⟩ := atList_ok r1.weak h
    subst hnw
    obtain ⟨n1, o1, a1⟩ := slot_noTupl R1 h1 h2
    refine mt_reverse pins s σ' H2 _ _ v us0 Q I rx rxs ⟨a, _, rfl, rfl, a1, ?_⟩
    have pm := List.reverse_perm us
    have := chg_done (us' := us.reverse) (xs := []) hk st (by simpa using R1) h1 h2 (TA.okl_all.mpr fun t' ht' => TA.okl_all.mp o1 t' (pm.mem_iff.mp ht')) (.inl (by
          rw [TA.fpl_flat, TA.fpl_flat, TA.fpl, List.append_nil]
          exact pm.flatMap_right _)) (TA.noTupl_all.mpr fun t' ht' => TA.noTupl_all.mp n1 t' (pm.mem_iff.mp ht')) (by
          rw [tl_rev]
          exact hP)
    rw [List.map_reverse] at this
    exact this
  all_goals first | exact h.elim | skip
theorem findIdx_of {K : PySem.W.Frag} {H : Hp} {w : V} {y : PyData} (hy : Rp K H w y) (fy : flatD y = true) : ∀ {vs : List V} {ys : List PyData} {j : Nat}, RpAll K H vs ys → ys.all flatD = true → (ys.findIdx? fun z => PyData.eqv z y) = some j →
    (∃ z, vs[j]? = some z ∧ eqV z w = true) ∧ ∀ (m : Nat) (z' : V), m < j → vs[m]? = some z' → eqV z' w = false
  | _, _, j, .nil, _, h => by simp at h
  | _, _, j, .cons (v := v0) (d := d0) (vs := vs) (ds := ds) a b, f, h => by
    simp only [List.all_cons, Bool.and_eq_true] at f
    have e0 := (a.eqV hy f.1 fy).1
    rw [List.findIdx?_cons] at h
    split at h
    · rename_i hz
      cases h
      exact ⟨⟨v0, rfl, by rw [e0]; exact hz⟩, fun m z' hm => absurd hm (by omega)⟩
    · rename_i hz
      obtain ⟨j', hj, rfl⟩ := Option.map_eq_some_iff.mp h
      obtain ⟨h1, h2⟩ := findIdx_of hy fy b f.2 hj
      refine ⟨by simpa using h1, fun m z' hm hz' => ?_⟩
      cases m with
      | zero =>
        simp only [List.getElem?_cons_zero, Option.some.injEq] at hz'
        subst hz'
        rw [e0]
        simpa using hz
      | succ m => exact h2 m z' (by omega) (by simpa using hz')
theorem mt_index_W : MtR X "list.index" (MtW X .index) := by
  intro pins s σ' H2 x xs v us0 Q I rx rxs h
  obtain ⟨σ, B, Hs2, sl2, tp, nws, rs, P, H, sl, pu, R1, rr, st, h, hk⟩ := h
  unfold mthW at h
  split at h <;> first | exact (absurd ‹Mth.index = _› (by decide)) | skip
  · obtain ⟨x1, y1, nw, nw', e1, rfl, r1, r2⟩ := rr.two
    simp only [List.cons.injEq] at e1
    obtain ⟨rfl, rfl⟩ := e1
    have R2 : Rel X.K B Hs2 H2 σ sl2 ((tp ++ nw) ++ nw') := by simpa using R1
    split at h
    · rename_i ys y hy1 hy2
      obtain ⟨fy, fys, h⟩ := h
      split at h
      · rename_i j hj
        have d1 := r1.dp R2.drop hy1
        have d2 := r2.dp R2 hy2
        cases d1 with
        | lst hr ha =>
          obtain ⟨⟨z, hz, hzz⟩, hno⟩ := findIdx_of d2 fy ha fys hj
          exact mt_index pins s σ' H2 _ _ v us0 Q I rx rxs ⟨_, _, y1, j, z, rfl, rfl, hr, (d2.eqV d2 fy fy).2.1, all_flat ha fys, hz, hzz, hno, Cont.leaf hk R2.drop.drop (.int _) st h⟩
      · exact h.elim
    · exact h.elim
  all_goals first | exact h.elim | skip
def rCount (K : PySem.W.Frag) : V → List V → Hp → VK → Prop := fun x xs H Q => ∃ (a : Addr) (ys : List V) (y : V), x = V.ref a ∧ xs = [y] ∧ SqL K H a ys ∧ flatV y = true ∧ ys.all flatV = true ∧ Q (.int ((ys.countP fun z => eqV z y : Nat) : Int)) H
theorem countP_eqU {x : V} : ∀ {xs : List V} {us : List Value}, Vals xs us → xs.all flatV = true → us.countP (eqU x) = xs.countP fun y => eqV y x
  | _, _, .nil, _ => rfl
  | _, _, .cons r t, f => by
    simp only [List.all_cons, Bool.and_eq_true] at f
    rw [List.countP_cons, List.countP_cons, countP_eqU t f.2, eqU_of r f.1]
theorem mt_count : MtR X "list.count" (rCount X.K) := by
  intro pins s σ H x xs v us Q I rx rxs h
  obtain ⟨a, ys, y, rfl, rfl, hs, fy, fys, q⟩ := h
  cases rx
  cases rxs with
  | cons ry rt =>
    rename_i uy ut
    cases rt
    obtain ⟨its, rv, ⟨⟨cls, dd, data, sl⟩, n, ho, hc, hdn, hd⟩, hlen⟩ := I.list hs
    simp only at hc hd
    subst hc hd
    refine call_meets PySem.F.slot_list_count ⟨_, ho, rfl⟩ PySem.F.entry_list_count (PySem.F.args_list_count_2 _ _)
      (SeqAt.list_countAt a its.toArray n dd sl uy (eqU y)) ⟨ho, fun u' hu' => mem_eqAt ry fy rv fys u' (by simpa using hu'), ?_⟩
    refine ⟨.int ((ys.countP fun z => eqV z y : Nat) : Int), H, I.tok _, ⟨s.toks, ?_⟩, q⟩
    rw [show its.toArray.toList = its from rfl, countP_eqU rv fys]
theorem countP_of {K : PySem.W.Frag} {H : Hp} {w : V} {y : PyData} (hy : Rp K H w y) (fy : flatD y = true) : ∀ {vs : List V} {ys : List PyData}, RpAll K H vs ys → ys.all flatD = true → (vs.countP fun z => eqV z w) = ys.countP fun z => PyData.eqv z y
  | _, _, .nil, _ => rfl
  | _, _, .cons a b, f => by
    simp only [List.all_cons, Bool.and_eq_true] at f
    rw [List.countP_cons, List.countP_cons, countP_of hy fy b f.2, (a.eqV hy f.1 fy).1]
theorem mt_count_W : MtR X "list.count" (MtW X .count) := by
  intro pins s σ' H2 x xs v us0 Q I rx rxs h
  obtain ⟨σ, B, Hs2, sl2, tp, nws, rs, P, H, sl, pu, R1, rr, st, h, hk⟩ := h
  unfold mthW at h
  split at h <;> first | exact (absurd ‹Mth.count = _› (by decide)) | skip
  · obtain ⟨x1, y1, nw, nw', e1, rfl, r1, r2⟩ := rr.two
    simp only [List.cons.injEq] at e1
    obtain ⟨rfl, rfl⟩ := e1
    have R2 : Rel X.K B Hs2 H2 σ sl2 ((tp ++ nw) ++ nw') := by simpa using R1
    split at h
    · rename_i ys y hy1 hy2
      obtain ⟨fy, fys, h⟩ := h
      have d1 := r1.dp R2.drop hy1
      have d2 := r2.dp R2 hy2
      cases d1 with
      | lst hr ha =>
        refine mt_count pins s σ' H2 _ _ v us0 Q I rx rxs ⟨_, _, y1, rfl, rfl, hr, (d2.eqV d2 fy fy).2.1, all_flat ha fys, ?_⟩
        rw [countP_of d2 fy ha fys]
        exact Cont.leaf hk R2.drop.drop (.int _) st h
    · exact h.elim
  all_goals first | exact h.elim | skip
theorem dropLast_setLast {α : Type} (l : List α) (x : α) : (l.set (l.length - 1) x).dropLast = l.dropLast := by
  rw [List.dropLast_eq_take, List.dropLast_eq_take, List.length_set]
  apply List.ext_getElem?
  intro j
  rw [List.getElem?_take, List.getElem?_take]
  split
  · rename_i hj
    rw [List.getElem?_set_ne (by omega)]
  · rfl
theorem putS_putS {σ : St} {i : Nat} {q : List Nat} {t c : T} {u w : T} (h1 : σ[i]? = some t) (h2 : t.at q = some c) : putS (putS σ i q u) i q w = putS σ i q w := by
  unfold putS
  rw [h1]
  simp only
  rw [List.getElem?_set_self (List.getElem?_eq_some_iff.mp h1).1]
  simp only
  rw [List.set_set, T.put_put _ _ q t c h2]
theorem mt_pop_W : MtR X "list.pop" (MtW X .pop) := by
  intro pins s σ' H2 x xs v us0 Q I rx rxs h
  obtain ⟨σ, B, Hs2, sl2, tp, nws, rs, P, H, sl, pu, R1, rr, st, h, hk⟩ := h
  unfold mthW at h
  split at h <;> first | exact (absurd ‹Mth.pop = _› (by decide)) | skip
  · obtain ⟨hpu, h⟩ := h
    subst hpu
    obtain ⟨x1, nw, e1, rfl, r1⟩ := rr.one
    simp only [List.cons.injEq] at e1
    obtain ⟨rfl, rfl⟩ := e1
    obtain ⟨i, q, t, a, us, rfl, hnw, h1, h2, rfl, hP⟩ := atList_ok r1.weak h
    subst hnw
    have R1' : Rel X.K B Hs2 H2 σ sl2 tp := by simpa using R1
    obtain ⟨n1, o1, a1⟩ := slot_noTupl R1' h1 h2
    rw [tl_len, tl_get] at hP
    cases hc : us[us.length - 1]? with
    | none => rw [hc] at hP; exact hP.elim
    | some c =>
      rw [hc] at hP
      simp only [Option.map_some] at hP
      obtain ⟨hcd, hP⟩ := hP
      have hi : i < sl2.length := (List.getElem?_eq_some_iff.mp h1).1
      have R2 := R1'.out1 h1 (TA.at_snoc hc q t h2)
      rw [TA.put_snoc _ hc q t h2] at R2
      generalize hus1 : us.set (us.length - 1) (TA.dead c.v) = us1 at R2
      generalize ht1 : t.put (.nd .list a us1) q = t1 at R2
      have g1 : (sl2.set i t1)[i]? = some t1 := List.getElem?_set_self hi
      have g2 : t1.at q = some (.nd .list a us1) := by rw [← ht1]; exact TA.put_at_self _ q t _ h2
      obtain ⟨n2, o2, a2⟩ := slot_noTupl R2 g1 g2
      have e0 : us1.dropLast = us.dropLast := by rw [← hus1]; exact dropLast_setLast us _
      have sub : us1.dropLast.Sublist us1 := List.dropLast_sublist _
      have uq1 : (TA.fpl us1).Nodup := by
        obtain ⟨l1, l2, el, _⟩ := TA.lens q t1 _ g2
        have := R2.slot_uq g1
        rw [el] at this
        have := (nodup_mid this).2.1
        rw [TA.fp] at this
        exact (List.nodup_cons.mp this).2
      obtain ⟨R3, e3⟩ := Rel.chg (tp := tp ++ [c]) (xs := []) (us' := us1.dropLast) (by simpa using R2) g1 g2 (TA.okl_all.mpr fun z hz => TA.okl_all.mp o2 z (sub.subset hz)) (fun z hz => .inl ((fpl_sub sub).subset hz)) ((fpl_sub sub).nodup uq1) (TA.noTupl_all.mpr fun z hz => TA.noTupl_all.mp n2 z (sub.subset hz))
      refine mt_pop pins s σ' H2 _ _ v us0 Q I rx rxs ⟨a, _, c.v, rfl, rfl, a1, by rw [List.length_map, List.getElem?_map, hc]; rfl, ?_⟩
      rw [e0] at R3 e3
      rw [List.map_dropLast] at R3
      have hcd' : c.isDead = false := by rw [← TA.isDead_t]; exact hcd
      refine hk (.v c.t) c.v Hs2 _ _ [c] R3 ⟨c, rfl, rfl, rfl, hcd'⟩ (st.trans (pu' := false) ⟨fun z => (by cases z), fun j u hu hud => ?_⟩ id) ?_
      · have hlive : ∃ u', (sl2.set i t1)[j]? = some u' ∧ u'.isDead = false := by
          rw [← ht1]
          exact chg_live h1 h2 rfl j u hu hud
        obtain ⟨u', k1, k2⟩ := hlive
        exact chg_live g1 g2 rfl j u' k1 k2
      · have e4 : TA.tl (sl2.set i t1) = putS (TA.tl sl2) i q (.nd .list (TA.tl us1)) := by rw [← ht1, tl_putS h1, TA.t]
        rw [e3, e4, putS_putS (t := t.t) (c := .nd .list (TA.tl us)) (by rw [tl_get, h1]; rfl) (by rw [TA.at_t, h2, Option.map_some, TA.t])]
        have e5 : TA.tl us.dropLast = (TA.tl us).dropLast := by rw [TA.tl_map, TA.tl_map, List.map_dropLast]
        rw [e5]
        exact hP
  all_goals first | exact h.elim | skip
theorem mt_W (m : Mth) : MtR X (mthId m) (MtW X m) := by
  cases m with
  | append => exact mt_append_W
  | insert => exact mt_insert_W
  | extend => exact mt_extend_W
  | pop => exact mt_pop_W
  | clear => exact mt_clear_W
  | reverse => exact mt_reverse_W
  | index => exact mt_index_W
  | count => exact mt_count_W
theorem mth_slot (m : Mth) : Slot "list" (mthNm m) (mthId m) ∧ typeOf (.builtin (mthId m)) = pure (.type "method_descriptor") := by
  cases m with
  | append => exact ⟨PySem.F.slot_list_append, PySem.F.type_list_append⟩
  | insert => exact ⟨PySem.F.slot_list_insert, PySem.F.type_list_insert⟩
  | extend => exact ⟨PySem.F.slot_list_extend, PySem.F.type_list_extend⟩
  | pop => exact ⟨PySem.F.slot_list_pop, PySem.F.type_list_pop⟩
  | clear => exact ⟨PySem.F.slot_list_clear, PySem.F.type_list_clear⟩
  | reverse => exact ⟨PySem.F.slot_list_reverse, PySem.F.type_list_reverse⟩
  | index => exact ⟨PySem.F.slot_list_index, PySem.F.type_list_index⟩
  | count => exact ⟨PySem.F.slot_list_count, PySem.F.type_list_count⟩
theorem le_mth {m : Mth} {eo : Expr} {o : E} {nm : Str} {ap cp : Pos} (hnm : nm = mthNm m) (hno : noCall eo = true) (hline : (ap.endLine == cp.line) = true) (hlen : es.length < 20) (hst : es.all noStar = true) (ho : PEc X Γ eo o) (h : PAc X Γ es cs) (hcs : es = [] → cs = []) : PE X (.Call (.Attribute eo nm ap) es [] cp) (LE X Γ.pin pu (wE Γ pu (.mth m o cs))) := by
  subst hnm
  obtain ⟨sl1, ty1⟩ := mth_slot m
  refine ⟨fun pins s σ H Q I hw => ?_⟩
  obtain ⟨B, Hs, sl, tp, P, R0, hw, hk⟩ := hw
  rw [wE] at hw
  have tyl : ∀ {ro : R} {v : V} {Hs1 H1 : Hp} {sl1 nw1 : List TA}, Rel X.K ⟨B, Γ.pin⟩ Hs1 H1 σ sl1 (tp ++ nw1) → RR ro v sl1 nw1 → mtyW m ro (TA.tl sl1) → tyV X.K "list" v H1 := by
    intro ro v Hs1 H1 sl1 nw1 R1 rr1 hm
    unfold mtyW at hm
    split at hm
    · rename_i ts e
      obtain ⟨a, us, rfl, _, e4, _⟩ := rr1.node R1 e
      exact .inl ⟨rfl, _, SqL.of e4⟩
    · rename_i xs e
      have d := (rr1.dpT R1 e).2
      cases d with
      | lst hr ha => exact .inl ⟨rfl, _, hr⟩
    · exact hm.elim
  cases es with
  | nil =>
    have hcs := hcs rfl
    subst hcs
    refine (pe_bm0 PySem.F.plainAttrs_list sl1 ty1 (mt_W m) (ho pu) (base_of hno) hline).run pins s σ H Q I ⟨B, Hs, sl, tp, _, R0, hw, fun ro v Hs1 H1 sl1 nw1 R1 rr1 st1 p1 => ⟨tyl R1 rr1 p1.1, ?_⟩⟩
    have p2 := p1.2
    rw [wA] at p2
    exact ⟨σ, ⟨B, Γ.pin⟩, Hs1, sl1, tp, [nw1], [ro], P, H, sl, pu, by simpa using R1, .cons rr1 .nil, st1, p2, hk⟩
  | cons e es =>
    simp only [List.all_cons, Bool.and_eq_true] at hst
    have hall : (e :: es).all noStar = true := by simp only [List.all_cons, Bool.and_eq_true]; exact hst
    have ta : PA X (e :: es) (fun σ' H1 Q' => ∃ pu', LA X Γ.pin pu' (wA Γ pu' cs) σ' H1 Q') := ⟨fun pos pins s σ H Q I ⟨pu', h'⟩ => (h pu').run pos pins s σ H Q I h'⟩
    refine (pe_bm PySem.F.plainAttrs_list sl1 ty1 (mt_W m) (ho pu) ta (base_of hno) (by rw [stars_all hall]; simp only [Bool.true_and, Bool.and_eq_true, decide_eq_true_eq]; exact ⟨rfl, by simp only [List.length_nil, List.isEmpty_nil, if_true]; omega⟩) hline (star_of hst.1) (stars_of hst.2)).run pins s σ H Q I ⟨B, Hs, sl, tp, _, R0, hw, fun ro v Hs1 H1 sl1 nw1 R1 rr1 st1 p1 => ⟨tyl R1 rr1 p1.1, pu || !ro.top, B, Hs1, sl1, tp ++ nw1, _, R1, p1.2, fun rs vs Hs2 H2 sl2 nws R2 rrs st2 p2 => ?_⟩⟩
    refine ⟨σ, ⟨B, Γ.pin⟩, Hs2, sl2, tp, nw1 :: nws, ro :: rs, P, H, sl, pu, by rw [List.flatten_cons, ← List.append_assoc]; exact R2, .cons (rr1.stay R1 R2 st2 (fun z => by rw [z]; simp)) rrs, st1.trans st2 (fun z => by rw [z]; rfl), p2, hk⟩
theorem le_sl {lo hi : Bool} {eo : Expr} {o : E} {l h : Option Expr} {p2 : Pos} (ho : PEc X Γ eo o)
    (hp : (l = none ∧ h = none ∧ lo = false ∧ hi = false ∧ cs = []) ∨ (∃ el c, l = some el ∧ h = none ∧ lo = true ∧ hi = false ∧ cs = [c] ∧ PEc X Γ el c) ∨ (∃ eh c, l = none ∧ h = some eh ∧ lo = false ∧ hi = true ∧ cs = [c] ∧ PEc X Γ eh c) ∨
      (∃ el eh c c', l = some el ∧ h = some eh ∧ lo = true ∧ hi = true ∧ cs = [c, c'] ∧ PEc X Γ el c ∧ PEc X Γ eh c')) : PE X (.Subscript eo (.Slice l h none p2) pos) (LE X Γ.pin pu (wE Γ pu (.sl lo hi o cs))) := by
  refine ⟨fun pins s σ H Q I hw => ?_⟩
  obtain ⟨B, Hs, sl, tp, P, R0, hw, hk⟩ := hw
  rw [wE] at hw
  have ex : ∀ {e : Expr} {c : E}, PEc X Γ e c → PE X e (fun σ' H1 Q' => ∃ pu', LE X Γ.pin pu' (wE Γ pu' c) σ' H1 Q') := fun h => ⟨fun pins s σ H Q I ⟨pu', h'⟩ => (h pu').run pins s σ H Q I h'⟩
  rcases hp with ⟨rfl, rfl, rfl, rfl, rfl⟩ | ⟨el, c, rfl, rfl, rfl, rfl, rfl, hl⟩ | ⟨eh, c, rfl, rfl, rfl, rfl, rfl, hh⟩ | ⟨el, eh, c, c', rfl, rfl, rfl, rfl, rfl, hl, hh⟩
  · refine (pe_slice sl_W (ho pu) po_none po_none).run pins s σ H Q I ⟨B, Hs, sl, tp, _, R0, hw, fun ro v Hs1 H1 sl1 nw1 R1 rr1 st1 p1 => ?_⟩
    rw [wN] at p1
    exact ⟨σ, ⟨B, Γ.pin⟩, Hs1, sl1, tp, nw1, ro, P, H, sl, pu, R1, rr1, st1, p1, hk⟩
  · refine (pe_slice sl_W (ho pu) (po_some (ex hl)) po_none).run pins s σ H Q I ⟨B, Hs, sl, tp, _, R0, hw, fun ro v Hs1 H1 sl1 nw1 R1 rr1 st1 p1 => ?_⟩
    rw [wN] at p1
    refine ⟨pu || !ro.top, B, Hs1, sl1, tp ++ nw1, _, R1, p1, fun r2 v2 Hs2 H2 sl2 nw2 R2 rr2 st2 p2 => ?_⟩
    split at p2
    · rename_i i e
      rw [wN] at p2
      exact ⟨i, (rr2.dpT R2 e).2.int_v, σ, ⟨B, Γ.pin⟩, Hs2, sl2, tp, nw1, ro, P, H, sl, pu, R2.drop, rr1.stay R1 R2 st2 (fun z => by rw [z]; simp), st1.trans st2 (fun z => by rw [z]; rfl), p2, hk⟩
    · exact p2.elim
  · refine (pe_slice sl_W (ho pu) po_none (po_some (ex hh))).run pins s σ H Q I ⟨B, Hs, sl, tp, _, R0, hw, fun ro v Hs1 H1 sl1 nw1 R1 rr1 st1 p1 => ?_⟩
    rw [wN] at p1
    refine ⟨pu || !ro.top, B, Hs1, sl1, tp ++ nw1, _, R1, p1, fun r2 v2 Hs2 H2 sl2 nw2 R2 rr2 st2 p2 => ?_⟩
    split at p2
    · rename_i i e
      rw [wN] at p2
      exact ⟨i, (rr2.dpT R2 e).2.int_v, σ, ⟨B, Γ.pin⟩, Hs2, sl2, tp, nw1, ro, P, H, sl, pu, R2.drop, rr1.stay R1 R2 st2 (fun z => by rw [z]; simp), st1.trans st2 (fun z => by rw [z]; rfl), p2, hk⟩
    · exact p2.elim
  · refine (pe_slice sl_W (ho pu) (po_some (ex hl)) (po_some (ex hh))).run pins s σ H Q I ⟨B, Hs, sl, tp, _, R0, hw, fun ro v Hs1 H1 sl1 nw1 R1 rr1 st1 p1 => ?_⟩
    rw [wN] at p1
    refine ⟨pu || !ro.top, B, Hs1, sl1, tp ++ nw1, _, R1, p1, fun r2 v2 Hs2 H2 sl2 nw2 R2 rr2 st2 p2 => ?_⟩
    split at p2
    · rename_i i e
      rw [wN] at p2
      refine ⟨i, (rr2.dpT R2 e).2.int_v, pu || !ro.top, B, Hs2, sl2, tp ++ nw1, _, R2.drop, p2, fun r3 v3 Hs3 H3 sl3 nw3 R3 rr3 st3 p3 => ?_⟩
      split at p3
      · rename_i j e3
        rw [wN] at p3
        have rr1' := (rr1.stay R1 R2 st2 (fun z => by rw [z]; simp)).stay R2.drop R3 st3 (fun z => by rw [z]; simp)
        exact ⟨j, (rr3.dpT R3 e3).2.int_v, σ, ⟨B, Γ.pin⟩, Hs3, sl3, tp, nw1, ro, P, H, sl, pu, R3.drop, rr1', (st1.trans st2 (fun z => by rw [z]; rfl)).trans st3 (fun z => by rw [z]; rfl), p3, hk⟩
      · exact p3.elim
    · exact p2.elim
end
end VL
namespace VL
open PySem PySem.Spec PyProof.Rows L2
open AutoSeq1 (wpAny_loadPart')
theorem meets_enumerate_newT (l : Addr) (items : Array Value) (n : Nat) (dct : Option Addr) (sl : Array (Option Value)) :
    Meets (Builtin.«enumerate.__new__» ⟨[.type "enumerate", .ref l], []⟩) (fun _ R s => s.heap.get? l = some { cls := .type "tuple", dict := dct, data := .seq items n, slots := sl } ∧
      R (.ok (.ret (.ref (s.heap.push { cls := .type "tuple_iterator", data := .fields #[.ref l, .int 0 0] }).objs.size)))
        { s with heap := (s.heap.push { cls := .type "tuple_iterator", data := .fields #[.ref l, .int 0 0] }).push { cls := .type "enumerate", data := .fields #[.none, .bool false, .ref s.heap.objs.size, rawInt 0, .none, .none] } }) :=
  .of_wp fun prog w A R s h => by
    obtain ⟨hp, g, d, tk, os⟩ := s; obtain ⟨hl, h⟩ := h
    have hsub := sub_enumerate
    have hL : Heap.IsTuple (Shared.heap ⟨hp, g, d, tk, os⟩) l items := ⟨_, hl, rfl, n, rfl⟩
    wp_walk using wpAny_loadPart' hl
    refine wpAny_stack_any fun st => wpAny_pure ?_
    split
    · rename_i c _ _ _ _ _
      cases (c == Value.type "enumerate")
      · wp_walk using wpAny_loadPart' hl, wpAny_pyIter_tuple hL
        exact ⟨_, rfl, h⟩
      · wp_walk using wpAny_loadPart' hl, wpAny_pyIter_tuple hL
        exact ⟨_, rfl, h⟩
    · wp_walk using wpAny_loadPart' hl, wpAny_pyIter_tuple hL
      exact ⟨_, rfl, h⟩
section
variable {prog : Program} {w : World} {A : Around} {E : Value → Shared → Prop} {s : Shared}
theorem call_enumerate_tuple {l : Addr} {items : Array Value} {Q : Value → Shared → Prop} (hL : s.heap.IsTuple l items)
    (h : ∀ h', IsEnum h' (s.heap.objs.size + 1) s.heap.objs.size 0 .none → h'.IsTupleIter s.heap.objs.size l 0 → h'.objs.size = s.heap.objs.size + 2 →
      (∀ b o, s.heap.get? b = some o → h'.get? b = some o) → Q (.ref (s.heap.objs.size + 1)) { s with heap := h' }) :
    wpAny (model prog w) A (call (.type "enumerate") [.ref l]) Q E s := by
  obtain ⟨⟨c, dct, dt, sl⟩, hl, hc, n, hd⟩ := hL
  replace hc : c = .type "tuple" := hc
  replace hd : dt = .seq items n := hd
  subst hc hd
  refine callType_new F.called_enumerate (by decide) (F.typeCall_enumerate_1 _) (F.newCall_enumerate_1 _) (fun obj => F.args_object_init_2 obj _) F.entry_enumerate_new
    (meets_enumerate_newT l items n dct sl) ⟨hl, ?_⟩
  have hz : (s.heap.push { cls := .type "tuple_iterator", data := .fields #[.ref l, .int 0 0] }).objs.size = s.heap.objs.size + 1 := Heap.size_push ..
  show _ ∧ _
  rw [hz]
  have he : IsEnum ((s.heap.push { cls := .type "tuple_iterator", data := .fields #[.ref l, .int 0 0] }).push
      { cls := .type "enumerate", data := .fields #[.none, .bool false, .ref s.heap.objs.size, rawInt 0, .none, .none] }) (s.heap.objs.size + 1) s.heap.objs.size 0 .none := by
    have := Heap.get?_push_size (s.heap.push { cls := .type "tuple_iterator", data := .fields #[.ref l, .int 0 0] })
      (o := { cls := .type "enumerate", data := .fields #[.none, .bool false, .ref s.heap.objs.size, rawInt 0, .none, .none] }) rfl
    rw [hz] at this; exact this
  refine ⟨⟨_, he, rfl⟩, h _ he ⟨_, Heap.get?_push_of_some _ (Heap.get?_push_size _ rfl), rfl, rfl⟩ (by rw [Heap.size_push, hz]) fun b o x => Heap.get?_push_of_some _ (Heap.get?_push_of_some _ x)⟩
theorem enum_endT {e it l : Addr} {i : Nat} {items : Array Value} {old : Value} {Q : Option Value → Shared → Prop} (hh : A.handled = none)
    (he : IsEnum s.heap e it i old) (hit : s.heap.IsTupleIter it l i) (hl : s.heap.IsTuple l items) (hx : items[i]? = none)
    (hQ : ∀ h', Heap.ExtBut it s.heap h' → Q none { s with heap := h' }) : wpAny (model prog w) A (pyNext (.ref e)) Q E s := by
  have hT : s.TypeIs (.ref e) "enumerate" := ⟨_, he, rfl⟩
  unfold pyNext
  refine wpAny_bind (wpAny_attempt (wpAny_callSpecial?_slot (name := Str.ofString "__next__") hT F.slot_enumerate_next
    (wpAny_call_entry F.slot_enumerate_next hT F.entry_enumerate_next ?_ (F.args_enumerate_next_1 _))))
  show wpAny _ _ (field (.ref e) 2 >>= _) _ _ _
  refine wpAny_bind (wpAny_field he rfl (x := .ref it) rfl ?_)
  refine wpAny_bind (RZ.nextOf_tuple_end hh hit hl hx fun h' x he' hx' => ?_)
  obtain ⟨o, ho, hc⟩ := hx'
  refine wpAny_bind (wpAny_isInstance (T := "StopIteration") (b := true) ⟨o, ho, hc⟩ isSubtype_stop ?_)
  exact wpAny_pure (hQ _ he')
end
/-- the tuple at a, each item in a new pair -/
def IteT (K : PySem.W.Frag) (a : Addr) : It :=
  ⟨fun i H => ∃ (xs : List V) (x : V), SqT K H a xs ∧ xs[i]? = some x, fun i H v H' => ∃ T x, v = .ref T ∧ H T = none ∧ H' = upd H T (.tup [.int (i : Nat), x]) ∧ ∀ xs, SqT K H a xs → xs[i]? = some x, fun i H => ∃ xs : List V, SqT K H a xs ∧ xs.length ≤ i⟩
theorem turn_enumT {P : Program} {w : World} {K : PySem.W.Frag} {elts : List Expr} {kk : Nat} {tpos : Pos} (a e it : Addr) :
    Turn P w K (.Tuple elts kk tpos) (IteT K a) [e, it] e (fun i h => (∃ old, IsEnum h e it ((i : Nat) : Int) old) ∧ h.IsTupleIter it a i ∧ e ≠ it ∧ a ≠ e ∧ a ≠ it) where
  mem := by simp
  obj := fun i h st b hb => by
    obtain ⟨⟨old, he⟩, ⟨o, ho, hc, hd⟩, _⟩ := st
    have e' : b = e ∨ b = it := by simpa using hb
    rcases e' with z | z
    · rw [z]; exact ⟨_, he, fun v q => nomatch q⟩
    · rw [z]; exact ⟨o, ho, fun v q => by rw [hd] at q; cases q⟩
  keep := fun i h h' st k => let ⟨⟨old, he⟩, hi, hne⟩ := st; ⟨⟨old, k e (by simp) _ he⟩, hi.at fun o q => k it (by simp) o q, hne⟩
  item := by
    intro X hP hw hK hc i pins s σ H E I hf st hg
    subst hP hw hK
    obtain ⟨⟨old, he⟩, hit, hne, hae, hai⟩ := st
    obtain ⟨xs, x, hq, hx⟩ := hg
    obtain ⟨its, rv, p, hz⟩ := I.tuple hq
    obtain ⟨u, hu, ru⟩ := rv.get hx
    have p : s.heap.IsTuple a its.toArray := p
    have hel : e < s.heap.objs.size := Heap.lt_size he
    have hil : it < s.heap.objs.size := by obtain ⟨_, q, _⟩ := hit; exact Heap.lt_size q
    have hui : its.toArray[i]? = some u := by simpa using hu
    have hlt : i < its.toArray.size := (Array.getElem?_eq_some_iff.mp hui).1
    refine wpAny_pyNext_enum_itemD (Draws.tuple (A := X.A.in1) (show X.A.in1.handled = none from I.ok.hd hc) it a hai its.toArray) he ⟨hit, p⟩ hlt hne (by simp [hne, Ne.symm hae]) fun x' h' tk hx' ho st' hT hsz hk => ?_
    have ex : x' = u := Option.some.inj (hx'.symm.trans hui)
    subst ex
    refine ⟨_, rfl, wpAny_letOwnedTupleGo_enum (s := { s with heap := h', toks := tk + 1 }) ho fun h'' he' sb => ?_⟩
    have hT2 : h''.get? s.heap.objs.size = some { cls := .type "tuple", data := .seq #[.int i tk, x'] } := (sb.2 _ (Nat.ne_of_gt hel)).trans hT
    have new : ObjOk X.prog X.w (upd H s.heap.objs.size (.tup [.int (i : Nat), x])) h'' s.heap.objs.size (.tup [.int (i : Nat), x]) :=
      ⟨by show 2 ≤ sizeLine; decide, [.int i tk, x'], .cons ⟨_, rfl⟩ (.cons ru .nil), ⟨_, hT2, rfl, _, rfl⟩⟩
    have I1 : Inv X pins σ (upd H s.heap.objs.size (.tup [.int (i : Nat), x])) { s with heap := h'', toks := tk + 1 } :=
      I.turnedNew (ch := [e, it]) (fun b ob hb q => (sb.2 b (fun z => hb (by simp [z]))).trans (hk b ob (fun z => hb (by simp [z])) (fun z => hb (by simp [z])) q)) hf (Nat.le_refl _) new
    refine ⟨.ref s.heap.objs.size, _, I1, rfl, ⟨_, x, rfl, I.hok.fresh (Nat.le_refl _), rfl, fun ys hy => by rw [I.tuple_inj hy hq]; exact hx⟩, ⟨⟨x', ?_⟩, st'.1.at fun o q => (sb.2 it (Ne.symm hne)).trans q, hne, hae, hai⟩, fun b hb => ?_⟩
    · have e1 : ((i + 1 : Nat) : Int) = (i : Int) + 1 := by omega
      rw [e1]; exact he'
    · have hb' : b < s.heap.objs.size := by
        have e' : b = e ∨ b = it := by simpa using hb
        rcases e' with z | z
        · rw [z]; exact hel
        · rw [z]; exact hil
      rw [upd_ne (Nat.ne_of_lt hb')]
      exact (hf b hb).1
  done := by
    intro X hP hw hK hc i pins s σ H E I hf st hg
    subst hP hw hK
    obtain ⟨⟨old, he⟩, hit, hne, _⟩ := st
    obtain ⟨xs, hq, hx⟩ := hg
    obtain ⟨its, rv, p, hz⟩ := I.tuple hq
    obtain ⟨f0, f1, f2, f3, f4, f5⟩ := hf it (by simp)
    have hl := rv.length
    exact enum_endT (I.ok.hd hc) he hit (show s.heap.IsTuple a its.toArray from p) (by simp; omega) fun h' eb => ⟨rfl, I.turned (t' := s.toks) (fun b o hb q => eb b o hb q) f0 f1 f3 f4 f5⟩
  self := fun A i s Q E st h => let ⟨⟨_, he⟩, _⟩ := st; wpAny_pyIter_enum he h
def iEnum2 (K : PySem.W.Frag) (ta : L2.TA) : TI := fun σ H R => ta σ H fun vs H1 => ∃ a xs, vs = [.ref a] ∧ ((SqL K H1 a xs ∧ R (Ite K a) H1) ∨ (SqT K H1 a xs ∧ R (IteT K a) H1))
theorem pi_enum2 {X : Cx} {e : Expr} {ta : L2.TA} {p pos tpos : Pos} {elts : List Expr} {kk : Nat} (hg : Gl X "enumerate") (hm : X.mg "enumerate" = none) (ha : PA X [e] ta) (hs : starEach [e] X.env = [(false, eval e X.env)] := by rfl) :
    PI X (.Tuple elts kk tpos) (.Call (.Name "enumerate" p) [e] [] pos) (iEnum2 X.K ta) := by
  refine ⟨fun pins s σ H R I h => ?_⟩
  refine Call_ (ld_blt I hg hm boot_enumerate (PyProof.Rows.callWith_type1 (thn (ha.run pos pins s σ H _ I h) fun us s1 ⟨vs, H1, I1, r1, q1⟩ => ?_) hs rfl))
  obtain ⟨a, xs, ex, q1⟩ := q1
  subst ex
  cases r1 with
  | cons r rr =>
    cases rr
    cases r
    rcases q1 with ⟨hq, q⟩ | ⟨hq, q⟩
    · obtain ⟨its, rv, p', hz⟩ := I1.list hq
      refine call_enumerate_list p'.isList fun h' he hit hsz hk => wpAny_pyIter_enum he ?_
      have I2 : Inv X pins σ H1 { s1 with heap := h' } := I1.kept (t' := s1.toks) hk
      refine ⟨s1.heap.objs.size + 1, [s1.heap.objs.size + 1, s1.heap.objs.size], _, _, H1, rfl, I2, turn_enum a (s1.heap.objs.size + 1) s1.heap.objs.size, ⟨⟨.none, he⟩, hit, Nat.succ_ne_self _⟩, fun b hb => ?_, q⟩
      have e' : b = s1.heap.objs.size + 1 ∨ b = s1.heap.objs.size := by simpa using hb
      have hle : s1.heap.objs.size ≤ b := by
        rcases e' with z | z
        · rw [z]; exact Nat.le_add_right _ _
        · rw [z]; exact Nat.le_refl _
      exact I1.fpOk hle (I1.hok.fresh hle)
    · obtain ⟨its, rv, p', hz⟩ := I1.tuple hq
      have p' : s1.heap.IsTuple a its.toArray := p'
      have hal : a < s1.heap.objs.size := by obtain ⟨o, q, _⟩ := p'; exact Heap.lt_size q
      refine call_enumerate_tuple p' fun h' he hit hsz hk => wpAny_pyIter_enum he ?_
      have I2 : Inv X pins σ H1 { s1 with heap := h' } := I1.kept (t' := s1.toks) hk
      refine ⟨s1.heap.objs.size + 1, [s1.heap.objs.size + 1, s1.heap.objs.size], _, _, H1, rfl, I2, turn_enumT a (s1.heap.objs.size + 1) s1.heap.objs.size, ⟨⟨.none, he⟩, hit, Nat.succ_ne_self _, Nat.ne_of_lt (Nat.lt_succ_of_lt hal), Nat.ne_of_lt hal⟩, fun b hb => ?_, q⟩
      have e' : b = s1.heap.objs.size + 1 ∨ b = s1.heap.objs.size := by simpa using hb
      have hle : s1.heap.objs.size ≤ b := by
        rcases e' with z | z
        · rw [z]; exact Nat.le_add_right _ _
        · rw [z]; exact Nat.le_refl _
      exact I1.fpOk hle (I1.hok.fresh hle)
end VL
namespace VL
open PySem PySem.Spec PyProof.Rows L2
structure Walk (K : PySem.W.Frag) (J : It) (xs : List PyData) (Hq Hsq : Hp) : Prop where
  go : ∀ i H Hs, Same Hq H → Same Hsq Hs → Same Hs H → i < xs.length → J.go i H
  stop : ∀ i H Hs, Same Hq H → Same Hsq Hs → Same Hs H → xs.length ≤ i → J.stop i H
  yld : ∀ i H Hs v H' x, Same Hq H → Same Hsq Hs → Same Hs H → xs[i]? = some x → J.yld i H v H' → ∃ Hs', Same Hs Hs' ∧ Rp K Hs' v x ∧ Same H H' ∧ ∀ B σ sl tp, Rel K B Hs H σ sl tp → Rel K B Hs' H' σ sl tp
def H00 : Hp := fun _ => none
theorem same00 {H : Hp} : Same H00 H := fun _ _ h => by cases h
section
variable {K : PySem.W.Frag} {a : Addr} {vs : List V} {xs : List PyData} {Hq Hsq : Hp}
theorem walk_list (sq : ∀ H Hs, Same Hq H → Same Hsq Hs → Same Hs H → SqL K H a vs) (ha : RpAll K Hsq vs xs) : Walk K (Itl K a) xs Hq Hsq where
  go := fun i H Hs h1 h2 h3 hi => by
    have hl := ha.length
    exact ⟨vs, vs[i], sq H Hs h1 h2 h3, by simp [hl, hi]⟩
  stop := fun i H Hs h1 h2 h3 hi => ⟨vs, sq H Hs h1 h2 h3, by rw [ha.length]; exact hi⟩
  yld := fun i H Hs v H' x h1 h2 h3 hx hy => by
    obtain ⟨rfl, hy⟩ := hy
    obtain ⟨w, hw, dw⟩ := ha.get hx
    have : v = w := Option.some.inj ((hy vs (sq _ _ h1 h2 h3)).symm.trans hw)
    subst this
    exact ⟨Hs, Same.refl _, dw.mono h2, Same.refl _, fun _ _ _ _ R => R⟩
theorem walk_tup (sq : SqT K Hsq a vs) (ha : RpAll K Hsq vs xs) : Walk K (Itt K a) xs Hq Hsq where
  go := fun i H Hs h1 h2 h3 hi => by
    have hl := ha.length
    exact ⟨vs, vs[i], SqT.mono h3 (SqT.mono h2 sq), by simp [hl, hi]⟩
  stop := fun i H Hs h1 h2 h3 hi => ⟨vs, SqT.mono h3 (SqT.mono h2 sq), by rw [ha.length]; exact hi⟩
  yld := fun i H Hs v H' x h1 h2 h3 hx hy => by
    obtain ⟨rfl, hy⟩ := hy
    obtain ⟨w, hw, dw⟩ := ha.get hx
    have : v = w := Option.some.inj ((hy vs (SqT.mono h3 (SqT.mono h2 sq))).symm.trans hw)
    subst this
    exact ⟨Hs, Same.refl _, dw.mono h2, Same.refl _, fun _ _ _ _ R => R⟩
theorem strIt_len (x : Str) : (strIt x).length = x.cps.size := by simp [strIt]
theorem walk_str (x : Str) : Walk K (Its x) (strIt x) Hq Hsq where
  go := fun i H Hs h1 h2 h3 hi => by rw [strIt_len] at hi; exact hi
  stop := fun i H Hs h1 h2 h3 hi => by rw [strIt_len] at hi; exact hi
  yld := fun i H Hs v H' y h1 h2 h3 hx hy => by
    obtain ⟨rfl, c, hc, rfl⟩ := hy
    refine ⟨Hs, fun _ _ z => z, ?_, fun _ _ z => z, fun _ _ _ _ R => R⟩
    rw [strIt, List.getElem?_map, Array.getElem?_toList, hc] at hx
    cases hx
    exact .str _
theorem walk_rng (lo : Int) (n : Nat) : Walk K (Itr lo n) (rngL lo n) Hq Hsq where
  go := fun i H Hs _ _ _ hi => by show i < n; simpa [rngL] using hi
  stop := fun i H Hs _ _ _ hi => by show n ≤ i; simpa [rngL] using hi
  yld := fun i H Hs v H' x h1 h2 h3 hx hy => by
    obtain ⟨rfl, rfl⟩ := hy
    simp only [rngL, List.getElem?_map, Option.map_eq_some_iff] at hx
    obtain ⟨j, hj, rfl⟩ := hx
    have hin : i < n := by simpa using (List.getElem?_eq_some_iff.mp hj).1
    have : j = i := by
      rw [List.getElem?_range hin] at hj
      exact (Option.some.inj hj).symm
    subst this
    exact ⟨Hs, Same.refl _, .int _, Same.refl _, fun _ _ _ _ R => R⟩
theorem walk_rngC (lo c : Int) (n : Nat) : Walk K (Itc lo c n) (rngC lo c n) Hq Hsq where
  go := fun i H Hs _ _ _ hi => by show i < n; simpa [rngC] using hi
  stop := fun i H Hs _ _ _ hi => by show n ≤ i; simpa [rngC] using hi
  yld := fun i H Hs v H' x h1 h2 h3 hx hy => by
    obtain ⟨rfl, rfl⟩ := hy
    simp only [rngC, List.getElem?_map, Option.map_eq_some_iff] at hx
    obtain ⟨j, hj, rfl⟩ := hx
    have hin : i < n := by simpa using (List.getElem?_eq_some_iff.mp hj).1
    have : j = i := by
      rw [List.getElem?_range hin] at hj
      exact (Option.some.inj hj).symm
    subst this
    exact ⟨Hs, Same.refl _, .int _, Same.refl _, fun _ _ _ _ R => R⟩
theorem walk_enum (sq : ∀ H Hs, Same Hq H → Same Hsq Hs → Same Hs H → SqL K H a vs) (ha : RpAll K Hsq vs xs) : Walk K (Ite K a) (enumL xs) Hq Hsq where
  go := fun i H Hs h1 h2 h3 hi => by
    have hl := ha.length
    have hi : i < xs.length := by simpa [enumL] using hi
    exact ⟨vs, vs[i], sq H Hs h1 h2 h3, by simp [hl, hi]⟩
  stop := fun i H Hs h1 h2 h3 hi => ⟨vs, sq H Hs h1 h2 h3, by rw [ha.length]; simpa [enumL] using hi⟩
  yld := fun i H Hs v H' x h1 h2 h3 hx hy => by
    obtain ⟨T0, y, rfl, hn, rfl, hy⟩ := hy
    have hi : i < xs.length := by
      have := (List.getElem?_eq_some_iff.mp hx).1
      simpa [enumL] using this
    have hxi : xs[i]? = some xs[i] := List.getElem?_eq_getElem hi
    obtain ⟨w, hw, dw⟩ := ha.get hxi
    have : y = w := Option.some.inj ((hy vs (sq _ _ h1 h2 h3)).symm.trans hw)
    subst this
    have ex : x = .tuple [.int (i : Nat), xs[i]] := by
      simp only [enumL, List.getElem?_map, List.getElem?_range hi, Option.map_some, Option.some.injEq] at hx
      rw [← hx]
      simp [List.getD, hxi]
    subst ex
    have hsn : Hs T0 = none := h3.free hn
    refine ⟨upd Hs T0 (.tup [.int (i : Nat), y]), same_upd hsn, .tup (SqT.of upd_same) (.cons (.int _) (.cons ((dw.mono h2).mono (same_upd hsn)) .nil)), same_upd hn, fun B σ sl tp R => R.allocF hn _⟩
theorem walk_enumT (sq : SqT K Hsq a vs) (ha : RpAll K Hsq vs xs) : Walk K (IteT K a) (enumL xs) Hq Hsq where
  go := fun i H Hs h1 h2 h3 hi => by
    have hl := ha.length
    have hi : i < xs.length := by simpa [enumL] using hi
    exact ⟨vs, vs[i], SqT.mono h3 (SqT.mono h2 sq), by simp [hl, hi]⟩
  stop := fun i H Hs h1 h2 h3 hi => ⟨vs, SqT.mono h3 (SqT.mono h2 sq), by rw [ha.length]; simpa [enumL] using hi⟩
  yld := fun i H Hs v H' x h1 h2 h3 hx hy => by
    obtain ⟨T0, y, rfl, hn, rfl, hy⟩ := hy
    have hi : i < xs.length := by
      have := (List.getElem?_eq_some_iff.mp hx).1
      simpa [enumL] using this
    have hxi : xs[i]? = some xs[i] := List.getElem?_eq_getElem hi
    obtain ⟨w, hw, dw⟩ := ha.get hxi
    have : y = w := Option.some.inj ((hy vs (SqT.mono h3 (SqT.mono h2 sq))).symm.trans hw)
    subst this
    have ex : x = .tuple [.int (i : Nat), xs[i]] := by
      simp only [enumL, List.getElem?_map, List.getElem?_range hi, Option.map_some, Option.some.injEq] at hx
      rw [← hx]
      simp [List.getD, hxi]
    subst ex
    have hsn : Hs T0 = none := h3.free hn
    refine ⟨upd Hs T0 (.tup [.int (i : Nat), y]), same_upd hsn, .tup (SqT.of upd_same) (.cons (.int _) (.cons ((dw.mono h2).mono (same_upd hsn)) .nil)), same_upd hn, fun B σ sl tp R => R.allocF hn _⟩
theorem walk_zip {a' : Addr} {ws : List V} {ys : List PyData} (hl : xs.length = ys.length) (sq : ∀ H Hs, Same Hq H → Same Hsq Hs → Same Hs H → SqL K H a vs) (ha : RpAll K Hsq vs xs)
    (sq' : ∀ H Hs, Same Hq H → Same Hsq Hs → Same Hs H → SqL K H a' ws) (ha' : RpAll K Hsq ws ys) : Walk K (Itz K a a') (zipL xs ys) Hq Hsq where
  go := fun i H Hs h1 h2 h3 hi => by
    have l1 := ha.length
    have l2 := ha'.length
    have hi : i < xs.length := by simpa [zipL] using hi
    exact ⟨vs, ws, vs[i], ws[i], sq H Hs h1 h2 h3, sq' H Hs h1 h2 h3, by simp [l1, hi], by simp [l2, ← hl, hi]⟩
  stop := fun i H Hs h1 h2 h3 hi => ⟨vs, ws, sq H Hs h1 h2 h3, sq' H Hs h1 h2 h3, .inl (by rw [ha.length]; simpa [zipL] using hi)⟩
  yld := fun i H Hs v H' x h1 h2 h3 hx hy => by
    obtain ⟨T0, y, y', rfl, hn, rfl, hy, hy'⟩ := hy
    have hi : i < xs.length := by
      have := (List.getElem?_eq_some_iff.mp hx).1
      simpa [zipL] using this
    have hxi : xs[i]? = some xs[i] := List.getElem?_eq_getElem hi
    have hi' : i < ys.length := by omega
    have hyi : ys[i]? = some ys[i] := List.getElem?_eq_getElem hi'
    obtain ⟨w, hw, dw⟩ := ha.get hxi
    obtain ⟨w', hw', dw'⟩ := ha'.get hyi
    have : y = w := Option.some.inj ((hy vs (sq _ _ h1 h2 h3)).symm.trans hw)
    subst this
    have : y' = w' := Option.some.inj ((hy' ws (sq' _ _ h1 h2 h3)).symm.trans hw')
    subst this
    have ex : x = .tuple [xs[i], ys[i]] := by
      simp only [zipL, List.getElem?_map, List.getElem?_range hi, Option.map_some, Option.some.injEq] at hx
      rw [← hx]
      simp [List.getD, hxi, hyi]
    subst ex
    have hsn : Hs T0 = none := h3.free hn
    refine ⟨upd Hs T0 (.tup [y, y']), same_upd hsn, .tup (SqT.of upd_same) (.cons ((dw.mono h2).mono (same_upd hsn)) (.cons ((dw'.mono h2).mono (same_upd hsn)) .nil)), same_upd hn, fun B σ sl tp R => R.allocF hn _⟩
end
section
variable {X : Cx} {Γ : Ctx} {b : Blk} {k : Nat} {pos : Pos} {ea eb ec tg : Expr} {es : List Expr} {cs : List E} {p q r : E} {pu bor : Bool}
/-- a heap without its tables -/
def noTb (H : Hp) : Hp := fun a => match H a with
  | some (.tbl _) => none
  | o => o
theorem noTb_of {H : Hp} {a : Addr} {o : HO} (h : H a = some o) (n : ∀ ps, o ≠ .tbl ps) : noTb H a = some o := by
  unfold noTb
  rw [h]
  cases o with
  | tbl ps => exact absurd rfl (n ps)
  | _ => rfl
theorem noTb_some {H : Hp} {a : Addr} {o : HO} (h : noTb H a = some o) : H a = some o ∧ ∀ ps, o ≠ .tbl ps := by
  unfold noTb at h
  cases e : H a with
  | none => rw [e] at h; cases h
  | some u =>
    rw [e] at h
    cases u with
    | tbl ps => cases h
    | _ => cases h; exact ⟨rfl, fun ps z => by cases z⟩
theorem noTb_same {H H' : Hp} (h : LamX.ExtN H H') : Same (noTb H) H' := fun a o e => h a o (noTb_some e).1 (noTb_some e).2
def hqOf (bor : Bool) (H : Hp) : Hp := if bor then noTb H else H00
/-- the items of a list, for a loop -/
theorem seq_ok {K : PySem.W.Frag} {B : Bs} {Hs H : Hp} {σ : L2.St} {sl tp nw : List TA} {r : R} {v : V} {Kk : List PyData → St → Prop} (R1 : Rel K B Hs H σ sl (tp ++ nw)) (rr : RR r v sl nw) (h : seqW pu bor r (TA.tl sl) Kk) :
    ∃ a vs xs Hs' sl', v = .ref a ∧ Rel K B Hs' H σ sl' tp ∧ Stp pu H H sl sl' ∧ (∀ H2 Hs2, Same (hqOf bor H) H2 → Same Hs' Hs2 → Same Hs2 H2 → SqL K H2 a vs) ∧ SqL K H a vs ∧ RpAll K Hs' vs xs ∧ Kk xs (TA.tl sl') := by
  unfold seqW at h
  split at h
  · rename_i xs e
    have d := (rr.dpT R1 e).1
    cases d with
    | lst hr ha => exact ⟨_, _, xs, Hs, sl, rfl, R1.drop, .refl, fun H2 Hs2 _ h2 h3 => SqL.mono h3 (SqL.mono h2 hr), SqL.mono R1.sub hr, ha, h⟩
  · rename_i ts e
    obtain ⟨a, us, rfl, e3, e4, e5, e6, e7⟩ := rr.node R1 e
    cases bor with
    | true =>
      simp only at h
      split at h
      · rename_i xs hl
        rw [← e3] at hl
        obtain ⟨f1, f2, f3⟩ := leaves_of hl
        exact ⟨a, _, xs, Hs, sl, rfl, R1.drop, .refl, fun H2 Hs2 h1 _ _ => SqL.of (h1 _ _ (noTb_of e4 fun ps z => by cases z)), SqL.of e4, f3 e5, h⟩
      · exact h.elim
    | false =>
      simp only at h
      split at h
      · rename_i xs hd
        cases r with
        | v t0 =>
          have hnw := e6 rfl
          subst hnw
          have hd' : (TA.nd .list a us).t.data = some (.list xs) := by rw [TA.t, e3]; exact hd
          have R2 := R1.frzT hd'
          have ok := TA.okl_append.mp R1.okT
          have dp : Rp K (frzH Hs H (TA.nd .list a us).fp) (.ref a) (.list xs) := by
            have := okl_one.mp (TA.okl_append.mp R2.okT).2
            rw [TA.ok] at this
            exact this
          cases dp with
          | lst hr ha => exact ⟨a, _, xs, _, sl, rfl, R2.drop, .refl, fun H2 Hs2 _ h2 h3 => SqL.mono h3 (SqL.mono h2 hr), SqL.mono R2.sub hr, ha, h⟩
        | p i q =>
          obtain ⟨hpu, h⟩ := h
          subst hpu
          obtain ⟨t, g1, g2⟩ := e7 i q rfl
          have hd' : (TA.nd .list a us).t.data = some (.list xs) := by rw [TA.t, e3]; exact hd
          have R1' : Rel K B Hs H σ sl tp := R1.drop
          obtain ⟨R2, dp⟩ := R1'.frzP g1 g2 rfl hd'
          cases dp with
          | lst hr ha =>
            refine ⟨a, _, xs, _, _, rfl, R2, ⟨fun z => (by cases z), frz_live g1 g2 rfl⟩, fun H2 Hs2 _ h2 h3 => SqL.mono h3 (SqL.mono h2 hr), SqL.mono R2.sub hr, ha, ?_⟩
            rw [tl_putS g1]
            exact h
      · exact h.elim
  · exact h.elim
def LI (X : Cx) (ix : List Nat) (pu bor : Bool) (w : St → (List PyData → St → Prop) → Prop) : TI := fun σ H Rr => ∃ B Hs sl tp P, Rel X.K ⟨B, ix⟩ Hs H σ sl tp ∧ w (TA.tl sl) P ∧
  ∀ J xs Hs' H' sl', Rel X.K ⟨B, ix⟩ Hs' H' σ sl' tp → Walk X.K J xs (hqOf bor H') Hs' → Stp pu H H' sl sl' → P xs (TA.tl sl') → Rr J H'
theorem iter_list {pins : List (Addr × Obj)} {s1 : Shared} {σ : L2.St} {H1 : Hp} {Rr : It → Hp → Prop} {a : Addr} {xs : List V} {E : Value → Shared → Prop} (I1 : Inv X pins σ H1 s1) (hq : SqL X.K H1 a xs) (q : Rr (Itl X.K a) H1) : wpAny (model X.prog X.w) X.A (pyIter (.ref a)) (PIE X pins σ tg Rr) E s1 := by
  obtain ⟨its, rv, p, hz⟩ := I1.list hq
  refine wpAny_pyIter_list p.isList ?_
  refine ⟨s1.heap.objs.size, [s1.heap.objs.size], _, _, H1, rfl, I1.kept (t' := s1.toks) fun b o e => Heap.get?_push_of_some _ e, turn_list a _, ⟨_, Heap.get?_push_size _ rfl, rfl, rfl⟩, fun b hb => ?_, q⟩
  have e : b = s1.heap.objs.size := by simpa using hb
  subst e
  exact I1.fpOk (Nat.le_refl _) (I1.hok.fresh (Nat.le_refl _))
theorem iter_tup {pins : List (Addr × Obj)} {s1 : Shared} {σ : L2.St} {H1 : Hp} {Rr : It → Hp → Prop} {a : Addr} {xs : List V} {E : Value → Shared → Prop} (I1 : Inv X pins σ H1 s1) (hq : SqT X.K H1 a xs) (q : Rr (Itt X.K a) H1) : wpAny (model X.prog X.w) X.A (pyIter (.ref a)) (PIE X pins σ tg Rr) E s1 := by
  obtain ⟨its, rv, p, hz⟩ := I1.tuple hq
  refine wpAny_pyIter_tuple (show s1.heap.IsTuple a its.toArray from p) ?_
  refine ⟨s1.heap.objs.size, [s1.heap.objs.size], _, _, H1, rfl, I1.kept (t' := s1.toks) fun b o e => Heap.get?_push_of_some _ e, turn_tuple a _, ⟨_, Heap.get?_push_size _ rfl, rfl, rfl⟩, fun b hb => ?_, q⟩
  have e : b = s1.heap.objs.size := by simpa using hb
  subst e
  exact I1.fpOk (Nat.le_refl _) (I1.hok.fresh (Nat.le_refl _))
theorem iter_str {pins : List (Addr × Obj)} {s1 : Shared} {σ : L2.St} {H1 : Hp} {Rr : It → Hp → Prop} {x : Str} {v : Value} {E : Value → Shared → Prop} (I1 : Inv X pins σ H1 s1) (rx : RelV (.str x) v) (q : Rr (Its x) H1) : wpAny (model X.prog X.w) X.A (pyIter v) (PIE X pins σ tg Rr) E s1 := by
  obtain ⟨t, rfl⟩ := rx
  cases ha : x.cps.all (· < 128)
  · exact wpAny_pyIter_wide ha (pi_one (tk := s1.toks) I1 _ (turn_str _ x t "str_iterator" (.inr rfl)) ⟨_, Heap.get?_push_size _ rfl, rfl, rfl⟩ q)
  · exact wpAny_pyIter_ascii ha (pi_one (tk := s1.toks) I1 _ (turn_str _ x t "str_ascii_iterator" (.inl rfl)) ⟨_, Heap.get?_push_size _ rfl, rfl, rfl⟩ q)
abbrev wIt (Γ : Ctx) (pu bor : Bool) (it : ItK) (cs : List E) : St → (List PyData → St → Prop) → Prop := fun σ K => wA Γ pu cs σ fun rs σ1 => itW pu bor it rs σ1 K
theorem li_e {c : E} (h : PEc X Γ ea c) : PI X tg ea (LI X Γ.pin pu bor (wIt Γ pu bor .e [c])) := by
  refine ⟨fun pins s σ H Rr I hw => ?_⟩
  obtain ⟨B, Hs, sl, tp, P, R0, hw, hk⟩ := hw
  simp only [wIt, wA] at hw
  refine one R0 hw I (h pu) fun v s1 x H1 ra Hs1 sl1 nw1 I1 rx R1 r1 st h => ?_
  simp only [itW] at h
  split at h
  · rename_i xs e
    have d := (r1.dpT R1 e).1
    cases d with
    | tup hr ha =>
      cases rx
      exact iter_tup I1 (SqT.mono R1.sub hr) (hk _ xs Hs1 H1 sl1 R1.drop (walk_tup hr ha) st h)
  · rename_i x0 e
    have d := (r1.dpT R1 e).2.str_v
    subst d
    exact iter_str I1 rx (hk _ _ Hs1 H1 sl1 R1.drop (walk_str x0) st h)
  · obtain ⟨a, vs, xs, Hs2, sl2, rfl, R2, st2, sq, sq1, ha, hP⟩ := seq_ok R1 r1 h
    cases rx
    exact iter_list I1 sq1 (hk _ xs Hs2 H1 sl2 R2 (walk_list sq ha) (st.trans st2 id) hP)
theorem li_rng1 {x : Str} {p0 : Pos} (C : CxOk X Γ b k) (hx : bltCall Γ.sk b "range" x = true) (hs : noStar ea = true) (h : PAc X Γ [ea] cs) : PI X tg (.Call (.Name x p0) [ea] [] pos) (LI X Γ.pin pu bor (wIt Γ pu bor .rng1 cs)) := by
  obtain ⟨rfl, hg, hm, _, _⟩ := bltCall_of C hx
  refine ⟨fun pins s σ H Rr I hw => ?_⟩
  obtain ⟨B, Hs, sl, tp, P, R0, hw, hk⟩ := hw
  refine (pi_range1 hg hm (h pu) (star_of hs)).run pins s σ H Rr I ⟨B, Hs, sl, tp, _, R0, hw, fun rs vs Hs1 H1 sl1 nws R1 rr st1 p1 => ?_⟩
  cases rs with
  | nil => exact p1.elim
  | cons r rs =>
  cases rs with
  | cons _ _ => exact p1.elim
  | nil =>
    obtain ⟨x, nw, rfl, rfl, r1⟩ := rr.one
    have R2 : Rel X.K ⟨B, Γ.pin⟩ Hs1 H1 σ sl1 (tp ++ nw) := by simpa using R1
    simp only [itW] at p1
    split at p1
    · rename_i j e
      obtain ⟨⟨b1, b2⟩, p1⟩ := p1
      have := (r1.dpT R2 e).2.int_v
      subst this
      exact ⟨j, rfl, b1, b2, hk _ _ Hs1 H1 sl1 R2.drop (walk_rng 0 _) st1 p1⟩
    · exact p1.elim
theorem li_rng2 {x : Str} {p0 : Pos} (C : CxOk X Γ b k) (hx : bltCall Γ.sk b "range" x = true) (hs : noStar ea = true) (hs2 : noStar eb = true) (h : PAc X Γ [ea, eb] cs) : PI X tg (.Call (.Name x p0) [ea, eb] [] pos) (LI X Γ.pin pu bor (wIt Γ pu bor .rng2 cs)) := by
  obtain ⟨rfl, hg, hm, _, _⟩ := bltCall_of C hx
  refine ⟨fun pins s σ H Rr I hw => ?_⟩
  obtain ⟨B, Hs, sl, tp, P, R0, hw, hk⟩ := hw
  refine (pi_range2 hg hm (h pu) (by rw [star_of hs, star_of hs2]; rfl) (star_of hs2)).run pins s σ H Rr I ⟨B, Hs, sl, tp, _, R0, hw, fun rs vs Hs1 H1 sl1 nws R1 rr st1 p1 => ?_⟩
  cases rs with
  | nil => exact p1.elim
  | cons r rs =>
  cases rs with
  | nil => exact p1.elim
  | cons r' rs =>
  cases rs with
  | cons _ _ => exact p1.elim
  | nil =>
    obtain ⟨x, y, nw, nw', rfl, rfl, r1, r2⟩ := rr.two
    have R2 : Rel X.K ⟨B, Γ.pin⟩ Hs1 H1 σ sl1 ((tp ++ nw) ++ nw') := by simpa using R1
    simp only [itW] at p1
    split at p1
    · rename_i i j e1 e2
      obtain ⟨⟨b1, b2⟩, ⟨b3, b4⟩, p1⟩ := p1
      have := (r1.dpT R2.drop e1).2.int_v
      subst this
      have := (r2.dpT R2 e2).2.int_v
      subst this
      exact ⟨i, j, rfl, ⟨b1, b2, b3, b4⟩, hk _ _ Hs1 H1 sl1 R2.drop.drop (walk_rng i _) st1 p1⟩
    · exact p1.elim
theorem li_rng3 {x : Str} {p0 : Pos} (C : CxOk X Γ b k) (hx : bltCall Γ.sk b "range" x = true) (hs : noStar ea = true) (hs2 : noStar eb = true) (hs3 : noStar ec = true) (h : PAc X Γ [ea, eb, ec] cs) : PI X tg (.Call (.Name x p0) [ea, eb, ec] [] pos) (LI X Γ.pin pu bor (wIt Γ pu bor .rng3 cs)) := by
  obtain ⟨rfl, hg, hm, _, _⟩ := bltCall_of C hx
  refine ⟨fun pins s σ H Rr I hw => ?_⟩
  obtain ⟨B, Hs, sl, tp, P, R0, hw, hk⟩ := hw
  refine (pi_range3 hg hm (h pu) (star_of hs) (stars_of (by simp [hs2, hs3]))).run pins s σ H Rr I ⟨B, Hs, sl, tp, _, R0, hw, fun rs vs Hs1 H1 sl1 nws R1 rr st1 p1 => ?_⟩
  cases rs with
  | nil => exact p1.elim
  | cons r rs =>
  cases rs with
  | nil => exact p1.elim
  | cons r' rs =>
  cases rs with
  | nil => exact p1.elim
  | cons r'' rs =>
  cases rs with
  | cons _ _ => exact p1.elim
  | nil =>
    obtain ⟨x, y, z, nw, nw', nw'', rfl, rfl, r1, r2, r3⟩ := rr.three
    have R2 : Rel X.K ⟨B, Γ.pin⟩ Hs1 H1 σ sl1 (((tp ++ nw) ++ nw') ++ nw'') := by simpa using R1
    simp only [itW] at p1
    split at p1
    · rename_i i j e1 e2 e3
      obtain ⟨⟨b1, b2⟩, ⟨b3, b4⟩, p1⟩ := p1
      have := (r1.dpT R2.drop.drop e1).2.int_v
      subst this
      have := (r2.dpT R2.drop e2).2.int_v
      subst this
      have := (r3.dpT R2 e3).2.int_v
      subst this
      exact ⟨i, j, -1, _, rfl, RgC.neg b1 b2 b3 b4, hk _ _ Hs1 H1 sl1 R2.drop.drop.drop (walk_rngC i (-1) _) st1 p1⟩
    · rename_i i j c _ e1 e2 e3
      obtain ⟨n, hn, p1⟩ := p1
      have := (r1.dpT R2.drop.drop e1).2.int_v
      subst this
      have := (r2.dpT R2.drop e2).2.int_v
      subst this
      have := (r3.dpT R2 e3).2.int_v
      subst this
      exact ⟨i, j, c, n, rfl, hn, hk _ _ Hs1 H1 sl1 R2.drop.drop.drop (walk_rngC i c _) st1 p1⟩
    · exact p1.elim
theorem li_rrng {x y : Str} {p0 p1 p2 : Pos} {c : E} (C : CxOk X Γ b k) (hx : bltCall Γ.sk b "reversed" x = true) (hy : bltCall Γ.sk b "range" y = true) (hs : noStar ea = true) (h : PEc X Γ ea c) : PI X tg (.Call (.Name x p0) [.Call (.Name y p1) [ea] [] p2] [] pos) (LI X Γ.pin pu bor (wIt Γ pu bor .rrng [c])) := by
  obtain ⟨rfl, hg, hm, _, _⟩ := bltCall_of C hx
  obtain ⟨rfl, hg2, hm2, _, _⟩ := bltCall_of C hy
  refine ⟨fun pins s σ H Rr I hw => ?_⟩
  obtain ⟨B, Hs, sl, tp, P, R0, hw, hk⟩ := hw
  simp only [wIt, wA] at hw
  refine (pi_revR hg hm (prg_1 hg2 hm2 (h pu) (star_of hs)) (star_of rfl)).run pins s σ H Rr I ⟨B, Hs, sl, tp, _, R0, hw, fun ra v Hs1 H1 sl1 nw1 R1 rr1 st1 p1 => ?_⟩
  simp only [itW] at p1
  split at p1
  · rename_i j e
    obtain ⟨⟨b1, b2⟩, p1⟩ := p1
    have := (rr1.dpT R1 e).2.int_v
    subst this
    refine ⟨j, rfl, by omega, by omega, b1, b2, ?_⟩
    have e : (Itc (0 + (((j - 0).toNat : Nat) : Int) - 1) (-1) (j - 0).toNat) = Itc ((j.toNat : Int) - 1) (-1) j.toNat := by simp
    rw [e]
    exact hk _ _ Hs1 H1 sl1 R1.drop (walk_rngC _ (-1) _) st1 p1
  · exact p1.elim
theorem li_enum {x : Str} {p0 tpos : Pos} {elts : List Expr} {kk : Nat} (C : CxOk X Γ b k) (hx : bltCall Γ.sk b "enumerate" x = true) (hs : noStar ea = true) (h : PAc X Γ [ea] cs) : PI X (.Tuple elts kk tpos) (.Call (.Name x p0) [ea] [] pos) (LI X Γ.pin pu bor (wIt Γ pu bor .enum cs)) := by
  obtain ⟨rfl, hg, hm, _, _⟩ := bltCall_of C hx
  refine ⟨fun pins s σ H Rr I hw => ?_⟩
  obtain ⟨B, Hs, sl, tp, P, R0, hw, hk⟩ := hw
  refine (pi_enum2 hg hm (h pu) (star_of hs)).run pins s σ H Rr I ⟨B, Hs, sl, tp, _, R0, hw, fun rs vs Hs1 H1 sl1 nws R1 rr st1 p1 => ?_⟩
  cases rs with
  | nil => exact p1.elim
  | cons r rs =>
  cases rs with
  | cons _ _ => exact p1.elim
  | nil =>
    obtain ⟨x, nw, rfl, rfl, r1⟩ := rr.one
    have R2 : Rel X.K ⟨B, Γ.pin⟩ Hs1 H1 σ sl1 (tp ++ nw) := by simpa using R1
    simp only [itW] at p1
    split at p1
    · rename_i ys e1
      have d1 := (r1.dpT R2 e1).1
      cases d1 with
      | tup q1 a1 =>
        have R3 := R2.drop
        exact ⟨_, _, rfl, .inr ⟨SqT.mono R3.sub q1, hk _ _ Hs1 H1 sl1 R3 (walk_enumT q1 a1) st1 p1⟩⟩
    · obtain ⟨a, vs, xs, Hs2, sl2, rfl, R3, st2, sq, sq1, ha, hP⟩ := seq_ok R2 r1 p1
      exact ⟨a, vs, rfl, .inl ⟨sq1, hk _ _ Hs2 H1 sl2 R3 (walk_enum sq ha) (st1.trans st2 id) hP⟩⟩
theorem li_zip {x : Str} {p0 tpos : Pos} {elts : List Expr} {kk : Nat} (C : CxOk X Γ b k) (hx : bltCall Γ.sk b "zip" x = true) (hs : noStar ea = true) (hs2 : noStar eb = true) (h : PAc X Γ [ea, eb] cs) : PI X (.Tuple elts kk tpos) (.Call (.Name x p0) [ea, eb] [] pos) (LI X Γ.pin pu bor (wIt Γ pu bor .zip cs)) := by
  obtain ⟨rfl, hg, hm, _, _⟩ := bltCall_of C hx
  refine ⟨fun pins s σ H Rr I hw => ?_⟩
  obtain ⟨B, Hs, sl, tp, P, R0, hw, hk⟩ := hw
  refine (RZ.pi_zipA hg hm (h pu) (star_of hs) (stars_of (by simp [hs2]))).run pins s σ H Rr I ⟨B, Hs, sl, tp, _, R0, hw, fun rs vs Hs1 H1 sl1 nws R1 rr st1 p1 => ?_⟩
  cases rs with
  | nil => exact p1.elim
  | cons r rs =>
  cases rs with
  | nil => exact p1.elim
  | cons r' rs =>
  cases rs with
  | cons _ _ => exact p1.elim
  | nil =>
    obtain ⟨x, y, nw, nw', rfl, rfl, r1, r2⟩ := rr.two
    have R2 : Rel X.K ⟨B, Γ.pin⟩ Hs1 H1 σ sl1 ((tp ++ nw) ++ nw') := by simpa using R1
    simp only [itW] at p1
    split at p1
    · rename_i xs ys e1 e2
      obtain ⟨hl, p1⟩ := p1
      have d1 := (r1.dpT R2.drop e1).1
      have d2 := (r2.dpT R2 e2).1
      cases d1 with
      | lst q1 a1 =>
      cases d2 with
      | lst q2 a2 =>
        have R3 := R2.drop.drop
        exact ⟨_, _, _, _, rfl, .inl ⟨SqL.mono R3.sub q1, SqL.mono R3.sub q2, hk _ _ Hs1 H1 sl1 R3 (walk_zip hl (fun H2 Hs2 _ h2 h3 => SqL.mono h3 (SqL.mono h2 q1)) a1 (fun H2 Hs2 _ h2 h3 => SqL.mono h3 (SqL.mono h2 q2)) a2) st1 p1⟩⟩
    · exact p1.elim
end
section
variable {X : Cx} {Γ : Ctx} {b : Blk} {k : Nat} {pos : Pos} {ix : List Nat}
/-- an item given to its names -/
def LG (X : Cx) (ix : List Nat) (is : List Nat) : TG := fun v σ H Q => ∃ B Hs sl tp x σ1, Rel X.K ⟨B, ix⟩ Hs H σ sl tp ∧ Rp X.K Hs v x ∧ bindD is x (TA.tl sl) = some σ1 ∧ (∀ i ∈ is, i ∉ ix) ∧
  ∀ σ' sl', Rel X.K ⟨B, ix⟩ Hs H σ' sl' tp → TA.tl sl' = σ1 → (∀ j, j ∉ is → σ'[j]? = σ[j]? ∧ sl'[j]? = sl[j]?) → σ'.length = σ.length → Q σ' H
def LGs (X : Cx) (ix : List Nat) (is : List Nat) : TGs := fun vs σ H Q => ∃ B Hs sl tp xs σ1, Rel X.K ⟨B, ix⟩ Hs H σ sl tp ∧ RpAll X.K Hs vs xs ∧ setsD is xs (TA.tl sl) = some σ1 ∧ (∀ i ∈ is, i ∉ ix) ∧
  ∀ σ' sl', Rel X.K ⟨B, ix⟩ Hs H σ' sl' tp → TA.tl sl' = σ1 → (∀ j, j ∉ is → σ'[j]? = σ[j]? ∧ sl'[j]? = sl[j]?) → σ'.length = σ.length → Q σ' H
theorem lg_name {i : Nat} {x : Str} (C : CxOk X Γ b k) (h : tgB b i x = true) : PG X (.Name x pos) (gName i) := by
  unfold tgB at h
  simp only [Bool.and_eq_true, decide_eq_true_eq] at h
  obtain ⟨h1, h2⟩ := C.loc h.2
  exact pg_name (by rw [C.N]; exact C.nd) (by rw [C.N]; exact h.1) h1 h2
theorem set_leaf {K : PySem.W.Frag} {B : Bs} {Hs H : Hp} {σ : L2.St} {sl tp : List TA} {i : Nat} {v : V} {x : PyData} (R0 : Rel K B Hs H σ sl tp) (dp : Rp K Hs v x) (hi : i < (TA.tl sl).length) (hn : i ∉ B.ix) : Rel K B Hs H (σ.set i (some v)) (sl.set i (.d v x)) tp ∧ TA.tl (sl.set i (.d v x)) = (TA.tl sl).set i (.d x) :=
  ⟨(R0.leaf dp).setS (by rw [tl_len] at hi; exact hi) hn rfl, by rw [tl_set, TA.t]⟩
theorem lgs_ok (C : CxOk X Γ b k) : ∀ {is : List Nat} {es : List Expr}, tgsB b is es = true → PGs X es (LGs X ix is)
  | [], [], _ => ⟨fun pins s σ H vs us Q I r h => by
      obtain ⟨B, Hs, sl, tp, xs, σ1, R0, dp, hs, _, hk⟩ := h
      cases xs with
      | nil =>
        rw [setsD] at hs
        cases hs
        cases dp
        exact pgs_nil.run pins s σ H [] us Q I r ⟨rfl, hk σ sl R0 rfl (fun _ _ => ⟨rfl, rfl⟩) rfl⟩
      | cons _ _ => simp [setsD] at hs⟩
  | [], _ :: _, h => by simp [tgsB] at h
  | i :: is, [], h => by simp [tgsB] at h
  | i :: is, e :: es, h => by
    cases e <;> first | (exact (Bool.noConfusion h)) | skip
    rename_i x pos
    simp only [tgsB, Bool.and_eq_true] at h
    have ih := lgs_ok C h.2
    refine ⟨fun pins s σ H vs us Q I r hw => ?_⟩
    obtain ⟨B, Hs, sl, tp, xs, σ1, R0, dp, hs, hn, hk⟩ := hw
    cases xs with
    | nil => simp [setsD] at hs
    | cons d ds =>
      cases dp with
      | cons d1 d2 =>
        rw [setsD] at hs
        split at hs
        · rename_i hi
          obtain ⟨R1, e1⟩ := set_leaf R0 d1 hi (hn i (by simp))
          refine (pgs_cons (lg_name C h.1) ih rfl).run pins s σ H _ us Q I r ⟨_, _, rfl, B, Hs, _, tp, ds, σ1, R1, d2, by rw [e1]; exact hs, fun j hj => hn j (List.mem_cons_of_mem _ hj), fun σ' sl' R2 e2 f2 l2 => ?_⟩
          refine hk σ' sl' R2 e2 (fun j hj => ?_) (by rw [l2, List.length_set])
          obtain ⟨f3, f4⟩ := f2 j fun z => hj (List.mem_cons_of_mem _ z)
          rw [f3, f4, List.getElem?_set_ne fun z => hj (by rw [z]; exact List.mem_cons_self), List.getElem?_set_ne fun z => hj (by rw [z]; exact List.mem_cons_self)]
          exact ⟨rfl, rfl⟩
        · cases hs
theorem tgs_each {env : Env} : ∀ {is : List Nat} {es : List Expr}, tgsB b is es = true → (assignEach es env).length = is.length ∧ (assignEach es env).findIdx? (·.1) = none
  | [], [], _ => ⟨rfl, rfl⟩
  | [], _ :: _, h => by simp [tgsB] at h
  | i :: is, [], h => by simp [tgsB] at h
  | i :: is, e :: es, h => by
    cases e <;> first | (exact (Bool.noConfusion h)) | skip
    rename_i x pos
    simp only [tgsB, Bool.and_eq_true] at h
    obtain ⟨h1, h2⟩ := tgs_each (env := env) h.2
    refine ⟨by show (assignEach es env).length + 1 = _; rw [h1]; rfl, ?_⟩
    show List.findIdx? (·.1) ((false, _) :: assignEach es env) = none
    rw [List.findIdx?_cons]
    simp only [Bool.false_eq_true, if_false]
    rw [h2]
    rfl
theorem setsD_len : ∀ {is : List Nat} {xs : List PyData} {σ σ1 : St}, setsD is xs σ = some σ1 → is.length = xs.length
  | [], [], _, _, _ => rfl
  | [], _ :: _, _, _, h => by simp [setsD] at h
  | _ :: _, [], _, _, h => by simp [setsD] at h
  | i :: is, x :: xs, σ, σ1, h => by
    rw [setsD] at h
    split at h
    · rw [List.length_cons, List.length_cons, setsD_len h]
    · cases h
theorem lg_ok {tg : Expr} {is : List Nat} (C : CxOk X Γ b k) (h : targB b is tg = true) : PG X tg (LG X ix is) := by
  unfold targB at h
  split at h
  · rename_i i x p
    refine ⟨fun pins s σ H v u Q I r hw => ?_⟩
    obtain ⟨B, Hs, sl, tp, d, σ1, R0, dp, hs, hn, hk⟩ := hw
    simp only [bindD, setsD] at hs
    split at hs
    · rename_i hi
      cases hs
      obtain ⟨R1, e1⟩ := set_leaf R0 dp hi (hn i (by simp))
      refine (lg_name C h).run pins s σ H v u Q I r (hk _ _ R1 e1 (fun j hj => ?_) (by rw [List.length_set]))
      rw [List.getElem?_set_ne fun z => hj (by simp [z]), List.getElem?_set_ne fun z => hj (by simp [z])]
      exact ⟨rfl, rfl⟩
    · cases hs
  · rename_i i j is es n p
    obtain ⟨t1, t2⟩ := tgs_each (env := X.env) h
    refine ⟨fun pins s σ H v u Q I r hw => ?_⟩
    obtain ⟨B, Hs, sl, tp, d, σ1, R0, dp, hs, hn, hk⟩ := hw
    unfold bindD at hs
    split at hs
    · rename_i heq
      cases heq
    · cases dp with
      | tup hr ha =>
        simp only at hs
        exact (pg_tup C.calm (lgs_ok (ix := ix) C h) t1 t2).run pins s σ H _ u Q I r ⟨_, _, rfl, SqT.mono R0.sub hr, by rw [ha.length, ← setsD_len hs], B, Hs, sl, tp, _, σ1, R0, ha, hs, hn, hk⟩
      | _ => simp at hs
  · cases h
end
def wipeA (sl : List TA) : List Nat → List TA
  | [] => sl
  | v :: vs => (wipeA sl vs).set v (.dead .non)
theorem wipeA_out {sl : List TA} {i : Nat} : ∀ {is : List Nat}, i ∉ is → (wipeA sl is)[i]? = sl[i]?
  | [], _ => rfl
  | v :: vs, h => by
    unfold wipeA
    rw [List.getElem?_set_ne fun z => h (by rw [z]; exact List.mem_cons_self), wipeA_out fun z => h (List.mem_cons_of_mem _ z)]
theorem tl_wipe (sl : List TA) : ∀ is : List Nat, TA.tl (wipeA sl is) = wipeT (TA.tl sl) is
  | [] => rfl
  | v :: vs => by unfold wipeA wipeT; rw [tl_set, tl_wipe sl vs, TA.t]
theorem wipe_in {σ : L2.St} {j : Nat} : ∀ {vs : List Nat}, j ∈ vs → j < σ.length → (wipe σ vs)[j]? = some none
  | [], h, _ => by simp at h
  | v :: vs, h, hl => by
    unfold wipe
    by_cases hv : v = j
    · subst hv
      rw [List.getElem?_set_self (by rw [wipe_length]; exact hl)]
    · rw [List.getElem?_set_ne hv]
      exact wipe_in (by rcases List.mem_cons.mp h with z | z; exact absurd z.symm hv; exact z) hl
section
variable {K : PySem.W.Frag} {B : Bs} {Hs H Hs' H' : Hp} {σ σ2 : L2.St} {sl sl2 tp : List TA}
theorem hide_all (R : Rel K B Hs H σ sl tp) : ∀ {is : List Nat}, is.Nodup → (∀ i ∈ is, i < sl.length ∧ i ∉ B.ix) → Rel K B Hs H (wipe σ is) (wipeA sl is) (tp ++ is.map fun i => sl.getD i (.dead .non))
  | [], _, _ => by simpa [wipe, wipeA] using R
  | i :: is, hn, hi => by
    have ih := hide_all R (List.nodup_cons.mp hn).2 fun j hj => hi j (List.mem_cons_of_mem _ hj)
    have hni := (List.nodup_cons.mp hn).1
    obtain ⟨h1, h2⟩ := hi i List.mem_cons_self
    have g : (wipeA sl is)[i]? = some (sl.getD i (.dead .non)) := by
      rw [wipeA_out hni, List.getD_eq_getElem?_getD, List.getElem?_eq_getElem h1]
      rfl
    have R2 := ih.hide (σ' := wipe σ (i :: is)) g h2 (by rw [wipe_length, wipe_length]) (fun j hj => by
      show ((wipe σ is).set i none)[j]? = _
      rw [List.getElem?_set_ne (Ne.symm hj)])
    refine R2.perm ?_
    rw [List.append_assoc]
    exact List.Perm.append_left _ List.perm_append_comm
theorem unhide_all : ∀ {is : List Nat} {hid : List TA} {σ2 : L2.St} {sl2 : List TA}, Rel K B Hs' H' σ2 sl2 (tp ++ hid) → hid.length = is.length → is.Nodup → (∀ i ∈ is, i < sl2.length ∧ i ∉ B.ix) → (∀ t ∈ hid, t.noTup = true) → σ2.length = σ.length → (∀ j, j ∉ is → σ2[j]? = σ[j]?) → (∀ (n : Nat) i t, is[n]? = some i → hid[n]? = some t → t.isDead = false → σ[i]? = some (some t.v)) →
    ∃ sl3, Rel K B Hs' H' σ sl3 tp ∧ sl3 = (is.zip hid).foldl (fun s p => s.set p.1 p.2) sl2
  | [], hid, σ2, sl2, R, hl, _, _, _, hσ, ho, _ => by
    cases hid with
    | cons _ _ => simp at hl
    | nil =>
      have : σ2 = σ := List.ext_getElem? fun j => ho j (by simp)
      subst this
      exact ⟨sl2, by simpa using R, rfl⟩
  | i :: is, hid, σ2, sl2, R, hl, hn, hi, hnt, hσ, ho, hv => by
    cases hid with
    | nil => simp at hl
    | cons t hid =>
      obtain ⟨h1, h2⟩ := hi i List.mem_cons_self
      have hni := (List.nodup_cons.mp hn).1
      have R1 : Rel K B Hs' H' σ2 sl2 ((tp ++ hid) ++ [t]) := R.perm (by
        rw [List.append_assoc]
        exact List.Perm.append_left _ (List.perm_append_comm (l₁ := [t]) (l₂ := hid)))
      have hiσ : i < σ.length := by rw [← hσ, ← R.len]; exact h1
      have R2 := R1.unhide (σ := σ2.set i (σ[i]'hiσ)) h1 h2 (hnt t (by simp)) (by rw [List.length_set]) (fun j hj => by rw [List.getElem?_set_ne (Ne.symm hj)]) (fun hd => by
        rw [List.getElem?_set_self (by rw [hσ]; exact hiσ)]
        have := hv 0 i t rfl rfl hd
        rw [List.getElem?_eq_getElem hiσ] at this
        exact this)
      obtain ⟨sl3, R3, e3⟩ := unhide_all (is := is) (hid := hid) (σ2 := σ2.set i (σ[i]'hiσ)) (sl2 := sl2.set i t) R2 (by simpa using hl) (List.nodup_cons.mp hn).2 (fun j hj => by rw [List.length_set]; exact hi j (List.mem_cons_of_mem _ hj)) (fun u hu => hnt u (List.mem_cons_of_mem _ hu)) (by rw [List.length_set]; exact hσ) (fun j hj => by
        by_cases hji : j = i
        · subst hji
          rw [List.getElem?_set_self (by rw [hσ]; exact hiσ), List.getElem?_eq_getElem hiσ]
        · rw [List.getElem?_set_ne (Ne.symm hji)]
          exact ho j fun z => by
            rcases List.mem_cons.mp z with z | z
            · exact hji z
            · exact hj z) (fun n j u h1 h2 h3 => hv (n + 1) j u (by simpa using h1) (by simpa using h2) h3)
      exact ⟨sl3, R3, e3⟩
/-- a temporary list gets one more item -/
theorem Rel.app {a : Addr} {us : List TA} {x : TA} (R : Rel K B Hs H σ sl (tp ++ [.nd .list a us, x])) : Rel K B Hs (upd H a (.lst ((us ++ [x]).map TA.v))) σ sl (tp ++ [.nd .list a (us ++ [x])]) := by
  have e1 : TA.fpl (sl ++ (tp ++ [.nd .list a us, x])) = TA.fpl (sl ++ tp) ++ (a :: (TA.fpl us ++ x.fp)) := by
    rw [← List.append_assoc, TA.fpl_append (sl ++ tp), TA.fpl, TA.fpl, TA.fpl, TA.fp]
    simp
  have e2 : TA.fpl (sl ++ (tp ++ [.nd .list a (us ++ [x])])) = TA.fpl (sl ++ tp) ++ (a :: (TA.fpl us ++ x.fp)) := by
    rw [← List.append_assoc, TA.fpl_append (sl ++ tp), fpl_one, TA.fp, TA.fpl_append us, fpl_one]
  have uq := R.uq
  rw [e1] at uq
  have ha : a ∉ TA.fpl (sl ++ tp) := fun z => by
    rw [List.nodup_append] at uq
    exact uq.2.2 a z a List.mem_cons_self rfl
  have ha2 : a ∉ TA.fpl us ++ x.fp := by
    rw [List.nodup_append] at uq
    exact (List.nodup_cons.mp uq.2.1).1
  have okr : TA.okl K Hs H (sl ++ tp) := by
    have := R.ok
    rw [← List.append_assoc] at this
    exact (TA.okl_append.mp this).1
  have okn := (TA.okl_append.mp R.okT).2
  rw [TA.okl, TA.ok, TA.okl, TA.okl] at okn
  have hA : ∀ z ∈ TA.fpl (sl ++ (tp ++ [.nd .list a (us ++ [x])])), z ∈ TA.fpl (sl ++ (tp ++ [.nd .list a us, x])) := fun z hz => by rw [e1]; rw [e2] at hz; exact hz
  have hain : a ∈ TA.fpl (sl ++ (tp ++ [.nd .list a us, x])) := by rw [e1]; simp
  refine ⟨R.len, R.val, ?_, by rw [e2]; exact uq, fun z hz => R.out z (hA z hz), fun z o hz => ?_, fun z o h1 h2 => ?_, fun z hz => R.fresh z (hA z hz), R.hs, R.hsNew, R.ntup, R.pin, R.tab.to (fun c ps e => by rw [upd_ne (show c ≠ a from fun z => TA.fpl_tbl _ R.ok a hain ps (by rw [← z]; exact e))]; exact e) (fun c q e => e) R.tab.n, R.tabB⟩
  · rw [← List.append_assoc]
    refine TA.okl_append.mpr ⟨TA.okl_mono (Same.refl _) _ okr fun z hz => upd_ne fun e => ha (e ▸ hz), okl_one.mpr ?_⟩
    rw [TA.ok]
    refine ⟨show upd H a (.lst ((us ++ [x]).map TA.v)) a = some (.lst ((us ++ [x]).map TA.v)) from upd_same, TA.okl_append.mpr ⟨TA.okl_mono (Same.refl _) _ okn.1.2 fun z hz => upd_ne fun e => ha2 (e ▸ List.mem_append_left _ hz), okl_one.mpr (TA.ok_mono (Same.refl _) x okn.2.1 fun z hz => upd_ne fun e => ha2 (e ▸ List.mem_append_right _ hz))⟩⟩
  · rw [upd_ne fun e => ?_]
    · exact R.sub z o hz
    · subst e
      rw [R.out z hain] at hz
      cases hz
  · rw [upd_ne fun e => ?_]
    · exact R.keep z o h1 h2
    · subst e
      rcases R.fresh z hain with y | y
      · exact h2 y
      · rw [h1] at y; cases y
/-- the begin of a loop: what is shared stays shared -/
theorem Rel.reB {b0 : B0} {ix : List Nat} (R : Rel K ⟨b0, ix⟩ Hs H σ sl tp) : Rel K ⟨{ b0 with Hs0 := Hs }, ix⟩ Hs H σ sl tp :=
  ⟨R.len, R.val, R.ok, R.uq, R.out, R.sub, R.keep, R.fresh, Same.refl _, fun a h => .inl h, R.ntup, R.pin, R.tab, R.tabB⟩
theorem Rel.unB {b0 : B0} {ix : List Nat} {Hs1 H1 : Hp} {σ1 : L2.St} {sl1 tp1 : List TA} (R1 : Rel K ⟨b0, ix⟩ Hs1 H1 σ1 sl1 tp1) (R : Rel K ⟨{ b0 with Hs0 := Hs1 }, ix⟩ Hs H σ sl tp) : Rel K ⟨b0, ix⟩ Hs H σ sl tp :=
  ⟨R.len, R.val, R.ok, R.uq, R.out, R.sub, R.keep, R.fresh, R1.hs.trans R.hs, fun a h => (R.hsNew a h).elim (fun z => R1.hsNew a z) .inr, R.ntup, R.pin, R.tab, R.tabB⟩
end
theorem CxOk.blk {X : Cx} {Γ : Ctx} {b : Blk} {k : Nat} (C : CxOk X Γ b k) (s : Shared) (H : Hp) (scope : Scope) (cl : List (Str × Addr)) (C0 : Addr) (fp : List Addr) : CxOk (X.blk s H scope (compEnvC scope cl C0 X.env) fp) Γ (blkOf b scope) k :=
  ⟨C.N, by show relS scope X.env.scope = relS scope b.sc; rw [C.sc], C.calm, C.room, C.gd, C.nd, fun x h => (Bool.and_eq_true_iff.mp h).1, C.glob, C.bi, C.fns, C.cls, C.xfns, C.xcls, C.xc, C.rm2, C.pms, fun h => by
    have z := (Bool.and_eq_true_iff.mp h).2
    simp at z⟩
theorem restT_fold {σ0 : St} : ∀ {is : List Nat} {hid : List TA} {sl2 : List TA}, hid.length = is.length → (∀ (n : Nat) i t, is[n]? = some i → hid[n]? = some t → t.t = σ0.getD i .dead) → TA.tl ((is.zip hid).foldl (fun s p => s.set p.1 p.2) sl2) = restT σ0 is (TA.tl sl2)
  | [], hid, sl2, hl, _ => by cases hid with | nil => rfl | cons _ _ => simp at hl
  | i :: is, hid, sl2, hl, h => by
    cases hid with
    | nil => simp at hl
    | cons t hid =>
      rw [List.zip_cons_cons, List.foldl_cons, restT_fold (by simpa using hl) (fun n i t h1 h2 => h (n + 1) i t (by simpa using h1) (by simpa using h2)), restT, tl_set, h 0 i t rfl rfl]
section
variable {X : Cx} {Γ : Ctx} {b : Blk} {k : Nat} {pos : Pos} {pu : Bool}
theorem lc_read {is : List Nat} {bor : Bool} {elt : E} {it : ItK} {ies cond : List E} {tg : Expr} {ifs : List Expr} {scope : Scope} (C : CxOk X Γ b k) (hfree : ∀ i ∈ is, i ∉ Γ.pin) (hnd : is.Nodup) (hown : (ownOf b.N is).map (·.2) = is)
    (hc : (ifs = [] ∧ cond = []) ∨ (∃ ec c, ifs = [ec] ∧ cond = [c] ∧ ∀ X', CxOk X' Γ (blkOf b scope) k → PTc X' Γ ec c)) : ∃ tt : TT, (∀ X', CxOk X' Γ (blkOf b scope) k → X'.K = X.K → PTs X' ifs tt) ∧ ∀ (σ : L2.St) (H : Hp) (Q : VK), σ.length = X.N.length → LE X Γ.pin pu (wE Γ pu (.lc is bor elt it ies cond)) σ H Q →
    tLc (LI X Γ.pin pu bor (wIt Γ pu bor it ies)) (LG X Γ.pin is) tt (LE X Γ.pin (pu || bor) (wE Γ (pu || bor) elt)) ((ownOf b.N is).map (·.2)) σ H Q := by
  -- the test
  obtain ⟨tt, htt, hcond⟩ : ∃ tt : TT, (∀ X', CxOk X' Γ (blkOf b scope) k → X'.K = X.K → PTs X' ifs tt) ∧ ∀ (B : B0) Hs H σ sl tp (P : Bool → St → Prop) (Q : Bool → Hp → Prop), Rel X.K ⟨B, Γ.pin⟩ Hs H σ sl tp → wC Γ (pu || bor) cond (TA.tl sl) P → (∀ c Hs' H' sl', Rel X.K ⟨B, Γ.pin⟩ Hs' H' σ sl' tp → Stp (pu || bor) H H' sl sl' → P c (TA.tl sl') → Q c H') → tt σ H Q := by
    rcases hc with ⟨rfl, rfl⟩ | ⟨ec, c, rfl, rfl, hc⟩
    · refine ⟨tYes, fun X' _ _ => pts_nil, fun B Hs H σ sl tp P Q R0 hw hk => ?_⟩
      rw [wC] at hw
      exact hk true Hs H sl R0 .refl hw
    · refine ⟨LR X Γ.pin (pu || bor) (wE Γ (pu || bor) c), fun X' C' eK => ?_, fun B Hs H σ sl tp P Q R0 hw hk => ?_⟩
      · have : LR X' Γ.pin (pu || bor) (wE Γ (pu || bor) c) = LR X Γ.pin (pu || bor) (wE Γ (pu || bor) c) := by unfold LR; rw [eK]
        rw [← this]
        exact pts_one (hc X' C' (pu || bor))
      · rw [wC] at hw
        exact LR.of R0 hw.2 hk
  refine ⟨tt, htt, fun σ H Q hlen hw => ?_⟩
  obtain ⟨B, Hs, sl, tp, P, R0, hw, hk⟩ := hw
  rw [wE] at hw
  have hlt : ∀ i ∈ is, i < b.N.length := fun i h => by
    rw [← hown] at h
    obtain ⟨p, hp, rfl⟩ := List.mem_map.mp h
    unfold ownOf at hp
    obtain ⟨j, hj, e⟩ := List.mem_filterMap.mp hp
    obtain ⟨x, hx, e2⟩ := Option.map_eq_some_iff.mp e
    subst e2
    exact (List.getElem?_eq_some_iff.mp hx).1
  have hσN : σ.length = b.N.length := by rw [hlen, C.N]
  refine ⟨B, Hs, sl, tp, _, R0, hw, fun J xs Hs1 H1 sl1 R1 wk st1 hP D hD => ?_⟩
  rw [hown]
  have hsl1 : sl1.length = b.N.length := by rw [R1.len]; exact hσN
  let Pv : Nat → Hp → Prop := fun i H => ∃ Hs sl acc, Rel X.K ⟨{ B with Hs0 := Hs1 }, Γ.pin⟩ Hs H σ sl (tp ++ [.nd .list D acc]) ∧ Stp (pu || bor) H1 H sl1 sl ∧ (∀ i ∈ is, (TA.tl sl)[i]? = (TA.tl sl1)[i]?) ∧
    lcW is (TA.tl sl1) (fun σ3 Q => wC Γ (pu || bor) cond σ3 Q) (fun σ3 Q => wE Γ (pu || bor) elt σ3 fun r σ4 => toV (pu || bor) r σ4 Q) (xs.drop i) (TA.tl acc) (TA.tl sl) fun acc σ3 => P (.v (.nd .list acc)) σ3
  refine ⟨fun i m H => m = xs.length - i ∧ i ≤ xs.length ∧ Pv i H, ⟨xs.length, by simp, Nat.zero_le _, Hs1, sl1, [], ?_, ⟨fun _ => ⟨rfl, LamX.ExtN.of (same_upd hD)⟩, fun i t h1 h2 => ⟨t, h1, h2⟩⟩, fun _ _ => rfl, hP⟩, ?_⟩
  · exact (Rel.allocO (k := .list) (ts := []) (by simpa using R1.reB) hD (show upd H1 D (.lst []) D = some (.lst []) from upd_same))
  rintro i m H2 ⟨rfl, hle, Hs2, sl2, acc, R2, st2, hsame, hl⟩
  have hq : Same (hqOf bor H1) H2 := by
    unfold hqOf
    split
    · rename_i hb
      exact noTb_same (st2.pure (by rw [hb]; simp)).2
    · exact same00
  have hs12 : Same Hs1 Hs2 := R2.hs
  by_cases hlt2 : i < xs.length
  · refine .inr ⟨wk.go i H2 Hs2 hq hs12 R2.sub hlt2, Pv (i + 1), fun H' p => ⟨xs.length - (i + 1), by omega, rfl, hlt2, p⟩, fun v H3 hy => ?_⟩
    have hx : xs[i]? = some xs[i] := List.getElem?_eq_getElem hlt2
    obtain ⟨Hs3, s23, dp, sH, hR⟩ := wk.yld i H2 Hs2 v H3 xs[i] hq hs12 R2.sub hx hy
    have R3 := hR _ _ _ _ R2
    rw [List.drop_eq_getElem_cons hlt2, lcW] at hl
    have hsl2 : sl2.length = b.N.length := by rw [R2.len]; exact hσN
    have R4 := hide_all R3 hnd (fun j hj => ⟨by rw [hsl2]; exact hlt j hj, hfree j hj⟩)
    rw [← tl_wipe] at hl
    generalize hh : bindD is xs[i] (TA.tl (wipeA sl2 is)) = oo at hl
    cases oo with
    | none => exact hl.elim
    | some σ1 =>
      simp only at hl
      have hhid : ∀ (n : Nat) (j : Nat) (t : TA), is[n]? = some j → (is.map fun i => sl2.getD i (TA.dead V.non))[n]? = some t → sl2[j]? = some t := fun n j t h1 h2 => by
        rw [List.getElem?_map, h1] at h2
        simp only [Option.map_some, Option.some.injEq] at h2
        rw [← h2, List.getD_eq_getElem?_getD, List.getElem?_eq_getElem (by rw [hsl2]; exact hlt j (List.mem_of_getElem? h1))]
        rfl
      -- the hidden ones are put back
      have fin : ∀ (Hs5 H5 : Hp) (σ5 : L2.St) (slb sl5 acc5 : List TA), Rel X.K ⟨{ B with Hs0 := Hs1 }, Γ.pin⟩ Hs5 H5 σ5 sl5 ((tp ++ [.nd .list D acc5]) ++ is.map fun i => sl2.getD i (.dead .non)) → (∀ j, j ∉ is → σ5[j]? = σ[j]?) → σ5.length = σ.length → (∀ j, j ∉ is → slb[j]? = sl2[j]?) → ((pu || bor) = true → sl5 = slb ∧ LamX.ExtN H1 H5) → (∀ (j : Nat) t, slb[j]? = some t → t.isDead = false → ∃ t', sl5[j]? = some t' ∧ t'.isDead = false) →
          lcW is (TA.tl sl1) (fun σ3 Q => wC Γ (pu || bor) cond σ3 Q) (fun σ3 Q => wE Γ (pu || bor) elt σ3 fun r σ4 => toV (pu || bor) r σ4 Q) (xs.drop (i + 1)) (TA.tl acc5) (restT (TA.tl sl1) is (TA.tl sl5)) (fun acc σ3 => P (.v (.nd .list acc)) σ3) → Pv (i + 1) H5 := by
        intro Hs5 H5 σ5 slb sl5 acc5 R5 hσ5 hσl hslb hpure hlive hl5
        have hsl5 : sl5.length = b.N.length := by rw [R5.len, hσl]; exact hσN
        obtain ⟨sl6, R6, e6⟩ := unhide_all R5 (by simp) hnd (fun j hj => ⟨by rw [hsl5]; exact hlt j hj, hfree j hj⟩) (fun t ht => by
          obtain ⟨j, hj, rfl⟩ := List.mem_map.mp ht
          rw [List.getD_eq_getElem?_getD, List.getElem?_eq_getElem (by rw [hsl2]; exact hlt j hj)]
          exact R2.ntup _ (List.getElem_mem _)) hσl hσ5 (fun n j t h1 h2 hd => R2.val j t (hhid n j t h1 h2) hd)
        have fo : ∀ (l : List (Nat × TA)) (s : List TA) (j : Nat), (∀ p ∈ l, p.1 ≠ j) → (l.foldl (fun s p => s.set p.1 p.2) s)[j]? = s[j]? := by
          intro l
          induction l with
          | nil => intro s j _; rfl
          | cons p l ih =>
            intro s j hp
            rw [List.foldl_cons, ih _ _ fun q hq => hp q (List.mem_cons_of_mem _ hq), List.getElem?_set_ne (hp p List.mem_cons_self)]
        have fo2 : ∀ (is : List Nat) (f : Nat → TA) (s : List TA) (j : Nat), is.Nodup → j ∈ is → j < s.length → ((is.zip (is.map f)).foldl (fun s p => s.set p.1 p.2) s)[j]? = some (f j) := by
          intro is
          induction is with
          | nil => intro f s j _ h; simp at h
          | cons m is ih =>
            intro f s j hn hj hlen
            rw [List.map_cons, List.zip_cons_cons, List.foldl_cons]
            by_cases hm : j = m
            · subst hm
              rw [fo _ _ _ fun p hp => ?_, List.getElem?_set_self hlen]
              intro z
              have := (List.of_mem_zip (a := p.1) (b := p.2) hp).1
              rw [z] at this
              exact (List.nodup_cons.mp hn).1 this
            · exact ih f _ j (List.nodup_cons.mp hn).2 (by rcases List.mem_cons.mp hj with z | z; exact absurd z hm; exact z) (by rw [List.length_set]; exact hlen)
        have g6in : ∀ j ∈ is, sl6[j]? = sl2[j]? := fun j hj => by
          rw [e6, fo2 is _ _ j hnd hj (by rw [hsl5]; exact hlt j hj), List.getD_eq_getElem?_getD, List.getElem?_eq_getElem (by rw [hsl2]; exact hlt j hj)]
          rfl
        have g6out : ∀ j, j ∉ is → sl6[j]? = sl5[j]? := fun j hj => by
          rw [e6]
          exact fo _ _ _ fun p hp z => hj (z ▸ (List.of_mem_zip (a := p.1) (b := p.2) hp).1)
        have e7 : TA.tl sl6 = restT (TA.tl sl1) is (TA.tl sl5) := by
          rw [e6]
          refine restT_fold (by simp) fun n j t h1 h2 => ?_
          have h3 := hhid n j t h1 h2
          have h4 := hsame j (List.mem_of_getElem? h1)
          rw [tl_get, h3] at h4
          rw [List.getD_eq_getElem?_getD, ← h4]
          rfl
        refine ⟨Hs5, sl6, acc5, R6, ⟨fun hp => ?_, fun j t h1 h2 => ?_⟩, fun j hj => ?_, by rw [e7]; exact hl5⟩
        · obtain ⟨p1, p2⟩ := hpure hp
          refine ⟨?_, p2⟩
          rw [← (st2.pure hp).1]
          apply List.ext_getElem?
          intro j
          by_cases hj : j ∈ is
          · exact g6in j hj
          · rw [g6out j hj, p1, hslb j hj]
        · obtain ⟨t2, k1, k2⟩ := st2.live j t h1 h2
          by_cases hj : j ∈ is
          · exact ⟨t2, by rw [g6in j hj]; exact k1, k2⟩
          · rw [g6out j hj]
            exact hlive j t2 (by rw [hslb j hj]; exact k1) k2
        · rw [tl_get, g6in j hj, ← tl_get]
          exact hsame j hj
      refine ⟨{ B with Hs0 := Hs1 }, Hs3, wipeA sl2 is, _, xs[i], σ1, R4, dp, hh, hfree, fun σb slb Rb eb fb lb => ?_⟩
      have hσb : ∀ j, j ∉ is → σb[j]? = σ[j]? := fun j hj => by rw [(fb j hj).1, wipe_out hj]
      have hσbl : σb.length = σ.length := by rw [lb, wipe_length]
      have hslb : ∀ j, j ∉ is → slb[j]? = sl2[j]? := fun j hj => by rw [(fb j hj).2, wipeA_out hj]
      refine ⟨?_, hcond _ Hs3 H3 σb slb _ _ _ Rb (by rw [eb]; exact hl) fun c Hs4 H4 sl4 R4' st4 p4 => ?_⟩
      · apply List.ext_getElem?
        intro j
        by_cases hj : j ∈ is
        · by_cases hjl : j < σ.length
          · rw [wipe_in hj hjl, wipe_in hj (by rw [hσbl]; exact hjl)]
          · rw [List.getElem?_eq_none (by rw [wipe_length, hσbl]; omega), List.getElem?_eq_none (by rw [wipe_length]; omega)]
        · rw [wipe_out hj, wipe_out hj, hσb j hj]
      · cases c with
        | false =>
          simp only [br_f, Bool.false_eq_true, if_false] at p4 ⊢
          exact fin Hs4 H4 σb slb sl4 acc R4' hσb hσbl hslb (fun hp => ⟨(st4.pure hp).1, (st2.pure hp).2.trans ((LamX.ExtN.of sH).trans (st4.pure hp).2)⟩) st4.live p4
        | true =>
          simp only [br_t, if_true] at p4 ⊢
          refine ⟨_, Hs4, sl4, _, _, R4', p4, fun r y Hs5 H5 sl5 nw R5 rr st5 p5 => ?_⟩
          obtain ⟨x, Hs6, sl6, R6, xv, xd, st6, ⟨hz, hl6⟩, _⟩ := toV_ok (rest := []) (by rw [List.append_nil]; exact R5) rr.weak p5
          rw [List.append_nil] at R6
          have R7 := R6.perm (tp' := (tp ++ is.map fun i => sl2.getD i (.dead .non)) ++ [.nd .list D acc, x]) (by
            have : ((tp ++ [TA.nd .list D acc]) ++ (is.map fun i => sl2.getD i (TA.dead V.non)) ++ [x]).Perm ((tp ++ (is.map fun i => sl2.getD i (TA.dead V.non))) ++ [TA.nd .list D acc] ++ [x]) := by
              refine List.Perm.append_right _ ?_
              rw [List.append_assoc, List.append_assoc]
              exact List.Perm.append_left _ List.perm_append_comm
            refine this.trans ?_
            rw [List.append_assoc _ [TA.nd .list D acc] [x]]
            exact List.Perm.refl _)
          have hDn : H5 D = some (.lst (acc.map TA.v)) := by
            have := (TA.okl_append.mp R7.okT).2
            rw [TA.okl, TA.ok] at this
            exact this.1.1
          have R8 := R7.app
          have R9 := R8.perm (tp' := (tp ++ [.nd .list D (acc ++ [x])]) ++ is.map fun i => sl2.getD i (.dead .non)) (by
            rw [List.append_assoc, List.append_assoc]
            exact List.Perm.append_left _ List.perm_append_comm)
          have eM : (acc ++ [x]).map TA.v = acc.map TA.v ++ [y] := by rw [List.map_append, List.map_cons, List.map_nil, xv]
          rw [eM] at R9
          refine ⟨acc.map TA.v, hDn, by rw [List.length_map, ← tl_len]; exact hz, ?_⟩
          have st46 := (st4.trans (pu' := pu || bor) st5 id).trans (pu' := pu || bor) st6 id
          refine fin Hs6 _ σb slb sl6 (acc ++ [x]) R9 hσb hσbl hslb (fun hp => ⟨(st46.pure hp).1, ?_⟩) st46.live (by rw [tl_app]; exact hl6)
          intro z o hz2 hnt
          have h5 := (((st2.pure hp).2.trans (LamX.ExtN.of sH)).trans (st46.pure hp).2) z o hz2 hnt
          rw [upd_ne (fun e => by subst e; rw [hD] at hz2; cases hz2)]
          exact h5
  · have hi : i = xs.length := by omega
    subst hi
    rw [List.drop_length, lcW] at hl
    refine .inl ⟨wk.stop _ H2 Hs2 hq hs12 R2.sub (Nat.le_refl _), ?_⟩
    exact hk (.v (.nd .list (TA.tl acc))) (.ref D) Hs2 H2 sl2 [.nd .list D acc] (R1.unB R2) ⟨_, rfl, by rw [TA.t], rfl, rfl⟩ (st1.trans (pu' := pu || bor) st2 fun z => by rw [z]; rfl) hl
theorem le_lc {is : List Nat} {bor : Bool} {elt : E} {it : ItK} {ies cond : List E} {e0 tg iter : Expr} {ifs : List Expr} {scope : Scope} (C : CxOk X Γ b k) (hfree : ∀ i ∈ is, i ∉ Γ.pin) (hnd : is.Nodup) (hset : noSet iter = true) (hblk : blkC b.N b.sc scope (ownOf b.N is) = true) (hown : (ownOf b.N is).map (·.2) = is)
    (htg : targB (blkOf b scope) is tg = true) (hi : ∀ pu bor, PI X tg iter (LI X Γ.pin pu bor (wIt Γ pu bor it ies))) (he : ∀ X', CxOk X' Γ (blkOf b scope) k → PEc X' Γ e0 elt)
    (hc : (ifs = [] ∧ cond = []) ∨ (∃ ec c, ifs = [ec] ∧ cond = [c] ∧ ∀ X', CxOk X' Γ (blkOf b scope) k → PTc X' Γ ec c)) : PE X (.ListComp e0 [⟨tg, iter, ifs, 0⟩] scope pos) (LE X Γ.pin pu (wE Γ pu (.lc is bor elt it ies cond))) := by
  have hN : X.N.Nodup := by rw [C.N]; exact C.nd
  have hblk' : BlkOk X.N X.env.scope scope (ownOf b.N is) := by rw [C.N, C.sc]; exact blkOk_by hblk
  obtain ⟨tt, htt, hr⟩ := lc_read (X := X) (pu := pu) (bor := bor) (elt := elt) (it := it) (ies := ies) (tg := tg) C hfree hnd hown hc
  refine ⟨fun pins s σ H Q I hw => ?_⟩
  exact (pe_lc (own := ownOf b.N is) (g := LG X Γ.pin is) (tt := tt) (te := LE X Γ.pin (pu || bor) (wE Γ (pu || bor) elt)) C.calm hN (hi pu bor) hblk' (fun s' H' C0 cl fp => lg_ok (C.blk s' H' scope cl C0 fp) htg) (fun s' H' C0 cl fp => htt _ (C.blk s' H' scope cl C0 fp) rfl) (fun s' H' C0 cl fp => he _ (C.blk s' H' scope cl C0 fp) (pu || bor)) (fun x => by cases iter <;> first | rfl | (exact (Bool.noConfusion hset)))).run pins s σ H Q I (hr σ H Q I.len hw)
theorem ls_lc {i : Nat} {y : Str} {py spos : Pos} {is : List Nat} {bor : Bool} {elt : E} {it : ItK} {ies cond : List E} {e0 tg iter : Expr} {ifs : List Expr} {scope : Scope} (C : CxOk X Γ b k) (hfree : ∀ i ∈ is, i ∉ Γ.pin) (hnd : is.Nodup) (hset : noSet iter = true) (hblk : blkC b.N b.sc scope (ownOf b.N is) = true) (hown : (ownOf b.N is).map (·.2) = is)
    (htg : targB (blkOf b scope) is tg = true) (hi : ∀ pu bor, PI X tg iter (LI X Γ.pin pu bor (wIt Γ pu bor it ies))) (he : ∀ X', CxOk X' Γ (blkOf b scope) k → PEc X' Γ e0 elt)
    (hc : (ifs = [] ∧ cond = []) ∨ (∃ ec c, ifs = [ec] ∧ cond = [c] ∧ ∀ X', CxOk X' Γ (blkOf b scope) k → PTc X' Γ ec c)) (hy : b.N[i]? = some y) (hyl : b.sc.names.lookup y = some .local) (hl : (py.line == pos.line) = true)
    (ha : (scope.names.any fun (n, k) => n == y && (k == .local || k == .cell)) = false) : PS X (.Assign [.Name y py] (.ListComp e0 [⟨tg, iter, ifs, 0⟩] scope pos) spos) (tAsg (LE X Γ.pin false (wE Γ false (.lc is bor elt it ies cond))) (gName i)) := by
  have hN : X.N.Nodup := by rw [C.N]; exact C.nd
  have hblk' : BlkOk X.N X.env.scope scope (ownOf b.N is) := by rw [C.N, C.sc]; exact blkOk_by hblk
  obtain ⟨tt, htt, hr⟩ := lc_read (X := X) (pu := false) (bor := bor) (elt := elt) (it := it) (ies := ies) (tg := tg) C hfree hnd hown hc
  refine ⟨fun pins s σ H D I hw => ?_⟩
  exact (ps_setLc (own := ownOf b.N is) (g := LG X Γ.pin is) (tt := tt) (te := LE X Γ.pin (false || bor) (wE Γ (false || bor) elt)) C.calm hN (by rw [C.N]; exact hy) (by rw [C.sc]; exact hyl) (sw_true I.ok.kind (by rw [C.sc]; exact hyl) hl ha) (hi false bor) hblk' (fun s' H' C0 cl fp => lg_ok (C.blk s' H' scope cl C0 fp) htg) (fun s' H' C0 cl fp => htt _ (C.blk s' H' scope cl C0 fp) rfl) (fun s' H' C0 cl fp => he _ (C.blk s' H' scope cl C0 fp) (false || bor)) (fun x => by cases iter <;> first | rfl | (exact (Bool.noConfusion hset)))).run pins s σ H D I (hr σ H _ I.len hw)
end
section
variable {X : Cx} {Γ : Ctx} {b : Blk} {k : Nat} {pos : Pos} {ea eb : Expr} {p q : E} {pu : Bool}
def rRepr (K : PySem.W.Frag) : List V → Hp → VK → Prop := fun xs H Q => ∃ v d, xs = [v] ∧ Dp K H v d ∧ d.canLay0 = true ∧ d.depth ≤ 64 ∧ d.showable = true ∧ d.shown.length ≤ sizeLine ∧ Q (.str d.shown) H
theorem call_reprD (hgd : X.A.guards = some []) (hu : X.A.units + 80 < cLine) : CallR X (.builtin "repr") (rRepr X.K) := by
  intro pins s σ H xs us Q I r h
  obtain ⟨v, d, rfl, hd, hl, h64, hs, hz, q⟩ := h
  obtain ⟨u, rfl, ru⟩ := vals1 r
  cases d with
  | none => cases hd; cases ru; exact PySem.P.repr_of_none ⟨.str _, H, I.tok _, ⟨_, rfl⟩, q⟩
  | bool b => cases hd; cases ru; exact PySem.P.repr_of_bool ⟨.str _, H, I.tok _, ⟨_, rfl⟩, q⟩
  | int i =>
    cases hd
    obtain ⟨t, rfl⟩ := ru
    exact PySem.P.repr_of_int (by simpa [PyData.showable] using hs) ⟨.str _, H, I.tok _, ⟨_, rfl⟩, q⟩
  | str x =>
    cases hd
    obtain ⟨t, rfl⟩ := ru
    exact PySem.P.repr_of_str ⟨.str _, H, I.tok _, ⟨_, rfl⟩, q⟩ hz
  | list ds =>
    obtain ⟨as, rd⟩ := Dp.reads I _ _ _ hd ru
    cases hd with
    | lst _ _ =>
      cases ru
      exact repr_of_reads' rd hs (PyData.noDict_hsm (PyData.hasDict_of_canLay _ hl)) hgd (by omega) (fun _ _ e => e) (fun h' u tk hk => ⟨.str _, H, I.kept hk, ⟨_, rfl⟩, q⟩) hz
  | tuple ds =>
    obtain ⟨as, rd⟩ := Dp.reads I _ _ _ hd ru
    cases hd with
    | tup _ _ =>
      cases ru
      exact repr_of_reads' rd hs (PyData.noDict_hsm (PyData.hasDict_of_canLay _ hl)) hgd (by omega) (fun _ _ e => e) (fun h' u tk hk => ⟨.str _, H, I.kept hk, ⟨_, rfl⟩, q⟩) hz
  | dict kvs => cases hd
theorem le_rpr {x : Str} {p0 : Pos} (C : CxOk X Γ b k) (hx : bltCall Γ.sk b "repr" x = true) (hs : noStar ea = true) (h : PEc X Γ ea p) : PE X (.Call (.Name x p0) [ea] [] pos) (LE X Γ.pin pu (wE Γ pu (.rpr p))) := by
  obtain ⟨rfl, hg, hm, hd, hnm⟩ := bltCall_of C hx
  refine ⟨fun pins s σ H Q I hw => ?_⟩
  obtain ⟨B, Hs, sl, tp, P, R0, hw, hk⟩ := hw
  rw [wE] at hw
  have hu := C.room.un
  refine (pe_callB (call_reprD C.gd (by omega)) hg hm (by decide +kernel) (pa_cons (h pu) pa_nil (star_of hs)) hnm hd (star_of hs) (stars_of rfl)).run pins s σ H Q I ⟨B, Hs, sl, tp, _, R0, hw, fun ra v Hs1 H1 sl1 nw1 R1 rr1 st1 p1 => ?_⟩
  split at p1
  · rename_i d hdt
    obtain ⟨h1, h2, h3, h4, p1⟩ := p1
    exact ⟨v, d, rfl, (rr1.dp R1 hdt).dp h1, h1, h2, h3, h4, Cont.leaf hk R1.drop (.str _) st1 p1⟩
  · exact p1.elim
theorem RpAll.up {K : PySem.W.Frag} {H H' : Hp} (e : Same H H') {vs : List V} {ds : List PyData} (h : RpAll K H vs ds) : RpAll K H' vs ds := RpAll.mono e h
/-- comparisons that end in a truth value -/
abbrev OpOk (X : Cx) (Γ : Ctx) (oo : CmpOp) (w : R → R → St → (Bool → Prop) → Prop) : Prop := ∀ {pins : List (Addr × Obj)} {s : Shared} {σ : L2.St} {H2 Hs2 : Hp} {B : Bs} {sl2 tp nw1 nw2 : List TA} {x y : V} {v u : Value} {ra rb : R} {Q : VK} {Kk : Bool → Prop}, Inv X pins σ H2 s → RelV x v → RelV y u → Rel X.K B Hs2 H2 σ sl2 ((tp ++ nw1) ++ nw2) → RR ra x sl2 nw1 → RR rb y sl2 nw2 → w ra rb (TA.tl sl2) Kk → (∀ z, Kk z → Q (.bl z) H2) →
    wpAny (model X.prog X.w) X.A (compareOp oo v u) (EP X pins σ Q) X.xe s
theorem le_op {oo : CmpOp} {w : R → R → St → (Bool → Prop) → Prop} {c : E} (hc : ∀ σ K, wE Γ pu c σ K = wE Γ pu p σ fun ra σ1 => wE Γ (pu || !ra.top) q σ1 fun rb σ2 => w ra rb σ2 fun z => K (.v (.d (.bool z))) σ2) (hop : OpOk X Γ oo w) (hs : noSet eb = true) (ha : PEc X Γ ea p) (hb : PEc X Γ eb q) : PE X (.Compare ea [oo] [eb] pos) (LE X Γ.pin pu (wE Γ pu c)) := by
  refine ⟨fun pins s σ H Q I hw => ?_⟩
  obtain ⟨B, Hs, sl, tp, P, R0, hw, hk⟩ := hw
  rw [hc] at hw
  refine wpAny_Compare1 (two (pb := fun _ => pu) (wb := fun _ => wE Γ pu q) (wb' := fun pu' => wE Γ pu' q) R0 hw hb I (ha pu) fun v u s2 x y H2 ra rb Hs2 sl2 nw1 nw2 I2 rx ry R2 r1 r2 st h => hop I2 rx ry R2 r1 r2 h fun z hz => Cont.leaf hk R2.drop.drop (.bl z) st hz) ?_
  cases eb <;> first | rfl | (exact (Bool.noConfusion hs))
theorem lr_op {oo : CmpOp} {w : R → R → St → (Bool → Prop) → Prop} {c : E} (hc : ∀ σ K, wE Γ pu c σ K = wE Γ pu p σ fun ra σ1 => wE Γ (pu || !ra.top) q σ1 fun rb σ2 => w ra rb σ2 fun z => K (.v (.d (.bool z))) σ2) (hop : OpOk X Γ oo w) (hs : noSet eb = true) (ha : PEc X Γ ea p) (hb : PEc X Γ eb q) : PT X (.Compare ea [oo] [eb] pos) (LR X Γ.pin pu (wE Γ pu c)) := by
  refine ⟨fun pins s σ H Q I hw => ?_⟩
  obtain ⟨B, Hs, sl, tp, P, R0, hw, hk⟩ := hw
  rw [hc] at hw
  refine wpAny_isTrue_Compare1 (two (pb := fun _ => pu) (wb := fun _ => wE Γ pu q) (wb' := fun pu' => wE Γ pu' q) R0 hw hb I (ha pu) fun v u s2 x y H2 ra rb Hs2 sl2 nw1 nw2 I2 rx ry R2 r1 r2 st h => thn (hop (Q := fun z H' => ∃ c, z = .bl c ∧ Q c H') I2 rx ry R2 r1 r2 h fun z hz => ⟨z, rfl, ?_⟩) fun w s3 ⟨x3, H3, I3, r3, c, e3, q3⟩ => ?_) ?_
  · exact hk (.v (.d (.bool z))) (.bl z) z Hs2 H2 sl2 [.d (.bl z) (.bool z)] (R2.drop.drop.leaf (.bl z)) ⟨_, rfl, rfl, rfl, rfl⟩ st (fun Kk h => h) hz
  · subst e3
    cases r3
    exact wpAny_truthy_bool ⟨H3, I3, q3⟩
  · cases eb <;> first | rfl | (exact (Bool.noConfusion hs))
end
section
variable {X : Cx} {Γ : Ctx} {b : Blk} {k : Nat} {pos : Pos} {ea eb ec : Expr} {p q r : E} {pu : Bool}
theorem le_frz (h : PEc X Γ ea p) : PE X ea (LE X Γ.pin pu (wE Γ pu (.frz p))) := by
  refine ⟨fun pins s σ H Q I hw => ?_⟩
  obtain ⟨B, Hs, sl, tp, P, R0, hw, hk⟩ := hw
  rw [wE] at hw
  refine (h pu).run pins s σ H Q I ⟨B, Hs, sl, tp, _, R0, hw, fun r v Hs1 H1 sl1 nw R1 rr st p1 => ?_⟩
  obtain ⟨x, Hs2, sl2, R2, e1, e2, st2, hp, _⟩ := toV_ok (rest := []) (by simpa using R1) rr.weak p1
  rw [List.append_nil] at R2
  split at hp
  · rename_i y hy
    subst e1
    exact hk (.v (.d y)) x.v _ _ sl2 [.d x.v y] (R2.frzT hy) ⟨_, rfl, rfl, rfl, rfl⟩ (st.trans st2 id) hp
  · exact hp.elim
theorem Rp.key {K : PySem.W.Frag} {H : Hp} (kk : Key) : Rp K H (kV kk) (keyD kk) := by
  cases kk with
  | inl i => exact .int i
  | inr x => exact .str x
end
/-- what stands of the shared heap while a list is made at D -/
structure LcT (K : PySem.W.Frag) (H Hc : Hp) (D : Addr) (H2 Hc2 : Hp) : Prop where
  ex : ExtT K H H2
  s1 : Same Hc Hc2
  s2 : Same Hc2 H2
  fr : ∀ a, Hc2 a ≠ none → Hc a ≠ none ∨ H a = none
  dn : Hc2 D = none
  tab : TabsV K Hc2 H2
theorem LcT.app {K : PySem.W.Frag} {H Hc H2 Hc2 : Hp} {D : Addr} {vs ws : List V} (L : LcT K H Hc D H2 Hc2) (hH : H D = none) (hD : H2 D = some (.lst vs)) : LcT K H Hc D (upd H2 D (.lst ws)) Hc2 := by
  refine ⟨fun a o e n => ?_, L.s1, fun a o e => ?_, L.fr, L.dn, L.tab.to (fun a ps e => ?_) (fun c q e => e) L.tab.n⟩
  · rw [upd_ne fun z => by rw [z, hH] at e; cases e]
    exact L.ex a o e n
  · rw [upd_ne fun z => by rw [z, L.dn] at e; cases e]
    exact L.s2 a o e
  · rw [upd_ne fun z => by rw [z, hD] at e; cases e]
    exact e
section
variable {X : Cx} {Γ : Ctx} {b : Blk} {k : Nat} {pos : Pos} {ea eb ec : Expr} {p q r : E} {pu : Bool}
theorem NmV.cls {mg : Str → Option Value} {h : Str} {v : V} {cv : Value} (n : NmV mg h v cv) : ClsV v cv := by
  rcases n with ⟨a, _, rfl, rfl⟩ | ⟨t, _, _, rfl, rfl⟩
  · exact .own a
  · exact .ty t
theorem NmV.pe {h : Str} {v : V} {cv : Value} {p0 : Pos} (n : NmV X.mg h v cv) (hg : Gl X h) (hn : okNm h = true) : PE X (.Name h p0) (tC v) := by
  rcases n with ⟨a, hm, rfl, rfl⟩ | ⟨t, hm, hb, rfl, rfl⟩
  · exact pe_glob hg hm rfl (okNm_of hn).1
  · exact pe_bltn hg hm hb rfl (okNm_of hn).2.2 (okNm_of hn).1
end
end VL
namespace VL
open PySem PySem.Spec PyProof.Rows L2
section
variable {X : Cx} {Γ : Ctx} {b : Blk} {k : Nat} {pos : Pos} {ea eb : Expr} {p q : E} {pu : Bool}
theorem le_call0 {f x : Str} {p0 : Pos} (C : CxOk X Γ b k) (hx : f = x) (hf : Γ.sk.fn.contains f = true) (hg : globB b.sc x = true) (hn : okNm x = true) : PE X (.Call (.Name x p0) [] [] pos) (LE X Γ.pin pu (wE Γ pu (.call f []))) := by
  subst hx
  refine ⟨fun pins s σ H Q I hw => ?_⟩
  obtain ⟨B, Hs, sl, tp, P, R0, hw, hk⟩ := hw
  rw [wE, wA] at hw
  obtain ⟨fs, hfn⟩ := Option.isSome_iff_exists.mp (fn_some hf)
  obtain ⟨a, fd, ps, F, hm, hkp, hb⟩ := C.fns f fs hfn
  rw [hfn] at hw
  have hsp : spV X.K fs.md fs.F ([] ++ []) H Q E0 := call_ok (rs := []) (vs := []) (nws := []) (by simpa using R0) .nil (.refl (pu := pu)) hw hk
  exact wpAny_Call_Name_kw (ld_glob I (C.gl hg) hm (PySem.W.callWith_K0 I.kIn hkp (runG (us := []) F C.room C.gd hb .nil pass0 I .nil hsp)) (okNm_of hn).1)
end
end VL
namespace PySem.SeqAt
open AutoSeq1 (wpAny_loadPart')
open MeetsSeq MeetsSeq2 MeetsSeq3 SeqRoads2
end PySem.SeqAt
namespace L2
open PySem PySem.Spec PyProof.Rows
end L2
namespace L2
open PySem PySem.Spec PyProof.Rows
end L2
namespace L2
open PySem PySem.Spec PyProof.Rows
end L2
set_option maxHeartbeats 1000000
set_option maxHeartbeats 2000000
set_option maxHeartbeats 4000000
set_option maxHeartbeats 1000000
set_option maxHeartbeats 4000000
namespace VL
open PySem PySem.Spec PyProof.Rows L2
theorem strLeafs {K : PySem.W.Frag} {Hs : Hp} : ∀ ys : List Str, RpAll K Hs (ys.map V.str) (ys.map PyData.str)
  | [] => .nil
  | y :: ys => .cons (.str y) (strLeafs ys)
theorem strsD_v {K : PySem.W.Frag} {H : Hp} : ∀ {vs : List V} {ds : List PyData} {ss : List Str}, RpAll K H vs ds → strsD ds = some ss → vs = ss.map V.str
  | _, _, _, .nil, h => by
    rw [strsD] at h
    cases h
    rfl
  | _, _, _, .cons (d := d) a b, h => by
    cases d with
    | str s =>
      rw [strsD, Option.map_eq_some_iff] at h
      obtain ⟨ss, h1, rfl⟩ := h
      cases a
      rw [List.map_cons, ← strsD_v b h1]
    | _ => simp [strsD] at h
section
variable {X : Cx} {Γ : Ctx} {b : Blk} {k : Nat} {pos : Pos} {eo ea eb : Expr} {o p q : E} {pu : Bool}
theorem le_spl {ap cp : Pos} (hno : noCall eo = true) (hline : (ap.endLine == cp.line) = true) (hs : noStar ea = true) (ho : PEc X Γ eo o) (h : PEc X Γ ea p) : PE X (.Call (.Attribute eo "split" ap) [ea] [] cp) (LE X Γ.pin pu (wE Γ pu (.spl o p))) := by
  refine ⟨fun pins s σ H Q I hw => ?_⟩
  obtain ⟨B, Hs, sl, tp, P, R0, hw, hk⟩ := hw
  rw [wE] at hw
  have hb2 : PE X ea (fun σ H Q => ∃ pu', LE X Γ.pin pu' (wE Γ pu' p) σ H Q) := ⟨fun pins s σ H Q I ⟨pu', h'⟩ => (h pu').run pins s σ H Q I h'⟩
  refine (pe_split (ho pu) hb2 (star_of hs) (base_of hno) hline).run pins s σ H Q I ⟨B, Hs, sl, tp, _, R0, hw, fun ra v Hs1 H1 sl1 nw1 R1 rr1 st1 p1 => ?_⟩
  split at p1
  · rename_i a e1
    have := (rr1.dpT R1 e1).2.str_v
    subst this
    refine ⟨⟨a, rfl⟩, pu || !ra.top, B, Hs1, sl1, tp ++ nw1, _, R1, p1, fun rb u Hs2 H2 sl2 nw2 R2 rr2 st2 p2 => ?_⟩
    split at p2
    · rename_i c e2
      have := (rr2.dpT R2 e2).2.str_v
      subst this
      obtain ⟨⟨h1, h2⟩, p2⟩ := p2
      refine ⟨a, c, rfl, rfl, h1, h2, fun l hl => ?_⟩
      obtain ⟨g1, g2, g3, g4⟩ := leafs_ok (H := H2) (strLeafs (K := X.K) (Hs := Hs2) (Txt.split a c))
      have := Cont.lst hk (R2.drop.drop.leaves g1 g2) hl (st1.trans st2 fun z => by rw [z]; rfl) (by rw [g3, List.map_map]; exact p2)
      rw [g4] at this
      exact this
    · exact p2.elim
  · exact p1.elim
theorem le_jn {ap cp : Pos} (hno : noCall eo = true) (hline : (ap.endLine == cp.line) = true) (hs : noStar ea = true) (ho : PEc X Γ eo o) (h : PEc X Γ ea p) : PE X (.Call (.Attribute eo "join" ap) [ea] [] cp) (LE X Γ.pin pu (wE Γ pu (.jn o p))) := by
  refine ⟨fun pins s σ H Q I hw => ?_⟩
  obtain ⟨B, Hs, sl, tp, P, R0, hw, hk⟩ := hw
  rw [wE] at hw
  have hb2 : PE X ea (fun σ H Q => ∃ pu', LE X Γ.pin pu' (wE Γ pu' p) σ H Q) := ⟨fun pins s σ H Q I ⟨pu', h'⟩ => (h pu').run pins s σ H Q I h'⟩
  refine (pe_join (ho pu) hb2 (star_of hs) (base_of hno) hline).run pins s σ H Q I ⟨B, Hs, sl, tp, _, R0, hw, fun ra v Hs1 H1 sl1 nw1 R1 rr1 st1 p1 => ?_⟩
  split at p1
  · rename_i a e1
    have := (rr1.dpT R1 e1).2.str_v
    subst this
    refine ⟨⟨a, rfl⟩, pu || !ra.top, B, Hs1, sl1, tp ++ nw1, _, R1, p1, fun rb u Hs2 H2 sl2 nw2 R2 rr2 st2 p2 => ?_⟩
    split at p2
    · rename_i ys e2
      have d := rr2.dp R2 e2
      split at p2
      · rename_i ss e3
        obtain ⟨h1, p2⟩ := p2
        cases d with
        | lst hr ha =>
          have := strsD_v ha e3
          subst this
          exact ⟨a, _, ss, rfl, rfl, .inl hr, h1, Cont.leaf hk R2.drop.drop (.str _) (st1.trans st2 fun z => by rw [z]; rfl) p2⟩
      · exact p2.elim
    · exact p2.elim
  · exact p1.elim
theorem op_ind (neg : Bool) (hu : X.A.units + 65 < cLine) : OpOk X Γ (copO (if neg then .notin else .isin)) (fun ra rb σ Kk => match ra.data σ, rb.data σ with
    | some x, some (.list ys) => SeqAt.shaped x = true ∧ SeqAt.shaped (.list ys) = true ∧ Kk ((ys.any fun z => PyData.eqv z x) != neg)
    | _, _ => False) := by
  intro pins s σ H2 Hs2 B sl2 tp nw1 nw2 x y v u ra rb Q Kk I rx ry R2 r1 r2 h q
  split at h
  · rename_i d ys e1 e2
    obtain ⟨s1, s2, h⟩ := h
    have g1 := (r1.dp R2.drop e1).dp (SeqAt.canLay_of_shaped s1)
    have g2 := (r2.dp R2 e2).dp (SeqAt.canLay_of_shaped s2)
    have eo : copO (if neg = true then COp.notin else COp.isin) = if neg = true then CmpOp.NotIn else CmpOp.In := by cases neg <;> rfl
    rw [eo]
    cases neg with
    | false =>
      have h : Kk (ys.any fun z => PyData.eqv z d) := by rw [Bool.bne_false] at h; exact h
      exact op_inD hu pins s σ H2 x y v u Q I rx ry ⟨d, ys, g1, g2, s1, s2, q _ h⟩
    | true =>
      have h : Kk (!(ys.any fun z => PyData.eqv z d)) := by rw [Bool.bne_true] at h; exact h
      exact op_notInD hu pins s σ H2 x y v u Q I rx ry ⟨d, ys, g1, g2, s1, s2, q _ h⟩
  · exact h.elim
theorem le_ind {neg : Bool} (C : CxOk X Γ b k) (hs : noSet eb = true) (ha : PEc X Γ ea p) (hb : PEc X Γ eb q) : PE X (.Compare ea [copO (if neg then .notin else .isin)] [eb] pos) (LE X Γ.pin pu (wE Γ pu (.ind neg p q))) :=
  le_op (w := fun ra rb σ Kk => match ra.data σ, rb.data σ with
    | some x, some (.list ys) => SeqAt.shaped x = true ∧ SeqAt.shaped (.list ys) = true ∧ Kk ((ys.any fun z => PyData.eqv z x) != neg)
    | _, _ => False) (fun σ K => by rw [wE]; try rfl) (op_ind (Γ := Γ) neg (by have hu := C.room.un; omega)) hs ha hb
theorem lr_ind {neg : Bool} (C : CxOk X Γ b k) (hs : noSet eb = true) (ha : PEc X Γ ea p) (hb : PEc X Γ eb q) : PT X (.Compare ea [copO (if neg then .notin else .isin)] [eb] pos) (LR X Γ.pin pu (wE Γ pu (.ind neg p q))) :=
  lr_op (w := fun ra rb σ Kk => match ra.data σ, rb.data σ with
    | some x, some (.list ys) => SeqAt.shaped x = true ∧ SeqAt.shaped (.list ys) = true ∧ Kk ((ys.any fun z => PyData.eqv z x) != neg)
    | _, _ => False) (fun σ K => by rw [wE]; try rfl) (op_ind (Γ := Γ) neg (by have hu := C.room.un; omega)) hs ha hb
end
structure Snd (X : Cx) (Γ : Ctx) (e : Expr) (c : E) : Prop where
  pe : PEc X Γ e c
  pt : PTc X Γ e c
  pw : ∀ op es pos, e = .BoolOp op es pos → PWc X Γ e c
theorem Snd.plain {X : Cx} {Γ : Ctx} {e : Expr} {c : E} (h : PEc X Γ e c) (he : ∀ whole, isTrue e X.env whole = (do let v ← whole; standAt e.pos; holding [v] (truthy v))) (hb : ∀ op es pos, e ≠ .BoolOp op es pos) : Snd X Γ e c :=
  ⟨h, fun _ => lr_plain h he, fun op es pos z => absurd z (hb op es pos)⟩
mutual
theorem sE (Γ : Ctx) (k : Nat) : ∀ (c : E) (b : Blk) (e : Expr) (X : Cx), CxOk X Γ b k → chk Γ.sk b c e = true → Snd X Γ e c
  | .var i, b, e, X, C, h => by
    unfold chk at h
    split at h
    · exact .plain (fun _ => le_var C h) (fun _ => rfl) (fun _ _ _ z => by cases z)
    · cases h
  | .k c, b, e, X, C, h => by
    unfold chk at h
    split at h
    · exact .plain (fun _ => le_k h) (fun _ => rfl) (fun _ _ _ z => by cases z)
    · cases h
  | .glob g, b, e, X, C, h => by
    unfold chk at h
    split at h
    · exact .plain (fun _ => le_glob C h) (fun _ => rfl) (fun _ _ _ z => by cases z)
    · cases h
  | .bin op p q, b, e, X, C, h => by
    unfold chk at h
    split at h
    · simp only [Bool.and_eq_true] at h
      obtain ⟨⟨h1, h2⟩, h3⟩ := h
      have e1 := bopIs_eq h1
      subst e1
      exact .plain (fun _ => le_bin (sE Γ k p b _ X C h2).pe (sE Γ k q b _ X C h3).pe) (fun _ => rfl) (fun _ _ _ z => by cases z)
    · cases h
  | .neg p, b, e, X, C, h => by
    unfold chk at h
    split at h
    · exact .plain (fun _ => le_neg (sE Γ k p b _ X C h).pe) (fun _ => rfl) (fun _ _ _ z => by cases z)
    · cases h
  | .not p, b, e, X, C, h => by
    unfold chk at h
    split at h
    · have ih := sE Γ k p b _ X C h
      exact ⟨fun _ => le_not ih.pe, fun _ => lr_not ih.pt, fun _ _ _ z => by cases z⟩
    · cases h
  | .cmp op p q, b, e, X, C, h => by
    unfold chk at h
    split at h
    · simp only [Bool.and_eq_true] at h
      obtain ⟨⟨⟨h1, h2⟩, h3⟩, h4⟩ := h
      have e1 := copIs_eq h1
      subst e1
      have i1 := (sE Γ k p b _ X C h3).pe
      have i2 := (sE Γ k q b _ X C h4).pe
      exact ⟨fun _ => le_cmp C h2 i1 i2, fun _ => lr_cmp C h2 i1 i2, fun _ _ _ z => by cases z⟩
    · cases h
  | .chain op op' p q r, b, e, X, C, h => by
    unfold chk at h
    split at h
    · simp only [Bool.and_eq_true] at h
      obtain ⟨⟨⟨⟨⟨⟨h1, h2⟩, h3⟩, h4⟩, h5⟩, h6⟩, h7⟩ := h
      have e1 := copIs_eq h1
      have e2 := copIs_eq h2
      subst e1 e2
      have i1 := (sE Γ k p b _ X C h5).pe
      have i2 := (sE Γ k q b _ X C h6).pe
      have i3 := (sE Γ k r b _ X C h7).pe
      exact ⟨fun _ => le_chain C h3 h4 i1 i2 i3, fun _ => lr_chain C h3 h4 i1 i2 i3, fun _ _ _ z => by cases z⟩
    · cases h
  | .and p q, b, e, X, C, h => by
    unfold chk at h
    split at h
    · rename_i e1 e2 es pos
      simp only [Bool.and_eq_true] at h
      have i1 := sE Γ k p b _ X C h.1
      have key : PEc X Γ (.BoolOp .And (e2 :: es) pos) q ∧ PWc X Γ (.BoolOp .And (e2 :: es) pos) q := by
        cases es with
        | nil =>
          have i2 := sE Γ k q b _ X C h.2
          exact ⟨fun pu => pe_one (i2.pe pu), fun pu => pw_and1 (i2.pt pu)⟩
        | cons e3 es =>
          have i2 := sE Γ k q b _ X C h.2
          exact ⟨i2.pe, i2.pw _ _ _ rfl⟩
      exact ⟨fun _ => le_and i1.pe key.1, fun _ => (lr_and i1.pt key.2).pt, fun _ _ _ _ _ => lr_and i1.pt key.2⟩
    · cases h
  | .or p q, b, e, X, C, h => by
    unfold chk at h
    split at h
    · rename_i e1 e2 es pos
      simp only [Bool.and_eq_true] at h
      have i1 := sE Γ k p b _ X C h.1
      have key : PEc X Γ (.BoolOp .Or (e2 :: es) pos) q ∧ PWc X Γ (.BoolOp .Or (e2 :: es) pos) q := by
        cases es with
        | nil =>
          have i2 := sE Γ k q b _ X C h.2
          exact ⟨fun pu => pe_one (i2.pe pu), fun pu => pw_or1 (i2.pt pu)⟩
        | cons e3 es =>
          have i2 := sE Γ k q b _ X C h.2
          exact ⟨i2.pe, i2.pw _ _ _ rfl⟩
      exact ⟨fun _ => le_or i1.pe key.1, fun _ => (lr_or i1.pt key.2).pt, fun _ _ _ _ _ => lr_or i1.pt key.2⟩
    · cases h
  | .ix o i, b, e, X, C, h => by
    unfold chk at h
    split at h
    · simp only [Bool.and_eq_true] at h
      exact .plain (fun _ => le_ix h.1.1 (sE Γ k o b _ X C h.1.2).pe (sE Γ k i b _ X C h.2).pe) (fun _ => rfl) (fun _ _ _ z => by cases z)
    · cases h
  | .sl lo hi o es, b, e, X, C, h => by
    unfold chk at h
    split at h
    · simp only [Bool.and_eq_true] at h
      have i1 := (sE Γ k o b _ X C h.1).pe
      refine .plain (fun _ => le_sl i1 ?_) (fun _ => rfl) (fun _ _ _ z => by cases z)
      have h2 := h.2
      split at h2
      · simp only [Bool.and_eq_true, Bool.not_eq_true'] at h2
        obtain ⟨⟨h3, h4⟩, h5⟩ := h2
        have := (sL Γ k es b _ X C h5).2
        exact .inl ⟨rfl, rfl, h3, h4, by cases es with | nil => rfl | cons _ _ => cases this⟩
      · simp only [Bool.and_eq_true, Bool.not_eq_true'] at h2
        obtain ⟨⟨h3, h4⟩, h5⟩ := h2
        have := (sL Γ k es b _ X C h5).2
        cases this with
        | cons a b' =>
          cases b'
          exact .inr (.inl ⟨_, _, rfl, rfl, h3, h4, rfl, a.pe⟩)
      · simp only [Bool.and_eq_true, Bool.not_eq_true'] at h2
        obtain ⟨⟨h3, h4⟩, h5⟩ := h2
        have := (sL Γ k es b _ X C h5).2
        cases this with
        | cons a b' =>
          cases b'
          exact .inr (.inr (.inl ⟨_, _, rfl, rfl, h3, h4, rfl, a.pe⟩))
      · simp only [Bool.and_eq_true] at h2
        obtain ⟨⟨h3, h4⟩, h5⟩ := h2
        have := (sL Γ k es b _ X C h5).2
        cases this with
        | cons a b' =>
          cases b' with
          | cons a2 b2 =>
            cases b2
            exact .inr (.inr (.inr ⟨_, _, _, _, rfl, rfl, h3, h4, rfl, a.pe, a2.pe⟩))
    · cases h
  | .spl o p, b, e, X, C, h => by
    unfold chk at h
    split at h
    · simp only [Bool.and_eq_true, decide_eq_true_eq] at h
      obtain ⟨⟨⟨⟨⟨rfl, h2⟩, h3⟩, h4⟩, h5⟩, h6⟩ := h
      exact .plain (fun _ => le_spl h2 h3 h4 (sE Γ k o b _ X C h5).pe (sE Γ k p b _ X C h6).pe) (fun _ => rfl) (fun _ _ _ z => by cases z)
    · cases h
  | .jn o p, b, e, X, C, h => by
    unfold chk at h
    split at h
    · simp only [Bool.and_eq_true, decide_eq_true_eq] at h
      obtain ⟨⟨⟨⟨⟨rfl, h2⟩, h3⟩, h4⟩, h5⟩, h6⟩ := h
      exact .plain (fun _ => le_jn h2 h3 h4 (sE Γ k o b _ X C h5).pe (sE Γ k p b _ X C h6).pe) (fun _ => rfl) (fun _ _ _ z => by cases z)
    · cases h
  | .lst es, b, e, X, C, h => by
    unfold chk at h
    split at h
    · exact .plain (fun _ => le_lst (sL Γ k es b _ X C h).1.2) (fun _ => rfl) (fun _ _ _ z => by cases z)
    · cases h
  | .tup es, b, e, X, C, h => by
    unfold chk at h
    split at h
    · exact .plain (fun _ => le_tup (sL Γ k es b _ X C h).1.2) (fun _ => rfl) (fun _ _ _ z => by cases z)
    · cases h
  | .call f es, b, e, X, C, h => by
    unfold chk at h
    split at h
    · simp only [Bool.and_eq_true, decide_eq_true_eq] at h
      obtain ⟨⟨⟨⟨h1, h2⟩, h3⟩, h4⟩, h5⟩ := h
      have i := (sL Γ k es b _ X C h5).1
      exact .plain (fun _ => le_call C h1 h2 h3 h4 i.1 i.2) (fun _ => rfl) (fun _ _ _ z => by cases z)
    · simp only [Bool.and_eq_true, decide_eq_true_eq, List.isEmpty_iff] at h
      obtain ⟨⟨⟨⟨h1, h2⟩, h3⟩, h4⟩, h5⟩ := h
      subst h5
      exact .plain (fun _ => le_call0 C h1 h2 h3 h4) (fun _ => rfl) (fun _ _ _ z => by cases z)
    · cases h
  | .blt t es, b, e, X, C, h => by
    unfold chk at h
    split at h
    · split at h
      · split at h
        · simp only [Bool.and_eq_true] at h
          have i := sL Γ k es b _ X C h.2
          have i2 := i.2
          cases i2 with
          | cons a b' =>
            cases b'
            have hst := i.1.1
            simp only [List.all_cons, Bool.and_eq_true] at hst
            exact .plain (fun _ => le_listRange C h.1.1 h.1.2 hst.1 i.1.2 ⟨_, rfl, a.pe⟩) (fun _ => rfl) (fun _ _ _ z => by cases z)
        · cases h
      · rename_i t hne
        simp only [Bool.and_eq_true] at h
        have i := (sL Γ k es b _ X C h.2).1
        exact .plain (fun _ => le_blt C hne h.1 i.1 i.2) (fun _ => rfl) (fun _ _ _ z => by cases z)
    · cases h
  | .isi p ty, b, e, X, C, h => by
    unfold chk at h
    split at h
    · simp only [Bool.and_eq_true] at h
      obtain ⟨⟨⟨⟨h1, h2⟩, h3⟩, h4⟩, h5⟩ := h
      exact .plain (fun _ => le_isi C h1 h2 h3 h4 (sE Γ k p b _ X C h5).pe) (fun _ => rfl) (fun _ _ _ z => by cases z)
    · cases h
  | .mth m o es, b, e, X, C, h => by
    unfold chk at h
    split at h
    · simp only [Bool.and_eq_true, decide_eq_true_eq] at h
      obtain ⟨⟨⟨⟨⟨h1, h2⟩, h3⟩, h4⟩, h5⟩, h6⟩ := h
      have i := sL Γ k es b _ X C h6
      exact .plain (fun _ => le_mth h1 h2 h3 h4 i.1.1 (sE Γ k o b _ X C h5).pe i.1.2 (fun z => by subst z; cases es with | nil => rfl | cons _ _ => cases i.2)) (fun _ => rfl) (fun _ _ _ z => by cases z)
    · cases h
  | .lc is bor elt it ies cond, b, e, X, C, h => by
    unfold chk at h
    split at h
    · simp only [Bool.and_eq_true, decide_eq_true_eq, beq_iff_eq] at h
      obtain ⟨⟨⟨⟨⟨⟨⟨⟨⟨⟨⟨h1, h2⟩, h3⟩, h4⟩, h5⟩, h6⟩, h7⟩, h8⟩, h9⟩, h10⟩, h11⟩, h12⟩ := h
      subst h1
      refine .plain (fun _ => le_lc C (fun i hi z => ?_) h3 h4 h5 h6 h7 (fun pu bor => sI Γ k it ies b _ X _ C h8 h12) (fun X' C' => (sE Γ k elt _ _ X' C' h9).pe) ?_) (fun _ => rfl) (fun _ _ _ z => by cases z)
      · have := List.all_eq_true.mp h2 i hi
        simp at this
        exact this z
      · rename_i ifs _ _ _
        cases ifs with
        | nil => exact .inl ⟨rfl, by cases cond with | nil => rfl | cons _ _ => simp [chkL] at h10⟩
        | cons ec ifs =>
          cases ifs with
          | cons _ _ => simp at h11
          | nil =>
            cases cond with
            | nil => simp [chkL] at h10
            | cons c cond =>
              cases cond with
              | cons _ _ => simp [chkL] at h10
              | nil =>
                refine .inr ⟨ec, c, rfl, rfl, fun X' C' => ?_⟩
                simp only [chkL, Bool.and_eq_true] at h10
                exact (sE Γ k c _ _ X' C' h10.1.2).pt
    · cases h
  | .rpr p, b, e, X, C, h => by
    unfold chk at h
    split at h
    · simp only [Bool.and_eq_true] at h
      exact .plain (fun _ => le_rpr C h.1.1 h.1.2 (sE Γ k p b _ X C h.2).pe) (fun _ => rfl) (fun _ _ _ z => by cases z)
    · cases h
  | .frz p, b, e, X, C, h => by
    unfold chk at h
    rw [Bool.and_eq_true] at h
    have i := (sE Γ k p b e X C h.2).pe
    have hp := h.1
    cases e <;> first | exact (Bool.noConfusion hp) | exact .plain (fun _ => le_frz i) (fun _ => rfl) (fun _ _ _ z => by cases z)
  | .ind neg p q, b, e, X, C, h => by
    unfold chk at h
    split at h
    · simp only [Bool.and_eq_true] at h
      obtain ⟨⟨⟨h1, h2⟩, h3⟩, h4⟩ := h
      have := copIs_eq h1
      subst this
      have i1 := (sE Γ k p b _ X C h3).pe
      have i2 := (sE Γ k q b _ X C h4).pe
      exact ⟨fun _ => le_ind C h2 i1 i2, fun _ => lr_ind C h2 i1 i2, fun _ _ _ z => by cases z⟩
    · cases h
theorem sL (Γ : Ctx) (k : Nat) : ∀ (cs : List E) (b : Blk) (es : List Expr) (X : Cx), CxOk X Γ b k → chkL Γ.sk b cs es = true → (es.all noStar = true ∧ PAc X Γ es cs) ∧ Paired (fun e c => Snd X Γ e c) es cs
  | [], b, es, X, C, h => by
    unfold chkL at h
    split at h
    · exact ⟨⟨rfl, lac_nil⟩, .nil⟩
    · cases h
  | c :: cs, b, es, X, C, h => by
    unfold chkL at h
    split at h
    · simp only [Bool.and_eq_true] at h
      have i1 := sE Γ k c b _ X C h.1.2
      obtain ⟨⟨i2, i3⟩, i4⟩ := sL Γ k cs b _ X C h.2
      exact ⟨⟨by simp only [List.all_cons, Bool.and_eq_true]; exact ⟨h.1.1, i2⟩, lac_cons h.1.1 i1.pe i3⟩, .cons i1 i4⟩
    · cases h
theorem sI (Γ : Ctx) (k : Nat) : ∀ (it : ItK) (cs : List E) (b : Blk) (e : Expr) (X : Cx) (tg : Expr) {pu bor : Bool}, CxOk X Γ b k → chkIt Γ.sk b it cs e = true → enB it tg = true → PI X tg e (LI X Γ.pin pu bor (wIt Γ pu bor it cs))
  | it, cs, b, e, X, tg, pu, bor, C, h, ht => by
    unfold chkIt at h
    split at h
    · rename_i as has
      have i := sL Γ k cs b _ X C h
      unfold itX at has
      split at has
      · cases has
        have i2 := i.2
        cases i2 with
        | cons a b2 => cases b2; exact li_e a.pe
      · split at has
        · split at has
          · rename_i hb
            cases has
            have hst := i.1.1
            simp only [List.all_cons, Bool.and_eq_true] at hst
            exact li_rng1 C hb hst.1 i.1.2
          · cases has
        · cases has
      · split at has
        · split at has
          · rename_i hb
            cases has
            have hst := i.1.1
            simp only [List.all_cons, Bool.and_eq_true] at hst
            exact li_rng2 C hb hst.1 hst.2.1 i.1.2
          · cases has
        · cases has
      · split at has
        · split at has
          · rename_i hb
            cases has
            have hst := i.1.1
            simp only [List.all_cons, Bool.and_eq_true] at hst
            exact li_rng3 C hb hst.1 hst.2.1 hst.2.2.1 i.1.2
          · cases has
        · cases has
      · split at has
        · split at has
          · rename_i hb
            cases has
            simp only [Bool.and_eq_true] at hb
            have hst := i.1.1
            simp only [List.all_cons, Bool.and_eq_true] at hst
            have i2 := i.2
            cases i2 with
            | cons a b2 => cases b2; exact li_rrng C hb.1 hb.2 hst.1 a.pe
          · cases has
        · cases has
      · split at has
        · split at has
          · rename_i hb
            cases has
            have hst := i.1.1
            simp only [List.all_cons, Bool.and_eq_true] at hst
            unfold enB at ht
            split at ht
            all_goals first
              | exact li_enum C hb hst.1 i.1.2
              | exact absurd ‹ItK.enum = ItK.zip› (by decide)
              | exact absurd rfl ‹ItK.enum = ItK.enum → False›
              | cases ht
          · cases has
        · cases has
      · split at has
        · split at has
          · rename_i hb
            cases has
            have hst := i.1.1
            simp only [List.all_cons, Bool.and_eq_true] at hst
            unfold enB at ht
            split at ht
            all_goals first
              | exact li_zip C hb hst.1 hst.2.1 i.1.2
              | exact absurd ‹ItK.zip = ItK.enum› (by decide)
              | exact absurd rfl ‹ItK.zip = ItK.zip → False›
              | cases ht
          · cases has
        · cases has
    · cases h
end
/-- the ends, carried over -/
structure EOk (K : PySem.W.Frag) (mg : Str → Option Value) (W : WX) (ix : List Nat) (B : B0) (P : AE) (D : Ends) : Prop where
  nx : ∀ Hs H σ sl, Rel K ⟨B, ix⟩ Hs H σ sl [] → P.nx (TA.tl sl) → D.nx σ H
  rt : ∀ x Hs H σ sl, Rel K ⟨B, ix⟩ Hs H σ sl [x] → x.isDead = false → P.rt x.t (TA.tl sl) → D.rt x.v H
  bk : ∀ Hs H σ sl, Rel K ⟨B, ix⟩ Hs H σ sl [] → P.bk (TA.tl sl) → D.bk σ H
  ct : ∀ Hs H σ sl, Rel K ⟨B, ix⟩ Hs H σ sl [] → P.ct (TA.tl sl) → D.ct σ H
  ex : ∀ n C Hs H σ sl, Rel K ⟨B, ix⟩ Hs H σ sl [] → mg n = some (.ref C) → P.ex n (TA.tl sl) → W (.ref C) none σ H
def LS (X : Cx) (W : WX) (ix : List Nat) (w : AE → St → Prop) : TS := fun D σ H => ∃ B Hs sl P, Rel X.K ⟨B, ix⟩ Hs H σ sl [] ∧ w P (TA.tl sl) ∧ EOk X.K X.mg W ix B P D
def noComp : Expr → Bool
  | .ListComp _ _ _ _ => false
  | .SetComp _ _ _ _ => false
  | .DictComp _ _ _ _ _ => false
  | _ => true
theorem free_of {Γ : Ctx} {is : List Nat} (h : free Γ is = true) : ∀ i ∈ is, i ∉ Γ.pin := fun i hi z => by
  unfold free at h
  have := List.all_eq_true.mp h i hi
  simp at this
  exact this z
section
variable {X : Cx} {W : WX} {Γ : Ctx} {b : Blk} {k : Nat} {pos p0 : Pos} {e : Expr} {c : E} {st : Stmt} {rest : List Stmt}
theorem ls_nil : PSs X [] (LS X W Γ.pin (wSs Γ [])) := ⟨fun pins s σ H D I hw => by
  obtain ⟨B, Hs, sl, P, R0, hw, ek⟩ := hw
  rw [wSs] at hw
  exact pss_nil.run pins s σ H D I (ek.nx _ _ _ _ R0 hw)⟩
theorem ls_cons {q : S} {qs : List S} (h1 : PS X st (LS X W Γ.pin (wS Γ q))) (h2 : PSs X rest (LS X W Γ.pin (wSs Γ qs))) : PSs X (st :: rest) (LS X W Γ.pin (wSs Γ (q :: qs))) := ⟨fun pins s σ H D I hw => by
  obtain ⟨B, Hs, sl, P, R0, hw, ek⟩ := hw
  rw [wSs] at hw
  exact (pss_cons h1 h2).run pins s σ H D I ⟨B, Hs, sl, _, R0, hw, ⟨fun Hs1 H1 σ1 sl1 R1 h1 => ⟨B, Hs1, sl1, P, R1, h1, ek⟩, ek.rt, ek.bk, ek.ct, ek.ex⟩⟩⟩
theorem ls_asg {i : Nat} {tg : Expr} (h : PS X (.Assign [tg] e pos) (tAsg (LE X Γ.pin false (wE Γ false c)) (gName i))) : PS X (.Assign [tg] e pos) (LS X W Γ.pin (wS Γ (.asg i c))) := ⟨fun pins s σ H D I hw => by
  obtain ⟨B, Hs, sl, P, R0, hw, ek⟩ := hw
  rw [wS] at hw
  refine h.run pins s σ H D I ⟨B, Hs, sl, [], _, R0, hw.2, fun r v Hs1 H1 sl1 nw R1 rr st1 p => ?_⟩
  obtain ⟨x, Hs2, sl2, R2, xv, xd, _, ⟨n1, n2, n3⟩, _⟩ := toV_ok (tp := []) (rest := []) (by simpa using R1) rr.weak p
  have R3 := Rel.setS (tp := []) (x := x) (i := i) (by simpa using R2) (by rw [tl_len] at n2; exact n2) (free_of hw.1 i (by simp)) (by rw [← TA.noTup_t]; exact n1)
  rw [xv] at R3
  exact ek.nx _ _ _ _ R3 (by rw [tl_set]; exact n3)⟩
theorem ls_ex (h : PEc X Γ e c) (hs : swapsWith e none pos.line X.env = pure false) : PS X (.Expr e pos) (LS X W Γ.pin (wS Γ (.ex c))) := ⟨fun pins s σ H D I hw => by
  obtain ⟨B, Hs, sl, P, R0, hw, ek⟩ := hw
  rw [wS] at hw
  refine (ps_expr (h false) hs).run pins s σ H D I ⟨B, Hs, sl, [], _, R0, hw, fun r v Hs1 H1 sl1 nw R1 rr st1 p => ?_⟩
  exact ek.nx _ _ _ _ R1.drop p⟩
/-- the object at a place, the slot dead -/
theorem Rel.take {K : PySem.W.Frag} {B : Bs} {Hs H : Hp} {σ : L2.St} {sl : List TA} : ∀ (q : List Nat) (t c : TA), Rel K B Hs H σ sl [t] → t.at q = some c → Rel K B Hs H σ sl [c]
  | [], t, c, R, h => by rw [TA.at] at h; cases h; exact R
  | j :: q, t, c, R, h => by
    cases t with
    | dead => cases h
    | d => cases h
    | nd kk a ts =>
      rw [TA.at] at h
      split at h
      · rename_i c1 hc1
        exact Rel.take q c1 c (Rel.child (tp := []) R hc1) h
      · cases h
theorem ls_ret (h : PEc X Γ e c) : PS X (.Return (some e) pos) (LS X W Γ.pin (wS Γ (.ret c))) := ⟨fun pins s σ H D I hw => by
  obtain ⟨B, Hs, sl, P, R0, hw, ek⟩ := hw
  rw [wS] at hw
  refine (ps_ret (h false)).run pins s σ H D I ⟨B, Hs, sl, [], _, R0, hw, fun r v Hs1 H1 sl1 nw R1 rr st1 p => ?_⟩
  cases r with
  | v t =>
    obtain ⟨x, rfl, rfl, rfl, xd⟩ := rr
    exact ek.rt x _ _ _ _ R1 xd p
  | p i q =>
    simp only at p
    split at p
    · obtain ⟨x, Hs2, sl2, R2, xv, xd, _, n3, _⟩ := toV_ok (tp := []) (rest := []) (by simpa using R1) rr.weak p
      rw [← xv]
      exact ek.rt x _ _ _ _ (by simpa using R2) xd n3
    · rename_i hpin
      obtain ⟨rfl, t, cc, h1, h2, h3, h4⟩ := rr
      have g : (R.p i q).get (TA.tl sl1) = some cc.t := by
        rw [R.get, tl_get, h1]
        simp only [Option.map_some]
        rw [TA.at_t, h2]
        rfl
      rw [g] at p
      simp only at p
      have R2 := Rel.hide (tp := []) (σ' := σ) (i := i) (by simpa using R1) h1 (by simpa using hpin) rfl (fun _ _ => rfl)
      have R3 := Rel.take q t cc (by simpa using R2) h2
      rw [← h3]
      exact ek.rt cc _ _ _ _ R3 h4 (by rw [tl_set]; exact p)⟩
theorem put_ne {u : TA} {j j' : Nat} {q q2 : List Nat} (h : j' ≠ j) (t : TA) : (t.put u (j :: q)).at (j' :: q2) = t.at (j' :: q2) := by
  cases t with
  | dead v => rfl
  | d v x => rfl
  | nd k a ts =>
    rw [TA.put]
    cases hc : ts[j]? with
    | none => rfl
    | some c =>
      show (match (ts.set j (c.put u q))[j']? with
        | some c => c.at q2
        | none => none) = (match ts[j']? with
        | some c => c.at q2
        | none => none)
      rw [List.getElem?_set_ne (Ne.symm h)]
theorem rrs_set {sl : List TA} {i j : Nat} {u t : TA} {q : List Nat} (hs : sl[i]? = some t) : ∀ {rs : List R} {vs : List V} {nws : List (List TA)}, (rs.all fun r => match r with
      | .p i' q' => i' != i || (match q' with
        | [] => false
        | j' :: _ => j' != j)
      | .v _ => true) = true → RRs' sl rs vs nws → RRs' (sl.set i (t.put u (j :: q))) rs vs nws
  | _, _, _, _, .nil => .nil
  | r :: _, _, _, h, .cons a b => by
    simp only [List.all_cons, Bool.and_eq_true] at h
    refine .cons ?_ (rrs_set hs h.2 b)
    cases r with
    | v t => exact a
    | p i' q' =>
      obtain ⟨e, f⟩ := a
      refine ⟨e, fun t' c h1 h2 => ?_⟩
      by_cases hii : i' = i
      · subst hii
        have hi : i' < sl.length := (List.getElem?_eq_some_iff.mp hs).1
        rw [List.getElem?_set_self hi] at h1
        cases h1
        cases q' with
        | nil => simp at h
        | cons j' q2 =>
          have hne : j' ≠ j := by simpa using h.1
          rw [put_ne hne] at h2
          exact f t c hs h2
      · rw [List.getElem?_set_ne (Ne.symm hii)] at h1
        exact f t' c h1 h2
theorem movs_ok {K : PySem.W.Frag} {B : Bs} {H : Hp} {σ : L2.St} {rs : List R} : ∀ {vs : List V} {nws : List (List TA)} {Hs : Hp} {sl tp : List TA} {Kk : List T → St → Prop}, Rel K B Hs H σ sl (tp ++ nws.flatten) → RRs' sl rs vs nws → movs rs (TA.tl sl) Kk →
    ∃ (xs : List TA) (sl' : List TA), Rel K B Hs H σ sl' (tp ++ xs) ∧ xs.map TA.v = vs ∧ Kk (TA.tl xs) (TA.tl sl') := by
  induction rs with
  | nil =>
    intro vs nws Hs sl tp Kk R1 rr h
    cases rr
    exact ⟨[], sl, R1, rfl, h⟩
  | cons r rs ih =>
    intro vs nws Hs sl tp Kk R1 rr h
    cases rr with
    | @cons _ v nw _ vs nws a b =>
      rw [List.flatten_cons] at R1
      cases r with
      | v t =>
        rw [movs] at h
        obtain ⟨x, rfl, rfl, rfl, xd⟩ := a
        obtain ⟨xs, sl', R2, e, hk⟩ := ih (tp := tp ++ [x]) (by rw [List.append_assoc]; exact R1) b h
        exact ⟨x :: xs, sl', by rw [List.append_assoc] at R2; exact R2, by rw [List.map_cons, e], hk⟩
      | p i q =>
        cases q with
        | cons j q =>
          rw [movs] at h
          obtain ⟨hall, h⟩ := h
          obtain ⟨rfl, f⟩ := a
          split at h
          · rename_i kd us hg
            rw [R.get, tl_get] at hg
            cases hs : sl[i]? with
            | none => rw [hs] at hg; cases hg
            | some t =>
              rw [hs] at hg
              simp only [Option.map_some, TA.at_t] at hg
              obtain ⟨cc, h2, h3⟩ := Option.map_eq_some_iff.mp hg
              obtain ⟨ad, us2, rfl, h4⟩ := ta_nd h3
              have hv := f t _ hs h2
              have R2 := R1.out1 hs h2
              have R3 : Rel K B Hs H σ (sl.set i (t.put (.dead (TA.nd kd ad us2).v) (j :: q))) ((tp ++ [.nd kd ad us2]) ++ nws.flatten) := R2.perm (by
                rw [List.nil_append, List.append_assoc, List.append_assoc]
                exact List.Perm.append_left _ List.perm_append_comm)
              obtain ⟨xs, sl', R4, e, hk⟩ := ih R3 (rrs_set hs hall b) (by rw [tl_putS hs]; exact h)
              exact ⟨_ :: xs, sl', by rw [List.append_assoc] at R4; exact R4, by rw [List.map_cons, e, hv], by rw [TA.tl, TA.t, h4]; exact hk⟩
          · exact h.elim
        | nil =>
          rw [movs] at h
          obtain ⟨rfl, f⟩ := a
          rw [tl_get] at h
          cases hs : sl[i]? with
          | none => rw [hs] at h; exact h.elim
          | some t =>
            rw [hs] at h
            have hv := f t t hs rfl
            cases t with
            | dead => exact h.elim
            | d => exact h.elim
            | nd k a us =>
              simp only [Option.map_some, TA.t] at h
              have hi : i < sl.length := (List.getElem?_eq_some_iff.mp hs).1
              have R2 := R1.out1 hs (q := []) rfl
              have b' : RRs' (sl.set i (.dead (TA.nd k a us).v)) rs vs nws := b.map fun r' v' nw' hr => by
                cases r' with
                | v _ => exact hr
                | p i' q' =>
                  obtain ⟨e, g⟩ := hr
                  refine ⟨e, fun t c h1 h2 => ?_⟩
                  by_cases hii : i' = i
                  · subst hii
                    rw [List.getElem?_set_self hi] at h1
                    cases h1
                    cases q' with
                    | nil =>
                      rw [TA.at] at h2
                      cases h2
                      exact g _ (TA.nd k a us) hs rfl
                    | cons j q' => cases h2
                  · rw [List.getElem?_set_ne (Ne.symm hii)] at h1
                    exact g t c h1 h2
              have R3 : Rel K B Hs H σ (sl.set i (.dead (TA.nd k a us).v)) ((tp ++ [.nd k a us]) ++ nws.flatten) := R2.perm (by
                rw [List.nil_append, List.append_assoc, List.append_assoc]
                exact List.Perm.append_left _ List.perm_append_comm)
              obtain ⟨xs, sl', R4, e, hk⟩ := ih R3 b' (by rw [tl_set]; exact h)
              exact ⟨_ :: xs, sl', by rw [List.append_assoc] at R4; exact R4, by rw [List.map_cons, e, hv], by rw [TA.tl, TA.t]; exact hk⟩
theorem ls_retm {es : List Expr} {cs : List E} {j : Nat} (h : PAc X Γ es cs) : PS X (.Return (some (.Tuple es j p0)) pos) (LS X W Γ.pin (wS Γ (.retm cs))) := ⟨fun pins s σ H D I hw => by
  obtain ⟨B, Hs, sl, P, R0, hw, ek⟩ := hw
  rw [wS] at hw
  refine (ps_ret (pe_tup (h false))).run pins s σ H D I ⟨B, Hs, sl, [], _, R0, hw, fun rs vs Hs1 H1 sl1 nws R1 rr st1 p1 => ?_⟩
  obtain ⟨xs, sl2, R2, e1, hz, hp⟩ := movs_ok R1 rr.weak p1
  refine ⟨by rw [← e1, List.length_map, ← tl_len]; exact hz, fun l hl => ?_⟩
  rw [← e1]
  rcases leaves_none_or xs with ⟨ds, hl2, e2⟩ | e2
  · rw [e2] at hp
    obtain ⟨f1, f2, f3⟩ := leaves_of hl2
    have R3 := (Rel.allocF (tp := []) R2.drop hl (.tup (xs.map TA.v)))
    exact ek.rt (.d (.ref l) (.tuple ds)) _ _ _ _ (by simpa using R3.leaf (.tup (SqT.of upd_same) ((f3 (TA.okl_append.mp R2.okT).2).mono (same_upd (R2.hs_none hl))))) rfl hp
  · rw [e2] at hp
    have R3 := Rel.allocO (k := .tup) (tp := []) (ts := xs) R2 hl (show upd H1 l (.tup (xs.map TA.v)) l = some (.tup (xs.map TA.v)) from upd_same)
    exact ek.rt (.nd .tup l xs) _ _ _ _ (by simpa using R3) rfl (by rw [TA.t]; exact hp)⟩
theorem ls_if {a b : List Stmt} {qa qb : List S} (hc : PTc X Γ e c) (ha : PSs X a (LS X W Γ.pin (wSs Γ qa))) (hb : PSs X b (LS X W Γ.pin (wSs Γ qb))) : PS X (.If e a b pos) (LS X W Γ.pin (wS Γ (.ife c qa qb))) := ⟨fun pins s σ H D I hw => by
  obtain ⟨B, Hs, sl, P, R0, hw, ek⟩ := hw
  rw [wS] at hw
  refine (ps_if (hc false) ha hb).run pins s σ H D I (LR.of R0 hw fun z Hs1 H1 sl1 R1 st1 hp => ?_)
  cases z with
  | true =>
    simp only [br_t, if_true] at hp ⊢
    exact ⟨B, Hs1, sl1, P, R1, hp, ek⟩
  | false =>
    simp only [br_f, Bool.false_eq_true, if_false] at hp ⊢
    exact ⟨B, Hs1, sl1, P, R1, hp, ek⟩⟩
theorem ls_for {tg iter : Expr} {is : List Nat} {it : ItK} {ies : List E} {a : List Stmt} {qa : List S} (hp : PassesOwn (model X.prog X.w) X.A X.env X.xe) (C : CxOk X Γ b k) (hset : noSet iter = true) (htg : targB b is tg = true) (hi : ∀ pu bor, PI X tg iter (LI X Γ.pin pu bor (wIt Γ pu bor it ies))) (ha : PSs X a (LS X W Γ.pin (wSs Γ qa))) :
    PS X (.For tg iter a [] pos) (LS X W Γ.pin (wS Γ (.for_ is it ies qa))) := ⟨fun pins s σ H D I hw => by
  obtain ⟨B, Hs, sl, P, R0, hw, ek⟩ := hw
  rw [wS] at hw
  obtain ⟨hfr, hw⟩ := hw
  refine (ps_for hp C.calm (hi false false) (lg_ok (ix := Γ.pin) C htg) ha (fun x => by cases iter <;> first | rfl | (exact (Bool.noConfusion hset)))).run pins s σ H D I ⟨B, Hs, sl, [], _, R0, hw, fun J xs Hs1 H1 sl1 R1 wk st1 hP => ?_⟩
  refine ⟨fun i m σ H => m = xs.length - i ∧ i ≤ xs.length ∧ ∃ Hs sl, Rel X.K ⟨{ B with Hs0 := Hs1 }, Γ.pin⟩ Hs H σ sl [] ∧ forW is (fun D' σ' => wSs Γ qa D' σ') P (xs.drop i) (TA.tl sl), ⟨_, rfl, Nat.zero_le _, Hs1, sl1, R1.reB, by simpa using hP⟩, ?_⟩
  rintro i m σ2 H2 ⟨rfl, hle, Hs2, sl2, R2, hl⟩
  have ek2 : ∀ {Hs H : Hp} {σ : L2.St} {sl : List TA}, Rel X.K ⟨{ B with Hs0 := Hs1 }, Γ.pin⟩ Hs H σ sl [] → P.nx (TA.tl sl) → D.nx σ H := fun R h => ek.nx _ _ _ _ (R1.unB R) h
  by_cases hlt2 : i < xs.length
  · refine .inr ⟨wk.go i H2 Hs2 same00 R2.hs R2.sub hlt2, fun σ' H' => ∃ Hs sl, Rel X.K ⟨{ B with Hs0 := Hs1 }, Γ.pin⟩ Hs H' σ' sl [] ∧ forW is (fun D' σ' => wSs Γ qa D' σ') P (xs.drop (i + 1)) (TA.tl sl), fun σ' H' p => ⟨xs.length - (i + 1), by omega, rfl, hlt2, p⟩, fun v H3 hy => ?_⟩
    have hx : xs[i]? = some xs[i] := List.getElem?_eq_getElem hlt2
    obtain ⟨Hs3, s23, dp, sH, hR⟩ := wk.yld i H2 Hs2 v H3 xs[i] same00 R2.hs R2.sub hx hy
    have R3 := hR _ _ _ _ R2
    rw [List.drop_eq_getElem_cons hlt2, forW] at hl
    generalize hh : bindD is xs[i] (TA.tl sl2) = oo at hl
    cases oo with
    | none => exact hl.elim
    | some σ1 =>
      simp only at hl
      refine ⟨{ B with Hs0 := Hs1 }, Hs3, sl2, [], xs[i], σ1, R3, dp, hh, free_of hfr, fun σb slb Rb eb fb lb => ?_⟩
      refine ⟨{ B with Hs0 := Hs1 }, Hs3, slb, { nx := forW is (fun D' σ' => wSs Γ qa D' σ') P (List.drop (i + 1) xs), rt := P.rt, bk := P.nx, ct := forW is (fun D' σ' => wSs Γ qa D' σ') P (List.drop (i + 1) xs), ex := P.ex }, Rb, by rw [eb]; exact hl, ⟨fun Hs4 H4 σ4 sl4 R4 h4 => ⟨Hs4, sl4, R4, h4⟩, fun x Hs4 H4 σ4 sl4 R4 h4 h5 => ek.rt x _ _ _ _ (R1.unB R4) h4 h5, fun Hs4 H4 σ4 sl4 R4 h4 => ek2 R4 h4, fun Hs4 H4 σ4 sl4 R4 h4 => ⟨Hs4, sl4, R4, h4⟩, fun n C Hs4 H4 σ4 sl4 R4 h4 h5 => ek.ex n C _ _ _ _ (R1.unB R4) h4 h5⟩⟩
  · have hi : i = xs.length := by omega
    subst hi
    rw [List.drop_length, forW] at hl
    exact .inl ⟨wk.stop _ H2 Hs2 same00 R2.hs R2.sub (Nat.le_refl _), ek2 R2 hl⟩⟩
/-- o[i] = e -/
theorem set_uq {K : PySem.W.Frag} {B : Bs} {Hs H : Hp} {σ : L2.St} {sl tp : List TA} {i j : Nat} {q : List Nat} {t x : TA} {a : Addr} {us : List TA} (R1 : Rel K B Hs H σ sl (tp ++ [x])) (h1 : sl[i]? = some t) (h2 : t.at q = some (.nd .list a us)) (hj : j < us.length) (hx : x.noTup = true) :
    Rel K B Hs (upd H a (.lst ((us.map TA.v).set j x.v))) σ (sl.set i (t.put (.nd .list a (us.set j x)) q)) tp ∧ TA.tl (sl.set i (t.put (.nd .list a (us.set j x)) q)) = putS (TA.tl sl) i q (.nd .list ((TA.tl us).set j x.t)) := by
  obtain ⟨n1, o1, a1⟩ := slot_noTupl R1 h1 h2
  have okx : x.ok K Hs H := okl_one.mp (TA.okl_append.mp R1.okT).2
  obtain ⟨u1, u2, eu, es, hl⟩ := set_pre (y := x) (List.getElem?_eq_getElem hj)
  have uq : (TA.fpl us ++ x.fp).Nodup := by
    have hu := R1.uq
    rw [TA.fpl_append, TA.fpl_append, ← List.append_assoc, List.nodup_append, fpl_one] at hu
    rw [List.nodup_append]
    have us1 : (TA.nd .list a us).fp.Nodup := by
      obtain ⟨l1, l2, e1, _⟩ := TA.lens q t _ h2
      have := R1.slot_uq h1
      rw [e1] at this
      exact (nodup_mid this).2.1
    rw [TA.fp] at us1
    refine ⟨(List.nodup_cons.mp us1).2, hu.2.1, fun x hx y hy e => hu.2.2 x (List.mem_append_left _ ?_) y hy e⟩
    obtain ⟨l1, l2, e1, _⟩ := TA.lens q t _ h2
    exact fpl_slot h1 (by rw [e1, TA.fp]; exact List.mem_append_left _ (List.mem_append_right _ (List.mem_cons_of_mem _ hx)))
  have efp : (TA.fpl (us.set j x)).Perm (TA.fpl u1 ++ TA.fpl u2 ++ x.fp) := by
    rw [es, TA.fpl_append, TA.fpl, List.append_assoc]
    exact List.Perm.append_left _ List.perm_append_comm
  have sb : (TA.fpl u1 ++ TA.fpl u2 ++ x.fp).Sublist (TA.fpl us ++ x.fp) := by
    refine List.Sublist.append ?_ (List.Sublist.refl _)
    conv => rhs; rw [eu]
    rw [TA.fpl_append, TA.fpl]
    exact List.Sublist.append (List.Sublist.refl _) (List.sublist_append_right _ _)
  have mem : ∀ y ∈ us.set j x, y ∈ us ∨ y = x := fun y hy => (List.mem_or_eq_of_mem_set hy)
  obtain ⟨R2, e2⟩ := R1.chg (us' := us.set j x) h1 h2 (TA.okl_all.mpr fun y hy => (mem y hy).elim (TA.okl_all.mp o1 y) fun z => z ▸ okx) (fun z hz => by
    have := sb.subset (efp.mem_iff.mp hz)
    rw [fpl_one]
    exact List.mem_append.mp this) (efp.nodup_iff.mpr (sb.nodup uq)) (TA.noTupl_all.mpr fun y hy => (mem y hy).elim (TA.noTupl_all.mp n1 y) fun z => z ▸ hx)
  rw [List.map_set] at R2
  rw [tl_set us] at e2
  exact ⟨R2, e2⟩
theorem ls_setix {eo ei : Expr} {o i : E} (he : PEc X Γ e c) (ho : PEc X Γ eo o) (hi : PEc X Γ ei i) (hn : noSlice ei = true) (hc : noComp e = true) : PS X (.Assign [.Subscript eo ei p0] e pos) (LS X W Γ.pin (wS Γ (.setix o i c))) := ⟨fun pins s σ H D I hw => by
  obtain ⟨B, Hs, sl, P, R0, hw, ek⟩ := hw
  rw [wS] at hw
  have hi' : PE X ei (fun σ' H1 Q' => ∃ pu', LE X Γ.pin pu' (wE Γ pu' i) σ' H1 Q') := ⟨fun pins s σ H Q I ⟨pu', h'⟩ => (hi pu').run pins s σ H Q I h'⟩
  have hsw : swapsWith e (some (.Subscript eo ei p0)) pos.line X.env = pure false := by cases e <;> first | rfl | (exact (Bool.noConfusion hc))
  have hsw2 : swappedStores [.Subscript eo ei p0] e X.env = pure none := by cases e <;> rfl
  refine (ps_asg (he false) (pg_sub (ho false) hi' set_list (by intro v; cases ei <;> first | rfl | (exact (Bool.noConfusion hn)))) hsw hsw2).run pins s σ H D I ⟨B, Hs, sl, [], _, R0, hw, fun r v Hs1 H1 sl1 nw R1 rr st1 p => ?_⟩
  obtain ⟨x, Hs2, sl2, R2, xv, xd, _, hw2, _⟩ := toV_ok (tp := []) (rest := []) (by simpa using R1) rr.weak p
  refine ⟨B, Hs2, sl2, [x], _, by simpa using R2, hw2, fun ro vo Hs3 H3 sl3 nw3 R3 rr3 st3 hw3 => ⟨_, B, Hs3, sl3, [x] ++ nw3, _, R3, hw3, fun ri vi Hs4 H4 sl4 nw4 R4 rr4 st4 hw4 => ?_⟩⟩
  have rr3' := rr3.stay R3 R4 st4 (fun z => by rw [z]; rfl)
  unfold setixW at hw4
  obtain ⟨n1, n2, hw4⟩ := hw4
  obtain ⟨ii, q, t, a, us, rfl, rfl, h1, h2, rfl, hP⟩ := atList_ok rr3'.weak hw4
  split at hP
  · rename_i kk hkk
    have := (rr4.dpT R4 hkk).2.int_v
    subst this
    split at hP
    · rename_i j hj
      have R5 : Rel X.K ⟨B, Γ.pin⟩ Hs4 H4 σ sl4 ([] ++ [x]) := by simpa using R4.drop
      obtain ⟨_, _, a1⟩ := slot_noTupl R5 h1 h2
      rw [tl_len] at hj
      obtain ⟨R6, e6⟩ := set_uq R5 h1 h2 (ixN_seq hj).2.1 (by rw [← TA.noTup_t]; exact n1)
      rw [xv] at R6
      refine ⟨a, _, kk, j, rfl, rfl, a1, by rw [List.length_map]; exact hj, ek.nx _ _ _ _ R6 (by rw [e6]; exact hP)⟩
    · exact hP.elim
  · exact hP.elim⟩
theorem get_listN : PGet X (fun o i H Q => ∃ p xs k v, o = .ref p ∧ i = .int k ∧ 0 ≤ k ∧ SqL X.K H p xs ∧ xs[k.toNat]? = some v ∧ Q v H) := by
  intro pins s σ H o i ov iv Q I r1 r2 h
  obtain ⟨p, xs, k, z, rfl, rfl, h0, hq, he, q⟩ := h
  cases r1
  obtain ⟨t, rfl⟩ := r2
  obtain ⟨its, r, pl, hz⟩ := I.list hq
  obtain ⟨w, ew, rw'⟩ := r.get he
  have hl := r.length
  have hn := line63
  have hk : k.toNat < xs.length := (List.getElem?_eq_some_iff.mp he).1
  exact wpAny_getItem_list pl.isList h0 (by omega) (by simpa using ew) ⟨z, H, I, rw', q⟩
/-- o[i] op= a number -/
theorem ls_augix {eo ei : Expr} {o i : E} {op : BOp} {y : Int} {kk : Nat} {p1 : Pos} (ho : PEc X Γ eo o) (hi : PEc X Γ ei i) (hn : noSlice ei = true) (hop : op = .add ∨ op = .sub) : PS X (.AugAssign (.Subscript eo ei p0) (bopO op) (.Constant (.int y) kk p1) pos) (LS X W Γ.pin (wS Γ (.augix op o i y))) := ⟨fun pins s σ H D I hw => by
  obtain ⟨B, Hs, sl, P, R0, hw, ek⟩ := hw
  rw [wS] at hw
  have hi' : PE X ei (fun σ' H1 Q' => ∃ pu', LE X Γ.pin pu' (wE Γ pu' i) σ' H1 Q') := ⟨fun pins s σ H Q I ⟨pu', h'⟩ => (hi pu').run pins s σ H Q I h'⟩
  have key : ∀ (f : Int → Int → Int) (oo : Operator), PIp X oo (ipI f) → bopO op = oo → (∀ x : Int, (if op = .add then x + y else x - y) = f x y) → wpAny (model X.prog X.w) X.A (exec (.AugAssign (.Subscript eo ei p0) (bopO op) (.Constant (.int y) kk p1) pos) X.env) (SP X pins D) X.xe s := by
    intro f oo hip eo' hf
    rw [eo']
    refine (ps_augS (ho false) hi' get_listN pe_int hip set_list (by intro a b c; cases ei <;> first | rfl | (exact (Bool.noConfusion hn)))).run pins s σ H D I ⟨B, Hs, sl, [], _, R0, hw, fun ro vo Hs3 H3 sl3 nw3 R3 rr3 st3 hw3 => ⟨_, B, Hs3, sl3, [] ++ nw3, _, R3, hw3, fun ri vi Hs4 H4 sl4 nw4 R4 rr4 st4 hw4 => ?_⟩⟩
    have rr3' := rr3.stay R3 R4 st4 (fun z => by rw [z]; rfl)
    obtain ⟨ii, q, t, a, us, rfl, rfl, h1, h2, rfl, hP⟩ := atList_ok rr3'.weak hw4
    split at hP
    · rename_i k hk
      have := (rr4.dpT R4 hk).2.int_v
      subst this
      obtain ⟨h0, hP⟩ := hP
      split at hP
      · rename_i x hx
        rw [tl_get] at hx
        obtain ⟨c, hc, ec⟩ := Option.map_eq_some_iff.mp hx
        have R5 : Rel X.K ⟨B, Γ.pin⟩ Hs4 H4 σ sl4 [] := by simpa using R4.drop
        obtain ⟨_, o1, a1⟩ := slot_noTupl R5 h1 h2
        have hcv : c.v = .int x := by
          obtain ⟨w, rfl⟩ := ta_d ec
          have := TA.okl_all.mp o1 _ (List.mem_of_getElem? hc)
          rw [TA.ok] at this
          exact this.int_v
        have hkl : k.toNat < us.length := (List.getElem?_eq_some_iff.mp hc).1
        have R6 : Rel X.K ⟨B, Γ.pin⟩ Hs4 H4 σ sl4 ([] ++ [TA.d (.int (f x y)) (.int (f x y))]) := Rel.leaves R5 (okl_one.mpr (by rw [TA.ok]; exact .int _)) (by simp [TA.fpl, TA.fp])
        obtain ⟨R7, e7⟩ := set_uq R6 h1 h2 hkl rfl
        refine ⟨a, us.map TA.v, k, .int x, rfl, rfl, h0, .inl (.inl a1), by rw [List.getElem?_map, hc, Option.map_some, hcv], x, y, rfl, rfl, a, us.map TA.v, k, k.toNat, rfl, rfl, a1, by rw [List.length_map]; unfold ixN; rw [if_pos h0, if_pos (by omega)], ?_⟩
        refine ek.nx _ _ _ _ R7 ?_
        rw [e7]
        rw [hf] at hP
        exact hP
      · exact hP.elim
    · exact hP.elim
  by_cases ha : op = .add
  · subst ha
    exact key (fun i j => i + j) .Add ip_add rfl (fun z => by simp)
  · have hs : op = .sub := hop.resolve_left ha
    subst hs
    exact key (fun i j => i - j) .Sub ip_sub rfl (fun z => by simp)⟩
/-- what must not be come to -/
theorem ls_rse {x y : Option Expr} : PS X (.Raise x y pos) (LS X W Γ.pin (wS Γ .rse)) := ⟨fun pins s σ H D I hw => by
  obtain ⟨B, Hs, sl, P, R0, hw, ek⟩ := hw
  rw [wS] at hw
  exact hw.elim⟩
end
section
variable {K : PySem.W.Frag} {Hs H Hs1 H1 : Hp} {σ σ1 : L2.St} {sl sl1 tp tp1 : List TA}
theorem Rel.base {b0 : B0} {ix : List Nat} {hid : List TA} (R : Rel K ⟨b0, ix⟩ Hs H σ sl (hid ++ tp)) : Rel K ⟨⟨H, Hs, TA.fpl (sl ++ tp) ++ tabA K, b0.pin⟩, ix⟩ Hs H σ sl tp := by
  have R0 : Rel K ⟨b0, ix⟩ Hs H σ sl tp := (R.perm (tp' := tp ++ hid) List.perm_append_comm).drop
  exact ⟨R0.len, R0.val, R0.ok, R0.uq, R0.out, R0.sub, fun a o h _ => h, fun a h => .inl (List.mem_append_left _ h), Same.refl _, fun a h => .inl h, R0.ntup, R0.pin, R0.tab, fun a ha => List.mem_append_right _ ha⟩
end
section
variable {X : Cx} {W : WX} {Γ : Ctx} {b : Blk} {k : Nat} {pos p0 : Pos} {e : Expr} {c : E}
/-- a, b, .. = the items of a tuple, objects among them -/
def LGt (X : Cx) (ix : List Nat) (is : List Nat) : TGs := fun vs σ H Q => ∃ B Hs sl xs σ1, vs = xs.map TA.v ∧ Rel X.K ⟨B, ix⟩ Hs H σ sl xs ∧ TA.noTupl xs = true ∧ setsT is (TA.tl xs) (TA.tl sl) = some σ1 ∧ (∀ i ∈ is, i ∉ ix) ∧ ∀ σ' sl', Rel X.K ⟨B, ix⟩ Hs H σ' sl' [] → TA.tl sl' = σ1 → Q σ' H
theorem lgt_ok (C : CxOk X Γ b k) {ix : List Nat} : ∀ {is : List Nat} {es : List Expr}, tgsB b is es = true → PGs X es (LGt X ix is)
  | [], [], _ => ⟨fun pins s σ H vs us Q I r h => by
      obtain ⟨B, Hs, sl, xs, σ1, ev, R0, hn, hs, _, hk⟩ := h
      cases xs with
      | nil =>
        rw [TA.tl, setsT] at hs
        cases hs
        subst ev
        exact pgs_nil.run pins s σ H [] us Q I r ⟨rfl, hk σ sl R0 rfl⟩
      | cons _ _ => simp [TA.tl, setsT] at hs⟩
  | [], _ :: _, h => by simp [tgsB] at h
  | i :: is, [], h => by simp [tgsB] at h
  | i :: is, e :: es, h => by
    cases e <;> first | (exact (Bool.noConfusion h)) | skip
    rename_i x pos
    simp only [tgsB, Bool.and_eq_true] at h
    have ih := lgt_ok C (ix := ix) h.2
    refine ⟨fun pins s σ H vs us Q I r hw => ?_⟩
    obtain ⟨B, Hs, sl, xs, σ1, ev, R0, hn, hs, hf, hk⟩ := hw
    subst ev
    cases xs with
    | nil => simp [TA.tl, setsT] at hs
    | cons d ds =>
      rw [TA.tl, setsT] at hs
      split at hs
      · rename_i hi
        rw [TA.noTupl, Bool.and_eq_true] at hn
        rw [tl_len] at hi
        have R1 := Rel.setS (tp := ds) (x := d) (i := i) (R0.perm (tp' := ds ++ [d]) (by exact (List.perm_append_comm (l₁ := [d]) (l₂ := ds)))) hi (hf i (by simp)) hn.1
        exact (pgs_cons (lg_name C h.1) ih rfl).run pins s σ H _ us Q I r ⟨_, _, rfl, B, Hs, _, ds, σ1, rfl, R1, hn.2, by rw [tl_set]; exact hs, fun j hj => hf j (List.mem_cons_of_mem _ hj), hk⟩
      · cases hs
theorem setsT_len : ∀ {is : List Nat} {xs : List T} {σ σ1 : St}, setsT is xs σ = some σ1 → is.length = xs.length
  | [], [], _, _, _ => rfl
  | [], _ :: _, _, _, h => by simp [setsT] at h
  | _ :: _, [], _, _, h => by simp [setsT] at h
  | i :: is, x :: xs, σ, σ1, h => by
    rw [setsT] at h
    split at h
    · rw [List.length_cons, List.length_cons, setsT_len h]
    · cases h
end
set_option maxHeartbeats 1000000
set_option maxHeartbeats 4000000
section
variable {X : Cx} {W : WX} {Γ : Ctx} {b : Blk} {k : Nat} {pos p0 : Pos} {e : Expr} {c : E}
def noTupE : Expr → Bool
  | .Tuple _ _ _ => false
  | _ => true
theorem ls_unp {is : List Nat} {es : List Expr} {kk : Nat} (C : CxOk X Γ b k) (h : tgsB b is es = true) (he : PEc X Γ e c) (hc : noComp e = true) (ht : noTupE e = true) : PS X (.Assign [.Tuple es kk p0] e pos) (LS X W Γ.pin (wS Γ (.unp is c))) := ⟨fun pins s σ H D I hw => by
  obtain ⟨B, Hs, sl, P, R0, hw, ek⟩ := hw
  rw [wS] at hw
  obtain ⟨hfr, hw⟩ := hw
  obtain ⟨t1, t2⟩ := tgs_each (env := X.env) h
  have hsw : swapsWith e (some (.Tuple es kk p0)) pos.line X.env = pure false := by cases e <;> first | rfl | (exact (Bool.noConfusion hc))
  have hsw2 : swappedStores [.Tuple es kk p0] e X.env = pure none := by cases e <;> first | rfl | (exact (Bool.noConfusion ht))
  have hg : PGs X es (fun vs σ H Q => LGs X Γ.pin is vs σ H Q ∨ LGt X Γ.pin is vs σ H Q) := ⟨fun pins s σ H vs us Q I r h' => h'.elim (fun z => (lgs_ok C h).run pins s σ H vs us Q I r z) (fun z => (lgt_ok C h).run pins s σ H vs us Q I r z)⟩
  refine (ps_asg (he false) (pg_tup C.calm hg t1 t2) hsw hsw2).run pins s σ H D I ⟨B, Hs, sl, [], _, R0, hw, fun r v Hs1 H1 sl1 nw R1 rr st1 p => ?_⟩
  unfold unpW at p
  split at p
  · rename_i xs hx
    have d := (rr.dpT R1 hx).1
    split at p
    · rename_i σ1 hs
      cases d with
      | tup hr ha =>
        refine ⟨_, _, rfl, SqT.mono R1.sub hr, by rw [ha.length, ← setsD_len hs], .inl ⟨B, Hs1, sl1, [], _, σ1, R1.drop, ha, hs, free_of hfr, fun σ' sl' R2 e2 _ _ => ek.nx _ _ _ _ R2 (by rw [e2]; exact p)⟩⟩
    · exact p.elim
  · rename_i ts hx
    cases r with
    | p i q => exact p.elim
    | v t =>
      simp only at p
      obtain ⟨hn, p⟩ := p
      split at p
      · rename_i σ1 hs
        obtain ⟨a, us, rfl, rfl, e4, _, e6, _⟩ := rr.node R1 hx
        have e7 := e6 rfl
        subst e7
        refine ⟨a, us.map TA.v, rfl, SqT.of e4, by rw [List.length_map, setsT_len hs, tl_len], .inr ⟨B, Hs1, sl1, us, σ1, rfl, by simpa using R1.kids, by rw [← TA.noTup_tl]; exact hn, hs, free_of hfr, fun σ' sl' R2 e2 => ek.nx _ _ _ _ R2 (by rw [e2]; exact p)⟩⟩
      · exact p.elim
  · rename_i ts hx
    split at p
    · rename_i i
      obtain ⟨hn, p⟩ := p
      split at p
      · rename_i σ1 hs
        obtain ⟨a, us, rfl, rfl, e4, _, _, e6⟩ := rr.node R1 hx
        obtain ⟨t, ht, hat⟩ := e6 _ _ rfl
        obtain ⟨e7, _⟩ := rr
        subst e7
        have R2 := R1.out1 ht hat
        have e8 : TA.tl (sl1.set i (t.put (.dead (TA.nd .tupw a us).v) [])) = (TA.tl sl1).set i .dead := by rw [tl_set] <;> rfl
        refine ⟨a, us.map TA.v, rfl, SqT.of e4, by rw [List.length_map, setsT_len hs, tl_len], .inr ⟨B, Hs1, _, us, σ1, rfl, by simpa using R2.kids, by rw [← TA.noTup_tl]; exact hn, by rw [e8]; exact hs, free_of hfr, fun σ' sl' R2 e2 => ek.nx _ _ _ _ R2 (by rw [e2]; exact p)⟩⟩
      · exact p.elim
    · exact p.elim
  · exact p.elim⟩
end
def swB (b : Blk) (y : Str) (py : Pos) : Expr → Bool
  | .ListComp _ _ scope pos => decide (b.sc.names.lookup y = some .cell) || decide (b.sc.names.lookup y = some .local) && (py.line == pos.line) && !(scope.names.any fun (n, k) => n == y && (k == .local || k == .cell))
  | e => noComp e
def lcOnly (c : E) (e : Expr) : Bool := match e with
  | .ListComp _ _ _ _ => match c with
    | .lc _ _ _ _ _ _ => true
    | _ => false
  | _ => true
def lcOnlyC (b : Blk) (x : Str) (c : E) (e : Expr) : Bool := lcOnly c e || decide (b.sc.names.lookup x = some .cell)
mutual
def chkS (Γ : Sk) (b : Blk) : S → Stmt → Bool
  | .asg i c, s => match s with
    | .Assign [.Name x p] e _ => tgB b i x && swB b x p e && lcOnlyC b x c e && chk Γ b c e
    | _ => false
  | .unp is c, s => match s with
    | .Assign [.Tuple es _ _] e _ => tgsB b is es && noComp e && noTupE e && chk Γ b c e
    | _ => false
  | .setix o i c, s => match s with
    | .Assign [.Subscript eo ei _] e _ => noSlice ei && noComp e && chk Γ b c e && chk Γ b o eo && chk Γ b i ei
    | _ => false
  | .augix op o i y, s => match s with
    | .AugAssign (.Subscript eo ei _) oo (.Constant (.int z) _ _) _ => bopIs op oo && (decide (op = .add) || decide (op = .sub)) && decide (y = z) && noSlice ei && chk Γ b o eo && chk Γ b i ei
    | _ => false
  | .rse, s => match s with
    | .Raise _ _ _ => true
    | _ => false
  | .ex c, s => match s with
    | .Expr e _ => noComp e && chk Γ b c e
    | _ => false
  | .ret c, s => match s with
    | .Return (some e) _ => chk Γ b c e
    | _ => false
  | .retm cs, s => match s with
    | .Return (some (.Tuple es _ _)) _ => chkL Γ b cs es
    | _ => false
  | .ife c p q, s => match s with
    | .If e a d _ => chk Γ b c e && chkSs Γ b p a && chkSs Γ b q d
    | _ => false
  | .for_ is it ies p, s => match s with
    | .For tg iter a [] _ => noSet iter && targB b is tg && enB it tg && chkIt Γ b it ies iter && chkSs Γ b p a
    | _ => false
def chkSs (Γ : Sk) (b : Blk) : List S → List Stmt → Bool
  | [], ss => match ss with
    | [] => true
    | _ :: _ => false
  | q :: qs, ss => match ss with
    | s :: ss => chkS Γ b q s && chkSs Γ b qs ss
    | [] => false
end
theorem sw_cell {elt : Expr} {gs : List Comprehension} {scope : Scope} {pos py : Pos} {y : Str} {l : Nat} {env : Env} (hy : env.scope.names.lookup y = some .cell) : swapsWith (.ListComp elt gs scope pos) (some (.Name y py)) l env = pure false := by
  have ky : env.kindOf y = some .cell := hy
  show (pure (env.blockKind == .function && env.kindOf y == some .local && py.line == pos.line && !(scope.names.any fun (n, k) => n == y && (k == .local || k == .cell))) : Sem Bool) = pure false
  rw [ky, show ((some NameKind.cell == some NameKind.local) = false) from rfl]
  simp
theorem asg_ok {X : Cx} {Γ : Ctx} {b : Blk} {k : Nat} {i : Nat} {x : Str} {p pos : Pos} {c : E} {e : Expr} (C : CxOk X Γ b k) (h1 : tgB b i x = true) (h2 : swB b x p e = true) (h0 : lcOnlyC b x c e = true) (h : chk Γ.sk b c e = true) : PS X (.Assign [.Name x p] e pos) (tAsg (LE X Γ.pin false (wE Γ false c)) (gName i)) := by
  have h1' := h1
  unfold tgB at h1
  simp only [Bool.and_eq_true, decide_eq_true_eq] at h1
  obtain ⟨l1, l2⟩ := C.loc h1.2
  have plain : noComp e = true → PS X (.Assign [.Name x p] e pos) (tAsg (LE X Γ.pin false (wE Γ false c)) (gName i)) := fun hc =>
    ps_set (by rw [C.N]; exact C.nd) (by rw [C.N]; exact h1.1) l1 ((sE Γ k c b e X C h).pe false) (by cases e <;> first | rfl | (exact (Bool.noConfusion hc))) l2
  unfold swB at h2
  split at h2
  · rename_i e1 gs scope lpos
    simp only [Bool.and_eq_true, Bool.or_eq_true, decide_eq_true_eq, Bool.not_eq_true'] at h2
    rcases h2 with hcell | h2
    · exact ps_set (by rw [C.N]; exact C.nd) (by rw [C.N]; exact h1.1) l1 ((sE Γ k c b _ X C h).pe false) (sw_cell (by rw [C.sc]; exact hcell)) l2
    replace h0 : lcOnly c (.ListComp e1 gs scope lpos) = true := by
      unfold lcOnlyC at h0
      rw [Bool.or_eq_true] at h0
      rcases h0 with z | z
      · exact z
      · have z := of_decide_eq_true z
        rw [h2.1.1] at z
        cases z
    cases c with
    | lc is bor elt it ies cond =>
      unfold chk at h
      split at h
      · rename_i heq
        cases heq
        simp only [Bool.and_eq_true, decide_eq_true_eq, beq_iff_eq] at h
        obtain ⟨⟨⟨⟨⟨⟨⟨⟨⟨⟨⟨h1, h3⟩, h4⟩, h5⟩, h6⟩, h7⟩, h8⟩, h9⟩, h10⟩, h11⟩, h12⟩, h13⟩ := h
        subst h1
        refine ls_lc C (free_of h3) h4 h5 h6 h7 h8 (fun pu bor => sI Γ k it ies b _ X _ C h9 h13) (fun X' C' => (sE Γ k elt _ _ X' C' h10).pe) ?_ h1.1 h2.1.1 h2.1.2 h2.2
        rename_i ifs
        cases ifs with
        | nil => exact .inl ⟨rfl, by cases cond with | nil => rfl | cons _ _ => simp [chkL] at h11⟩
        | cons ec ifs =>
          cases ifs with
          | cons _ _ => simp at h12
          | nil =>
            cases cond with
            | nil => simp [chkL] at h11
            | cons c cond =>
              cases cond with
              | cons _ _ => simp [chkL] at h11
              | nil =>
                refine .inr ⟨ec, c, rfl, rfl, fun X' C' => ?_⟩
                simp only [chkL, Bool.and_eq_true] at h11
                exact (sE Γ k c _ _ X' C' h11.1.2).pt
      · cases h
    | _ => exact (Bool.noConfusion h0)
  · exact plain h2
/-- what a def's statements ask of their context, beyond CxOk -/
structure XxOk (X : Cx) (W : WX) : Prop where
  st : X.stack = X.env :: X.outer
  fr : X.env.frame = some X.env.locals
  ex : X.ex = []
  tk : Takes X W
  own : PassesOwn (model X.prog X.w) X.A X.env X.xe
mutual
theorem sS (Γ : Ctx) (k : Nat) {b : Blk} : ∀ (q : S) (s : Stmt) {X : Cx} {W : WX}, CxOk X Γ b k → XxOk X W → chkS Γ.sk b q s = true → PS X s (LS X W Γ.pin (wS Γ q))
  | .asg i c, s, X, W, C, xx, h => by
    unfold chkS at h
    split at h
    · simp only [Bool.and_eq_true] at h
      exact ls_asg (asg_ok C h.1.1.1 h.1.1.2 h.1.2 h.2)
    · cases h
  | .unp is c, s, X, W, C, xx, h => by
    unfold chkS at h
    split at h
    · simp only [Bool.and_eq_true] at h
      exact ls_unp C h.1.1.1 (sE Γ k c b _ X C h.2).pe h.1.1.2 h.1.2
    · cases h
  | .setix o i c, s, X, W, C, xx, h => by
    unfold chkS at h
    split at h
    · simp only [Bool.and_eq_true] at h
      exact ls_setix (sE Γ k c b _ X C h.1.1.2).pe (sE Γ k o b _ X C h.1.2).pe (sE Γ k i b _ X C h.2).pe h.1.1.1.1 h.1.1.1.2
    · cases h
  | .augix op o i y, s, X, W, C, xx, h => by
    unfold chkS at h
    split at h
    · simp only [Bool.and_eq_true, Bool.or_eq_true, decide_eq_true_eq] at h
      have e1 := bopIs_eq h.1.1.1.1.1
      subst e1
      have e2 := h.1.1.1.2
      subst e2
      exact ls_augix (sE Γ k o b _ X C h.1.2).pe (sE Γ k i b _ X C h.2).pe h.1.1.2 h.1.1.1.1.2
    · cases h
  | .rse, s, X, W, C, xx, h => by
    unfold chkS at h
    split at h
    · exact ls_rse
    · cases h
  | .ex c, s, X, W, C, xx, h => by
    unfold chkS at h
    split at h
    · simp only [Bool.and_eq_true] at h
      rename_i e p
      exact ls_ex (sE Γ k c b _ X C h.2).pe (by have := h.1; cases e <;> first | rfl | (exact (Bool.noConfusion this)))
    · cases h
  | .ret c, s, X, W, C, xx, h => by
    unfold chkS at h
    split at h
    · exact ls_ret (sE Γ k c b _ X C h).pe
    · cases h
  | .retm cs, s, X, W, C, xx, h => by
    unfold chkS at h
    split at h
    · exact ls_retm (sL Γ k cs b _ X C h).1.2
    · cases h
  | .ife c p q, s, X, W, C, xx, h => by
    unfold chkS at h
    split at h
    · simp only [Bool.and_eq_true] at h
      exact ls_if (sE Γ k c b _ X C h.1.1).pt (sSs Γ k p _ C xx h.1.2) (sSs Γ k q _ C xx h.2)
    · cases h
  | .for_ is it ies p, s, X, W, C, xx, h => by
    unfold chkS at h
    split at h
    · simp only [Bool.and_eq_true] at h
      obtain ⟨⟨⟨⟨h1, h2⟩, h3⟩, h4⟩, h5⟩ := h
      exact ls_for xx.own C h1 h2 (fun pu bor => sI Γ k it ies b _ X _ C h4 h3) (sSs Γ k p _ C xx h5)
    · cases h
theorem sSs (Γ : Ctx) (k : Nat) {b : Blk} : ∀ (qs : List S) (ss : List Stmt) {X : Cx} {W : WX}, CxOk X Γ b k → XxOk X W → chkSs Γ.sk b qs ss = true → PSs X ss (LS X W Γ.pin (wSs Γ qs))
  | [], ss, X, W, C, xx, h => by
    unfold chkSs at h
    split at h
    · exact ls_nil
    · cases h
  | q :: qs, ss, X, W, C, xx, h => by
    unfold chkSs at h
    split at h
    · simp only [Bool.and_eq_true] at h
      exact ls_cons (sS Γ k q _ C xx h.1) (sSs Γ k qs _ C xx h.2)
    · cases h
end
/-- the slots of the arguments that may be changed -/
def ownIx : List Md → Nat → List Nat
  | [], _ => []
  | .own :: ms, i => i :: ownIx ms (i + 1)
  | .bor :: ms, i => ownIx ms (i + 1)
/-- the arguments behind the call -/
def outs : List Md → List T → St → Option (List T)
  | [], _, _ => some []
  | .own :: ms, _ :: ts, s :: σ => if s.isDead then none else (outs ms ts σ).map (s :: ·)
  | .bor :: ms, _ :: ts, _ :: σ => (outs ms ts σ).map (.dead :: ·)
  | _ :: _, _, _ => none
def outW (md : List Md) (ts : List T) (σ : St) (K : List T → Prop) : Prop := match outs md ts σ with
  | some us => K us
  | none => False
def ends (md : List Md) (ts : List T) (Q : T → List T → Prop) : AE := { nx := fun σ => outW md ts σ fun us => Q (.d .none) us, rt := fun r σ => outW md ts σ fun us => Q r us }
/-- what a body owes -/
def bodyW (Γ : Ctx) (N : List Str) (md : List Md) (body : List S) (F : List T → (T → List T → Prop) → Prop) : Prop :=
  ∀ ts Q, F ts Q → ts.length = md.length → wSs Γ body (ends md ts Q) (ts ++ List.replicate (N.length - ts.length) .dead)
def outsA : List Md → List TA → List TA → List TA
  | [], _, _ => []
  | .own :: ms, _ :: as, s :: sl => s :: outsA ms as sl
  | .bor :: ms, a :: as, _ :: sl => .dead a.v :: outsA ms as sl
  | _ :: _, _, _ => []
/-- the pins -/
def pinsV : List Md → List V → Nat → List (Nat × V)
  | .own :: ms, v :: vs, i => (i, v) :: pinsV ms vs (i + 1)
  | .bor :: ms, _ :: vs, i => pinsV ms vs (i + 1)
  | _, _, _ => []
theorem pinsV_mem : ∀ {md : List Md} {vs : List V} {i : Nat} {p : Nat × V}, p ∈ pinsV md vs i → ∃ j : Nat, p.1 = i + j ∧ md[j]? = some .own ∧ vs[j]? = some p.2
  | [], vs, i, p, h => by cases vs <;> simp [pinsV] at h
  | m :: ms, [], i, p, h => by cases m <;> simp [pinsV] at h
  | .own :: ms, v :: vs, i, p, h => by
    rw [pinsV] at h
    rcases List.mem_cons.mp h with rfl | h
    · exact ⟨0, rfl, rfl, rfl⟩
    · obtain ⟨j, h1, h2, h3⟩ := pinsV_mem h
      exact ⟨j + 1, by omega, h2, h3⟩
  | .bor :: ms, v :: vs, i, p, h => by
    rw [pinsV] at h
    obtain ⟨j, h1, h2, h3⟩ := pinsV_mem h
    exact ⟨j + 1, by omega, h2, h3⟩
theorem pinsV_in : ∀ {md : List Md} {vs : List V} {i j : Nat} {v : V}, md[j]? = some .own → vs[j]? = some v → (i + j, v) ∈ pinsV md vs i
  | [], vs, i, j, v, h, _ => by simp at h
  | m :: ms, [], i, j, v, _, h => by simp at h
  | .own :: ms, w :: vs, i, 0, v, h, h2 => by
    simp at h2
    subst h2
    simp [pinsV]
  | .bor :: ms, w :: vs, i, 0, v, h, h2 => by simp at h
  | .own :: ms, w :: vs, i, j + 1, v, h, h2 => by
    have := pinsV_in (i := i + 1) (by simpa using h) (by simpa using h2)
    rw [pinsV]
    refine List.mem_cons_of_mem _ ?_
    rw [show i + (j + 1) = i + 1 + j by omega]
    exact this
  | .bor :: ms, w :: vs, i, j + 1, v, h, h2 => by
    have := pinsV_in (i := i + 1) (by simpa using h) (by simpa using h2)
    rw [pinsV]
    rw [show i + (j + 1) = i + 1 + j by omega]
    exact this
theorem ownIx_mem : ∀ {md : List Md} {i j : Nat}, md[j]? = some .own → i + j ∈ ownIx md i
  | [], i, j, h => by simp at h
  | .own :: ms, i, 0, h => by simp [ownIx]
  | .bor :: ms, i, 0, h => by simp at h
  | .own :: ms, i, j + 1, h => by
    rw [ownIx, show i + (j + 1) = i + 1 + j by omega]
    exact List.mem_cons_of_mem _ (ownIx_mem (by simpa using h))
  | .bor :: ms, i, j + 1, h => by
    rw [ownIx, show i + (j + 1) = i + 1 + j by omega]
    exact ownIx_mem (by simpa using h)
theorem outsA_spec : ∀ {md : List Md} {as sl : List TA}, as.length = md.length → md.length ≤ sl.length → (outsA md as sl).length = md.length ∧ (∀ (j : Nat), md[j]? = some .own → (outsA md as sl)[j]? = sl[j]?) ∧ (∀ (j : Nat), md[j]? = some .bor → (outsA md as sl)[j]? = (as[j]?).map fun a => .dead a.v)
  | [], as, sl, _, _ => ⟨rfl, fun j h => by simp at h, fun j h => by simp at h⟩
  | m :: ms, [], sl, h, _ => by simp at h
  | m :: ms, a :: as, [], _, h => by simp at h
  | m :: ms, a :: as, s :: sl, h1, h2 => by
    obtain ⟨l, f, g⟩ := outsA_spec (md := ms) (as := as) (sl := sl) (by simpa using h1) (by simpa using h2)
    cases m with
    | own =>
      rw [outsA]
      refine ⟨by simp [l], fun j hj => ?_, fun j hj => ?_⟩
      · cases j with
        | zero => rfl
        | succ j => simpa using f j (by simpa using hj)
      · cases j with
        | zero => simp at hj
        | succ j => simpa using g j (by simpa using hj)
    | bor =>
      rw [outsA]
      refine ⟨by simp [l], fun j hj => ?_, fun j hj => ?_⟩
      · cases j with
        | zero => simp at hj
        | succ j => simpa using f j (by simpa using hj)
      · cases j with
        | zero => rfl
        | succ j => simpa using g j (by simpa using hj)
theorem outsA_fp : ∀ {md : List Md} {as sl : List TA}, (TA.fpl (outsA md as sl)).Sublist (TA.fpl sl)
  | [], as, sl => by rw [outsA, TA.fpl]; exact List.nil_sublist _
  | m :: ms, [], sl => by cases m <;> (simp only [outsA, TA.fpl]; exact List.nil_sublist _)
  | m :: ms, a :: as, [] => by cases m <;> (simp only [outsA, TA.fpl]; exact List.nil_sublist _)
  | .own :: ms, a :: as, s :: sl => by
    rw [outsA, TA.fpl, TA.fpl]
    exact List.Sublist.append (List.Sublist.refl _) outsA_fp
  | .bor :: ms, a :: as, s :: sl => by
    rw [outsA, TA.fpl, TA.fpl, TA.fp, List.nil_append]
    exact outsA_fp.trans (List.sublist_append_right _ _)
theorem outs_tl : ∀ {md : List Md} {as sl : List TA} {us : List T}, outs md (TA.tl as) (TA.tl sl) = some us → us = TA.tl (outsA md as sl) ∧ ∀ (j : Nat) t, md[j]? = some .own → sl[j]? = some t → t.isDead = false
  | [], as, sl, us, h => by
    rw [outs] at h
    cases h
    exact ⟨by rw [outsA, TA.tl], fun j t h => by simp at h⟩
  | m :: ms, [], sl, us, h => by cases m <;> simp [TA.tl, outs] at h
  | m :: ms, a :: as, [], us, h => by cases m <;> simp [TA.tl, outs] at h
  | .own :: ms, a :: as, s :: sl, us, h => by
    rw [TA.tl, TA.tl, outs] at h
    split at h
    · cases h
    · rename_i hd
      obtain ⟨us', e1, rfl⟩ := Option.map_eq_some_iff.mp h
      obtain ⟨e2, f⟩ := outs_tl e1
      refine ⟨by rw [outsA, TA.tl, e2], fun j t h1 h2 => ?_⟩
      cases j with
      | zero =>
        simp at h2
        subst h2
        rw [TA.isDead_t] at hd
        simpa using hd
      | succ j => exact f j t (by simpa using h1) (by simpa using h2)
  | .bor :: ms, a :: as, s :: sl, us, h => by
    rw [TA.tl, TA.tl, outs] at h
    obtain ⟨us', e1, rfl⟩ := Option.map_eq_some_iff.mp h
    obtain ⟨e2, f⟩ := outs_tl e1
    refine ⟨by rw [outsA, TA.tl, e2, TA.t], fun j t h1 h2 => ?_⟩
    cases j with
    | zero => simp at h1
    | succ j => exact f j t (by simpa using h1) (by simpa using h2)
theorem outs_len : ∀ {md : List Md} {ts : List T} {σ : St} {us : List T}, outs md ts σ = some us → md.length ≤ σ.length
  | [], _, _, _, _ => Nat.zero_le _
  | m :: ms, [], σ, us, h => by cases m <;> simp [outs] at h
  | m :: ms, t :: ts, [], us, h => by cases m <;> simp [outs] at h
  | .own :: ms, t :: ts, s :: σ, us, h => by
    rw [outs] at h
    split at h
    · cases h
    · obtain ⟨us', e1, _⟩ := Option.map_eq_some_iff.mp h
      simpa using outs_len e1
  | .bor :: ms, t :: ts, s :: σ, us, h => by
    rw [outs] at h
    obtain ⟨us', e1, _⟩ := Option.map_eq_some_iff.mp h
    simpa using outs_len e1
/-- a def that makes lambdas: its code object, its table -/
def LamOk (K : PySem.W.Frag) (mg : Str → Option Value) (base : Heap) (f : Addr) (qual : Str) : Prop :=
  ∃ c P, tabOf K f = some (c, P) ∧ LamX.TabB base mg c P ∧ (P, (qual ++ (".<locals>." : Str)) ++ ("<lambda>" : Str)) ∈ tabsK K ∧ ∀ p ∈ tabsK K, p.1 = P → p.2 = (qual ++ (".<locals>." : Str)) ++ ("<lambda>" : Str)
theorem tabOf_code {K : PySem.W.Frag} {f : Addr} {oc : Value} {od : Option Addr} {fd : FuncData} {osl : Array (Option Value)} {c P : Addr} (lk : K.lookup f = some ⟨oc, od, .func fd, osl⟩) (h : tabOf K f = some (c, P)) : fd.code = .ref c := by
  unfold tabOf at h
  rw [lk] at h
  simp only at h
  split at h
  · rename_i c0 e
    split at h
    · split at h
      · cases h
        exact e
      · cases h
    · cases h
  · cases h
/-- what a context of calls and names needs -/
structure GOk (P : Program) (w : World) (K : PySem.W.Frag) (mg : Str → Option Value) (base : Heap) (Γ : Ctx) (k : Nat) : Prop where
  glob : ∀ g x, Γ.glob.lookup g = some x → ∃ v u, mg g = some u ∧ RelV v u ∧ ∀ Hs, Rp K Hs v x
  bi : ∀ n ∈ Γ.bs, mg n = none
  fns : ∀ f fs, Γ.fn.lookup f = some fs → ∃ a fd ps, FnG P w K mg base CX0 k a fd ps (spV K fs.md fs.F) ∧ mg f = some (.ref a) ∧ PySem.W.keepIn K (.ref a) = true ∧ Binds K fd ps []
  cls : ∀ c ci, Γ.cls.lookup c = some ci → ClsOk P w K mg base k c ci
  xfns : ∀ f fs, Γ.xfn.lookup f = some fs → ∃ a fd ps, FnG P w K mg base (L2.CX P w) k a fd ps (spX K mg fs.md fs.F) ∧ mg f = some (.ref a) ∧ PySem.W.keepIn K (.ref a) = true ∧ Binds K fd ps []
  xcls : ∀ c ci, Γ.xcls.lookup c = some ci → ClsX P w K mg base k c ci
  xc : ∀ n xi, Γ.xc.lookup n = some xi → XcOk K mg n xi
  pms : ∀ m ps, Γ.pms.lookup m = some ps → ∃ ci g fd pn, Γ.cls.lookup ps.c = some ci ∧ Meth K ci.C m g ∧ FnG P w K mg base CX0 k g fd pn (spP K ps.md ps.F) ∧ Binds K fd pn []
section
variable {P : Program} {w : World} {K : PySem.W.Frag} {mg : Str → Option Value} {base : Heap}
theorem rel_start {N : List Str} {md : List Md} {Hs H : Hp} {vs : List V} {as : List TA} (hl : vs.length = md.length) (hN : vs.length ≤ N.length) (R : Rel K ⟨⟨H, Hs, TA.fpl as ++ tabA K, []⟩, []⟩ Hs H (vs.map some) as []) (hv : as.map TA.v = vs) :
    Rel K ⟨⟨H, Hs, TA.fpl as ++ tabA K, pinsV md vs 0⟩, ownIx md 0⟩ Hs H (L2.start N vs) (as ++ List.replicate (N.length - vs.length) (.dead .non)) [] := by
  have fr : ∀ n, TA.fpl (List.replicate n (TA.dead V.non)) = [] := fun n => by
    induction n with
    | zero => rfl
    | succ n ih => rw [List.replicate_succ, TA.fpl, ih]; rfl
  have ha : as.length = vs.length := by rw [← hv, List.length_map]
  have ef : TA.fpl ((as ++ List.replicate (N.length - vs.length) (.dead .non)) ++ []) = TA.fpl (as ++ []) := by rw [List.append_nil, List.append_nil, TA.fpl_append, fr, List.append_nil]
  refine ⟨?_, fun i t ht hd => ?_, ?_, by rw [ef]; exact R.uq, by rw [ef]; exact R.out, R.sub, R.keep, by rw [ef]; exact R.fresh, R.hs, R.hsNew, fun t ht => ?_, fun p hp => ?_, R.tab, R.tabB⟩
  · unfold L2.start
    rw [List.length_append, List.length_append, List.length_replicate, List.length_replicate, List.length_map, ha]
  · by_cases hi : i < as.length
    · rw [List.getElem?_append_left hi] at ht
      have := R.val i t ht hd
      unfold L2.start
      rw [List.getElem?_append_left (by rw [List.length_map, ← ha]; exact hi)]
      exact this
    · rw [List.getElem?_append_right (by omega)] at ht
      have := List.mem_of_getElem? ht
      rw [(List.mem_replicate.mp this).2] at hd
      cases hd
  · rw [List.append_nil]
    have := R.ok
    rw [List.append_nil] at this
    refine TA.okl_append.mpr ⟨this, TA.okl_all.mpr fun t ht => ?_⟩
    rw [(List.mem_replicate.mp ht).2, TA.ok]
    trivial
  · rcases List.mem_append.mp ht with z | z
    · exact R.ntup t z
    · rw [(List.mem_replicate.mp z).2]
      rfl
  · obtain ⟨j, e1, e2, e3⟩ := pinsV_mem hp
    have hj : j < as.length := by rw [ha]; exact (List.getElem?_eq_some_iff.mp e3).1
    refine ⟨by rw [e1]; exact ownIx_mem e2, as[j], ?_, ?_, by
      rw [e1, Nat.zero_add]
      unfold L2.start
      rw [List.getElem?_append_left (by rw [List.length_map, ← ha]; exact hj), List.getElem?_map, e3]
      rfl⟩
    · rw [e1, Nat.zero_add, List.getElem?_append_left hj, List.getElem?_eq_getElem hj]
    · rw [← hv, List.getElem?_map, List.getElem?_eq_getElem hj] at e3
      exact Option.some.inj e3
theorem rel_end {md : List Md} {Hs H Hs' H' : Hp} {vs : List V} {as sl : List TA} {σ : L2.St} {x : TA} {us : List T} (hl : vs.length = md.length) (R0 : Rel K ⟨⟨H, Hs, TA.fpl as ++ tabA K, []⟩, []⟩ Hs H (vs.map some) as []) (hv : as.map TA.v = vs) (hd : ∀ t ∈ as, t.isDead = false)
    (hb : ∀ (i : Nat) (t : TA), md[i]? = some Md.bor → as[i]? = some t → ∃ v x, t = TA.d v x) (R : Rel K ⟨⟨H, Hs, TA.fpl as ++ tabA K, pinsV md vs 0⟩, ownIx md 0⟩ Hs' H' σ sl [x]) (hlen : md.length ≤ sl.length) (ho : outs md (TA.tl as) (TA.tl sl) = some us) :
    us = TA.tl (outsA md as sl) ∧ Rel K ⟨⟨H, Hs, TA.fpl as ++ tabA K, []⟩, []⟩ Hs' H' (vs.map some) (outsA md as sl) [x] ∧ (outsA md as sl).map TA.v = vs ∧ ∀ (i : Nat) (t : TA), md[i]? = some Md.own → (outsA md as sl)[i]? = some t → t.isDead = false := by
  obtain ⟨e1, nd⟩ := outs_tl ho
  have ha : as.length = md.length := by rw [← hl, ← hv, List.length_map]
  obtain ⟨l, f, g⟩ := outsA_spec (md := md) (as := as) (sl := sl) ha hlen
  have sb : (TA.fpl (outsA md as sl)).Sublist (TA.fpl sl) := outsA_fp
  have sb2 : (TA.fpl (outsA md as sl ++ [x])).Sublist (TA.fpl (sl ++ [x])) := by
    rw [TA.fpl_append, TA.fpl_append]
    exact sb.append (List.Sublist.refl _)
  -- each of them
  have each : ∀ (j : Nat) t, (outsA md as sl)[j]? = some t → (md[j]? = some .own → t.isDead = false) ∧ vs[j]? = some t.v ∧ t.ok K Hs' H' ∧ t.noTup = true := fun j t ht => by
    have hj : j < md.length := by rw [← l]; exact (List.getElem?_eq_some_iff.mp ht).1
    cases hm : md[j] with
    | own =>
      have hm' : md[j]? = some .own := by rw [List.getElem?_eq_getElem hj, hm]
      rw [f j hm'] at ht
      have hjv : j < vs.length := by omega
      obtain ⟨_, t', h1, h2⟩ := R.pin (0 + j, vs[j]) (pinsV_in hm' (List.getElem?_eq_getElem hjv))
      simp only [Nat.zero_add] at h1
      rw [ht] at h1
      cases h1
      exact ⟨fun _ => nd j t hm' ht, by rw [List.getElem?_eq_getElem hjv, h2.1], R.slot_ok ht, R.ntup t (List.mem_of_getElem? ht)⟩
    | bor =>
      have hm' : md[j]? = some .bor := by rw [List.getElem?_eq_getElem hj, hm]
      rw [g j hm'] at ht
      obtain ⟨t0, h0, rfl⟩ := Option.map_eq_some_iff.mp ht
      refine ⟨fun z => ?_, by rw [← hv, List.getElem?_map, h0]; rfl, by rw [TA.ok]; trivial, rfl⟩
      rw [hm'] at z
      cases z
  have eachm : ∀ t ∈ outsA md as sl, t.ok K Hs' H' ∧ t.noTup = true := fun t ht => by
    obtain ⟨j, hj, rfl⟩ := List.mem_iff_getElem.mp ht
    obtain ⟨a, b, c, d⟩ := each j _ (List.getElem?_eq_getElem hj)
    exact ⟨c, d⟩
  refine ⟨e1, ⟨by rw [l, List.length_map, hl], fun i t ht _ => by rw [List.getElem?_map, (each i t ht).2.1]; rfl, TA.okl_append.mpr ⟨TA.okl_all.mpr fun t ht => (eachm t ht).1, R.okT⟩, sb2.nodup R.uq, fun a ha => R.out a (sb2.subset ha), R.sub, R.keep, fun a ha => R.fresh a (sb2.subset ha), R.hs, R.hsNew, fun t ht => (eachm t ht).2, (fun p hp => by cases hp), R.tab, R.tabB⟩, ?_, fun j t h1 h2 => (each j t h2).1 h1⟩
  apply List.ext_getElem?
  intro j
  by_cases hj : j < md.length
  · have ht := List.getElem?_eq_getElem (l := outsA md as sl) (i := j) (by rw [l]; exact hj)
    rw [List.getElem?_map, ht, (each j _ ht).2.1]
    rfl
  · rw [List.getElem?_eq_none (by rw [List.length_map, l]; omega), List.getElem?_eq_none (by omega)]
theorem fn_ok {x qual : Str} {st : Stmt} {f : Addr} {fd : FuncData} {N ps : List Str} {k : Nat} {Γ : Ctx} {md : List Md} {body : List S} {F : List T → (T → List T → Prop) → Prop} (Fn : Fun K x qual st f fd) (Sc : FnScope N ps (defScope st)) (hmd : md.length = ps.length)
    (G : GOk P w K mg base Γ k) (hpin : Γ.pin = ownIx md 0) (hchk : chkSs Γ.sk ⟨N, defScope st, fun _ => true⟩ body (defBody st) = true) (hF : bodyW Γ N md body F) (hlam : Γ.lam = true → LamOk K mg base f qual := by exact fun z => nomatch z) : FnG P w K mg base CX0 (k + 1) f fd ps (spV K md F) := by
  refine fun_okG Fn Sc (fun vs H Q E h => ?_) (fun cdv A outer s H vs Q E hc hR hr hgd h => ?_)
  · obtain ⟨_, _, _, hl, _⟩ := h
    rw [hl, hmd]
  · obtain ⟨Hs, as, Pq, hl, R0, hv, hd, hb, hf, hk⟩ := h
    have hpl : ps.length ≤ N.length := by
      have := congrArg List.length Sc.pre
      rw [List.length_take] at this
      omega
    have ha : as.length = md.length := by rw [← hl, ← hv, List.length_map]
    refine ⟨_, sSs Γ k body _ (X := (cxOf CX0 P w K mg base N qual (defScope st) f cdv A outer s H E).nox) (W := fun _ _ _ _ => False) (b := ⟨N, defScope st, fun _ => true⟩) ⟨rfl, rfl, rfl, room_out2 hr, hgd, Sc.nd, fun _ _ => rfl, G.glob, G.bi, G.fns, G.cls, G.xfns, G.xcls, G.xc, hr, G.pms, fun _ z => by
      obtain ⟨c, P, h1, h2, h3, h4⟩ := hlam z
      obtain ⟨oc, od, fd', osl, lk, e⟩ := hc
      exact ⟨fun env => room_lam hR _ env, fun env => room_lam2 hR _ env, c, P, e.symm.trans (tabOf_code lk h1), h2, h3, h4⟩⟩ ⟨rfl, rfl, rfl, fun _ _ z => by obtain ⟨_, _, _, _, _, _, _, _, _, _, _, _, _, _, _, _, z⟩ := z; exact z.elim, PassesOwn.never⟩ hchk, ?_⟩
    rw [hpin]
    refine ⟨_, Hs, _, { nx := fun σ => outW md (TA.tl as) σ fun us => Pq (.d .none) us, rt := fun r σ => outW md (TA.tl as) σ fun us => Pq r us }, rel_start hl (by omega) R0 hv, ?_, ?_⟩
    · have hw := hF (TA.tl as) Pq hf (by rw [tl_len, ha])
      have e : TA.tl (as ++ List.replicate (N.length - vs.length) (.dead .non)) = TA.tl as ++ List.replicate (N.length - (TA.tl as).length) .dead := by
        rw [tl_app, tl_len, ha, ← hl]
        congr 1
        rw [TA.tl_map, List.map_replicate]
        rfl
      rw [e]
      exact hw
    · have fin : ∀ (y : TA) Hs' H' σ' sl', Rel K ⟨⟨H, Hs, TA.fpl as ++ tabA K, pinsV md vs 0⟩, ownIx md 0⟩ Hs' H' σ' sl' [y] → y.isDead = false → outW md (TA.tl as) (TA.tl sl') (fun us => Pq y.t us) → Q y.v H' := fun y Hs' H' σ' sl' R1 yd ho => by
        unfold outW at ho
        split at ho
        · rename_i us hus
          have hlen : md.length ≤ sl'.length := by
            have := outs_len hus
            rw [tl_len] at this
            exact this
          obtain ⟨e1, R2, e3, e4⟩ := rel_end hl R0 hv hd hb R1 hlen hus
          exact hk H' Hs' _ y R2 e3 e4 yd (by rw [← e1]; exact ho)
        · exact ho.elim
      exact ⟨fun Hs' H' σ' sl' R1 ho => fin (.d .non .none) Hs' H' σ' sl' (Rel.leaf (K := K) (tp := []) R1 .non) rfl ho, fun y Hs' H' σ' sl' R1 yd ho => fin y Hs' H' σ' sl' R1 yd ho, fun _ _ _ _ _ z => z.elim, fun _ _ _ _ _ z => z.elim, fun _ _ _ _ _ _ _ _ z => z.elim⟩
end
def FLaw (n : Nat) : List T → (T → List T → Prop) → Prop := fun ts Q => ∃ ns : List Int, ns.length ≤ n ∧ ts = [.d (.list (ns.map .int))] ∧ ∀ us, Q (.d (.bool true)) us
theorem ints_rp {K : PySem.W.Frag} {H : Hp} : ∀ ns : List Int, RpAll K H (ns.map V.int) (ns.map PyData.int)
  | [] => .nil
  | n :: ns => .cons (.int n) (ints_rp ns)
/-- a heap without the tables that may grow -/
def cutT (K : PySem.W.Frag) (H : Hp) : Hp := fun a => if a ∈ tabA K then none else H a
theorem cutT_same {K : PySem.W.Frag} {H : Hp} : Same (cutT K H) H := fun a o e => by
  unfold cutT at e
  split at e
  · cases e
  · exact e
theorem law_sp {K : PySem.W.Frag} {H : Hp} {a : Addr} {ns : List Int} {n : Nat} {E : XK} (hl : ns.length ≤ n) (hT : ∀ p ∈ tabA K, H p = some (.tbl #[])) (hS0 : SqL K H a (ns.map V.int)) : spV K [.bor] (FLaw n) [.ref a] H (fun v _ => v = .bl true) E := by
  have hS : SqL K (cutT K H) a (ns.map V.int) := by
    rcases hS0 with z | z
    · refine .inl ?_
      have at_ : ∀ o, H a = some o → (∀ ps, o ≠ .tbl ps) → cutT K H a = some o := fun o e n => by
        unfold cutT
        rw [if_neg fun h => n _ (Option.some.inj (e.symm.trans (hT a h)))]
        exact e
      rcases z with z | ⟨ob, z⟩
      · exact .inl (at_ _ z fun ps q => by cases q)
      · exact .inr ⟨ob, at_ _ z fun ps q => by cases q⟩
    · exact .inr z
  have tb : TabsV K (cutT K H) H := ⟨fun p hp => ⟨#[], hT p.1 (List.mem_map.mpr ⟨p, hp, rfl⟩), True.intro, fun pos cv hc => by
    have z : codeAmong pos [] = some cv := hc
    simp [codeAmong] at z⟩, fun p hp => by unfold cutT; rw [if_pos hp]⟩
  refine ⟨cutT K H, [.d (.ref a) (.list (ns.map .int))], fun r _ => r = .d (.bool true), rfl, ⟨rfl, fun i t ht hd => ?_, ?_, ?_, ?_, cutT_same, fun a o h _ => h, ?_, Same.refl _, fun a h => .inl h, ?_, ?_, tb, fun a h => List.mem_append_right _ h⟩, rfl, ?_, ?_, ⟨ns, hl, rfl, fun _ => rfl⟩, fun H' Hs' as' r R _ _ _ hr => ?_⟩
  · cases i with
    | zero => simp at ht; subst ht; rfl
    | succ i => simp at ht
  · refine TA.okl_all.mpr fun t ht => ?_
    simp at ht
    subst ht
    rw [TA.ok]
    exact .lst hS (ints_rp ns)
  · simp [TA.fpl, TA.fp]
  · intro b hb
    simp [TA.fpl, TA.fp] at hb
  · intro b hb
    simp [TA.fpl, TA.fp] at hb
  · intro t ht
    simp at ht
    subst ht
    rfl
  · intro p hp
    cases hp
  · intro t ht
    simp at ht
    subst ht
    rfl
  · intro i t _ ht
    cases i with
    | zero => simp at ht; exact ⟨_, _, ht.symm⟩
    | succ i => simp at ht
  · have ok := R.okT
    cases r with
    | dead => cases hr
    | nd => cases hr
    | d v y =>
      rw [TA.t] at hr
      cases hr
      rw [TA.okl, TA.ok] at ok
      exact ok.1.bool_v
section
variable {P : Program} {w : World} {K : PySem.W.Frag} {mg : Str → Option Value} {base : Heap} {k : Nat}
def FnI (P : Program) (w : World) (K : PySem.W.Frag) (mg : Str → Option Value) (base : Heap) (k : Nat) (f : Str) (fs : FS) : Prop :=
  ∃ a fd ps, FnG P w K mg base CX0 k a fd ps (spV K fs.md fs.F) ∧ mg f = some (.ref a) ∧ PySem.W.keepIn K (.ref a) = true ∧ Binds K fd ps []
theorem FnI.mono {f : Str} {fs : FS} {j k : Nat} (h : FnI P w K mg base j f fs) (hjk : j ≤ k) : FnI P w K mg base k f fs := by
  obtain ⟨a, fd, ps, h1, h2⟩ := h
  exact ⟨a, fd, ps, h1.mono hjk, h2⟩
theorem fns_nil : ∀ f fs, ([] : List (Str × FS)).lookup f = some fs → FnI P w K mg base k f fs := fun f fs h => by cases h
theorem fns_cons {f0 : Str} {fs0 : FS} {l : List (Str × FS)} (h1 : FnI P w K mg base k f0 fs0) (h2 : ∀ f fs, l.lookup f = some fs → FnI P w K mg base k f fs) : ∀ f fs, ((f0, fs0) :: l).lookup f = some fs → FnI P w K mg base k f fs := fun f fs h => by
  rw [List.lookup_cons] at h
  split at h
  · rename_i e
    have e' : f = f0 := by simpa using e
    subst e'
    cases h
    exact h1
  · exact h2 f fs h
theorem bi_nil : ∀ n ∈ ([] : List Str), mg n = none := fun n h => by cases h
theorem bi_cons {n : Str} {l : List Str} (h1 : mg n = none) (h2 : ∀ n ∈ l, mg n = none) : ∀ m ∈ n :: l, mg m = none := fun m h => by
  rcases List.mem_cons.mp h with rfl | h
  · exact h1
  · exact h2 m h
theorem gl_nil : ∀ g x, ([] : List (Str × PyData)).lookup g = some x → ∃ v u, mg g = some u ∧ RelV v u ∧ ∀ Hs, Rp K Hs v x := fun g x h => by cases h
theorem cl_nil : ∀ c ci, ([] : List (Str × CI)).lookup c = some ci → ClsOk P w K mg base k c ci := fun c ci h => by cases h
/-- a def, ready to be called -/
theorem fn_in {x qual : Str} {st : Stmt} {f : Addr} {fd : FuncData} {N ps : List Str} {Γ : Ctx} {md : List Md} {body : List S} {F : List T → (T → List T → Prop) → Prop} (Fn : Fun K x qual st f fd) (hmg : mg x = some (.ref f)) (hb : Binds K fd ps []) (Sc : FnScope N ps (defScope st)) (hmd : md.length = ps.length)
    (G : GOk P w K mg base Γ k) (hpin : Γ.pin = ownIx md 0) (hchk : chkSs Γ.sk ⟨N, defScope st, fun _ => true⟩ body (defBody st) = true) (hF : bodyW Γ N md body F) (hlam : Γ.lam = true → LamOk K mg base f qual := by exact fun z => nomatch z) : FnI P w K mg base (k + 1) x ⟨md, F⟩ :=
  ⟨f, fd, ps, fn_ok Fn Sc hmd G hpin hchk hF hlam, hmg, Fn.kp, hb⟩
/-- .. that may raise -/
def FnX (P : Program) (w : World) (K : PySem.W.Frag) (mg : Str → Option Value) (base : Heap) (k : Nat) (f : Str) (fs : FS) : Prop :=
  ∃ a fd ps, FnG P w K mg base (L2.CX P w) k a fd ps (spX K mg fs.md fs.F) ∧ mg f = some (.ref a) ∧ PySem.W.keepIn K (.ref a) = true ∧ Binds K fd ps []
theorem FnX.mono {f : Str} {fs : FS} {j k : Nat} (h : FnX P w K mg base j f fs) (hjk : j ≤ k) : FnX P w K mg base k f fs := by
  obtain ⟨a, fd, ps, h1, h2⟩ := h
  exact ⟨a, fd, ps, h1.mono hjk, h2⟩
theorem xfns_nil : ∀ f fs, ([] : List (Str × FS)).lookup f = some fs → FnX P w K mg base k f fs := fun f fs h => by cases h
theorem xcl_nil : ∀ c ci, ([] : List (Str × CI)).lookup c = some ci → ClsX P w K mg base k c ci := fun c ci h => by cases h
theorem xc_nil : ∀ n xi, ([] : List (Str × XI)).lookup n = some xi → XcOk K mg n xi := fun n xi h => by cases h
end
section
variable {P : Program} {w : World} {K : PySem.W.Frag} {mg mb : Str → Option Value} {CX : CXT} {k : Nat} {fa a : Addr} {fd : FuncData} {x : Str} {sp : Sp} {t1 : Shared} {us : List Value} {is : List Int} {tc : List (Addr × Addr)}
def Tc0 (K : PySem.W.Frag) (h : Heap) (tc : List (Addr × Addr)) : Prop := ∀ p ∈ tc, PySem.W.CodeHd h p.1 p.2 ∧ h.get? p.2 = some (PySem.W.tabObj #[]) ∧ K.lookup p.2 = none
def BmG (mg : Str → Option Value) (h : Heap) : Prop := ∃ (bm : Addr) (ob : Obj), mg "__builtins__" = some (.ref bm) ∧ bm ≠ builtinsNs ∧ h.get? bm = some ob ∧ ob.cls = .type "module" ∧ ob.dict = some builtinsNs ∧ ob.data = .plain
/-- from an abstract heap that holds the script and the tables at most -/
theorem law_midT (KX : K.In t1.heap) (gm : t1.heap.Ns mainGlobals mg) (gb : t1.heap.Ns builtinsNs mb) (bb : ∀ y : Str, y ≠ "__name__" → mb y = bootBuiltins y) (lim : t1.heap.NoLimit) (gens0 : t1.gens = #[]) (hbm : BmG mg t1.heap) (tab : Tc0 K t1.heap tc)
    (obj : t1.heap.get? a = some { cls := .type "list", data := .seq us.toArray }) (room : Room k callerA) (F : ∀ base : Heap, K.In base → base.Ns mainGlobals mg → (∀ p ∈ tc, LamX.TabB base mg p.1 p.2) → FnG P w K mg base CX k fa fd [x] sp) (bind : ∀ (s : Shared) (u : Value), BindsTo s fd ⟨[u], []⟩ [(x, u)])
    (noX : ∀ H e s', CX [] H t1 (fun _ _ _ => False) e s' → False) {H : Hp} (hT : ∀ p ∈ tc, H p.2 = some (.tbl #[])) (hO : ∀ b u, H b = some u → (b = a ∧ ∃ ob xs, u = .frz ob (.lst xs)) ∨ (∃ p ∈ tc, p.2 = b)) (hsp : sp [.ref a] H (fun v _ => v = .bl true) fun _ _ _ => False) (hok : HOk P w H t1.heap) (hK : H a ≠ none → K.lookup a = none) :
    codeAny (model P w) callerA (.call (.ref fa) ⟨[.ref a], []⟩) (fun r s' => r = .ok (.ret (.bool true)) ∧ OldK t1.heap s'.heap ∧ s'.os = t1.os ∧ AllBare s'.gens) t1 := by
  -- an object that is neither the script nor a table is not tracked
  have loose : ∀ {b : Addr} {o : Obj}, t1.heap.get? b = some o → (∀ vs n, o.data ≠ .seq vs n) → o ≠ PySem.W.tabObj #[] → H b = none := by
    intro b o g d1 d2
    cases q : H b with
    | none => rfl
    | some u =>
      rcases hO b u q with ⟨rfl, _⟩ | ⟨p, hp, rfl⟩
      · rw [obj] at g
        cases g
        exact (d1 _ _ rfl).elim
      · rw [(tab p hp).2.1] at g
        exact (d2 (Option.some.inj g).symm).elim
  have keepNs : ∀ {b : Addr} {m : Str → Option Value}, t1.heap.Ns b m → (hidT t1.heap H).Ns b m := by
    rintro b m ⟨o, es, ep, g, d, r⟩
    refine ⟨o, es, ep, hidT_get g (loose g (fun vs n z => ?_) fun z => ?_), d, r⟩
    · rw [d] at z
      cases z
    · rw [z] at d
      cases d
  have KB : K.In (hidT t1.heap H) := by
    intro b o g
    refine hidT_get (KX b o g) ?_
    cases q : H b with
    | none => rfl
    | some u =>
      rcases hO b u q with ⟨rfl, _⟩ | ⟨p, hp, rfl⟩
      · rw [hK (by rw [q]; simp)] at g
        cases g
      · rw [(tab p hp).2.2] at g
        cases g
  have md : Mod K mg (hidT t1.heap H) := by
    obtain ⟨mc, l1, l2⟩ := lim
    exact ⟨KB, keepNs gm, ⟨mb, keepNs gb, bb⟩, mc, keepNs l1, l2⟩
  have tbB : ∀ p ∈ tc, LamX.TabB (hidT t1.heap H) mg p.1 p.2 := by
    intro p hp
    obtain ⟨t1c, t1o, _⟩ := tab p hp
    have glob : ∃ (o : Obj) (es : Array DictEntry) (ep : Nat), t1.heap.get? mainGlobals = some o ∧ o.data = .dict es ep := by
      obtain ⟨o, es, ep, g, d, _⟩ := gm
      exact ⟨o, es, ep, g, d⟩
    obtain ⟨og, esg, epg, gg, dg⟩ := glob
    refine ⟨?_, ?_, fun z => ?_⟩
    · obtain ⟨o, vs, file, tf, flags, tg, inF, text, tt, c1, c2, c3, c4⟩ := t1c
      refine ⟨o, vs, file, tf, flags, tg, inF, text, tt, hidT_get c1 (loose c1 (fun us n z => ?_) fun z => ?_), c2, c3, c4⟩
      · rw [c3] at z
        cases z
      · rw [z] at c2
        cases c2
    · obtain ⟨bm, ob, m1, m2, m3, m4, m5, m6⟩ := hbm
      refine ⟨bm, ob, m1, m2, fun z => ?_, fun z => ?_, hidT_get m3 (loose m3 (fun us n z => ?_) fun z => ?_), m4, m5, m6⟩
      · rw [z, gg] at m3
        cases m3
        rw [dg] at m6
        cases m6
      · rw [z, t1o] at m3
        cases m3
        cases m6
      · rw [m6] at z
        cases z
      · rw [z] at m4
        cases m4
    · rw [z, t1o] at gg
      cases gg
      cases dg
  have env : Env0 P w K mg (hidT t1.heap H) callerA [] t1 H := by
    refine ⟨rfl, md, fun b o g => of_hidT g, Nat.le_of_eq (hidT_size _ _), trivial, fun b hb => ?_, hok, .of_eq gens0⟩
    cases (show b ∈ ([] : List Addr) from hb)
  refine codeAny_mono ((F _ KB (keepNs gm) tbB).run callerA [] t1 H ⟨[.ref a], []⟩ [.ref a] [.ref a] _ _ room rfl env (bind t1 (.ref a)) (.cons rfl .nil) hsp) fun res s' hres => ?_
  match res, hres with
  | .error e, z => exact (noX H e s' z).elim
  | .ok (.ret u), ⟨v, H', os, bare, un, hok', rv, q⟩ =>
    have q' : v = .bl true := q
    subst q'
    have eu : u = Value.bool true := rv
    subst eu
    have other : ∀ b o, (∀ p ∈ tc, p.2 ≠ b) → t1.heap.get? b = some o → s'.heap.get? b = some o := by
      intro b o nb g
      cases hb : H b with
      | none =>
        refine un.keep b o g hb (fun z => ?_) (by simp)
        cases (show b ∈ ([] : List Addr) from z)
      | some hobj =>
        rcases hO b hobj hb with ⟨_, ob, xs, rfl⟩ | ⟨p, hp, e⟩
        · obtain ⟨g1, _⟩ := hok b _ hb
          obtain ⟨g2, _⟩ := hok' b _ (un.frzs b ob _ hb)
          rw [g] at g1
          cases g1
          exact g2
        · exact (nb p hp e).elim
    have table : ∀ p ∈ tc, ∃ more : Array Value, s'.heap.get? p.2 = some (PySem.W.tabObj more) := by
      intro p hp
      obtain ⟨more, z⟩ := un.tbls p.2 #[] (hT p hp)
      exact ⟨_, hok' p.2 _ z⟩
    refine ⟨rfl, ⟨fun b o g => ?_, fun b o g => ?_⟩, os, bare⟩
    · by_cases nb : ∀ p ∈ tc, p.2 ≠ b
      · exact .inl (other b o nb g)
      · obtain ⟨p, hp, rfl⟩ : ∃ p, p ∈ tc ∧ p.2 = b := by
          refine Decidable.byContradiction fun z => nb fun p hp e => z ⟨p, hp, e⟩
        obtain ⟨more, hm⟩ := table p hp
        obtain ⟨c1, c2, _⟩ := tab p hp
        rw [c2] at g
        cases g
        exact .inr (.inl ⟨(c1.tab c2).isCodeTable, rfl, #[], more, rfl, by rw [Array.empty_append]; exact hm⟩)
    · by_cases nb : ∀ p ∈ tc, p.2 ≠ b
      · exact ⟨o, other b o nb g⟩
      · obtain ⟨p, hp, rfl⟩ : ∃ p, p ∈ tc ∧ p.2 = b := by
          refine Decidable.byContradiction fun z => nb fun p hp e => z ⟨p, hp, e⟩
        obtain ⟨more, hm⟩ := table p hp
        exact ⟨_, hm⟩
theorem law_callT (KX : K.In t1.heap) (gm : t1.heap.Ns mainGlobals mg) (gb : t1.heap.Ns builtinsNs mb) (bb : ∀ y : Str, y ≠ "__name__" → mb y = bootBuiltins y) (lim : t1.heap.NoLimit) (gens0 : t1.gens = #[]) (hbm : BmG mg t1.heap) (tab : Tc0 K t1.heap tc)
    (obj : t1.heap.get? a = some { cls := .type "list", data := .seq us.toArray }) (hin : IntsAre us is) (hl : is.length ≤ sizeLine) (room : Room k callerA) (F : ∀ base : Heap, K.In base → base.Ns mainGlobals mg → (∀ p ∈ tc, LamX.TabB base mg p.1 p.2) → FnG P w K mg base CX k fa fd [x] sp) (bind : ∀ (s : Shared) (u : Value), BindsTo s fd ⟨[u], []⟩ [(x, u)])
    (hsp : ∀ H : Hp, (∀ p ∈ tc, H p.2 = some (.tbl #[])) → SqL K H a (is.map V.int) → sp [.ref a] H (fun v _ => v = .bl true) fun _ _ _ => False) (noX : ∀ H e s', CX [] H t1 (fun _ _ _ => False) e s' → False) :
    codeAny (model P w) callerA (.call (.ref fa) ⟨[.ref a], []⟩) (fun r s' => r = .ok (.ret (.bool true)) ∧ OldK t1.heap s'.heap ∧ s'.os = t1.os ∧ AllBare s'.gens) t1 := by
  have vals := vals_ints hin
  have lenU := hin.length
  have anT : ∀ p ∈ tc, p.2 ≠ a := fun p hp z => by
    have c2 := (tab p hp).2.1
    rw [z, obj] at c2
    cases c2
  let tT : Hp := fun b => if b ∈ tc.map (·.2) then some (.tbl #[]) else none
  have tIn : ∀ p ∈ tc, tT p.2 = some (.tbl #[]) := fun p hp => if_pos (List.mem_map.mpr ⟨p, hp, rfl⟩)
  have tOf : ∀ {b u}, tT b = some u → u = .tbl #[] ∧ ∃ p ∈ tc, p.2 = b := fun {b u} z => by
    by_cases hb : b ∈ tc.map (·.2)
    · have z' : some (HO.tbl #[]) = some u := (if_pos hb).symm.trans z
      cases z'
      obtain ⟨p, hp, e⟩ := List.mem_map.mp hb
      exact ⟨rfl, p, hp, e⟩
    · have z' : none = some u := (if_neg hb).symm.trans z
      cases z'
  have tOk : ∀ b u, tT b = some u → ∀ H : Hp, ObjOk P w H t1.heap b u := fun b u z H => by
    obtain ⟨rfl, p, hp, rfl⟩ := tOf z
    exact (tab p hp).2.1
  have tA : tT a = none := by
    cases z : tT a with
    | none => rfl
    | some u =>
      obtain ⟨_, p, hp, e⟩ := tOf z
      exact (anT p hp e).elim
  by_cases hk : ∃ o, K.lookup a = some o
  · obtain ⟨o, hk⟩ := hk
    have g := KX a o hk
    rw [obj] at g
    cases g
    exact law_midT KX gm gb bb lim gens0 hbm tab obj room F bind noX (H := tT) tIn (fun b u z => .inr (tOf z).2) (hsp _ tIn (.inr ⟨_, us.toArray, _, hk, rfl, rfl, rfl, by rw [List.size_toArray, lenU]; exact hl, by simpa using vals⟩)) (fun b u z => tOk b u z _) fun z => absurd tA z
  · have hk' : K.lookup a = none := by
      cases q : K.lookup a with
      | none => rfl
      | some o => exact (hk ⟨o, q⟩).elim
    obtain ⟨H, hH⟩ : ∃ H : Hp, ∀ b, H b = if b = a then some (.frz { cls := .type "list", data := .seq us.toArray } (.lst (is.map V.int))) else tT b := ⟨_, fun _ => rfl⟩
    have at_a : H a = some (.frz { cls := .type "list", data := .seq us.toArray } (.lst (is.map V.int))) := by rw [hH, if_pos rfl]
    have off : ∀ b, b ≠ a → H b = tT b := fun b hb => by rw [hH, if_neg hb]
    have hTT : ∀ p ∈ tc, H p.2 = some (.tbl #[]) := fun p hp => by rw [off _ (anT p hp)]; exact tIn p hp
    refine law_midT KX gm gb bb lim gens0 hbm tab obj room F bind noX hTT (fun b u z => ?_) (hsp H hTT (.inl (.inr ⟨_, at_a⟩))) (fun b u z => ?_) fun _ => hk'
    · by_cases hb : b = a
      · subst hb
        rw [at_a] at z
        cases z
        exact .inl ⟨rfl, _, _, rfl⟩
      · rw [off b hb] at z
        exact .inr (tOf z).2
    · by_cases hb : b = a
      · subst hb
        rw [at_a] at z
        cases z
        exact ⟨obj, by rw [List.length_map]; exact hl, us, _, vals, obj⟩
      · rw [off b hb] at z
        exact tOk b u z _
end
section
variable {K : PySem.W.Frag}
theorem fun_of {x q : Str} {ps : Arguments} {b : List Stmt} {sc : Scope} {f : Addr} (F : ∃ fd, FunD K x q ps b sc [] [] f fd) : ∃ (oc : Value) (od : Option Addr) (kV doc pm : Value) (an : Option Addr) (cdv ct : Value) (osl : Array (Option Value)),
    K.lookup f = some ⟨oc, od, .func (PySem.W.fnOf x q ps b sc .none kV doc pm an cdv ct), osl⟩ ∧ PySem.W.codeIn K cdv q = true ∧ PySem.W.keepIn K (.ref f) = true := by
  obtain ⟨fd, F⟩ := F
  obtain ⟨oc, od, dV, kV, doc, pm, an, cdv, ct, osl, rfl, lk, hc, hd, _⟩ := F.ex
  rcases hd with ⟨_, rfl⟩ | ⟨z, _⟩
  · exact ⟨oc, od, kV, doc, pm, an, cdv, ct, osl, lk, hc, F.kp⟩
  · exact absurd rfl z
end
theorem walkGE {l : PySem.W.OpenLaw} {n k : Nat} {q : Program} {loose : List Str} {XP : (Str → Option Value) → Heap → Prop} {YP : World → Heap → Prop} {d : DefRec} {x : Str} (hn : l.most = some n) (hn2 : n ≤ sizeLine) (hdf : d.params.defaults = []) (hr : Room k callerA)
    (F : ∀ (w : World) (mg : Str → Option Value) (fa : Addr) (h : Heap), YP w h → h.Ns mainGlobals mg → mg d.name = some (.ref fa) → ∃ (K : PySem.W.Frag) (fd : FuncData), K.In h ∧ TabsH K h ∧ (∀ (s : Shared) (u : Value), BindsTo s fd ⟨[u], []⟩ [(x, u)]) ∧
      ∀ base : Heap, K.In base → base.Ns mainGlobals mg → (∀ p ∈ tabsC K, LamX.TabB base mg p.1 p.2) → FnG l.prog w K mg base CX0 k fa fd [x] (spV K [.bor] (FLaw n))) : PySem.W.WalkO q loose XP YP l.row.toRowW d [] (fun f vs => PySem.call f vs) := by
  refine Att.attach_callB hn hdf fun w s₀ t1 mg mb fa o pm cd doc a us is G Y ho hd hcd hmg obj hin hlen hbits hg => ?_
  obtain ⟨K, fd, KX, tb, hb, hF⟩ := F w mg fa _ Y G.T.g hmg
  refine law_callT (tc := tabsC K) KX G.T.g G.T.b G.T.builtins G.T.nolimit hg G.T.bmain tb obj hin (Nat.le_trans hlen hn2) hr hF hb (fun H hT hS => law_sp hlen (fun p hp => ?_) hS) fun H e s' h => h
  obtain ⟨c, hc⟩ := tabA_C hp
  exact hT _ hc
def n_law_pool : List Str := ["_law_script", "_law_k", "_law_cell", "_law_seed"]
def b_law_pool : List S := [.asg 2 (.k (.int 0)), .ife (.cmp .ne (.var 0) (.lst [])) [.asg 2 (.ix (.var 0) (.bin .mod (.var 1) (.blt .len [.var 0])))] [], .ife (.cmp .ge (.var 1) (.blt .len [.var 0])) [.asg 2 (.ix (.lst [.bin .mod (.var 2) (.k (.int 1000003)), .bin .fdiv (.var 2) (.bin .pow (.k (.int 10)) (.k (.int 18)))]) (.blt .int [.cmp .ge (.var 2) (.bin .pow (.k (.int 10)) (.k (.int 36)))]))] [], .asg 3 (.bin .mod (.bin .mul (.bin .add (.bin .add (.bin .mod (.var 2) (.k (.int 2147483629))) (.bin .mul (.k (.int 104729)) (.var 1))) (.k (.int 11))) (.k (.int 48271))) (.k (.int 2147483647))), .ret (.lst [.bin .mul (.var 2) (.blt .int [.cmp .ge (.var 2) (.bin .pow (.k (.int 10)) (.k (.int 18)))]), .var 3])]
def n_law_take : List Str := ["_law_pool_here", "_law_many", "_law_digit"]
def b_law_take : List S := [.ife (.cmp .gt (.ix (.var 0) (.k (.int 0))) (.k (.int 0))) [.asg 2 (.bin .mod (.ix (.var 0) (.k (.int 0))) (.var 1)), .setix (.var 0) (.k (.int 0)) (.bin .fdiv (.ix (.var 0) (.k (.int 0))) (.var 1)), .ret (.var 2)] [], .setix (.var 0) (.k (.int 1)) (.bin .mod (.bin .add (.bin .mul (.ix (.var 0) (.k (.int 1))) (.k (.int 48271))) (.k (.int 11))) (.k (.int 2147483647))), .ret (.bin .mod (.bin .fdiv (.bin .mod (.bin .mul (.ix (.var 0) (.k (.int 1))) (.ix (.var 0) (.k (.int 1)))) (.k (.int 2147483629))) (.k (.int 64))) (.var 1))]
def n_law_kids : List Str := ["_law_script", "_law_head", "_law_most", "_law_boughs", "_law_deep", "_law_far", "_law_kids_here", "_law_k", "_law_pool_here", "_law_turn", "_law_some", "_law_one"]
def b_law_kids : List S := [.asg 3 (.bin .add (.k (.int 1)) (.call "_law_take" [.var 1, .k (.int 12)])), .asg 4 (.ix (.lst [.k (.int 3), .k (.int 6), .k (.int 12), .k (.int 40)]) (.call "_law_take" [.var 1, .k (.int 4)])), .asg 5 (.lst [.k (.int 0)]), .asg 6 (.lst [.lst []]), .for_ [7] .rng2 [.k (.int 2), .blt .max [.k (.int 4), .blt .min [.blt .len [.var 0], .k (.int 62)]]] [.asg 8 (.call "_law_pool" [.var 0, .var 7]), .for_ [9] .rng1 [.bin .add (.k (.int 1)) (.call "_law_take" [.var 8, .k (.int 3)])] [.asg 10 (.ix (.lst [.k (.int 1), .k (.int 3), .blt .len [.var 5]]) (.call "_law_take" [.var 8, .k (.int 3)])), .asg 11 (.bin .sub (.bin .sub (.blt .len [.var 5]) (.k (.int 1))) (.bin .mod (.call "_law_take" [.var 8, .var 10]) (.blt .len [.var 5]))), .ife (.and (.cmp .lt (.blt .len [.var 5]) (.var 2)) (.and (.cmp .lt (.blt .len [.ix (.var 6) (.var 11)]) (.var 3)) (.cmp .lt (.ix (.var 5) (.var 11)) (.var 4)))) [.ex (.mth .append (.var 5) [.bin .add (.ix (.var 5) (.var 11)) (.k (.int 1))]), .ex (.mth .append (.var 6) [.lst []]), .ex (.mth .append (.ix (.var 6) (.var 11)) [.bin .sub (.blt .len [.var 5]) (.k (.int 1))])] []]], .retm [.var 6, .var 5]]
def n_law_merged : List Str := ["_law_second", "_law_kids_here", "_law_far", "_law_turn", "_law_one", "_law_other", "_law_at"]
def b_law_merged : List S := [.for_ [3] .rng1 [.call "_law_take" [.var 0, .k (.int 12)]] [.asg 4 (.call "_law_take" [.var 0, .blt .len [.var 1]]), .asg 5 (.bin .add (.bin .add (.var 4) (.k (.int 1))) (.call "_law_take" [.var 0, .blt .len [.var 1]])), .asg 6 (.call "_law_take" [.var 0, .k (.int 8)]), .ife (.and (.cmp .lt (.var 5) (.blt .len [.var 1])) (.and (.cmp .ne (.ix (.var 1) (.var 4)) (.lst [])) (.and (.cmp .lt (.ix (.var 2) (.var 4)) (.ix (.var 2) (.var 5))) (.cmp .notin (.var 5) (.ix (.var 1) (.var 4)))))) [.ife (.cmp .lt (.blt .len [.ix (.var 1) (.var 4)]) (.k (.int 12))) [.ex (.mth .insert (.ix (.var 1) (.var 4)) [.bin .mod (.var 6) (.bin .add (.blt .len [.ix (.var 1) (.var 4)]) (.k (.int 1))), .var 5])] []] []]]
def n_law_hand : List Str := ["_law_second", "_law_turns", "_law_far", "_law_drawn"]
def b_law_hand : List S := [.asg 3 (.ix (.lst [.k (.str "high"), .k (.str "low")]) (.call "_law_take" [.var 0, .k (.int 2)])), .ret (.ix (.lst [.ix (.lst [.k (.str "high"), .k (.str "low")]) (.bin .mod (.var 2) (.k (.int 2))), .ix (.lst [.k (.str "low"), .k (.str "high")]) (.bin .mod (.var 2) (.k (.int 2))), .var 3]) (.var 1))]
def n_law_worth : List Str := ["_law_pool_here", "_law_style", "_law_k"]
def b_law_worth : List S := [.ife (.cmp .eq (.var 1) (.k (.int 2))) [.ret (.bin .sub (.bin .mod (.bin .add (.bin .mul (.k (.int 37)) (.var 2)) (.k (.int 11))) (.k (.int 1009))) (.k (.int 500)))] [], .ife (.cmp .eq (.var 1) (.k (.int 3))) [.ret (.ix (.lst [.bin .pow (.k (.int 10)) (.k (.int 30)), .neg (.bin .pow (.k (.int 10)) (.k (.int 30))), .k (.int 0), .bin .mul (.call "_law_take" [.var 0, .bin .pow (.k (.int 10)) (.k (.int 9))]) (.bin .pow (.k (.int 10)) (.k (.int 21)))]) (.call "_law_take" [.var 0, .k (.int 4)]))] [], .ret (.ix (.lst [.bin .sub (.call "_law_take" [.var 0, .k (.int 3)]) (.k (.int 1)), .bin .sub (.call "_law_take" [.var 0, .k (.int 41)]) (.k (.int 20)), .k (.int 0), .k (.int 0), .call "_law_take" [.var 0, .k (.int 2)]]) (.var 1))]
def n_law_play : List Str := ["_law_script", "_law_most", "_law_merge", "_law_head", "_law_kids_here", "_law_far", "_law_style", "_law_turns", "_law_second", "_law_play_here", "_law_k", "_law_hand_here", "_law_worth_here"]
def b_law_play : List S := [.asg 3 (.call "_law_pool" [.var 0, .k (.int 0)]), .unp [4, 5] (.call "_law_kids" [.var 0, .var 3, .var 1]), .asg 6 (.call "_law_take" [.var 3, .k (.int 5)]), .asg 7 (.call "_law_take" [.var 3, .k (.int 3)]), .asg 8 (.call "_law_pool" [.var 0, .k (.int 1)]), .ife (.var 2) [.ex (.call "_law_merged" [.var 8, .var 4, .var 5])] [], .asg 9 (.lst []), .for_ [10] .rng1 [.blt .len [.var 4]] [.asg 11 (.call "_law_hand" [.var 8, .var 7, .ix (.var 5) (.var 10)]), .asg 12 (.call "_law_worth" [.var 8, .var 6, .var 10]), .ex (.mth .append (.var 9) [.ix (.lst [.tup [.k (.str "end"), .var 12], .tup [.var 11, .blt .tuple [.ix (.var 4) (.var 10)], .var 12]]) (.blt .int [.cmp .ne (.ix (.var 4) (.var 10)) (.lst [])])])], .ret (.var 9)]
/-- a pool: its big number, its seed -/
def Pool (a s : Int) : T := .nd .list [.d (.int a), .d (.int s)]
def PoolOk (a s : Int) : Prop := 0 ≤ a ∧ 0 ≤ s ∧ s < 2147483647
abbrev F_take : List T → (T → List T → Prop) → Prop := fun ts Q => ∃ a s many, ts = [Pool a s, .d (.int many)] ∧ PoolOk a s ∧ 0 < many ∧ many < 2 ^ 64 ∧
  ∀ r a' s', 0 ≤ r → r < many → PoolOk a' s' → Q (.d (.int r)) [Pool a' s', .dead]
def Gm_take : Ctx := { fn := [], glob := [], bs := [], pin := [0], cls := [] }
theorem log2_small {j : Int} (h : j < 2 ^ 64) (h0 : 0 < j) : j.natAbs.log2 < 9000 := by
  have h1 : j.natAbs < 2 ^ 64 := by omega
  have h2 : j.natAbs ≠ 0 := by omega
  have := (Nat.log2_lt h2).mpr h1
  omega
theorem w_take : bodyW Gm_take n_law_take [.own, .bor] b_law_take F_take := by
  intro ts Q h _
  obtain ⟨a, s, many, rfl, ⟨ha, hs0, hs⟩, hm, hm2, q⟩ := h
  have hdiv : CDivW a many := ⟨hm, log2_small hm2 hm⟩
  conv => whnf
  refine ⟨fun h => ?_, fun h => ?_⟩
  · have h := of_decide_eq_true h
    repeat ((conv => whnf); refine ⟨by first | rfl | assumption | exact Nat.le_of_ble_eq_true rfl | decide, ?_⟩)
    conv => whnf
    exact q _ _ _ (Int.emod_nonneg _ (by omega)) (Int.emod_lt_of_pos _ hm) ⟨Int.ediv_nonneg ha (by omega), hs0, hs⟩
  · have h := of_decide_eq_false h
    have hs1 := Int.emod_nonneg (s * 48271 + 11) (b := 2147483647) (by omega)
    have hs2 := Int.emod_lt_of_pos (s * 48271 + 11) (b := 2147483647) (by omega)
    have hc1 : CMul s 48271 := .inr (by omega)
    have hc2 : CMul ((s * 48271 + 11) % 2147483647) ((s * 48271 + 11) % 2147483647) := .inl (by omega)
    have hd2 : CDivW ((s * 48271 + 11) % 2147483647 * ((s * 48271 + 11) % 2147483647) % 2147483629) 64 := ⟨by decide, by decide⟩
    repeat ((conv => whnf); refine ⟨by first | rfl | assumption | exact Nat.le_of_ble_eq_true rfl | decide, ?_⟩)
    conv => whnf
    exact q _ _ _ (Int.emod_nonneg _ (by omega)) (Int.emod_lt_of_pos _ hm) ⟨ha, hs1, hs2⟩
/-- data that == may look at, at most n deep -/
def shp (n : Nat) (d : PyData) : Prop := d.canLay0 = true ∧ d.depth ≤ n
theorem shp.shaped {n : Nat} {d : PyData} (h : shp n d) (hn : n ≤ 64) : SeqAt.shaped d = true := by
  unfold SeqAt.shaped
  rw [h.1, Bool.true_and]
  exact decide_eq_true (Nat.le_trans h.2 hn)
theorem shp_all {n : Nat} : ∀ {xs : List PyData}, (∀ x ∈ xs, shp n x) → PyData.canLayAll0 xs = true ∧ PyData.depthAll xs ≤ n
  | [], _ => ⟨by rw [PyData.canLayAll0], by rw [PyData.depthAll]; exact Nat.zero_le _⟩
  | x :: xs, h => by
    have h1 := h x (by simp)
    have h2 := shp_all fun y hy => h y (List.mem_cons_of_mem _ hy)
    rw [PyData.canLayAll0, PyData.depthAll, h1.1, h2.1]
    exact ⟨rfl, Nat.max_le.mpr ⟨h1.2, h2.2⟩⟩
theorem shp_list {n : Nat} {xs : List PyData} (h : ∀ x ∈ xs, shp n x) : shp (n + 1) (.list xs) := by
  have := shp_all h
  exact ⟨by rw [PyData.canLay0]; exact this.1, by rw [PyData.depth]; omega⟩
theorem shp_tup {n : Nat} {xs : List PyData} (h : ∀ x ∈ xs, shp n x) : shp (n + 1) (.tuple xs) := by
  have := shp_all h
  exact ⟨by rw [PyData.canLay0]; exact this.1, by rw [PyData.depth]; omega⟩
theorem shp_int (n : Nat) (i : Int) : shp n (.int i) := ⟨by rw [PyData.canLay0], by rw [PyData.depth]; exact Nat.zero_le _⟩
theorem shp_ints (ns : List Int) : shp 1 (.list (ns.map .int)) := shp_list fun x hx => by
  obtain ⟨i, _, rfl⟩ := List.mem_map.mp hx
  exact shp_int 0 i
theorem rngL_cons (lo : Int) (n : Nat) : rngL lo (n + 1) = .int lo :: rngL (lo + 1) n := by
  unfold rngL
  rw [List.range_succ_eq_map, List.map_cons, List.map_map]
  congr 1
  · simp
  · apply List.map_congr_left
    intro k _
    show PyData.int _ = PyData.int _
    congr 1
    push_cast
    omega
/-- a loop over a range -/
theorem forW_rng {is : List Nat} {bd : AE → St → Prop} {D : AE} {lo : Int} {n : Nat} (I : Nat → St → Prop) (h0 : ∀ σ, I n σ → D.nx σ)
    (hs : ∀ (k : Nat) σ (N : AE), k < n → (∀ σ', I (k + 1) σ' → N.nx σ') → (∀ σ', I (k + 1) σ' → N.ct σ') → (∀ r σ', D.rt r σ' → N.rt r σ') → (∀ σ', D.nx σ' → N.bk σ') → I k σ → match bindD is (.int (lo + k)) σ with | some σ1 => bd N σ1 | none => False) {σ : St} (hi : I 0 σ) : forW is bd D (rngL lo n) σ := by
  have key : ∀ (m k : Nat) (σ : St), k + m = n → I k σ → forW is bd D (rngL (lo + k) m) σ := by
    intro m
    induction m with
    | zero => intro k σ e h; have : k = n := by omega
              subst this; exact h0 σ h
    | succ m ih =>
      intro k σ e h
      rw [rngL_cons]
      have st : ∀ σ', I (k + 1) σ' → forW is bd D (rngL (lo + (k : Int) + 1) m) σ' := fun σ' h' => by
        have := ih (k + 1) σ' (by omega) h'
        rw [show lo + (k : Int) + 1 = lo + ((k + 1 : Nat) : Int) by push_cast; omega]
        exact this
      exact hs k σ { nx := forW is bd D (rngL (lo + (k : Int) + 1) m), rt := D.rt, bk := D.nx, ct := forW is bd D (rngL (lo + (k : Int) + 1) m), ex := D.ex } (by omega) st st (fun _ _ z => z) (fun _ z => z) h
  have := key n 0 σ (by omega) hi
  rw [show lo + ((0 : Nat) : Int) = lo by simp] at this
  exact this
theorem atI_ints {ns : List Int} {i : Int} (h0 : 0 ≤ i) (h1 : i < ns.length) : ∃ z, atI (ns.map PyData.int) i = some (.int z) ∧ ns[i.toNat]? = some z := by
  have hj : i.toNat < ns.length := by omega
  refine ⟨ns[i.toNat], ?_, List.getElem?_eq_getElem hj⟩
  unfold atI ixN
  rw [if_pos h0, if_pos (by rw [List.length_map]; exact h1)]
  show (ns.map PyData.int)[i.toNat]? = _
  rw [List.getElem?_map, List.getElem?_eq_getElem hj]
  rfl
abbrev F_pool : List T → (T → List T → Prop) → Prop := fun ts Q => ∃ (ns : List Int) (k : Int), ts = [.d (.list (ns.map .int)), .d (.int k)] ∧ 0 ≤ k ∧
  ∀ a s, PoolOk a s → Q (Pool a s) [.dead, .dead]
def Gm_pool : Ctx := { fn := [], glob := [], bs := ["len", "int"], pin := [], cls := [] }
theorem w_pool : bodyW Gm_pool n_law_pool [.bor, .bor] b_law_pool F_pool := by
  intro ts Q h _
  obtain ⟨ns, k, rfl, hk, q⟩ := h
  have hc1 : ∀ z : Int, CMul 104729 z := fun z => .inl (by decide)
  have hc2 : ∀ z : Int, CMul z 48271 := fun z => .inr (by decide)
  have hp36 : CPow 10 36 := ⟨by decide, by decide, by decide⟩
  have hp18 : CPow 10 18 := ⟨by decide, by decide, by decide⟩
  have hd18 : ∀ z : Int, CDivW z (10 ^ (18 : Int).toNat) := fun z => ⟨by decide, by decide⟩
  have hsz : ([] : List T).length ≤ sizeLine := Nat.zero_le _
  have sh1 := (shp_ints ns).shaped (by decide)
  have sh2 := (shp_ints []).shaped (by decide)
  -- the rest, once the cell is known
  have fin : ∀ (z : Int), wSs Gm_pool (b_law_pool.drop 3) (ends [.bor, .bor] [.d (.list (ns.map .int)), .d (.int k)] Q) [.d (.list (ns.map .int)), .d (.int k), .d (.int z), .dead] := by
    intro z
    have hb : ∀ b : Bool, CMul z (if b then 1 else 0) := fun b => .inr (by cases b <;> decide)
    have hs1 := Int.emod_nonneg ((z % 2147483629 + 104729 * k + 11) * 48271) (b := 2147483647) (by omega)
    have hs2 := Int.emod_lt_of_pos ((z % 2147483629 + 104729 * k + 11) * 48271) (b := 2147483647) (by omega)
    repeat ((conv => whnf); refine ⟨by first | rfl | assumption | exact hc1 _ | exact hc2 _ | exact hb _ | exact Nat.le_of_ble_eq_true rfl | decide, ?_⟩)
    conv => whnf
    refine q _ _ ⟨?_, hs1, hs2⟩
    by_cases h : (10 : Int) ^ (18 : Int).toNat ≤ z
    · rw [decide_eq_true h]
      have : (0 : Int) ≤ 10 ^ (18 : Int).toNat := by decide
      simp
      omega
    · rw [decide_eq_false h]
      simp
  have mid : ∀ (z : Int), wSs Gm_pool (b_law_pool.drop 2) (ends [.bor, .bor] [.d (.list (ns.map .int)), .d (.int k)] Q) [.d (.list (ns.map .int)), .d (.int k), .d (.int z), .dead] := by
    intro z
    conv => whnf
    refine ⟨fun h => ?_, fun h => fin z⟩
    repeat ((conv => whnf); refine ⟨by first | rfl | assumption | exact hd18 _ | exact Nat.le_of_ble_eq_true rfl | decide, ?_⟩)
    conv => whnf
    generalize decide ((10 : Int) ^ Int.toNat 36 ≤ z) = bb
    cases bb
    all_goals
      conv => whnf
      exact ⟨rfl, Nat.le_of_ble_eq_true rfl, fin _⟩
  repeat ((conv => whnf); refine ⟨by first | rfl | assumption | exact Nat.le_of_ble_eq_true rfl, ?_⟩)
  conv => whnf
  refine ⟨fun h => ?_, fun h => mid 0⟩
  have hne : 0 < ns.length := by
    cases ns with
    | nil => exact absurd h (by decide)
    | cons _ _ => exact Nat.succ_pos _
  have hl : (0 : Int) < ((ns.map PyData.int).length : Nat) := by rw [List.length_map]; omega
  obtain ⟨z, hz, _⟩ := atI_ints (ns := ns) (i := k % ((ns.map PyData.int).length : Nat)) (Int.emod_nonneg _ (by omega)) (by
    have := Int.emod_lt_of_pos k hl
    rw [List.length_map] at this ⊢
    exact this)
  repeat ((conv => whnf); refine ⟨by first | rfl | assumption | exact Nat.le_of_ble_eq_true rfl, ?_⟩)
  conv => whnf
  rw [hz]
  conv => whnf
  exact ⟨rfl, Nat.le_of_ble_eq_true rfl, mid z⟩
abbrev fsTake : FS := ⟨[.own, .bor], F_take⟩
abbrev fsPool : FS := ⟨[.bor, .bor], F_pool⟩
abbrev F_hand : List T → (T → List T → Prop) → Prop := fun ts Q => ∃ a s turns far, ts = [Pool a s, .d (.int turns), .d (.int far)] ∧ PoolOk a s ∧ 0 ≤ turns ∧ turns < 3 ∧
  ∀ x a' s', (x = "high" ∨ x = "low") → PoolOk a' s' → Q (.d (.str x)) [Pool a' s', .dead, .dead]
def Gm_hand : Ctx := { fn := [("_law_take", fsTake)], glob := [], bs := [], pin := [0], cls := [] }
theorem w_hand : bodyW Gm_hand n_law_hand [.own, .bor, .bor] b_law_hand F_hand := by
  intro ts Q h _
  obtain ⟨a, s, turns, far, rfl, hp, ht0, ht3, q⟩ := h
  have hsz2 : ∀ x y : T, [x, y].length ≤ sizeLine := fun _ _ => Nat.le_of_ble_eq_true rfl
  have hsz3 : ∀ x y z : T, [x, y, z].length ≤ sizeLine := fun _ _ _ => Nat.le_of_ble_eq_true rfl
  have hf : far % 2 = 0 ∨ far % 2 = 1 := by omega
  generalize hm : far % 2 = m at hf
  have ht : turns = 0 ∨ turns = 1 ∨ turns = 2 := by omega
  iterate 2 ((conv => whnf); refine ⟨by first | rfl | exact hsz2 _ _, ?_⟩)
  conv => whnf
  refine ⟨rfl, fun z => (by cases z), a, s, 2, rfl, hp, by decide, by decide, fun r a' s' h1 h2 h3 => ⟨fun z => (by cases z), ?_⟩⟩
  have hr : r = 0 ∨ r = 1 := by omega
  rcases hr with rfl | rfl
  all_goals
    (conv => whnf); refine ⟨rfl, Nat.le_of_ble_eq_true rfl, ?_⟩
    rcases hf with rfl | rfl
    all_goals
      rcases ht with rfl | rfl | rfl
      all_goals
        (conv => whnf); refine ⟨hsz2 _ _, ?_⟩
        (conv => whnf); refine ⟨by decide, ?_⟩
        (conv => whnf); rw [hm]
        (conv => whnf); refine ⟨hsz2 _ _, ?_⟩
        (conv => whnf); refine ⟨by decide, ?_⟩
        (conv => whnf); rw [hm]
        (conv => whnf); refine ⟨hsz3 _ _ _, ?_⟩
        conv => whnf
        first
          | exact q _ _ _ (.inl rfl) h3
          | exact q _ _ _ (.inr rfl) h3
abbrev F_worth : List T → (T → List T → Prop) → Prop := fun ts Q => ∃ a s style k, ts = [Pool a s, .d (.int style), .d (.int k)] ∧ PoolOk a s ∧ 0 ≤ style ∧ style < 5 ∧
  ∀ x a' s', -(10 ^ 30) ≤ x → x ≤ 10 ^ 30 → PoolOk a' s' → Q (.d (.int x)) [Pool a' s', .dead, .dead]
def Gm_worth : Ctx := { fn := [("_law_take", fsTake)], glob := [], bs := [], pin := [0], cls := [] }
theorem w_worth : bodyW Gm_worth n_law_worth [.own, .bor, .bor] b_law_worth F_worth := by
  intro ts Q h _
  obtain ⟨a, s, style, k, rfl, hp, ht0, ht5, q⟩ := h
  have hc : CMul 37 k := .inl (by decide)
  have hp30 : CPow 10 30 := ⟨by decide, by decide, by decide⟩
  have hp9 : CPow 10 9 := ⟨by decide, by decide, by decide⟩
  have hp21 : CPow 10 21 := ⟨by decide, by decide, by decide⟩
  have hsz4 : ∀ x y z u : T, [x, y, z, u].length ≤ sizeLine := fun _ _ _ _ => Nat.le_of_ble_eq_true rfl
  have hsz5 : ∀ x y z u v : T, [x, y, z, u, v].length ≤ sizeLine := fun _ _ _ _ _ => Nat.le_of_ble_eq_true rfl
  conv => whnf
  refine ⟨fun h => ?_, fun h => ?_⟩
  · repeat ((conv => whnf); refine ⟨by first | assumption | decide, ?_⟩)
    conv => whnf
    exact q _ _ _ (by omega) (by omega) hp
  have hs2 := of_decide_eq_false h
  clear h
  conv => whnf
  refine ⟨fun h => ?_, fun h => ?_⟩
  · iterate 4 ((conv => whnf); refine ⟨by first | assumption | rfl, ?_⟩)
    (conv => whnf)
    refine ⟨fun z => (by cases z), a, s, 10 ^ Int.toNat 9, rfl, hp, by decide, by decide, fun r a' s' h1 h2 h3 => ⟨fun z => (by cases z), ?_⟩⟩
    (conv => whnf); refine ⟨hp21, ?_⟩
    (conv => whnf); refine ⟨.inl (by have : (10 : Int) ^ Int.toNat 9 = 1000000000 := by decide
                                     omega), ?_⟩
    (conv => whnf); refine ⟨hsz4 _ _ _ _, ?_⟩
    (conv => whnf)
    refine ⟨rfl, fun z => (by cases z), a', s', 4, rfl, h3, by decide, by decide, fun r2 a2 s2 g1 g2 g3 => ⟨fun z => (by cases z), ?_⟩⟩
    have e9 : (10 : Int) ^ Int.toNat 9 = 1000000000 := by decide
    have e21 : (10 : Int) ^ Int.toNat 21 = 1000000000000000000000 := by decide
    have e30 : (10 : Int) ^ Int.toNat 30 = 1000000000000000000000000000000 := by decide
    have e30' : (10 : Int) ^ 30 = 1000000000000000000000000000000 := by decide
    have er : r * 10 ^ Int.toNat 21 = r * 1000000000000000000000 := by rw [e21]
    have hr : r2 = 0 ∨ r2 = 1 ∨ r2 = 2 ∨ r2 = 3 := by omega
    rcases hr with rfl | rfl | rfl | rfl
    all_goals
      conv => whnf
      exact q _ _ _ (by omega) (by omega) g3
  · iterate 1 ((conv => whnf); refine ⟨rfl, ?_⟩)
    refine ⟨fun z => (by cases z), a, s, 3, rfl, hp, by decide, by decide, fun r a' s' h1 h2 h3 => ⟨fun z => (by cases z), ?_⟩⟩
    (conv => whnf)
    refine ⟨rfl, fun z => (by cases z), a', s', 41, rfl, h3, by decide, by decide, fun r2 a2 s2 g1 g2 g3 => ⟨fun z => (by cases z), ?_⟩⟩
    (conv => whnf)
    refine ⟨rfl, fun z => (by cases z), a2, s2, 2, rfl, g3, by decide, by decide, fun r3 a3 s3 k1 k2 k3 => ⟨fun z => (by cases z), ?_⟩⟩
    (conv => whnf); refine ⟨hsz5 _ _ _ _ _, ?_⟩
    have e30' : (10 : Int) ^ 30 = 1000000000000000000000000000000 := by decide
    have hr : style = 0 ∨ style = 1 ∨ style = 2 ∨ style = 3 ∨ style = 4 := by omega
    rcases hr with rfl | rfl | rfl | rfl | rfl
    all_goals
      conv => whnf
      exact q _ _ _ (by omega) (by omega) k3
def iT (l : List Int) : List T := l.map fun i => .d (.int i)
def kidT (l : List Int) : T := .nd .list (iT l)
def KT (ks : List (List Int)) : T := .nd .list (ks.map kidT)
structure KOk (fs : List Int) (ks : List (List Int)) : Prop where
  len : ks.length = fs.length
  pos : 0 < fs.length
  up : ∀ (i : Nat) l, ks[i]? = some l → ∀ c ∈ l, (i : Int) < c ∧ c < (fs.length : Nat)
  few : ∀ (i : Nat) l, ks[i]? = some l → l.length ≤ fs.length + 12
  led : ∀ i : Nat, 0 < i → i < fs.length → ∃ (k : Nat) (l : List Int), ks[k]? = some l ∧ (i : Int) ∈ l
  nd : ∀ (i : Nat) l, ks[i]? = some l → l.Nodup
  b12 : ∀ (i : Nat) l, ks[i]? = some l → l.length ≤ 12
  lev : ∀ (i : Nat) l, ks[i]? = some l → ∀ c ∈ l, fs.getD i 0 < fs.getD c.toNat 0
  f40 : ∀ f ∈ fs, 0 ≤ f ∧ f ≤ 40
/-- .. and no stand is led to twice -/
structure KG (fs : List Int) (ks : List (List Int)) : Prop extends KOk fs ks where
  tree : ∀ (i j : Nat) l l' c, ks[i]? = some l → ks[j]? = some l' → c ∈ l → c ∈ l' → i = j
theorem ixN_of {n : Nat} {i : Int} (h0 : 0 ≤ i) (h1 : i < (n : Nat)) : ixN n i = some i.toNat := by
  unfold ixN
  rw [if_pos h0, if_pos h1]
theorem iT_get {l : List Int} {j : Nat} {x : Int} (h : l[j]? = some x) : (iT l)[j]? = some (.d (.int x)) := by
  unfold iT
  rw [List.getElem?_map, h]
  rfl
theorem iT_len (l : List Int) : (iT l).length = l.length := by unfold iT; rw [List.length_map]
theorem kids_get {ks : List (List Int)} {j : Nat} {l : List Int} (h : ks[j]? = some l) : (ks.map kidT)[j]? = some (.nd .list (iT l)) := by
  rw [List.getElem?_map, h]
  rfl
abbrev F_kids : List T → (T → List T → Prop) → Prop := fun ts Q => ∃ (ns : List Int) (a s most : Int), ts = [.d (.list (ns.map .int)), Pool a s, .d (.int most)] ∧ PoolOk a s ∧ most < 1000000 ∧
  ∀ fs ks a' s', KG fs ks → (fs.length : Int) ≤ max 1 most → PoolOk a' s' → Q (.nd .tup [KT ks, .nd .list (iT fs)]) [.dead, Pool a' s', .dead]
def Gm_kids : Ctx := { fn := [("_law_take", fsTake), ("_law_pool", fsPool)], glob := [], bs := ["range", "max", "min", "len"], pin := [1], cls := [] }
/-- the state of the loops -/
def KI (S P M bo de : T) (most : Int) (σ : St) : Prop := ∃ fs ks x7 x8 x9 x10 x11, σ = [S, P, M, bo, de, .nd .list (iT fs), KT ks, x7, x8, x9, x10, x11] ∧ KG fs ks ∧ (fs.length : Int) ≤ max 1 most
def KI2 (S P M bo de : T) (most : Int) (σ : St) : Prop := ∃ fs ks x7 a s x9 x10 x11, σ = [S, P, M, bo, de, .nd .list (iT fs), KT ks, x7, Pool a s, x9, x10, x11] ∧ KG fs ks ∧ (fs.length : Int) ≤ max 1 most ∧ PoolOk a s
theorem mty_at {m : Mth} {i : Nat} {q : List Nat} {σ : St} {us : List T} (h : (R.p i q).get σ = some (.nd .list us)) : mtyW m (.p i q) σ := by
  unfold mtyW
  rw [h]
  trivial
theorem putS_kid {S P M bo de f x7 x8 x9 x10 x11 : T} {ks : List (List Int)} {j : Nat} {l : List Int} (h : j < ks.length) : putS [S, P, M, bo, de, f, .nd .list (ks.map kidT), x7, x8, x9, x10, x11] 6 [j] (.nd .list (iT l)) = [S, P, M, bo, de, f, KT (ks.set j l), x7, x8, x9, x10, x11] := by
  have e : (ks.map kidT)[j]? = some (.nd .list (iT ks[j])) := kids_get (List.getElem?_eq_getElem h)
  show [S, P, M, bo, de, f, T.put (.nd .list (ks.map kidT)) (.nd .list (iT l)) [j], x7, x8, x9, x10, x11] = _
  simp only [T.put, e]
  unfold KT
  rw [List.map_set]
  rfl
theorem grow_cases {ks : List (List Int)} {one : Nat} {l l' : List Int} {n : Int} {i : Nat} (h : ks[one]? = some l) (hi : ((ks ++ [[]]).set one (l ++ [n]))[i]? = some l') : (i = one ∧ l' = l ++ [n]) ∨ (i ≠ one ∧ ks[i]? = some l') ∨ l' = [] := by
  have hj : one < ks.length := (List.getElem?_eq_some_iff.mp h).1
  rw [List.getElem?_set] at hi
  split at hi
  · rename_i e
    subst e
    rw [if_pos (by simp; omega)] at hi
    cases hi
    exact .inl ⟨rfl, rfl⟩
  · rename_i e
    by_cases hik : i < ks.length
    · rw [List.getElem?_append_left hik] at hi
      exact .inr (.inl ⟨fun z => e z.symm, hi⟩)
    · rw [List.getElem?_append_right (by omega)] at hi
      have := List.mem_of_getElem? hi
      simp at this
      exact .inr (.inr this)
theorem grow_old {ks : List (List Int)} {one : Nat} {l l' : List Int} {n : Int} {i : Nat} (h : ks[one]? = some l) (hi : ks[i]? = some l') : ∃ l'', ((ks ++ [[]]).set one (l ++ [n]))[i]? = some l'' ∧ ∀ c ∈ l', c ∈ l'' := by
  have hj : one < ks.length := (List.getElem?_eq_some_iff.mp h).1
  have hik : i < ks.length := (List.getElem?_eq_some_iff.mp hi).1
  rw [List.getElem?_set]
  by_cases e : one = i
  · subst e
    rw [if_pos rfl, if_pos (by simp; omega)]
    rw [h] at hi
    cases hi
    exact ⟨_, rfl, fun c hc => List.mem_append_left _ hc⟩
  · rw [if_neg e, List.getElem?_append_left hik]
    exact ⟨_, hi, fun c hc => hc⟩
theorem KG.grow {fs : List Int} {ks : List (List Int)} {one : Nat} {f : Int} {l : List Int} (ok : KG fs ks) (h : ks[one]? = some l) (h12 : l.length < 12) (hf : fs[one]? = some f) (h40 : f < 40) : KG (fs ++ [f + 1]) ((ks ++ [[]]).set one (l ++ [(fs.length : Int)])) := by
  have hj : one < ks.length := (List.getElem?_eq_some_iff.mp h).1
  have hlen := ok.len
  have hnew : ∀ (i : Nat) l', ks[i]? = some l' → (fs.length : Int) ∉ l' := fun i l' hi z => by
    have := ok.up i l' hi _ z
    omega
  have old : ∀ (k : Nat), k < fs.length → (fs ++ [f + 1]).getD k 0 = fs.getD k 0 := fun k hk => by
    rw [List.getD_eq_getElem?_getD, List.getD_eq_getElem?_getD, List.getElem?_append_left hk]
  refine ⟨⟨by simp [hlen], by simp, fun i l' hi c hc => ?_, fun i l' hi => ?_, fun i h0 hi => ?_, fun i l' hi => ?_, fun i l' hi => ?_, fun i l' hi c hc => ?_, fun g hg => ?_⟩, fun i j l1 l2 c h1 h2 hc1 hc2 => ?_⟩
  · rw [List.length_append, List.length_singleton]
    rcases grow_cases h hi with ⟨rfl, rfl⟩ | ⟨_, hi⟩ | rfl
    · rcases List.mem_append.mp hc with z | z
      · have := ok.up _ l h c z
        omega
      · simp at z
        omega
    · have := ok.up i l' hi c hc
      omega
    · cases hc
  · rw [List.length_append, List.length_singleton]
    rcases grow_cases h hi with ⟨rfl, rfl⟩ | ⟨_, hi⟩ | rfl
    · simp
      omega
    · have := ok.few i l' hi
      omega
    · simp
  · rw [List.length_append, List.length_singleton] at hi
    by_cases e : i < fs.length
    · obtain ⟨k, l', h1, h2⟩ := ok.led i h0 e
      obtain ⟨l'', h3, h4⟩ := grow_old (n := (fs.length : Int)) h h1
      exact ⟨k, l'', h3, h4 _ h2⟩
    · have : i = fs.length := by omega
      subst this
      refine ⟨one, l ++ [(fs.length : Int)], ?_, by simp⟩
      rw [List.getElem?_set, if_pos rfl, if_pos (by simp; omega)]
  · rcases grow_cases h hi with ⟨rfl, rfl⟩ | ⟨_, hi⟩ | rfl
    · rw [List.nodup_append]
      refine ⟨ok.nd _ l h, by simp, fun a ha b hb e => ?_⟩
      simp at hb
      subst hb
      subst e
      exact hnew _ l h ha
    · exact ok.nd i l' hi
    · exact List.nodup_nil
  · rcases grow_cases h hi with ⟨rfl, rfl⟩ | ⟨_, hi⟩ | rfl
    · simp
      omega
    · exact ok.b12 i l' hi
    · simp
  · rcases grow_cases h hi with ⟨rfl, rfl⟩ | ⟨_, hi⟩ | rfl
    · rcases List.mem_append.mp hc with z | z
      · have := ok.up _ l h c z
        rw [old _ (by omega), old _ (by omega)]
        exact ok.lev _ l h c z
      · simp at z
        subst z
        rw [old _ (by omega), List.getD_eq_getElem?_getD, hf, List.getD_eq_getElem?_getD, Int.toNat_natCast, List.getElem?_append_right (Nat.le_refl _)]
        simp
        omega
    · have := ok.up i l' hi c hc
      have hi' := (List.getElem?_eq_some_iff.mp hi).1
      rw [old _ (by omega), old _ (by omega)]
      exact ok.lev i l' hi c hc
    · cases hc
  · rcases List.mem_append.mp hg with z | z
    · exact ok.f40 g z
    · simp at z
      have := ok.f40 f (List.mem_of_getElem? hf)
      omega
  · have key : ∀ (i j : Nat) l1 l2, ((ks ++ [[]]).set one (l ++ [(fs.length : Int)]))[i]? = some l1 → ((ks ++ [[]]).set one (l ++ [(fs.length : Int)]))[j]? = some l2 → c ∈ l1 → c ∈ l2 → i = one → j ≠ one → False := by
      intro i j l1 l2 h1 h2 hc1 hc2 ei ej
      rcases grow_cases h h2 with ⟨e, _⟩ | ⟨_, h2⟩ | rfl
      · exact ej e
      · rcases grow_cases h h1 with ⟨_, rfl⟩ | ⟨e, _⟩ | rfl
        · rcases List.mem_append.mp hc1 with z | z
          · exact ej (ok.tree j one l2 l c h2 h hc2 z)
          · simp at z
            subst z
            exact hnew j l2 h2 hc2
        · exact e ei
        · cases hc1
      · cases hc2
    by_cases ei : i = one
    · by_cases ej : j = one
      · omega
      · exact (key i j l1 l2 h1 h2 hc1 hc2 ei ej).elim
    · by_cases ej : j = one
      · exact (key j i l2 l1 h2 h1 hc2 hc1 ej ei).elim
      · rcases grow_cases h h1 with ⟨e, _⟩ | ⟨_, h1⟩ | rfl
        · exact absurd e ei
        · rcases grow_cases h h2 with ⟨e, _⟩ | ⟨_, h2⟩ | rfl
          · exact absurd e ej
          · exact ok.tree i j l1 l2 c h1 h2 hc1 hc2
          · cases hc2
        · cases hc1
def kidsTail : List S := [.asg 11 (.bin .sub (.bin .sub (.blt .len [.var 5]) (.k (.int 1))) (.bin .mod (.call "_law_take" [.var 8, .var 10]) (.blt .len [.var 5]))), .ife (.and (.cmp .lt (.blt .len [.var 5]) (.var 2)) (.and (.cmp .lt (.blt .len [.ix (.var 6) (.var 11)]) (.var 3)) (.cmp .lt (.ix (.var 5) (.var 11)) (.var 4)))) [.ex (.mth .append (.var 5) [.bin .add (.ix (.var 5) (.var 11)) (.k (.int 1))]), .ex (.mth .append (.var 6) [.lst []]), .ex (.mth .append (.ix (.var 6) (.var 11)) [.bin .sub (.blt .len [.var 5]) (.k (.int 1))])] []]
def kidsThen : List S := [.ex (.mth .append (.var 5) [.bin .add (.ix (.var 5) (.var 11)) (.k (.int 1))]), .ex (.mth .append (.var 6) [.lst []]), .ex (.mth .append (.ix (.var 6) (.var 11)) [.bin .sub (.blt .len [.var 5]) (.k (.int 1))])]
theorem w_kidsThen {S P M bo de x7 PP x9 x10 : T} {N : AE} {fs : List Int} {ks : List (List Int)} {one : Int} (ok : KG fs ks) (h0 : 0 ≤ one) (h1 : one < (fs.length : Nat)) (hl : (fs.length : Int) ≤ 1000000) (h12 : ∀ l, ks[one.toNat]? = some l → l.length < 12) (h40 : ∀ f, fs[one.toNat]? = some f → f < 40)
    (hN : ∀ fs' ks', KG fs' ks' → fs'.length = fs.length + 1 → N.nx [S, P, M, bo, de, .nd .list (iT fs'), KT ks', x7, PP, x9, x10, .d (.int one)]) : wSs Gm_kids kidsThen N [S, P, M, bo, de, .nd .list (iT fs), KT ks, x7, PP, x9, x10, .d (.int one)] := by
  have hsl : sizeLine > 10000000 := by decide
  have hj : one.toNat < fs.length := by omega
  have hg : fs[one.toNat]? = some fs[one.toNat] := List.getElem?_eq_getElem hj
  have hjk : one.toNat < ks.length := by rw [ok.len]; exact hj
  have hgk : ks[one.toNat]? = some ks[one.toNat] := List.getElem?_eq_getElem hjk
  -- the kid joins
  have third : ∀ (F6 K6 : List T), F6 = iT (fs ++ [fs[one.toNat] + 1]) → K6 = (ks ++ [[]]).map kidT → wSs Gm_kids (kidsThen.drop 2) N [S, P, M, bo, de, .nd .list F6, .nd .list K6, x7, PP, x9, x10, .d (.int one)] := by
    rintro F6 K6 rfl rfl
    have hgk' : (ks ++ [[]])[one.toNat]? = some ks[one.toNat] := by rw [List.getElem?_append_left hjk]; exact hgk
    have hlk : one.toNat < (ks ++ [[]]).length := by simp; omega
    conv => whnf
    rw [ixN_of h0 (by rw [List.length_map]; simp; omega)]
    conv => whnf
    rw [kids_get hgk']
    have hget : (R.p 6 ([] ++ [one.toNat])).get [S, P, M, bo, de, .nd .list (iT (fs ++ [fs[one.toNat] + 1])), .nd .list ((ks ++ [[]]).map kidT), x7, PP, x9, x10, .d (.int one)] = some (.nd .list (iT ks[one.toNat])) := by
      show T.at (.nd .list ((ks ++ [[]]).map kidT)) [one.toNat] = _
      rw [T.at, kids_get hgk']
      rfl
    (conv => whnf); refine ⟨mty_at hget, ?_⟩
    (conv => whnf); refine ⟨rfl, ?_⟩
    (conv => whnf); refine ⟨rfl, ?_⟩
    (conv => whnf)
    rw [hget]
    (conv => whnf); refine ⟨by
      have := ok.few _ _ hgk
      rw [iT_len]
      omega, ?_⟩
    have e1 : iT ks[one.toNat] ++ [T.d (.int (((iT (fs ++ [fs[one.toNat] + 1])).length : Int) - 1))] = iT (ks[one.toNat] ++ [(fs.length : Int)]) := by
      rw [iT_len]
      simp [iT]
    have e2 := putS_kid (S := S) (P := P) (M := M) (bo := bo) (de := de) (f := .nd .list (iT (fs ++ [fs[one.toNat] + 1]))) (x7 := x7) (x8 := PP) (x9 := x9) (x10 := x10) (x11 := .d (.int one)) (l := ks[one.toNat] ++ [(fs.length : Int)]) hlk
    show N.nx (putS [S, P, M, bo, de, .nd .list (iT (fs ++ [fs[one.toNat] + 1])), .nd .list ((ks ++ [[]]).map kidT), x7, PP, x9, x10, .d (.int one)] 6 [one.toNat] (.nd .list (iT ks[one.toNat] ++ [T.d (.int (((iT (fs ++ [fs[one.toNat] + 1])).length : Int) - 1))])))
    rw [e1, e2]
    exact hN _ _ (ok.grow hgk (h12 _ hgk) hg (h40 _ hg)) (by simp)
  (conv => whnf); refine ⟨trivial, ?_⟩
  (conv => whnf)
  rw [ixN_of h0 (by rw [iT_len]; exact h1)]
  (conv => whnf)
  rw [iT_get hg]
  (conv => whnf); refine ⟨rfl, ?_⟩
  (conv => whnf); refine ⟨rfl, ?_⟩
  (conv => whnf); refine ⟨by rw [iT_len]; omega, ?_⟩
  (conv => whnf); refine ⟨trivial, ?_⟩
  (conv => whnf); refine ⟨Nat.zero_le _, ?_⟩
  (conv => whnf); refine ⟨rfl, ?_⟩
  (conv => whnf); refine ⟨rfl, ?_⟩
  (conv => whnf); refine ⟨by rw [List.length_map, ok.len]; omega, ?_⟩
  exact third _ _ (by simp [iT]) (by simp [kidT, iT])
theorem w_kidsTail {S P x7 x9 x11 : T} {N : AE} {most bo de a s so : Int} {fs : List Int} {ks : List (List Int)} (ok : KG fs ks) (hbo : bo ≤ 12) (hde : de ≤ 40) (hl : (fs.length : Int) ≤ max 1 most) (hmost : most < 1000000) (hp : PoolOk a s) (h0 : 0 < so) (h1 : so < 2 ^ 64)
    (hN : ∀ σ, KI2 S P (.d (.int most)) (.d (.int bo)) (.d (.int de)) most σ → N.nx σ) : wSs Gm_kids kidsTail N [S, P, .d (.int most), .d (.int bo), .d (.int de), .nd .list (iT fs), KT ks, x7, Pool a s, x9, .d (.int so), x11] := by
  (conv => whnf); refine ⟨rfl, ?_⟩
  (conv => whnf)
  refine ⟨rfl, fun z => (by cases z), a, s, so, rfl, hp, h0, h1, fun r a' s' g1 g2 hp' => ⟨fun z => (by cases z), ?_⟩⟩
  have hpos := ok.pos
  (conv => whnf); refine ⟨by rw [iT_len]; omega, ?_⟩
  (conv => whnf); refine ⟨rfl, Nat.le_of_ble_eq_true rfl, ?_⟩
  have hr0 := Int.emod_nonneg r (b := ((iT fs).length : Int)) (by rw [iT_len]; omega)
  have hr1 := Int.emod_lt_of_pos r (b := ((iT fs).length : Int)) (by rw [iT_len]; omega)
  have o0 : 0 ≤ ((iT fs).length : Int) - 1 - r % ((iT fs).length : Int) := by omega
  have o1 : ((iT fs).length : Int) - 1 - r % ((iT fs).length : Int) < (fs.length : Nat) := by rw [iT_len] at hr0 ⊢; omega
  generalize ((iT fs).length : Int) - 1 - r % ((iT fs).length : Int) = one at o0 o1
  have hj : one.toNat < fs.length := by omega
  have hg : fs[one.toNat]? = some fs[one.toNat] := List.getElem?_eq_getElem hj
  have hgk : ks[one.toNat]? = some (ks[one.toNat]'(by rw [ok.len]; exact hj)) := List.getElem?_eq_getElem _
  have stay : N.nx [S, P, .d (.int most), .d (.int bo), .d (.int de), .nd .list (iT fs), KT ks, x7, Pool a' s', x9, .d (.int so), .d (.int one)] := hN _ ⟨fs, ks, _, _, _, _, _, _, rfl, ok, hl, hp'⟩
  have hget : (R.p 6 ([] ++ [one.toNat])).get [S, P, .d (.int most), .d (.int bo), .d (.int de), .nd .list (iT fs), KT ks, x7, Pool a' s', x9, .d (.int so), .d (.int one)] = some (.nd .list (iT (ks[one.toNat]'(by rw [ok.len]; exact hj)))) := by
    show T.at (.nd .list (ks.map kidT)) [one.toNat] = _
    rw [T.at, kids_get hgk]
    rfl
  show wSs Gm_kids (kidsTail.drop 1) N [S, P, .d (.int most), .d (.int bo), .d (.int de), .nd .list (iT fs), KT ks, x7, Pool a' s', x9, .d (.int so), .d (.int one)]
  conv => whnf
  refine ⟨fun c1 => ?_, fun c1 => ?_⟩
  · have c1' := of_decide_eq_true c1
    rw [iT_len] at c1'
    conv => whnf
    rw [ixN_of o0 (by rw [List.length_map, ok.len]; exact o1)]
    conv => whnf
    rw [kids_get hgk]
    conv => whnf
    rw [hget]
    conv => whnf
    refine ⟨fun c3 => ?_, fun c3 => ?_⟩
    · conv => whnf
      rw [ixN_of o0 (by rw [iT_len]; exact o1)]
      conv => whnf
      rw [iT_get hg]
      conv => whnf
      refine ⟨fun c4 => ?_, fun _ => stay⟩
      have c3' := of_decide_eq_true c3
      have c4' := of_decide_eq_true c4
      rw [iT_len] at c3'
      refine w_kidsThen (N := { N with nx := fun σ' => wSs Gm_kids [] N σ' }) ok o0 o1 (by omega) (fun l h => by rw [hgk] at h; cases h; omega) (fun f h => by rw [hg] at h; cases h; omega) fun fs' ks' ok' hl' => ?_
      exact hN _ ⟨fs', ks', _, _, _, _, _, _, rfl, ok', by omega, hp'⟩
    · conv => whnf
      refine ⟨fun c2 => ?_, fun _ => stay⟩
      rw [c3] at c2
      cases c2
  · conv => whnf
    refine ⟨fun c2 => ?_, fun _ => stay⟩
    rw [c1] at c2
    cases c2
theorem kg_start : KG [0] [[]] := by
  have one : ∀ (i : Nat) (l : List Int), ([[]] : List (List Int))[i]? = some l → l = [] := fun i l h => by
    cases i with
    | zero => simp at h; first | exact h | exact h.symm
    | succ i => simp at h
  refine ⟨⟨rfl, by decide, fun i l h c hc => ?_, fun i l h => ?_, fun i h0 h1 => ?_, fun i l h => ?_, fun i l h => ?_, fun i l h c hc => ?_, fun f hf => ?_⟩, fun i j l l' c h1 h2 hc1 hc2 => ?_⟩
  · rw [one i l h] at hc; cases hc
  · rw [one i l h]; simp
  · simp at h1; omega
  · rw [one i l h]; exact List.nodup_nil
  · rw [one i l h]; simp
  · rw [one i l h] at hc; cases hc
  · simp at hf; omega
  · rw [one i l h1] at hc1; cases hc1
theorem w_kids : bodyW Gm_kids n_law_kids [.bor, .own, .bor] b_law_kids F_kids := by
  intro ts Q h _
  obtain ⟨ns, a, s, most, rfl, hp, hmost, q⟩ := h
  have hsz1 : ∀ x : T, [x].length ≤ sizeLine := fun _ => Nat.le_of_ble_eq_true rfl
  have hsz2 : ∀ x y : T, [x, y].length ≤ sizeLine := fun _ _ => Nat.le_of_ble_eq_true rfl
  have hsz3 : ∀ x y z : T, [x, y, z].length ≤ sizeLine := fun _ _ _ => Nat.le_of_ble_eq_true rfl
  have hsz4 : ∀ x y z u : T, [x, y, z, u].length ≤ sizeLine := fun _ _ _ _ => Nat.le_of_ble_eq_true rfl
  have hsl : sizeLine > 10000000 := by decide
  have rest : ∀ bo de a1 s1, bo ≤ 12 → de ≤ 40 → PoolOk a1 s1 → wSs Gm_kids (b_law_kids.drop 2) (ends [.bor, .own, .bor] [.d (.list (ns.map .int)), Pool a s, .d (.int most)] Q) [.d (.list (ns.map .int)), Pool a1 s1, .d (.int most), .d (.int bo), .d (.int de), .dead, .dead, .dead, .dead, .dead, .dead, .dead] := by
    intro bo de a1 s1 hbo hde hp1
    iterate 9 ((conv => whnf); refine ⟨by first | rfl | exact hsz1 _ | exact Nat.zero_le _ | exact Nat.le_of_ble_eq_true rfl, ?_⟩)
    (conv => whnf); refine ⟨rfl, ?_⟩
    (conv => whnf); refine ⟨⟨by decide, by decide⟩, ⟨by omega, by omega⟩, ?_⟩
    refine forW_rng (fun _ σ => KI (.d (.list (ns.map .int))) (Pool a1 s1) (.d (.int most)) (.d (.int bo)) (.d (.int de)) most σ) ?_ ?_ ⟨[0], [[]], _, _, _, _, _, rfl, kg_start, by simp; omega⟩
    · -- behind the loops
      rintro σ ⟨fs, ks, x7, x8, x9, x10, x11, rfl, ok, hl⟩
      (conv => whnf); refine ⟨hsz2 _ _, ?_⟩
      exact q fs ks a1 s1 ok hl hp1
    · -- a round
      rintro k σ N hk hN - - - ⟨fs, ks, x7, x8, x9, x10, x11, rfl, ok, hl⟩
      (conv => whnf); refine ⟨rfl, ?_⟩
      (conv => whnf)
      refine ⟨rfl, fun z => (by cases z), ns, 2 + (k : Int), rfl, by omega, fun a2 s2 hp2 => ⟨fun z => (by cases z), ?_⟩⟩
      (conv => whnf); refine ⟨rfl, Nat.le_of_ble_eq_true rfl, ?_⟩
      (conv => whnf); refine ⟨rfl, ?_⟩
      (conv => whnf)
      refine ⟨rfl, fun z => (by cases z), a2, s2, 3, rfl, hp2, by decide, by decide, fun r3 a3 s3 g1 g2 hp3 => ⟨fun z => (by cases z), ?_⟩⟩
      (conv => whnf); refine ⟨⟨by omega, by omega⟩, ?_⟩
      refine forW_rng (fun _ σ => KI2 (.d (.list (ns.map .int))) (Pool a1 s1) (.d (.int most)) (.d (.int bo)) (.d (.int de)) most σ) ?_ ?_ ⟨fs, ks, _, a3, s3, _, _, _, rfl, ok, hl, hp3⟩
      · rintro σ ⟨fs, ks, x7, a4, s4, x9, x10, x11, rfl, ok, hl, hp4⟩
        exact hN _ ⟨fs, ks, _, _, _, _, _, rfl, ok, hl⟩
      · clear hk x8 x9 x10 x11 ok hl
        rintro k2 σ N2 hk2 hN2 - - - ⟨fs, ks, x7, a4, s4, x9, x10, x11, rfl, ok, hl, hp4⟩
        iterate 2 ((conv => whnf); refine ⟨by first | rfl | exact hsz3 _ _ _, ?_⟩)
        (conv => whnf)
        refine ⟨rfl, fun z => (by cases z), a4, s4, 3, rfl, hp4, by decide, by decide, fun r5 a5 s5 g1 g2 hp5 => ⟨fun z => (by cases z), ?_⟩⟩
        have hpos := ok.pos
        have hr : r5 = 0 ∨ r5 = 1 ∨ r5 = 2 := by omega
        rcases hr with rfl | rfl | rfl
        all_goals
          conv => whnf
          refine ⟨rfl, Nat.le_of_ble_eq_true rfl, w_kidsTail ok hbo hde hl hmost hp5 ?_ ?_ hN2⟩
          all_goals first | decide | (rw [iT_len]; omega)
  iterate 1 ((conv => whnf); refine ⟨rfl, ?_⟩)
  (conv => whnf)
  refine ⟨rfl, fun z => (by cases z), a, s, 12, rfl, hp, by decide, by decide, fun r1 a1 s1 h1 h2 hp1 => ⟨fun z => (by cases z), ?_⟩⟩
  (conv => whnf); refine ⟨rfl, Nat.le_of_ble_eq_true rfl, ?_⟩
  (conv => whnf); refine ⟨rfl, ?_⟩
  (conv => whnf); refine ⟨hsz4 _ _ _ _, ?_⟩
  (conv => whnf)
  refine ⟨rfl, fun z => (by cases z), a1, s1, 4, rfl, hp1, by decide, by decide, fun r2 a2 s2 g1 g2 hp2 => ⟨fun z => (by cases z), ?_⟩⟩
  have hr : r2 = 0 ∨ r2 = 1 ∨ r2 = 2 ∨ r2 = 3 := by omega
  rcases hr with rfl | rfl | rfl | rfl
  all_goals
    conv => whnf
    exact ⟨rfl, Nat.le_of_ble_eq_true rfl, rest _ _ _ _ (by omega) (by decide) hp2⟩
theorem datal_iT : ∀ l : List Int, T.datal (iT l) = some (l.map .int)
  | [] => by unfold iT; simp [T.datal]
  | x :: l => by
    have := datal_iT l
    unfold iT at this ⊢
    simp only [List.map_cons, T.datal, T.data, this]
theorem data_iT (l : List Int) : T.data (.nd .list (iT l)) = some (.list (l.map .int)) := by
  simp [T.data, datal_iT]
theorem flatl_iT : ∀ l : List Int, T.flatl (iT l) = true
  | [] => by unfold iT; simp [T.flatl]
  | x :: l => by
    have := flatl_iT l
    unfold iT at this ⊢
    simp only [List.map_cons, T.flatl, T.flat, immD, this, Bool.and_self]
theorem flatl_kids : ∀ ks : List (List Int), T.flatl (ks.map kidT) = true
  | [] => by simp [T.flatl]
  | l :: ks => by
    simp only [List.map_cons, T.flatl, flatl_kids ks, kidT, T.flat, flatl_iT, Bool.and_self]
theorem noTupl_iT : ∀ l : List Int, T.noTupl (iT l) = true
  | [] => by unfold iT; simp [T.noTupl]
  | x :: l => by
    have := noTupl_iT l
    unfold iT at this ⊢
    simp only [List.map_cons, T.noTupl, T.noTup, this, Bool.and_self]
theorem noTupl_kids : ∀ ks : List (List Int), T.noTupl (ks.map kidT) = true
  | [] => by simp [T.noTupl]
  | l :: ks => by
    simp only [List.map_cons, T.noTupl, noTupl_kids ks, kidT, T.noTup, noTupl_iT, Kd.isTup, Bool.not_false, Bool.and_self]
theorem flat_ints (l : List Int) : (l.map PyData.int).all flatD = true := by
  rw [List.all_eq_true]
  intro x hx
  obtain ⟨i, _, rfl⟩ := List.mem_map.mp hx
  rfl
abbrev F_merged : List T → (T → List T → Prop) → Prop := fun ts Q => ∃ (a s : Int) (fs : List Int) (ks : List (List Int)), ts = [Pool a s, KT ks, .d (.list (fs.map .int))] ∧ PoolOk a s ∧ KOk fs ks ∧ fs.length < 1000000 ∧
  ∀ ks' a' s', KOk fs ks' → PoolOk a' s' → Q (.d .none) [Pool a' s', KT ks', .dead]
def Gm_merged : Ctx := { fn := [("_law_take", fsTake)], glob := [], bs := ["range", "len"], pin := [0, 1], cls := [] }
theorem ins_perm (l : List Int) (m : Nat) (x : Int) : (l.take m ++ [x] ++ l.drop m).Perm (x :: l) := by
  have := List.perm_middle (a := x) (l₁ := l.take m) (l₂ := l.drop m)
  rw [List.take_append_drop] at this
  simpa using this
theorem KOk.insert {fs : List Int} {ks : List (List Int)} {one : Nat} {other : Int} {l : List Int} {m : Nat} (ok : KOk fs ks) (h : ks[one]? = some l) (h1 : (one : Int) < other) (h2 : other < (fs.length : Nat)) (h3 : l.length < 12) (h4 : other ∉ l) (h5 : fs.getD one 0 < fs.getD other.toNat 0) : KOk fs (ks.set one (l.take m ++ [other] ++ l.drop m)) := by
  have hj : one < ks.length := (List.getElem?_eq_some_iff.mp h).1
  have hp := ins_perm l m other
  have key : ∀ (i : Nat) l', (ks.set one (l.take m ++ [other] ++ l.drop m))[i]? = some l' → (i = one ∧ l' = l.take m ++ [other] ++ l.drop m) ∨ ks[i]? = some l' := fun i l' hi => by
    rw [List.getElem?_set] at hi
    split at hi
    · rename_i e
      subst e
      cases hi
      exact .inl ⟨rfl, rfl⟩
    · exact .inr hi
  refine ⟨by simp [ok.len], ok.pos, fun i l' hi c hc => ?_, fun i l' hi => ?_, fun i h0 hi => ?_, fun i l' hi => ?_, fun i l' hi => ?_, fun i l' hi c hc => ?_, ok.f40⟩
  · rcases key i l' hi with ⟨rfl, rfl⟩ | hi
    · rcases List.mem_cons.mp (hp.mem_iff.mp hc) with rfl | z
      · exact ⟨h1, h2⟩
      · exact ok.up _ l h c z
    · exact ok.up i l' hi c hc
  · rcases key i l' hi with ⟨rfl, rfl⟩ | hi
    · have := hp.length_eq
      rw [List.length_cons] at this
      omega
    · exact ok.few i l' hi
  · obtain ⟨k, l', g1, g2⟩ := ok.led i h0 hi
    by_cases e : k = one
    · subst e
      rw [h] at g1
      cases g1
      exact ⟨k, _, by rw [List.getElem?_set, if_pos rfl, if_pos hj], hp.mem_iff.mpr (List.mem_cons_of_mem _ g2)⟩
    · exact ⟨k, l', by rw [List.getElem?_set, if_neg (fun z => e z.symm)]; exact g1, g2⟩
  · rcases key i l' hi with ⟨rfl, rfl⟩ | hi
    · exact hp.nodup_iff.mpr (List.nodup_cons.mpr ⟨h4, ok.nd _ l h⟩)
    · exact ok.nd i l' hi
  · rcases key i l' hi with ⟨rfl, rfl⟩ | hi
    · have := hp.length_eq
      rw [List.length_cons] at this
      omega
    · exact ok.b12 i l' hi
  · rcases key i l' hi with ⟨rfl, rfl⟩ | hi
    · rcases List.mem_cons.mp (hp.mem_iff.mp hc) with rfl | z
      · exact h5
      · exact ok.lev _ l h c z
    · exact ok.lev i l' hi c hc
theorem putS_kt {σ : St} {i j : Nat} {ks : List (List Int)} {l : List Int} (hi : σ[i]? = some (KT ks)) (h : j < ks.length) : putS σ i [j] (.nd .list (iT l)) = σ.set i (KT (ks.set j l)) := by
  have e : (ks.map kidT)[j]? = some (.nd .list (iT ks[j])) := kids_get (List.getElem?_eq_getElem h)
  unfold putS
  rw [hi]
  show σ.set i (T.put (.nd .list (ks.map kidT)) (.nd .list (iT l)) [j]) = _
  simp only [T.put, e]
  unfold KT
  rw [List.map_set]
  rfl
theorem iT_ins (l : List Int) (m : Nat) (x : Int) : (iT l).take m ++ [T.d (.int x)] ++ (iT l).drop m = iT (l.take m ++ [x] ++ l.drop m) := by
  unfold iT
  simp
theorem w_merged : bodyW Gm_merged n_law_merged [.own, .own, .bor] b_law_merged F_merged := by
  intro ts Q h _
  obtain ⟨a, s, fs, ks, rfl, hp, ok, hfl, q⟩ := h
  (conv => whnf); refine ⟨rfl, ?_⟩
  (conv => whnf)
  refine ⟨rfl, fun z => (by cases z), a, s, 12, rfl, hp, by decide, by decide, fun r a1 s1 g1 g2 hp1 => ⟨fun z => (by cases z), ?_⟩⟩
  (conv => whnf); refine ⟨⟨by omega, by omega⟩, ?_⟩
  refine forW_rng (fun _ σ => ∃ ks a s x3 x4 x5 x6, σ = [Pool a s, KT ks, .d (.list (fs.map .int)), x3, x4, x5, x6] ∧ PoolOk a s ∧ KOk fs ks) ?_ ?_ ⟨ks, a1, s1, _, _, _, _, rfl, hp1, ok⟩
  · rintro σ ⟨ks, a, s, x3, x4, x5, x6, rfl, hp, ok⟩
    exact q ks a s ok hp
  · clear ok hp1 hp q g1 g2
    rintro k σ N hk hN - - - ⟨ks, a, s, x3, x4, x5, x6, rfl, hp, ok⟩
    have hlen := ok.len
    have hpos := ok.pos
    have hlk : (0 : Int) < ((ks.map kidT).length : Nat) := by rw [List.length_map]; omega
    have hlk2 : (((ks.map kidT).length : Nat) : Int) < 2 ^ 64 := by rw [List.length_map]; omega
    (conv => whnf); refine ⟨rfl, ?_⟩
    (conv => whnf)
    refine ⟨rfl, fun z => (by cases z), a, s, ((ks.map kidT).length : Nat), rfl, hp, hlk, hlk2, fun one a1 s1 g1 g2 hp1 => ⟨fun z => (by cases z), ?_⟩⟩
    (conv => whnf); refine ⟨rfl, Nat.le_of_ble_eq_true rfl, ?_⟩
    (conv => whnf); refine ⟨rfl, ?_⟩
    (conv => whnf)
    refine ⟨rfl, fun z => (by cases z), a1, s1, ((ks.map kidT).length : Nat), rfl, hp1, hlk, hlk2, fun d a2 s2 g3 g4 hp2 => ⟨fun z => (by cases z), ?_⟩⟩
    (conv => whnf); refine ⟨rfl, Nat.le_of_ble_eq_true rfl, ?_⟩
    (conv => whnf); refine ⟨rfl, ?_⟩
    (conv => whnf)
    refine ⟨rfl, fun z => (by cases z), a2, s2, 8, rfl, hp2, by decide, by decide, fun at_ a3 s3 g5 g6 hp3 => ⟨fun z => (by cases z), ?_⟩⟩
    (conv => whnf); refine ⟨rfl, Nat.le_of_ble_eq_true rfl, ?_⟩
    show wSs Gm_merged [_] N [Pool a3 s3, KT ks, .d (.list (fs.map .int)), .d (.int (0 + (k : Int))), .d (.int one), .d (.int (one + 1 + d)), .d (.int at_)]
    have ho : one + 1 + d > one := by omega
    generalize one + 1 + d = other at ho
    have stay : N.nx [Pool a3 s3, KT ks, .d (.list (fs.map .int)), .d (.int (0 + (k : Int))), .d (.int one), .d (.int other), .d (.int at_)] := hN _ ⟨ks, a3, s3, _, _, _, _, rfl, hp3, ok⟩
    rw [List.length_map] at g2
    have hj : one.toNat < ks.length := by omega
    have hgk : ks[one.toNat]? = some ks[one.toNat] := List.getElem?_eq_getElem hj
    have hget : (R.p 1 ([] ++ [one.toNat])).get [Pool a3 s3, KT ks, .d (.list (fs.map .int)), .d (.int (0 + (k : Int))), .d (.int one), .d (.int other), .d (.int at_)] = some (.nd .list (iT ks[one.toNat])) := by
      show T.at (.nd .list (ks.map kidT)) [one.toNat] = _
      rw [T.at, kids_get hgk]
      rfl
    have hdata : (R.p 1 ([] ++ [one.toNat])).data [Pool a3 s3, KT ks, .d (.list (fs.map .int)), .d (.int (0 + (k : Int))), .d (.int one), .d (.int other), .d (.int at_)] = some (.list (ks[one.toNat].map .int)) := by
      unfold R.data
      rw [hget]
      exact data_iT _
    conv => whnf
    refine ⟨fun c1 => ?_, fun c1 => ?_⟩
    · have c1' := of_decide_eq_true c1
      rw [List.length_map] at c1'
      conv => whnf
      rw [ixN_of g1 (by rw [List.length_map]; omega)]
      conv => whnf
      rw [kids_get hgk]
      (conv => whnf); refine ⟨Nat.zero_le _, ?_⟩
      conv => whnf
      rw [hdata]
      (conv => whnf); refine ⟨(shp_ints _).shaped (by decide), (shp_ints []).shaped (by decide), ?_⟩
      conv => whnf
      refine ⟨fun c2 => ?_, fun c2 => ?_⟩
      · obtain ⟨z1, hz1, hy1⟩ := atI_ints (ns := fs) (i := one) g1 (by omega)
        obtain ⟨z2, hz2, hy2⟩ := atI_ints (ns := fs) (i := other) (by omega) (by omega)
        conv => whnf
        rw [hz1]
        conv => whnf
        rw [hz2]
        conv => whnf
        refine ⟨fun c3 => ?_, fun c3 => ?_⟩
        · conv => whnf
          rw [ixN_of g1 (by rw [List.length_map]; omega)]
          conv => whnf
          rw [kids_get hgk]
          conv => whnf
          rw [hdata]
          (conv => whnf); refine ⟨rfl, flat_ints _, ?_⟩
          conv => whnf
          refine ⟨fun c6 => ?_, fun _ => stay⟩
          have c6' : other ∉ ks[one.toNat] := fun z => by
            have : ((ks[one.toNat].map PyData.int).any fun z => PyData.eqv z (.int other)) = true := by
              rw [List.any_eq_true]
              exact ⟨.int other, List.mem_map.mpr ⟨other, z, rfl⟩, by simp [PyData.eqv]⟩
            rw [this] at c6
            cases c6
          have c3' := of_decide_eq_true c3
          conv => whnf
          rw [ixN_of g1 (by rw [List.length_map]; omega)]
          conv => whnf
          rw [kids_get hgk]
          conv => whnf
          rw [hget]
          conv => whnf
          refine ⟨fun c5 => ?_, fun _ => stay⟩
          have c5' := of_decide_eq_true c5
          rw [iT_len] at c5'
          conv => whnf
          rw [ixN_of g1 (by rw [List.length_map]; omega)]
          conv => whnf
          rw [kids_get hgk]
          (conv => whnf); refine ⟨mty_at hget, ?_⟩
          conv => whnf
          rw [ixN_of g1 (by rw [List.length_map]; omega)]
          conv => whnf
          rw [kids_get hgk]
          conv => whnf
          rw [hget]
          (conv => whnf); refine ⟨by omega, ?_⟩
          (conv => whnf); refine ⟨rfl, ?_⟩
          (conv => whnf); refine ⟨rfl, ?_⟩
          conv => whnf
          rw [hget]
          have hsl : sizeLine > 10000000 := by decide
          have e0 := Int.emod_nonneg at_ (b := ((iT ks[one.toNat]).length : Int) + 1) (by omega)
          have e1 := Int.emod_lt_of_pos at_ (b := ((iT ks[one.toNat]).length : Int) + 1) (by omega)
          have e2 := iT_len ks[one.toNat]
          (conv => whnf); refine ⟨by omega, ?_⟩
          (conv => whnf); refine ⟨e0, by omega, ?_⟩
          show N.nx (putS [Pool a3 s3, KT ks, .d (.list (fs.map .int)), .d (.int (0 + (k : Int))), .d (.int one), .d (.int other), .d (.int at_)] 1 [one.toNat] (.nd .list ((iT ks[one.toNat]).take _ ++ [T.d (.int other)] ++ (iT ks[one.toNat]).drop _)))
          rw [iT_ins, putS_kt rfl hj]
          exact hN _ ⟨_, _, _, _, _, _, _, rfl, hp3, ok.insert hgk (by omega) (by omega) (by omega) c6' (by rw [List.getD_eq_getElem?_getD, hy1, List.getD_eq_getElem?_getD, hy2]; exact c3')⟩
        · conv => whnf
          refine ⟨fun c4 => ?_, fun _ => stay⟩
          rw [c3] at c4
          cases c4
      · conv => whnf
        refine ⟨fun c4 => ?_, fun _ => stay⟩
        rw [c2] at c4
        cases c4
    · conv => whnf
      refine ⟨fun c2 => ?_, fun _ => stay⟩
      rw [c1] at c2
      cases c2
structure Stn where
  x : Str
  l : List Int
  w : Int
def Stn.d (s : Stn) : PyData := if s.l = [] then .tuple [.str "end", .int s.w] else .tuple [.str s.x, .tuple (s.l.map .int), .int s.w]
structure POk (P : List Stn) : Prop where
  pos : 0 < P.length
  hand : ∀ s ∈ P, s.x = "high" ∨ s.x = "low"
  up : ∀ (i : Nat) s, P[i]? = some s → ∀ c ∈ s.l, (i : Int) < c ∧ c < (P.length : Nat)
  few : ∀ s ∈ P, s.l.length ≤ P.length + 12
  low : ∀ s ∈ P, -(10 ^ 30) ≤ s.w
  high : ∀ s ∈ P, s.w ≤ 10 ^ 30
/-- .. as the laws' plays are -/
structure PX (P : List Stn) : Prop extends POk P where
  led : ∀ i : Nat, 0 < i → i < P.length → ∃ (k : Nat) (s : Stn), P[k]? = some s ∧ (i : Int) ∈ s.l
  nd : ∀ s ∈ P, s.l.Nodup
  b12 : ∀ s ∈ P, s.l.length ≤ 12
  lev : ∃ fs : List Int, fs.length = P.length ∧ (∀ f ∈ fs, 0 ≤ f ∧ f ≤ 40) ∧ ∀ (i : Nat) s, P[i]? = some s → ∀ c ∈ s.l, fs.getD i 0 < fs.getD c.toNat 0
def PTree (P : List Stn) : Prop := ∀ (i j : Nat) s s' c, P[i]? = some s → P[j]? = some s' → c ∈ s.l → c ∈ s'.l → i = j
def KTree (ks : List (List Int)) : Prop := ∀ (i j : Nat) l l' c, ks[i]? = some l → ks[j]? = some l' → c ∈ l → c ∈ l' → i = j
def PT (P : List Stn) : List T := P.map fun s => .d s.d
theorem leaves_iT : ∀ l : List Int, T.leaves (iT l) = some (l.map .int)
  | [] => by unfold iT; simp [T.leaves]
  | x :: l => by
    have := leaves_iT l
    unfold iT at this ⊢
    simp only [List.map_cons, T.leaves, this]
abbrev fsKids : FS := ⟨[.bor, .own, .bor], F_kids⟩
abbrev fsMerged : FS := ⟨[.own, .own, .bor], F_merged⟩
abbrev fsHand : FS := ⟨[.own, .bor, .bor], F_hand⟩
abbrev fsWorth : FS := ⟨[.own, .bor, .bor], F_worth⟩
abbrev F_play : List T → (T → List T → Prop) → Prop := fun ts Q => ∃ (ns : List Int) (most : Int) (merge : Bool), ts = [.d (.list (ns.map .int)), .d (.int most), .d (.bool merge)] ∧ most < 1000000 ∧
  ∀ P, POk P → (P.length : Int) ≤ max 1 most → PX P → (merge = false → PTree P) → Q (.nd .list (PT P)) [.dead, .dead, .dead]
def Gm_play : Ctx := { fn := [("_law_pool", fsPool), ("_law_kids", fsKids), ("_law_take", fsTake), ("_law_merged", fsMerged), ("_law_hand", fsHand), ("_law_worth", fsWorth)], glob := [], bs := ["range", "len", "tuple", "int"], pin := [], cls := [] }
theorem w_play : bodyW Gm_play n_law_play [.bor, .bor, .bor] b_law_play F_play := by
  intro ts Q h _
  obtain ⟨ns, most, merge, rfl, hmost, q⟩ := h
  have hsl : sizeLine > 10000000 := by decide
  have rest : ∀ (a s a2 s2 style turns : Int) (fs : List Int) (ks : List (List Int)), PoolOk a2 s2 → 0 ≤ style → style < 5 → 0 ≤ turns → turns < 3 → KOk fs ks → (merge = false → KTree ks) → (fs.length : Int) ≤ max 1 most →
      wSs Gm_play (b_law_play.drop 6) (ends [.bor, .bor, .bor] [.d (.list (ns.map .int)), .d (.int most), .d (.bool merge)] Q) [.d (.list (ns.map .int)), .d (.int most), .d (.bool merge), Pool a s, KT ks, .nd .list (iT fs), .d (.int style), .d (.int turns), Pool a2 s2, .dead, .dead, .dead, .dead] := by
    intro a s a2 s2 style turns fs ks hp2 hs0 hs5 ht0 ht3 ok htr hl
    (conv => whnf); refine ⟨rfl, ?_⟩
    (conv => whnf); refine ⟨Nat.zero_le _, ?_⟩
    (conv => whnf); refine ⟨rfl, Nat.le_of_ble_eq_true rfl, ?_⟩
    (conv => whnf); refine ⟨rfl, ?_⟩
    have hkl : (ks.map kidT).length = fs.length := by rw [List.length_map, ok.len]
    (conv => whnf); refine ⟨⟨by omega, by omega⟩, ?_⟩
    refine forW_rng (fun k σ => ∃ P a2 s2 x10 x11 x12, σ = [.d (.list (ns.map .int)), .d (.int most), .d (.bool merge), Pool a s, KT ks, .nd .list (iT fs), .d (.int style), .d (.int turns), Pool a2 s2, .nd .list (PT P), x10, x11, x12] ∧ PoolOk a2 s2 ∧ P.length = k ∧ (∀ s ∈ P, s.x = "high" ∨ s.x = "low") ∧ (∀ (i : Nat) s, P[i]? = some s → ks[i]? = some s.l) ∧ (∀ s ∈ P, -(10 ^ 30) ≤ s.w) ∧ ∀ s ∈ P, s.w ≤ 10 ^ 30) ?_ ?_ ⟨[], a2, s2, _, _, _, rfl, hp2, rfl, by simp, by simp, by simp, by simp⟩
    · rintro σ ⟨P, a2, s2, x10, x11, x12, rfl, hp2, hlen, hh, hk, hlo, hhi⟩
      have hPl : P.length = fs.length := by omega
      have okP : POk P := by
        refine ⟨by rw [hPl]; exact ok.pos, hh, fun i s hi c hc => ?_, fun s hs => ?_, hlo, hhi⟩
        · have := ok.up i _ (hk i s hi) c hc
          rw [hPl]
          exact this
        · obtain ⟨i, hi⟩ := List.getElem?_of_mem hs
          have := ok.few i _ (hk i s hi)
          rw [hPl]
          exact this
      have back : ∀ (i : Nat) l, ks[i]? = some l → ∃ s, P[i]? = some s ∧ s.l = l := fun i l hi => by
        have hil : i < P.length := by rw [hPl, ← ok.len]; exact (List.getElem?_eq_some_iff.mp hi).1
        have h1 := List.getElem?_eq_getElem hil
        have h2 := hk i _ h1
        rw [hi] at h2
        exact ⟨_, h1, (Option.some.inj h2).symm⟩
      refine q P okP (by rw [hPl]; exact hl) ⟨okP, fun i h0 hi => ?_, fun s hs => ?_, fun s hs => ?_, fs, hPl.symm, ok.f40, fun i s hi c hc => ok.lev i _ (hk i s hi) c hc⟩ (fun hm i j s s' c h1 h2 hc1 hc2 => htr hm i j _ _ c (hk i s h1) (hk j s' h2) hc1 hc2)
      · obtain ⟨k, l, g1, g2⟩ := ok.led i h0 (by omega)
        obtain ⟨s, h1, h2⟩ := back k l g1
        exact ⟨k, s, h1, by rw [h2]; exact g2⟩
      · obtain ⟨i, hi⟩ := List.getElem?_of_mem hs
        exact ok.nd i _ (hk i s hi)
      · obtain ⟨i, hi⟩ := List.getElem?_of_mem hs
        exact ok.b12 i _ (hk i s hi)
    · rintro k σ N hkn hN - - - ⟨P, a2, s2, x10, x11, x12, rfl, hp2, hlen, hh, hk, hlo, hhi⟩
      have hkf : k < fs.length := by omega
      have hkk : k < ks.length := by rw [ok.len]; exact hkf
      have hg : fs[k]? = some fs[k] := List.getElem?_eq_getElem hkf
      have hgk : ks[k]? = some ks[k] := List.getElem?_eq_getElem hkk
      have ek : (0 + (k : Int)).toNat = k := by omega
      (conv => whnf); refine ⟨rfl, ?_⟩
      conv => whnf
      rw [ixN_of (by omega) (by rw [iT_len]; omega), ek]
      conv => whnf
      rw [iT_get hg]
      conv => whnf
      refine ⟨rfl, fun z => (by cases z), a2, s2, turns, fs[k], rfl, hp2, ht0, ht3, fun hand a3 s3 hx hp3 => ⟨fun z => (by cases z), ?_⟩⟩
      (conv => whnf); refine ⟨rfl, Nat.le_of_ble_eq_true rfl, ?_⟩
      (conv => whnf); refine ⟨rfl, ?_⟩
      conv => whnf
      refine ⟨rfl, fun z => (by cases z), a3, s3, style, 0 + (k : Int), rfl, hp3, hs0, hs5, fun w a4 s4 hw1 hw2 hp4 => ⟨fun z => (by cases z), ?_⟩⟩
      (conv => whnf); refine ⟨rfl, Nat.le_of_ble_eq_true rfl, ?_⟩
      show wSs Gm_play [_] N [.d (.list (ns.map .int)), .d (.int most), .d (.bool merge), Pool a s, KT ks, .nd .list (iT fs), .d (.int style), .d (.int turns), Pool a4 s4, .nd .list (PT P), .d (.int (0 + (k : Int))), .d (.str hand), .d (.int w)]
      have hsz2 : ∀ x y : T, [x, y].length ≤ sizeLine := fun _ _ => Nat.le_of_ble_eq_true rfl
      have hsz3 : ∀ x y z : T, [x, y, z].length ≤ sizeLine := fun _ _ _ => Nat.le_of_ble_eq_true rfl
      have hget : (R.p 4 ([] ++ [k])).get [.d (.list (ns.map .int)), .d (.int most), .d (.bool merge), Pool a s, KT ks, .nd .list (iT fs), .d (.int style), .d (.int turns), Pool a4 s4, .nd .list (PT P), .d (.int (0 + (k : Int))), .d (.str hand), .d (.int w)] = some (.nd .list (iT ks[k])) := by
        show T.at (.nd .list (ks.map kidT)) [k] = _
        rw [T.at, kids_get hgk]
        rfl
      have hdata : (R.p 4 ([] ++ [k])).data [.d (.list (ns.map .int)), .d (.int most), .d (.bool merge), Pool a s, KT ks, .nd .list (iT fs), .d (.int style), .d (.int turns), Pool a4 s4, .nd .list (PT P), .d (.int (0 + (k : Int))), .d (.str hand), .d (.int w)] = some (.list (ks[k].map .int)) := by
        unfold R.data
        rw [hget]
        exact data_iT _
      have fin : ∀ d : PyData, d = (Stn.mk hand ks[k] w).d → N.nx [.d (.list (ns.map .int)), .d (.int most), .d (.bool merge), Pool a s, KT ks, .nd .list (iT fs), .d (.int style), .d (.int turns), Pool a4 s4, .nd .list (PT P ++ [.d d]), .d (.int (0 + (k : Int))), .d (.str hand), .d (.int w)] := by
        rintro d rfl
        refine hN _ ⟨P ++ [⟨hand, ks[k], w⟩], a4, s4, .d (.int (0 + (k : Int))), .d (.str hand), .d (.int w), by simp [PT], hp4, by simp [hlen], fun s hs => ?_, fun i s hi => ?_, fun s hs => ?_, fun s hs => ?_⟩
        · rcases List.mem_append.mp hs with z | z
          · exact hh s z
          · simp at z
            subst z
            rcases hx with rfl | rfl
            · exact .inl rfl
            · exact .inr rfl
        · by_cases hik : i < P.length
          · rw [List.getElem?_append_left hik] at hi
            exact hk i s hi
          · have : i = P.length := by
              have := (List.getElem?_eq_some_iff.mp hi).1
              simp at this
              omega
            subst this
            simp at hi
            subst hi
            rw [hlen]
            exact hgk
        · rcases List.mem_append.mp hs with z | z
          · exact hlo s z
          · simp at z
            subst z
            exact hw1
        · rcases List.mem_append.mp hs with z | z
          · exact hhi s z
          · simp at z
            subst z
            exact hw2
      (conv => whnf); refine ⟨trivial, ?_⟩
      (conv => whnf); refine ⟨hsz2 _ _, ?_⟩
      conv => whnf
      rw [ixN_of (by omega) (by rw [List.length_map]; omega), ek]
      conv => whnf
      rw [kids_get hgk]
      conv => whnf
      rw [hget]
      conv => whnf
      rw [leaves_iT]
      (conv => whnf); refine ⟨hsz3 _ _ _, ?_⟩
      (conv => whnf); refine ⟨hsz2 _ _, ?_⟩
      conv => whnf
      rw [ixN_of (by omega) (by rw [List.length_map]; omega), ek]
      conv => whnf
      rw [kids_get hgk]
      (conv => whnf); refine ⟨Nat.zero_le _, ?_⟩
      conv => whnf
      rw [hdata]
      (conv => whnf); refine ⟨(shp_ints _).shaped (by decide), (shp_ints []).shaped (by decide), ?_⟩
      conv => whnf
      have hPl : (PT P).length < sizeLine := by
        unfold PT
        rw [List.length_map]
        omega
      generalize hbb : (!(PyData.list (List.map PyData.int ks[k])).eqv (PyData.list [])) = bb
      cases bb with
      | false =>
        have e0 : ks[k] = [] := by
          cases hk0 : ks[k] with
          | nil => rfl
          | cons x r => rw [hk0] at hbb; simp [PyData.eqv, PyData.eqvAll] at hbb
        (conv => whnf); refine ⟨rfl, ?_⟩
        (conv => whnf); refine ⟨rfl, ?_⟩
        (conv => whnf); refine ⟨hPl, ?_⟩
        exact fin _ (by rw [Stn.d, if_pos e0])
      | true =>
        have e0 : ks[k] ≠ [] := fun z => by rw [z] at hbb; simp [PyData.eqv, PyData.eqvAll] at hbb
        (conv => whnf); refine ⟨rfl, ?_⟩
        (conv => whnf); refine ⟨rfl, ?_⟩
        (conv => whnf); refine ⟨hPl, ?_⟩
        exact fin _ (by rw [Stn.d, if_neg e0])
  (conv => whnf); refine ⟨rfl, ?_⟩
  conv => whnf
  refine ⟨rfl, fun z => (by cases z), ns, 0, rfl, by decide, fun a s hp => ⟨fun z => (by cases z), ?_⟩⟩
  (conv => whnf); refine ⟨rfl, Nat.le_of_ble_eq_true rfl, ?_⟩
  (conv => whnf); refine ⟨rfl, ?_⟩
  conv => whnf
  refine ⟨rfl, fun z => (by cases z), ns, a, s, most, rfl, hp, hmost, fun fs ks a1 s1 ok hl hp1 => ⟨fun z => (by cases z), ?_⟩⟩
  (conv => whnf); refine ⟨by simp only [T.noTupl, KT, T.noTup, noTupl_kids, noTupl_iT, Kd.isTup, Bool.not_false, Bool.and_self], ?_⟩
  show wSs Gm_play (b_law_play.drop 2) _ [.d (.list (ns.map .int)), .d (.int most), .d (.bool merge), Pool a1 s1, KT ks, .nd .list (iT fs), .dead, .dead, .dead, .dead, .dead, .dead, .dead]
  (conv => whnf); refine ⟨rfl, ?_⟩
  conv => whnf
  refine ⟨rfl, fun z => (by cases z), a1, s1, 5, rfl, hp1, by decide, by decide, fun style a2 s2 hs0 hs5 hp2 => ⟨fun z => (by cases z), ?_⟩⟩
  (conv => whnf); refine ⟨rfl, Nat.le_of_ble_eq_true rfl, ?_⟩
  (conv => whnf); refine ⟨rfl, ?_⟩
  conv => whnf
  refine ⟨rfl, fun z => (by cases z), a2, s2, 3, rfl, hp2, by decide, by decide, fun turns a3 s3 ht0 ht3 hp3 => ⟨fun z => (by cases z), ?_⟩⟩
  (conv => whnf); refine ⟨rfl, Nat.le_of_ble_eq_true rfl, ?_⟩
  (conv => whnf); refine ⟨rfl, ?_⟩
  conv => whnf
  refine ⟨rfl, fun z => (by cases z), ns, 1, rfl, by decide, fun a4 s4 hp4 => ⟨fun z => (by cases z), ?_⟩⟩
  (conv => whnf); refine ⟨rfl, Nat.le_of_ble_eq_true rfl, ?_⟩
  show wSs Gm_play (b_law_play.drop 5) _ [.d (.list (ns.map .int)), .d (.int most), .d (.bool merge), Pool a3 s3, KT ks, .nd .list (iT fs), .d (.int style), .d (.int turns), Pool a4 s4, .dead, .dead, .dead, .dead]
  conv => whnf
  refine ⟨fun hmt => ?_, fun _ => rest a3 s3 a4 s4 style turns fs ks hp4 hs0 hs5 ht0 ht3 ok.toKOk (fun _ => ok.tree) hl⟩
  have hpass : passes fsMerged.md [R.p 8 [], R.p 4 [], R.p 5 []] [.d (.list (ns.map .int)), .d (.int most), .d (.bool merge), Pool a3 s3, KT ks, .nd .list (iT fs), .d (.int style), .d (.int turns), Pool a4 s4, .dead, .dead, .dead, .dead] = some ([Pool a4 s4, KT ks, .d (.list (fs.map .int))], true) := by
    simp [passes, R.get, T.at, Pool, KT, data_iT, R.isP]
  conv => whnf
  rw [hpass]
  conv => whnf
  refine ⟨rfl, fun z => (by cases z), a4, s4, fs, ks, rfl, hp4, ok.toKOk, by omega, fun ks' a5 s5 ok' hp5 => ⟨fun _ => ⟨rfl, ?_⟩, ?_⟩⟩
  · simp only [T.flatl, T.flat, KT, Pool, immD, flatl_kids, Bool.and_self]
  · exact rest a3 s3 a5 s5 style turns fs ks' hp5 hs0 hs5 ht0 ht3 ok' (fun z => by rw [z] at hmt; cases hmt) hl
def n_is_whole : List Str := ["thing"]
def b_is_whole : List S := [.ret (.and (.isi (.var 0) "int") (.not (.isi (.var 0) "bool")))]
def n_steps_of : List Str := ["play", "number"]
def b_steps_of : List S := [.ife (.cmp .eq (.ix (.ix (.var 0) (.var 1)) (.k (.int 0))) (.k (.str "end"))) [.ret (.tup [])] [], .ret (.ix (.ix (.var 0) (.var 1)) (.k (.int 1)))]
def n_farthest : List Str := ["play", "found", "number", "step"]
def b_farthest : List S := [.asg 1 (.bin .add (.lst [.k (.int 0)]) (.bin .mul (.lst [.k .none]) (.bin .sub (.blt .len [.var 0]) (.k (.int 1))))), .for_ [2] .rng1 [.blt .len [.var 0]] [.ife (.cmp .isnot (.ix (.var 1) (.var 2)) (.k .none)) [.for_ [3] .e [.call "steps_of" [.var 0, .var 2]] [.setix (.var 1) (.var 3) (.blt .max [.bin .add (.ix (.var 1) (.var 2)) (.k (.int 1)), .or (.ix (.var 1) (.var 3)) (.k (.int 0))])]] []], .ret (.var 1)]
def n_led_to : List Str := ["play", "found", "number", "step"]
def b_led_to : List S := [.asg 1 (.bin .mul (.lst [.k (.int 0)]) (.blt .len [.var 0])), .for_ [2] .rng1 [.blt .len [.var 0]] [.for_ [3] .e [.call "steps_of" [.var 0, .var 2]] [.augix .add (.var 1) (.var 3) 1]], .ret (.var 1)]
def n_is_worth : List Str := ["thing"]
def b_is_worth : List S := [.ret (.and (.call "is_whole" [.var 0]) (.cmp .le (.blt .abs [.var 0]) (.glob "GREATEST")))]
def n_are_steps : List Str := ["thing", "number", "many", "place", "step"]
def b_are_steps : List S := [.ife (.or (.not (.isi (.var 0) "tuple")) (.not (.chain .le .le (.k (.int 1)) (.blt .len [.var 0]) (.glob "MOST_BOUGHS")))) [.ret (.k (.bool false))] [], .for_ [3, 4] .enum [.var 0] [.ife (.or (.not (.call "is_whole" [.var 4])) (.or (.not (.chain .lt .lt (.var 1) (.var 4) (.var 2))) (.cmp .isin (.var 4) (.sl false true (.var 0) [.var 3])))) [.ret (.k (.bool false))] []], .ret (.k (.bool true))]
def n_is_stand : List Str := ["thing", "number", "many"]
def b_is_stand : List S := [.ife (.or (.not (.isi (.var 0) "tuple")) (.or (.cmp .lt (.blt .len [.var 0]) (.k (.int 2))) (.not (.isi (.ix (.var 0) (.k (.int 0))) "str")))) [.ret (.k (.bool false))] [], .ife (.cmp .eq (.ix (.var 0) (.k (.int 0))) (.k (.str "end"))) [.ret (.and (.cmp .eq (.blt .len [.var 0]) (.k (.int 2))) (.call "is_worth" [.ix (.var 0) (.k (.int 1))]))] [], .ife (.or (.cmp .notin (.ix (.var 0) (.k (.int 0))) (.glob "HANDS")) (.cmp .ne (.blt .len [.var 0]) (.k (.int 3)))) [.ret (.k (.bool false))] [], .ret (.and (.call "are_steps" [.ix (.var 0) (.k (.int 1)), .var 1, .var 2]) (.call "is_worth" [.ix (.var 0) (.k (.int 2))]))]
abbrev fsPlay : FS := ⟨[.bor, .bor, .bor], F_play⟩
def best (x : Str) (vs : List Int) : Int := if x = "high" then maxL vs else minL vs
/-- what a stand is worth, by the worths behind it -/
def val (s : Stn) (ws : List Int) : Int := if s.l = [] then s.w else best s.x (s.l.map fun c => ws.getD c.toNat 0)
def PD (P : List Stn) : PyData := .list (P.map Stn.d)
theorem atI_PD {P : List Stn} {k : Nat} {s : Stn} (h : P[k]? = some s) : atI (P.map Stn.d) (k : Nat) = some s.d := by
  have hk : k < P.length := (List.getElem?_eq_some_iff.mp h).1
  unfold atI
  rw [ixN_of (by omega) (by rw [List.length_map]; omega)]
  show (P.map Stn.d)[((k : Nat) : Int).toNat]? = _
  rw [Int.toNat_natCast, List.getElem?_map, h]
  rfl
theorem iT_set (l : List Int) (m : Nat) (x : Int) : (iT l).set m (.d (.int x)) = iT (l.set m x) := by
  unfold iT
  rw [List.map_set]
@[irreducible] def hold (l : List S) : List S := l
theorem hold_eq (l : List S) : hold l = l := by unfold hold; rfl
theorem holdW {Γ : Ctx} {s : S} {r : List S} {D : AE} {σ : St} (h : wSs Γ (s :: hold r) D σ) : wSs Γ (s :: r) D σ := by rw [hold_eq] at h; exact h
theorem unholdW {Γ : Ctx} {r : List S} {D : AE} {σ : St} (h : wSs Γ r D σ) : wSs Γ (hold r) D σ := by rw [hold_eq]; exact h
section
variable {α : Type}
theorem datal_md (f : α → PyData) : ∀ l : List α, T.datal (l.map fun a => .d (f a)) = some (l.map f)
  | [] => by simp [T.datal]
  | x :: l => by simp only [List.map_cons, T.datal, T.data, datal_md f l]
theorem data_md (f : α → PyData) (l : List α) : T.data (.nd .list (l.map fun a => .d (f a))) = some (.list (l.map f)) := by
  simp only [T.data, datal_md, Option.map_some]
theorem leaves_md (f : α → PyData) : ∀ l : List α, T.leaves (l.map fun a => .d (f a)) = some (l.map f)
  | [] => by simp [T.leaves]
  | x :: l => by simp only [List.map_cons, T.leaves, leaves_md f l]
theorem noTupl_md (f : α → PyData) : ∀ l : List α, T.noTupl (l.map fun a => .d (f a)) = true
  | [] => by simp [T.noTupl]
  | x :: l => by simp only [List.map_cons, T.noTupl, T.noTup, noTupl_md f l, Bool.and_self]
theorem noTup_md (f : α → PyData) (l : List α) : T.noTup (.nd .list (l.map fun a => .d (f a))) = true := by
  simp only [T.noTup, noTupl_md, Kd.isTup, Bool.not_false, Bool.and_self]
theorem datas_md (f : α → PyData) (l : List α) (σ : St) : R.datas σ [R.v (.nd .list (l.map fun a => .d (f a)))] = some [.list (l.map f)] := by
  simp only [R.datas, R.data, R.get, data_md]
theorem bools_md (f : α → Bool) : ∀ l : List α, boolsOf (l.map fun a => .bool (f a)) = some (l.map f)
  | [] => rfl
  | x :: l => by simp only [List.map_cons, boolsOf, bools_md f l]
theorem ints_md (f : α → Int) : ∀ l : List α, intsOf (l.map fun a => .int (f a)) = some (l.map f)
  | [] => rfl
  | x :: l => by simp only [List.map_cons, intsOf, ints_md f l]
/-- comprehensions that change nothing -/
theorem lcW_m {is : List Nat} {σ0 σ : St} {tst : St → (Bool → St → Prop) → Prop} {el : St → (T → St → Prop) → Prop} {K : List T → St → Prop} (g : α → PyData) (p : α → Bool) (f : α → T) : ∀ (l : List α) (acc : List T),
    (∀ a ∈ l, ∃ σ1, bindD is (g a) (wipeT σ is) = some σ1 ∧ (∀ Q, Q (p a) σ1 → tst σ1 Q) ∧ (p a = true → ∀ Q, Q (f a) σ1 → el σ1 Q) ∧ restT σ0 is σ1 = σ) → acc.length + l.length < sizeLine → K (acc ++ (l.filter p).map f) σ → lcW is σ0 tst el (l.map g) acc σ K
  | [], acc, h, hz, hK => by rw [List.map_nil, lcW]; simpa using hK
  | x :: xs, acc, h, hz, hK => by
    obtain ⟨σ1, h1, h2, h3, h4⟩ := h x (by simp)
    rw [List.map_cons, lcW, h1]
    refine h2 _ ⟨fun e => ?_, fun e => ?_⟩
    · refine h3 e _ ⟨by simp at hz; omega, ?_⟩
      rw [h4]
      exact lcW_m g p f xs (acc ++ [f x]) (fun y hy => h y (List.mem_cons_of_mem _ hy)) (by simp at hz ⊢; omega) (by rw [List.filter_cons, if_pos e] at hK; simpa using hK)
    · rw [h4]
      exact lcW_m g p f xs acc (fun y hy => h y (List.mem_cons_of_mem _ hy)) (by simp at hz ⊢; omega) (by rw [List.filter_cons, if_neg (by rw [e]; simp)] at hK; exact hK)
/-- without a test -/
theorem lcW_md {is : List Nat} {σ0 σ : St} {el : St → (T → St → Prop) → Prop} {K : List T → St → Prop} (g : α → PyData) (f : α → T) (l : List α)
    (h : ∀ a ∈ l, ∃ σ1, bindD is (g a) (wipeT σ is) = some σ1 ∧ (∀ Q, Q (f a) σ1 → el σ1 Q) ∧ restT σ0 is σ1 = σ) (hz : l.length < sizeLine) (hK : K (l.map f) σ) : lcW is σ0 (fun s Q => Q true s) el (l.map g) [] σ K :=
  lcW_m g (fun _ => true) f l [] (fun a ha => by
    obtain ⟨σ1, h1, h2, h3⟩ := h a ha
    exact ⟨σ1, h1, fun Q hQ => hQ, fun _ Q hQ => h2 Q hQ, h3⟩) (by simpa using hz) (by rw [List.filter_eq_self.mpr (fun _ _ => rfl)]; simpa using hK)
/-- with a test -/
theorem lcW_fd {is : List Nat} {σ0 σ : St} {tst : St → (Bool → St → Prop) → Prop} {el : St → (T → St → Prop) → Prop} {K : List T → St → Prop} (g : α → PyData) (p : α → Bool) (f : α → T) (l : List α)
    (h : ∀ a ∈ l, ∃ σ1, bindD is (g a) (wipeT σ is) = some σ1 ∧ (∀ Q, Q (p a) σ1 → tst σ1 Q) ∧ (p a = true → ∀ Q, Q (f a) σ1 → el σ1 Q) ∧ restT σ0 is σ1 = σ) (hz : l.length < sizeLine) (hK : K ((l.filter p).map f) σ) : lcW is σ0 tst el (l.map g) [] σ K :=
  lcW_m g p f l [] h (by simpa using hz) (by simpa using hK)
/-- a loop whose body keeps what holds -/
theorem forW_all {is : List Nat} {bd : AE → St → Prop} {D : AE} (I : St → Prop) (h0 : ∀ σ, I σ → D.nx σ) : ∀ (l : List PyData)
    (hs : ∀ x ∈ l, ∀ σ (N : AE), (∀ σ', I σ' → N.nx σ') → (∀ σ', I σ' → N.ct σ') → (∀ r σ', D.rt r σ' → N.rt r σ') → (∀ σ', D.nx σ' → N.bk σ') → I σ → match bindD is x σ with | some σ1 => bd N σ1 | none => False) {σ : St} (hi : I σ), forW is bd D l σ
  | [], _, σ, hi => h0 σ hi
  | x :: l, hs, σ, hi => by
    have st : ∀ σ', I σ' → forW is bd D l σ' := fun σ' h' => forW_all I h0 l (fun y hy => hs y (List.mem_cons_of_mem _ hy)) h'
    exact hs x (by simp) σ { nx := forW is bd D l, rt := D.rt, bk := D.nx, ct := forW is bd D l, ex := D.ex } st st (fun _ _ z => z) (fun _ z => z) hi
/-- a loop, by how far it has come -/
theorem forW_k {is : List Nat} {bd : AE → St → Prop} {D : AE} (l : List PyData) (I : Nat → St → Prop) (h0 : ∀ σ, I l.length σ → D.nx σ)
    (hs : ∀ (k : Nat) x σ (N : AE), l[k]? = some x → (∀ σ', I (k + 1) σ' → N.nx σ') → (∀ σ', I (k + 1) σ' → N.ct σ') → (∀ r σ', D.rt r σ' → N.rt r σ') → (∀ σ', D.nx σ' → N.bk σ') → I k σ → match bindD is x σ with | some σ1 => bd N σ1 | none => False) {σ : St} (hi : I 0 σ) : forW is bd D l σ := by
  have key : ∀ (r : List PyData) (k : Nat) (σ : St), (∀ j, r[j]? = l[k + j]?) → k + r.length = l.length → I k σ → forW is bd D r σ := by
    intro r
    induction r with
    | nil => intro k σ _ hl h; simp at hl; subst hl; exact h0 σ h
    | cons x r ih =>
      intro k σ hr hl h
      have st : ∀ σ', I (k + 1) σ' → forW is bd D r σ' := fun σ' h' => ih (k + 1) σ' (fun j => by have := hr (j + 1); rw [List.getElem?_cons_succ] at this; rw [this]; congr 1; omega) (by simp at hl; omega) h'
      exact hs k x σ { nx := forW is bd D r, rt := D.rt, bk := D.nx, ct := forW is bd D r, ex := D.ex } (by have := hr 0; simpa using this.symm) st st (fun _ _ z => z) (fun _ z => z) h
  exact key l 0 σ (fun j => by simp) (by simp) hi
end
theorem rngL0 (n : Nat) : rngL 0 n = (List.range n).map fun (k : Nat) => PyData.int (k : Int) := by
  unfold rngL
  apply List.map_congr_left
  intro k _
  rw [Int.zero_add]
/-- a loop over range(n) -/
theorem forW_r0 {is : List Nat} {bd : AE → St → Prop} {D : AE} {n : Nat} (I : Nat → St → Prop) (h0 : ∀ σ, I n σ → D.nx σ)
    (hs : ∀ (k : Nat) σ (N : AE), k < n → (∀ σ', I (k + 1) σ' → N.nx σ') → (∀ σ', I (k + 1) σ' → N.ct σ') → (∀ r σ', D.rt r σ' → N.rt r σ') → (∀ σ', D.nx σ' → N.bk σ') → I k σ → match bindD is (.int (k : Nat)) σ with | some σ1 => bd N σ1 | none => False) {σ : St} (hi : I 0 σ) : forW is bd D (rngL 0 n) σ := by
  rw [rngL0]
  refine forW_k _ I (fun σ h => h0 σ (by simpa using h)) (fun k x σ N hx h1 h2 h3 h4 h => ?_) hi
  have hk : k < n := by have := (List.getElem?_eq_some_iff.mp hx).1; simpa using this
  rw [List.getElem?_map, List.getElem?_range hk] at hx
  cases hx
  exact hs k σ N hk h1 h2 h3 h4 h
/-- data at a place in a list of leaves -/
theorem atI_md {α : Type} (g : α → PyData) {l : List α} {k : Nat} {a : α} (h : l[k]? = some a) : atI (l.map g) (k : Nat) = some (g a) := by
  have hk : k < l.length := (List.getElem?_eq_some_iff.mp h).1
  unfold atI
  rw [ixN_of (by omega) (by rw [List.length_map]; omega)]
  show (l.map g)[((k : Nat) : Int).toNat]? = _
  rw [Int.toNat_natCast, List.getElem?_map, h]
  rfl
theorem md_get {α : Type} (g : α → PyData) {l : List α} {k : Nat} {a : α} (h : l[k]? = some a) : (l.map fun a => T.d (g a))[k]? = some (.d (g a)) := by
  rw [List.getElem?_map, h]
  rfl
theorem ixN_nat {n k : Nat} (h : k < n) : ixN n (k : Nat) = some k := by
  rw [ixN_of (by omega) (by omega), Int.toNat_natCast]
theorem PT_get {P : List Stn} {k : Nat} {s : Stn} (h : P[k]? = some s) : (PT P)[k]? = some (.d s.d) := md_get _ h
theorem PT_len (P : List Stn) : (PT P).length = P.length := List.length_map _
theorem PT_ix {P : List Stn} {k : Nat} (h : k < P.length) : ixN (PT P).length (k : Nat) = some k := ixN_nat (by rw [PT_len]; exact h)
theorem kids_p {i : Nat} {q : List Nat} {σ : St} {ts : List T} {xs : List PyData} (h : (R.p i q).get σ = some (.nd .list ts)) (hl : T.leaves ts = some xs) : R.kids (.p i q) σ = some ts := by
  unfold R.kids
  rw [h]
  simp [hl]
theorem sIx_k {n d k : Nat} (h : k ≤ n) : HT.sIx n d (some (k : Nat)) = k := by
  rw [HT.sIx_nat]
  omega
theorem cutL_to {α : Type} {xs : List α} {k : Nat} (h : k ≤ xs.length) : cutL xs none (some (k : Nat)) = xs.take k := by
  unfold cutL
  rw [sIx_k h, show HT.sIx xs.length 0 none = 0 from rfl]
  simp
theorem cutL_from {α : Type} {xs : List α} {k : Nat} (h : k ≤ xs.length) : cutL xs (some (k : Nat)) none = xs.drop k := by
  unfold cutL
  rw [sIx_k h, show HT.sIx xs.length xs.length none = xs.length from rfl]
  exact List.take_of_length_le (by simp)
theorem data_p {i : Nat} {q : List Nat} {σ : St} {t : T} {x : PyData} (h : (R.p i q).get σ = some t) (hd : t.data = some x) : (R.p i q).data σ = some x := by
  unfold R.data
  rw [h]
  exact hd
theorem passes_lend {ms : List Md} {rs : List R} {σ : St} {i : Nat} {q : List Nat} {k : Kd} {us : List T} {x : PyData} {ts : List T} {b : Bool} (h : (R.p i q).get σ = some (.nd k us)) (hd : (T.nd k us).data = some x) (hr : passes ms rs σ = some (ts, b)) : passes (.bor :: ms) (.p i q :: rs) σ = some (.d x :: ts, true) := by
  rw [passes, h, hr]
  simp only [hd]
  cases b <;> rfl
theorem passes_val {ms : List Md} {rs : List R} {σ : St} {k : Kd} {us : List T} {x : PyData} {ts : List T} {b : Bool} (hd : (T.nd k us).data = some x) (hr : passes ms rs σ = some (ts, b)) : passes (.bor :: ms) (.v (.nd k us) :: rs) σ = some (.d x :: ts, b) := by
  rw [passes, show (R.v (.nd k us)).get σ = some (.nd k us) from rfl, hr]
  simp only [hd]
  cases b <;> rfl
mutual
theorem eqv_refl : ∀ d : PyData, d.canLay0 = true → PyData.eqv d d = true
  | .none, _ => by simp [PyData.eqv]
  | .bool b, _ => by simp [PyData.eqv]
  | .int i, _ => by simp [PyData.eqv]
  | .str s, _ => by simp [PyData.eqv]
  | .list xs, h => by
    rw [PyData.eqv]
    exact eqvAll_refl xs (by simpa [PyData.canLay0] using h)
  | .tuple xs, h => by
    rw [PyData.eqv]
    exact eqvAll_refl xs (by simpa [PyData.canLay0] using h)
  | .dict kvs, h => by simp [PyData.canLay0] at h
theorem eqvAll_refl : ∀ ds : List PyData, PyData.canLayAll0 ds = true → PyData.eqvAll ds ds = true
  | [], _ => by simp [PyData.eqvAll]
  | d :: ds, h => by
    simp only [PyData.canLayAll0, Bool.and_eq_true] at h
    rw [PyData.eqvAll, eqv_refl d h.1, eqvAll_refl ds h.2]
    rfl
end
theorem all_flat_int (bs : List Int) : ((bs.map fun c => PyData.int c).all flatD) = true := by
  rw [List.all_eq_true]
  intro x hx
  obtain ⟨c, _, rfl⟩ := List.mem_map.mp hx
  rfl
theorem shp_str (n : Nat) {s : Str} (h : PyData.strOk s = true) : shp n (.str s) := ⟨by rw [PyData.canLay0]; exact h, by rw [PyData.depth]; exact Nat.zero_le _⟩
theorem hand_ok {x : Str} (h : x = "high" ∨ x = "low") : PyData.strOk x = true := by
  rcases h with rfl | rfl <;> decide +kernel
theorem shp_stn {s : Stn} (h : s.x = "high" ∨ s.x = "low") : shp 2 s.d := by
  unfold Stn.d
  split
  · refine shp_tup fun x hx => ?_
    simp only [List.mem_cons, List.not_mem_nil, or_false] at hx
    rcases hx with rfl | rfl
    · exact shp_str _ (by decide +kernel)
    · exact shp_int _ _
  · refine shp_tup fun x hx => ?_
    simp only [List.mem_cons, List.not_mem_nil, or_false] at hx
    rcases hx with rfl | rfl | rfl
    · exact shp_str _ (hand_ok h)
    · refine shp_tup fun x hx => ?_
      obtain ⟨i, _, rfl⟩ := List.mem_map.mp hx
      exact shp_int _ _
    · exact shp_int _ _
theorem shp_PD {P : List Stn} (h : ∀ s ∈ P, s.x = "high" ∨ s.x = "low") : shp 3 (PD P) := shp_list fun x hx => by
  obtain ⟨s, hs, rfl⟩ := List.mem_map.mp hx
  exact shp_stn (h s hs)
local macro_rules | `(tactic| walk_at "vc") => `(tactic| first | with_reducible rfl | assumption | exact Nat.zero_le _ | exact noTup_md _ _ | exact Nat.le_of_ble_eq_true rfl | omega | rfl | trivial | focus (simp only [T.noTup, T.noTupl, Kd.isTup, noTupl_md, noTupl_iT, noTupl_kids, PT, KT, Pool, kidT, Bool.not_false, Bool.and_self]; done) | focus (refine ⟨?_, ?_⟩ <;> omega))
local macro_rules | `(tactic| walk_at "vn") => `(tactic| (intro z; with_unfolding_all first | exact Bool.noConfusion (show false = true from z) | exact Bool.noConfusion (show true = false from z) | exact absurd z (by first | decide | (simp only [Bool.not_eq_true', Bool.not_eq_false', decide_eq_true_eq, decide_eq_false_iff_not, List.length_map, iT_len]; omega))))
local macro_rules | `(tactic| walk_at "v1") => `(tactic| ((conv => whnf); (with_reducible refine And.intro ?_ ?_); first | (walk_at "vn"; try (with_reducible intro _)) | (rotate_left; walk_at "vn"; (with_reducible intro _)) | (with_unfolding_all walk_at "vc")))
local macro_rules | `(tactic| walk_at "v") => `(tactic| ((repeat walk_at "v1"); conv => whnf))
local macro_rules | `(tactic| row_has $h) => `(tactic| (rw [$h:ident]; walk_at "v"))
local macro_rules | `(tactic| walk_at "vs") => `(tactic| (refine holdW ?_; walk_at "v"))
local macro_rules | `(tactic| walk_at "vu") => `(tactic| refine unholdW ?_)
def wholeD : PyData → Bool
  | .int _ => true
  | _ => false
def noDictD : PyData → Bool
  | .dict _ => false
  | _ => true
abbrev F_is_whole : List T → (T → List T → Prop) → Prop := fun ts Q => ∃ d : PyData, ts = [.d d] ∧ noDictD d = true ∧ Q (.d (.bool (wholeD d))) [.dead]
abbrev fsIsWhole : FS := ⟨[.bor], F_is_whole⟩
def Gm_is_whole : Ctx := { fn := [], glob := [], bs := ["isinstance", "bool", "int"], pin := [], cls := [] }
theorem w_is_whole : bodyW Gm_is_whole n_is_whole [.bor] b_is_whole F_is_whole := by
  intro ts Q h _
  obtain ⟨d, rfl, hd, q⟩ := h
  cases d with
  | dict _ => cases hd
  | _ => walk_at "v"; exact q
/-- a stand's steps -/
abbrev F_steps_of : List T → (T → List T → Prop) → Prop := fun ts Q => ∃ (P : List Stn) (k : Nat) (s : Stn), ts = [.d (PD P), .d (.int k)] ∧ P[k]? = some s ∧ (s.x = "high" ∨ s.x = "low") ∧ Q (.d (.tuple (s.l.map .int))) [.dead, .dead]
abbrev fsSteps : FS := ⟨[.bor, .bor], F_steps_of⟩
def Gm_steps_of : Ctx := { fn := [], glob := [], bs := [], pin := [], cls := [] }
theorem w_steps_of : bodyW Gm_steps_of n_steps_of [.bor, .bor] b_steps_of F_steps_of := by
  intro ts Q h _
  obtain ⟨P, k, st, rfl, hs, hx, q⟩ := h
  by_cases hl0 : st.l = []
  · have hat : atI (P.map Stn.d) (k : Nat) = some (.tuple [.str "end", .int st.w]) := by rw [atI_PD hs, Stn.d, if_pos hl0]
    walk_at "v"
    row_has hat
    rw [hl0] at q
    exact q
  · have hat : atI (P.map Stn.d) (k : Nat) = some (.tuple [.str st.x, .tuple (st.l.map .int), .int st.w]) := by rw [atI_PD hs, Stn.d, if_neg hl0]
    have hxe : st.x ≠ "end" := by rcases hx with z | z <;> rw [z] <;> decide
    walk_at "v"
    row_has hat
    row_has hat
    exact q
def oD : Option Int → PyData
  | none => .none
  | some i => .int i
/-- the first of a stand's steps whose stand has a value -/
def fbI (ws : List (Option Int)) (l : List Int) (v : Option Int) : Option Nat := (l.map fun c => ws.getD c.toNat none).findIdx? fun z => decide (z = v)
/-- the worths of a play -/
structure WsOk (P : List Stn) (ws : List Int) : Prop where
  len : ws.length = P.length
  val : ∀ (i : Nat) s, P[i]? = some s → ws[i]? = some (val s ws)
local macro_rules | `(tactic| walk_at "vc") => `(tactic| first | with_reducible rfl | assumption | exact Nat.zero_le _ | exact noTup_md _ _ | exact Nat.le_of_ble_eq_true rfl | omega | rfl | trivial | focus (simp only [mkTup, T.leaves, T.noTup, T.noTupl, Kd.isTup, noTupl_md, noTupl_iT, noTupl_kids, PT, KT, Pool, kidT, Bool.not_false, Bool.and_self]; done) | focus (refine ⟨?_, ?_⟩ <;> omega) | exact (fun _ => rfl))
theorem sortI_le (ns : List Int) : (sortI ns).Pairwise (· ≤ ·) := by
  have := List.pairwise_mergeSort (le := fun a b : Int => decide (a ≤ b)) (fun a b c h1 h2 => by simp at *; omega) (fun a b => by simp; omega) ns
  exact this.imp fun h => by simpa using h
theorem sortI_len (ns : List Int) : (sortI ns).length = ns.length := (sortI_perm ns).length_eq
/-- the worths from a stand on -/
def WI (P : List Stn) (k : Nat) (ws : List Int) : Prop := ws.length = P.length ∧ ∀ (i : Nat) s, k ≤ i → P[i]? = some s → ws[i]? = some (val s ws)
theorem WI.start (P : List Stn) : WI P P.length (List.replicate P.length 0) := ⟨by simp, fun i s hi h => by
  have := (List.getElem?_eq_some_iff.mp h).1
  omega⟩
theorem rep_flat (d : PyData) (n : Nat) : (List.replicate n [d]).flatten = List.replicate n d := by
  induction n with
  | zero => rfl
  | succ n ih => simp [List.replicate_succ] at ih ⊢
theorem PT_data (P : List Stn) : T.data (.nd .list (PT P)) = some (PD P) := data_md Stn.d P
/-- looked ends -/
structure EsOk (P : List Stn) (es : List Nat) : Prop where
  nd : es.Nodup
  en : ∀ e ∈ es, ∃ s, P[e]? = some s ∧ s.l = []
theorem nodup_le : ∀ (n : Nat) (l : List Nat), l.Nodup → (∀ x ∈ l, x < n) → l.length ≤ n
  | 0, l, _, h => by
    cases l with
    | nil => exact Nat.le_refl _
    | cons x r => exact absurd (h x (by simp)) (Nat.not_lt_zero _)
  | n + 1, l, hd, h => by
    have h1 := nodup_le n (l.erase n) (hd.erase n) fun x hx => by
      have h2 := (hd.mem_erase_iff).mp hx
      have := h x h2.2
      omega
    rw [List.length_erase] at h1
    split at h1 <;> omega
theorem EsOk.len {P : List Stn} {es : List Nat} (h : EsOk P es) : es.length ≤ P.length := nodup_le _ _ h.nd fun e he => by
  obtain ⟨s, h1, _⟩ := h.en e he
  exact (List.getElem?_eq_some_iff.mp h1).1
theorem enumL_eq (xs : List PyData) : enumL xs = (List.range xs.length).map fun k => PyData.tuple [.int (k : Nat), xs.getD k .none] := rfl
local macro_rules | `(tactic| walk_at "vc") => `(tactic| first | with_reducible rfl | assumption | exact Nat.zero_le _ | exact noTup_md _ _ | exact Nat.le_of_ble_eq_true rfl | omega | rfl | trivial | focus (simp only [mkTup, T.leaves, T.noTup, T.noTupl, Kd.isTup, noTupl_md, noTupl_iT, noTupl_kids, PT, KT, Pool, kidT, Bool.not_false, Bool.and_self] <;> fail) | focus (refine ⟨?_, ?_⟩ <;> omega) | exact (fun _ => rfl))
local macro_rules | `(tactic| walk_at "vn") => `(tactic| (intro z; first | (with_unfolding_all exact Bool.noConfusion (show false = true from z)) | (with_unfolding_all exact Bool.noConfusion (show true = false from z)) | (focus (refine absurd z ?_; first | decide | (simp only [Bool.not_eq_true', Bool.not_eq_false', decide_eq_true_eq, decide_eq_false_iff_not, List.length_map, iT_len]; omega) | (simp <;> fail)))))
def oT (fs : List (Option Int)) : List T := fs.map fun o => .d (oD o)
theorem oT_len (fs : List (Option Int)) : (oT fs).length = fs.length := List.length_map _
theorem oT_get {fs : List (Option Int)} {j : Nat} {o : Option Int} (h : fs[j]? = some o) : (oT fs)[j]? = some (.d (oD o)) := md_get oD h
theorem oT_set (fs : List (Option Int)) (m : Nat) (o : Option Int) : (oT fs).set m (.d (oD o)) = oT (fs.set m o) := by
  unfold oT
  rw [List.map_set]
theorem oT_noTup (fs : List (Option Int)) : T.noTup (.nd .list (oT fs)) = true := noTup_md oD fs
theorem none_rep (n : Nat) : List.map T.d (List.replicate n [PyData.none]).flatten = oT (List.replicate n none) := by
  rw [rep_flat]
  unfold oT
  simp [oD]
/-- how many steps lead to a stand -/
def ledBy (ls : List (List Int)) (i : Nat) : Int := (ls.flatten.count (i : Int) : Nat)
def ledL (P : List Stn) : List Int := (List.range P.length).map fun i => ledBy (P.map Stn.l) i
theorem ledBy_snoc (ls : List (List Int)) (l : List Int) (i : Nat) : ledBy (ls ++ [l]) i = ledBy ls i + (l.count (i : Int) : Nat) := by
  unfold ledBy
  rw [List.flatten_append, List.count_append]
  simp
theorem ledBy_part (ls : List (List Int)) (l : List Int) (c : Int) (i : Nat) : ledBy (ls ++ [l ++ [c]]) i = ledBy (ls ++ [l]) i + (if c = (i : Int) then 1 else 0) := by
  rw [ledBy_snoc, ledBy_snoc, List.count_append]
  by_cases h : c = (i : Int)
  · rw [if_pos h, h]
    simp
    omega
  · rw [if_neg h]
    simp [List.count_singleton, h]
abbrev F_led_to : List T → (T → List T → Prop) → Prop := fun ts Q => ∃ P : List Stn, ts = [.d (PD P)] ∧ POk P ∧ P.length < 1000000 ∧ Q (.nd .list (iT (ledL P))) [.dead]
abbrev fsLedTo : FS := ⟨[.bor], F_led_to⟩
def Gm_led_to : Ctx := { fn := [("steps_of", fsSteps)], glob := [], bs := ["len", "range"], pin := [], cls := [] }
theorem zero_rep (n : Nat) : List.map T.d (List.replicate n [PyData.int 0]).flatten = iT (List.replicate n 0) := by
  rw [rep_flat]
  unfold iT
  simp
/-- a list of numbers by what stands at its places -/
def At (n : Nat) (xs : List Int) (f : Nat → Int) : Prop := xs.length = n ∧ ∀ i, i < n → xs[i]? = some (f i)
theorem At.eq {n : Nat} {xs : List Int} {f : Nat → Int} (h : At n xs f) : xs = (List.range n).map f := by
  apply List.ext_getElem?
  intro i
  rw [List.getElem?_map]
  by_cases hi : i < n
  · rw [h.2 i hi, List.getElem?_range hi]
    rfl
  · rw [List.getElem?_eq_none (by have := h.1; omega), List.getElem?_eq_none (by simpa using hi)]
    rfl
theorem w_led_to : bodyW Gm_led_to n_led_to [.bor] b_led_to F_led_to := by
  intro ts Q h _
  obtain ⟨P, rfl, ok, hlt, q⟩ := h
  have hsl : sizeLine > 10000000 := by decide
  have hPl : (P.map Stn.d).length = P.length := List.length_map _
  show wSs Gm_led_to b_led_to _ [.d (PD P), .dead, .dead, .dead]
  refine holdW ?_
  (conv => whnf); refine ⟨rfl, ?_⟩
  (conv => whnf); refine ⟨Nat.le_of_ble_eq_true rfl, ?_⟩
  (conv => whnf); refine ⟨rfl, ?_⟩
  (conv => whnf); refine ⟨by omega, by omega, by simp; omega, ?_⟩
  conv => whnf
  rw [hPl, Int.toNat_natCast, zero_rep]
  refine ⟨by simp only [T.noTup, noTupl_iT, Kd.isTup, Bool.not_false, Bool.and_self], Nat.le_of_ble_eq_true rfl, ?_⟩
  walk_at "vu"
  show wSs Gm_led_to (b_led_to.drop 1) _ [.d (PD P), .nd .list (iT (List.replicate P.length 0)), .dead, .dead]
  walk_at "vs"
  rw [hPl, Int.toNat_natCast]
  refine forW_r0 (fun k σ => ∃ xs x2 x3, σ = [.d (PD P), .nd .list (iT xs), x2, x3] ∧ At P.length xs (ledBy ((P.map Stn.l).take k))) ?_ ?_ ⟨_, _, _, rfl, by simp, fun i hi => ?_⟩
  · rintro σ ⟨xs, x2, x3, rfl, hA⟩
    rw [List.take_of_length_le (by simp)] at hA
    walk_at "vu"
    have := hA.eq
    subst this
    exact q
  · rintro k σ N hk hN - - - ⟨xs, x2, x3, rfl, hA⟩
    have hs : P[k]? = some P[k] := List.getElem?_eq_getElem hk
    have htk : (P.map Stn.l).take (k + 1) = (P.map Stn.l).take k ++ [P[k].l] := by
      rw [List.take_succ_eq_append_getElem (by simpa using hk), List.getElem_map]
    rw [htk] at hN
    generalize P[k] = st at hs hN
    have hup := ok.up k st hs
    walk_at "v"
    refine ⟨P, k, st, rfl, hs, ok.hand st (List.mem_of_getElem? hs), fun z => (by cases z), ?_⟩
    walk_at "v"
    refine forW_k (st.l.map PyData.int) (fun m σ => ∃ xs x3, σ = [.d (PD P), .nd .list (iT xs), .d (.int k), x3] ∧ At P.length xs (ledBy ((P.map Stn.l).take k ++ [st.l.take m]))) ?_ ?_ ⟨xs, _, rfl, hA.1, fun i hi => ?_⟩
    · rintro σ ⟨xs, x3, rfl, hA⟩
      rw [List.length_map, List.take_length] at hA
      exact hN _ ⟨xs, _, _, rfl, hA⟩
    · rintro m x σ N2 hx hN2 - - - ⟨xs, x3, rfl, hA⟩
      rw [List.getElem?_map] at hx
      obtain ⟨c, hc, rfl⟩ := Option.map_eq_some_iff.mp hx
      have hcu := hup c (List.mem_of_getElem? hc)
      have hm : m < st.l.length := (List.getElem?_eq_some_iff.mp hc).1
      have hxl := hA.1
      have hg2 : (iT xs)[c.toNat]? = some (.d (.int (ledBy ((P.map Stn.l).take k ++ [st.l.take m]) c.toNat))) := iT_get (hA.2 c.toNat (by omega))
      walk_at "v"
      row_has hg2
      rw [iT_set]
      refine hN2 _ ⟨_, _, rfl, by simpa using hxl, fun i hi => ?_⟩
      rw [List.take_succ_eq_append_getElem hm, ledBy_part]
      rw [List.getElem?_eq_getElem hm] at hc
      cases hc
      by_cases e : i = st.l[m].toNat
      · subst e
        rw [List.getElem?_set_self (by omega), if_pos (show st.l[m] = ((st.l[m].toNat : Nat) : Int) by omega)]
        rfl
      · rw [List.getElem?_set_ne (fun z => e z.symm), hA.2 i hi, if_neg (show ¬ st.l[m] = (i : Int) by omega)]
        simp
    · rw [hA.2 i hi, List.take_zero, ledBy_snoc]
      simp
  · rw [List.getElem?_replicate, if_pos hi]
    rfl
/-- how far stands are, by the steps E that were gone -/
structure FE (n : Nat) (E : Nat → Nat → Prop) (fs : List (Option Int)) : Prop where
  len : fs.length = n
  zero : fs[0]? = some (some 0)
  pos : ∀ (i : Nat) v, fs[i]? = some (some v) → 0 ≤ v
  at_ : ∀ i, 0 < i → i < n → (fs[i]? = some none ∧ ∀ k, ¬ E k i) ∨ (∃ v, fs[i]? = some (some v) ∧ (∃ k u, E k i ∧ fs[k]? = some (some u) ∧ v = u + 1) ∧ ∀ k u, E k i → fs[k]? = some (some u) → u + 1 ≤ v)
theorem FE.congr {n : Nat} {E E' : Nat → Nat → Prop} {fs : List (Option Int)} (h : FE n E fs) (e : ∀ k i, E k i ↔ E' k i) : FE n E' fs := by
  have : E = E' := funext fun k => funext fun i => propext (e k i)
  rw [← this]
  exact h
theorem FE.add {n : Nat} {E : Nat → Nat → Prop} {fs : List (Option Int)} {k c : Nat} {u : Int} (h : FE n E fs) (hkc : k < c) (hc : c < n) (hE : ∀ k' i, E k' i → k' ≤ k) (hu : fs[k]? = some (some u)) :
    FE n (fun k' i => E k' i ∨ (k' = k ∧ i = c)) (fs.set c (some (max (u + 1) ((fs.getD c none).getD 0)))) := by
  have hl := h.len
  have hu0 := h.pos k u hu
  generalize hx : max (u + 1) ((fs.getD c none).getD 0) = x
  have keep : ∀ j, j ≠ c → (fs.set c (some x))[j]? = fs[j]? := fun j hj => List.getElem?_set_ne (fun z => hj z.symm)
  have self : (fs.set c (some x))[c]? = some (some x) := List.getElem?_set_self (by omega)
  refine ⟨by rw [List.length_set]; exact hl, by rw [keep 0 (by omega)]; exact h.zero, fun i v hv => ?_, fun i h0 hi => ?_⟩
  · by_cases e : i = c
    · subst e
      rw [self] at hv
      have := Option.some.inj (Option.some.inj hv)
      omega
    · rw [keep i e] at hv
      exact h.pos i v hv
  · by_cases e : i = c
    · subst e
      refine .inr ⟨_, self, ?_, fun k' w hk' hw => ?_⟩
      · rcases h.at_ i h0 hi with ⟨h1, h2⟩ | ⟨v, h1, ⟨k', w, g1, g2, g3⟩, h3⟩
        · refine ⟨k, u, .inr ⟨rfl, rfl⟩, by rw [keep k (by omega)]; exact hu, ?_⟩
          rw [List.getD_eq_getElem?_getD, h1] at hx
          simp at hx
          omega
        · rw [List.getD_eq_getElem?_getD, h1] at hx
          simp only [Option.getD_some] at hx
          by_cases hm : u + 1 ≤ v
          · have := hE k' i g1
            exact ⟨k', w, .inl g1, by rw [keep k' (by omega)]; exact g2, by omega⟩
          · exact ⟨k, u, .inr ⟨rfl, rfl⟩, by rw [keep k (by omega)]; exact hu, by omega⟩
      · have hk'' : k' ≤ k := by
          rcases hk' with z | ⟨z, _⟩
          · exact hE k' i z
          · omega
        rw [keep k' (by omega)] at hw
        rcases hk' with z | ⟨rfl, _⟩
        · rcases h.at_ i h0 hi with ⟨h1, h2⟩ | ⟨v, h1, _, h3⟩
          · exact absurd z (h2 k')
          · have := h3 k' w z hw
            rw [List.getD_eq_getElem?_getD, h1] at hx
            simp only [Option.getD_some] at hx
            omega
        · rw [hu] at hw
          cases hw
          omega
    · rw [keep i e]
      rcases h.at_ i h0 hi with ⟨h1, h2⟩ | ⟨v, h1, ⟨k', w, g1, g2, g3⟩, h3⟩
      · refine .inl ⟨h1, fun k' z => ?_⟩
        rcases z with z | ⟨_, z⟩
        · exact h2 k' z
        · exact e z
      · refine .inr ⟨v, h1, ⟨k', w, .inl g1, by have := hE k' i g1; rw [keep k' (by omega)]; exact g2, g3⟩, fun k2 w2 z hw => ?_⟩
        rcases z with z | ⟨_, z⟩
        · have := hE k2 i z
          rw [keep k2 (by omega)] at hw
          exact h3 k2 w2 z hw
        · exact absurd z e
/-- the steps of the first stands -/
def Ek (P : List Stn) (k : Nat) : Nat → Nat → Prop := fun k' i => k' < k ∧ ∃ s, P[k']? = some s ∧ (i : Int) ∈ s.l
def Ekm (P : List Stn) (k : Nat) (l : List Int) (m : Nat) : Nat → Nat → Prop := fun k' i => Ek P k k' i ∨ (k' = k ∧ (i : Int) ∈ l.take m)
theorem Ekm_step {P : List Stn} {k : Nat} {l : List Int} {m : Nat} {c : Int} (hc : l[m]? = some c) (h0 : 0 ≤ c) (k' i : Nat) : (Ekm P k l m k' i ∨ (k' = k ∧ i = c.toNat)) ↔ Ekm P k l (m + 1) k' i := by
  have hm : m < l.length := (List.getElem?_eq_some_iff.mp hc).1
  rw [List.getElem?_eq_getElem hm] at hc
  unfold Ekm
  rw [List.take_succ_eq_append_getElem hm, List.mem_append, List.mem_singleton, Option.some.inj hc]
  constructor
  · rintro ((h | ⟨h1, h2⟩) | ⟨h1, h2⟩)
    · exact .inl h
    · exact .inr ⟨h1, .inl h2⟩
    · exact .inr ⟨h1, .inr (by omega)⟩
  · rintro (h | ⟨h1, h2 | h2⟩)
    · exact .inl (.inl h)
    · exact .inl (.inr ⟨h1, h2⟩)
    · exact .inr ⟨h1, by omega⟩
theorem Ekm_all {P : List Stn} {k : Nat} {st : Stn} (hs : P[k]? = some st) (k' i : Nat) : Ekm P k st.l st.l.length k' i ↔ Ek P (k + 1) k' i := by
  unfold Ekm Ek
  rw [List.take_length]
  constructor
  · rintro (⟨h1, h2⟩ | ⟨rfl, h2⟩)
    · exact ⟨by omega, h2⟩
    · exact ⟨by omega, st, hs, h2⟩
  · rintro ⟨h1, s, h2, h3⟩
    by_cases e : k' = k
    · subst e
      rw [hs] at h2
      cases h2
      exact .inr ⟨rfl, h3⟩
    · exact .inl ⟨by omega, s, h2, h3⟩
theorem Ekm_none {P : List Stn} {k : Nat} {l : List Int} (k' i : Nat) : Ekm P k l 0 k' i ↔ Ek P k k' i := by
  unfold Ekm
  simp
theorem Ekm_le {P : List Stn} {k : Nat} {l : List Int} {m k' i : Nat} (h : Ekm P k l m k' i) : k' ≤ k := by
  rcases h with ⟨h, _⟩ | ⟨h, _⟩ <;> omega
/-- a stand that is come to has been reached -/
theorem FE.reached {P : List Stn} {k : Nat} {fs : List (Option Int)} (px : PX P) (h : FE P.length (Ek P k) fs) (hk : k < P.length) : ∃ u, fs[k]? = some (some u) := by
  by_cases h0 : k = 0
  · subst h0
    exact ⟨0, h.zero⟩
  · rcases h.at_ k (by omega) hk with ⟨_, h2⟩ | ⟨v, h1, _⟩
    · obtain ⟨k', s, g1, g2⟩ := px.led k (by omega) hk
      have := px.up k' s g1 _ g2
      exact absurd ⟨by omega, s, g1, g2⟩ (h2 k')
    · exact ⟨v, h1⟩
theorem FE.start (P : List Stn) (h : 0 < P.length) : FE P.length (Ek P 0) (some 0 :: List.replicate (P.length - 1) none) := by
  refine ⟨by simp; omega, rfl, fun i v hv => ?_, fun i h0 hi => .inl ⟨?_, fun k z => ?_⟩⟩
  · cases i with
    | zero => simp at hv; omega
    | succ i =>
      rw [List.getElem?_cons_succ, List.getElem?_replicate] at hv
      split at hv <;> simp at hv
  · cases i with
    | zero => omega
    | succ i =>
      rw [List.getElem?_cons_succ, List.getElem?_replicate, if_pos (by omega)]
  · have := z.1
    omega
/-- all are reached at last -/
structure FarOk (P : List Stn) (fs : List Int) : Prop where
  fe : FE P.length (Ek P P.length) (fs.map some)
theorem FE.all {P : List Stn} {fs : List (Option Int)} (px : PX P) (h : FE P.length (Ek P P.length) fs) : ∃ gs, fs = gs.map some ∧ FarOk P gs := by
  have hall : ∀ i, i < P.length → ∃ u, fs[i]? = some (some u) := fun i hi => by
    by_cases h0 : i = 0
    · subst h0
      exact ⟨0, h.zero⟩
    · rcases h.at_ i (by omega) hi with ⟨_, h2⟩ | ⟨v, h1, _⟩
      · obtain ⟨k', s, g1, g2⟩ := px.led i (by omega) hi
        exact absurd ⟨(List.getElem?_eq_some_iff.mp g1).1, s, g1, g2⟩ (h2 k')
      · exact ⟨v, h1⟩
  have e : fs = (fs.map fun o => o.getD 0).map some := by
    rw [List.map_map]
    apply List.ext_getElem?
    intro i
    rw [List.getElem?_map]
    by_cases hi : i < P.length
    · obtain ⟨u, hu⟩ := hall i hi
      rw [hu]
      rfl
    · rw [List.getElem?_eq_none (by have := h.len; omega)]
      rfl
  exact ⟨_, e, ⟨by rw [← e]; exact h⟩⟩
abbrev F_farthest : List T → (T → List T → Prop) → Prop := fun ts Q => ∃ P : List Stn, ts = [.d (PD P)] ∧ PX P ∧ P.length < 1000000 ∧ ∀ fs, FarOk P fs → Q (.nd .list (iT fs)) [.dead]
abbrev fsFarthest : FS := ⟨[.bor], F_farthest⟩
def Gm_farthest : Ctx := { fn := [("steps_of", fsSteps)], glob := [], bs := ["len", "range", "max"], pin := [], cls := [] }
theorem oT_some (gs : List Int) : oT (gs.map some) = iT gs := by unfold oT iT; rw [List.map_map]; rfl
theorem w_farthest : bodyW Gm_farthest n_farthest [.bor] b_farthest F_farthest := by
  intro ts Q h _
  obtain ⟨P, rfl, px, hlt, q⟩ := h
  have ok := px.toPOk
  have hsl : sizeLine > 10000000 := by decide
  have hPl : (P.map Stn.d).length = P.length := List.length_map _
  have hpos := ok.pos
  show wSs Gm_farthest b_farthest _ [.d (PD P), .dead, .dead, .dead]
  refine holdW ?_
  (conv => whnf); refine ⟨rfl, ?_⟩
  (conv => whnf); refine ⟨Nat.le_of_ble_eq_true rfl, ?_⟩
  (conv => whnf); refine ⟨Nat.le_of_ble_eq_true rfl, ?_⟩
  (conv => whnf); refine ⟨rfl, ?_⟩
  (conv => whnf); refine ⟨by omega, by omega, by rw [hPl, List.length_singleton]; omega, ?_⟩
  conv => whnf
  rw [hPl, show ((P.length : Int) - 1).toNat = P.length - 1 by omega, none_rep]
  refine ⟨rfl, ?_⟩
  (conv => whnf); refine ⟨by rw [oT_len, List.length_replicate, List.length_singleton]; omega, ?_⟩
  rw [show [T.d (.int 0)] ++ oT (List.replicate (P.length - 1) none) = oT (some 0 :: List.replicate (P.length - 1) none) from rfl]
  (conv => whnf); refine ⟨oT_noTup _, Nat.le_of_ble_eq_true rfl, ?_⟩
  conv => whnf
  walk_at "vu"
  show wSs Gm_farthest (b_farthest.drop 1) _ [.d (PD P), .nd .list (oT (some 0 :: List.replicate (P.length - 1) none)), .dead, .dead]
  walk_at "vs"
  rw [hPl, Int.toNat_natCast]
  refine forW_r0 (fun k σ => ∃ fs x2 x3, σ = [.d (PD P), .nd .list (oT fs), x2, x3] ∧ FE P.length (Ek P k) fs) ?_ ?_ ⟨_, _, _, rfl, FE.start P hpos⟩
  · rintro σ ⟨fs, x2, x3, rfl, hF⟩
    obtain ⟨gs, rfl, hG⟩ := hF.all px
    rw [oT_some]
    walk_at "vu"
    exact q gs hG
  · rintro k σ N hk hN - - - ⟨fs, x2, x3, rfl, hF⟩
    obtain ⟨u, hu⟩ := hF.reached px hk
    have hs : P[k]? = some P[k] := List.getElem?_eq_getElem hk
    generalize P[k] = st at hs
    have hup := ok.up k st hs
    have hfl := hF.len
    have h1 : ixN (oT fs).length (k : Nat) = some k := ixN_nat (by rw [oT_len]; omega)
    have h2 := oT_get hu
    walk_at "v"
    row_has h1
    row_has h2
    refine ⟨P, k, st, rfl, hs, ok.hand st (List.mem_of_getElem? hs), fun z => (by cases z), ?_⟩
    walk_at "v"
    refine forW_k (st.l.map PyData.int) (fun m σ => ∃ fs x3, σ = [.d (PD P), .nd .list (oT fs), .d (.int k), x3] ∧ FE P.length (Ekm P k st.l m) fs ∧ fs[k]? = some (some u)) ?_ ?_ ⟨fs, _, rfl, hF.congr fun k' i => (Ekm_none k' i).symm, hu⟩
    · rintro σ ⟨fs, x3, rfl, hF, _⟩
      rw [List.length_map] at hF
      exact hN _ ⟨fs, _, _, rfl, hF.congr (Ekm_all hs)⟩
    · rintro m x σ N2 hx hN2 - - - ⟨fs, x3, rfl, hF, hu⟩
      rw [List.getElem?_map] at hx
      obtain ⟨c, hc, rfl⟩ := Option.map_eq_some_iff.mp hx
      have hcu := hup c (List.mem_of_getElem? hc)
      have hfl := hF.len
      have h1 : ixN (oT fs).length (k : Nat) = some k := ixN_nat (by rw [oT_len]; omega)
      have h2 := oT_get hu
      have hco : fs[c.toNat]? = some (fs.getD c.toNat none) := by rw [List.getD_eq_getElem?_getD, List.getElem?_eq_getElem (by omega)]; rfl
      have h3 : ixN (oT fs).length c = some c.toNat := ixN_of (by omega) (by rw [oT_len]; omega)
      have h4 := oT_get hco
      have fin : N2.nx [.d (PD P), .nd .list ((oT fs).set c.toNat (.d (oD (some (max (u + 1) ((fs.getD c.toNat none).getD 0)))))), .d (.int k), .d (.int c)] := by
        rw [oT_set]
        refine hN2 _ ⟨_, _, rfl, (hF.add (by omega) (by omega) (fun k' i => Ekm_le) hu).congr (Ekm_step hc (by omega)), ?_⟩
        rw [List.getElem?_set_ne (by omega)]
        exact hu
      walk_at "v"
      row_has h1
      row_has h2
      row_has h3
      row_has h4
      generalize fs.getD c.toNat none = o at fin
      cases o with
      | none =>
        walk_at "v"
        row_has h3
        exact fin
      | some v =>
        conv => whnf
        refine ⟨fun _ => ?_, fun z => ?_⟩
        · walk_at "v"
          row_has h3
          exact fin
        · have hv : v = 0 := by simpa using z
          subst hv
          walk_at "v"
          row_has h3
          exact fin
theorem ledL_len (P : List Stn) : (ledL P).length = P.length := by unfold ledL; simp
abbrev Plan := List (Nat × Nat)
/-- where one goes on from a stand by a plan -/
def nxt (P : List Stn) (h : Str) (kv : Plan) (k : Nat) : List Int := match P[k]? with
  | some s => if s.x = h then match kv.lookup k with
    | some j => match s.l[j]? with
      | some c => [c]
      | none => []
    | none => []
    else s.l
  | none => []
/-- the plan has a step there -/
def PlAt (P : List Stn) (h : Str) (kv : Plan) (k : Nat) : Prop := ∀ s, P[k]? = some s → s.l ≠ [] → s.x = h → ∃ j c, kv.lookup k = some j ∧ s.l[j]? = some c
/-- the stands that are come to: r holds them all -/
structure ROk (P : List Stn) (h : Str) (kv : Plan) (r : List Nat) : Prop where
  zero : 0 ∈ r
  lt : ∀ i ∈ r, i < P.length
  shut : ∀ i ∈ r, ∀ c ∈ nxt P h kv i, c.toNat ∈ r
  from_ : ∀ i ∈ r, i = 0 ∨ ∃ m ∈ r, (i : Int) ∈ nxt P h kv m
  plan : ∀ i ∈ r, PlAt P h kv i
  none_ : ∀ i s, P[i]? = some s → s.l = [] → kv.lookup i = none
def comeL (P : List Stn) (r : List Nat) : List Nat := (List.range P.length).filter fun k => decide (k ∈ r)
theorem comeL_len (P : List Stn) (r : List Nat) : (comeL P r).length ≤ P.length := by
  have := List.length_filter_le (fun k => decide (k ∈ r)) (List.range P.length)
  rw [List.length_range] at this
  exact this
def oth (h : Str) : Str := if h = "high" then "low" else "high"
/-- the walk of the law, so far -/
structure GI (P : List Stn) (h : Str) (kv : Plan) (r : List Nat) (m : Nat) : Prop where
  nd : r.Nodup
  lt : ∀ i ∈ r, i < P.length
  zero : 0 ∈ r
  le : m ≤ r.length
  key : ∀ k, (kv.lookup k).isSome = true → k ∈ r.take m ∧ ∃ s, P[k]? = some s ∧ s.l ≠ []
  knd : (kv.map (·.1)).Nodup
  plan : ∀ i ∈ r.take m, PlAt P h kv i
  shut : ∀ i ∈ r.take m, ∀ c ∈ nxt P h kv i, c.toNat ∈ r
  from_ : ∀ i ∈ r, i = 0 ∨ ∃ n ∈ r.take m, (i : Int) ∈ nxt P h kv n
theorem GI.fresh {P : List Stn} {h : Str} {kv : Plan} {r : List Nat} {m k : Nat} (g : GI P h kv r m) (hm : m < r.length) (hk : r[m]? = some k) : kv.lookup k = none := by
  have hknt : k ∉ r.take m := fun z => by
    obtain ⟨n, hn, e⟩ := List.mem_take_iff_getElem.mp z
    have h1 : r[n]? = some k := by rw [List.getElem?_eq_getElem (by omega), e]
    have := (List.getElem?_inj (by omega) g.nd).mp (h1.trans hk.symm)
    omega
  cases e : kv.lookup k with
  | none => rfl
  | some j => exact absurd (g.key k (by rw [e]; rfl)).1 hknt
theorem GI.start {P : List Stn} (h : Str) (ok : POk P) : GI P h [] [0] 0 := by
  refine ⟨by simp, fun i hi => ?_, by simp, by simp, fun k hk => by simp at hk, by simp, fun i hi => by simp at hi, fun i hi => by simp at hi, fun i hi => .inl (by simpa using hi)⟩
  rw [List.mem_singleton.mp hi]
  exact ok.pos
/-- the ends, rising -/
theorem sorted_eq : ∀ {l l' : List Int}, l.Pairwise (· < ·) → l'.Pairwise (· < ·) → (∀ x, x ∈ l ↔ x ∈ l') → l = l'
  | [], [], _, _, _ => rfl
  | [], y :: l', _, _, h => by have := (h y).mpr (by simp); simp at this
  | x :: l, [], _, _, h => by have := (h x).mp (by simp); simp at this
  | x :: l, y :: l', h1, h2, h => by
    rw [List.pairwise_cons] at h1 h2
    have e : x = y := by
      rcases List.mem_cons.mp ((h x).mp (by simp)) with z | z
      · exact z
      · rcases List.mem_cons.mp ((h y).mpr (by simp)) with w | w
        · exact w.symm
        · have a := h1.1 y w
          have b := h2.1 x z
          omega
    subst e
    congr 1
    refine sorted_eq h1.2 h2.2 fun z => ⟨fun hz => ?_, fun hz => ?_⟩
    · have := h1.1 z hz
      exact (List.mem_cons.mp ((h z).mp (List.mem_cons_of_mem _ hz))).resolve_left (by omega)
    · have := h2.1 z hz
      exact (List.mem_cons.mp ((h z).mpr (List.mem_cons_of_mem _ hz))).resolve_left (by omega)
/-- a plan: its keys are just the own stands that are come to -/
structure PlOk (P : List Stn) (h : Str) (kv : Plan) (r : List Nat) : Prop extends ROk P h kv r where
  kinc : (kv.map (·.1)).Pairwise (· < ·)
  keys : ∀ k, k ∈ kv.map (·.1) ↔ k ∈ r ∧ ∃ s, P[k]? = some s ∧ s.l ≠ [] ∧ s.x = h
/-- stands at which there is a first best step, and so behind them -/
structure Gd (P : List Stn) (h : Str) (ws : List (Option Int)) (G : Nat → Prop) : Prop where
  zero : G 0
  own : ∀ k s, P[k]? = some s → s.l ≠ [] → s.x = h → G k → ∃ v j c, ws[k]? = some v ∧ fbI ws s.l v = some j ∧ s.l[j]? = some c ∧ G c.toNat
  oth : ∀ k s, P[k]? = some s → s.x ≠ h → G k → ∀ c ∈ s.l, G c.toNat
/-- plan_by ahead of stand k -/
structure PBI (P : List Stn) (h : Str) (ws : List (Option Int)) (G : Nat → Prop) (k : Nat) (kv : Plan) (bs : List Bool) : Prop where
  len : bs.length = P.length
  zero : bs[0]? = some true
  from_ : ∀ i : Nat, bs[i]? = some true → i = 0 ∨ ∃ m, m < k ∧ bs[m]? = some true ∧ (i : Int) ∈ nxt P h kv m
  shut : ∀ m, m < k → bs[m]? = some true → ∀ c ∈ nxt P h kv m, bs[c.toNat]? = some true
  kinc : (kv.map (·.1)).Pairwise (· < ·)
  keys : ∀ i, i ∈ kv.map (·.1) ↔ i < k ∧ bs[i]? = some true ∧ ∃ s, P[i]? = some s ∧ s.l ≠ [] ∧ s.x = h
  by_ : ∀ i, i < k → bs[i]? = some true → ∀ s, P[i]? = some s → s.l ≠ [] → s.x = h → ∃ v j, ws[i]? = some v ∧ fbI ws s.l v = some j ∧ kv.lookup i = some j ∧ ∃ c, s.l[j]? = some c
  good : ∀ i, bs[i]? = some true → G i
theorem PBI.start {P : List Stn} {h : Str} {ws : List (Option Int)} {G : Nat → Prop} (ok : POk P) (gd : Gd P h ws G) : PBI P h ws G 0 [] ((List.replicate P.length false).set 0 true) := by
  have only : ∀ i, ((List.replicate P.length false).set 0 true)[i]? = some true → i = 0 := fun i hi => by
    by_cases e : i = 0
    · exact e
    · rw [List.getElem?_set_ne (fun z => e z.symm), List.getElem?_replicate] at hi
      split at hi <;> simp at hi
  have hpos := ok.pos
  refine ⟨by simp, List.getElem?_set_self (by simpa using hpos), fun i hi => .inl (only i hi), fun m hm => absurd hm (by omega), by simp, fun i => ⟨fun z => by simp at z, fun z => absurd z.1 (by omega)⟩, fun i hi => absurd hi (by omega), fun i hi => ?_⟩
  rw [only i hi]
  exact gd.zero
/-- a plan, its keys in any order -/
structure PlG (P : List Stn) (h : Str) (kv : Plan) (r : List Nat) : Prop extends ROk P h kv r where
  knd : (kv.map (·.1)).Nodup
  keys : ∀ k, k ∈ kv.map (·.1) ↔ k ∈ r ∧ ∃ s, P[k]? = some s ∧ s.l ≠ [] ∧ s.x = h
theorem PlOk.g {P : List Stn} {h : Str} {kv : Plan} {r : List Nat} (p : PlOk P h kv r) : PlG P h kv r := ⟨p.toROk, p.kinc.imp fun z => Nat.ne_of_lt z, p.keys⟩
def ownB (P : List Stn) (h : Str) (k : Nat) : Bool := decide ((P.getD k ⟨"", [], 0⟩).l ≠ []) && decide ((P.getD k ⟨"", [], 0⟩).x = h)
/-- the own stands that are come to, rising -/
def ownL (P : List Stn) (h : Str) (r : List Nat) : List Nat := (comeL P r).filter (ownB P h)
theorem ownL_mem {P : List Stn} {h : Str} {r : List Nat} (hlt : ∀ i ∈ r, i < P.length) {k : Nat} : k ∈ ownL P h r ↔ k ∈ r ∧ ∃ s, P[k]? = some s ∧ s.l ≠ [] ∧ s.x = h := by
  unfold ownL
  rw [List.mem_filter]
  have hc : k ∈ comeL P r ↔ k ∈ r := by
    unfold comeL
    rw [List.mem_filter, List.mem_range]
    exact ⟨fun z => by simpa using z.2, fun z => ⟨hlt k z, by simpa using z⟩⟩
  rw [hc]
  refine and_congr_right fun hk => ?_
  have e := List.getElem?_eq_getElem (hlt k hk)
  unfold ownB
  rw [List.getD_eq_getElem?_getD, e]
  simp
theorem comeL_inc (P : List Stn) (r : List Nat) : (comeL P r).Pairwise (· < ·) := List.Pairwise.filter _ List.pairwise_lt_range
theorem sort_keys {P : List Stn} {h : Str} {kv : Plan} {r : List Nat} (pl : PlG P h kv r) : sortI (kv.map fun p => ((p.1 : Nat) : Int)) = (ownL P h r).map fun j : Nat => (j : Int) := by
  refine sorted_eq ?_ ?_ fun x => ?_
  · have h1 := sortI_le (kv.map fun p => ((p.1 : Nat) : Int))
    have h2 : (sortI (kv.map fun p => ((p.1 : Nat) : Int))).Nodup := (sortI_perm _).nodup_iff.mpr (by
      have := pl.knd
      rw [show (kv.map fun p => ((p.1 : Nat) : Int)) = (kv.map (·.1)).map (fun j : Nat => (j : Int)) by rw [List.map_map]; rfl]
      exact List.pairwise_map.mpr (this.imp fun z y => z (by omega)))
    refine (List.Pairwise.and h1 h2).imp fun z => ?_
    omega
  · exact List.pairwise_map.mpr ((List.Pairwise.filter _ (comeL_inc P r)).imp fun z => by omega)
  · rw [(sortI_perm _).mem_iff, List.mem_map, List.mem_map]
    constructor
    · rintro ⟨p, hp, rfl⟩
      exact ⟨p.1, (ownL_mem pl.lt).mpr ((pl.keys p.1).mp (List.mem_map.mpr ⟨p, hp, rfl⟩)), rfl⟩
    · rintro ⟨j, hj, rfl⟩
      obtain ⟨p, hp, e⟩ := List.mem_map.mp ((pl.keys j).mpr ((ownL_mem pl.lt).mp hj))
      exact ⟨p, hp, by rw [e]⟩
theorem PlG.few {P : List Stn} {h : Str} {kv : Plan} {r : List Nat} (pl : PlG P h kv r) : kv.length ≤ P.length := by
  have h1 := congrArg List.length (sort_keys pl)
  rw [sortI_len, List.length_map, List.length_map] at h1
  have h2 : (ownL P h r).length ≤ (comeL P r).length := List.length_filter_le _ _
  have h3 := comeL_len P r
  omega
/-- a is as good as b for h -/
def NoW (h : Str) (a b : Int) : Prop := if h = "high" then b ≤ a else a ≤ b
theorem NoW.refl (h : Str) (a : Int) : NoW h a a := by unfold NoW; split <;> omega
theorem NoW.trans {h : Str} {a b c : Int} (h1 : NoW h a b) (h2 : NoW h b c) : NoW h a c := by unfold NoW at *; split <;> simp_all <;> omega
theorem WsOk.at_ {P : List Stn} {ws : List Int} (hw : WsOk P ws) {k : Nat} {s : Stn} (hs : P[k]? = some s) : ws.getD k 0 = VL.val s ws := by
  rw [List.getD_eq_getElem?_getD, hw.val k s hs]
  rfl
/-- a walk by a given plan, so far -/
structure HW (P : List Stn) (h : Str) (kv : Plan) (r row : List Nat) (m : Nat) : Prop where
  nd : row.Nodup
  sub : ∀ i ∈ row, i ∈ r
  zero : 0 ∈ row
  le : m ≤ row.length
  shut : ∀ i ∈ row.take m, ∀ c ∈ nxt P h kv i, c.toNat ∈ row
theorem HW.start {P : List Stn} {h : Str} {kv : Plan} {r : List Nat} (ro : ROk P h kv r) : HW P h kv r [0] 0 :=
  ⟨by simp, fun i hi => by rw [List.mem_singleton.mp hi]; exact ro.zero, by simp, by simp, fun i hi => by simp at hi⟩
def mxO (a : Option Int) (v : Int) : Int := match a with
  | none => v
  | some x => max x v
def mnO (a : Option Int) (v : Int) : Int := match a with
  | none => v
  | some x => min x v
def shutO : Option Int → Option Int → Bool
  | some x, some y => decide (y ≤ x)
  | _, _ => false
def nilS : Stn := ⟨"", [], 0⟩
/-- an order of a play -/
structure OOk (P : List Stn) (O : List (List Nat)) : Prop where
  len : O.length = P.length
  per : ∀ (k : Nat) s, P[k]? = some s → ∃ ps, O[k]? = some ps ∧ ps.Perm (List.range s.l.length)
/-- the ways that are looked at, by the worths of the steps that stand ahead -/
def lkgo (rec : Nat → Option Int → Option Int → List Nat) (ws : List Int) (s : Stn) : List Nat → Option Int → Option Int → List Nat
  | [], _, _ => []
  | j :: js, a, b => rec (s.l.getD j 0).toNat a b ++ (if s.x = "high" then
      if shutO (some (mxO a (ws.getD (s.l.getD j 0).toNat 0))) b = true then [] else lkgo rec ws s js (some (mxO a (ws.getD (s.l.getD j 0).toNat 0))) b
    else
      if shutO a (some (mnO b (ws.getD (s.l.getD j 0).toNat 0))) = true then [] else lkgo rec ws s js a (some (mnO b (ws.getD (s.l.getD j 0).toNat 0))))
def lk (P : List Stn) (O : List (List Nat)) (ws : List Int) : Nat → Nat → Option Int → Option Int → List Nat
  | 0, _, _, _ => []
  | n + 1, k, a, b => if (P.getD k nilS).l = [] then [k] else lkgo (lk P O ws n) ws (P.getD k nilS) (O.getD k []) a b
/-- levels: how far stands are from the begin -/
structure Lv (P : List Stn) (fs : List Int) : Prop where
  len : fs.length = P.length
  bd : ∀ f ∈ fs, 0 ≤ f ∧ f ≤ 40
  up : ∀ (i : Nat) s, P[i]? = some s → ∀ c ∈ s.l, fs.getD i 0 < fs.getD c.toNat 0
theorem PX.lv {P : List Stn} (px : PX P) : ∃ fs, Lv P fs := by
  obtain ⟨fs, h1, h2, h3⟩ := px.lev
  exact ⟨fs, h1, h2, h3⟩
def Fu (fs : List Int) (n k : Nat) : Prop := (41 : Int) ≤ n + fs.getD k 0
theorem Fu.le {P : List Stn} {fs : List Int} (lv : Lv P fs) {k : Nat} (hk : k < P.length) : 0 ≤ fs.getD k 0 ∧ fs.getD k 0 ≤ 40 := by
  have h := List.getElem?_eq_getElem (l := fs) (i := k) (by rw [lv.len]; exact hk)
  rw [List.getD_eq_getElem?_getD, h]
  exact lv.bd _ (List.mem_of_getElem? h)
theorem Fu.zero {P : List Stn} {fs : List Int} (lv : Lv P fs) {k : Nat} (hk : k < P.length) (h : Fu fs 0 k) : False := by
  have := Fu.le lv hk
  unfold Fu at h
  omega
theorem OOk.at_ {P : List Stn} {O : List (List Nat)} (oo : OOk P O) {k : Nat} {s : Stn} (hs : P[k]? = some s) : (O.getD k []).Perm (List.range s.l.length) := by
  obtain ⟨ps, h1, h2⟩ := oo.per k s hs
  rw [List.getD_eq_getElem?_getD, h1]
  exact h2
section
variable {P : Program} {w : World} {K : PySem.W.Frag} {mg : Str → Option Value} {base : Heap} {k : Nat}
def MthI (P : Program) (w : World) (K : PySem.W.Frag) (mg : Str → Option Value) (base : Heap) (k : Nat) (C : Addr) (m : Str) (fs : FS) : Prop :=
  ∃ f fd ps, Meth K C m f ∧ FnG P w K mg base CX0 k f fd ps (spV K fs.md fs.F) ∧ Binds K fd ps []
def MkI (P : Program) (w : World) (K : PySem.W.Frag) (mg : Str → Option Value) (base : Heap) (k : Nat) (C : Addr) (fs : FS) : Prop :=
  ∃ f fd ps, Mk K C f ∧ FnG P w K mg base CX0 k f fd ps (spV K fs.md fs.F) ∧ Binds K fd ps []
theorem MthI.mono {C : Addr} {m : Str} {fs : FS} {j k : Nat} (h : MthI P w K mg base j C m fs) (hjk : j ≤ k) : MthI P w K mg base k C m fs := by
  obtain ⟨f, fd, ps, h1, h2, h3⟩ := h
  exact ⟨f, fd, ps, h1, h2.mono hjk, h3⟩
theorem MkI.mono {C : Addr} {fs : FS} {j k : Nat} (h : MkI P w K mg base j C fs) (hjk : j ≤ k) : MkI P w K mg base k C fs := by
  obtain ⟨f, fd, ps, h1, h2, h3⟩ := h
  exact ⟨f, fd, ps, h1, h2.mono hjk, h3⟩
theorem gl_int {g : Str} {i : Int} {t : Nat} {l : List (Str × PyData)} (h1 : mg g = some (.int i t)) (h2 : ∀ g x, l.lookup g = some x → ∃ v u, mg g = some u ∧ RelV v u ∧ ∀ Hs, Rp K Hs v x) : ∀ g' x, ((g, .int i) :: l).lookup g' = some x → ∃ v u, mg g' = some u ∧ RelV v u ∧ ∀ Hs, Rp K Hs v x := fun g' x h => by
  rw [List.lookup_cons] at h
  split at h
  · rename_i e
    have e' : g' = g := by simpa using e
    subst e'
    cases h
    exact ⟨.int i, _, h1, ⟨t, rfl⟩, fun _ => .int i⟩
  · exact h2 g' x h
def MthX (P : Program) (w : World) (K : PySem.W.Frag) (mg : Str → Option Value) (base : Heap) (k : Nat) (C : Addr) (m : Str) (fs : FS) : Prop :=
  ∃ f fd ps, Meth K C m f ∧ FnG P w K mg base (L2.CX P w) k f fd ps (spX K mg fs.md fs.F) ∧ Binds K fd ps []
theorem MthX.mono {C : Addr} {m : Str} {fs : FS} {j k : Nat} (h : MthX P w K mg base j C m fs) (hjk : j ≤ k) : MthX P w K mg base k C m fs := by
  obtain ⟨f, fd, ps, h1, h2, h3⟩ := h
  exact ⟨f, fd, ps, h1, h2.mono hjk, h3⟩
end
structure Alike (P P' : List Stn) (es : List Nat) : Prop where
  len : P'.length = P.length
  at_ : ∀ (k : Nat) s, P[k]? = some s → ∃ s', P'[k]? = some s' ∧ s'.x = s.x ∧ s'.l = s.l ∧ (k ∈ es → s'.w = s.w) ∧ -(10 ^ 30) ≤ s'.w ∧ s'.w ≤ 10 ^ 30
theorem Alike.back {P P' : List Stn} {es : List Nat} (al : Alike P P' es) {k : Nat} {s' : Stn} (h : P'[k]? = some s') : ∃ s, P[k]? = some s ∧ s'.x = s.x ∧ s'.l = s.l ∧ (k ∈ es → s'.w = s.w) ∧ -(10 ^ 30) ≤ s'.w ∧ s'.w ≤ 10 ^ 30 := by
  have hk := (List.getElem?_eq_some_iff.mp h).1
  rw [al.len] at hk
  have hs : P[k]? = some P[k] := List.getElem?_eq_getElem hk
  obtain ⟨t, h1, h2⟩ := al.at_ k _ hs
  rw [h] at h1
  cases h1
  exact ⟨_, hs, h2⟩
theorem Alike.lv {P P' : List Stn} {es : List Nat} {fs : List Int} (al : Alike P P' es) (lv : Lv P fs) : Lv P' fs := by
  refine ⟨by rw [al.len]; exact lv.len, lv.bd, fun k s' h c hc => ?_⟩
  obtain ⟨s, h1, _, h3, _⟩ := al.back h
  rw [h3] at hc
  exact lv.up k s h1 c hc
/-- small data: w bounds its size, n its depth -/
structure Sm (w n : Nat) (d : PyData) : Prop where
  lay : d.canLay0 = true
  dep : d.depth ≤ n
  sho : d.showable = true
  lv : d.leavesShort 70 = true
  wt : d.bulk ≤ w
/-- what repr asks -/
structure RpO (x : PyData) : Prop where
  lay : x.canLay0 = true
  dep : x.depth ≤ 64
  sho : x.showable = true
  len : x.shown.length ≤ sizeLine
theorem Sm.mono {w n w' n' : Nat} {d : PyData} (h : Sm w n d) (hw : w ≤ w') (hn : n ≤ n') : Sm w' n' d := ⟨h.lay, Nat.le_trans h.dep hn, h.sho, h.lv, Nat.le_trans h.wt hw⟩
theorem Sm.rp {w n : Nat} {d : PyData} (h : Sm w n d) (hn : n ≤ 64) (hw : w ≤ 100000) : RpO d := by
  refine ⟨h.lay, Nat.le_trans h.dep hn, h.sho, ?_⟩
  have e := PyData.shown_le_bulk 70 (by decide) d h.lv
  have hs : sizeLine > 10000000 := by decide
  have := h.wt
  omega
theorem Sm.shp {w n : Nat} {d : PyData} (h : Sm w n d) : shp n d := ⟨h.lay, h.dep⟩
theorem Sm.shaped {w n : Nat} {d : PyData} (h : Sm w n d) (hn : n ≤ 64) : SeqAt.shaped d = true := h.shp.shaped hn
theorem log2_lt' {n k : Nat} (h : n < 2 ^ k) (hk : 0 < k) : n.log2 < k := by
  by_cases e : n = 0
  · subst e; simpa using hk
  · exact (Nat.log2_lt e).mpr h
theorem sm_int {i : Int} (h : i.natAbs < 10 ^ 60) : Sm 0 0 (.int i) := by
  refine ⟨by rw [PyData.canLay0], by rw [PyData.depth]; exact Nat.le_refl _, ?_, ?_, by rw [PyData.bulk]; exact Nat.le_refl _⟩
  · rw [PyData.showable]
    have h2 : (10 : Nat) ^ 60 < 2 ^ 200 := by decide
    have := log2_lt' (n := i.natAbs) (k := 200) (by omega) (by decide)
    exact decide_eq_true (by omega)
  · rw [PyData.leavesShort]
    have e := int_text_length_le10 (k := 60) (by decide) h
    refine decide_eq_true ?_
    show (Str.ofString (toString i)).length ≤ 70
    rw [PySem.ofString_length]
    omega
theorem sm_all {w n : Nat} : ∀ {xs : List PyData}, (∀ x ∈ xs, Sm w n x) → PyData.canLayAll0 xs = true ∧ PyData.depthAll xs ≤ n ∧ PyData.showableAll xs = true ∧ PyData.leavesShortAll 70 xs = true ∧ PyData.bulkAll xs ≤ (w + 1) * xs.length
  | [], _ => ⟨rfl, by rw [PyData.depthAll]; exact Nat.zero_le _, rfl, rfl, Nat.zero_le _⟩
  | x :: xs, h => by
    have h1 := h x (by simp)
    obtain ⟨a, b, c, d, e⟩ := sm_all (xs := xs) fun y hy => h y (List.mem_cons_of_mem _ hy)
    refine ⟨by rw [PyData.canLayAll0, h1.lay, a]; rfl, ?_, by rw [PyData.showableAll, h1.sho, c]; rfl, by rw [PyData.leavesShortAll, h1.lv, d]; rfl, ?_⟩
    · rw [PyData.depthAll]
      exact Nat.max_le.mpr ⟨h1.dep, b⟩
    · rw [PyData.bulkAll, List.length_cons, Nat.mul_add]
      have := h1.wt
      omega
theorem sm_list {w n m : Nat} {xs : List PyData} (h : ∀ x ∈ xs, Sm w n x) (hl : xs.length ≤ m) : Sm ((w + 1) * m) (n + 1) (.list xs) := by
  obtain ⟨a, b, c, d, e⟩ := sm_all h
  exact ⟨by rw [PyData.canLay0]; exact a, by rw [PyData.depth]; omega, by rw [PyData.showable]; exact c, by rw [PyData.leavesShort]; exact d, by rw [PyData.bulk]; exact Nat.le_trans e (Nat.mul_le_mul_left _ hl)⟩
theorem sm_tup {w n m : Nat} {xs : List PyData} (h : ∀ x ∈ xs, Sm w n x) (hl : xs.length ≤ m) : Sm ((w + 1) * m) (n + 1) (.tuple xs) := by
  obtain ⟨a, b, c, d, e⟩ := sm_all h
  exact ⟨by rw [PyData.canLay0]; exact a, by rw [PyData.depth]; omega, by rw [PyData.showable]; exact c, by rw [PyData.leavesShort]; exact d, by rw [PyData.bulk]; exact Nat.le_trans e (Nat.mul_le_mul_left _ hl)⟩
local macro_rules | `(tactic| walk_at "vc") => `(tactic| first | with_reducible rfl | assumption | exact Nat.zero_le _ | exact noTup_md _ _ | exact Nat.le_of_ble_eq_true rfl | omega | rfl | trivial | focus (simp only [mkTup, T.leaves, T.noTup, T.noTupl, Kd.isTup, noTupl_md, noTupl_iT, noTupl_kids, PT, KT, Pool, kidT, Bool.not_false, Bool.and_self] <;> fail) | focus (refine ⟨?_, ?_⟩ <;> omega) | exact (fun _ => rfl) | focus (simp only [List.length_append, List.length_map, List.length_cons, List.length_nil, List.length_reverse]; omega))
mutual
theorem layE_of : ∀ {d : PyData}, d.canLay0 = true → layE d = true
  | .none, _ => rfl
  | .bool _, _ => rfl
  | .int _, _ => rfl
  | .str _, _ => rfl
  | .list xs, h => by rw [layE]; exact layEs_of (by simpa [PyData.canLay0] using h)
  | .tuple xs, h => by rw [layE]; exact layEs_of (by simpa [PyData.canLay0] using h)
  | .dict kvs, h => by simp [PyData.canLay0] at h
theorem layEs_of : ∀ {ds : List PyData}, PyData.canLayAll0 ds = true → layEs ds = true
  | [], _ => rfl
  | d :: ds, h => by
    simp only [PyData.canLayAll0, Bool.and_eq_true] at h
    rw [layEs, layE_of h.1, layEs_of h.2]
    rfl
end
/-- small data whose dicts are all empty -/
structure SmE (w n : Nat) (d : PyData) : Prop where
  lay : layE d = true
  dep : d.depth ≤ n
  sho : d.showable = true
  lv : d.leavesShort 70 = true
  wt : d.bulk ≤ w
theorem Sm.e {w n : Nat} {d : PyData} (h : Sm w n d) : SmE w n d := ⟨layE_of h.lay, h.dep, h.sho, h.lv, h.wt⟩
theorem SmE.mono {w n w' n' : Nat} {d : PyData} (h : SmE w n d) (hw : w ≤ w') (hn : n ≤ n') : SmE w' n' d := ⟨h.lay, Nat.le_trans h.dep hn, h.sho, h.lv, Nat.le_trans h.wt hw⟩
theorem SmE.len {w n : Nat} {d : PyData} (h : SmE w n d) (hw : w ≤ 100000) : d.shown.length ≤ sizeLine := by
  have e := PyData.shown_le_bulk 70 (by decide) d h.lv
  have hs : sizeLine > 10000000 := by decide
  have := h.wt
  omega
def n_look_at_play : List Str := ["thing", "number", "stand", "many", "far"]
def b_look_at_play : List S := [.ife (.or (.not (.isi (.var 0) "list")) (.not (.chain .le .le (.k (.int 1)) (.blt .len [.var 0]) (.glob "MOST_STANDS")))) [.rse] [], .for_ [1, 2] .enum [.var 0] [.ife (.not (.call "is_stand" [.var 2, .var 1, .blt .len [.var 0]])) [.rse] []], .for_ [1, 3] .enum [.call "led_to" [.var 0]] [.ife (.and (.cmp .gt (.var 1) (.k (.int 0))) (.cmp .eq (.var 3) (.k (.int 0)))) [.rse] []], .for_ [1, 4] .enum [.call "farthest" [.var 0]] [.ife (.cmp .gt (.var 4) (.glob "MOST_STEPS")) [.rse] []]]
def n_law_other : List Str := ["_law_pool_here", "_law_play_here", "_law_at", "_law_stand", "_law_number", "_law_led", "_law_other_here", "_law_one", "_law_steps", "_law_step"]
def b_law_other : List S := [.asg 2 (.call "_law_take" [.var 0, .blt .len [.var 1]]), .asg 3 (.ix (.var 1) (.var 2)), .asg 4 (.ix (.lst [.bin .add (.ix (.var 3) (.neg (.k (.int 1)))) (.k (.int 1)), .bin .sub (.ix (.var 3) (.neg (.k (.int 1)))) (.k (.int 1))]) (.blt .int [.cmp .eq (.ix (.var 3) (.neg (.k (.int 1)))) (.bin .pow (.k (.int 10)) (.k (.int 30)))])), .ife (.or (.cmp .eq (.ix (.var 3) (.k (.int 0))) (.k (.str "end"))) (.cmp .eq (.call "_law_take" [.var 0, .k (.int 2)]) (.k (.int 0)))) [.ret (.bin .add (.bin .add (.sl false true (.var 1) [.var 2]) (.lst [.bin .add (.sl false true (.var 3) [.neg (.k (.int 1))]) (.tup [.var 4])])) (.sl true false (.var 1) [.bin .add (.var 2) (.k (.int 1))]))] [], .asg 5 (.lst []), .for_ [6] .e [.var 1] [.ife (.cmp .ne (.ix (.var 6) (.k (.int 0))) (.k (.str "end"))) [.asg 5 (.bin .add (.var 5) (.blt .list [.ix (.var 6) (.k (.int 1))]))] []], .asg 7 (.ix (.ix (.var 3) (.k (.int 1))) (.call "_law_take" [.var 0, .blt .len [.ix (.var 3) (.k (.int 1))]])), .asg 8 (.blt .tuple [.lc [9] false (.var 9) .e [.ix (.var 3) (.k (.int 1))] [.cmp .ne (.var 9) (.var 7)]]), .ife (.or (.cmp .eq (.var 8) (.tup [])) (.cmp .lt (.mth .count (.var 5) [.var 7]) (.k (.int 2)))) [.ret (.bin .add (.bin .add (.sl false true (.var 1) [.var 2]) (.lst [.bin .add (.sl false true (.var 3) [.neg (.k (.int 1))]) (.tup [.var 4])])) (.sl true false (.var 1) [.bin .add (.var 2) (.k (.int 1))]))] [], .ret (.bin .add (.bin .add (.sl false true (.var 1) [.var 2]) (.lst [.tup [.ix (.var 3) (.k (.int 0)), .var 8, .ix (.var 3) (.k (.int 2))]])) (.sl true false (.var 1) [.bin .add (.var 2) (.k (.int 1))]))]
def n_law_back : List Str := ["_law_play_here", "_law_text"]
def b_law_back : List S := [.ife (.or (.cmp .isnot (.call "look_at_play" [.var 0]) (.k .none)) (.cmp .ne (.rpr (.call "read" [.var 1])) (.rpr (.var 0)))) [.ret (.k (.bool false))] [], .ret (.cmp .eq (.call "shown" [.call "read" [.var 1]]) (.var 1))]
def n_law : List Str := ["_law_script", "_law_play_here", "_law_text", "_law_rows", "_law_k", "_law_other_here", "_law_later", "_law_apart", "_law_lines", "_law_changed", "_law_at"]
def b_law : List S := [.asg 1 (.frz (.call "_law_play" [.var 0, .k (.int 180), .k (.bool true)])), .asg 2 (.call "shown" [.var 1]), .asg 3 (.spl (.var 2) (.k (.str "\n"))), .ife (.or (.not (.call "_law_back" [.var 1, .var 2])) (.cmp .ne (.blt .len [.var 3]) (.blt .len [.var 1]))) [.ret (.k (.bool false))] [], .for_ [4] .rng1 [.k (.int 30)] [.asg 5 (.call "_law_other" [.call "_law_pool" [.var 0, .bin .add (.k (.int 90)) (.var 4)], .var 1]), .asg 6 (.call "shown" [.var 5]), .ife (.or (.not (.call "_law_back" [.var 5, .var 6])) (.cmp .ne (.blt .len [.spl (.var 6) (.k (.str "\n"))]) (.blt .len [.var 1]))) [.ret (.k (.bool false))] [], .asg 7 (.lc [10] false (.var 10) .rng1 [.blt .len [.var 1]] [.cmp .ne (.ix (.var 1) (.var 10)) (.ix (.var 5) (.var 10))]), .asg 8 (.spl (.var 6) (.k (.str "\n"))), .asg 9 (.lc [10] false (.var 10) .rng1 [.blt .len [.var 1]] [.cmp .ne (.ix (.var 8) (.var 10)) (.ix (.var 3) (.var 10))]), .ife (.or (.cmp .eq (.var 7) (.lst [])) (.cmp .ne (.var 9) (.var 7))) [.ret (.k (.bool false))] []], .ret (.cmp .eq (.call "shown" [.var 1]) (.var 2))]
end VL
namespace VL
open PySem PySem.Spec PyProof.Rows L2 TL
/-- the text of a number -/
abbrev figs (n : Int) : Str := Str.ofString (toString n)
theorem tl_figs (n : Nat) : tl (figs (n : Int)) = numL n := tl_num n
theorem tl_figsNeg (n : Nat) (h : 0 < n) : tl (figs (-(n : Int))) = 45 :: numL n := by
  obtain ⟨m, rfl⟩ : ∃ m, n = m + 1 := ⟨n - 1, by omega⟩
  have e : toString (-((m + 1 : Nat) : Int)) = "-" ++ toString ((m + 1 : Nat) : Int) := rfl
  rw [figs, e, tl_ofString, String.toList_append, List.map_append]
  have := tl_num (m + 1)
  rw [tl_ofString] at this
  rw [this]
  rfl
theorem tl_figsI (n : Int) : tl (figs n) = (if n < 0 then [45] else []) ++ numL n.natAbs := by
  by_cases h : n < 0
  · rw [if_pos h]
    have := tl_figsNeg n.natAbs (by omega)
    rw [show -(n.natAbs : Int) = n by omega] at this
    rw [this]
    rfl
  · rw [if_neg h]
    have := tl_figs n.natAbs
    rw [show (n.natAbs : Int) = n by omega] at this
    rw [this]
    rfl
theorem numL_head (m : Nat) (h : 0 < m) : ∃ d r, numL m = d :: r ∧ d ≠ 48 := by
  induction m using Nat.strongRecOn with
  | _ m ih =>
    by_cases h10 : m < 10
    · exact ⟨48 + m, [], numL_lt h10, by omega⟩
    · obtain ⟨d, r, e, hd⟩ := ih (m / 10) (by omega) (by omega)
      refine ⟨d, r ++ [48 + m % 10], ?_, hd⟩
      rw [numL_step (by omega), e]
      rfl
theorem numL_zero : numL 0 = [48] := numL_lt (by decide)
/-- a number of at most 31 figures -/
abbrev Nm (n : Int) : Prop := n.natAbs < 10 ^ 31
theorem Nm.len {n : Int} (h : Nm n) : (numL n.natAbs).length ≤ 31 := numL_len (by decide) h
theorem figs_len {n : Int} (h : Nm n) : (figs n).length ≤ 32 := by
  have := h.len
  rw [len_tl, tl_figsI, List.length_append]
  split <;> simp <;> omega
theorem figs_free {n : Int} {c : Nat} (h : c < 45 ∨ 57 < c) : c ∉ tl (figs n) := by
  rw [tl_figsI, List.mem_append]
  rintro (z | z)
  · split at z
    · rw [List.mem_singleton] at z; omega
    · cases z
  · exact numL_free (by omega) z
/-- the words of a stand's row -/
def Stn.words (s : Stn) : List Str := if s.l = [] then ["end", figs s.w] else s.x :: figs s.w :: s.l.map figs
def Stn.row (s : Stn) : Str := Txt.join " " s.words
def textS (P : List Stn) : Str := Txt.join "\n" (P.map Stn.row)
theorem joinL_mem {S : List Nat} {c : Nat} : ∀ {ps : List (List Nat)}, c ∈ joinL S ps → c ∈ S ∨ ∃ p ∈ ps, c ∈ p
  | [], h => by cases h
  | [p], h => .inr ⟨p, List.mem_singleton.mpr rfl, h⟩
  | p :: q :: r, h => by
    rw [joinL] at h
    rcases List.mem_append.mp h with z | z
    · exact .inr ⟨p, List.mem_cons_self .., z⟩
    · rcases List.mem_append.mp z with y | y
      · exact .inl y
      · rcases joinL_mem y with x | ⟨p', h1, h2⟩
        · exact .inl x
        · exact .inr ⟨p', List.mem_cons_of_mem _ h1, h2⟩
theorem joinL_len {S : List Nat} : ∀ ps : List (List Nat), (joinL S ps).length ≤ (ps.map List.length).sum + ps.length * S.length
  | [] => by simp [joinL]
  | [p] => by simp [joinL]
  | p :: q :: r => by
    have := joinL_len (S := S) (q :: r)
    rw [joinL, List.length_append, List.length_append, List.map_cons, List.sum_cons, List.length_cons, Nat.succ_mul]
    omega
theorem sum_le_mul {l : List Nat} {b : Nat} (h : ∀ x ∈ l, x ≤ b) : l.sum ≤ l.length * b := by
  induction l with
  | nil => simp
  | cons x r ih =>
    have h1 := h x (List.mem_cons_self ..)
    have h2 := ih fun y hy => h y (List.mem_cons_of_mem _ hy)
    rw [List.sum_cons, List.length_cons, Nat.succ_mul]
    omega
theorem tl_join2 (y : Str) (ps : List Str) : tl (Txt.join y ps) = joinL (tl y) (ps.map tl) := by rw [join_eq, tl_join]
/-- a stand whose text can be told -/
structure StOk (s : Stn) : Prop where
  hand : s.x = "high" ∨ s.x = "low"
  w : Nm s.w
  l : ∀ c ∈ s.l, Nm c
  few : s.l.length ≤ 412
theorem StOk.word {s : Stn} (h : StOk s) : ∀ p ∈ s.words, p.length ≤ 32 ∧ ∀ c ∈ tl p, 45 ≤ c := by
  have hf : ∀ n : Int, Nm n → (figs n).length ≤ 32 ∧ ∀ c ∈ tl (figs n), 45 ≤ c := fun n hn => ⟨figs_len hn, fun c hc => Nat.le_of_not_lt fun z => figs_free (.inl z) hc⟩
  intro p hp
  unfold Stn.words at hp
  split at hp
  · rcases List.mem_cons.mp hp with rfl | hp
    · exact ⟨by decide, by decide⟩
    · rw [List.mem_singleton.mp hp]
      exact hf _ h.w
  · rcases List.mem_cons.mp hp with rfl | hp
    · rcases h.hand with z | z <;> rw [z] <;> exact ⟨by decide, by decide⟩
    · rcases List.mem_cons.mp hp with rfl | hp
      · exact hf _ h.w
      · obtain ⟨c, hc, rfl⟩ := List.mem_map.mp hp
        exact hf _ (h.l c hc)
theorem words_ne (s : Stn) : s.words ≠ [] := by
  unfold Stn.words
  split <;> simp
theorem StOk.many {s : Stn} (h : StOk s) : s.words.length ≤ 414 := by
  have := h.few
  unfold Stn.words
  split <;> simp <;> omega
theorem StOk.split {s : Stn} (h : StOk s) : Txt.split s.row " " = s.words := by
  refine split_join (y := " ") (s := 32) (S := []) rfl (by decide +kernel) (words_ne s) fun p hp hc => ?_
  have := (h.word p hp).2 32 hc
  omega
theorem StOk.sum {s : Stn} (h : StOk s) : (s.words.map (·.length)).sum + s.words.length * 1 ≤ 13662 := by
  have h1 := sum_le_mul (l := s.words.map (·.length)) (b := 32) fun x hx => by
    obtain ⟨p, hp, rfl⟩ := List.mem_map.mp hx
    exact (h.word p hp).1
  have h2 := h.many
  rw [List.length_map] at h1
  have : s.words.length * 32 ≤ 414 * 32 := Nat.mul_le_mul_right _ h2
  omega
theorem StOk.rowlen {s : Stn} (h : StOk s) : s.row.length ≤ 13662 := by
  have h1 := joinL_len (S := tl (" " : Str)) (s.words.map tl)
  have h2 := h.sum
  have e : (s.words.map tl).map List.length = s.words.map (·.length) := by
    rw [List.map_map]
    exact List.map_congr_left fun p _ => (len_tl p).symm
  rw [e, List.length_map] at h1
  have e2 : s.row.length = (joinL (tl (" " : Str)) (s.words.map tl)).length := by rw [len_tl, Stn.row, tl_join2]
  have e3 : (tl (" " : Str)).length = 1 := rfl
  rw [e3] at h1
  omega
theorem StOk.free {s : Stn} (h : StOk s) : 10 ∉ tl s.row := by
  rw [Stn.row, tl_join2]
  intro z
  rcases joinL_mem z with y | ⟨p, hp, hc⟩
  · revert y; decide
  · obtain ⟨q, hq, rfl⟩ := List.mem_map.mp hp
    have := (h.word q hq).2 10 hc
    omega
theorem text_split {P : List Stn} (hne : P ≠ []) (h : ∀ s ∈ P, StOk s) : Txt.split (textS P) "\n" = P.map Stn.row := by
  refine split_join (y := "\n") (s := 10) (S := []) rfl (by decide +kernel) (by simpa using hne) fun p hp => ?_
  obtain ⟨s, hs, rfl⟩ := List.mem_map.mp hp
  exact (h s hs).free
theorem text_sum {P : List Stn} (hl : P.length ≤ 400) (h : ∀ s ∈ P, StOk s) : ((P.map Stn.row).map (·.length)).sum + (P.map Stn.row).length * 1 ≤ 5465200 := by
  have h1 := sum_le_mul (l := (P.map Stn.row).map (·.length)) (b := 13662) fun x hx => by
    obtain ⟨p, hp, rfl⟩ := List.mem_map.mp hx
    obtain ⟨s, hs, rfl⟩ := List.mem_map.mp hp
    exact (h s hs).rowlen
  rw [List.length_map, List.length_map] at h1
  have : P.length * 13662 ≤ 400 * 13662 := Nat.mul_le_mul_right _ hl
  rw [List.length_map]
  omega
theorem text_len {P : List Stn} (hl : P.length ≤ 400) (h : ∀ s ∈ P, StOk s) : (textS P).length ≤ 5465200 := by
  have h1 := joinL_len (S := tl ("\n" : Str)) ((P.map Stn.row).map tl)
  have h2 := text_sum hl h
  have e : ((P.map Stn.row).map tl).map List.length = (P.map Stn.row).map (·.length) := by
    rw [List.map_map]
    exact List.map_congr_left fun p _ => (len_tl p).symm
  rw [e, List.length_map] at h1
  have e2 : (textS P).length = (joinL (tl ("\n" : Str)) ((P.map Stn.row).map tl)).length := by rw [len_tl, textS, tl_join2]
  have e3 : (tl ("\n" : Str)).length = 1 := rfl
  rw [e3] at h1
  omega
theorem StOk.end_row {s : Stn} (h : s.l = []) : (("end " : Str) ++ figs s.w) = s.row := by
  apply ext_tl
  rw [tl_append, Stn.row, tl_join2, Stn.words, if_pos h]
  rfl
end VL
set_option maxHeartbeats 1000000
namespace VL
open PySem PySem.Spec PyProof.Rows L2 TL
theorem set_get {P : List Stn} {k i : Nat} {s' t : Stn} (h : (P.set k s')[i]? = some t) : (i = k ∧ t = s') ∨ (i ≠ k ∧ P[i]? = some t) := by
  by_cases z : i = k
  · subst z
    rw [List.getElem?_set_self'] at h
    obtain ⟨a, ha, hb⟩ := Option.map_eq_some_iff.mp h
    exact .inl ⟨rfl, hb.symm⟩
  · rw [List.getElem?_set_ne (by omega)] at h
    exact .inr ⟨z, h⟩
theorem PX.setS {P : List Stn} {k : Nat} {s s' : Stn} (px : PX P) (hk : P[k]? = some s) (hx : s'.x = s.x) (h1 : -(10 ^ 30) ≤ s'.w) (h2 : s'.w ≤ 10 ^ 30) (hsub : s'.l.Sublist s.l)
    (hled : ∀ c ∈ s.l, c ∈ s'.l ∨ ∃ (j : Nat) (t : Stn), j ≠ k ∧ P[j]? = some t ∧ c ∈ t.l) : PX (P.set k s') := by
  have hkl : k < P.length := (List.getElem?_eq_some_iff.mp hk).1
  have hms : s ∈ P := List.mem_of_getElem? hk
  have hset : (P.set k s')[k]? = some s' := by rw [List.getElem?_set_self hkl]
  refine ⟨⟨?_, ?_, ?_, ?_, ?_, ?_⟩, ?_, ?_, ?_, ?_⟩
  · rw [List.length_set]; exact px.pos
  · intro t ht
    rcases List.mem_or_eq_of_mem_set ht with z | rfl
    · exact px.hand t z
    · rw [hx]; exact px.hand s hms
  · intro i t hi c hc
    rw [List.length_set]
    rcases set_get hi with ⟨rfl, rfl⟩ | ⟨_, h⟩
    · exact px.up i s hk c (hsub.subset hc)
    · exact px.up i t h c hc
  · intro t ht
    rw [List.length_set]
    rcases List.mem_or_eq_of_mem_set ht with z | rfl
    · exact px.few t z
    · have := px.few s hms
      have := hsub.length_le
      omega
  · intro t ht
    rcases List.mem_or_eq_of_mem_set ht with z | rfl
    · exact px.low t z
    · exact h1
  · intro t ht
    rcases List.mem_or_eq_of_mem_set ht with z | rfl
    · exact px.high t z
    · exact h2
  · intro i hi hl
    rw [List.length_set] at hl
    obtain ⟨j, t, hj, hc⟩ := px.led i hi hl
    by_cases z : j = k
    · subst z
      rw [hk] at hj
      cases hj
      rcases hled _ hc with y | ⟨j2, t2, hne, hj2, hc2⟩
      · exact ⟨j, s', hset, y⟩
      · exact ⟨j2, t2, by rw [List.getElem?_set_ne (by omega)]; exact hj2, hc2⟩
    · exact ⟨j, t, by rw [List.getElem?_set_ne (by omega)]; exact hj, hc⟩
  · intro t ht
    rcases List.mem_or_eq_of_mem_set ht with z | rfl
    · exact px.nd t z
    · exact (px.nd s hms).sublist hsub
  · intro t ht
    rcases List.mem_or_eq_of_mem_set ht with z | rfl
    · exact px.b12 t z
    · exact Nat.le_trans hsub.length_le (px.b12 s hms)
  · obtain ⟨fs, e1, e2, e3⟩ := px.lev
    refine ⟨fs, by rw [List.length_set]; exact e1, e2, fun i t hi c hc => ?_⟩
    rcases set_get hi with ⟨rfl, rfl⟩ | ⟨_, h⟩
    · exact e3 i s hk c (hsub.subset hc)
    · exact e3 i t h c hc
/-- numbers by their texts -/
theorem figs_inj {m n : Int} (h : figs m = figs n) : m = n := by
  have e := congrArg tl h
  rw [tl_figsI, tl_figsI] at e
  have hd : ∀ n : Nat, ∃ d r, numL n = d :: r ∧ 48 ≤ d := fun n => by
    cases hh : numL n with
    | nil => exact absurd hh (numL_ne n)
    | cons d r => exact ⟨d, r, rfl, (numL_digits n d (by rw [hh]; exact List.mem_cons_self ..)).1⟩
  obtain ⟨d, r, e1, hd1⟩ := hd m.natAbs
  obtain ⟨d2, r2, e2, hd2⟩ := hd n.natAbs
  by_cases h1 : m < 0 <;> by_cases h2 : n < 0
  · rw [if_pos h1, if_pos h2] at e
    have := numL_inj (List.cons.inj e).2
    omega
  · rw [if_pos h1, if_neg h2, e2] at e
    have := (List.cons.inj e).1
    omega
  · rw [if_neg h1, if_pos h2, e1] at e
    have := (List.cons.inj e).1
    omega
  · rw [if_neg h1, if_neg h2] at e
    have := numL_inj e
    omega
/-- rows alike are of words alike -/
theorem row_words {s t : Stn} (hs : StOk s) (ht : StOk t) (h : s.row = t.row) : s.words = t.words := by rw [← hs.split, ← ht.split, h]
theorem map_figs_inj : ∀ {l m : List Int}, l.map figs = m.map figs → l = m
  | [], [], _ => rfl
  | [], _ :: _, h => by cases h
  | _ :: _, [], h => by cases h
  | a :: l, b :: m, h => by
    rw [List.map_cons, List.map_cons] at h
    rw [figs_inj (List.cons.inj h).1, map_figs_inj (List.cons.inj h).2]
/-- words alike are of stands alike -/
theorem words_d {s t : Stn} (hs : s.x = "high" ∨ s.x = "low") (ht : t.x = "high" ∨ t.x = "low") (h : s.words = t.words) : s.d = t.d := by
  have he : ("end" : Str) ≠ "high" ∧ ("end" : Str) ≠ "low" := by decide +kernel
  unfold Stn.words at h
  unfold Stn.d
  by_cases h1 : s.l = [] <;> by_cases h2 : t.l = []
  · rw [if_pos h1, if_pos h2] at h ⊢
    rw [figs_inj (List.cons.inj (List.cons.inj h).2).1]
  · rw [if_pos h1, if_neg h2] at h
    have := (List.cons.inj h).1
    rcases ht with z | z <;> rw [z] at this
    · exact absurd this he.1
    · exact absurd this he.2
  · rw [if_neg h1, if_pos h2] at h
    have := (List.cons.inj h).1
    rcases hs with z | z <;> rw [z] at this
    · exact absurd this.symm he.1
    · exact absurd this.symm he.2
  · rw [if_neg h1, if_neg h2] at h ⊢
    have e1 := (List.cons.inj h).1
    have e2 := (List.cons.inj (List.cons.inj h).2)
    rw [e1, figs_inj e2.1, map_figs_inj e2.2]
theorem led_none {c : Int} : ∀ {P : List Stn}, (∀ t ∈ P, c ∉ t.l) → ((P.map Stn.l).flatten).count c = 0
  | [], _ => rfl
  | s :: P, h => by
    rw [List.map_cons, List.flatten_cons, List.count_append, led_none fun t ht => h t (List.mem_cons_of_mem _ ht), List.count_eq_zero_of_not_mem (h s (List.mem_cons_self ..))]
/-- what only one stand leads to is counted once at most -/
theorem led_one {c : Int} : ∀ {P : List Stn} {k : Nat}, (∀ s ∈ P, s.l.Nodup) → (∀ (j : Nat) t, j ≠ k → P[j]? = some t → c ∉ t.l) → ((P.map Stn.l).flatten).count c ≤ 1
  | [], _, _, _ => Nat.zero_le _
  | s :: P, 0, nd, h => by
    rw [List.map_cons, List.flatten_cons, List.count_append, led_none fun t ht => ?_]
    · exact List.nodup_iff_count.mp (nd s (List.mem_cons_self ..)) c
    · obtain ⟨j, hj, rfl⟩ := List.mem_iff_getElem.mp ht
      exact h (j + 1) _ (by omega) (by rw [List.getElem?_cons_succ]; exact List.getElem?_eq_getElem hj)
  | s :: P, k + 1, nd, h => by
    rw [List.map_cons, List.flatten_cons, List.count_append, List.count_eq_zero_of_not_mem (h 0 s (by omega) rfl), Nat.zero_add]
    exact led_one (k := k) (fun t ht => nd t (List.mem_cons_of_mem _ ht)) fun j t hj ht => h (j + 1) t (by omega) (by rw [List.getElem?_cons_succ]; exact ht)
theorem led_two {P : List Stn} {k : Nat} {c : Int} (nd : ∀ s ∈ P, s.l.Nodup) (h : 2 ≤ ((P.map Stn.l).flatten).count c) : ∃ (j : Nat) (t : Stn), j ≠ k ∧ P[j]? = some t ∧ c ∈ t.l := by
  refine Classical.byContradiction fun z => ?_
  have := led_one (k := k) nd fun j t hj ht hc => z ⟨j, t, hj, ht, hc⟩
  omega
end VL
set_option maxHeartbeats 4000000
namespace VL
open PySem PySem.Spec PyProof.Rows L2
def n_shown : List Str := ["play", "rows", "stand", "step"]
def b_shown : List S := [.asg 1 (.lst []), .for_ [2] .e [.var 0] [.ife (.cmp .eq (.ix (.var 2) (.k (.int 0))) (.k (.str "end"))) [.ex (.mth .append (.var 1) [.bin .add (.k (.str "end ")) (.blt .str [.ix (.var 2) (.k (.int 1))])])] [.ex (.mth .append (.var 1) [.jn (.k (.str " ")) (.bin .add (.lst [.ix (.var 2) (.k (.int 0)), .blt .str [.ix (.var 2) (.k (.int 2))]]) (.lc [3] false (.blt .str [.var 3]) .e [.ix (.var 2) (.k (.int 1))] []))])]], .ret (.jn (.k (.str "\n")) (.var 1))]
def n_is_figures : List Str := ["word", "sign"]
def b_is_figures : List S := [.ife (.or (.not (.chain .le .le (.k (.int 1)) (.blt .len [.var 0]) (.glob "MOST_FIGURES"))) (.not (.blt .all [.lc [1] false (.cmp .isin (.var 1) (.glob "FIGURES")) .e [.var 0] []]))) [.ret (.k (.bool false))] [], .ret (.or (.cmp .eq (.var 0) (.k (.str "0"))) (.cmp .ne (.ix (.var 0) (.k (.int 0))) (.k (.str "0"))))]
def n_number_of : List Str := ["word"]
def b_number_of : List S := [.ife (.call "is_figures" [.var 0]) [.ret (.blt .int [.var 0])] [], .ife (.and (.cmp .eq (.sl false true (.var 0) [.k (.int 1)]) (.k (.str "-"))) (.and (.call "is_figures" [.sl true false (.var 0) [.k (.int 1)]]) (.cmp .ne (.var 0) (.k (.str "-0"))))) [.ret (.bin .sub (.k (.int 0)) (.blt .int [.sl true false (.var 0) [.k (.int 1)]]))] [], .ret (.k .none)]
def n_stand_of : List Str := ["row", "words", "numbers", "word"]
def b_stand_of : List S := [.asg 1 (.spl (.var 0) (.k (.str " "))), .asg 2 (.lc [3] false (.call "number_of" [.var 3]) .e [.sl true false (.var 1) [.k (.int 1)]] []), .ife (.or (.cmp .isin (.k .none) (.var 2)) (.or (.cmp .eq (.var 2) (.lst [])) (.not (.call "is_worth" [.ix (.var 2) (.k (.int 0))])))) [.ret (.k .none)] [], .ife (.and (.cmp .eq (.ix (.var 1) (.k (.int 0))) (.k (.str "end"))) (.cmp .eq (.blt .len [.var 2]) (.k (.int 1)))) [.ret (.tup [.k (.str "end"), .ix (.var 2) (.k (.int 0))])] [], .ife (.and (.cmp .isin (.ix (.var 1) (.k (.int 0))) (.glob "HANDS")) (.and (.cmp .gt (.blt .len [.var 2]) (.k (.int 1))) (.cmp .ge (.blt .min [.sl true false (.var 2) [.k (.int 1)]]) (.k (.int 0))))) [.ret (.tup [.ix (.var 1) (.k (.int 0)), .blt .tuple [.sl true false (.var 2) [.k (.int 1)]], .ix (.var 2) (.k (.int 0))])] [], .ret (.k .none)]
def n_read : List Str := ["text", "play", "row"]
def b_read : List S := [.ife (.not (.isi (.var 0) "str")) [.rse] [], .asg 1 (.lc [2] false (.call "stand_of" [.var 2]) .e [.spl (.var 0) (.k (.str "\n"))] []), .ife (.ind false (.k .none) (.var 1)) [.rse] [], .ex (.call "look_at_play" [.var 1]), .ret (.var 1)]
set_option maxHeartbeats 1000000
/-- the first place of a number -/
def posO : List Nat → Nat → Nat
  | [], _ => 0
  | x :: E, e => if x = e then 0 else posO E e + 1
def cutS (P : List Stn) (fs : List Int) (d : Int) (E : List Nat) (e : Nat) : Stn :=
  ⟨(P.getD e ⟨"", [], 0⟩).x, if fs.getD e 0 = d then [] else (P.getD e ⟨"", [], 0⟩).l.map fun c => (posO E c.toNat : Int), (P.getD e ⟨"", [], 0⟩).w⟩
theorem gdi_some {fs : List Int} {i : Nat} {v : Int} (h : (fs.map some)[i]? = some (some v)) : fs[i]? = some v := by
  rw [List.getElem?_map] at h
  obtain ⟨w, h1, h2⟩ := Option.map_eq_some_iff.mp h
  cases h2
  exact h1
theorem gdi_of {fs : List Int} {i : Nat} {v : Int} (h : fs[i]? = some v) : fs.getD i 0 = v := by rw [List.getD_eq_getElem?_getD, h]; rfl
section
variable {P : List Stn} {fs : List Int} {d : Int}
theorem gdi_mem {l : List Int} {i : Nat} (h : i < l.length) : l.getD i 0 ∈ l := by
  rw [List.getD_eq_getElem?_getD, List.getElem?_eq_getElem h]
  exact List.getElem_mem h
end
set_option maxHeartbeats 4000000
section
variable {K : PySem.W.Frag} {mg : Str → Option Value}
theorem gl_two {g : Str} {a : Addr} {d : Option Addr} {n : Nat} {sl : Array (Option Value)} {x y : Str} {t u : Nat} {l : List (Str × PyData)} (h1 : mg g = some (.ref a)) (hk : K.lookup a = some ⟨.type "tuple", d, .seq #[.str x t, .str y u] n, sl⟩) (h2 : ∀ g x, l.lookup g = some x → ∃ v u, mg g = some u ∧ RelV v u ∧ ∀ Hs, Rp K Hs v x) : ∀ g' z, ((g, .tuple [.str x, .str y]) :: l).lookup g' = some z → ∃ v u, mg g' = some u ∧ RelV v u ∧ ∀ Hs, Rp K Hs v z := fun g' z h => by
  rw [List.lookup_cons] at h
  split at h
  · rename_i e
    have e' : g' = g := by simpa using e
    subst e'
    cases h
    refine ⟨.ref a, _, h1, rfl, fun Hs => .tup (xs := [.str x, .str y]) (.inr ⟨_, _, _, hk, rfl, rfl, Nat.le_of_ble_eq_true rfl, ?_⟩) (.cons (.str _) (.cons (.str _) .nil))⟩
    exact .cons ⟨t, rfl⟩ (.cons ⟨u, rfl⟩ .nil)
  · exact h2 g' z h
end
set_option maxHeartbeats 1000000
local macro_rules | `(tactic| walk_at "vc") => `(tactic| first | with_reducible rfl | assumption | exact Nat.zero_le _ | exact noTup_md _ _ | exact Nat.le_of_ble_eq_true rfl | omega | rfl | trivial | focus (simp only [mkTup, T.leaves, T.noTup, T.noTupl, Kd.isTup, noTupl_md, noTupl_iT, noTupl_kids, PT, KT, Pool, kidT, Bool.not_false, Bool.and_self] <;> fail) | focus (refine ⟨?_, ?_⟩ <;> omega) | exact (fun _ => rfl))
local macro_rules | `(tactic| walk_at "vn") => `(tactic| (intro z; first | (with_unfolding_all exact Bool.noConfusion (show false = true from z)) | (with_unfolding_all exact Bool.noConfusion (show true = false from z)) | (focus (refine absurd z ?_; first | decide | (simp only [Bool.not_eq_true', Bool.not_eq_false', decide_eq_true_eq, decide_eq_false_iff_not, List.length_map, iT_len]; omega) | (simp <;> fail)))))
local macro_rules | `(tactic| walk_at "v1") => `(tactic| ((conv => whnf); (with_reducible refine And.intro ?_ ?_); first | (walk_at "vn"; try (with_reducible intro _)) | (rotate_left; walk_at "vn"; (with_reducible intro _)) | (with_unfolding_all walk_at "vc")))
local macro_rules | `(tactic| walk_at "v") => `(tactic| ((repeat walk_at "v1"); conv => whnf))
local macro_rules | `(tactic| row_has $h) => `(tactic| (rw [$h:ident]; walk_at "v"))
local macro_rules | `(tactic| walk_at "vs") => `(tactic| (refine holdW ?_; walk_at "v"))
local macro_rules | `(tactic| walk_at "vu") => `(tactic| refine unholdW ?_)
abbrev F_is_worthG : List T → (T → List T → Prop) → Prop := fun ts Q => ∃ w : Int, ts = [.d (.int w)] ∧ -(10 ^ 30) ≤ w ∧ w ≤ 10 ^ 30 ∧ Q (.d (.bool true)) [.dead]
abbrev fsIsWorthG : FS := ⟨[.bor], F_is_worthG⟩
def Gm_is_worth : Ctx := { fn := [("is_whole", fsIsWhole)], glob := [("GREATEST", .int 1000000000000000000000000000000)], bs := ["abs"], pin := [], cls := [] }
theorem w_is_worthG : bodyW Gm_is_worth n_is_worth [.bor] b_is_worth F_is_worthG := by
  intro ts Q h _
  obtain ⟨w, rfl, h1, h2, q⟩ := h
  show wSs Gm_is_worth b_is_worth _ [.d (.int w)]
  refine holdW ?_
  walk_at "v"
  refine ⟨_, rfl, rfl, fun z => (by cases z), ?_⟩
  walk_at "v"
  rw [show decide ((if w < 0 then -w else w) ≤ 1000000000000000000000000000000) = true from decide_eq_true (by split <;> omega)]
  exact q
abbrev F_are_stepsG : List T → (T → List T → Prop) → Prop := fun ts Q => ∃ (l : List Int) (k n : Nat), ts = [.d (.tuple (l.map .int)), .d (.int (k : Nat)), .d (.int (n : Nat))] ∧ l ≠ [] ∧ l.length ≤ 12 ∧ l.Nodup ∧ (∀ c ∈ l, (k : Int) < c ∧ c < (n : Nat)) ∧ Q (.d (.bool true)) [.dead, .dead, .dead]
abbrev fsAreStepsG : FS := ⟨[.bor, .bor, .bor], F_are_stepsG⟩
def Gm_are_steps : Ctx := { fn := [("is_whole", fsIsWhole)], glob := [("MOST_BOUGHS", .int 12)], bs := ["isinstance", "tuple", "len", "enumerate"], pin := [], cls := [] }
theorem w_are_stepsG : bodyW Gm_are_steps n_are_steps [.bor, .bor, .bor] b_are_steps F_are_stepsG := by
  intro ts Q h _
  obtain ⟨l, k, n, rfl, hne, hl, hn, hup, q⟩ := h
  have hsl : sizeLine > 10000000 := by decide
  have hll : (l.map PyData.int).length = l.length := List.length_map _
  have hpos : 0 < l.length := List.length_pos_iff.mpr hne
  show wSs Gm_are_steps b_are_steps _ [.d (.tuple (l.map .int)), .d (.int (k : Nat)), .d (.int (n : Nat)), .dead, .dead]
  walk_at "vs"
  walk_at "vu"
  show wSs Gm_are_steps (b_are_steps.drop 1) _ [.d (.tuple (l.map .int)), .d (.int (k : Nat)), .d (.int (n : Nat)), .dead, .dead]
  refine holdW ?_
  (conv => whnf); refine ⟨rfl, ?_⟩
  conv => whnf
  rw [enumL_eq, List.length_map]
  refine forW_all (l := (List.range l.length).map fun k => PyData.tuple [.int (k : Nat), (l.map PyData.int).getD k .none]) (fun σ => ∃ x3 x4, σ = [.d (.tuple (l.map .int)), .d (.int (k : Nat)), .d (.int (n : Nat)), x3, x4]) ?_ ?_ ⟨_, _, rfl⟩
  · rintro σ ⟨x3, x4, rfl⟩
    walk_at "vu"
    walk_at "v"
    exact q
  · rintro x hx σ N hN - - - ⟨x3, x4, rfl⟩
    obtain ⟨m, hm, rfl⟩ := List.mem_map.mp hx
    have hm := List.mem_range.mp hm
    have hc : l[m]? = some l[m] := List.getElem?_eq_getElem hm
    have e1 : (l.map PyData.int).getD m .none = .int l[m] := by rw [List.getD_eq_getElem?_getD, List.getElem?_map, hc]; rfl
    rw [e1]
    have hcu := hup _ (List.getElem_mem hm)
    have hnt : l[m] ∉ l.take m := by
      intro z
      obtain ⟨i, hi, e⟩ := List.mem_iff_getElem.mp z
      rw [List.length_take] at hi
      rw [List.getElem_take] at e
      have := (List.getElem_inj (h₀ := by omega) (h₁ := hm) hn).mp e
      omega
    generalize l[m] = c at hc hcu hnt
    walk_at "v"
    refine ⟨_, rfl, rfl, fun z => (by cases z), ?_⟩
    have hlt := hcu.1
    have hlt2 := hcu.2
    walk_at "v"
    rw [cutL_to (by rw [List.length_map]; omega), ← List.map_take]
    have hany : ((l.take m).map PyData.int).any (fun z => PyData.eqv z (.int c)) = false := by
      rw [List.any_eq_false]
      intro x hx
      obtain ⟨i, hi, rfl⟩ := List.mem_map.mp hx
      simp only [PyData.eqv, beq_iff_eq]
      intro z
      exact hnt (by rw [← z]; exact hi)
    refine ⟨List.all_eq_true.mpr fun x hx => by obtain ⟨i, _, rfl⟩ := List.mem_map.mp hx; rfl, ?_⟩
    rw [hany]
    walk_at "v"
    exact hN _ ⟨_, _, rfl⟩
abbrev F_is_standG : List T → (T → List T → Prop) → Prop := fun ts Q => ∃ (P : List Stn) (k : Nat) (s : Stn), ts = [.d s.d, .d (.int (k : Nat)), .d (.int (P.length : Nat))] ∧ PX P ∧ P[k]? = some s ∧ Q (.d (.bool true)) [.dead, .dead, .dead]
abbrev fsIsStandG : FS := ⟨[.bor, .bor, .bor], F_is_standG⟩
def Gm_is_stand : Ctx := { fn := [("is_worth", fsIsWorthG), ("are_steps", fsAreStepsG)], glob := [("HANDS", .tuple [.str "high", .str "low"])], bs := ["isinstance", "tuple", "len", "str"], pin := [], cls := [] }
theorem w_is_standG : bodyW Gm_is_stand n_is_stand [.bor, .bor, .bor] b_is_stand F_is_standG := by
  intro ts Q h _
  obtain ⟨P, k, s, rfl, px, hs, q⟩ := h
  have ok := px.toPOk
  have hm := List.mem_of_getElem? hs
  have hup := ok.up k s hs
  have h12 := px.b12 s hm
  have hnd := px.nd s hm
  have hlo := ok.low s hm
  have hhi := ok.high s hm
  have hsl : sizeLine > 10000000 := by decide
  by_cases hl : s.l = []
  · rw [Stn.d, if_pos hl]
    show wSs Gm_is_stand b_is_stand _ [.d (.tuple [.str "end", .int s.w]), .d (.int (k : Nat)), .d (.int (P.length : Nat))]
    walk_at "vs"
    walk_at "vu"
    walk_at "vs"
    refine ⟨s.w, rfl, hlo, hhi, fun z => (by cases z), ?_⟩
    walk_at "v"
    exact q
  · rw [Stn.d, if_neg hl]
    have hx : s.x = "high" ∨ s.x = "low" := ok.hand s hm
    show wSs Gm_is_stand b_is_stand _ [.d (.tuple [.str s.x, .tuple (s.l.map .int), .int s.w]), .d (.int (k : Nat)), .d (.int (P.length : Nat))]
    rcases hx with hx | hx
    · rw [hx]
      walk_at "vs"
      walk_at "vu"
      walk_at "vs"
      walk_at "vu"
      walk_at "vs"
      walk_at "vu"
      walk_at "vs"
      refine ⟨s.l, k, P.length, rfl, hl, h12, hnd, hup, fun z => (by cases z), ?_⟩
      walk_at "v"
      refine ⟨s.w, rfl, hlo, hhi, fun z => (by cases z), ?_⟩
      walk_at "v"
      exact q
    · rw [hx]
      walk_at "vs"
      walk_at "vu"
      walk_at "vs"
      walk_at "vu"
      walk_at "vs"
      walk_at "vu"
      walk_at "vs"
      refine ⟨s.l, k, P.length, rfl, hl, h12, hnd, hup, fun z => (by cases z), ?_⟩
      walk_at "v"
      refine ⟨s.w, rfl, hlo, hhi, fun z => (by cases z), ?_⟩
      walk_at "v"
      exact q
theorem sm_PD60 {P : List Stn} (ok : POk P) (hb : ∀ s ∈ P, s.l.length ≤ 12) (hl : P.length ≤ 200) : Sm 20000 5 (PD P) := by
  refine (sm_list (w := 60) (n := 3) (m := 200) (fun x hx => ?_) (by rw [List.length_map]; exact hl)).mono (by omega) (by omega)
  obtain ⟨s, hs, rfl⟩ := List.mem_map.mp hx
  have hl := hb s hs
  have hlo := ok.low s hs
  have hhi := ok.high s hs
  obtain ⟨i, hi, rfl⟩ := List.mem_iff_getElem.mp hs
  have hw : Sm 0 0 (.int P[i].w) := sm_int (by omega)
  unfold Stn.d
  split
  · exact (sm_tup (w := 3) (n := 0) (m := 2) (by
      intro x hx
      simp only [List.mem_cons, List.not_mem_nil, or_false] at hx
      rcases hx with rfl | rfl
      · exact ⟨by decide +kernel, by decide +kernel, by decide +kernel, by decide +kernel, by decide +kernel⟩
      · exact hw.mono (by omega) (Nat.le_refl _)) (Nat.le_refl _)).mono (by omega) (by omega)
  · have hsx : Sm 4 0 (.str P[i].x) := by
      rcases ok.hand _ hs with e | e <;> rw [e] <;> exact ⟨by decide +kernel, by decide +kernel, by decide +kernel, by decide +kernel, by decide +kernel⟩
    have hst : Sm 12 1 (.tuple (P[i].l.map .int)) := (sm_tup (w := 0) (n := 0) (m := 12) (fun x hx => by
      obtain ⟨c, hc, rfl⟩ := List.mem_map.mp hx
      have := ok.up i P[i] (List.getElem?_eq_getElem hi) c hc
      exact sm_int (by omega)) (by rw [List.length_map]; omega)).mono (by omega) (by omega)
    exact (sm_tup (w := 12) (n := 1) (m := 3) (by
      intro x hx
      simp only [List.mem_cons, List.not_mem_nil, or_false] at hx
      rcases hx with rfl | rfl | rfl
      · exact hsx.mono (by omega) (by omega)
      · exact hst
      · exact hw.mono (by omega) (by omega)) (Nat.le_refl _)).mono (by omega) (by omega)
theorem far_le {P : List Stn} {fs : List Int} (px : PX P) (h : FarOk P fs) : ∀ i, fs.getD i 0 ≤ 40 := by
  have hlen : fs.length = P.length := by simpa using h.fe.len
  obtain ⟨gs, g1, g2, g3⟩ := px.lev
  have g0 : ∀ i, i < P.length → gs.getD i 0 ∈ gs := fun i hi => gdi_mem (by omega)
  have key : ∀ n i, i < n → i < P.length → fs.getD i 0 ≤ gs.getD i 0 := by
    intro n
    induction n with
    | zero => intro i h; omega
    | succ n ih =>
      intro i hi hp
      have hb := g2 _ (g0 i hp)
      by_cases z : i = 0
      · subst z
        rw [gdi_of (gdi_some h.fe.zero)]
        exact hb.1
      · rcases h.fe.at_ i (by omega) hp with ⟨h1, _⟩ | ⟨v, h1, ⟨k, u, ⟨_, s, q1, q2⟩, q3, q4⟩, _⟩
        · rw [List.getElem?_map, List.getElem?_eq_getElem (by omega)] at h1
          cases h1
        · have hup := px.up k s q1 _ q2
          have b := g3 k s q1 _ q2
          have c := ih k (by omega) (by omega)
          rw [gdi_of (gdi_some q3)] at c
          rw [Int.toNat_natCast] at b
          rw [gdi_of (gdi_some h1)]
          omega
  intro i
  by_cases hi : i < P.length
  · have := key (i + 1) i (by omega) hi
    have := (g2 _ (g0 i hi)).2
    omega
  · rw [List.getD_eq_getElem?_getD, List.getElem?_eq_none (by omega)]
    decide
abbrev F_look_at_playG : List T → (T → List T → Prop) → Prop := fun ts Q => ∃ (P : List Stn), ts = [.d (PD P)] ∧ PX P ∧ P.length ≤ 400 ∧ Q (.d .none) [.dead]
abbrev fsLookAtPlayG : FS := ⟨[.bor], F_look_at_playG⟩
def Gm_look_at_play : Ctx := { fn := [("is_stand", fsIsStandG), ("led_to", fsLedTo), ("farthest", fsFarthest)], glob := [("MOST_STANDS", .int 400), ("MOST_STEPS", .int 40)], bs := ["len", "isinstance", "list", "enumerate"], pin := [], cls := [] }
theorem w_look_at_playG : bodyW Gm_look_at_play n_look_at_play [.bor] b_look_at_play F_look_at_playG := by
  intro ts Q h _
  obtain ⟨P, rfl, px, hlt, q⟩ := h
  have ok := px.toPOk
  have hpos := ok.pos
  have hPl : (P.map Stn.d).length = P.length := List.length_map _
  have hsl : sizeLine > 10000000 := by decide
  show wSs Gm_look_at_play b_look_at_play _ [.d (PD P), .dead, .dead, .dead, .dead]
  walk_at "vs"
  walk_at "vu"
  show wSs Gm_look_at_play (b_look_at_play.drop 1) _ [.d (PD P), .dead, .dead, .dead, .dead]
  walk_at "vs"
  rw [enumL_eq, hPl]
  refine forW_all (l := (List.range P.length).map fun k => PyData.tuple [.int (k : Nat), (P.map Stn.d).getD k .none]) (fun σ => ∃ x1 x2 x3 x4, σ = [.d (PD P), x1, x2, x3, x4]) ?_ ?_ ⟨_, _, _, _, rfl⟩
  · rintro σ ⟨x1, x2, x3, x4, rfl⟩
    walk_at "vu"
    show wSs Gm_look_at_play (b_look_at_play.drop 2) _ [.d (PD P), x1, x2, x3, x4]
    walk_at "vs"
    refine ⟨P, rfl, ok, by omega, fun z => (by cases z), ?_⟩
    walk_at "v"
    rw [show T.data (.nd .list (iT (ledL P))) = some (.list ((ledL P).map .int)) from data_md (fun i : Int => PyData.int i) _]
    conv => whnf
    rw [enumL_eq, List.length_map, ledL_len]
    refine forW_all (l := (List.range P.length).map fun k => PyData.tuple [.int (k : Nat), ((ledL P).map PyData.int).getD k .none]) (fun σ => ∃ x1 x2 x3 x4, σ = [.d (PD P), x1, x2, x3, x4]) ?_ ?_ ⟨_, _, _, _, rfl⟩
    · rintro σ ⟨x1, x2, x3, x4, rfl⟩
      walk_at "vu"
      show wSs Gm_look_at_play (b_look_at_play.drop 3) _ [.d (PD P), x1, x2, x3, x4]
      walk_at "vs"
      refine ⟨P, rfl, px, by omega, fun fs hF => ⟨fun z => (by cases z), ?_⟩⟩
      have hfl : fs.length = P.length := by simpa using hF.fe.len
      have h40 := far_le px hF
      walk_at "v"
      rw [show T.data (.nd .list (iT fs)) = some (.list (fs.map .int)) from data_md (fun i : Int => PyData.int i) _]
      conv => whnf
      rw [enumL_eq, List.length_map, hfl]
      refine forW_all (l := (List.range P.length).map fun k => PyData.tuple [.int (k : Nat), (fs.map PyData.int).getD k .none]) (fun σ => ∃ x1 x2 x3 x4, σ = [.d (PD P), x1, x2, x3, x4]) ?_ ?_ ⟨_, _, _, _, rfl⟩
      · rintro σ ⟨x1, x2, x3, x4, rfl⟩
        walk_at "vu"
        exact q
      · rintro x hx σ N hN - - - ⟨x1, x2, x3, x4, rfl⟩
        obtain ⟨m, hm, rfl⟩ := List.mem_map.mp hx
        have hm := List.mem_range.mp hm
        have e1 : (fs.map PyData.int).getD m .none = .int (fs.getD m 0) := by rw [List.getD_eq_getElem?_getD, List.getElem?_map, List.getElem?_eq_getElem (by omega), List.getD_eq_getElem?_getD, List.getElem?_eq_getElem (by omega)]; rfl
        rw [e1]
        have h40 := h40 m
        generalize fs.getD m 0 = f at h40
        walk_at "v"
        exact hN _ ⟨_, _, _, _, rfl⟩
    · rintro x hx σ N hN - - - ⟨x1, x2, x3, x4, rfl⟩
      obtain ⟨m, hm, rfl⟩ := List.mem_map.mp hx
      have hm := List.mem_range.mp hm
      have e1 : ((ledL P).map PyData.int).getD m .none = .int (ledBy (P.map Stn.l) m) := by
        rw [List.getD_eq_getElem?_getD, List.getElem?_map]
        unfold ledL
        rw [List.getElem?_map, List.getElem?_range hm]
        rfl
      rw [e1]
      have hle : 0 < m → 0 < ledBy (P.map Stn.l) m := fun h0 => by
        obtain ⟨k, s, h1, h2⟩ := px.led m h0 hm
        have : (m : Int) ∈ (P.map Stn.l).flatten := List.mem_flatten.mpr ⟨s.l, List.mem_map.mpr ⟨s, List.mem_of_getElem? h1, rfl⟩, h2⟩
        have := List.count_pos_iff.mpr this
        unfold ledBy
        omega
      generalize ledBy (P.map Stn.l) m = f at hle
      by_cases h0 : 0 < m
      · have hle := hle h0
        walk_at "v"
        exact hN _ ⟨_, _, _, _, rfl⟩
      · have : m = 0 := by omega
        subst this
        walk_at "v"
        exact hN _ ⟨_, _, _, _, rfl⟩
  · rintro x hx σ N hN - - - ⟨x1, x2, x3, x4, rfl⟩
    obtain ⟨m, hm, rfl⟩ := List.mem_map.mp hx
    have hm := List.mem_range.mp hm
    have hs : P[m]? = some P[m] := List.getElem?_eq_getElem hm
    generalize P[m] = st at hs
    have e1 : (P.map Stn.d).getD m .none = st.d := by rw [List.getD_eq_getElem?_getD, List.getElem?_map, hs]; rfl
    rw [e1]
    walk_at "v"
    refine ⟨P, m, st, by rw [hPl], px, hs, fun z => (by cases z), ?_⟩
    walk_at "v"
    exact hN _ ⟨_, _, _, _, rfl⟩
end VL
set_option maxHeartbeats 2000000
namespace VL
open PySem PySem.Spec PyProof.Rows L2 TL
local macro_rules | `(tactic| walk_at "vc") => `(tactic| first | with_reducible rfl | assumption | exact Nat.zero_le _ | exact noTup_md _ _ | exact Nat.le_of_ble_eq_true rfl | omega | rfl | trivial | focus (simp only [mkTup, T.leaves, T.noTup, T.noTupl, Kd.isTup, noTupl_md, noTupl_iT, noTupl_kids, PT, KT, Pool, kidT, Bool.not_false, Bool.and_self] <;> fail) | focus (refine ⟨?_, ?_⟩ <;> omega) | exact (fun _ => rfl) | focus (simp only [List.length_append, List.length_map, List.length_cons, List.length_nil, List.length_reverse]; omega))
local macro_rules | `(tactic| walk_at "vn") => `(tactic| (intro z; first | (with_unfolding_all exact Bool.noConfusion (show false = true from z)) | (with_unfolding_all exact Bool.noConfusion (show true = false from z)) | (focus (refine absurd z ?_; first | decide | (simp only [Bool.not_eq_true', Bool.not_eq_false', decide_eq_true_eq, decide_eq_false_iff_not, List.length_map, iT_len]; omega) | (simp <;> fail)))))
local macro_rules | `(tactic| walk_at "v1") => `(tactic| ((conv => whnf); (with_reducible refine And.intro ?_ ?_); first | (walk_at "vn"; try (with_reducible intro _)) | (rotate_left; walk_at "vn"; (with_reducible intro _)) | (with_unfolding_all walk_at "vc")))
local macro_rules | `(tactic| walk_at "v") => `(tactic| ((repeat walk_at "v1"); conv => whnf))
local macro_rules | `(tactic| row_has $h) => `(tactic| (rw [$h:ident]; walk_at "v"))
local macro_rules | `(tactic| walk_at "vs") => `(tactic| (refine holdW ?_; walk_at "v"))
local macro_rules | `(tactic| walk_at "vu") => `(tactic| refine unholdW ?_)
theorem tl_cut1 (w : Str) : tl (L2.cutS w (some 1) none) = (tl w).drop 1 := by
  unfold L2.cutS
  show ((tl w).drop (HT.sIx w.length 0 (some ((1 : Nat) : Int)))).take (HT.sIx w.length w.length none - HT.sIx w.length 0 (some ((1 : Nat) : Int))) = _
  rw [HT.sIx_nat, HT.sIx_none, len_tl]
  rcases Nat.lt_or_ge 0 (tl w).length with h | h
  · rw [Nat.min_eq_left h, List.take_of_length_le (by rw [List.length_drop]; exact Nat.le_refl _)]
  · have : tl w = [] := List.length_eq_zero_iff.mp (by omega)
    rw [this]
    rfl
theorem tl_cut01 (w : Str) : tl (L2.cutS w none (some 1)) = (tl w).take 1 := by
  unfold L2.cutS
  show ((tl w).drop (HT.sIx w.length 0 none)).take (HT.sIx w.length w.length (some ((1 : Nat) : Int)) - HT.sIx w.length 0 none) = _
  rw [HT.sIx_nat, HT.sIx_none, len_tl, List.drop_zero, Nat.sub_zero]
  rcases Nat.lt_or_ge 0 (tl w).length with h | h
  · rw [Nat.min_eq_left h]
  · have : tl w = [] := List.length_eq_zero_iff.mp (by omega)
    rw [this]
    rfl
theorem atI_hd {α : Type} (d : α) (r : List α) : atI (d :: r) 0 = some d := by
  unfold atI
  simp [ixN]
theorem strsD_map : ∀ ys : List Str, strsD (ys.map PyData.str) = some ys
  | [] => rfl
  | y :: ys => by
    rw [List.map_cons, strsD, strsD_map ys]
    rfl
theorem Nm.log {n : Int} (h : Nm n) : n.natAbs.log2 < 1920 := by
  rcases Nat.eq_zero_or_pos n.natAbs with z | z
  · rw [z]; decide
  · rw [Nat.log2_lt (by omega)]
    exact Nat.lt_of_lt_of_le h (Nat.le_of_ble_eq_true (by decide +kernel))
/-- rows told so far -/
def RwT (P : List Stn) : List T := P.map fun s => .d (.str s.row)
theorem RwT_take {P : List Stn} {k : Nat} {s : Stn} (h : P[k]? = some s) : RwT (P.take k) ++ [.d (.str s.row)] = RwT (P.take (k + 1)) := by
  unfold RwT
  rw [List.take_add_one, h, List.map_append]
  rfl
theorem RwT_data (P : List Stn) : T.data (.nd .list (RwT P)) = some (.list ((P.map Stn.row).map .str)) := by
  rw [List.map_map]
  exact data_md (fun s : Stn => PyData.str s.row) P
theorem RwT_len (P : List Stn) : (RwT P).length = P.length := List.length_map _
def shownB : List S := [.ife (.cmp .eq (.ix (.var 2) (.k (.int 0))) (.k (.str "end"))) [.ex (.mth .append (.var 1) [.bin .add (.k (.str "end ")) (.blt .str [.ix (.var 2) (.k (.int 1))])])] [.ex (.mth .append (.var 1) [.jn (.k (.str " ")) (.bin .add (.lst [.ix (.var 2) (.k (.int 0)), .blt .str [.ix (.var 2) (.k (.int 2))]]) (.lc [3] false (.blt .str [.var 3]) .e [.ix (.var 2) (.k (.int 1))] []))])]]
abbrev F_shown : List T → (T → List T → Prop) → Prop := fun ts Q => ∃ P : List Stn, ts = [.d (PD P)] ∧ (∀ s ∈ P, StOk s) ∧ P.length ≤ 400 ∧ Q (.d (.str (textS P))) [.dead]
abbrev fsShown : FS := ⟨[.bor], F_shown⟩
def Gm_shown : Ctx := { fn := [], glob := [], bs := ["str"], pin := [], cls := [] }
theorem w_shown : bodyW Gm_shown n_shown [.bor] b_shown F_shown := by
  intro ts Q h _
  obtain ⟨P, rfl, hs, hl, q⟩ := h
  have hsl : sizeLine > 10000000 := by decide
  have hPl : (P.map Stn.d).length = P.length := List.length_map _
  have hsum := text_sum hl hs
  show wSs Gm_shown b_shown _ [.d (PD P), .dead, .dead, .dead]
  walk_at "vs"
  walk_at "vu"
  show wSs Gm_shown (b_shown.drop 1) _ [.d (PD P), .nd .list [], .dead, .dead]
  refine holdW ?_
  (conv => whnf); refine ⟨rfl, ?_⟩
  show forW [2] (fun D' σ' => wSs Gm_shown shownB D' σ') _ (P.map Stn.d) [.d (PD P), .nd .list [], .dead, .dead]
  refine forW_k _ (fun k σ => ∃ x2 x3 : T, σ = [.d (PD P), .nd .list (RwT (P.take k)), x2, x3]) ?_ ?_ ⟨_, _, rfl⟩
  · rintro σ ⟨x2, x3, rfl⟩
    rw [hPl, List.take_length]
    walk_at "vu"
    show wSs Gm_shown (b_shown.drop 2) _ [.d (PD P), .nd .list (RwT P), x2, x3]
    have hdat := RwT_data P
    have hst := strsD_map (P.map Stn.row)
    generalize RwT P = rt at *
    have hs3 : ((P.map Stn.row).map (·.length)).sum + (P.map Stn.row).length * ("\n" : Str).length ≤ 16777216 := by
      have e1 : ("\n" : Str).length = 1 := rfl
      rw [e1]
      omega
    walk_at "vs"
    rw [data_p (i := 1) (q := []) (t := .nd .list rt) rfl hdat]
    (conv => whnf)
    rw [hst]
    (conv => whnf); refine ⟨hs3, ?_⟩
    exact q
  · rintro k x σ N hx h1 h2 h3 h4 ⟨x2, x3, rfl⟩
    obtain ⟨s, hk, rfl⟩ : ∃ s, P[k]? = some s ∧ x = s.d := by
      rw [List.getElem?_map, Option.map_eq_some_iff] at hx
      obtain ⟨s, a, b⟩ := hx
      exact ⟨s, a, b.symm⟩
    have ok := hs s (List.mem_of_getElem? hk)
    have h1 := fun x2 x3 => h1 _ ⟨x2, x3, rfl⟩
    rw [← RwT_take hk] at h1
    have hkl : k < P.length := (List.getElem?_eq_some_iff.mp hk).1
    have hrl : (RwT (P.take k)).length < sizeLine := by rw [RwT_len, List.length_take]; omega
    generalize RwT (P.take k) = rt at *
    have hw := ok.w.log
    have hfl := figs_len ok.w
    have hst1 := strsD_map s.words
    have hs4 : (s.words.map (·.length)).sum + s.words.length * (" " : Str).length ≤ 16777216 := by
      have := ok.sum
      have e1 : (" " : Str).length = 1 := rfl
      rw [e1]
      omega
    by_cases hl0 : s.l = []
    · have hd : s.d = .tuple [.str "end", .int s.w] := by rw [Stn.d, if_pos hl0]
      rw [← StOk.end_row hl0] at h1
      rw [hd]
      have hz : ("end " : Str).length + (figs s.w).length ≤ sizeLine := by
        have e1 : ("end " : Str).length = 4 := rfl
        rw [e1]
        omega
      clear hd hsum h2 h3 h4 hst1 hs4 hfl
      walk_at "v"
      exact h1 _ _
    · have hd : s.d = .tuple [.str s.x, .tuple (s.l.map .int), .int s.w] := by rw [Stn.d, if_neg hl0]
      have hwd : s.words = s.x :: figs s.w :: s.l.map figs := by rw [Stn.words, if_neg hl0]
      unfold Stn.row at h1
      rw [hd]
      clear hd hsum h2 h3 h4
      rcases ok.hand with hx | hx
      · rw [hx] at hwd ⊢
        have hdw : ∀ σ : St, (R.v (.nd .list ([.d (.str "high"), .d (.str (figs s.w))] ++ s.l.map fun c => .d (.str (figs c))))).data σ = some (.list (s.words.map .str)) := fun σ => by
          have e : ([.d (.str "high"), .d (.str (figs s.w))] ++ s.l.map fun c => .d (.str (figs c))) = s.words.map fun y => T.d (.str y) := by
            rw [hwd, List.map_cons, List.map_cons, List.map_map]
            rfl
          rw [e]
          exact data_md (fun y : Str => PyData.str y) _
        walk_at "v"
        refine lcW_md (g := PyData.int) (f := fun c => .d (.str (figs c))) s.l (fun c hc => ⟨_, rfl, fun Q hQ => ?_, rfl⟩) (by have := ok.few; omega) ?_
        · have hlc := (ok.l c hc).log
          walk_at "v"
          exact hQ
        · have hz : ([.d (.str "high"), .d (.str (figs s.w))] : List T).length + (s.l.map fun c => T.d (.str (figs c))).length ≤ sizeLine := by
            have := ok.few
            rw [List.length_map]
            show 2 + _ ≤ _
            omega
          walk_at "v"
          rw [hdw]
          (conv => whnf)
          rw [hst1]
          (conv => whnf); refine ⟨hs4, ?_⟩
          walk_at "v"
          exact h1 _ _
      · rw [hx] at hwd ⊢
        have hdw : ∀ σ : St, (R.v (.nd .list ([.d (.str "low"), .d (.str (figs s.w))] ++ s.l.map fun c => .d (.str (figs c))))).data σ = some (.list (s.words.map .str)) := fun σ => by
          have e : ([.d (.str "low"), .d (.str (figs s.w))] ++ s.l.map fun c => .d (.str (figs c))) = s.words.map fun y => T.d (.str y) := by
            rw [hwd, List.map_cons, List.map_cons, List.map_map]
            rfl
          rw [e]
          exact data_md (fun y : Str => PyData.str y) _
        walk_at "v"
        refine lcW_md (g := PyData.int) (f := fun c => .d (.str (figs c))) s.l (fun c hc => ⟨_, rfl, fun Q hQ => ?_, rfl⟩) (by have := ok.few; omega) ?_
        · have hlc := (ok.l c hc).log
          walk_at "v"
          exact hQ
        · have hz : ([.d (.str "low"), .d (.str (figs s.w))] : List T).length + (s.l.map fun c => T.d (.str (figs c))).length ≤ sizeLine := by
            have := ok.few
            rw [List.length_map]
            show 2 + _ ≤ _
            omega
          walk_at "v"
          rw [hdw]
          (conv => whnf)
          rw [hst1]
          (conv => whnf); refine ⟨hs4, ?_⟩
          walk_at "v"
          exact h1 _ _
end VL
set_option maxHeartbeats 1000000
namespace VL
open PySem PySem.Spec PyProof.Rows L2 TL
local macro_rules | `(tactic| walk_at "vc") => `(tactic| first | with_reducible rfl | assumption | exact Nat.zero_le _ | exact noTup_md _ _ | exact Nat.le_of_ble_eq_true rfl | omega | rfl | trivial | focus (simp only [mkTup, T.leaves, T.noTup, T.noTupl, Kd.isTup, noTupl_md, noTupl_iT, noTupl_kids, PT, KT, Pool, kidT, Bool.not_false, Bool.and_self] <;> fail) | focus (refine ⟨?_, ?_⟩ <;> omega) | exact (fun _ => rfl) | focus (simp only [List.length_append, List.length_map, List.length_cons, List.length_nil, List.length_reverse]; omega))
local macro_rules | `(tactic| walk_at "vn") => `(tactic| (intro z; first | (with_unfolding_all exact Bool.noConfusion (show false = true from z)) | (with_unfolding_all exact Bool.noConfusion (show true = false from z)) | (focus (refine absurd z ?_; first | decide | (simp only [Bool.not_eq_true', Bool.not_eq_false', decide_eq_true_eq, decide_eq_false_iff_not, List.length_map, iT_len]; omega) | (simp <;> fail)))))
local macro_rules | `(tactic| walk_at "v1") => `(tactic| ((conv => whnf); (with_reducible refine And.intro ?_ ?_); first | (walk_at "vn"; try (with_reducible intro _)) | (rotate_left; walk_at "vn"; (with_reducible intro _)) | (with_unfolding_all walk_at "vc")))
local macro_rules | `(tactic| walk_at "v") => `(tactic| ((repeat walk_at "v1"); conv => whnf))
local macro_rules | `(tactic| row_has $h) => `(tactic| (rw [$h:ident]; walk_at "v"))
local macro_rules | `(tactic| walk_at "vs") => `(tactic| (refine holdW ?_; walk_at "v"))
local macro_rules | `(tactic| walk_at "vu") => `(tactic| refine unholdW ?_)
abbrev figL : List Nat := ("0123456789" : Str).cps.toList
def isFig (w : Str) : Bool := (decide (1 ≤ w.length) && decide (w.length ≤ 31)) && (tl w).all (fun c => decide (c ∈ figL)) && (decide (w = ("0" : Str)) || decide ((tl w)[0]? ≠ some 48))
abbrev F_is_figures : List T → (T → List T → Prop) → Prop := fun ts Q => ∃ w : Str, ts = [.d (.str w)] ∧ w.length ≤ 10000000 ∧ Q (.d (.bool (isFig w))) [.dead]
abbrev fsIsFigures : FS := ⟨[.bor], F_is_figures⟩
def Gm_is_figures : Ctx := { fn := [], glob := [("FIGURES", .str "0123456789"), ("MOST_FIGURES", .int 31)], bs := ["all", "len"], pin := [], cls := [] }
theorem w_is_figures : bodyW Gm_is_figures n_is_figures [.bor] b_is_figures F_is_figures := by
  intro ts Q h _
  obtain ⟨w, rfl, hw, q⟩ := h
  have hsl : sizeLine > 10000000 := by decide
  have hws : w.length ≤ sizeLine := by omega
  show wSs Gm_is_figures b_is_figures _ [.d (.str w), .dead]
  have hf : isFig w = ((decide (1 ≤ w.length) && decide (w.length ≤ 31)) && (tl w).all (fun c => decide (c ∈ figL)) && (decide (w = ("0" : Str)) || decide ((tl w)[0]? ≠ some 48))) := rfl
  have e1 : decide ((1 : Int) ≤ (w.length : Int)) = decide (1 ≤ w.length) := by
    by_cases z : 1 ≤ w.length
    · rw [decide_eq_true z, decide_eq_true (by omega)]
    · rw [decide_eq_false z, decide_eq_false (by omega)]
  have e2 : decide ((w.length : Int) ≤ 31) = decide (w.length ≤ 31) := by
    by_cases z : w.length ≤ 31
    · rw [decide_eq_true z, decide_eq_true (by omega)]
    · rw [decide_eq_false z, decide_eq_false (by omega)]
  refine holdW ?_
  (conv => whnf); refine ⟨hws, ?_⟩
  (conv => whnf); refine ⟨fun a => ?_, fun a => ?_⟩
  · (conv => whnf); refine ⟨fun a2 => ?_, fun a2 => ?_⟩
    · have hf2 : isFig w = false := by
        rw [← e2] at hf
        have : decide ((w.length : Int) ≤ 31) = false := by simpa using a2
        rw [hf, this]
        simp
      rw [hf2] at q
      (conv => whnf); refine ⟨fun _ => ?_, fun z => absurd (a2.symm.trans z) (by decide)⟩
      walk_at "v"
      exact q
    · have h2 : decide ((w.length : Int) ≤ 31) = true := by simpa using a2
      rw [← e1, ← e2, a, h2, Bool.true_and, Bool.true_and] at hf
      walk_at "v"
      refine lcW_md (g := fun c => PyData.str ⟨#[c]⟩) (f := fun c => .d (.bool (decide (c ∈ figL)))) w.cps.toList (fun c hc => ⟨_, rfl, fun Q hQ => ?_, rfl⟩) (by rw [Array.length_toList]; show w.length < _; omega) ?_
      · walk_at "v"
        have h1 := PySem.StrLaws.found_one ("0123456789" : Str) c
        rw [h1]
        exact hQ
      · have hall : ((w.cps.toList.map fun c => decide (c ∈ figL)).all id) = (tl w).all (fun c => decide (c ∈ figL)) := by
          rw [List.all_map]
          rfl
        rw [← hall] at hf
        (conv => whnf)
        rw [datas_md (fun c => PyData.bool (decide (c ∈ figL)))]
        (conv => whnf)
        rw [bools_md]
        obtain ⟨A, hA⟩ : ∃ A, A = (w.cps.toList.map fun c => decide (c ∈ figL)).all id := ⟨_, rfl⟩
        rw [← hA] at hf
        (conv => whnf); refine ⟨fun b => ?_, fun b => ?_⟩
        · have b : (!A) = true := by rw [hA]; exact b
          rw [(Bool.not_eq_true' A).mp b, Bool.false_and] at hf
          rw [hf] at q
          walk_at "v"
          exact q
        · have b : (!A) = false := by rw [hA]; exact b
          rw [(Bool.not_eq_false' (b := A)).mp b, Bool.true_and] at hf
          walk_at "vu"
          show wSs Gm_is_figures (b_is_figures.drop 1) _ [.d (.str w), .dead]
          obtain ⟨c, r, hcr⟩ : ∃ c r, w.cps.toList = c :: r := by
            have hl1 : 1 ≤ w.cps.toList.length := by
              rw [Array.length_toList]
              have := of_decide_eq_true (e1.symm.trans a)
              exact this
            cases hw2 : w.cps.toList with
            | nil => rw [hw2] at hl1; simp at hl1
            | cons c r => exact ⟨c, r, rfl⟩
          have hat : atI w.cps.toList 0 = some c := by rw [hcr]; exact atI_hd _ _
          have hc0 : decide ((tl w)[0]? ≠ some 48) = !decide ((⟨#[c]⟩ : Str) = "0") := by
            have : (tl w)[0]? = some c := by show w.cps.toList[0]? = _; rw [hcr]; rfl
            rw [this]
            by_cases z : c = 48
            · subst z
              have : decide ((⟨#[48]⟩ : Str) = "0") = true := by decide +kernel
              rw [this]
              simp
            · have : decide ((⟨#[c]⟩ : Str) = "0") = false := decide_eq_false fun y => z (List.cons.inj (congrArg tl y)).1
              rw [this]
              simp [z]
          rw [hc0] at hf
          clear hc0 hcr hall hA
          (conv => whnf); refine ⟨fun b2 => ?_, fun b2 => ?_⟩
          · rw [b2, Bool.true_or] at hf
            rw [hf] at q
            rw [b2]
            exact q
          · rw [b2, Bool.false_or] at hf
            rw [hf] at q
            walk_at "v"
            rw [hat]
            walk_at "v"
            exact q
  · have hf2 : isFig w = false := by
      rw [hf, ← e1, a]
      simp
    rw [hf2] at q
    (conv => whnf); refine ⟨fun _ => ?_, fun a2 => (by cases a2)⟩
    (conv => whnf); refine ⟨fun _ => ?_, fun a2 => (by cases a2)⟩
    walk_at "v"
    exact q
/-- the number that a word writes -/
def numOf (w : Str) : PyData := if isFig w = true then .int (NumText.digitsVal (tl w)) else if L2.cutS w none (some 1) = ("-" : Str) ∧ isFig (L2.cutS w (some 1) none) = true ∧ w ≠ ("-0" : Str) then .int (0 - NumText.digitsVal (tl (L2.cutS w (some 1) none))) else .none
theorem figL_digits {w : Str} (h : isFig w = true) : NumText.AllDigits (tl w) ∧ tl w ≠ [] ∧ w.length ≤ 31 := by
  unfold isFig at h
  simp only [Bool.and_eq_true, decide_eq_true_eq, List.all_eq_true] at h
  obtain ⟨⟨⟨h1, h2⟩, h3⟩, _⟩ := h
  refine ⟨fun c hc => ?_, fun z => ?_, h2⟩
  · have := h3 c hc
    have key : ∀ c ∈ figL, 48 ≤ c ∧ c ≤ 57 := by decide +kernel
    exact key c this
  · rw [len_tl, z] at h1
    simp at h1
theorem isFig_int {w : Str} (h : isFig w = true) : intText? w = some ((NumText.digitsVal (tl w) : Nat) : Int) ∧ w.length ≤ 640 := by
  obtain ⟨h1, h2, h3⟩ := figL_digits h
  exact ⟨intText_digits h1 h2 (by omega), by omega⟩
theorem isFig_num {m : Nat} (h : m < 10 ^ 31) {w : Str} (hw : tl w = numL m) : isFig w = true := by
  have hl : (numL m).length ≤ 31 := numL_len (by decide) h
  have hp := List.length_pos_iff.mpr (numL_ne m)
  have e : w.length = (numL m).length := by rw [len_tl, hw]
  unfold isFig
  simp only [Bool.and_eq_true, Bool.or_eq_true, decide_eq_true_eq, List.all_eq_true]
  refine ⟨⟨⟨by omega, by omega⟩, fun c hc => ?_⟩, ?_⟩
  · rw [hw] at hc
    have := numL_digits m c hc
    have key : ∀ d : Fin 10, 48 + (d : Nat) ∈ figL := by decide +kernel
    have := key ⟨c - 48, by omega⟩
    rw [show 48 + (c - 48) = c by omega] at this
    exact this
  · rcases Nat.eq_zero_or_pos m with z | z
    · subst z
      refine .inl (ext_tl ?_)
      rw [hw, numL_zero]
      rfl
    · obtain ⟨d, r, e1, e2⟩ := numL_head m z
      rw [hw, e1]
      exact .inr (by simpa using e2)
theorem numOf_figs {n : Int} (h : Nm n) : numOf (figs n) = .int n := by
  have hv := numL_val n.natAbs
  by_cases hn : n < 0
  · have e : tl (figs n) = 45 :: numL n.natAbs := by rw [tl_figsI, if_pos hn]; rfl
    have hf : ¬ isFig (figs n) = true := fun z => by
      have := (figL_digits z).1 45 (by rw [e]; exact List.mem_cons_self ..)
      omega
    have e1 : tl (L2.cutS (figs n) (some 1) none) = numL n.natAbs := by rw [tl_cut1, e]; rfl
    have hz : figs n ≠ ("-0" : Str) := fun z => by
      have := congrArg tl z
      rw [e] at this
      have e3 : tl ("-0" : Str) = 45 :: numL 0 := by rw [numL_zero]; rfl
      rw [e3] at this
      have := numL_inj (List.cons.inj this).2
      omega
    have hm : L2.cutS (figs n) none (some 1) = ("-" : Str) := ext_tl (by rw [tl_cut01, e]; rfl)
    unfold numOf
    rw [if_neg hf, if_pos ⟨hm, isFig_num h e1, hz⟩, e1, hv]
    exact congrArg PyData.int (by omega)
  · have e : tl (figs n) = numL n.natAbs := by rw [tl_figsI, if_neg hn]; rfl
    unfold numOf
    rw [if_pos (isFig_num h e), e, hv]
    exact congrArg PyData.int (by omega)
abbrev F_number_of : List T → (T → List T → Prop) → Prop := fun ts Q => ∃ w : Str, ts = [.d (.str w)] ∧ w.length ≤ 10000000 ∧ Q (.d (numOf w)) [.dead]
abbrev fsNumberOf : FS := ⟨[.bor], F_number_of⟩
def Gm_number_of : Ctx := { fn := [("is_figures", fsIsFigures)], glob := [], bs := ["int"], pin := [], cls := [] }
theorem w_number_of : bodyW Gm_number_of n_number_of [.bor] b_number_of F_number_of := by
  intro ts Q h _
  obtain ⟨w, rfl, hw, q⟩ := h
  have hsl : sizeLine > 10000000 := by decide
  have hws : w.length ≤ sizeLine := by omega
  have hc1 : (L2.cutS w none (some 1)).length ≤ w.length := cutS_length w _ _
  have hc2 : (L2.cutS w (some 1) none).length ≤ w.length := cutS_length w _ _
  have hc3 : (L2.cutS w (some 1) none).length ≤ 10000000 := by omega
  show wSs Gm_number_of b_number_of _ [.d (.str w)]
  walk_at "vs"
  refine ⟨_, rfl, hw, fun z => (by cases z), ?_⟩
  unfold numOf at q
  by_cases h1 : isFig w = true
  · obtain ⟨i1, i2⟩ := isFig_int h1
    rw [if_pos h1] at q
    (conv => whnf); refine ⟨fun _ => ?_, fun a => absurd (h1.symm.trans a) (by decide)⟩
    walk_at "v"
    rw [i1]
    walk_at "v"
    exact q
  · have h1f : isFig w = false := by cases hh : isFig w <;> simp_all
    rw [if_neg h1] at q
    (conv => whnf); refine ⟨fun a => absurd (h1f.symm.trans a) (by decide), fun _ => ?_⟩
    walk_at "vu"
    show wSs Gm_number_of (b_number_of.drop 1) _ [.d (.str w)]
    have fin : ¬ (L2.cutS w none (some 1) = ("-" : Str) ∧ isFig (L2.cutS w (some 1) none) = true ∧ w ≠ ("-0" : Str)) → wSs Gm_number_of (b_number_of.drop 2) (ends [.bor] [.d (.str w)] Q) [.d (.str w)] := fun hno => by
      rw [if_neg hno] at q
      walk_at "v"
      exact q
    walk_at "vs"
    refine ⟨fun a => ?_, fun a => ?_⟩
    · have c1 := of_decide_eq_true a
      walk_at "v"
      refine ⟨_, rfl, hc3, fun z => (by cases z), ?_⟩
      by_cases h2 : isFig (L2.cutS w (some 1) none) = true
      · obtain ⟨i1, i2⟩ := isFig_int h2
        (conv => whnf); refine ⟨fun _ => ?_, fun a => absurd (h2.symm.trans a) (by decide)⟩
        (conv => whnf); refine ⟨fun a3 => ?_, fun a3 => ?_⟩
        · have c3 : w ≠ ("-0" : Str) := by simpa using a3
          rw [if_pos ⟨c1, h2, c3⟩] at q
          walk_at "v"
          rw [i1]
          walk_at "v"
          exact q
        · have c3 : w = ("-0" : Str) := by simpa using a3
          exact unholdW (fin fun z => z.2.2 c3)
      · have h2f : isFig (L2.cutS w (some 1) none) = false := by cases hh : isFig (L2.cutS w (some 1) none) <;> simp_all
        (conv => whnf); refine ⟨fun a => absurd (h2f.symm.trans a) (by decide), fun _ => ?_⟩
        (conv => whnf); refine ⟨fun a => absurd (h2f.symm.trans a) (by decide), fun _ => ?_⟩
        exact unholdW (fin fun z => h2 z.2.1)
    · have c1 := of_decide_eq_false a
      (conv => whnf); refine ⟨fun a2 => absurd (a.symm.trans a2) (by decide), fun _ => ?_⟩
      exact unholdW (fin fun z => c1 z.1)
/-- a stand whose row is read as it is -/
structure StRd (s : Stn) : Prop extends StOk s where
  wlo : -(10 ^ 30) ≤ s.w
  whi : s.w ≤ 10 ^ 30
  pos : ∀ c ∈ s.l, 0 ≤ c
abbrev F_stand_of : List T → (T → List T → Prop) → Prop := fun ts Q => ∃ s : Stn, ts = [.d (.str s.row)] ∧ StRd s ∧ Q (.d s.d) [.dead]
abbrev fsStandOf : FS := ⟨[.bor], F_stand_of⟩
def Gm_stand_of : Ctx := { fn := [("number_of", fsNumberOf), ("is_worth", fsIsWorthG)], glob := [("HANDS", .tuple [.str "high", .str "low"])], bs := ["len", "min", "tuple"], pin := [], cls := [] }
theorem w_stand_of : bodyW Gm_stand_of n_stand_of [.bor] b_stand_of F_stand_of := by
  intro ts Q h _
  obtain ⟨s, rfl, hs, q⟩ := h
  have hsl : sizeLine > 10000000 := by decide
  have hsp := hs.toStOk.split
  have hrl := hs.toStOk.rowlen
  have hs0 : ((" " : Str).length == 0) = false := rfl
  have hs1 : s.row.length + 2 ≤ sizeLine := by omega
  have hnum : ∀ {n : Int}, Nm n → numOf (figs n) = .int n := numOf_figs
  show wSs Gm_stand_of b_stand_of _ [.d (.str s.row), .dead, .dead, .dead]
  refine holdW ?_
  (conv => whnf); refine ⟨rfl, ?_⟩
  (conv => whnf); refine ⟨⟨hs0, hs1⟩, ?_⟩
  rw [hsp]
  walk_at "v"
  walk_at "vu"
  by_cases hl0 : s.l = []
  · have hd : s.d = .tuple [.str "end", .int s.w] := by rw [Stn.d, if_pos hl0]
    have hwd : s.words = (["end", figs s.w] : List Str) := by rw [Stn.words, if_pos hl0]
    rw [hwd]
    show wSs Gm_stand_of (b_stand_of.drop 1) _ [.d (.str s.row), .nd .list [.d (.str "end"), .d (.str (figs s.w))], .dead, .dead]
    have hfl := figs_len hs.w
    have hn := hnum hs.w
    rw [hd] at q
    have hfl2 : (figs s.w).length ≤ 10000000 := by omega
    generalize s.row = row at *
    walk_at "vs"
    refine ⟨_, rfl, hfl2, fun z => (by cases z), ?_⟩
    rw [hn]
    walk_at "v"
    walk_at "vu"
    show wSs Gm_stand_of (b_stand_of.drop 2) _ [.d (.str row), .nd .list [.d (.str "end"), .d (.str (figs s.w))], .nd .list [.d (.int s.w)], .dead]
    walk_at "vs"
    refine ⟨_, rfl, hs.wlo, hs.whi, fun z => (by cases z), ?_⟩
    walk_at "v"
    walk_at "vu"
    show wSs Gm_stand_of (b_stand_of.drop 3) _ [.d (.str row), .nd .list [.d (.str "end"), .d (.str (figs s.w))], .nd .list [.d (.int s.w)], .dead]
    walk_at "vs"
    exact q
  · have hwd : s.words = s.x :: figs s.w :: s.l.map figs := by rw [Stn.words, if_neg hl0]
    have hd : s.d = .tuple [.str s.x, .tuple (s.l.map .int), .int s.w] := by rw [Stn.d, if_neg hl0]
    have e : (s.words.map fun y => T.d (.str y)) = .d (.str s.x) :: (s.w :: s.l).map fun n => T.d (.str (figs n)) := by
      rw [hwd, List.map_cons, List.map_cons, List.map_map]
      rfl
    rw [e]
    rw [hd] at q
    show wSs Gm_stand_of (b_stand_of.drop 1) _ [.d (.str s.row), .nd .list (.d (.str s.x) :: (s.w :: s.l).map fun n => T.d (.str (figs n))), .dead, .dead]
    generalize s.row = row at *
    generalize hns : s.w :: s.l = ns at *
    have hcut : ∀ σ : St, σ[1]? = some (.nd .list (.d (.str s.x) :: ns.map fun n => T.d (.str (figs n)))) → (R.p 1 []).cut (some 1) none σ = some (ns.map fun n => T.d (.str (figs n))) := fun σ h => by
      have hg : (R.p 1 []).get σ = some (.nd .list (.d (.str s.x) :: ns.map fun n => T.d (.str (figs n)))) := by
        rw [R.get, h]
        rfl
      have hc : cutL (T.d (.str s.x) :: ns.map fun n => T.d (.str (figs n))) (some ((1 : Nat) : Int)) none = ns.map fun n => T.d (.str (figs n)) := by
        rw [cutL_from (by simp)]
        rfl
      have hlv : T.leaves (ns.map fun n => T.d (.str (figs n))) = some (ns.map fun n => .str (figs n)) := leaves_md _ _
      unfold R.cut
      rw [hg]
      show (if (T.leaves (cutL _ (some ((1 : Nat) : Int)) none)).isSome = true then some (cutL _ (some ((1 : Nat) : Int)) none) else none) = _
      rw [hc, hlv]
      rfl
    have e2 : T.data (.nd .list (ns.map fun n => T.d (.str (figs n)))) = some (.list (ns.map fun n => .str (figs n))) := data_md (fun n : Int => PyData.str (figs n)) _
    have hdi : T.data (.nd .list (ns.map fun n => T.d (.int n))) = some (.list (ns.map .int)) := data_md (fun n : Int => PyData.int n) _
    have hNm : ∀ n ∈ ns, Nm n := fun n hn => by
      rw [← hns] at hn
      rcases List.mem_cons.mp hn with rfl | z
      · exact hs.w
      · exact hs.l n z
    have hany : ((ns.map PyData.int).any fun z => PyData.eqv z .none) = false := List.any_eq_false.mpr fun x hx => by
      obtain ⟨n, _, rfl⟩ := List.mem_map.mp hx
      simp [PyData.eqv]
    have hflat : (ns.map PyData.int).all flatD = true := List.all_eq_true.mpr fun x hx => by
      obtain ⟨n, _, rfl⟩ := List.mem_map.mp hx
      rfl
    have hshp := (shp_ints ns).shaped (by decide)
    have hlen : ns.length < sizeLine := by have := hs.few; rw [← hns, List.length_cons]; omega
    walk_at "vs"
    rw [hcut _ rfl]
    (conv => whnf)
    rw [e2]
    (conv => whnf)
    refine lcW_md (g := fun n : Int => PyData.str (figs n)) (f := fun n => .d (.int n)) ns (fun n hn => ⟨_, rfl, fun Q hQ => ?_, rfl⟩) hlen ?_
    · walk_at "v"
      refine ⟨_, rfl, Nat.le_trans (figs_len (hNm n hn)) (by omega), fun z => (by cases z), ?_⟩
      rw [numOf_figs (hNm n hn)]
      exact hQ
    · walk_at "v"
      walk_at "vu"
      have hne : PyData.eqv (.list (ns.map .int)) (.list []) = false := by
        rw [← hns]
        simp [PyData.eqv, PyData.eqvAll]
      have hi1 : ixN (ns.map fun n => T.d (.int n)).length 0 = some 0 := ixN_nat (k := 0) (by rw [← hns]; simp)
      have hi2 : (ns.map fun n => T.d (.int n))[0]? = some (.d (.int s.w)) := by rw [← hns]; rfl
      have hlp := List.length_pos_iff.mpr hl0
      have hgt : decide ((1 : Int) < ((ns.map fun n => T.d (.int n)).length : Nat)) = true := decide_eq_true (by rw [← hns, List.length_map, List.length_cons]; omega)
      have hcut2 : ∀ σ : St, σ[2]? = some (.nd .list (ns.map fun n => T.d (.int n))) → (R.p 2 []).cut (some 1) none σ = some (s.l.map fun n => T.d (.int n)) := fun σ h => by
        have hg : (R.p 2 []).get σ = some (.nd .list (ns.map fun n => T.d (.int n))) := by
          rw [R.get, h]
          rfl
        have hc : cutL (ns.map fun n => T.d (.int n)) (some ((1 : Nat) : Int)) none = s.l.map fun n => T.d (.int n) := by
          rw [cutL_from (by rw [← hns]; simp), ← hns]
          rfl
        have hlv : T.leaves (s.l.map fun n => T.d (.int n)) = some (s.l.map fun n => .int n) := leaves_md _ _
        unfold R.cut
        rw [hg]
        show (if (T.leaves (cutL _ (some ((1 : Nat) : Int)) none)).isSome = true then some (cutL _ (some ((1 : Nat) : Int)) none) else none) = _
        rw [hc, hlv]
        rfl
      have hints : intsOf (s.l.map PyData.int) = some s.l := by simpa using ints_md (fun n : Int => n) s.l
      have hge : decide ((0 : Int) ≤ minL s.l) = true := decide_eq_true (hs.pos _ (minL_spec s.l hl0).1)
      rcases hs.hand with hx | hx
      · rw [hx] at q ⊢
        show wSs Gm_stand_of (b_stand_of.drop 2) _ [.d (.str row), .nd .list (.d (.str "high") :: ns.map fun n => T.d (.str (figs n))), .nd .list (ns.map fun n => T.d (.int n)), .dead]
        have hi0 : ixN (T.d (.str "high") :: ns.map fun n => T.d (.str (figs n))).length 0 = some 0 := ixN_nat (k := 0) (by simp)
        walk_at "vs"
        rw [data_p (i := 2) (q := []) (t := .nd .list (ns.map fun n => T.d (.int n))) rfl hdi]
        walk_at "v"
        rw [hany]
        walk_at "v"
        rw [data_p (i := 2) (q := []) (t := .nd .list (ns.map fun n => T.d (.int n))) rfl hdi]
        (conv => whnf); refine ⟨hshp, rfl, ?_⟩
        rw [hne]
        walk_at "v"
        row_has hi1
        row_has hi2
        refine ⟨_, rfl, hs.wlo, hs.whi, fun z => (by cases z), ?_⟩
        walk_at "v"
        walk_at "vu"
        show wSs Gm_stand_of (b_stand_of.drop 3) _ [.d (.str row), .nd .list (.d (.str "high") :: ns.map fun n => T.d (.str (figs n))), .nd .list (ns.map fun n => T.d (.int n)), .dead]
        walk_at "vs"
        row_has hi0
        walk_at "vu"
        show wSs Gm_stand_of (b_stand_of.drop 4) _ [.d (.str row), .nd .list (.d (.str "high") :: ns.map fun n => T.d (.str (figs n))), .nd .list (ns.map fun n => T.d (.int n)), .dead]
        walk_at "vs"
        row_has hi0
        refine ⟨fun _ => ?_, fun b => absurd (hgt.symm.trans b) (by decide)⟩
        walk_at "v"
        rw [hcut2 _ rfl]
        (conv => whnf)
        rw [datas_md (fun n : Int => PyData.int n)]
        (conv => whnf)
        rw [hints]
        (conv => whnf); refine ⟨hl0, ?_⟩
        (conv => whnf); refine ⟨fun _ => ?_, fun b => absurd (hge.symm.trans b) (by decide)⟩
        walk_at "v"
        row_has hi0
        rw [hcut2 _ rfl]
        walk_at "v"
        rw [leaves_md (fun n : Int => PyData.int n)]
        walk_at "v"
        row_has hi1
        row_has hi2
        exact q
      · rw [hx] at q ⊢
        show wSs Gm_stand_of (b_stand_of.drop 2) _ [.d (.str row), .nd .list (.d (.str "low") :: ns.map fun n => T.d (.str (figs n))), .nd .list (ns.map fun n => T.d (.int n)), .dead]
        have hi0 : ixN (T.d (.str "low") :: ns.map fun n => T.d (.str (figs n))).length 0 = some 0 := ixN_nat (k := 0) (by simp)
        walk_at "vs"
        rw [data_p (i := 2) (q := []) (t := .nd .list (ns.map fun n => T.d (.int n))) rfl hdi]
        walk_at "v"
        rw [hany]
        walk_at "v"
        rw [data_p (i := 2) (q := []) (t := .nd .list (ns.map fun n => T.d (.int n))) rfl hdi]
        (conv => whnf); refine ⟨hshp, rfl, ?_⟩
        rw [hne]
        walk_at "v"
        row_has hi1
        row_has hi2
        refine ⟨_, rfl, hs.wlo, hs.whi, fun z => (by cases z), ?_⟩
        walk_at "v"
        walk_at "vu"
        show wSs Gm_stand_of (b_stand_of.drop 3) _ [.d (.str row), .nd .list (.d (.str "low") :: ns.map fun n => T.d (.str (figs n))), .nd .list (ns.map fun n => T.d (.int n)), .dead]
        walk_at "vs"
        row_has hi0
        walk_at "vu"
        show wSs Gm_stand_of (b_stand_of.drop 4) _ [.d (.str row), .nd .list (.d (.str "low") :: ns.map fun n => T.d (.str (figs n))), .nd .list (ns.map fun n => T.d (.int n)), .dead]
        walk_at "vs"
        row_has hi0
        refine ⟨fun _ => ?_, fun b => absurd (hgt.symm.trans b) (by decide)⟩
        walk_at "v"
        rw [hcut2 _ rfl]
        (conv => whnf)
        rw [datas_md (fun n : Int => PyData.int n)]
        (conv => whnf)
        rw [hints]
        (conv => whnf); refine ⟨hl0, ?_⟩
        (conv => whnf); refine ⟨fun _ => ?_, fun b => absurd (hge.symm.trans b) (by decide)⟩
        walk_at "v"
        row_has hi0
        rw [hcut2 _ rfl]
        walk_at "v"
        rw [leaves_md (fun n : Int => PyData.int n)]
        walk_at "v"
        row_has hi1
        row_has hi2
        exact q
theorem POk.rd {P : List Stn} (h : POk P) (hl : P.length ≤ 400) : ∀ s ∈ P, StRd s := by
  intro s hs
  obtain ⟨i, hi, rfl⟩ := List.mem_iff_getElem.mp hs
  have h1 := h.low _ hs
  have h2 := h.high _ hs
  have hup := h.up i P[i] (List.getElem?_eq_getElem hi)
  refine ⟨⟨h.hand _ hs, by unfold Nm; omega, fun c hc => ?_, ?_⟩, h1, h2, fun c hc => ?_⟩
  · have := hup c hc
    unfold Nm
    omega
  · have := h.few _ hs
    omega
  · have := hup c hc
    omega
abbrev F_read : List T → (T → List T → Prop) → Prop := fun ts Q => ∃ P : List Stn, ts = [.d (.str (textS P))] ∧ PX P ∧ P.length ≤ 400 ∧ Q (.nd .list (PT P)) [.dead]
abbrev fsRead : FS := ⟨[.bor], F_read⟩
def Gm_read : Ctx := { fn := [("stand_of", fsStandOf), ("look_at_play", fsLookAtPlayG)], glob := [], bs := ["isinstance", "str"], pin := [], cls := [] }
theorem w_read : bodyW Gm_read n_read [.bor] b_read F_read := by
  intro ts Q h _
  obtain ⟨P, rfl, px, hl, q⟩ := h
  have hsl : sizeLine > 10000000 := by decide
  have ok := px.toPOk
  have hpos := ok.pos
  have hrd := ok.rd hl
  have hsp := text_split (P := P) (fun z => by rw [z] at hpos; simp at hpos) fun s hs => (hrd s hs).toStOk
  have htl := text_len hl fun s hs => (hrd s hs).toStOk
  have hs0 : (("\n" : Str).length == 0) = false := rfl
  have hs1 : (textS P).length + 2 ≤ sizeLine := by omega
  show wSs Gm_read b_read _ [.d (.str (textS P)), .dead, .dead]
  walk_at "vs"
  walk_at "vu"
  show wSs Gm_read (b_read.drop 1) _ [.d (.str (textS P)), .dead, .dead]
  generalize textS P = tx at *
  refine holdW ?_
  (conv => whnf); refine ⟨rfl, ?_⟩
  (conv => whnf); refine ⟨⟨hs0, hs1⟩, ?_⟩
  rw [hsp]
  (conv => whnf)
  have e1 : T.data (.nd .list ((P.map Stn.row).map fun s => .d (.str s))) = some (.list (P.map fun s : Stn => .str s.row)) := by
    rw [data_md (fun s : Str => PyData.str s), List.map_map]
    rfl
  rw [e1]
  (conv => whnf)
  refine lcW_md (g := fun s : Stn => PyData.str s.row) (f := fun s => .d s.d) P (fun s hs => ⟨_, rfl, fun Q hQ => ?_, rfl⟩) (by omega) ?_
  · walk_at "v"
    refine ⟨s, rfl, hrd s hs, fun z => (by cases z), ?_⟩
    exact hQ
  · walk_at "v"
    walk_at "vu"
    show wSs Gm_read (b_read.drop 2) _ [.d (.str tx), .nd .list (PT P), .dead]
    have hpt := PT_data P
    have hsh := (shp_PD ok.hand).shaped (by decide)
    have hany : ((P.map Stn.d).any fun z => PyData.eqv z .none) = false := List.any_eq_false.mpr fun x hx => by
      obtain ⟨s, _, rfl⟩ := List.mem_map.mp hx
      unfold Stn.d
      split <;> simp [PyData.eqv]
    walk_at "vs"
    rw [data_p (i := 1) (q := []) (t := .nd .list (PT P)) rfl hpt]
    (conv => whnf); refine ⟨rfl, hsh, ?_⟩
    rw [hany]
    (conv => whnf); refine ⟨fun b => (by cases b), fun _ => ?_⟩
    walk_at "vu"
    show wSs Gm_read (b_read.drop 3) _ [.d (.str tx), .nd .list (PT P), .dead]
    have hp : ∀ σ : St, (R.p 1 []).get σ = some (.nd .list (PT P)) → passes fsLookAtPlayG.md [R.p 1 []] σ = some ([.d (PD P)], true) := fun σ h => passes_lend h hpt rfl
    walk_at "vs"
    rw [hp _ rfl]
    walk_at "v"
    refine ⟨P, rfl, px, hl, fun _ => ⟨by decide, rfl⟩, ?_⟩
    walk_at "v"
    walk_at "vu"
    show wSs Gm_read (b_read.drop 4) _ [.d (.str tx), .nd .list (PT P), .dead]
    walk_at "vs"
    exact q
end VL
namespace VL
open PySem PySem.Spec PyProof.Rows L2 TL
local macro_rules | `(tactic| walk_at "vc") => `(tactic| first | with_reducible rfl | assumption | exact Nat.zero_le _ | exact noTup_md _ _ | exact Nat.le_of_ble_eq_true rfl | omega | rfl | trivial | focus (simp only [mkTup, T.leaves, T.noTup, T.noTupl, Kd.isTup, noTupl_md, noTupl_iT, noTupl_kids, PT, KT, Pool, kidT, Bool.not_false, Bool.and_self] <;> fail) | focus (refine ⟨?_, ?_⟩ <;> omega) | exact (fun _ => rfl) | focus (simp only [List.length_append, List.length_map, List.length_cons, List.length_nil, List.length_reverse]; omega))
local macro_rules | `(tactic| walk_at "vn") => `(tactic| (intro z; first | (with_unfolding_all exact Bool.noConfusion (show false = true from z)) | (with_unfolding_all exact Bool.noConfusion (show true = false from z)) | (focus (refine absurd z ?_; first | decide | (simp only [Bool.not_eq_true', Bool.not_eq_false', decide_eq_true_eq, decide_eq_false_iff_not, List.length_map, iT_len]; omega) | (simp <;> fail)))))
local macro_rules | `(tactic| walk_at "v1") => `(tactic| ((conv => whnf); (with_reducible refine And.intro ?_ ?_); first | (walk_at "vn"; try (with_reducible intro _)) | (rotate_left; walk_at "vn"; (with_reducible intro _)) | (with_unfolding_all walk_at "vc")))
local macro_rules | `(tactic| walk_at "v") => `(tactic| ((repeat walk_at "v1"); conv => whnf))
local macro_rules | `(tactic| row_has $h) => `(tactic| (rw [$h:ident]; walk_at "v"))
local macro_rules | `(tactic| walk_at "vs") => `(tactic| (refine holdW ?_; walk_at "v"))
local macro_rules | `(tactic| walk_at "vu") => `(tactic| refine unholdW ?_)
abbrev F_law_back : List T → (T → List T → Prop) → Prop := fun ts Q => ∃ P : List Stn, ts = [.d (PD P), .d (.str (textS P))] ∧ PX P ∧ P.length ≤ 200 ∧ Q (.d (.bool true)) [.dead, .dead]
abbrev fsLawBack : FS := ⟨[.bor, .bor], F_law_back⟩
def Gm_law_back : Ctx := { fn := [("look_at_play", fsLookAtPlayG), ("read", fsRead), ("shown", fsShown)], glob := [], bs := ["repr"], pin := [], cls := [] }
theorem w_law_back : bodyW Gm_law_back n_law_back [.bor, .bor] b_law_back F_law_back := by
  intro ts Q h _
  obtain ⟨P, rfl, px, hl, q⟩ := h
  have hsl : sizeLine > 10000000 := by decide
  have hl4 : P.length ≤ 400 := by omega
  have hrd := px.toPOk.rd hl4
  have hso : ∀ s ∈ P, StOk s := fun s hs => (hrd s hs).toStOk
  have hdt := PT_data P
  obtain ⟨r1, r2, r3, r4⟩ := (sm_PD60 px.toPOk px.b12 hl).rp (by decide) (by decide)
  have htt : ∀ t : Str, (!decide (t = t)) = false := fun t => by simp
  have htt2 : ∀ t : Str, decide (t = t) = true := fun t => by simp
  have hv : ∀ σ : St, (R.v (T.nd .list (PT P))).data σ = some (PD P) := fun _ => hdt
  have hp : ∀ σ : St, passes fsShown.md [R.v (T.nd .list (PT P))] σ = some ([.d (PD P)], false) := fun σ => passes_val hdt rfl
  show wSs Gm_law_back b_law_back _ [.d (PD P), .d (.str (textS P))]
  walk_at "vs"
  refine ⟨P, rfl, px, hl4, fun z => (by cases z), ?_⟩
  walk_at "v"
  refine ⟨P, rfl, px, hl4, fun z => (by cases z), ?_⟩
  (conv => whnf)
  rw [hv]
  (conv => whnf); refine ⟨r1, r2, r3, r4, ?_⟩
  (conv => whnf); refine ⟨r1, r2, r3, r4, ?_⟩
  (conv => whnf)
  refine ⟨fun b => absurd ((htt _).symm.trans b) (by decide), fun _ => ?_⟩
  walk_at "vu"
  show wSs Gm_law_back (b_law_back.drop 1) _ [.d (PD P), .d (.str (textS P))]
  walk_at "vs"
  refine ⟨P, rfl, px, hl4, fun z => (by cases z), ?_⟩
  (conv => whnf)
  rw [hp]
  walk_at "v"
  refine ⟨P, rfl, hso, hl4, fun z => (by cases z), ?_⟩
  (conv => whnf)
  rw [htt2]
  exact q
/-- the play with the stand at k put otherwise, as it is put together -/
theorem PT_set {P : List Stn} {k : Nat} (hk : k < P.length) (s' : Stn) : (P.take k).map (fun s => T.d s.d) ++ [.d s'.d] ++ (P.drop (k + 1)).map (fun s => T.d s.d) = PT (P.set k s') := by
  unfold PT
  rw [List.set_eq_take_append_cons_drop, if_pos hk, List.map_append, List.map_cons, List.append_assoc]
  rfl
theorem eqv_tup_nil9 (ns : List Int) : PyData.eqv (.tuple (ns.map .int)) (.tuple []) = decide (ns = []) := by
  cases ns with
  | nil => simp [PyData.eqv, PyData.eqvAll]
  | cons x r => simp [PyData.eqv, PyData.eqvAll]
abbrev F_law_other : List T → (T → List T → Prop) → Prop := fun ts Q => ∃ (a s : Int) (P : List Stn), ts = [Pool a s, .d (PD P)] ∧ PoolOk a s ∧ PX P ∧ P.length ≤ 200 ∧
  ∀ (k : Nat) (st st' : Stn) (a' s' : Int), P[k]? = some st → PX (P.set k st') → st'.d ≠ st.d → Q (.nd .list (PT (P.set k st'))) [Pool a' s', .dead]
abbrev fsLawOther : FS := ⟨[.own, .bor], F_law_other⟩
def Gm_law_other : Ctx := { fn := [("_law_take", fsTake)], glob := [], bs := ["len", "int", "list", "tuple"], pin := [0], cls := [] }
theorem w_law_other : bodyW Gm_law_other n_law_other [.own, .bor] b_law_other F_law_other := by
  intro ts Q h _
  obtain ⟨a, s, P, rfl, hpo, px, hl, q⟩ := h
  have hsl : sizeLine > 10000000 := by decide
  have hpos := px.pos
  have hPl : (P.map Stn.d).length = P.length := List.length_map _
  show wSs Gm_law_other b_law_other _ [Pool a s, .d (PD P), .dead, .dead, .dead, .dead, .dead, .dead, .dead, .dead]
  walk_at "vs"
  refine ⟨a, s, _, rfl, hpo, by rw [hPl]; omega, by rw [hPl]; omega, fun r a2 s2 hr0 hr1 hpo2 => ?_⟩
  rw [hPl] at hr1
  obtain ⟨k, rfl⟩ : ∃ k : Nat, r = (k : Int) := ⟨r.toNat, by omega⟩
  have hk : k < P.length := by omega
  have hs : P[k]? = some P[k] := List.getElem?_eq_getElem hk
  generalize P[k] = st at hs
  have hms := List.mem_of_getElem? hs
  have hat := atI_PD hs
  walk_at "v"
  walk_at "vu"
  show wSs Gm_law_other (b_law_other.drop 1) _ [Pool a2 s2, .d (PD P), .d (.int (k : Nat)), .dead, .dead, .dead, .dead, .dead, .dead, .dead]
  walk_at "vs"
  row_has hat
  walk_at "vu"
  show wSs Gm_law_other (b_law_other.drop 2) _ [Pool a2 s2, .d (PD P), .d (.int (k : Nat)), .d st.d, .dead, .dead, .dead, .dead, .dead, .dead]
  have hcutA : cutL ((P.map Stn.d).map T.d) none (some (k : Int)) = (P.take k).map fun s => T.d s.d := by
    rw [cutL_to (by rw [List.length_map, List.length_map]; omega), ← List.map_take, ← List.map_take, List.map_map]
    rfl
  have hcutB : cutL ((P.map Stn.d).map T.d) (some ((k : Int) + 1)) none = (P.drop (k + 1)).map fun s => T.d s.d := by
    rw [show (k : Int) + 1 = ((k + 1 : Nat) : Int) by push_cast; rfl, cutL_from (by rw [List.length_map, List.length_map]; omega), ← List.map_drop, ← List.map_drop, List.map_map]
    rfl
  by_cases hl0 : st.l = []
  · have hd : st.d = .tuple [.str "end", .int st.w] := by rw [Stn.d, if_pos hl0]
    rw [hd]
    obtain ⟨wn, i, hif, hwi, hwn⟩ : ∃ (wn : Int) (i : Nat), (if decide (st.w = 10 ^ 30) = true then (1 : Int) else 0) = (i : Int) ∧ ([st.w + 1, st.w - 1] : List Int)[i]? = some wn ∧ (-(10 ^ 30) ≤ wn ∧ wn ≤ 10 ^ 30 ∧ wn ≠ st.w ∧ i < 2) := by
      have g1 := px.low st hms
      have g2 := px.high st hms
      by_cases z : st.w = 10 ^ 30
      · exact ⟨st.w - 1, 1, if_pos (decide_eq_true z), rfl, by omega, by omega, by omega, by omega⟩
      · exact ⟨st.w + 1, 0, if_neg (by rw [decide_eq_false z]; decide), rfl, by omega, by omega, by omega, by omega⟩
    have hi1 : ixN 2 (i : Int) = some i := ixN_nat hwn.2.2.2
    have hi2 : ([T.d (.int (st.w + 1)), T.d (.int (st.w - 1))] : List T)[i]? = some (.d (.int wn)) := by
      have : ([T.d (.int (st.w + 1)), T.d (.int (st.w - 1))] : List T) = ([st.w + 1, st.w - 1] : List Int).map fun n => T.d (.int n) := rfl
      rw [this, List.getElem?_map, hwi]
      rfl
    walk_at "vs"
    have hif2 : (if decide (st.w = (10 : Int) ^ (Int.toNat 30)) = true then (1 : Int) else 0) = (i : Int) := hif
    rw [hif2]
    show match ixN 2 (i : Int) with
      | some j => _
      | none => False
    rw [hi1]
    (conv => whnf)
    rw [hi2]
    walk_at "v"
    walk_at "vu"
    show wSs Gm_law_other (b_law_other.drop 3) _ [Pool a2 s2, .d (PD P), .d (.int (k : Nat)), .d (.tuple [.str "end", .int st.w]), .d (.int wn), .dead, .dead, .dead, .dead, .dead]
    have hA : ((P.take k).map fun s => T.d s.d).length + [T.d (.tuple [.str "end", .int wn])].length ≤ sizeLine := by
      rw [List.length_map, List.length_take]
      show _ + 1 ≤ _
      omega
    have hB : (((P.take k).map fun s => T.d s.d) ++ [T.d (.tuple [.str "end", .int wn])]).length + ((P.drop (k + 1)).map fun s => T.d s.d).length ≤ sizeLine := by
      rw [List.length_append, List.length_map, List.length_take, List.length_map, List.length_drop]
      show _ + 1 + _ ≤ _
      omega
    have hpx : PX (P.set k { st with w := wn }) := px.setS hs rfl hwn.1 hwn.2.1 (List.Sublist.refl _) fun c hc => .inl hc
    have hd2 : Stn.d { st with w := wn } = .tuple [.str "end", .int wn] := by unfold Stn.d; rw [if_pos hl0]
    have hq := q k st { st with w := wn } a2 s2 hs hpx (by
      rw [hd2, hd]
      intro z
      simp at z
      exact hwn.2.2.1 z)
    rw [← PT_set hk, hd2] at hq
    walk_at "vs"
    rw [hcutA]
    refine ⟨hA, ?_⟩
    walk_at "v"
    rw [hcutB]
    refine ⟨hB, ?_⟩
    (conv => whnf)
    exact hq
  · have hd : st.d = .tuple [.str st.x, .tuple (st.l.map .int), .int st.w] := by rw [Stn.d, if_neg hl0]
    have he : ("high" : Str) ≠ "end" ∧ ("low" : Str) ≠ "end" := by decide +kernel
    have hxe : decide (st.x = ("end" : Str)) = false := decide_eq_false (by
      rcases px.hand st hms with z | z <;> rw [z]
      · exact he.1
      · exact he.2)
    rw [hd]
    obtain ⟨wn, i, hif, hwi, hwn⟩ : ∃ (wn : Int) (i : Nat), (if decide (st.w = 10 ^ 30) = true then (1 : Int) else 0) = (i : Int) ∧ ([st.w + 1, st.w - 1] : List Int)[i]? = some wn ∧ (-(10 ^ 30) ≤ wn ∧ wn ≤ 10 ^ 30 ∧ wn ≠ st.w ∧ i < 2) := by
      have g1 := px.low st hms
      have g2 := px.high st hms
      by_cases z : st.w = 10 ^ 30
      · exact ⟨st.w - 1, 1, if_pos (decide_eq_true z), rfl, by omega, by omega, by omega, by omega⟩
      · exact ⟨st.w + 1, 0, if_neg (by rw [decide_eq_false z]; decide), rfl, by omega, by omega, by omega, by omega⟩
    have hi1 : ixN 2 (i : Int) = some i := ixN_nat hwn.2.2.2
    have hi2 : ([T.d (.int (st.w + 1)), T.d (.int (st.w - 1))] : List T)[i]? = some (.d (.int wn)) := by
      have : ([T.d (.int (st.w + 1)), T.d (.int (st.w - 1))] : List T) = ([st.w + 1, st.w - 1] : List Int).map fun n => T.d (.int n) := rfl
      rw [this, List.getElem?_map, hwi]
      rfl
    have hif2 : (if decide (st.w = (10 : Int) ^ (Int.toNat 30)) = true then (1 : Int) else 0) = (i : Int) := hif
    have hpx : PX (P.set k { st with w := wn }) := px.setS hs rfl hwn.1 hwn.2.1 (List.Sublist.refl _) fun c hc => .inl hc
    have hd2 : Stn.d { st with w := wn } = .tuple [.str st.x, .tuple (st.l.map .int), .int wn] := by unfold Stn.d; rw [if_neg hl0]
    have hq : ∀ a2 s2, Q (.nd .list ((P.take k).map (fun s => T.d s.d) ++ [T.d (.tuple [.str st.x, .tuple (st.l.map .int), .int wn])] ++ (P.drop (k + 1)).map fun s => T.d s.d)) [Pool a2 s2, .dead] := fun a2 s2 => by
      have := q k st { st with w := wn } a2 s2 hs hpx (by
        rw [hd2, hd]
        intro z
        simp at z
        exact hwn.2.2.1 z)
      rw [← PT_set hk, hd2] at this
      exact this
    walk_at "vs"
    rw [hif2]
    show match ixN 2 (i : Int) with
      | some j => _
      | none => False
    rw [hi1]
    (conv => whnf)
    rw [hi2]
    walk_at "v"
    walk_at "vu"
    show wSs Gm_law_other (b_law_other.drop 3) _ [Pool a2 s2, .d (PD P), .d (.int (k : Nat)), .d (.tuple [.str st.x, .tuple (st.l.map .int), .int st.w]), .d (.int wn), .dead, .dead, .dead, .dead, .dead]
    refine holdW ?_
    (conv => whnf)
    refine ⟨fun b => absurd (hxe.symm.trans b) (by decide), fun _ => ?_⟩
    walk_at "v"
    refine ⟨a2, s2, _, rfl, hpo2, by omega, by omega, fun r a3 s3 hr0 hr1 hpo3 => ?_⟩
    walk_at "v"
    have hA : ((P.take k).map fun s => T.d s.d).length + [T.d (.tuple [.str st.x, .tuple (st.l.map .int), .int wn])].length ≤ sizeLine := by
      rw [List.length_map, List.length_take]
      show _ + 1 ≤ _
      omega
    have hB : (((P.take k).map fun s => T.d s.d) ++ [T.d (.tuple [.str st.x, .tuple (st.l.map .int), .int wn])]).length + ((P.drop (k + 1)).map fun s => T.d s.d).length ≤ sizeLine := by
      rw [List.length_append, List.length_map, List.length_take, List.length_map, List.length_drop]
      show _ + 1 + _ ≤ _
      omega
    refine ⟨fun _ => ?_, fun _ => ?_⟩
    · walk_at "v"
      rw [hcutA]
      refine ⟨hA, ?_⟩
      walk_at "v"
      rw [hcutB]
      refine ⟨hB, ?_⟩
      (conv => whnf)
      exact hq _ _
    · walk_at "vu"
      show wSs Gm_law_other (b_law_other.drop 4) _ [Pool a3 s3, .d (PD P), .d (.int (k : Nat)), .d (.tuple [.str st.x, .tuple (st.l.map .int), .int st.w]), .d (.int wn), .dead, .dead, .dead, .dead, .dead]
      have h12 := px.b12 st hms
      have hlp : 0 < st.l.length := List.length_pos_iff.mpr hl0
      have hledl : ∀ m, (((P.take m).map Stn.l).flatten).length ≤ 2400 := fun m => by
        have : ∀ (l : List Stn), (∀ s ∈ l, s.l.length ≤ 12) → ((l.map Stn.l).flatten).length ≤ 12 * l.length := by
          intro l
          induction l with
          | nil => intro _; exact Nat.zero_le _
          | cons s l ih =>
            intro hh
            have h1 := ih fun t ht => hh t (List.mem_cons_of_mem _ ht)
            have h2 := hh s (List.mem_cons_self ..)
            rw [List.map_cons, List.flatten_cons, List.length_append, List.length_cons]
            omega
        have h1 := this (P.take m) fun s hs => px.b12 s (List.mem_of_mem_take hs)
        have h2 : (P.take m).length ≤ P.length := by rw [List.length_take]; omega
        omega
      walk_at "vs"
      walk_at "vu"
      show wSs Gm_law_other (b_law_other.drop 5) _ [Pool a3 s3, .d (PD P), .d (.int (k : Nat)), .d (.tuple [.str st.x, .tuple (st.l.map .int), .int st.w]), .d (.int wn), .nd .list [], .dead, .dead, .dead, .dead]
      walk_at "vs"
      refine forW_k (P.map Stn.d) (fun m σ => ∃ x6, σ = [Pool a3 s3, .d (PD P), .d (.int (k : Nat)), .d (.tuple [.str st.x, .tuple (st.l.map .int), .int st.w]), .d (.int wn), .nd .list (iT (((P.take m).map Stn.l).flatten)), x6, .dead, .dead, .dead]) ?_ ?_ ⟨_, rfl⟩
      rotate_left
      · rintro m x σ N2 hx2 hN2 - - - ⟨x6, rfl⟩
        rw [List.getElem?_map] at hx2
        obtain ⟨t, ht, rfl⟩ := Option.map_eq_some_iff.mp hx2
        have hmt := List.mem_of_getElem? ht
        have htk : ((P.take (m + 1)).map Stn.l).flatten = ((P.take m).map Stn.l).flatten ++ t.l := by
          rw [List.take_add_one, ht, Option.toList_some, List.map_append, List.flatten_append]
          simp
        have hl1 := hledl m
        have ht12 := px.b12 t hmt
        have hgo : N2.nx [Pool a3 s3, .d (PD P), .d (.int (k : Nat)), .d (.tuple [.str st.x, .tuple (st.l.map .int), .int st.w]), .d (.int wn), .nd .list (iT (((P.take m).map Stn.l).flatten ++ t.l)), .d t.d, .dead, .dead, .dead] := hN2 _ ⟨_, by rw [htk]⟩
        generalize ((P.take m).map Stn.l).flatten = L at *
        by_cases htl : t.l = []
        · have htd : t.d = .tuple [.str "end", .int t.w] := by rw [Stn.d, if_pos htl]
          rw [htl, List.append_nil] at hgo
          rw [htd] at hgo ⊢
          walk_at "v"
          exact hgo
        · have htd : t.d = .tuple [.str t.x, .tuple (t.l.map .int), .int t.w] := by rw [Stn.d, if_neg htl]
          have hte : decide (t.x = ("end" : Str)) = false := decide_eq_false (by
            rcases px.hand t hmt with z | z <;> rw [z]
            · exact he.1
            · exact he.2)
          rw [htd] at hgo ⊢
          refine holdW ?_
          (conv => whnf)
          refine ⟨fun _ => ?_, fun z => (by rw [hte] at z; cases z)⟩
          have hsum : (iT L).length + (t.l.map fun c => T.d (.int c)).length ≤ sizeLine := by
            rw [iT_len, List.length_map]
            omega
          have hsumE : (List.map T.d (t.l.map PyData.int)) = iT t.l := by unfold iT; rw [List.map_map]; rfl
          have hkp : ∀ σ : St, (R.p 5 []).get σ = some (.nd .list (iT L)) → (R.p 5 []).kids σ = some (iT L) := fun σ h => kids_p h (leaves_iT L)
          have hkv : ∀ σ : St, (R.v (T.nd .list (iT t.l))).kids σ = some (iT t.l) := fun σ => by
            unfold R.kids
            rw [show (R.v (T.nd .list (iT t.l))).get σ = some (T.nd .list (iT t.l)) from rfl]
          walk_at "v"
          rw [hsumE, hkv, hkp]
          rotate_left
          · rfl
          rw [show (t.l.map fun c => T.d (.int c)) = iT t.l from rfl] at hsum
          (conv => whnf)
          refine ⟨hsum, ?_⟩
          have happ : iT L ++ iT t.l = iT (L ++ t.l) := by unfold iT; rw [List.map_append]
          walk_at "v"
          rw [happ]
          walk_at "v"
          walk_at "vu"
          exact hgo
      · rintro σ ⟨x6, rfl⟩
        have hl1 := hledl (P.map Stn.d).length
        have hful : P.take (P.map Stn.d).length = P := by rw [List.length_map, List.take_length]
        rw [hful] at hl1 ⊢
        obtain ⟨L, hL⟩ : ∃ L, L = (P.map Stn.l).flatten := ⟨_, rfl⟩
        rw [← hL] at hl1 ⊢
        walk_at "vu"
        show wSs Gm_law_other (b_law_other.drop 6) _ [Pool a3 s3, .d (PD P), .d (.int (k : Nat)), .d (.tuple [.str st.x, .tuple (st.l.map .int), .int st.w]), .d (.int wn), .nd .list (iT L), x6, .dead, .dead, .dead]
        walk_at "vs"
        have hsl9 : (st.l.map PyData.int).length = st.l.length := List.length_map _
        refine ⟨a3, s3, _, rfl, hpo3, by rw [hsl9]; omega, by rw [hsl9]; omega, fun r a4 s4 hr0 hr1 hpo4 => ?_⟩
        rw [hsl9] at hr1
        obtain ⟨one, hone⟩ : ∃ c, st.l[r.toNat]? = some c := ⟨_, List.getElem?_eq_getElem (by omega)⟩
        have hom := List.mem_of_getElem? hone
        have hat1 : atI (st.l.map PyData.int) r = some (.int one) := by
          have := atI_md PyData.int hone
          rwa [show ((r.toNat : Nat) : Int) = r by omega] at this
        walk_at "v"
        row_has hat1
        walk_at "vu"
        show wSs Gm_law_other (b_law_other.drop 7) _ [Pool a4 s4, .d (PD P), .d (.int (k : Nat)), .d (.tuple [.str st.x, .tuple (st.l.map .int), .int st.w]), .d (.int wn), .nd .list (iT L), x6, .d (.int one), .dead, .dead]
        walk_at "vs"
        refine lcW_fd (is := [9]) (σ := [Pool a4 s4, .d (PD P), .d (.int (k : Nat)), .d (.tuple [.str st.x, .tuple (st.l.map .int), .int st.w]), .d (.int wn), .nd .list (iT L), x6, .d (.int one), .dead, .dead]) (fun c : Int => PyData.int c) (fun c => decide (c ≠ one)) (fun c => .d (.int c)) st.l (fun c hc => ?_) (by omega) ?_
        · refine ⟨_, rfl, fun Q hQ => ?_, fun _ Q hQ => hQ, rfl⟩
          walk_at "v"
          rw [show (!decide (c = one)) = decide (c ≠ one) by simp] 
          exact hQ
        · generalize hfl : (st.l.filter fun c => decide (c ≠ one)) = fl
          have hflm : T.leaves (fl.map fun c => T.d (.int c)) = some (fl.map .int) := leaves_md (fun c : Int => PyData.int c) fl
          walk_at "v"
          rw [hflm]
          walk_at "v"
          walk_at "vu"
          show wSs Gm_law_other (b_law_other.drop 8) _ [Pool a4 s4, .d (PD P), .d (.int (k : Nat)), .d (.tuple [.str st.x, .tuple (st.l.map .int), .int st.w]), .d (.int wn), .nd .list (iT L), x6, .d (.int one), .d (.tuple (fl.map .int)), .dead]
          have hsf : SeqAt.shaped (.tuple (fl.map .int)) = true := (shp_tup (n := 1) fun x hx => by
            obtain ⟨i, _, rfl⟩ := List.mem_map.mp hx
            exact shp_int _ _).shaped (by decide)
          have hflat := all_flat_int L
          have hdL : ∀ σ : St, (R.p 5 []).get σ = some (.nd .list (iT L)) → (R.p 5 []).data σ = some (.list (L.map .int)) := fun σ h => data_p h (data_md (fun c : Int => PyData.int c) L)
          walk_at "vs"
          have hee := eqv_tup_nil9 fl
          refine ⟨fun _ => ?_, fun b => ?_⟩
          · rename_i z
            refine ⟨fun _ => ?_, fun b => (by rw [z] at b; cases b)⟩
            walk_at "v"
            rw [hcutA]
            refine ⟨hA, ?_⟩
            walk_at "v"
            rw [hcutB]
            refine ⟨hB, ?_⟩
            (conv => whnf)
            exact hq _ _
          · rw [hee] at b
            have hfe : fl ≠ [] := of_decide_eq_false b
            walk_at "v"
            rw [hdL _ rfl]
            have hcnt : ((L.map PyData.int).countP fun z => PyData.eqv z (.int one)) = L.count one := by
              rw [List.countP_map, List.count_eq_countP]
              refine List.countP_congr fun z _ => ?_
              simp [PyData.eqv]
            walk_at "v"
            refine ⟨fun _ => ?_, fun b2 => ?_⟩
            · walk_at "v"
              rw [hcutA]
              refine ⟨hA, ?_⟩
              walk_at "v"
              rw [hcutB]
              refine ⟨hB, ?_⟩
              (conv => whnf)
              exact hq _ _
            · have hc2 : 2 ≤ L.count one := by
                have := of_decide_eq_false b2
                omega
              rw [hL] at hc2
              have hfe2 : fl = [] ↔ False := ⟨hfe, fun z => z.elim⟩
              have hno : one ∉ fl := fun z => by
                rw [← hfl] at z
                have := (List.mem_filter.mp z).2
                simp at this
              have hpx3 : PX (P.set k { st with l := fl }) := by
                refine px.setS hs rfl (px.low st hms) (px.high st hms) (by rw [← hfl]; exact List.filter_sublist) fun c hc => ?_
                by_cases hco : c = one
                · subst hco
                  exact .inr (led_two px.nd hc2)
                · refine .inl ?_
                  show c ∈ fl
                  rw [← hfl]
                  exact List.mem_filter.mpr ⟨hc, decide_eq_true hco⟩
              have hd3 : Stn.d { st with l := fl } = .tuple [.str st.x, .tuple (fl.map .int), .int st.w] := by unfold Stn.d; rw [if_neg hfe]
              have hq3 := q k st { st with l := fl } a4 s4 hs hpx3 (by
                rw [hd3, hd]
                intro z
                have z2 : fl.map PyData.int = st.l.map PyData.int := by
                  injection z with z
                  injection z with _ z
                  injection z with z _
                  injection z
                have : PyData.int one ∈ fl.map PyData.int := by rw [z2]; exact List.mem_map.mpr ⟨one, hom, rfl⟩
                obtain ⟨c, hc, e⟩ := List.mem_map.mp this
                cases e
                exact hno hc)
              rw [← PT_set hk, hd3] at hq3
              walk_at "vu"
              show wSs Gm_law_other (b_law_other.drop 9) _ [Pool a4 s4, .d (PD P), .d (.int (k : Nat)), .d (.tuple [.str st.x, .tuple (st.l.map .int), .int st.w]), .d (.int wn), .nd .list (iT L), x6, .d (.int one), .d (.tuple (fl.map .int)), .dead]
              walk_at "vs"
              rw [hcutA]
              have hA3 : ((P.take k).map fun s => T.d s.d).length + [T.d (.tuple [.str st.x, .tuple (fl.map .int), .int st.w])].length ≤ sizeLine := hA
              have hB3 : (((P.take k).map fun s => T.d s.d) ++ [T.d (.tuple [.str st.x, .tuple (fl.map .int), .int st.w])]).length + ((P.drop (k + 1)).map fun s => T.d s.d).length ≤ sizeLine := by
                rw [List.length_append] at hB ⊢
                exact hB
              refine ⟨hA3, ?_⟩
              walk_at "v"
              rw [hcutB]
              refine ⟨hB3, ?_⟩
              (conv => whnf)
              exact hq3
end VL
namespace VL
open PySem PySem.Spec PyProof.Rows L2 TL
theorem eqvInts9 : ∀ {is js : List Int}, PyData.eqvAll (is.map fun i => .int i) (js.map fun i => .int i) = true → is = js
  | [], [], _ => rfl
  | i :: is, j :: js, h => by
    rw [List.map_cons, List.map_cons, PyData.eqvAll, Bool.and_eq_true, PyData.eqv] at h
    rw [eqvInts9 h.2, beq_iff_eq.mp h.1]
  | [], _ :: _, h => by rw [List.map_nil, List.map_cons, PyData.eqvAll] at h; cases h
  | _ :: _, [], h => by rw [List.map_nil, List.map_cons, PyData.eqvAll] at h; cases h
/-- stands that compare alike are alike -/
theorem eqv_sd {s t : Stn} (h : PyData.eqv s.d t.d = true) : s.d = t.d := by
  unfold Stn.d at h ⊢
  by_cases h1 : s.l = [] <;> by_cases h2 : t.l = []
  · rw [if_pos h1, if_pos h2] at h ⊢
    simp only [PyData.eqv, PyData.eqvAll, Bool.and_true, Bool.and_eq_true, beq_iff_eq] at h
    rw [h.2]
  · rw [if_pos h1, if_neg h2] at h
    simp [PyData.eqv, PyData.eqvAll] at h
  · rw [if_neg h1, if_pos h2] at h
    simp [PyData.eqv, PyData.eqvAll] at h
  · rw [if_neg h1, if_neg h2] at h ⊢
    simp only [PyData.eqv, PyData.eqvAll, Bool.and_true, Bool.and_eq_true, beq_iff_eq] at h
    rw [h.1, eqvInts9 h.2.1, h.2.2]
/-- what is put otherwise is unlike, as is its row; all else is alike -/
theorem set_apart {P : List Stn} {k : Nat} {st st' : Stn} (hs : ∀ s ∈ P, StOk s) (hs' : StOk st') (hk : P[k]? = some st) (hne : st'.d ≠ st.d) {j : Nat} {a b : Stn} (ha : P[j]? = some a) (hb : (P.set k st')[j]? = some b) :
    (PyData.eqv a.d b.d = !decide (j = k)) ∧ (decide (b.row = a.row) = !decide (j = k)) := by
  rcases set_get hb with ⟨rfl, rfl⟩ | ⟨z, hj⟩
  · rw [hk] at ha
    cases ha
    have hks := hs _ (List.mem_of_getElem? hk)
    refine ⟨?_, ?_⟩
    · rw [decide_eq_true rfl]
      exact Bool.eq_false_iff.mpr fun h => hne (eqv_sd h).symm
    · rw [decide_eq_true (p := j = j) rfl]
      exact decide_eq_false fun h => hne (words_d hs'.hand hks.hand (row_words hs' hks h))
  · rw [ha] at hj
    cases hj
    have hjs := hs _ (List.mem_of_getElem? ha)
    refine ⟨?_, ?_⟩
    · rw [decide_eq_false z]
      exact eqv_refl _ (shp_stn hjs.hand).1
    · rw [decide_eq_false z]
      exact decide_eq_true rfl
theorem filt_one {k : Nat} : ∀ n, k < n → (List.range n).filter (fun j => decide (j = k)) = [k] := by
  intro n hk
  have h1 : ∀ n, n ≤ k → (List.range n).filter (fun j => decide (j = k)) = [] := fun n hn => by
    rw [List.filter_eq_nil_iff]
    intro j hj
    have := List.mem_range.mp hj
    simp
    omega
  induction n with
  | zero => omega
  | succ n ih =>
    rw [List.range_succ, List.filter_append]
    by_cases z : k = n
    · subst z
      rw [h1 _ (Nat.le_refl _)]
      simp
    · rw [ih (by omega)]
      have : ¬ n = k := fun e => z e.symm
      simp [this]
end VL
set_option maxHeartbeats 4000000
namespace VL
open PySem PySem.Spec PyProof.Rows L2
section
variable {K : PySem.W.Frag} {mg : Str → Option Value}
theorem gl_str {g : Str} {s : Str} {t : Nat} {l : List (Str × PyData)} (h1 : mg g = some (.str s t)) (h2 : ∀ g x, l.lookup g = some x → ∃ v u, mg g = some u ∧ RelV v u ∧ ∀ Hs, Rp K Hs v x) : ∀ g' z, ((g, .str s) :: l).lookup g' = some z → ∃ v u, mg g' = some u ∧ RelV v u ∧ ∀ Hs, Rp K Hs v z := fun g' z h => by
  rw [List.lookup_cons] at h
  split at h
  · rename_i e
    have e' : g' = g := by simpa using e
    subst e'
    cases h
    exact ⟨.str s, _, h1, ⟨t, rfl⟩, fun Hs => .str s⟩
  · exact h2 g' z h
end
end VL
set_option maxHeartbeats 1000000
namespace VL
open PySem PySem.Spec PyProof.Rows L2 TL
local macro_rules | `(tactic| walk_at "vc") => `(tactic| first | with_reducible rfl | assumption | exact Nat.zero_le _ | exact noTup_md _ _ | exact Nat.le_of_ble_eq_true rfl | omega | rfl | trivial | focus (simp only [mkTup, T.leaves, T.noTup, T.noTupl, Kd.isTup, noTupl_md, noTupl_iT, noTupl_kids, PT, KT, Pool, kidT, Bool.not_false, Bool.and_self] <;> fail) | focus (refine ⟨?_, ?_⟩ <;> omega) | exact (fun _ => rfl) | focus (simp only [List.length_append, List.length_map, List.length_cons, List.length_nil, List.length_reverse]; omega))
local macro_rules | `(tactic| walk_at "vn") => `(tactic| (intro z; first | (with_unfolding_all exact Bool.noConfusion (show false = true from z)) | (with_unfolding_all exact Bool.noConfusion (show true = false from z)) | (focus (refine absurd z ?_; first | decide | (simp only [Bool.not_eq_true', Bool.not_eq_false', decide_eq_true_eq, decide_eq_false_iff_not, List.length_map, iT_len]; omega) | (simp <;> fail)))))
local macro_rules | `(tactic| walk_at "v1") => `(tactic| ((conv => whnf); (with_reducible refine And.intro ?_ ?_); first | (walk_at "vn"; try (with_reducible intro _)) | (rotate_left; walk_at "vn"; (with_reducible intro _)) | (with_unfolding_all walk_at "vc")))
local macro_rules | `(tactic| walk_at "v") => `(tactic| ((repeat walk_at "v1"); conv => whnf))
local macro_rules | `(tactic| row_has $h) => `(tactic| (rw [$h:ident]; walk_at "v"))
local macro_rules | `(tactic| walk_at "vs") => `(tactic| (refine holdW ?_; walk_at "v"))
local macro_rules | `(tactic| walk_at "vu") => `(tactic| refine unholdW ?_)
def Gm_law : Ctx := { fn := [("_law_play", fsPlay), ("shown", fsShown), ("_law_back", fsLawBack), ("_law_other", fsLawOther), ("_law_pool", fsPool)], glob := [], bs := ["len", "range"], pin := [], cls := [] }
def lawB : List S := [.asg 5 (.call "_law_other" [.call "_law_pool" [.var 0, .bin .add (.k (.int 90)) (.var 4)], .var 1]), .asg 6 (.call "shown" [.var 5]), .ife (.or (.not (.call "_law_back" [.var 5, .var 6])) (.cmp .ne (.blt .len [.spl (.var 6) (.k (.str "\n"))]) (.blt .len [.var 1]))) [.ret (.k (.bool false))] [], .asg 7 (.lc [10] false (.var 10) .rng1 [.blt .len [.var 1]] [.cmp .ne (.ix (.var 1) (.var 10)) (.ix (.var 5) (.var 10))]), .asg 8 (.spl (.var 6) (.k (.str "\n"))), .asg 9 (.lc [10] false (.var 10) .rng1 [.blt .len [.var 1]] [.cmp .ne (.ix (.var 8) (.var 10)) (.ix (.var 3) (.var 10))]), .ife (.or (.cmp .eq (.var 7) (.lst [])) (.cmp .ne (.var 9) (.var 7))) [.ret (.k (.bool false))] []]
/-- a text's rows -/
def rT (P : List Stn) : List T := (P.map Stn.row).map fun s => T.d (.str s)
theorem sd_tup (s : Stn) : ∃ xs, s.d = .tuple xs := by
  unfold Stn.d
  split
  · exact ⟨_, rfl⟩
  · exact ⟨_, rfl⟩
theorem k09_turn {ns : List Int} {x5 x6 x7 x8 x9 x10 : T} {kk : Nat} {P : List Stn} {N : AE} (px : PX P) (hl : P.length ≤ 180) (hN : ∀ y5 y6 y7 y8 y9 y10, N.nx [.d (.list (ns.map .int)), .d (PD P), .d (.str (textS P)), .nd .list (rT P), .d (.int (kk : Nat)), y5, y6, y7, y8, y9, y10]) :
    wSs Gm_law lawB N [.d (.list (ns.map .int)), .d (PD P), .d (.str (textS P)), .nd .list (rT P), .d (.int (kk : Nat)), x5, x6, x7, x8, x9, x10] := by
  have hsl : sizeLine > 10000000 := by decide
  have hl4 : P.length ≤ 400 := by omega
  have hrd := px.toPOk.rd hl4
  have hso : ∀ s ∈ P, StOk s := fun s hs => (hrd s hs).toStOk
  have hpos := px.pos
  walk_at "vs"
  refine ⟨ns, _, rfl, by omega, fun a s hp1 => ⟨fun z => (by cases z), ?_⟩⟩
  walk_at "v"
  refine ⟨a, s, P, rfl, hp1, px, by omega, fun k st st' a' s' hk px' hne => ⟨fun z => (by cases z), ?_⟩⟩
  have hl' : (P.set k st').length = P.length := List.length_set
  have hl4' : (P.set k st').length ≤ 400 := by omega
  have hrd' := px'.toPOk.rd hl4'
  have hso' : ∀ s ∈ P.set k st', StOk s := fun s hs => (hrd' s hs).toStOk
  have hkl : k < P.length := (List.getElem?_eq_some_iff.mp hk).1
  have hst' : StOk st' := hso' st' (List.mem_of_getElem? (by rw [List.getElem?_set_self hkl] : (P.set k st')[k]? = some st'))
  have hap := fun {j : Nat} {a b : Stn} => set_apart (j := j) (a := a) (b := b) hso hst' hk hne
  obtain ⟨P', hP'⟩ : ∃ P', P' = P.set k st' := ⟨_, rfl⟩
  rw [← hP'] at px' hl' hl4' hrd' hso' hap ⊢
  have hpt := PT_data P'
  have hp : ∀ σ : St, (R.p 5 []).get σ = some (.nd .list (PT P')) → passes fsShown.md [R.p 5 []] σ = some ([.d (PD P')], true) := fun σ h => passes_lend h hpt rfl
  walk_at "v"
  walk_at "vu"
  show wSs Gm_law (lawB.drop 1) _ [.d (.list (ns.map .int)), .d (PD P), .d (.str (textS P)), .nd .list (rT P), .d (.int (kk : Nat)), .nd .list (PT P'), x6, x7, x8, x9, x10]
  walk_at "vs"
  rw [hp _ rfl]
  walk_at "v"
  refine ⟨P', rfl, hso', hl4', fun _ => ⟨rfl, rfl⟩, ?_⟩
  walk_at "v"
  walk_at "vu"
  show wSs Gm_law (lawB.drop 2) _ [.d (.list (ns.map .int)), .d (PD P), .d (.str (textS P)), .nd .list (rT P), .d (.int (kk : Nat)), .nd .list (PT P'), .d (.str (textS P')), x7, x8, x9, x10]
  have hsp := text_split (P := P') (fun z => by rw [z] at hl'; simp at hl'; omega) hso'
  have htl := text_len hl4' hso'
  have hs0 : (("\n" : Str).length == 0) = false := rfl
  have hs1 : (textS P').length + 2 ≤ sizeLine := by omega
  have hpb : ∀ (σ : St) (z : PyData), (R.p 5 []).get σ = some (.nd .list (PT P')) → passes fsLawBack.md [R.p 5 [], R.v (.d z)] σ = some ([.d (PD P'), .d z], true) := fun σ z h => passes_lend h hpt rfl
  walk_at "vs"
  rw [hpb _ _ rfl]
  walk_at "v"
  refine ⟨P', rfl, px', by omega, fun _ => ⟨rfl, rfl⟩, ?_⟩
  walk_at "v"
  refine ⟨fun b => ?_, fun _ => ?_⟩
  · exfalso
    simp [hsp, hl'] at b
  walk_at "vu"
  show wSs Gm_law (lawB.drop 3) _ [.d (.list (ns.map .int)), .d (PD P), .d (.str (textS P)), .nd .list (rT P), .d (.int (kk : Nat)), .nd .list (PT P'), .d (.str (textS P')), x7, x8, x9, x10]
  walk_at "vs"
  rw [List.length_map, Int.toNat_natCast, rngL0]
  have hget : ∀ j, j < P.length → ∃ a b, P[j]? = some a ∧ P'[j]? = some b := fun j hj => ⟨_, _, List.getElem?_eq_getElem hj, List.getElem?_eq_getElem (by omega)⟩
  refine ⟨by unfold inR; omega, ?_⟩
  refine lcW_fd (is := [10]) (σ := [.d (.list (ns.map .int)), .d (PD P), .d (.str (textS P)), .nd .list (rT P), .d (.int (kk : Nat)), .nd .list (PT P'), .d (.str (textS P')), x7, x8, x9, x10]) (fun j : Nat => PyData.int j) (fun j => decide (j = k)) (fun j => .d (.int (j : Nat))) (List.range P.length) (fun j hj => ?_) (by rw [List.length_range]; omega) ?_
  · have hj := List.mem_range.mp hj
    obtain ⟨a, b, ha, hb⟩ := hget j hj
    have h1 := (hap ha hb).1
    have g1 := atI_PD ha
    have g2 := PT_ix (P := P') (k := j) (by omega)
    have g3 := PT_get hb
    have s1 := (shp_stn (hso a (List.mem_of_getElem? ha)).hand).shaped (by decide)
    have s2 := (shp_stn (hso' b (List.mem_of_getElem? hb)).hand).shaped (by decide)
    refine ⟨_, rfl, fun Q hQ => ?_, fun _ Q hQ => hQ, rfl⟩
    walk_at "v"
    obtain ⟨xa, ea⟩ := sd_tup a
    obtain ⟨xb, eb⟩ := sd_tup b
    rw [ea, eb] at h1
    rw [ea] at s1 g1
    rw [eb] at s2 g3
    row_has g1
    row_has g2
    row_has g3
    rw [h1]
    simpa using hQ
  rw [filt_one _ hkl]
  walk_at "v"
  walk_at "vu"
  show wSs Gm_law (lawB.drop 4) _ [.d (.list (ns.map .int)), .d (PD P), .d (.str (textS P)), .nd .list (rT P), .d (.int (kk : Nat)), .nd .list (PT P'), .d (.str (textS P')), .nd .list [.d (.int (k : Nat))], x8, x9, x10]
  walk_at "vs"
  rw [hsp]
  walk_at "vu"
  show wSs Gm_law (lawB.drop 5) _ [.d (.list (ns.map .int)), .d (PD P), .d (.str (textS P)), .nd .list (rT P), .d (.int (kk : Nat)), .nd .list (PT P'), .d (.str (textS P')), .nd .list [.d (.int (k : Nat))], .nd .list (rT P'), x9, x10]
  walk_at "vs"
  rw [List.length_map, Int.toNat_natCast, rngL0]
  refine ⟨by unfold inR; omega, ?_⟩
  refine lcW_fd (is := [10]) (σ := [.d (.list (ns.map .int)), .d (PD P), .d (.str (textS P)), .nd .list (rT P), .d (.int (kk : Nat)), .nd .list (PT P'), .d (.str (textS P')), .nd .list [.d (.int (k : Nat))], .nd .list (rT P'), x9, x10]) (fun j : Nat => PyData.int j) (fun j => decide (j = k)) (fun j => .d (.int (j : Nat))) (List.range P.length) (fun j hj => ?_) (by rw [List.length_range]; omega) ?_
  · have hj := List.mem_range.mp hj
    obtain ⟨a, b, ha, hb⟩ := hget j hj
    have h1 := (hap ha hb).2
    have g2 : ixN (rT P).length ((j : Nat) : Int) = some j := ixN_nat (by unfold rT; rw [List.length_map, List.length_map]; omega)
    have g3 : (rT P)[j]? = some (.d (.str a.row)) := by unfold rT; rw [List.getElem?_map, List.getElem?_map, ha]; rfl
    have g4 : ixN (rT P').length ((j : Nat) : Int) = some j := ixN_nat (by unfold rT; rw [List.length_map, List.length_map]; omega)
    have g5 : (rT P')[j]? = some (.d (.str b.row)) := by unfold rT; rw [List.getElem?_map, List.getElem?_map, hb]; rfl
    refine ⟨_, rfl, fun Q hQ => ?_, fun _ Q hQ => hQ, rfl⟩
    walk_at "v"
    row_has g4
    row_has g5
    row_has g2
    row_has g3
    rw [h1]
    simpa using hQ
  rw [filt_one _ hkl]
  walk_at "v"
  walk_at "vu"
  show wSs Gm_law (lawB.drop 6) _ [.d (.list (ns.map .int)), .d (PD P), .d (.str (textS P)), .nd .list (rT P), .d (.int (kk : Nat)), .nd .list (PT P'), .d (.str (textS P')), .nd .list [.d (.int (k : Nat))], .nd .list (rT P'), .nd .list [.d (.int (k : Nat))], x10]
  walk_at "vs"
  refine ⟨fun b => ?_, fun _ => ?_⟩
  · exfalso
    simp [PyData.eqv, PyData.eqvAll] at b
  walk_at "vu"
  exact hN _ _ _ _ _ _
theorem w_law : bodyW Gm_law n_law [.bor] b_law (FLaw 63) := by
  intro ts Q h _
  obtain ⟨ns, hns, rfl, q⟩ := h
  have hsl : sizeLine > 10000000 := by decide
  show wSs Gm_law b_law _ [.d (.list (ns.map .int)), .dead, .dead, .dead, .dead, .dead, .dead, .dead, .dead, .dead, .dead]
  walk_at "vs"
  refine ⟨ns, 180, true, rfl, by decide, fun P ok hP px _ => ⟨fun z => (by cases z), ?_⟩⟩
  have hl : P.length ≤ 180 := by omega
  have hl4 : P.length ≤ 400 := by omega
  have hrd := ok.rd hl4
  have hso : ∀ s ∈ P, StOk s := fun s hs => (hrd s hs).toStOk
  have hpos := ok.pos
  have hsp := text_split (P := P) (fun z => by rw [z] at hpos; simp at hpos) hso
  have htl := text_len hl4 hso
  have hs0 : (("\n" : Str).length == 0) = false := rfl
  have hs1 : (textS P).length + 2 ≤ sizeLine := by omega
  walk_at "v"
  rw [PT_data]
  walk_at "v"
  walk_at "vu"
  show wSs Gm_law (b_law.drop 1) _ [.d (.list (ns.map .int)), .d (PD P), .dead, .dead, .dead, .dead, .dead, .dead, .dead, .dead, .dead]
  walk_at "vs"
  refine ⟨P, rfl, hso, hl4, fun z => (by cases z), ?_⟩
  walk_at "v"
  walk_at "vu"
  show wSs Gm_law (b_law.drop 2) _ [.d (.list (ns.map .int)), .d (PD P), .d (.str (textS P)), .dead, .dead, .dead, .dead, .dead, .dead, .dead, .dead]
  walk_at "vs"
  rw [hsp]
  walk_at "vu"
  show wSs Gm_law (b_law.drop 3) _ [.d (.list (ns.map .int)), .d (PD P), .d (.str (textS P)), .nd .list (rT P), .dead, .dead, .dead, .dead, .dead, .dead, .dead]
  walk_at "vs"
  refine ⟨P, rfl, px, by omega, fun z => (by cases z), ?_⟩
  have hrl : (rT P).length = P.length := by unfold rT; rw [List.length_map, List.length_map]
  have hPl : (P.map Stn.d).length = P.length := List.length_map _
  walk_at "v"
  walk_at "vu"
  show wSs Gm_law (b_law.drop 4) _ [.d (.list (ns.map .int)), .d (PD P), .d (.str (textS P)), .nd .list (rT P), .dead, .dead, .dead, .dead, .dead, .dead, .dead]
  refine holdW ?_
  (conv => whnf); refine ⟨rfl, ?_⟩
  (conv => whnf); refine ⟨⟨by decide, by decide⟩, ?_⟩
  show forW [4] (fun D' σ' => wSs Gm_law lawB D' σ') _ (rngL 0 30) [.d (.list (ns.map .int)), .d (PD P), .d (.str (textS P)), .nd .list (rT P), .dead, .dead, .dead, .dead, .dead, .dead, .dead]
  refine forW_rng (n := 30) (fun k σ => ∃ x4 x5 x6 x7 x8 x9 x10, σ = [.d (.list (ns.map .int)), .d (PD P), .d (.str (textS P)), .nd .list (rT P), x4, x5, x6, x7, x8, x9, x10]) ?_ ?_ ⟨_, _, _, _, _, _, _, rfl⟩
  · rintro σ ⟨x4, x5, x6, x7, x8, x9, x10, rfl⟩
    walk_at "vu"
    show wSs Gm_law (b_law.drop 5) _ [.d (.list (ns.map .int)), .d (PD P), .d (.str (textS P)), .nd .list (rT P), x4, x5, x6, x7, x8, x9, x10]
    have htt2 : ∀ t : Str, decide (t = t) = true := fun t => by simp
    walk_at "vs"
    refine ⟨P, rfl, hso, hl4, fun z => (by cases z), ?_⟩
    (conv => whnf)
    rw [htt2]
    exact q _
  · rintro k σ N - hN - - - ⟨x4, x5, x6, x7, x8, x9, x10, rfl⟩
    exact k09_turn px hl fun y5 y6 y7 y8 y9 y10 => hN _ ⟨_, _, _, _, _, _, _, rfl⟩
end VL
set_option maxHeartbeats 4000000
namespace VL
open PySem PySem.Spec PyProof.Rows L2
def n2_law_merged : List Str := ["_law_second", "_law_kids_here", "_law_far", "_law_turn", "_law_one", "_law_other_here", "_law_at"]
theorem sc_law_pool : FnScope n_law_pool ["_law_script", "_law_k"] (defScope s_law_pool) := ⟨rfl, rfl, rfl, by decide +kernel, rfl, by decide +kernel, by decide +kernel⟩
theorem ch_law_pool : chkSs (Gm_pool).sk ⟨n_law_pool, defScope s_law_pool, fun _ => true⟩ b_law_pool (defBody s_law_pool) = true := by decide +kernel
theorem sc_law_take : FnScope n_law_take ["_law_pool_here", "_law_many"] (defScope s_law_take) := ⟨rfl, rfl, rfl, by decide +kernel, rfl, by decide +kernel, by decide +kernel⟩
theorem ch_law_take : chkSs (Gm_take).sk ⟨n_law_take, defScope s_law_take, fun _ => true⟩ b_law_take (defBody s_law_take) = true := by decide +kernel
theorem sc_law_kids : FnScope n_law_kids ["_law_script", "_law_head", "_law_most"] (defScope s_law_kids) := ⟨rfl, rfl, rfl, by decide +kernel, rfl, by decide +kernel, by decide +kernel⟩
theorem ch_law_kids : chkSs (Gm_kids).sk ⟨n_law_kids, defScope s_law_kids, fun _ => true⟩ b_law_kids (defBody s_law_kids) = true := by decide +kernel
theorem sc_law_merged : FnScope n2_law_merged ["_law_second", "_law_kids_here", "_law_far"] (defScope s_law_merged) := ⟨rfl, rfl, rfl, by decide +kernel, rfl, by decide +kernel, by decide +kernel⟩
theorem ch_law_merged : chkSs (Gm_merged).sk ⟨n2_law_merged, defScope s_law_merged, fun _ => true⟩ b_law_merged (defBody s_law_merged) = true := by decide +kernel
theorem sc_law_hand : FnScope n_law_hand ["_law_second", "_law_turns", "_law_far"] (defScope s_law_hand) := ⟨rfl, rfl, rfl, by decide +kernel, rfl, by decide +kernel, by decide +kernel⟩
theorem ch_law_hand : chkSs (Gm_hand).sk ⟨n_law_hand, defScope s_law_hand, fun _ => true⟩ b_law_hand (defBody s_law_hand) = true := by decide +kernel
theorem sc_law_worth : FnScope n_law_worth ["_law_pool_here", "_law_style", "_law_k"] (defScope s_law_worth) := ⟨rfl, rfl, rfl, by decide +kernel, rfl, by decide +kernel, by decide +kernel⟩
theorem ch_law_worth : chkSs (Gm_worth).sk ⟨n_law_worth, defScope s_law_worth, fun _ => true⟩ b_law_worth (defBody s_law_worth) = true := by decide +kernel
theorem sc_law_play : FnScope n_law_play ["_law_script", "_law_most", "_law_merge"] (defScope s_law_play) := ⟨rfl, rfl, rfl, by decide +kernel, rfl, by decide +kernel, by decide +kernel⟩
theorem ch_law_play : chkSs (Gm_play).sk ⟨n_law_play, defScope s_law_play, fun _ => true⟩ b_law_play (defBody s_law_play) = true := by decide +kernel
theorem sc_shown : FnScope n_shown ["play"] (defScope s_shown) := ⟨rfl, rfl, rfl, by decide +kernel, rfl, by decide +kernel, by decide +kernel⟩
theorem ch_shown : chkSs (Gm_shown).sk ⟨n_shown, defScope s_shown, fun _ => true⟩ b_shown (defBody s_shown) = true := by decide +kernel
theorem sc_is_figures : FnScope n_is_figures ["word"] (defScope s_is_figures) := ⟨rfl, rfl, rfl, by decide +kernel, rfl, by decide +kernel, by decide +kernel⟩
theorem ch_is_figures : chkSs (Gm_is_figures).sk ⟨n_is_figures, defScope s_is_figures, fun _ => true⟩ b_is_figures (defBody s_is_figures) = true := by decide +kernel
theorem sc_number_of : FnScope n_number_of ["word"] (defScope s_number_of) := ⟨rfl, rfl, rfl, by decide +kernel, rfl, by decide +kernel, by decide +kernel⟩
theorem ch_number_of : chkSs (Gm_number_of).sk ⟨n_number_of, defScope s_number_of, fun _ => true⟩ b_number_of (defBody s_number_of) = true := by decide +kernel
theorem sc_is_whole : FnScope n_is_whole ["thing"] (defScope s_is_whole) := ⟨rfl, rfl, rfl, by decide +kernel, rfl, by decide +kernel, by decide +kernel⟩
theorem ch_is_whole : chkSs (Gm_is_whole).sk ⟨n_is_whole, defScope s_is_whole, fun _ => true⟩ b_is_whole (defBody s_is_whole) = true := by decide +kernel
theorem sc_is_worth : FnScope n_is_worth ["thing"] (defScope s_is_worth) := ⟨rfl, rfl, rfl, by decide +kernel, rfl, by decide +kernel, by decide +kernel⟩
theorem ch_is_worth : chkSs (Gm_is_worth).sk ⟨n_is_worth, defScope s_is_worth, fun _ => true⟩ b_is_worth (defBody s_is_worth) = true := by decide +kernel
theorem sc_stand_of : FnScope n_stand_of ["row"] (defScope s_stand_of) := ⟨rfl, rfl, rfl, by decide +kernel, rfl, by decide +kernel, by decide +kernel⟩
theorem ch_stand_of : chkSs (Gm_stand_of).sk ⟨n_stand_of, defScope s_stand_of, fun _ => true⟩ b_stand_of (defBody s_stand_of) = true := by decide +kernel
theorem sc_are_steps : FnScope n_are_steps ["thing", "number", "many"] (defScope s_are_steps) := ⟨rfl, rfl, rfl, by decide +kernel, rfl, by decide +kernel, by decide +kernel⟩
theorem ch_are_steps : chkSs (Gm_are_steps).sk ⟨n_are_steps, defScope s_are_steps, fun _ => true⟩ b_are_steps (defBody s_are_steps) = true := by decide +kernel
theorem sc_is_stand : FnScope n_is_stand ["thing", "number", "many"] (defScope s_is_stand) := ⟨rfl, rfl, rfl, by decide +kernel, rfl, by decide +kernel, by decide +kernel⟩
theorem ch_is_stand : chkSs (Gm_is_stand).sk ⟨n_is_stand, defScope s_is_stand, fun _ => true⟩ b_is_stand (defBody s_is_stand) = true := by decide +kernel
theorem sc_steps_of : FnScope n_steps_of ["play", "number"] (defScope s_steps_of) := ⟨rfl, rfl, rfl, by decide +kernel, rfl, by decide +kernel, by decide +kernel⟩
theorem ch_steps_of : chkSs (Gm_steps_of).sk ⟨n_steps_of, defScope s_steps_of, fun _ => true⟩ b_steps_of (defBody s_steps_of) = true := by decide +kernel
theorem sc_led_to : FnScope n_led_to ["play"] (defScope s_led_to) := ⟨rfl, rfl, rfl, by decide +kernel, rfl, by decide +kernel, by decide +kernel⟩
theorem ch_led_to : chkSs (Gm_led_to).sk ⟨n_led_to, defScope s_led_to, fun _ => true⟩ b_led_to (defBody s_led_to) = true := by decide +kernel
theorem sc_farthest : FnScope n_farthest ["play"] (defScope s_farthest) := ⟨rfl, rfl, rfl, by decide +kernel, rfl, by decide +kernel, by decide +kernel⟩
theorem ch_farthest : chkSs (Gm_farthest).sk ⟨n_farthest, defScope s_farthest, fun _ => true⟩ b_farthest (defBody s_farthest) = true := by decide +kernel
theorem sc_look_at_play : FnScope n_look_at_play ["thing"] (defScope s_look_at_play) := ⟨rfl, rfl, rfl, by decide +kernel, rfl, by decide +kernel, by decide +kernel⟩
theorem ch_look_at_play : chkSs (Gm_look_at_play).sk ⟨n_look_at_play, defScope s_look_at_play, fun _ => true⟩ b_look_at_play (defBody s_look_at_play) = true := by decide +kernel
theorem sc_read : FnScope n_read ["text"] (defScope s_read) := ⟨rfl, rfl, rfl, by decide +kernel, rfl, by decide +kernel, by decide +kernel⟩
theorem ch_read : chkSs (Gm_read).sk ⟨n_read, defScope s_read, fun _ => true⟩ b_read (defBody s_read) = true := by decide +kernel
theorem sc_law_back : FnScope n_law_back ["_law_play_here", "_law_text"] (defScope s_law_back) := ⟨rfl, rfl, rfl, by decide +kernel, rfl, by decide +kernel, by decide +kernel⟩
theorem ch_law_back : chkSs (Gm_law_back).sk ⟨n_law_back, defScope s_law_back, fun _ => true⟩ b_law_back (defBody s_law_back) = true := by decide +kernel
theorem sc_law_other : FnScope n_law_other ["_law_pool_here", "_law_play_here"] (defScope s_law_other) := ⟨rfl, rfl, rfl, by decide +kernel, rfl, by decide +kernel, by decide +kernel⟩
theorem ch_law_other : chkSs (Gm_law_other).sk ⟨n_law_other, defScope s_law_other, fun _ => true⟩ b_law_other (defBody s_law_other) = true := by decide +kernel
theorem sc_law : FnScope n_law ["_law_script"] (defScope s_law) := ⟨rfl, rfl, rfl, by decide +kernel, rfl, by decide +kernel, by decide +kernel⟩
theorem ch_law : chkSs (Gm_law).sk ⟨n_law, defScope s_law, fun _ => true⟩ b_law (defBody s_law) = true := by decide +kernel
theorem all_mk {l : PySem.W.OpenLaw} {w : World} {K : PySem.W.Frag} {h : Heap} {mg : Str → Option Value} {fa  f0 f1 f2 f3 f4 f5 f6 f7 f8 f9 f10 f11 f12 f13 f14 f15 f16 f17 f18 f19 f20 f21 f22 : Addr} (X : K.In h) (G : h.Ns mainGlobals mg) (hfa : mg "law" = some (.ref fa))
    {od0 an0 : Option Addr} {sl0 : Array (Option Value)} {oc0 kV0 dc0 pm0 cd0 ct0 : Value} (a0 : PySem.W.nsIn K mainGlobals "_law_pool" = some (some (.ref f0))) (l0 : K.lookup f0 = some ⟨oc0, od0, .func (PySem.W.fnOf "_law_pool" "_law_pool" (defArgs s_law_pool) (defBody s_law_pool) (defScope s_law_pool) .none kV0 dc0 pm0 an0 cd0 ct0), sl0⟩) (c0 : PySem.W.codeIn K cd0 "_law_pool" = true) (k0 : PySem.W.keepIn K (.ref f0) = true)
    {od1 an1 : Option Addr} {sl1 : Array (Option Value)} {oc1 kV1 dc1 pm1 cd1 ct1 : Value} (a1 : PySem.W.nsIn K mainGlobals "_law_take" = some (some (.ref f1))) (l1 : K.lookup f1 = some ⟨oc1, od1, .func (PySem.W.fnOf "_law_take" "_law_take" (defArgs s_law_take) (defBody s_law_take) (defScope s_law_take) .none kV1 dc1 pm1 an1 cd1 ct1), sl1⟩) (c1 : PySem.W.codeIn K cd1 "_law_take" = true) (k1 : PySem.W.keepIn K (.ref f1) = true)
    {od2 an2 : Option Addr} {sl2 : Array (Option Value)} {oc2 kV2 dc2 pm2 cd2 ct2 : Value} (a2 : PySem.W.nsIn K mainGlobals "_law_kids" = some (some (.ref f2))) (l2 : K.lookup f2 = some ⟨oc2, od2, .func (PySem.W.fnOf "_law_kids" "_law_kids" (defArgs s_law_kids) (defBody s_law_kids) (defScope s_law_kids) .none kV2 dc2 pm2 an2 cd2 ct2), sl2⟩) (c2 : PySem.W.codeIn K cd2 "_law_kids" = true) (k2 : PySem.W.keepIn K (.ref f2) = true)
    {od3 an3 : Option Addr} {sl3 : Array (Option Value)} {oc3 kV3 dc3 pm3 cd3 ct3 : Value} (a3 : PySem.W.nsIn K mainGlobals "_law_merged" = some (some (.ref f3))) (l3 : K.lookup f3 = some ⟨oc3, od3, .func (PySem.W.fnOf "_law_merged" "_law_merged" (defArgs s_law_merged) (defBody s_law_merged) (defScope s_law_merged) .none kV3 dc3 pm3 an3 cd3 ct3), sl3⟩) (c3 : PySem.W.codeIn K cd3 "_law_merged" = true) (k3 : PySem.W.keepIn K (.ref f3) = true)
    {od4 an4 : Option Addr} {sl4 : Array (Option Value)} {oc4 kV4 dc4 pm4 cd4 ct4 : Value} (a4 : PySem.W.nsIn K mainGlobals "_law_hand" = some (some (.ref f4))) (l4 : K.lookup f4 = some ⟨oc4, od4, .func (PySem.W.fnOf "_law_hand" "_law_hand" (defArgs s_law_hand) (defBody s_law_hand) (defScope s_law_hand) .none kV4 dc4 pm4 an4 cd4 ct4), sl4⟩) (c4 : PySem.W.codeIn K cd4 "_law_hand" = true) (k4 : PySem.W.keepIn K (.ref f4) = true)
    {od5 an5 : Option Addr} {sl5 : Array (Option Value)} {oc5 kV5 dc5 pm5 cd5 ct5 : Value} (a5 : PySem.W.nsIn K mainGlobals "_law_worth" = some (some (.ref f5))) (l5 : K.lookup f5 = some ⟨oc5, od5, .func (PySem.W.fnOf "_law_worth" "_law_worth" (defArgs s_law_worth) (defBody s_law_worth) (defScope s_law_worth) .none kV5 dc5 pm5 an5 cd5 ct5), sl5⟩) (c5 : PySem.W.codeIn K cd5 "_law_worth" = true) (k5 : PySem.W.keepIn K (.ref f5) = true)
    {od6 an6 : Option Addr} {sl6 : Array (Option Value)} {oc6 kV6 dc6 pm6 cd6 ct6 : Value} (a6 : PySem.W.nsIn K mainGlobals "_law_play" = some (some (.ref f6))) (l6 : K.lookup f6 = some ⟨oc6, od6, .func (PySem.W.fnOf "_law_play" "_law_play" (defArgs s_law_play) (defBody s_law_play) (defScope s_law_play) .none kV6 dc6 pm6 an6 cd6 ct6), sl6⟩) (c6 : PySem.W.codeIn K cd6 "_law_play" = true) (k6 : PySem.W.keepIn K (.ref f6) = true)
    {od7 an7 : Option Addr} {sl7 : Array (Option Value)} {oc7 kV7 dc7 pm7 cd7 ct7 : Value} (a7 : PySem.W.nsIn K mainGlobals "shown" = some (some (.ref f7))) (l7 : K.lookup f7 = some ⟨oc7, od7, .func (PySem.W.fnOf "shown" "shown" (defArgs s_shown) (defBody s_shown) (defScope s_shown) .none kV7 dc7 pm7 an7 cd7 ct7), sl7⟩) (c7 : PySem.W.codeIn K cd7 "shown" = true) (k7 : PySem.W.keepIn K (.ref f7) = true)
    {od8 an8 : Option Addr} {sl8 : Array (Option Value)} {oc8 kV8 dc8 pm8 cd8 ct8 : Value} (a8 : PySem.W.nsIn K mainGlobals "is_figures" = some (some (.ref f8))) (l8 : K.lookup f8 = some ⟨oc8, od8, .func (PySem.W.fnOf "is_figures" "is_figures" (defArgs s_is_figures) (defBody s_is_figures) (defScope s_is_figures) .none kV8 dc8 pm8 an8 cd8 ct8), sl8⟩) (c8 : PySem.W.codeIn K cd8 "is_figures" = true) (k8 : PySem.W.keepIn K (.ref f8) = true)
    {od9 an9 : Option Addr} {sl9 : Array (Option Value)} {oc9 kV9 dc9 pm9 cd9 ct9 : Value} (a9 : PySem.W.nsIn K mainGlobals "number_of" = some (some (.ref f9))) (l9 : K.lookup f9 = some ⟨oc9, od9, .func (PySem.W.fnOf "number_of" "number_of" (defArgs s_number_of) (defBody s_number_of) (defScope s_number_of) .none kV9 dc9 pm9 an9 cd9 ct9), sl9⟩) (c9 : PySem.W.codeIn K cd9 "number_of" = true) (k9 : PySem.W.keepIn K (.ref f9) = true)
    {od10 an10 : Option Addr} {sl10 : Array (Option Value)} {oc10 kV10 dc10 pm10 cd10 ct10 : Value} (a10 : PySem.W.nsIn K mainGlobals "is_whole" = some (some (.ref f10))) (l10 : K.lookup f10 = some ⟨oc10, od10, .func (PySem.W.fnOf "is_whole" "is_whole" (defArgs s_is_whole) (defBody s_is_whole) (defScope s_is_whole) .none kV10 dc10 pm10 an10 cd10 ct10), sl10⟩) (c10 : PySem.W.codeIn K cd10 "is_whole" = true) (k10 : PySem.W.keepIn K (.ref f10) = true)
    {od11 an11 : Option Addr} {sl11 : Array (Option Value)} {oc11 kV11 dc11 pm11 cd11 ct11 : Value} (a11 : PySem.W.nsIn K mainGlobals "is_worth" = some (some (.ref f11))) (l11 : K.lookup f11 = some ⟨oc11, od11, .func (PySem.W.fnOf "is_worth" "is_worth" (defArgs s_is_worth) (defBody s_is_worth) (defScope s_is_worth) .none kV11 dc11 pm11 an11 cd11 ct11), sl11⟩) (c11 : PySem.W.codeIn K cd11 "is_worth" = true) (k11 : PySem.W.keepIn K (.ref f11) = true)
    {od12 an12 : Option Addr} {sl12 : Array (Option Value)} {oc12 kV12 dc12 pm12 cd12 ct12 : Value} (a12 : PySem.W.nsIn K mainGlobals "stand_of" = some (some (.ref f12))) (l12 : K.lookup f12 = some ⟨oc12, od12, .func (PySem.W.fnOf "stand_of" "stand_of" (defArgs s_stand_of) (defBody s_stand_of) (defScope s_stand_of) .none kV12 dc12 pm12 an12 cd12 ct12), sl12⟩) (c12 : PySem.W.codeIn K cd12 "stand_of" = true) (k12 : PySem.W.keepIn K (.ref f12) = true)
    {od13 an13 : Option Addr} {sl13 : Array (Option Value)} {oc13 kV13 dc13 pm13 cd13 ct13 : Value} (a13 : PySem.W.nsIn K mainGlobals "are_steps" = some (some (.ref f13))) (l13 : K.lookup f13 = some ⟨oc13, od13, .func (PySem.W.fnOf "are_steps" "are_steps" (defArgs s_are_steps) (defBody s_are_steps) (defScope s_are_steps) .none kV13 dc13 pm13 an13 cd13 ct13), sl13⟩) (c13 : PySem.W.codeIn K cd13 "are_steps" = true) (k13 : PySem.W.keepIn K (.ref f13) = true)
    {od14 an14 : Option Addr} {sl14 : Array (Option Value)} {oc14 kV14 dc14 pm14 cd14 ct14 : Value} (a14 : PySem.W.nsIn K mainGlobals "is_stand" = some (some (.ref f14))) (l14 : K.lookup f14 = some ⟨oc14, od14, .func (PySem.W.fnOf "is_stand" "is_stand" (defArgs s_is_stand) (defBody s_is_stand) (defScope s_is_stand) .none kV14 dc14 pm14 an14 cd14 ct14), sl14⟩) (c14 : PySem.W.codeIn K cd14 "is_stand" = true) (k14 : PySem.W.keepIn K (.ref f14) = true)
    {od15 an15 : Option Addr} {sl15 : Array (Option Value)} {oc15 kV15 dc15 pm15 cd15 ct15 : Value} (a15 : PySem.W.nsIn K mainGlobals "steps_of" = some (some (.ref f15))) (l15 : K.lookup f15 = some ⟨oc15, od15, .func (PySem.W.fnOf "steps_of" "steps_of" (defArgs s_steps_of) (defBody s_steps_of) (defScope s_steps_of) .none kV15 dc15 pm15 an15 cd15 ct15), sl15⟩) (c15 : PySem.W.codeIn K cd15 "steps_of" = true) (k15 : PySem.W.keepIn K (.ref f15) = true)
    {od16 an16 : Option Addr} {sl16 : Array (Option Value)} {oc16 kV16 dc16 pm16 cd16 ct16 : Value} (a16 : PySem.W.nsIn K mainGlobals "led_to" = some (some (.ref f16))) (l16 : K.lookup f16 = some ⟨oc16, od16, .func (PySem.W.fnOf "led_to" "led_to" (defArgs s_led_to) (defBody s_led_to) (defScope s_led_to) .none kV16 dc16 pm16 an16 cd16 ct16), sl16⟩) (c16 : PySem.W.codeIn K cd16 "led_to" = true) (k16 : PySem.W.keepIn K (.ref f16) = true)
    {od17 an17 : Option Addr} {sl17 : Array (Option Value)} {oc17 kV17 dc17 pm17 cd17 ct17 : Value} (a17 : PySem.W.nsIn K mainGlobals "farthest" = some (some (.ref f17))) (l17 : K.lookup f17 = some ⟨oc17, od17, .func (PySem.W.fnOf "farthest" "farthest" (defArgs s_farthest) (defBody s_farthest) (defScope s_farthest) .none kV17 dc17 pm17 an17 cd17 ct17), sl17⟩) (c17 : PySem.W.codeIn K cd17 "farthest" = true) (k17 : PySem.W.keepIn K (.ref f17) = true)
    {od18 an18 : Option Addr} {sl18 : Array (Option Value)} {oc18 kV18 dc18 pm18 cd18 ct18 : Value} (a18 : PySem.W.nsIn K mainGlobals "look_at_play" = some (some (.ref f18))) (l18 : K.lookup f18 = some ⟨oc18, od18, .func (PySem.W.fnOf "look_at_play" "look_at_play" (defArgs s_look_at_play) (defBody s_look_at_play) (defScope s_look_at_play) .none kV18 dc18 pm18 an18 cd18 ct18), sl18⟩) (c18 : PySem.W.codeIn K cd18 "look_at_play" = true) (k18 : PySem.W.keepIn K (.ref f18) = true)
    {od19 an19 : Option Addr} {sl19 : Array (Option Value)} {oc19 kV19 dc19 pm19 cd19 ct19 : Value} (a19 : PySem.W.nsIn K mainGlobals "read" = some (some (.ref f19))) (l19 : K.lookup f19 = some ⟨oc19, od19, .func (PySem.W.fnOf "read" "read" (defArgs s_read) (defBody s_read) (defScope s_read) .none kV19 dc19 pm19 an19 cd19 ct19), sl19⟩) (c19 : PySem.W.codeIn K cd19 "read" = true) (k19 : PySem.W.keepIn K (.ref f19) = true)
    {od20 an20 : Option Addr} {sl20 : Array (Option Value)} {oc20 kV20 dc20 pm20 cd20 ct20 : Value} (a20 : PySem.W.nsIn K mainGlobals "_law_back" = some (some (.ref f20))) (l20 : K.lookup f20 = some ⟨oc20, od20, .func (PySem.W.fnOf "_law_back" "_law_back" (defArgs s_law_back) (defBody s_law_back) (defScope s_law_back) .none kV20 dc20 pm20 an20 cd20 ct20), sl20⟩) (c20 : PySem.W.codeIn K cd20 "_law_back" = true) (k20 : PySem.W.keepIn K (.ref f20) = true)
    {od21 an21 : Option Addr} {sl21 : Array (Option Value)} {oc21 kV21 dc21 pm21 cd21 ct21 : Value} (a21 : PySem.W.nsIn K mainGlobals "_law_other" = some (some (.ref f21))) (l21 : K.lookup f21 = some ⟨oc21, od21, .func (PySem.W.fnOf "_law_other" "_law_other" (defArgs s_law_other) (defBody s_law_other) (defScope s_law_other) .none kV21 dc21 pm21 an21 cd21 ct21), sl21⟩) (c21 : PySem.W.codeIn K cd21 "_law_other" = true) (k21 : PySem.W.keepIn K (.ref f21) = true)
    {od22 an22 : Option Addr} {sl22 : Array (Option Value)} {oc22 kV22 dc22 pm22 cd22 ct22 : Value} (a22 : PySem.W.nsIn K mainGlobals "law" = some (some (.ref f22))) (l22 : K.lookup f22 = some ⟨oc22, od22, .func (PySem.W.fnOf "law" "law" (defArgs s_law) (defBody s_law) (defScope s_law) .none kV22 dc22 pm22 an22 cd22 ct22), sl22⟩) (c22 : PySem.W.codeIn K cd22 "law" = true) (k22 : PySem.W.keepIn K (.ref f22) = true)
    (z0 : PySem.W.nsIn K mainGlobals "len" = some none)
    (z1 : PySem.W.nsIn K mainGlobals "int" = some none)
    (z2 : PySem.W.nsIn K mainGlobals "range" = some none)
    (z3 : PySem.W.nsIn K mainGlobals "max" = some none)
    (z4 : PySem.W.nsIn K mainGlobals "min" = some none)
    (z5 : PySem.W.nsIn K mainGlobals "tuple" = some none)
    (z6 : PySem.W.nsIn K mainGlobals "str" = some none)
    (z7 : PySem.W.nsIn K mainGlobals "all" = some none)
    (z8 : PySem.W.nsIn K mainGlobals "isinstance" = some none)
    (z9 : PySem.W.nsIn K mainGlobals "bool" = some none)
    (z10 : PySem.W.nsIn K mainGlobals "abs" = some none)
    (z11 : PySem.W.nsIn K mainGlobals "enumerate" = some none)
    (z12 : PySem.W.nsIn K mainGlobals "list" = some none)
    (z13 : PySem.W.nsIn K mainGlobals "repr" = some none)
    {t0 : Nat} (glo0 : PySem.W.nsIn K mainGlobals "FIGURES" = some (some (.str "0123456789" t0)))
    {t1 : Nat} (glo1 : PySem.W.nsIn K mainGlobals "MOST_FIGURES" = some (some (.int 31 t1)))
    {t2 : Nat} (glo2 : PySem.W.nsIn K mainGlobals "GREATEST" = some (some (.int 1000000000000000000000000000000 t2)))
    {aG3 : Addr} {dG3 : Option Addr} {nG3 : Nat} {sG3 : Array (Option Value)} {tG3 uG3 : Nat} (glo3 : PySem.W.nsIn K mainGlobals "HANDS" = some (some (.ref aG3))) (glt3 : K.lookup aG3 = some ⟨.type "tuple", dG3, .seq #[.str "high" tG3, .str "low" uG3] nG3, sG3⟩)
    {t4 : Nat} (glo4 : PySem.W.nsIn K mainGlobals "MOST_BOUGHS" = some (some (.int 12 t4)))
    {t5 : Nat} (glo5 : PySem.W.nsIn K mainGlobals "MOST_STANDS" = some (some (.int 400 t5)))
    {t6 : Nat} (glo6 : PySem.W.nsIn K mainGlobals "MOST_STEPS" = some (some (.int 40 t6))) :
    ∃ fd : FuncData, (∀ (s : Shared) (v : Value), BindsTo s fd ⟨[v], []⟩ [("_law_script", v)]) ∧ ∀ base : Heap, K.In base → base.Ns mainGlobals mg → (∀ p ∈ tabsC K, LamX.TabB base mg p.1 p.2) → FnG l.prog w K mg base CX0 7 fa fd ["_law_script"] (spV K [.bor] (FLaw 63)) := by
  have e := hfa.symm.trans (PySem.W.mg_of X G a22)
  cases e
  have F0 := fun_mk (st := s_law_pool) l0 c0 k0
  have b0 := F0.binds (ps := ["_law_script", "_law_k"]) fun _ _ _ _ _ _ us hl => match us, hl with | [_, _], _ => rfl
  have F1 := fun_mk (st := s_law_take) l1 c1 k1
  have b1 := F1.binds (ps := ["_law_pool_here", "_law_many"]) fun _ _ _ _ _ _ us hl => match us, hl with | [_, _], _ => rfl
  have F2 := fun_mk (st := s_law_kids) l2 c2 k2
  have b2 := F2.binds (ps := ["_law_script", "_law_head", "_law_most"]) fun _ _ _ _ _ _ us hl => match us, hl with | [_, _, _], _ => rfl
  have F3 := fun_mk (st := s_law_merged) l3 c3 k3
  have b3 := F3.binds (ps := ["_law_second", "_law_kids_here", "_law_far"]) fun _ _ _ _ _ _ us hl => match us, hl with | [_, _, _], _ => rfl
  have F4 := fun_mk (st := s_law_hand) l4 c4 k4
  have b4 := F4.binds (ps := ["_law_second", "_law_turns", "_law_far"]) fun _ _ _ _ _ _ us hl => match us, hl with | [_, _, _], _ => rfl
  have F5 := fun_mk (st := s_law_worth) l5 c5 k5
  have b5 := F5.binds (ps := ["_law_pool_here", "_law_style", "_law_k"]) fun _ _ _ _ _ _ us hl => match us, hl with | [_, _, _], _ => rfl
  have F6 := fun_mk (st := s_law_play) l6 c6 k6
  have b6 := F6.binds (ps := ["_law_script", "_law_most", "_law_merge"]) fun _ _ _ _ _ _ us hl => match us, hl with | [_, _, _], _ => rfl
  have F7 := fun_mk (st := s_shown) l7 c7 k7
  have b7 := F7.binds (ps := ["play"]) fun _ _ _ _ _ _ us hl => match us, hl with | [_], _ => rfl
  have F8 := fun_mk (st := s_is_figures) l8 c8 k8
  have b8 := F8.binds (ps := ["word"]) fun _ _ _ _ _ _ us hl => match us, hl with | [_], _ => rfl
  have F9 := fun_mk (st := s_number_of) l9 c9 k9
  have b9 := F9.binds (ps := ["word"]) fun _ _ _ _ _ _ us hl => match us, hl with | [_], _ => rfl
  have F10 := fun_mk (st := s_is_whole) l10 c10 k10
  have b10 := F10.binds (ps := ["thing"]) fun _ _ _ _ _ _ us hl => match us, hl with | [_], _ => rfl
  have F11 := fun_mk (st := s_is_worth) l11 c11 k11
  have b11 := F11.binds (ps := ["thing"]) fun _ _ _ _ _ _ us hl => match us, hl with | [_], _ => rfl
  have F12 := fun_mk (st := s_stand_of) l12 c12 k12
  have b12 := F12.binds (ps := ["row"]) fun _ _ _ _ _ _ us hl => match us, hl with | [_], _ => rfl
  have F13 := fun_mk (st := s_are_steps) l13 c13 k13
  have b13 := F13.binds (ps := ["thing", "number", "many"]) fun _ _ _ _ _ _ us hl => match us, hl with | [_, _, _], _ => rfl
  have F14 := fun_mk (st := s_is_stand) l14 c14 k14
  have b14 := F14.binds (ps := ["thing", "number", "many"]) fun _ _ _ _ _ _ us hl => match us, hl with | [_, _, _], _ => rfl
  have F15 := fun_mk (st := s_steps_of) l15 c15 k15
  have b15 := F15.binds (ps := ["play", "number"]) fun _ _ _ _ _ _ us hl => match us, hl with | [_, _], _ => rfl
  have F16 := fun_mk (st := s_led_to) l16 c16 k16
  have b16 := F16.binds (ps := ["play"]) fun _ _ _ _ _ _ us hl => match us, hl with | [_], _ => rfl
  have F17 := fun_mk (st := s_farthest) l17 c17 k17
  have b17 := F17.binds (ps := ["play"]) fun _ _ _ _ _ _ us hl => match us, hl with | [_], _ => rfl
  have F18 := fun_mk (st := s_look_at_play) l18 c18 k18
  have b18 := F18.binds (ps := ["thing"]) fun _ _ _ _ _ _ us hl => match us, hl with | [_], _ => rfl
  have F19 := fun_mk (st := s_read) l19 c19 k19
  have b19 := F19.binds (ps := ["text"]) fun _ _ _ _ _ _ us hl => match us, hl with | [_], _ => rfl
  have F20 := fun_mk (st := s_law_back) l20 c20 k20
  have b20 := F20.binds (ps := ["_law_play_here", "_law_text"]) fun _ _ _ _ _ _ us hl => match us, hl with | [_, _], _ => rfl
  have F21 := fun_mk (st := s_law_other) l21 c21 k21
  have b21 := F21.binds (ps := ["_law_pool_here", "_law_play_here"]) fun _ _ _ _ _ _ us hl => match us, hl with | [_, _], _ => rfl
  have F22 := fun_mk (st := s_law) l22 c22 k22
  have b22 := F22.binds (ps := ["_law_script"]) fun _ _ _ _ _ _ us hl => match us, hl with | [_], _ => rfl
  refine ⟨PySem.W.fnOf "law" "law" (defArgs s_law) (defBody s_law) (defScope s_law) .none kV22 dc22 pm22 an22 cd22 ct22, fun s v => .of_eq rfl, fun base _ _ hTB => ?_⟩
  have I0 : FnI l.prog w K mg base 1 "_law_pool" ⟨[.bor, .bor], F_pool⟩ := fn_in F0 (PySem.W.mg_of X G a0) b0 sc_law_pool rfl (show GOk l.prog w K mg base (Gm_pool) 0 from ⟨gl_nil, (bi_cons (PySem.W.mg_none_of X G z0) (bi_cons (PySem.W.mg_none_of X G z1) bi_nil)), fns_nil, cl_nil, xfns_nil, xcl_nil, xc_nil, (fun _ _ h => by cases h)⟩) rfl ch_law_pool w_pool
  have I1 : FnI l.prog w K mg base 1 "_law_take" ⟨[.own, .bor], F_take⟩ := fn_in F1 (PySem.W.mg_of X G a1) b1 sc_law_take rfl (show GOk l.prog w K mg base (Gm_take) 0 from ⟨gl_nil, bi_nil, fns_nil, cl_nil, xfns_nil, xcl_nil, xc_nil, (fun _ _ h => by cases h)⟩) rfl ch_law_take w_take
  have I2 : FnI l.prog w K mg base 2 "_law_kids" ⟨[.bor, .own, .bor], F_kids⟩ := fn_in F2 (PySem.W.mg_of X G a2) b2 sc_law_kids rfl (show GOk l.prog w K mg base (Gm_kids) 1 from ⟨gl_nil, (bi_cons (PySem.W.mg_none_of X G z2) (bi_cons (PySem.W.mg_none_of X G z3) (bi_cons (PySem.W.mg_none_of X G z4) (bi_cons (PySem.W.mg_none_of X G z0) bi_nil)))), (fns_cons (I1.mono (by decide)) (fns_cons (I0.mono (by decide)) fns_nil)), cl_nil, xfns_nil, xcl_nil, xc_nil, (fun _ _ h => by cases h)⟩) rfl ch_law_kids w_kids
  have I3 : FnI l.prog w K mg base 2 "_law_merged" ⟨[.own, .own, .bor], F_merged⟩ := fn_in F3 (PySem.W.mg_of X G a3) b3 sc_law_merged rfl (show GOk l.prog w K mg base (Gm_merged) 1 from ⟨gl_nil, (bi_cons (PySem.W.mg_none_of X G z2) (bi_cons (PySem.W.mg_none_of X G z0) bi_nil)), (fns_cons (I1.mono (by decide)) fns_nil), cl_nil, xfns_nil, xcl_nil, xc_nil, (fun _ _ h => by cases h)⟩) rfl ch_law_merged w_merged
  have I4 : FnI l.prog w K mg base 2 "_law_hand" ⟨[.own, .bor, .bor], F_hand⟩ := fn_in F4 (PySem.W.mg_of X G a4) b4 sc_law_hand rfl (show GOk l.prog w K mg base (Gm_hand) 1 from ⟨gl_nil, bi_nil, (fns_cons (I1.mono (by decide)) fns_nil), cl_nil, xfns_nil, xcl_nil, xc_nil, (fun _ _ h => by cases h)⟩) rfl ch_law_hand w_hand
  have I5 : FnI l.prog w K mg base 2 "_law_worth" ⟨[.own, .bor, .bor], F_worth⟩ := fn_in F5 (PySem.W.mg_of X G a5) b5 sc_law_worth rfl (show GOk l.prog w K mg base (Gm_worth) 1 from ⟨gl_nil, bi_nil, (fns_cons (I1.mono (by decide)) fns_nil), cl_nil, xfns_nil, xcl_nil, xc_nil, (fun _ _ h => by cases h)⟩) rfl ch_law_worth w_worth
  have I6 : FnI l.prog w K mg base 3 "_law_play" ⟨[.bor, .bor, .bor], F_play⟩ := fn_in F6 (PySem.W.mg_of X G a6) b6 sc_law_play rfl (show GOk l.prog w K mg base (Gm_play) 2 from ⟨gl_nil, (bi_cons (PySem.W.mg_none_of X G z2) (bi_cons (PySem.W.mg_none_of X G z0) (bi_cons (PySem.W.mg_none_of X G z5) (bi_cons (PySem.W.mg_none_of X G z1) bi_nil)))), (fns_cons (I0.mono (by decide)) (fns_cons (I2.mono (by decide)) (fns_cons (I1.mono (by decide)) (fns_cons (I3.mono (by decide)) (fns_cons (I4.mono (by decide)) (fns_cons (I5.mono (by decide)) fns_nil)))))), cl_nil, xfns_nil, xcl_nil, xc_nil, (fun _ _ h => by cases h)⟩) rfl ch_law_play w_play
  have I7 : FnI l.prog w K mg base 1 "shown" ⟨[.bor], F_shown⟩ := fn_in F7 (PySem.W.mg_of X G a7) b7 sc_shown rfl (show GOk l.prog w K mg base (Gm_shown) 0 from ⟨gl_nil, (bi_cons (PySem.W.mg_none_of X G z6) bi_nil), fns_nil, cl_nil, xfns_nil, xcl_nil, xc_nil, (fun _ _ h => by cases h)⟩) rfl ch_shown w_shown
  have I8 : FnI l.prog w K mg base 1 "is_figures" ⟨[.bor], F_is_figures⟩ := fn_in F8 (PySem.W.mg_of X G a8) b8 sc_is_figures rfl (show GOk l.prog w K mg base (Gm_is_figures) 0 from ⟨(gl_str (PySem.W.mg_of X G glo0) (gl_int (PySem.W.mg_of X G glo1) gl_nil)), (bi_cons (PySem.W.mg_none_of X G z7) (bi_cons (PySem.W.mg_none_of X G z0) bi_nil)), fns_nil, cl_nil, xfns_nil, xcl_nil, xc_nil, (fun _ _ h => by cases h)⟩) rfl ch_is_figures w_is_figures
  have I9 : FnI l.prog w K mg base 2 "number_of" ⟨[.bor], F_number_of⟩ := fn_in F9 (PySem.W.mg_of X G a9) b9 sc_number_of rfl (show GOk l.prog w K mg base (Gm_number_of) 1 from ⟨gl_nil, (bi_cons (PySem.W.mg_none_of X G z1) bi_nil), (fns_cons (I8.mono (by decide)) fns_nil), cl_nil, xfns_nil, xcl_nil, xc_nil, (fun _ _ h => by cases h)⟩) rfl ch_number_of w_number_of
  have I10 : FnI l.prog w K mg base 1 "is_whole" ⟨[.bor], F_is_whole⟩ := fn_in F10 (PySem.W.mg_of X G a10) b10 sc_is_whole rfl (show GOk l.prog w K mg base (Gm_is_whole) 0 from ⟨gl_nil, (bi_cons (PySem.W.mg_none_of X G z8) (bi_cons (PySem.W.mg_none_of X G z9) (bi_cons (PySem.W.mg_none_of X G z1) bi_nil))), fns_nil, cl_nil, xfns_nil, xcl_nil, xc_nil, (fun _ _ h => by cases h)⟩) rfl ch_is_whole w_is_whole
  have I11 : FnI l.prog w K mg base 2 "is_worth" ⟨[.bor], F_is_worthG⟩ := fn_in F11 (PySem.W.mg_of X G a11) b11 sc_is_worth rfl (show GOk l.prog w K mg base (Gm_is_worth) 1 from ⟨(gl_int (PySem.W.mg_of X G glo2) gl_nil), (bi_cons (PySem.W.mg_none_of X G z10) bi_nil), (fns_cons (I10.mono (by decide)) fns_nil), cl_nil, xfns_nil, xcl_nil, xc_nil, (fun _ _ h => by cases h)⟩) rfl ch_is_worth w_is_worthG
  have I12 : FnI l.prog w K mg base 3 "stand_of" ⟨[.bor], F_stand_of⟩ := fn_in F12 (PySem.W.mg_of X G a12) b12 sc_stand_of rfl (show GOk l.prog w K mg base (Gm_stand_of) 2 from ⟨(gl_two (PySem.W.mg_of X G glo3) glt3 gl_nil), (bi_cons (PySem.W.mg_none_of X G z0) (bi_cons (PySem.W.mg_none_of X G z4) (bi_cons (PySem.W.mg_none_of X G z5) bi_nil))), (fns_cons (I9.mono (by decide)) (fns_cons (I11.mono (by decide)) fns_nil)), cl_nil, xfns_nil, xcl_nil, xc_nil, (fun _ _ h => by cases h)⟩) rfl ch_stand_of w_stand_of
  have I13 : FnI l.prog w K mg base 2 "are_steps" ⟨[.bor, .bor, .bor], F_are_stepsG⟩ := fn_in F13 (PySem.W.mg_of X G a13) b13 sc_are_steps rfl (show GOk l.prog w K mg base (Gm_are_steps) 1 from ⟨(gl_int (PySem.W.mg_of X G glo4) gl_nil), (bi_cons (PySem.W.mg_none_of X G z8) (bi_cons (PySem.W.mg_none_of X G z5) (bi_cons (PySem.W.mg_none_of X G z0) (bi_cons (PySem.W.mg_none_of X G z11) bi_nil)))), (fns_cons (I10.mono (by decide)) fns_nil), cl_nil, xfns_nil, xcl_nil, xc_nil, (fun _ _ h => by cases h)⟩) rfl ch_are_steps w_are_stepsG
  have I14 : FnI l.prog w K mg base 3 "is_stand" ⟨[.bor, .bor, .bor], F_is_standG⟩ := fn_in F14 (PySem.W.mg_of X G a14) b14 sc_is_stand rfl (show GOk l.prog w K mg base (Gm_is_stand) 2 from ⟨(gl_two (PySem.W.mg_of X G glo3) glt3 gl_nil), (bi_cons (PySem.W.mg_none_of X G z8) (bi_cons (PySem.W.mg_none_of X G z5) (bi_cons (PySem.W.mg_none_of X G z0) (bi_cons (PySem.W.mg_none_of X G z6) bi_nil)))), (fns_cons (I11.mono (by decide)) (fns_cons (I13.mono (by decide)) fns_nil)), cl_nil, xfns_nil, xcl_nil, xc_nil, (fun _ _ h => by cases h)⟩) rfl ch_is_stand w_is_standG
  have I15 : FnI l.prog w K mg base 1 "steps_of" ⟨[.bor, .bor], F_steps_of⟩ := fn_in F15 (PySem.W.mg_of X G a15) b15 sc_steps_of rfl (show GOk l.prog w K mg base (Gm_steps_of) 0 from ⟨gl_nil, bi_nil, fns_nil, cl_nil, xfns_nil, xcl_nil, xc_nil, (fun _ _ h => by cases h)⟩) rfl ch_steps_of w_steps_of
  have I16 : FnI l.prog w K mg base 2 "led_to" ⟨[.bor], F_led_to⟩ := fn_in F16 (PySem.W.mg_of X G a16) b16 sc_led_to rfl (show GOk l.prog w K mg base (Gm_led_to) 1 from ⟨gl_nil, (bi_cons (PySem.W.mg_none_of X G z0) (bi_cons (PySem.W.mg_none_of X G z2) bi_nil)), (fns_cons (I15.mono (by decide)) fns_nil), cl_nil, xfns_nil, xcl_nil, xc_nil, (fun _ _ h => by cases h)⟩) rfl ch_led_to w_led_to
  have I17 : FnI l.prog w K mg base 2 "farthest" ⟨[.bor], F_farthest⟩ := fn_in F17 (PySem.W.mg_of X G a17) b17 sc_farthest rfl (show GOk l.prog w K mg base (Gm_farthest) 1 from ⟨gl_nil, (bi_cons (PySem.W.mg_none_of X G z0) (bi_cons (PySem.W.mg_none_of X G z2) (bi_cons (PySem.W.mg_none_of X G z3) bi_nil))), (fns_cons (I15.mono (by decide)) fns_nil), cl_nil, xfns_nil, xcl_nil, xc_nil, (fun _ _ h => by cases h)⟩) rfl ch_farthest w_farthest
  have I18 : FnI l.prog w K mg base 4 "look_at_play" ⟨[.bor], F_look_at_playG⟩ := fn_in F18 (PySem.W.mg_of X G a18) b18 sc_look_at_play rfl (show GOk l.prog w K mg base (Gm_look_at_play) 3 from ⟨(gl_int (PySem.W.mg_of X G glo5) (gl_int (PySem.W.mg_of X G glo6) gl_nil)), (bi_cons (PySem.W.mg_none_of X G z0) (bi_cons (PySem.W.mg_none_of X G z8) (bi_cons (PySem.W.mg_none_of X G z12) (bi_cons (PySem.W.mg_none_of X G z11) bi_nil)))), (fns_cons (I14.mono (by decide)) (fns_cons (I16.mono (by decide)) (fns_cons (I17.mono (by decide)) fns_nil))), cl_nil, xfns_nil, xcl_nil, xc_nil, (fun _ _ h => by cases h)⟩) rfl ch_look_at_play w_look_at_playG
  have I19 : FnI l.prog w K mg base 5 "read" ⟨[.bor], F_read⟩ := fn_in F19 (PySem.W.mg_of X G a19) b19 sc_read rfl (show GOk l.prog w K mg base (Gm_read) 4 from ⟨gl_nil, (bi_cons (PySem.W.mg_none_of X G z8) (bi_cons (PySem.W.mg_none_of X G z6) bi_nil)), (fns_cons (I12.mono (by decide)) (fns_cons (I18.mono (by decide)) fns_nil)), cl_nil, xfns_nil, xcl_nil, xc_nil, (fun _ _ h => by cases h)⟩) rfl ch_read w_read
  have I20 : FnI l.prog w K mg base 6 "_law_back" ⟨[.bor, .bor], F_law_back⟩ := fn_in F20 (PySem.W.mg_of X G a20) b20 sc_law_back rfl (show GOk l.prog w K mg base (Gm_law_back) 5 from ⟨gl_nil, (bi_cons (PySem.W.mg_none_of X G z13) bi_nil), (fns_cons (I18.mono (by decide)) (fns_cons (I19.mono (by decide)) (fns_cons (I7.mono (by decide)) fns_nil))), cl_nil, xfns_nil, xcl_nil, xc_nil, (fun _ _ h => by cases h)⟩) rfl ch_law_back w_law_back
  have I21 : FnI l.prog w K mg base 2 "_law_other" ⟨[.own, .bor], F_law_other⟩ := fn_in F21 (PySem.W.mg_of X G a21) b21 sc_law_other rfl (show GOk l.prog w K mg base (Gm_law_other) 1 from ⟨gl_nil, (bi_cons (PySem.W.mg_none_of X G z0) (bi_cons (PySem.W.mg_none_of X G z1) (bi_cons (PySem.W.mg_none_of X G z12) (bi_cons (PySem.W.mg_none_of X G z5) bi_nil)))), (fns_cons (I1.mono (by decide)) fns_nil), cl_nil, xfns_nil, xcl_nil, xc_nil, (fun _ _ h => by cases h)⟩) rfl ch_law_other w_law_other
  exact fn_ok F22 sc_law rfl (show GOk l.prog w K mg base (Gm_law) 6 from ⟨gl_nil, (bi_cons (PySem.W.mg_none_of X G z0) (bi_cons (PySem.W.mg_none_of X G z2) bi_nil)), (fns_cons (I6.mono (by decide)) (fns_cons (I7.mono (by decide)) (fns_cons (I20.mono (by decide)) (fns_cons (I21.mono (by decide)) (fns_cons (I0.mono (by decide)) fns_nil))))), cl_nil, xfns_nil, xcl_nil, xc_nil, (fun _ _ h => by cases h)⟩) rfl ch_law w_law
theorem allH {l : PySem.W.OpenLaw} {w : World} {K : PySem.W.Frag} {h : Heap} {mg : Str → Option Value} {fa : Addr} (c : obsH fH dH K = He.valD dH) (X : K.In h) (G : h.Ns mainGlobals mg) (hfa : mg "law" = some (.ref fa)) :
    ∃ fd : FuncData, (∀ (s : Shared) (v : Value), BindsTo s fd ⟨[v], []⟩ [("_law_script", v)]) ∧ ∀ base : Heap, K.In base → base.Ns mainGlobals mg → (∀ p ∈ tabsC K, LamX.TabB base mg p.1 p.2) → FnG l.prog w K mg base CX0 7 fa fd ["_law_script"] (spV K [.bor] (FLaw 63)) := by
  obtain ⟨_, _, _, _, _, _, _, _, _, hl0, hc0, hk0⟩ := fun_of (defH c 0 (d := ⟨⟨"_law_pool", none⟩, "_law_pool", "_law_pool", defArgs s_law_pool, defBody s_law_pool, defScope s_law_pool, [], []⟩) rfl)
  obtain ⟨_, _, _, _, _, _, _, _, _, hl1, hc1, hk1⟩ := fun_of (defH c 1 (d := ⟨⟨"_law_take", none⟩, "_law_take", "_law_take", defArgs s_law_take, defBody s_law_take, defScope s_law_take, [], []⟩) rfl)
  obtain ⟨_, _, _, _, _, _, _, _, _, hl2, hc2, hk2⟩ := fun_of (defH c 2 (d := ⟨⟨"_law_kids", none⟩, "_law_kids", "_law_kids", defArgs s_law_kids, defBody s_law_kids, defScope s_law_kids, [], []⟩) rfl)
  obtain ⟨_, _, _, _, _, _, _, _, _, hl3, hc3, hk3⟩ := fun_of (defH c 3 (d := ⟨⟨"_law_merged", none⟩, "_law_merged", "_law_merged", defArgs s_law_merged, defBody s_law_merged, defScope s_law_merged, [], []⟩) rfl)
  obtain ⟨_, _, _, _, _, _, _, _, _, hl4, hc4, hk4⟩ := fun_of (defH c 4 (d := ⟨⟨"_law_hand", none⟩, "_law_hand", "_law_hand", defArgs s_law_hand, defBody s_law_hand, defScope s_law_hand, [], []⟩) rfl)
  obtain ⟨_, _, _, _, _, _, _, _, _, hl5, hc5, hk5⟩ := fun_of (defH c 5 (d := ⟨⟨"_law_worth", none⟩, "_law_worth", "_law_worth", defArgs s_law_worth, defBody s_law_worth, defScope s_law_worth, [], []⟩) rfl)
  obtain ⟨_, _, _, _, _, _, _, _, _, hl6, hc6, hk6⟩ := fun_of (defH c 6 (d := ⟨⟨"_law_play", none⟩, "_law_play", "_law_play", defArgs s_law_play, defBody s_law_play, defScope s_law_play, [], []⟩) rfl)
  obtain ⟨_, _, _, _, _, _, _, _, _, hl7, hc7, hk7⟩ := fun_of (defH c 7 (d := ⟨⟨"shown", none⟩, "shown", "shown", defArgs s_shown, defBody s_shown, defScope s_shown, [], []⟩) rfl)
  obtain ⟨_, _, _, _, _, _, _, _, _, hl8, hc8, hk8⟩ := fun_of (defH c 8 (d := ⟨⟨"is_figures", none⟩, "is_figures", "is_figures", defArgs s_is_figures, defBody s_is_figures, defScope s_is_figures, [], []⟩) rfl)
  obtain ⟨_, _, _, _, _, _, _, _, _, hl9, hc9, hk9⟩ := fun_of (defH c 9 (d := ⟨⟨"number_of", none⟩, "number_of", "number_of", defArgs s_number_of, defBody s_number_of, defScope s_number_of, [], []⟩) rfl)
  obtain ⟨_, _, _, _, _, _, _, _, _, hl10, hc10, hk10⟩ := fun_of (defH c 10 (d := ⟨⟨"is_whole", none⟩, "is_whole", "is_whole", defArgs s_is_whole, defBody s_is_whole, defScope s_is_whole, [], []⟩) rfl)
  obtain ⟨_, _, _, _, _, _, _, _, _, hl11, hc11, hk11⟩ := fun_of (defH c 11 (d := ⟨⟨"is_worth", none⟩, "is_worth", "is_worth", defArgs s_is_worth, defBody s_is_worth, defScope s_is_worth, [], []⟩) rfl)
  obtain ⟨_, _, _, _, _, _, _, _, _, hl12, hc12, hk12⟩ := fun_of (defH c 12 (d := ⟨⟨"stand_of", none⟩, "stand_of", "stand_of", defArgs s_stand_of, defBody s_stand_of, defScope s_stand_of, [], []⟩) rfl)
  obtain ⟨_, _, _, _, _, _, _, _, _, hl13, hc13, hk13⟩ := fun_of (defH c 13 (d := ⟨⟨"are_steps", none⟩, "are_steps", "are_steps", defArgs s_are_steps, defBody s_are_steps, defScope s_are_steps, [], []⟩) rfl)
  obtain ⟨_, _, _, _, _, _, _, _, _, hl14, hc14, hk14⟩ := fun_of (defH c 14 (d := ⟨⟨"is_stand", none⟩, "is_stand", "is_stand", defArgs s_is_stand, defBody s_is_stand, defScope s_is_stand, [], []⟩) rfl)
  obtain ⟨_, _, _, _, _, _, _, _, _, hl15, hc15, hk15⟩ := fun_of (defH c 15 (d := ⟨⟨"steps_of", none⟩, "steps_of", "steps_of", defArgs s_steps_of, defBody s_steps_of, defScope s_steps_of, [], []⟩) rfl)
  obtain ⟨_, _, _, _, _, _, _, _, _, hl16, hc16, hk16⟩ := fun_of (defH c 16 (d := ⟨⟨"led_to", none⟩, "led_to", "led_to", defArgs s_led_to, defBody s_led_to, defScope s_led_to, [], []⟩) rfl)
  obtain ⟨_, _, _, _, _, _, _, _, _, hl17, hc17, hk17⟩ := fun_of (defH c 17 (d := ⟨⟨"farthest", none⟩, "farthest", "farthest", defArgs s_farthest, defBody s_farthest, defScope s_farthest, [], []⟩) rfl)
  obtain ⟨_, _, _, _, _, _, _, _, _, hl18, hc18, hk18⟩ := fun_of (defH c 18 (d := ⟨⟨"look_at_play", none⟩, "look_at_play", "look_at_play", defArgs s_look_at_play, defBody s_look_at_play, defScope s_look_at_play, [], []⟩) rfl)
  obtain ⟨_, _, _, _, _, _, _, _, _, hl19, hc19, hk19⟩ := fun_of (defH c 19 (d := ⟨⟨"read", none⟩, "read", "read", defArgs s_read, defBody s_read, defScope s_read, [], []⟩) rfl)
  obtain ⟨_, _, _, _, _, _, _, _, _, hl20, hc20, hk20⟩ := fun_of (defH c 20 (d := ⟨⟨"_law_back", none⟩, "_law_back", "_law_back", defArgs s_law_back, defBody s_law_back, defScope s_law_back, [], []⟩) rfl)
  obtain ⟨_, _, _, _, _, _, _, _, _, hl21, hc21, hk21⟩ := fun_of (defH c 21 (d := ⟨⟨"_law_other", none⟩, "_law_other", "_law_other", defArgs s_law_other, defBody s_law_other, defScope s_law_other, [], []⟩) rfl)
  obtain ⟨_, _, _, _, _, _, _, _, _, hl22, hc22, hk22⟩ := fun_of (defH c 22 (d := ⟨⟨"law", none⟩, "law", "law", defArgs s_law, defBody s_law, defScope s_law, [], []⟩) rfl)
  obtain ⟨_, g37⟩ := strG_ok (factH c 37 (f := fun K => strG K "FIGURES" "0123456789") rfl)
  obtain ⟨_, g38⟩ := intG_ok (factH c 38 (f := fun K => intG K "MOST_FIGURES" 31) rfl)
  obtain ⟨_, g39⟩ := intG_ok (factH c 39 (f := fun K => intG K "GREATEST" 1000000000000000000000000000000) rfl)
  obtain ⟨_, _, _, _, _, g41⟩ := twoG_ok (factH c 41 (f := fun K => twoG K "HANDS" "high" "low") rfl)
  obtain ⟨_, g42⟩ := intG_ok (factH c 42 (f := fun K => intG K "MOST_BOUGHS" 12) rfl)
  obtain ⟨_, g43⟩ := intG_ok (factH c 43 (f := fun K => intG K "MOST_STANDS" 400) rfl)
  obtain ⟨_, g44⟩ := intG_ok (factH c 44 (f := fun K => intG K "MOST_STEPS" 40) rfl)
  exact all_mk X G hfa (of_decide_eq_true (factH c 0 (f := fun K => decide (PySem.W.nsIn K mainGlobals "_law_pool" = some (some (.ref (He.ga K "_law_pool"))))) rfl)) hl0 hc0 hk0 (of_decide_eq_true (factH c 1 (f := fun K => decide (PySem.W.nsIn K mainGlobals "_law_take" = some (some (.ref (He.ga K "_law_take"))))) rfl)) hl1 hc1 hk1 (of_decide_eq_true (factH c 2 (f := fun K => decide (PySem.W.nsIn K mainGlobals "_law_kids" = some (some (.ref (He.ga K "_law_kids"))))) rfl)) hl2 hc2 hk2 (of_decide_eq_true (factH c 3 (f := fun K => decide (PySem.W.nsIn K mainGlobals "_law_merged" = some (some (.ref (He.ga K "_law_merged"))))) rfl)) hl3 hc3 hk3 (of_decide_eq_true (factH c 4 (f := fun K => decide (PySem.W.nsIn K mainGlobals "_law_hand" = some (some (.ref (He.ga K "_law_hand"))))) rfl)) hl4 hc4 hk4 (of_decide_eq_true (factH c 5 (f := fun K => decide (PySem.W.nsIn K mainGlobals "_law_worth" = some (some (.ref (He.ga K "_law_worth"))))) rfl)) hl5 hc5 hk5 (of_decide_eq_true (factH c 6 (f := fun K => decide (PySem.W.nsIn K mainGlobals "_law_play" = some (some (.ref (He.ga K "_law_play"))))) rfl)) hl6 hc6 hk6 (of_decide_eq_true (factH c 7 (f := fun K => decide (PySem.W.nsIn K mainGlobals "shown" = some (some (.ref (He.ga K "shown"))))) rfl)) hl7 hc7 hk7 (of_decide_eq_true (factH c 8 (f := fun K => decide (PySem.W.nsIn K mainGlobals "is_figures" = some (some (.ref (He.ga K "is_figures"))))) rfl)) hl8 hc8 hk8 (of_decide_eq_true (factH c 9 (f := fun K => decide (PySem.W.nsIn K mainGlobals "number_of" = some (some (.ref (He.ga K "number_of"))))) rfl)) hl9 hc9 hk9 (of_decide_eq_true (factH c 10 (f := fun K => decide (PySem.W.nsIn K mainGlobals "is_whole" = some (some (.ref (He.ga K "is_whole"))))) rfl)) hl10 hc10 hk10 (of_decide_eq_true (factH c 11 (f := fun K => decide (PySem.W.nsIn K mainGlobals "is_worth" = some (some (.ref (He.ga K "is_worth"))))) rfl)) hl11 hc11 hk11 (of_decide_eq_true (factH c 12 (f := fun K => decide (PySem.W.nsIn K mainGlobals "stand_of" = some (some (.ref (He.ga K "stand_of"))))) rfl)) hl12 hc12 hk12 (of_decide_eq_true (factH c 13 (f := fun K => decide (PySem.W.nsIn K mainGlobals "are_steps" = some (some (.ref (He.ga K "are_steps"))))) rfl)) hl13 hc13 hk13 (of_decide_eq_true (factH c 14 (f := fun K => decide (PySem.W.nsIn K mainGlobals "is_stand" = some (some (.ref (He.ga K "is_stand"))))) rfl)) hl14 hc14 hk14 (of_decide_eq_true (factH c 15 (f := fun K => decide (PySem.W.nsIn K mainGlobals "steps_of" = some (some (.ref (He.ga K "steps_of"))))) rfl)) hl15 hc15 hk15 (of_decide_eq_true (factH c 16 (f := fun K => decide (PySem.W.nsIn K mainGlobals "led_to" = some (some (.ref (He.ga K "led_to"))))) rfl)) hl16 hc16 hk16 (of_decide_eq_true (factH c 17 (f := fun K => decide (PySem.W.nsIn K mainGlobals "farthest" = some (some (.ref (He.ga K "farthest"))))) rfl)) hl17 hc17 hk17 (of_decide_eq_true (factH c 18 (f := fun K => decide (PySem.W.nsIn K mainGlobals "look_at_play" = some (some (.ref (He.ga K "look_at_play"))))) rfl)) hl18 hc18 hk18 (of_decide_eq_true (factH c 19 (f := fun K => decide (PySem.W.nsIn K mainGlobals "read" = some (some (.ref (He.ga K "read"))))) rfl)) hl19 hc19 hk19 (of_decide_eq_true (factH c 20 (f := fun K => decide (PySem.W.nsIn K mainGlobals "_law_back" = some (some (.ref (He.ga K "_law_back"))))) rfl)) hl20 hc20 hk20 (of_decide_eq_true (factH c 21 (f := fun K => decide (PySem.W.nsIn K mainGlobals "_law_other" = some (some (.ref (He.ga K "_law_other"))))) rfl)) hl21 hc21 hk21 (of_decide_eq_true (factH c 22 (f := fun K => decide (PySem.W.nsIn K mainGlobals "law" = some (some (.ref (He.ga K "law"))))) rfl)) hl22 hc22 hk22 (of_decide_eq_true (factH c 23 (f := fun K => decide (PySem.W.nsIn K mainGlobals "len" = some none)) rfl)) (of_decide_eq_true (factH c 24 (f := fun K => decide (PySem.W.nsIn K mainGlobals "int" = some none)) rfl)) (of_decide_eq_true (factH c 25 (f := fun K => decide (PySem.W.nsIn K mainGlobals "range" = some none)) rfl)) (of_decide_eq_true (factH c 26 (f := fun K => decide (PySem.W.nsIn K mainGlobals "max" = some none)) rfl)) (of_decide_eq_true (factH c 27 (f := fun K => decide (PySem.W.nsIn K mainGlobals "min" = some none)) rfl)) (of_decide_eq_true (factH c 28 (f := fun K => decide (PySem.W.nsIn K mainGlobals "tuple" = some none)) rfl)) (of_decide_eq_true (factH c 29 (f := fun K => decide (PySem.W.nsIn K mainGlobals "str" = some none)) rfl)) (of_decide_eq_true (factH c 30 (f := fun K => decide (PySem.W.nsIn K mainGlobals "all" = some none)) rfl)) (of_decide_eq_true (factH c 31 (f := fun K => decide (PySem.W.nsIn K mainGlobals "isinstance" = some none)) rfl)) (of_decide_eq_true (factH c 32 (f := fun K => decide (PySem.W.nsIn K mainGlobals "bool" = some none)) rfl)) (of_decide_eq_true (factH c 33 (f := fun K => decide (PySem.W.nsIn K mainGlobals "abs" = some none)) rfl)) (of_decide_eq_true (factH c 34 (f := fun K => decide (PySem.W.nsIn K mainGlobals "enumerate" = some none)) rfl)) (of_decide_eq_true (factH c 35 (f := fun K => decide (PySem.W.nsIn K mainGlobals "list" = some none)) rfl)) (of_decide_eq_true (factH c 36 (f := fun K => decide (PySem.W.nsIn K mainGlobals "repr" = some none)) rfl)) g37 g38 g39 (of_decide_eq_true (factH c 40 (f := fun K => decide (PySem.W.nsIn K mainGlobals "HANDS" = some (some (.ref (He.ga K "HANDS"))))) rfl)) g41 g42 g43 g44
end VL
open PySem PySem.W PySem.Calls PyProof.Rows
set_option maxHeartbeats 0 in
theorem PySem.Challenge.cw_cutboughs_k09_whole_texts_and_plays_holds : PySem.Challenge.rw_cutboughs_k09_whole_texts_and_plays.Holds := by
  w_on; o_law
  refine HandSHeadRun.head_any (r := OpenLaw.row PySem.Challenge.rw_cutboughs_k09_whole_texts_and_plays) (q := view (OpenLaw.row PySem.Challenge.rw_cutboughs_k09_whole_texts_and_plays).prog [36]) (H := VL.hookH 5 VL.fH VL.dH) (ob := VL.obG 5 VL.fH VL.dH) (M := 6000) (loose := VL.nmH) (d := HandSHeadRun.topDef (OpenLaw.row PySem.Challenge.rw_cutboughs_k09_whole_texts_and_plays).prog 36) (kwd := []) VL.obG_eq
    (by kernel_rfl) (fun s => by kernel_rfl) VL.runH (by kernel_rfl) (by kernel_rfl) (by kernel_rfl) (by rfl) (by first | assumption | decide +kernel) (by decide +kernel) ⟨rfl, rfl, rfl, rfl, rfl, by decide +kernel⟩ ?hw ?hc
  case hw => w_witness2
  case hc =>
    refine VL.walkGE (l := PySem.Challenge.rw_cutboughs_k09_whole_texts_and_plays) (n := 63) (k := 7) (x := "_law_script") rfl (by decide) (by kernel_rfl) ⟨rfl, by decide, by decide⟩ ?F
    intro w mg fa h Y G hmg0
    obtain ⟨K, KX, c, tb⟩ := Y
    have hmg : mg ("law" : PySem.Str) = some (.ref fa) := by
      have e : (HandSHeadRun.topDef (OpenLaw.row PySem.Challenge.rw_cutboughs_k09_whole_texts_and_plays).prog 36).name = ("law" : PySem.Str) := by kernel_rfl
      rw [← e]
      exact hmg0
    obtain ⟨fd, hb, hF⟩ := VL.allH (l := PySem.Challenge.rw_cutboughs_k09_whole_texts_and_plays) (w := w) c KX G hmg
    exact ⟨K, fd, KX, tb, hb, hF⟩
