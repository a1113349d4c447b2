import PyProof.Rows.All
import HandS.ForMost
import HandS.Wide
import HandS.SortInts
import HandS.RevRange
import HandS.Flow
import HandS.Style
import HandS.IsInst
import HandS.Conv
import PyProof.ReprRoads
import HandS.TupAny
import HandS.Ends
import HandS.EndBits
import HandS.More
import HandS.Small
import HandS.DictComp
import HandS.WordsDict
import HandS.Iter
import PySem.Challenge.RW_cutboughs_k37_whole_windows_within_windo
set_option Elab.async false
set_option linter.all false
set_option maxRecDepth 100000
set_option maxHeartbeats 4000000
/-! VL1: value trees, their heaps, the relation Rel and what may be done to it. -/
namespace VL
open PySem PySem.Spec PyProof.Rows L2

/-! ### data in a heap -/
def keyD : Key → PyData
  | .inl i => .int i
  | .inr x => .str x
def zipD (ks : List Key) (ds : List PyData) : List (PyData × PyData) := (ks.map keyD).zip ds
mutual
inductive Rp (K : PySem.W.Frag) (H : Hp) : V → PyData → Prop
  | non : Rp K H .non .none
  | bl (b : Bool) : Rp K H (.bl b) (.bool b)
  | int (i : Int) : Rp K H (.int i) (.int i)
  | str (x : Str) : Rp K H (.str x) (.str x)
  | lst {a : Addr} {xs : List V} {ds : List PyData} : SqL K H a xs → RpAll K H xs ds → Rp K H (.ref a) (.list ds)
  | tup {a : Addr} {xs : List V} {ds : List PyData} : SqT K H a xs → RpAll K H xs ds → Rp K H (.ref a) (.tuple ds)
  | dct {a : Addr} {ks : List Key} {xs : List V} {ds : List PyData} : ks.length = xs.length → Rd H a (.dK (ks.zip xs)) → RpAll K H xs ds → Rp K H (.ref a) (.dict (zipD ks ds))
inductive RpAll (K : PySem.W.Frag) (H : Hp) : List V → List PyData → Prop
  | nil : RpAll K H [] []
  | cons {v : V} {vs : List V} {d : PyData} {ds : List PyData} : Rp K H v d → RpAll K H vs ds → RpAll K H (v :: vs) (d :: ds)
end
theorem Rd.mono {H H' : Hp} {a : Addr} {o : HO} (e : Same H H') (h : Rd H a o) : Rd H' a o := by
  rcases h with h | ⟨u, h⟩
  · exact .inl (e _ _ h)
  · exact .inr ⟨u, e _ _ h⟩
theorem SqL.mono {K : PySem.W.Frag} {H H' : Hp} {a : Addr} {xs : List V} (e : Same H H') (h : SqL K H a xs) : SqL K H' a xs := h.elim (fun z => .inl (Rd.mono e z)) .inr
theorem SqT.mono {K : PySem.W.Frag} {H H' : Hp} {a : Addr} {xs : List V} (e : Same H H') (h : SqT K H a xs) : SqT K H' a xs := by
  rcases h with (h | ⟨o, h⟩) | h
  · exact .inl (.inl (e _ _ h))
  · exact .inl (.inr ⟨o, e _ _ h⟩)
  · exact .inr h
mutual
theorem Rp.mono {K : PySem.W.Frag} {H H' : Hp} (e : Same H H') : ∀ {v : V} {x : PyData}, Rp K H v x → Rp K H' v x
  | _, _, .non => .non
  | _, _, .bl b => .bl b
  | _, _, .int i => .int i
  | _, _, .str s => .str s
  | _, _, .lst a b => .lst (SqL.mono e a) (RpAll.mono e b)
  | _, _, .tup a b => .tup (SqT.mono e a) (RpAll.mono e b)
  | _, _, .dct l a b => .dct l (Rd.mono e a) (RpAll.mono e b)
theorem RpAll.mono {K : PySem.W.Frag} {H H' : Hp} (e : Same H H') : ∀ {vs : List V} {xs : List PyData}, RpAll K H vs xs → RpAll K H' vs xs
  | _, _, .nil => .nil
  | _, _, .cons a b => .cons (Rp.mono e a) (RpAll.mono e b)
end
mutual
theorem Rp.dp {K : PySem.W.Frag} {H : Hp} : ∀ {v : V} {x : PyData}, Rp K H v x → x.canLay0 = true → Dp K H v x
  | _, _, .non, _ => .non
  | _, _, .bl b, _ => .bl b
  | _, _, .int i, _ => .int i
  | _, _, .str s, _ => .str s
  | _, _, .lst a b, h => .lst a (RpAll.dp b (by simpa [PyData.canLay0] using h))
  | _, _, .tup a b, h => .tup a (RpAll.dp b (by simpa [PyData.canLay0] using h))
  | _, _, .dct l a b, h => by simp [PyData.canLay0] at h
theorem RpAll.dp {K : PySem.W.Frag} {H : Hp} : ∀ {vs : List V} {xs : List PyData}, RpAll K H vs xs → PyData.canLayAll0 xs = true → DpAll K H vs xs
  | _, _, .nil, _ => .nil
  | _, _, .cons a b, h => by
    simp only [PyData.canLayAll0, Bool.and_eq_true] at h
    exact .cons (Rp.dp a h.1) (RpAll.dp b h.2)
end
theorem RpAll.length {K : PySem.W.Frag} {H : Hp} : ∀ {vs : List V} {xs : List PyData}, RpAll K H vs xs → vs.length = xs.length
  | _, _, .nil => rfl
  | _, _, .cons a b => by rw [List.length_cons, List.length_cons, RpAll.length b]
theorem RpAll.get {K : PySem.W.Frag} {H : Hp} : ∀ {vs : List V} {xs : List PyData} {i : Nat} {x : PyData}, RpAll K H vs xs → xs[i]? = some x → ∃ v, vs[i]? = some v ∧ Rp K H v x
  | _, _, i, x, .nil, h => by simp at h
  | _, _, 0, x, .cons a b, h => by simp at h; subst h; exact ⟨_, rfl, a⟩
  | _, _, i + 1, x, .cons a b, h => by
    obtain ⟨v, h1, h2⟩ := RpAll.get (i := i) (x := x) b (by simpa using h)
    exact ⟨v, by simpa using h1, h2⟩

/-! ### trees -/
inductive Kd where
  | list | tup
  | dict (ks : List Key)
  | inst (C : Addr) (ns : List Str)
inductive T where
  | dead
  | d (x : PyData)
  | nd (k : Kd) (ts : List T)
inductive TA where
  | dead (v : V)
  | d (v : V) (x : PyData)
  | nd (k : Kd) (a : Addr) (ts : List TA)
instance : Inhabited T := ⟨.dead⟩
instance : Inhabited TA := ⟨.dead .non⟩

def TA.v : TA → V
  | .dead v => v
  | .d v _ => v
  | .nd _ a _ => .ref a
def TA.isDead : TA → Bool
  | .dead _ => true
  | _ => false
def T.isDead : T → Bool
  | .dead => true
  | _ => false
def Kd.at (H : Hp) (k : Kd) (a : Addr) (vs : List V) : Prop := match k with
  | .list => H a = some (.lst vs)
  | .tup => H a = some (.tup vs)
  | .dict ks => ks.length = vs.length ∧ H a = some (.dK (ks.zip vs))
  | .inst C ns => ns.length = vs.length ∧ ∃ dx, H a = some (.ins C dx (ns.zip vs))
def Kd.isTup : Kd → Bool
  | .tup => true
  | _ => false
mutual
def TA.t : TA → T
  | .dead _ => .dead
  | .d _ x => .d x
  | .nd k _ ts => .nd k (TA.tl ts)
def TA.tl : List TA → List T
  | [] => []
  | t :: r => t.t :: TA.tl r
end
mutual
def TA.fp : TA → List Addr
  | .dead _ => []
  | .d _ _ => []
  | .nd _ a ts => a :: TA.fpl ts
def TA.fpl : List TA → List Addr
  | [] => []
  | t :: r => t.fp ++ TA.fpl r
end
mutual
def TA.ok (K : PySem.W.Frag) (Hs H : Hp) : TA → Prop
  | .dead _ => True
  | .d v x => Rp K Hs v x
  | .nd k a ts => k.at H a (ts.map TA.v) ∧ TA.okl K Hs H ts
def TA.okl (K : PySem.W.Frag) (Hs H : Hp) : List TA → Prop
  | [] => True
  | t :: r => t.ok K Hs H ∧ TA.okl K Hs H r
end
mutual
def TA.noTup : TA → Bool
  | .dead _ => true
  | .d _ _ => true
  | .nd k _ ts => !k.isTup && TA.noTupl ts
def TA.noTupl : List TA → Bool
  | [] => true
  | t :: r => t.noTup && TA.noTupl r
end
mutual
def T.noTup : T → Bool
  | .dead => true
  | .d _ => true
  | .nd k ts => !k.isTup && T.noTupl ts
def T.noTupl : List T → Bool
  | [] => true
  | t :: r => t.noTup && T.noTupl r
end
mutual
def T.data : T → Option PyData
  | .dead => none
  | .d x => some x
  | .nd k ts => match k with
    | .list => (T.datal ts).map .list
    | .tup => (T.datal ts).map .tuple
    | .dict ks => (T.datal ts).map fun xs => .dict (zipD ks xs)
    | .inst _ _ => none
def T.datal : List T → Option (List PyData)
  | [] => some []
  | t :: r => match t.data, T.datal r with
    | some x, some xs => some (x :: xs)
    | _, _ => none
end
theorem TA.tl_map : ∀ ts : List TA, TA.tl ts = ts.map TA.t
  | [] => rfl
  | t :: r => by rw [TA.tl, TA.tl_map r]; rfl
theorem TA.fpl_flat : ∀ ts : List TA, TA.fpl ts = ts.flatMap TA.fp
  | [] => rfl
  | t :: r => by rw [TA.fpl, TA.fpl_flat r]; rfl
theorem TA.fpl_append : ∀ ts us : List TA, TA.fpl (ts ++ us) = TA.fpl ts ++ TA.fpl us
  | [], us => by simp [TA.fpl]
  | t :: r, us => by rw [List.cons_append, TA.fpl, TA.fpl_append r us, TA.fpl, List.append_assoc]
theorem TA.okl_all {K : PySem.W.Frag} {Hs H : Hp} : ∀ {ts : List TA}, TA.okl K Hs H ts ↔ ∀ t ∈ ts, t.ok K Hs H
  | [] => by simp [TA.okl]
  | t :: r => by rw [TA.okl, TA.okl_all (ts := r)]; simp
theorem TA.okl_append {K : PySem.W.Frag} {Hs H : Hp} {ts us : List TA} : TA.okl K Hs H (ts ++ us) ↔ TA.okl K Hs H ts ∧ TA.okl K Hs H us := by
  rw [TA.okl_all, TA.okl_all, TA.okl_all]
  constructor
  · intro h
    exact ⟨fun t ht => h t (List.mem_append_left _ ht), fun t ht => h t (List.mem_append_right _ ht)⟩
  · rintro ⟨h1, h2⟩ t ht
    rcases List.mem_append.mp ht with z | z
    · exact h1 t z
    · exact h2 t z
theorem TA.noTupl_all : ∀ {ts : List TA}, TA.noTupl ts = true ↔ ∀ t ∈ ts, t.noTup = true
  | [] => by simp [TA.noTupl]
  | t :: r => by rw [TA.noTupl, Bool.and_eq_true, TA.noTupl_all (ts := r)]; simp
mutual
theorem TA.noTup_t : ∀ t : TA, t.t.noTup = t.noTup
  | .dead _ => rfl
  | .d _ _ => rfl
  | .nd k a ts => by rw [TA.t, T.noTup, TA.noTup, TA.noTup_tl ts]
theorem TA.noTup_tl : ∀ ts : List TA, T.noTupl (TA.tl ts) = TA.noTupl ts
  | [] => rfl
  | t :: r => by rw [TA.tl, T.noTupl, TA.noTupl, TA.noTup_t t, TA.noTup_tl r]
end
theorem TA.isDead_t (t : TA) : t.t.isDead = t.isDead := by cases t <;> rfl
theorem T.datal_all : ∀ {ts : List T} {xs : List PyData}, T.datal ts = some xs → ts.length = xs.length ∧ ∀ (i : Nat) (t : T), ts[i]? = some t → ∃ x, t.data = some x ∧ xs[i]? = some x
  | [], xs, h => by
    rw [T.datal] at h
    cases h
    exact ⟨rfl, fun i t e => by simp at e⟩
  | t :: r, xs, h => by
    rw [T.datal] at h
    split at h
    · rename_i x ys e1 e2
      cases h
      obtain ⟨hl, ha⟩ := T.datal_all e2
      refine ⟨by simp [hl], fun i t' e => ?_⟩
      cases i with
      | zero => simp at e; subst e; exact ⟨x, e1, by simp⟩
      | succ i => simp at e; obtain ⟨y, h1, h2⟩ := ha i t' e; exact ⟨y, h1, by simpa using h2⟩
    · cases h
theorem T.datal_leaves : ∀ xs : List PyData, T.datal (xs.map T.d) = some xs
  | [] => rfl
  | x :: r => by rw [List.map_cons, T.datal, T.data, T.datal_leaves r]

/-! ### heaps -/
theorem Kd.at_same {H H' : Hp} {k : Kd} {a : Addr} {vs : List V} (h : k.at H a vs) (e : H' a = H a) : k.at H' a vs := by
  cases k with
  | list => exact e.trans h
  | tup => exact e.trans h
  | dict ks => exact ⟨h.1, e.trans h.2⟩
  | inst C ns => obtain ⟨l, dx, q⟩ := h; exact ⟨l, dx, e.trans q⟩
theorem Kd.at_some {H : Hp} {k : Kd} {a : Addr} {vs : List V} (h : k.at H a vs) : H a ≠ none := by
  intro z
  cases k with
  | list => rw [show H a = some (.lst vs) from h] at z; cases z
  | tup => rw [show H a = some (.tup vs) from h] at z; cases z
  | dict ks => rw [show H a = some _ from h.2] at z; cases z
  | inst C ns => obtain ⟨l, dx, q⟩ := h; rw [q] at z; cases z
mutual
theorem TA.fp_some {K : PySem.W.Frag} {Hs H : Hp} : ∀ (t : TA), t.ok K Hs H → ∀ a ∈ t.fp, H a ≠ none
  | .dead _, _, a, h => by simp [TA.fp] at h
  | .d _ _, _, a, h => by simp [TA.fp] at h
  | .nd k b ts, ok, a, h => by
    rw [TA.ok] at ok
    rw [TA.fp] at h
    rcases List.mem_cons.mp h with rfl | h
    · exact Kd.at_some ok.1
    · exact TA.fpl_some ts ok.2 a h
theorem TA.fpl_some {K : PySem.W.Frag} {Hs H : Hp} : ∀ (ts : List TA), TA.okl K Hs H ts → ∀ a ∈ TA.fpl ts, H a ≠ none
  | [], _, a, h => by simp [TA.fpl] at h
  | t :: r, ok, a, h => by
    rw [TA.okl] at ok
    rw [TA.fpl] at h
    rcases List.mem_append.mp h with h | h
    · exact TA.fp_some t ok.1 a h
    · exact TA.fpl_some r ok.2 a h
end
mutual
theorem TA.ok_mono {K : PySem.W.Frag} {Hs H Hs' H' : Hp} (e : Same Hs Hs') : ∀ (t : TA), t.ok K Hs H → (∀ a ∈ t.fp, H' a = H a) → t.ok K Hs' H'
  | .dead _, _, _ => by rw [TA.ok]; trivial
  | .d v x, h, _ => by rw [TA.ok] at h ⊢; exact Rp.mono e h
  | .nd k a ts, h, hf => by
    rw [TA.ok] at h ⊢
    exact ⟨Kd.at_same h.1 (hf a (by rw [TA.fp]; exact List.mem_cons_self)), TA.okl_mono e ts h.2 fun b hb => hf b (by rw [TA.fp]; exact List.mem_cons_of_mem _ hb)⟩
theorem TA.okl_mono {K : PySem.W.Frag} {Hs H Hs' H' : Hp} (e : Same Hs Hs') : ∀ (ts : List TA), TA.okl K Hs H ts → (∀ a ∈ TA.fpl ts, H' a = H a) → TA.okl K Hs' H' ts
  | [], _, _ => by rw [TA.okl]; trivial
  | t :: r, h, hf => by
    rw [TA.okl] at h ⊢
    exact ⟨TA.ok_mono e t h.1 fun b hb => hf b (by rw [TA.fpl]; exact List.mem_append_left _ hb), TA.okl_mono e r h.2 fun b hb => hf b (by rw [TA.fpl]; exact List.mem_append_right _ hb)⟩
end
mutual
/-- a tree's data stands in the whole heap -/
theorem TA.reads {K : PySem.W.Frag} {Hs H : Hp} (e : Same Hs H) : ∀ (t : TA) (x : PyData), t.ok K Hs H → t.t.data = some x → Rp K H t.v x
  | .dead _, x, _, h => by rw [TA.t, T.data] at h; cases h
  | .d v y, x, ok, h => by
    rw [TA.t, T.data] at h
    cases h
    rw [TA.ok] at ok
    exact Rp.mono e ok
  | .nd k a ts, x, ok, h => by
    rw [TA.ok] at ok
    rw [TA.t] at h
    cases k with
    | list =>
      rw [T.data, Option.map_eq_some_iff] at h
      obtain ⟨xs, h1, rfl⟩ := h
      exact .lst (.inl (.inl ok.1)) (TA.readsl e ts xs ok.2 h1)
    | tup =>
      rw [T.data, Option.map_eq_some_iff] at h
      obtain ⟨xs, h1, rfl⟩ := h
      exact .tup (SqT.of ok.1) (TA.readsl e ts xs ok.2 h1)
    | dict ks =>
      rw [T.data, Option.map_eq_some_iff] at h
      obtain ⟨xs, h1, rfl⟩ := h
      exact .dct ok.1.1 (.inl ok.1.2) (TA.readsl e ts xs ok.2 h1)
    | inst C ns => simp [T.data] at h
theorem TA.readsl {K : PySem.W.Frag} {Hs H : Hp} (e : Same Hs H) : ∀ (ts : List TA) (xs : List PyData), TA.okl K Hs H ts → T.datal (TA.tl ts) = some xs → RpAll K H (ts.map TA.v) xs
  | [], xs, _, h => by
    rw [TA.tl, T.datal] at h
    cases h
    exact .nil
  | t :: r, xs, ok, h => by
    rw [TA.okl] at ok
    rw [TA.tl, T.datal] at h
    split at h
    · rename_i x ys e1 e2
      cases h
      exact .cons (TA.reads e t x ok.1 e1) (TA.readsl e r ys ok.2 e2)
    · cases h
end

/-! ### places -/
def T.at (t : T) : List Nat → Option T
  | [] => some t
  | j :: p => match t with
    | .nd _ ts => match ts[j]? with
      | some c => c.at p
      | none => none
    | _ => none
def T.put (t : T) (s : T) : List Nat → T
  | [] => s
  | j :: p => match t with
    | .nd k ts => match ts[j]? with
      | some c => .nd k (ts.set j (c.put s p))
      | none => t
    | _ => t
def TA.at (t : TA) : List Nat → Option TA
  | [] => some t
  | j :: p => match t with
    | .nd _ _ ts => match ts[j]? with
      | some c => c.at p
      | none => none
    | _ => none
def TA.put (t : TA) (s : TA) : List Nat → TA
  | [] => s
  | j :: p => match t with
    | .nd k a ts => match ts[j]? with
      | some c => .nd k a (ts.set j (c.put s p))
      | none => t
    | _ => t
theorem TA.at_t : ∀ (p : List Nat) (t : TA), t.t.at p = (t.at p).map TA.t
  | [], t => rfl
  | j :: p, t => by
    cases t with
    | dead => rfl
    | d v x => rfl
    | nd k a ts =>
      rw [TA.t, T.at, TA.at, TA.tl_map, List.getElem?_map]
      cases e : ts[j]? with
      | none => rfl
      | some c => exact TA.at_t p c
theorem TA.put_t (s : TA) : ∀ (p : List Nat) (t : TA), (t.put s p).t = t.t.put s.t p
  | [], t => rfl
  | j :: p, t => by
    cases t with
    | dead => rfl
    | d v x => rfl
    | nd k a ts =>
      rw [TA.put, TA.t, T.put, TA.tl_map, List.getElem?_map]
      cases e : ts[j]? with
      | none => simp only [Option.map_none, TA.t, TA.tl_map]
      | some c => simp only [Option.map_some, TA.t, TA.tl_map, List.map_set, TA.put_t s p c]
theorem TA.put_v (s : TA) : ∀ (p : List Nat) (t : TA) (c : TA), t.at p = some c → s.v = c.v → (t.put s p).v = t.v
  | [], t, c, h, e => by
    rw [TA.at] at h
    cases h
    exact e
  | j :: p, t, c, h, e => by
    cases t with
    | dead => rfl
    | d v x => rfl
    | nd k a ts =>
      rw [TA.put]
      cases q : ts[j]? <;> rfl
theorem getElem?_split {α : Type} {l : List α} {i : Nat} {x : α} (h : l[i]? = some x) : ∃ l1 l2, l = l1 ++ x :: l2 ∧ l1.length = i := by
  obtain ⟨hi, e⟩ := List.getElem?_eq_some_iff.mp h
  refine ⟨l.take i, l.drop (i + 1), ?_, by simp; omega⟩
  rw [← e, List.getElem_cons_drop, List.take_append_drop]
theorem set_split {α : Type} {l1 l2 : List α} {x y : α} : (l1 ++ x :: l2).set l1.length y = l1 ++ y :: l2 := by
  rw [List.set_append_right _ _ (Nat.le_refl _), Nat.sub_self]
  rfl
/-- a place's footprint lies within its tree's -/
theorem TA.lens : ∀ (p : List Nat) (t c : TA), t.at p = some c → ∃ l1 l2, t.fp = l1 ++ c.fp ++ l2 ∧ ∀ s : TA, (t.put s p).fp = l1 ++ s.fp ++ l2
  | [], t, c, h => by
    rw [TA.at] at h
    cases h
    exact ⟨[], [], by simp, fun s => by simp [TA.put]⟩
  | j :: p, t, c, h => by
    cases t with
    | dead => cases h
    | d v x => cases h
    | nd k a ts =>
      rw [TA.at] at h
      cases q : ts[j]? with
      | none => rw [q] at h; cases h
      | some b =>
        rw [q] at h
        obtain ⟨l1, l2, e1, e2⟩ := TA.lens p b c h
        obtain ⟨u1, u2, eu, hu⟩ := getElem?_split q
        refine ⟨a :: (TA.fpl u1 ++ l1), l2 ++ TA.fpl u2, ?_, fun s => ?_⟩
        · rw [TA.fp, eu, TA.fpl_append, TA.fpl, e1]
          simp
        · simp only [TA.put, q]
          rw [TA.fp, eu, ← hu, set_split, TA.fpl_append, TA.fpl, e2 s]
          simp
theorem TA.at_ok {K : PySem.W.Frag} {Hs H : Hp} : ∀ (p : List Nat) (t c : TA), t.at p = some c → t.ok K Hs H → c.ok K Hs H
  | [], t, c, h, ok => by
    rw [TA.at] at h
    cases h
    exact ok
  | j :: p, t, c, h, ok => by
    cases t with
    | dead => cases h
    | d v x => cases h
    | nd k a ts =>
      rw [TA.at] at h
      cases q : ts[j]? with
      | none => rw [q] at h; cases h
      | some b =>
        rw [q] at h
        rw [TA.ok] at ok
        exact TA.at_ok p b c h (TA.okl_all.mp ok.2 b (List.mem_of_getElem? q))
theorem TA.at_noTup : ∀ (p : List Nat) (t c : TA), t.at p = some c → t.noTup = true → c.noTup = true
  | [], t, c, h, ok => by
    rw [TA.at] at h
    cases h
    exact ok
  | j :: p, t, c, h, ok => by
    cases t with
    | dead => cases h
    | d v x => cases h
    | nd k a ts =>
      rw [TA.at] at h
      cases q : ts[j]? with
      | none => rw [q] at h; cases h
      | some b =>
        rw [q] at h
        rw [TA.noTup, Bool.and_eq_true] at ok
        exact TA.at_noTup p b c h (TA.noTupl_all.mp ok.2 b (List.mem_of_getElem? q))
theorem mem_set_or {α : Type} {l : List α} {i : Nat} {x y : α} (h : y ∈ l.set i x) : y = x ∨ y ∈ l := by
  rcases List.mem_or_eq_of_mem_set h with z | z
  · exact .inr z
  · exact .inl z
theorem TA.put_noTup (s : TA) (hs : s.noTup = true) : ∀ (p : List Nat) (t : TA), t.noTup = true → (t.put s p).noTup = true
  | [], t, ok => hs
  | j :: p, t, ok => by
    cases t with
    | dead => exact ok
    | d v x => exact ok
    | nd k a ts =>
      rw [TA.put]
      cases q : ts[j]? with
      | none => exact ok
      | some b =>
        rw [TA.noTup, Bool.and_eq_true] at ok
        simp only [TA.noTup, Bool.and_eq_true]
        refine ⟨ok.1, TA.noTupl_all.mpr fun u hu => ?_⟩
        rcases mem_set_or hu with rfl | hu
        · exact TA.put_noTup s hs p b (TA.noTupl_all.mp ok.2 b (List.mem_of_getElem? q))
        · exact TA.noTupl_all.mp ok.2 u hu
theorem map_set_same {α β : Type} (f : α → β) {l : List α} {i : Nat} {x y : α} (h : l[i]? = some x) (e : f y = f x) : (l.set i y).map f = l.map f := by
  obtain ⟨l1, l2, rfl, rfl⟩ := getElem?_split h
  rw [set_split]
  simp [e]
theorem nodup_mid {l1 m l2 : List Addr} (h : (l1 ++ m ++ l2).Nodup) : (∀ a ∈ m, a ∉ l1 ∧ a ∉ l2) ∧ m.Nodup ∧ (l1 ++ l2).Nodup := by
  rw [List.append_assoc, List.nodup_append] at h
  obtain ⟨h1, h2, h3⟩ := h
  rw [List.nodup_append] at h2
  obtain ⟨h4, h5, h6⟩ := h2
  refine ⟨fun a ha => ⟨fun z => h3 a z a (List.mem_append_left _ ha) rfl, fun z => h6 a ha a z rfl⟩, h4, ?_⟩
  rw [List.nodup_append]
  exact ⟨h1, h5, fun a ha b hb => h3 a ha b (List.mem_append_right _ hb)⟩
/-- the tree with another one at a place, in a heap that is another one there alone -/
theorem TA.put_ok {K : PySem.W.Frag} {Hs H Hs' H' : Hp} (e : Same Hs Hs') (s : TA) (hs : s.ok K Hs' H') : ∀ (p : List Nat) (t c : TA), t.at p = some c → s.v = c.v → t.ok K Hs H → t.fp.Nodup → (∀ a ∈ t.fp, a ∉ c.fp → H' a = H a) → (t.put s p).ok K Hs' H'
  | [], t, c, h, hv, ok, hn, hf => by
    exact hs
  | j :: p, t, c, h, hv, ok, hn, hf => by
    cases t with
    | dead => cases h
    | d v x => cases h
    | nd k a ts =>
      rw [TA.at] at h
      cases q : ts[j]? with
      | none => rw [q] at h; cases h
      | some b =>
        rw [q] at h
        obtain ⟨l1, l2, e1, e2⟩ := TA.lens p b c h
        obtain ⟨u1, u2, eu, hu⟩ := getElem?_split q
        rw [TA.ok] at ok
        have hcb : ∀ z ∈ c.fp, z ∈ b.fp := fun z hz => by rw [e1]; exact List.mem_append_left _ (List.mem_append_right _ hz)
        have nd' := hn
        rw [TA.fp, eu, TA.fpl_append, TA.fpl, List.nodup_cons] at nd'
        obtain ⟨n1, n2⟩ := nd'
        have n3 := nodup_mid (l1 := TA.fpl u1) (m := b.fp) (l2 := TA.fpl u2) (by rw [List.append_assoc]; exact n2)
        simp only [TA.put, q]
        rw [TA.ok]
        refine ⟨?_, ?_⟩
        · have hav : (ts.set j (b.put s p)).map TA.v = ts.map TA.v := map_set_same TA.v q (TA.put_v s p b c h hv)
          rw [hav]
          refine Kd.at_same ok.1 (hf a (by rw [TA.fp]; exact List.mem_cons_self) fun z => n1 ?_)
          exact List.mem_append_right _ (List.mem_append_left _ (hcb a z))
        · refine TA.okl_all.mpr fun u hu' => ?_
          subst eu
          subst hu
          rw [set_split] at hu'
          rw [TA.okl_append, TA.okl] at ok
          have hmem : ∀ z, z ∈ TA.fpl u1 ∨ z ∈ b.fp ∨ z ∈ TA.fpl u2 → z ∈ (TA.nd k a (u1 ++ b :: u2)).fp := fun z hz => by
            rw [TA.fp, TA.fpl_append, TA.fpl]
            refine List.mem_cons_of_mem _ ?_
            rcases hz with hz | hz | hz
            · exact List.mem_append_left _ hz
            · exact List.mem_append_right _ (List.mem_append_left _ hz)
            · exact List.mem_append_right _ (List.mem_append_right _ hz)
          have side : ∀ w : TA, w.ok K Hs H → (∀ z ∈ w.fp, z ∈ TA.fpl u1 ∨ z ∈ TA.fpl u2) → w.ok K Hs' H' := fun w hw hz => by
            refine TA.ok_mono e w hw fun z hzz => hf z ?_ ?_
            · rcases hz z hzz with y | y
              · exact hmem z (.inl y)
              · exact hmem z (.inr (.inr y))
            · intro hc
              have := n3.1 z (hcb z hc)
              rcases hz z hzz with y | y
              · exact this.1 y
              · exact this.2 y
          have inl : ∀ (us : List TA) (w : TA), w ∈ us → ∀ z ∈ w.fp, z ∈ TA.fpl us := fun us w hw z hz => by
            rw [TA.fpl_flat]
            exact List.mem_flatMap.mpr ⟨w, hw, hz⟩
          rcases List.mem_append.mp hu' with hu' | hu'
          · exact side u (TA.okl_all.mp ok.2.1 u hu') fun z hz => .inl (inl u1 u hu' z hz)
          · rcases List.mem_cons.mp hu' with rfl | hu'
            · exact TA.put_ok e s hs p b c h hv ok.2.2.1 n3.2.1 fun z hz hzc => hf z (hmem z (.inr (.inl hz))) hzc
            · exact side u (TA.okl_all.mp ok.2.2.2 u hu') fun z hz => .inr (inl u2 u hu' z hz)
end VL
set_option Elab.async false
set_option linter.all false
set_option maxRecDepth 100000
set_option maxHeartbeats 4000000
/-! VL2: the relation between slots and heap on one side, trees on the other. -/
namespace VL
open PySem PySem.Spec PyProof.Rows L2

structure B0 where
  H0 : Hp
  Hs0 : Hp
  A0 : List Addr
  pin : List (Nat × V)
structure Bs extends B0 where
  ix : List Nat
structure Rel (K : PySem.W.Frag) (B : Bs) (Hs H : Hp) (σ : L2.St) (sl tp : List TA) : Prop where
  len : sl.length = σ.length
  val : ∀ (i : Nat) (t : TA), sl[i]? = some t → t.isDead = false → σ[i]? = some (some t.v)
  ok : TA.okl K Hs H (sl ++ tp)
  uq : (TA.fpl (sl ++ tp)).Nodup
  out : ∀ a ∈ TA.fpl (sl ++ tp), Hs a = none
  sub : Same Hs H
  keep : ∀ a o, B.H0 a = some o → a ∉ B.A0 → H a = some o
  fresh : ∀ a ∈ TA.fpl (sl ++ tp), a ∈ B.A0 ∨ B.H0 a = none
  hs : Same B.Hs0 Hs
  hsNew : ∀ a, Hs a ≠ none → B.Hs0 a ≠ none ∨ a ∈ B.A0 ∨ B.H0 a = none
  ntup : ∀ t ∈ sl, t.noTup = true
  pin : ∀ p ∈ B.pin, p.1 ∈ B.ix ∧ ∃ t, sl[p.1]? = some t ∧ t.v = p.2

section
variable {K : PySem.W.Frag} {B : Bs} {Hs H Hs' H' : Hp} {σ σ' : L2.St} {sl sl' tp tp' ts xs : List TA} {t c s x : TA} {p : Addr} {i : Nat}

theorem fpl_mem {ts : List TA} {t : TA} {a : Addr} (h : t ∈ ts) (ha : a ∈ t.fp) : a ∈ TA.fpl ts := by
  rw [TA.fpl_flat]
  exact List.mem_flatMap.mpr ⟨t, h, ha⟩
theorem fpl_one (t : TA) : TA.fpl [t] = t.fp := by rw [TA.fpl, TA.fpl, List.append_nil]
theorem Rel.some_of (R : Rel K B Hs H σ sl tp) {a : Addr} (h : a ∈ TA.fpl (sl ++ tp)) : H a ≠ none := TA.fpl_some _ R.ok a h
theorem Rel.not_new (R : Rel K B Hs H σ sl tp) (hp : H p = none) : p ∉ TA.fpl (sl ++ tp) := fun h => R.some_of h hp
theorem Rel.new_free (R : Rel K B Hs H σ sl tp) (hp : H p = none) : p ∈ B.A0 ∨ B.H0 p = none := by
  cases q : B.H0 p with
  | none => exact .inr rfl
  | some o =>
    by_cases ha : p ∈ B.A0
    · exact .inl ha
    · have := R.keep p o q ha
      rw [hp] at this
      cases this
theorem Rel.hs_none (R : Rel K B Hs H σ sl tp) (hp : H p = none) : Hs p = none := R.sub.free hp
theorem same_upd {H : Hp} {p : Addr} {o : HO} (h : H p = none) : Same H (upd H p o) := fun b x e => by
  rw [upd_ne (ne_of_none e h)]
  exact e
theorem same_upd2 {Hs H : Hp} {p : Addr} {o : HO} (e : Same Hs H) : Same (upd Hs p o) (upd H p o) := fun b x h => by
  by_cases hb : b = p
  · subst hb; rw [upd_same] at h ⊢; exact h
  · rw [upd_ne hb] at h ⊢; exact e b x h

/-- a new frozen object -/
theorem Rel.allocF (R : Rel K B Hs H σ sl tp) (hp : H p = none) (o : HO) : Rel K B (upd Hs p o) (upd H p o) σ sl tp := by
  have hn := R.not_new hp
  have hne : ∀ a ∈ TA.fpl (sl ++ tp), a ≠ p := fun a ha e => hn (e ▸ ha)
  refine ⟨R.len, R.val, TA.okl_mono (same_upd (R.hs_none hp)) _ R.ok fun a ha => upd_ne (hne a ha), R.uq, fun a ha => by rw [upd_ne (hne a ha)]; exact R.out a ha,
    same_upd2 R.sub, fun a u h1 h2 => by rw [upd_ne (ne_of_none (R.keep a u h1 h2) hp)]; exact R.keep a u h1 h2, R.fresh, R.hs.trans (same_upd (R.hs_none hp)), fun a ha => ?_, R.ntup, R.pin⟩
  by_cases e : a = p
  · subst e; exact .inr (R.new_free hp)
  · rw [upd_ne e] at ha; exact R.hsNew a ha
/-- the heap grows by things that nobody here knows -/
theorem Rel.allocN (R : Rel K B Hs H σ sl tp) (hp : H p = none) (o : HO) : Rel K B Hs (upd H p o) σ sl tp := by
  have hn := R.not_new hp
  have hne : ∀ a ∈ TA.fpl (sl ++ tp), a ≠ p := fun a ha e => hn (e ▸ ha)
  exact ⟨R.len, R.val, TA.okl_mono (Same.refl _) _ R.ok fun a ha => upd_ne (hne a ha), R.uq, R.out,
    R.sub.trans (same_upd hp), fun a u h1 h2 => by rw [upd_ne (ne_of_none (R.keep a u h1 h2) hp)]; exact R.keep a u h1 h2, R.fresh, R.hs, R.hsNew, R.ntup, R.pin⟩
theorem Rel.grow (R : Rel K B Hs H σ sl tp) (e : Same H H') : Rel K B Hs H' σ sl tp := by
  refine ⟨R.len, R.val, TA.okl_mono (Same.refl _) _ R.ok fun a ha => ?_, R.uq, R.out, R.sub.trans e, fun a u h1 h2 => e _ _ (R.keep a u h1 h2), R.fresh, R.hs, R.hsNew, R.ntup, R.pin⟩
  cases q : H a with
  | none => exact absurd q (R.some_of ha)
  | some o => exact e _ _ q
/-- other temporaries, out of the ones there are -/
theorem Rel.temps (R : Rel K B Hs H σ sl tp) (ok : TA.okl K Hs H tp') (sub : ∀ a ∈ TA.fpl tp', a ∈ TA.fpl tp) (uq : (TA.fpl tp').Nodup) : Rel K B Hs H σ sl tp' := by
  have hsub : ∀ a ∈ TA.fpl (sl ++ tp'), a ∈ TA.fpl (sl ++ tp) := fun a ha => by
    rw [TA.fpl_append] at ha ⊢
    rcases List.mem_append.mp ha with z | z
    · exact List.mem_append_left _ z
    · exact List.mem_append_right _ (sub a z)
  have hu := R.uq
  rw [TA.fpl_append, List.nodup_append] at hu
  refine ⟨R.len, R.val, TA.okl_append.mpr ⟨(TA.okl_append.mp R.ok).1, ok⟩, ?_, fun a ha => R.out a (hsub a ha), R.sub, R.keep, fun a ha => R.fresh a (hsub a ha), R.hs, R.hsNew, R.ntup, R.pin⟩
  rw [TA.fpl_append, List.nodup_append]
  exact ⟨hu.1, uq, fun a ha b hb => hu.2.2 a ha b (sub b hb)⟩
theorem Rel.okT (R : Rel K B Hs H σ sl tp) : TA.okl K Hs H tp := (TA.okl_append.mp R.ok).2
theorem Rel.okS (R : Rel K B Hs H σ sl tp) : TA.okl K Hs H sl := (TA.okl_append.mp R.ok).1
theorem Rel.uqT (R : Rel K B Hs H σ sl tp) : (TA.fpl tp).Nodup := by
  have hu := R.uq
  rw [TA.fpl_append, List.nodup_append] at hu
  exact hu.2.1
theorem Rel.uqS (R : Rel K B Hs H σ sl tp) : (TA.fpl sl).Nodup := by
  have hu := R.uq
  rw [TA.fpl_append, List.nodup_append] at hu
  exact hu.1
theorem Rel.drop (R : Rel K B Hs H σ sl (tp ++ ts)) : Rel K B Hs H σ sl tp := by
  refine R.temps (TA.okl_append.mp R.okT).1 (fun a ha => ?_) ?_
  · rw [TA.fpl_append]; exact List.mem_append_left _ ha
  · have := R.uqT
    rw [TA.fpl_append, List.nodup_append] at this
    exact this.1
theorem Rel.leaf {v : V} {y : PyData} (R : Rel K B Hs H σ sl tp) (h : Rp K Hs v y) : Rel K B Hs H σ sl (tp ++ [.d v y]) := by
  have e : TA.fpl (tp ++ [TA.d v y]) = TA.fpl tp := by rw [TA.fpl_append, fpl_one, TA.fp, List.append_nil]
  refine R.temps (TA.okl_append.mpr ⟨R.okT, ?_⟩) (fun a ha => by rw [e] at ha; exact ha) (by rw [e]; exact R.uqT)
  rw [TA.okl, TA.ok, TA.okl]
  exact ⟨h, trivial⟩
theorem Rel.child {k : Kd} {a : Addr} {j : Nat} (R : Rel K B Hs H σ sl (tp ++ [.nd k a ts])) (h : ts[j]? = some c) : Rel K B Hs H σ sl (tp ++ [c]) := by
  have ok := R.okT
  rw [TA.okl_append, TA.okl, TA.ok] at ok
  have uq := R.uqT
  rw [TA.fpl_append, fpl_one, TA.fp] at uq
  obtain ⟨l1, l2, rfl, _⟩ := getElem?_split h
  have sub : ∀ z ∈ c.fp, z ∈ TA.fpl (l1 ++ c :: l2) := fun z hz => fpl_mem (by simp) hz
  refine R.temps (TA.okl_append.mpr ⟨ok.1, ?_⟩) (fun z hz => ?_) ?_
  · rw [TA.okl, TA.okl]
    exact ⟨TA.okl_all.mp ok.2.1.2 c (by simp), trivial⟩
  · rw [TA.fpl_append, fpl_one] at hz ⊢
    rcases List.mem_append.mp hz with z' | z'
    · exact List.mem_append_left _ z'
    · exact List.mem_append_right _ (by rw [TA.fp]; exact List.mem_cons_of_mem _ (sub z z'))
  · rw [TA.fpl_append, fpl_one]
    rw [List.nodup_append] at uq ⊢
    refine ⟨uq.1, ?_, fun z hz w hw => uq.2.2 z hz w (List.mem_cons_of_mem _ (sub w hw))⟩
    have := (List.nodup_cons.mp uq.2.1).2
    rw [TA.fpl_append, TA.fpl, ← List.append_assoc] at this
    exact (nodup_mid this).2.1
theorem Rel.kids {k : Kd} {a : Addr} (R : Rel K B Hs H σ sl (tp ++ [.nd k a ts])) : Rel K B Hs H σ sl (tp ++ ts) := by
  have ok := R.okT
  rw [TA.okl_append, TA.okl, TA.ok] at ok
  have uq := R.uqT
  rw [TA.fpl_append, fpl_one, TA.fp] at uq
  refine R.temps (TA.okl_append.mpr ⟨ok.1, ok.2.1.2⟩) (fun z hz => ?_) ?_
  · rw [TA.fpl_append] at hz ⊢
    rw [fpl_one, TA.fp]
    rcases List.mem_append.mp hz with z' | z'
    · exact List.mem_append_left _ z'
    · exact List.mem_append_right _ (List.mem_cons_of_mem _ z')
  · rw [TA.fpl_append]
    rw [List.nodup_append] at uq ⊢
    exact ⟨uq.1, (List.nodup_cons.mp uq.2.1).2, fun z hz w hw => uq.2.2 z hz w (List.mem_cons_of_mem _ hw)⟩
/-- a new node of one's own, out of temporaries -/
theorem Rel.allocO {k : Kd} {o : HO} (R : Rel K B Hs H σ sl (tp ++ ts)) (hp : H p = none) (h : k.at (upd H p o) p (ts.map TA.v)) : Rel K B Hs (upd H p o) σ sl (tp ++ [.nd k p ts]) := by
  have R' := R.allocN hp o
  have hn := R.not_new hp
  have ok := R'.okT
  rw [TA.okl_append] at ok
  have e1 : TA.fpl (sl ++ (tp ++ [.nd k p ts])) = TA.fpl sl ++ (TA.fpl tp ++ p :: TA.fpl ts) := by rw [TA.fpl_append, TA.fpl_append, fpl_one, TA.fp]
  have e2 : TA.fpl (sl ++ (tp ++ ts)) = TA.fpl sl ++ (TA.fpl tp ++ TA.fpl ts) := by rw [TA.fpl_append, TA.fpl_append]
  have pm : (TA.fpl (sl ++ (tp ++ [.nd k p ts]))).Perm (p :: TA.fpl (sl ++ (tp ++ ts))) := by
    rw [e1, e2, ← List.append_assoc, ← List.append_assoc]
    exact List.perm_middle
  have mem : ∀ a ∈ TA.fpl (sl ++ (tp ++ [.nd k p ts])), a = p ∨ a ∈ TA.fpl (sl ++ (tp ++ ts)) := fun a ha => List.mem_cons.mp (pm.mem_iff.mp ha)
  refine ⟨R'.len, R'.val, TA.okl_append.mpr ⟨R'.okS, TA.okl_append.mpr ⟨ok.1, ?_⟩⟩, pm.nodup_iff.mpr (List.nodup_cons.mpr ⟨hn, R.uq⟩), fun a ha => ?_, R'.sub, R'.keep, fun a ha => ?_, R'.hs, R'.hsNew, R'.ntup, R'.pin⟩
  · rw [TA.okl, TA.ok, TA.okl]
    exact ⟨⟨h, ok.2⟩, trivial⟩
  · rcases mem a ha with rfl | z
    · exact R.hs_none hp
    · exact R.out a z
  · rcases mem a ha with rfl | z
    · exact R.new_free hp
    · exact R.fresh a z
/-- the shared heap with some of the owned objects in it -/
def frzH (Hs H : Hp) (A : List Addr) : Hp := fun a => if a ∈ A then H a else Hs a
theorem frzH_same {A : List Addr} (h : ∀ a ∈ A, Hs a = none) : Same Hs (frzH Hs H A) := fun a o e => by
  unfold frzH
  rw [if_neg]
  · exact e
  · intro z
    rw [h a z] at e
    cases e
theorem frzH_sub {A : List Addr} (h : Same Hs H) : Same (frzH Hs H A) H := fun a o e => by
  unfold frzH at e
  split at e
  · exact e
  · exact h a o e
/-- a whole tree as data of a heap that holds it -/
theorem TA.reads_frz (e : Same Hs H) (t : TA) {y : PyData} (ok : t.ok K Hs H) (hy : t.t.data = some y) (out : ∀ a ∈ t.fp, Hs a = none) : Rp K (frzH Hs H t.fp) t.v y := by
  refine TA.reads (frzH_same out) t y (TA.ok_mono (Same.refl _) t ok fun a ha => ?_) hy
  unfold frzH
  rw [if_pos ha]
/-- freezing: general -/
theorem Rel.frz {A : List Addr} (R : Rel K B Hs H σ sl tp) (hA : ∀ a ∈ A, a ∈ TA.fpl (sl ++ tp)) (len : sl'.length = σ.length)
    (val : ∀ (i : Nat) (t : TA), sl'[i]? = some t → t.isDead = false → σ[i]? = some (some t.v)) (ok : TA.okl K (frzH Hs H A) H (sl' ++ tp')) (uq : (TA.fpl (sl' ++ tp')).Nodup)
    (sub : ∀ a ∈ TA.fpl (sl' ++ tp'), a ∈ TA.fpl (sl ++ tp) ∧ a ∉ A) (nt : ∀ t ∈ sl', t.noTup = true) (pin : ∀ p ∈ B.pin, p.1 ∈ B.ix ∧ ∃ t, sl'[p.1]? = some t ∧ t.v = p.2) : Rel K B (frzH Hs H A) H σ sl' tp' := by
  refine ⟨len, val, ok, uq, fun a ha => ?_, frzH_sub R.sub, R.keep, fun a ha => R.fresh a (sub a ha).1, R.hs.trans (frzH_same fun a ha => R.out a (hA a ha)), fun a ha => ?_, nt, pin⟩
  · unfold frzH
    rw [if_neg (sub a ha).2]
    exact R.out a (sub a ha).1
  · unfold frzH at ha
    split at ha
    · rename_i z
      exact .inr (R.fresh a (hA a z))
    · exact R.hsNew a ha
theorem Rel.frzT {y : PyData} (R : Rel K B Hs H σ sl (tp ++ [t])) (hy : t.t.data = some y) : Rel K B (frzH Hs H t.fp) H σ sl (tp ++ [.d t.v y]) := by
  have hin : ∀ a ∈ t.fp, a ∈ TA.fpl (sl ++ (tp ++ [t])) := fun a ha => fpl_mem (by simp) ha
  have ok := TA.okl_append.mp R.ok
  have okt := TA.okl_append.mp ok.2
  have okt' : t.ok K Hs H := by have := okt.2; rw [TA.okl] at this; exact this.1
  have uq := R.uq
  rw [TA.fpl_append, TA.fpl_append, fpl_one, ← List.append_assoc, List.nodup_append] at uq
  have e1 : TA.fpl (sl ++ (tp ++ [TA.d t.v y])) = TA.fpl sl ++ TA.fpl tp := by rw [TA.fpl_append, TA.fpl_append, fpl_one, TA.fp, List.append_nil]
  have sm : Same Hs (frzH Hs H t.fp) := frzH_same fun a ha => R.out a (hin a ha)
  refine R.frz hin R.len R.val (TA.okl_append.mpr ⟨TA.okl_mono sm _ ok.1 fun _ _ => rfl, TA.okl_append.mpr ⟨TA.okl_mono sm _ okt.1 fun _ _ => rfl, ?_⟩⟩) (by rw [e1]; exact uq.1) (fun a ha => ?_) R.ntup R.pin
  · rw [TA.okl, TA.ok, TA.okl]
    exact ⟨TA.reads_frz R.sub t okt' hy fun a ha => R.out a (hin a ha), trivial⟩
  · rw [e1] at ha
    refine ⟨?_, fun z => uq.2.2 a ha a z rfl⟩
    rw [TA.fpl_append, TA.fpl_append, ← List.append_assoc]
    exact List.mem_append_left _ ha

/-! ### a place of the slots -/
theorem set_pre {α : Type} {l : List α} {i : Nat} {x y : α} (h : l[i]? = some x) : ∃ l1 l2, l = l1 ++ x :: l2 ∧ l.set i y = l1 ++ y :: l2 ∧ l1.length = i := by
  obtain ⟨l1, l2, rfl, rfl⟩ := getElem?_split h
  exact ⟨l1, l2, rfl, set_split, rfl⟩
theorem Rel.lens {q : List Nat} (h : sl[i]? = some t) (hc : t.at q = some c) : ∃ l1 l2, TA.fpl (sl ++ tp) = l1 ++ c.fp ++ l2 ∧ ∀ s : TA, TA.fpl (sl.set i (t.put s q) ++ tp) = l1 ++ s.fp ++ l2 := by
  obtain ⟨m1, m2, e1, e2⟩ := TA.lens q t c hc
  obtain ⟨u1, u2, eu, -, hu⟩ := set_pre (y := t) h
  refine ⟨TA.fpl u1 ++ m1, m2 ++ TA.fpl u2 ++ TA.fpl tp, ?_, fun s => ?_⟩
  · rw [eu, TA.fpl_append, TA.fpl_append, TA.fpl, e1]
    simp
  · rw [eu, ← hu, set_split, TA.fpl_append, TA.fpl_append, TA.fpl, e2]
    simp
theorem Rel.slot_ok (R : Rel K B Hs H σ sl tp) (h : sl[i]? = some t) : t.ok K Hs H := TA.okl_all.mp R.okS t (List.mem_of_getElem? h)
theorem Rel.slot_uq (R : Rel K B Hs H σ sl tp) (h : sl[i]? = some t) : t.fp.Nodup := by
  obtain ⟨l1, l2, e1, _⟩ := Rel.lens (tp := tp) (q := []) h rfl
  have := R.uq
  rw [e1] at this
  exact (nodup_mid this).2.1
/-- slots with a tree exchanged at a place for one of the same value: val, pin -/
theorem Rel.put_val {q : List Nat} (R : Rel K B Hs H σ sl tp) (h : sl[i]? = some t) (hc : t.at q = some c) (hv : s.v = c.v) (hdd : q = [] → s.isDead = false → σ[i]? = some (some s.v)) : (∀ (j : Nat) (u : TA), (sl.set i (t.put s q))[j]? = some u → u.isDead = false → σ[j]? = some (some u.v)) ∧
    ∀ p ∈ B.pin, p.1 ∈ B.ix ∧ ∃ u, (sl.set i (t.put s q))[p.1]? = some u ∧ u.v = p.2 := by
  have hi : i < sl.length := (List.getElem?_eq_some_iff.mp h).1
  have ev : (t.put s q).v = t.v := TA.put_v s q t c hc hv
  refine ⟨fun j u hu hud => ?_, fun p hp => ?_⟩
  · by_cases hj : j = i
    · subst hj
      rw [List.getElem?_set_self hi] at hu
      cases hu
      cases q with
      | nil => exact hdd rfl hud
      | cons m q =>
        rw [ev]
        refine R.val _ t h ?_
        cases t with
        | dead _ => cases hc
        | d v x => rfl
        | nd k a ts => rfl
    · rw [List.getElem?_set_ne (Ne.symm hj)] at hu
      exact R.val j u hu hud
  · obtain ⟨hx, u, h1, h3⟩ := R.pin p hp
    refine ⟨hx, ?_⟩
    by_cases hj : p.1 = i
    · rw [hj] at h1
      rw [h] at h1
      cases h1
      exact ⟨_, by rw [hj]; exact List.getElem?_set_self hi, by rw [ev]; exact h3⟩
    · exact ⟨u, by rw [List.getElem?_set_ne (Ne.symm hj)]; exact h1, h3⟩
/-- something is done to the object at a place -/
theorem Rel.put {q : List Nat} (R : Rel K B Hs H σ sl (tp ++ xs)) (h : sl[i]? = some t) (hc : t.at q = some c) (hv : s.v = c.v) (hdd : q = [] → s.isDead = false → σ[i]? = some (some s.v)) (hn : s.noTup = true)
    (hH : ∀ a, a ∉ c.fp → H' a = H a) (ok : s.ok K Hs H') (uq : s.fp.Nodup) (sub : ∀ a ∈ s.fp, a ∈ c.fp ∨ a ∈ TA.fpl xs) : Rel K B Hs H' σ (sl.set i (t.put s q)) tp := by
  obtain ⟨l1, l2, e1, e2⟩ := Rel.lens (tp := tp ++ xs) h hc
  obtain ⟨m1, m2, f1, f2⟩ := Rel.lens (tp := tp) h hc
  have uq0 := R.uq
  rw [e1] at uq0
  have nm := nodup_mid uq0
  have hi : i < sl.length := (List.getElem?_eq_some_iff.mp h).1
  have hout : ∀ a ∈ c.fp, a ∈ TA.fpl (sl ++ (tp ++ xs)) := fun a ha => by rw [e1]; exact List.mem_append_left _ (List.mem_append_right _ ha)
  have hxs : ∀ a ∈ TA.fpl xs, a ∈ TA.fpl (sl ++ (tp ++ xs)) := fun a ha => by rw [TA.fpl_append, TA.fpl_append]; exact List.mem_append_right _ (List.mem_append_right _ ha)
  have hm : ∀ a ∈ m1 ++ m2, a ∉ c.fp ∧ a ∉ TA.fpl xs ∧ a ∈ TA.fpl (sl ++ (tp ++ xs)) := fun a ha => by
    have uq1 : (TA.fpl (sl ++ tp) ++ TA.fpl xs).Nodup := by rw [← TA.fpl_append, List.append_assoc]; exact R.uq
    rw [List.nodup_append] at uq1
    have hmem : a ∈ TA.fpl (sl ++ tp) := by
      rw [f1]
      rcases List.mem_append.mp ha with z | z
      · exact List.mem_append_left _ (List.mem_append_left _ z)
      · exact List.mem_append_right _ z
    have u2 := uq1.1
    rw [f1] at u2
    refine ⟨fun z => ?_, fun z => uq1.2.2 a hmem a z rfl, by rw [← List.append_assoc, TA.fpl_append]; exact List.mem_append_left _ hmem⟩
    have := (nodup_mid u2).1 a z
    rcases List.mem_append.mp ha with y | y
    · exact this.1 y
    · exact this.2 y
  have mem : ∀ a ∈ TA.fpl (sl.set i (t.put s q) ++ tp), a ∈ TA.fpl (sl ++ (tp ++ xs)) := fun a ha => by
    rw [f2 s] at ha
    rcases List.mem_append.mp ha with z | z
    · rcases List.mem_append.mp z with z | z
      · exact (hm a (List.mem_append_left _ z)).2.2
      · rcases sub a z with y | y
        · exact hout a y
        · exact hxs a y
    · exact (hm a (List.mem_append_right _ z)).2.2
  have uqS := R.uqS
  have same : Same Hs H' := fun a o e => by
    rw [hH a fun z => ?_]
    · exact R.sub a o e
    · rw [R.out a (hout a z)] at e
      cases e
  obtain ⟨pv1, pv2⟩ := R.put_val h hc hv hdd
  refine ⟨by rw [List.length_set]; exact R.len, pv1, ?_, ?_, fun a ha => R.out a (mem a ha), same, fun a o h1 h2 => ?_, fun a ha => R.fresh a (mem a ha), R.hs, R.hsNew, fun u hu => ?_, pv2⟩
  · rw [TA.okl_append]
    constructor
    · refine TA.okl_all.mpr fun u hu => ?_
      obtain ⟨u1, u2, eu, es, hl⟩ := set_pre (y := t.put s q) h
      rw [es] at hu
      have okS := R.okS
      have uqS' := uqS
      rw [eu, TA.fpl_append, TA.fpl, ← List.append_assoc] at uqS'
      have nm' := nodup_mid uqS'
      obtain ⟨g1, g2, ge, _⟩ := TA.lens q t c hc
      have cin : ∀ a ∈ c.fp, a ∈ t.fp := fun a ha => by rw [ge]; exact List.mem_append_left _ (List.mem_append_right _ ha)
      have side : ∀ w : TA, w.ok K Hs H → (∀ a ∈ w.fp, a ∈ TA.fpl u1 ∨ a ∈ TA.fpl u2) → w.ok K Hs H' := fun w hw hz =>
        TA.ok_mono (Same.refl _) w hw fun a ha => hH a fun hc' => by
          have := nm'.1 a (cin a hc')
          rcases hz a ha with y | y
          · exact this.1 y
          · exact this.2 y
      rcases List.mem_append.mp hu with hu | hu
      · exact side u (TA.okl_all.mp okS u (by rw [eu]; exact List.mem_append_left _ hu)) fun a ha => .inl (fpl_mem hu ha)
      · rcases List.mem_cons.mp hu with rfl | hu
        · exact TA.put_ok (Same.refl _) s ok q t c hc hv (R.slot_ok h) (R.slot_uq h) fun a _ ha => hH a ha
        · exact side u (TA.okl_all.mp okS u (by rw [eu]; exact List.mem_append_right _ (List.mem_cons_of_mem _ hu))) fun a ha => .inr (fpl_mem hu ha)
    · refine TA.okl_mono (Same.refl _) _ (TA.okl_append.mp R.okT).1 fun a ha => hH a fun z => ?_
      have u1 := R.uq
      rw [← List.append_assoc, TA.fpl_append, List.nodup_append] at u1
      have u2 := u1.1
      rw [TA.fpl_append, List.nodup_append] at u2
      refine u2.2.2 a ?_ a ha rfl
      obtain ⟨g1, g2, ge, _⟩ := TA.lens q t c hc
      exact fpl_mem (List.mem_of_getElem? h) (by rw [ge]; exact List.mem_append_left _ (List.mem_append_right _ z))
  · rw [f2 s]
    have u0 : (TA.fpl (sl ++ tp)).Nodup := by
      have := R.uq
      rw [← List.append_assoc, TA.fpl_append, List.nodup_append] at this
      exact this.1
    rw [f1] at u0
    have nn := (nodup_mid u0).2.2
    rw [List.nodup_append] at nn
    have dis : ∀ a ∈ s.fp, a ∉ m1 ∧ a ∉ m2 := fun a ha => by
      refine ⟨fun z => ?_, fun z => ?_⟩
      · have := hm a (List.mem_append_left _ z)
        rcases sub a ha with y | y
        · exact this.1 y
        · exact this.2.1 y
      · have := hm a (List.mem_append_right _ z)
        rcases sub a ha with y | y
        · exact this.1 y
        · exact this.2.1 y
    rw [List.append_assoc, List.nodup_append]
    refine ⟨nn.1, List.nodup_append.mpr ⟨uq, nn.2.1, fun a ha b hb e => (dis a ha).2 (e ▸ hb)⟩, fun a ha b hb e => ?_⟩
    rcases List.mem_append.mp hb with y | y
    · exact (dis b y).1 (e ▸ ha)
    · exact nn.2.2 a ha b y e
  · by_cases z : a ∈ c.fp
    · rcases R.fresh a (hout a z) with y | y
      · exact absurd y h2
      · rw [h1] at y; cases y
    · rw [hH a z]
      exact R.keep a o h1 h2
  · rcases mem_set_or hu with rfl | hu
    · exact TA.put_noTup s hn q t (R.ntup t (List.mem_of_getElem? h))
    · exact R.ntup u hu
/-- the object at a place is frozen -/
theorem Rel.frzP {q : List Nat} {y : PyData} (R : Rel K B Hs H σ sl tp) (h : sl[i]? = some t) (hc : t.at q = some c) (hcd : c.isDead = false) (hy : c.t.data = some y) :
    Rel K B (frzH Hs H c.fp) H σ (sl.set i (t.put (.d c.v y) q)) tp ∧ Rp K (frzH Hs H c.fp) c.v y := by
  obtain ⟨l1, l2, e1, e2⟩ := Rel.lens (tp := tp) h hc
  have uq := R.uq
  rw [e1] at uq
  have nm := nodup_mid uq
  have hin : ∀ a ∈ c.fp, a ∈ TA.fpl (sl ++ tp) := fun a ha => by rw [e1]; exact List.mem_append_left _ (List.mem_append_right _ ha)
  have sm : Same Hs (frzH Hs H c.fp) := frzH_same fun a ha => R.out a (hin a ha)
  have okc : c.ok K Hs H := TA.at_ok q t c hc (R.slot_ok h)
  have dp : Rp K (frzH Hs H c.fp) c.v y := TA.reads_frz R.sub c okc hy fun a ha => R.out a (hin a ha)
  obtain ⟨pv1, pv2⟩ := R.put_val (s := .d c.v y) h hc rfl (fun e _ => by subst e; rw [TA.at] at hc; cases hc; exact R.val i t h hcd)
  have e3 : TA.fpl (sl.set i (t.put (.d c.v y) q) ++ tp) = l1 ++ l2 := by rw [e2, TA.fp, List.append_nil]
  refine ⟨R.frz hin (by rw [List.length_set]; exact R.len) pv1 ?_ (by rw [e3]; exact nm.2.2) (fun a ha => ?_) (fun u hu => ?_) pv2, dp⟩
  · refine TA.okl_append.mpr ⟨TA.okl_all.mpr fun u hu => ?_, TA.okl_mono sm _ R.okT fun _ _ => rfl⟩
    rcases mem_set_or hu with rfl | hu
    · exact TA.put_ok sm (.d c.v y) (by rw [TA.ok]; exact dp) q t c hc rfl (R.slot_ok h) (R.slot_uq h) fun _ _ _ => rfl
    · exact TA.ok_mono sm u (TA.okl_all.mp R.okS u hu) fun _ _ => rfl
  · rw [e3] at ha
    rw [e1]
    refine ⟨?_, fun z => ?_⟩
    · rcases List.mem_append.mp ha with y' | y'
      · exact List.mem_append_left _ (List.mem_append_left _ y')
      · exact List.mem_append_right _ y'
    · have := nm.1 a z
      rcases List.mem_append.mp ha with y' | y'
      · exact this.1 y'
      · exact this.2 y'
  · rcases mem_set_or hu with rfl | hu
    · exact TA.put_noTup _ rfl q t (R.ntup t (List.mem_of_getElem? h))
    · exact R.ntup u hu
/-- a temporary goes into a slot -/
theorem Rel.setS (R : Rel K B Hs H σ sl (tp ++ [x])) (hi : i < sl.length) (hpi : i ∉ B.ix) (hn : x.noTup = true) : Rel K B Hs H (σ.set i (some x.v)) (sl.set i x) tp := by
  have hg : sl[i]? = some sl[i] := List.getElem?_eq_getElem hi
  obtain ⟨u1, u2, eu, es, hl⟩ := set_pre (y := x) hg
  have e1 : TA.fpl (sl ++ (tp ++ [x])) = TA.fpl u1 ++ sl[i].fp ++ (TA.fpl u2 ++ TA.fpl tp ++ x.fp) := by
    conv => lhs; rw [eu]
    rw [TA.fpl_append, TA.fpl_append, TA.fpl, TA.fpl_append, fpl_one]
    simp
  have e2 : TA.fpl (sl.set i x ++ tp) = TA.fpl u1 ++ x.fp ++ (TA.fpl u2 ++ TA.fpl tp) := by
    rw [es, TA.fpl_append, TA.fpl_append, TA.fpl]
    simp
  have uq := R.uq
  rw [e1] at uq
  have nn := (nodup_mid uq).2.2
  have pm : (TA.fpl u1 ++ x.fp ++ (TA.fpl u2 ++ TA.fpl tp)).Perm (TA.fpl u1 ++ (TA.fpl u2 ++ TA.fpl tp ++ x.fp)) := by
    rw [List.append_assoc]
    exact List.Perm.append_left _ List.perm_append_comm
  have mem : ∀ a ∈ TA.fpl (sl.set i x ++ tp), a ∈ TA.fpl (sl ++ (tp ++ [x])) := fun a ha => by
    rw [e2] at ha
    rw [e1]
    have := pm.mem_iff.mp ha
    rcases List.mem_append.mp this with z | z
    · exact List.mem_append_left _ (List.mem_append_left _ z)
    · exact List.mem_append_right _ z
  have okT := TA.okl_append.mp R.okT
  have hiσ : i < σ.length := by rw [← R.len]; exact hi
  refine ⟨by rw [List.length_set, List.length_set]; exact R.len, fun j u hu hud => ?_, ?_, by rw [e2]; exact pm.nodup_iff.mpr nn, fun a ha => R.out a (mem a ha), R.sub, R.keep, fun a ha => R.fresh a (mem a ha), R.hs, R.hsNew, fun u hu => ?_, fun p hp' => ?_⟩
  · by_cases hj : j = i
    · subst hj
      rw [List.getElem?_set_self hi] at hu
      cases hu
      rw [List.getElem?_set_self hiσ]
    · rw [List.getElem?_set_ne (Ne.symm hj)] at hu ⊢
      exact R.val j u hu hud
  · refine TA.okl_append.mpr ⟨TA.okl_all.mpr fun u hu => ?_, okT.1⟩
    rcases mem_set_or hu with rfl | hu
    · have := okT.2
      rw [TA.okl] at this
      exact this.1
    · exact TA.okl_all.mp R.okS u hu
  · rcases mem_set_or hu with rfl | hu
    · exact hn
    · exact R.ntup u hu
  · obtain ⟨hx, u, h1, h2⟩ := R.pin p hp'
    exact ⟨hx, u, by rw [List.getElem?_set_ne (fun z => hpi (by rw [z]; exact hx))]; exact h1, h2⟩
/-- a slot's content put by, the slot dead -/
theorem Rel.hide (R : Rel K B Hs H σ sl tp) (h : sl[i]? = some t) (hpi : i ∉ B.ix) (hl : σ'.length = σ.length) (hσ : ∀ j, j ≠ i → σ'[j]? = σ[j]?) : Rel K B Hs H σ' (sl.set i (.dead .non)) (tp ++ [t]) := by
  have hi : i < sl.length := (List.getElem?_eq_some_iff.mp h).1
  obtain ⟨u1, u2, eu, es, hl'⟩ := set_pre (y := TA.dead .non) h
  have e1 : TA.fpl (sl ++ tp) = TA.fpl u1 ++ t.fp ++ (TA.fpl u2 ++ TA.fpl tp) := by
    conv => lhs; rw [eu]
    rw [TA.fpl_append, TA.fpl_append, TA.fpl]
    simp
  have e2 : TA.fpl (sl.set i (.dead .non) ++ (tp ++ [t])) = TA.fpl u1 ++ ((TA.fpl u2 ++ TA.fpl tp) ++ t.fp) := by
    rw [es, TA.fpl_append, TA.fpl_append, TA.fpl, TA.fpl_append, fpl_one, TA.fp]
    simp
  have pm : (TA.fpl (sl.set i (.dead .non) ++ (tp ++ [t]))).Perm (TA.fpl (sl ++ tp)) := by
    rw [e1, e2, List.append_assoc (TA.fpl u1) t.fp]
    exact List.Perm.append_left _ List.perm_append_comm
  have mem : ∀ a, a ∈ TA.fpl (sl.set i (.dead .non) ++ (tp ++ [t])) → a ∈ TA.fpl (sl ++ tp) := fun a => pm.mem_iff.mp
  refine ⟨by rw [List.length_set, hl]; exact R.len, fun j u hu hud => ?_, ?_, pm.nodup_iff.mpr R.uq, fun a ha => R.out a (mem a ha), R.sub, R.keep, fun a ha => R.fresh a (mem a ha), R.hs, R.hsNew, fun u hu => ?_, fun p hp' => ?_⟩
  · by_cases hj : j = i
    · subst hj
      rw [List.getElem?_set_self hi] at hu
      cases hu
      cases hud
    · rw [List.getElem?_set_ne (Ne.symm hj)] at hu
      rw [hσ j hj]
      exact R.val j u hu hud
  · refine TA.okl_append.mpr ⟨TA.okl_all.mpr fun u hu => ?_, TA.okl_append.mpr ⟨R.okT, ?_⟩⟩
    · rcases mem_set_or hu with rfl | hu
      · rw [TA.ok]; trivial
      · exact TA.okl_all.mp R.okS u hu
    · rw [TA.okl, TA.okl]
      exact ⟨R.slot_ok h, trivial⟩
  · rcases mem_set_or hu with rfl | hu
    · rfl
    · exact R.ntup u hu
  · obtain ⟨hx, u, h1, h2⟩ := R.pin p hp'
    exact ⟨hx, u, by rw [List.getElem?_set_ne (fun z => hpi (by rw [z]; exact hx))]; exact h1, h2⟩
/-- and back again -/
theorem Rel.unhide (R : Rel K B Hs H σ' sl (tp ++ [t])) (hi : i < sl.length) (hpi : i ∉ B.ix) (hn : t.noTup = true) (hl : σ'.length = σ.length) (hσ : ∀ j, j ≠ i → σ'[j]? = σ[j]?) (ht : t.isDead = false → σ[i]? = some (some t.v)) : Rel K B Hs H σ (sl.set i t) tp := by
  have R1 := R.setS hi hpi hn
  refine ⟨by rw [List.length_set]; exact R.len.trans hl, fun j u hu hud => ?_, R1.ok, R1.uq, R1.out, R1.sub, R1.keep, R1.fresh, R1.hs, R1.hsNew, R1.ntup, R1.pin⟩
  by_cases hj : j = i
  · subst hj
    rw [List.getElem?_set_self hi] at hu
    cases hu
    exact ht hud
  · rw [List.getElem?_set_ne (Ne.symm hj)] at hu
    rw [← hσ j hj]
    exact R.val j u hu hud
end
end VL
set_option Elab.async false
set_option linter.all false
set_option maxRecDepth 100000
set_option maxHeartbeats 4000000
/-! VL3: a core language and its meaning over trees. -/
namespace VL
open PySem PySem.Spec PyProof.Rows L2

/-- a branch -/
def br (z : Bool) (A B : Prop) : Prop := (z = true → A) ∧ (z = false → B)
theorem br_t {A B : Prop} : br true A B = A := propext ⟨fun h => h.1 rfl, fun h => ⟨fun _ => h, fun z => by cases z⟩⟩
theorem br_f {A B : Prop} : br false A B = B := propext ⟨fun h => h.2 rfl, fun h => ⟨fun z => (by cases z), fun _ => h⟩⟩
inductive BOp where | add | sub | mul | fdiv | mod | pow | shl | shr | band deriving DecidableEq
inductive COp where | lt | le | gt | ge | eq | ne | isin | notin | is | isnot deriving DecidableEq
inductive Blt where | len | max | min | sum | abs | int | str | tuple | list | sorted | all | any | listRange deriving DecidableEq
inductive Mth where | append | insert | pop | clear | reverse | index deriving DecidableEq
inductive ItK where | e | rng1 | rng2 | rng3 | rrng | enum deriving DecidableEq
inductive Md where | own | bor deriving DecidableEq
inductive E where
  | var (i : Nat)
  | k (x : PyData)
  | glob (g : Str)
  | bin (op : BOp) (a b : E)
  | neg (a : E)
  | cmp (op : COp) (a b : E)
  | chain (op op' : COp) (a b c : E)
  | and (a b : E) | or (a b : E) | not (a : E)
  | ite (c a b : E)
  | ix (o i : E)
  | sl (lo hi : Bool) (o : E) (es : List E)
  | rev (o : E)
  | lst (es : List E) | tup (es : List E)
  | call (f : Str) (es : List E)
  | blt (b : Blt) (es : List E)
  | isi (a : E) (ty : String)
  | mth (m : Mth) (o : E) (es : List E)
  | lc (is : List Nat) (bor : Bool) (elt : E) (it : ItK) (ies : List E) (cond : List E)
  | rpr (a : E)
  | dct0
  | dix (o i : E) | dgt (o i : E) | din (neg : Bool) (i o : E) | dcp (o : E) | deq (neg : Bool) (a b : E)
  | frz (e : E) | mov (i : Nat)
  | dpop (o i d : E) | dsrt (o : E) | dlst (o : E) | dlen (o : E)
  | lcd (i : Nat) (elt o : E) (cond : List E)
  | ddsp (ks : List Key) (es : List E)
  | dprs (e : E)
  | mxd (mx : Bool) (e : E)
  | lset (e : E) | sset (e : E)
  | att (c a : Str) (o : E)
  | mcall (c m : Str) (o : E) (es : List E)
  | new (c : Str) (es : List E)
inductive S where
  | asg (i : Nat) (e : E)
  | unp (is : List Nat) (e : E)
  | setix (o i e : E)
  | augix (op : BOp) (o i : E) (y : Int)
  | setdix (o i e : E)
  | setatt (c a : Str) (o e : E)
  | rse
  | aug (i : Nat) (op : BOp) (e : E)
  | ex (e : E)
  | ret (e : E) | retN
  | retm (es : List E)
  | ife (c : E) (a b : List S)
  | for_ (is : List Nat) (it : ItK) (ies : List E) (body : List S)
  | while_ (c : E) (body : List S)
  | pass | brk | cnt

abbrev St := List T
inductive R where
  | v (t : T)
  | p (i : Nat) (q : List Nat)
structure FS where
  md : List Md
  F : List T → (T → List T → Prop) → Prop
/-- a class: where it stands, its methods (self is the first argument; __init__ among them), the names of its fields -/
structure CI where
  C : Addr
  mt : List (Str × FS)
  fld : List Str
structure Ctx where
  fn : List (Str × FS)
  glob : List (Str × PyData)
  bs : List Str
  pin : List Nat
  cls : List (Str × CI) := []
/-- the names of a context: all that the checker looks at -/
structure Sk where
  fn : List Str
  bs : List Str
  pin : List Nat
  cls : List (Str × List Str × List Str)
def Ctx.sk (Γ : Ctx) : Sk := ⟨Γ.fn.map (·.1), Γ.bs, Γ.pin, Γ.cls.map fun c => (c.1, c.2.mt.map (·.1), c.2.fld)⟩

def R.get (r : R) (σ : St) : Option T := match r with
  | .v t => some t
  | .p i q => match σ[i]? with
    | some t => t.at q
    | none => none
def R.top : R → Bool
  | .v _ => true
  | .p _ [] => true
  | .p _ (_ :: _) => false
def R.isP : R → Bool
  | .v _ => false
  | .p _ _ => true
def R.data (r : R) (σ : St) : Option PyData := match r.get σ with
  | some t => t.data
  | none => none
def putS (σ : St) (i : Nat) (q : List Nat) (s : T) : St := match σ[i]? with
  | some t => σ.set i (t.put s q)
  | none => σ
/-- a value to be kept: what is seen at a place is frozen there -/
def toV (pu : Bool) (r : R) (σ : St) (K : T → St → Prop) : Prop := match r with
  | .v t => K t σ
  | .p i q => pu = false ∧ match (R.p i q).data σ with
    | some x => K (.d x) (putS σ i q (.d x))
    | none => False
def toVs (pu : Bool) : List R → St → (List T → St → Prop) → Prop
  | [], σ, K => K [] σ
  | r :: rs, σ, K => toV pu r σ fun t σ1 => toVs pu rs σ1 fun ts σ2 => K (t :: ts) σ2
def T.leaves : List T → Option (List PyData)
  | [] => some []
  | .d x :: r => match T.leaves r with
    | some xs => some (x :: xs)
    | none => none
  | _ :: _ => none
/-- the items of a list, to stand in a new one -/
def R.kids (r : R) (σ : St) : Option (List T) := match r.get σ with
  | some (.d (.list xs)) => some (xs.map .d)
  | some (.nd .list ts) => match r with
    | .v _ => some ts
    | .p _ _ => if (T.leaves ts).isSome then some ts else none
  | _ => none
/-- dicts: keys, the pairs of one, what stands under a key -/
def dkey : PyData → Option Key
  | .int i => some (.inl i)
  | .str s => some (.inr s)
  | _ => none
def unD : List (PyData × PyData) → Option (List (Key × PyData))
  | [] => some []
  | (k, x) :: r => match dkey k, unD r with
    | some k, some r => some ((k, x) :: r)
    | _, _ => none
def R.dv (r : R) (σ : St) : Option (List (Key × PyData)) := match r.get σ with
  | some (.d (.dict kvs)) => unD kvs
  | some (.nd (.dict ks) ts) => match T.leaves ts with
    | some xs => some (ks.zip xs)
    | none => none
  | _ => none
def dfind (kds : List (Key × PyData)) (k : Key) : Option PyData := (kds.find? fun p => decide (p.1 = k)).map (·.2)
def dput (ks : List Key) (ts : List T) (k : Key) (t : T) : List Key × List T := if (ks.any fun k' => decide (k' = k)) = true then (ks, List.zipWith (fun k' t' => if k' = k then t else t') ks ts) else (ks ++ [k], ts ++ [t])
def dviewW (ro ri : R) (σ : St) (K : Option PyData → Prop) : Prop := match ro.dv σ, ri.get σ with
  | some kds, some (.d y) => match dkey y with
    | some k => K (dfind kds k)
    | none => False
  | _, _ => False
/-- a dict at a place -/
def atDict (r : R) (σ : St) (K : List Key → List T → (List Key → List T → St) → Prop) : Prop := match r with
  | .p i q => match r.get σ with
    | some (.nd (.dict ks) ts) => K ks ts fun ks' us => putS σ i q (.nd (.dict ks') us)
    | _ => False
  | .v _ => False
def T.truth : T → Option Bool
  | .d .none => some false
  | .d (.bool b) => some b
  | .d (.int i) => some (i != 0)
  | .d (.str s) => if s.length ≤ sizeLine then some ((s.length : Int) != 0) else none
  | .d (.list xs) => some (!xs.isEmpty)
  | .d (.tuple xs) => some (!xs.isEmpty)
  | .nd .list ts => some (!ts.isEmpty)
  | _ => none
def truW (r : R) (σ : St) (K : Bool → Prop) : Prop := match r.get σ with
  | some t => match t.truth with
    | some b => K b
    | none => False
  | none => False
def binI (op : BOp) (i j : Int) (K : Int → Prop) : Prop := match op with
  | .add => K (i + j)
  | .sub => K (i - j)
  | .mul => CMul i j ∧ K (i * j)
  | .fdiv => CDivW i j ∧ K (i / j)
  | .mod => 0 < j ∧ K (i % j)
  | .pow => CPow i j ∧ K (i ^ j.toNat)
  | .shl => CPow i j ∧ K (i * 2 ^ j.toNat)
  | .shr => 0 ≤ j ∧ K (i / 2 ^ j.toNat)
  | .band => K (Builtin.bitAnd i j)
def binW (op : BOp) (ra rb : R) (σ : St) (K : R → St → Prop) : Prop := match ra.get σ, rb.get σ with
  | some (.d (.int i)), some (.d (.int j)) => binI op i j fun z => K (.v (.d (.int z))) σ
  | some (.d (.str s)), some (.d (.str t)) => op = .add ∧ s.length + t.length ≤ sizeLine ∧ K (.v (.d (.str (s ++ t)))) σ
  | some (.d (.tuple xs)), some (.d (.tuple ys)) => op = .add ∧ xs.length + ys.length ≤ sizeLine ∧ K (.v (.d (.tuple (xs ++ ys)))) σ
  | some (.nd .list ts), some (.d (.int j)) => op = .mul ∧ match T.leaves ts with
    | some xs => -(2 ^ 63) ≤ j ∧ j < 2 ^ 63 ∧ xs.length * j.toNat ≤ sizeLine ∧ K (.v (.nd .list ((List.replicate j.toNat xs).flatten.map .d))) σ
    | none => False
  | _, _ => op = .add ∧ match ra.kids σ, rb.kids σ with
    | some ts, some us => ts.length + us.length ≤ sizeLine ∧ K (.v (.nd .list (ts ++ us))) σ
    | _, _ => False
def flatD : PyData → Bool
  | .none => true
  | .bool _ => true
  | .int _ => true
  | .str _ => true
  | _ => false
/-- two dicts of one's own, alike -/
def deqW (ra rb : R) (σ : St) (K : Prop) : Prop := match ra.get σ, rb.get σ with
  | some (.nd (.dict ks) ts), some (.nd (.dict ls) us) => match T.leaves ts, T.leaves us with
    | some xs, some ys => ks = ls ∧ xs = ys ∧ ks.Nodup ∧ xs.all flatD = true ∧ K
    | _, _ => False
  | _, _ => False
def eqW (x y : PyData) (K : Bool → Prop) : Prop := match x, y with
  | .int i, .int j => K (decide (i = j))
  | .str s, .str t => K (decide (s = t))
  | _, _ => SeqAt.shaped x = true ∧ SeqAt.shaped y = true ∧ K (PyData.eqv x y)
def inW (x y : PyData) (K : Bool → Prop) : Prop := match y with
  | .list xs => flatD x = true ∧ xs.all flatD = true ∧ K (xs.any fun z => PyData.eqv z x)
  | .tuple xs => flatD x = true ∧ xs.all flatD = true ∧ K (xs.any fun z => PyData.eqv z x)
  | .str s => match x with
    | .str t => K (!(Builtin.Str.occurrences s t 0 s.length 1).isEmpty)
    | _ => False
  | _ => False
def T.isNone : T → Bool
  | .d .none => true
  | _ => false
def isW (x y : T) (K : Bool → Prop) : Prop := match x, y with
  | .d (.bool a), .d (.bool b) => K (decide (a = b))
  | x, .d .none => K x.isNone
  | _, _ => False
def cmpI (op : COp) (i j : Int) (K : Bool → Prop) : Prop := match op with
  | .lt => K (decide (i < j))
  | .le => K (decide (i ≤ j))
  | .gt => K (decide (j < i))
  | .ge => K (decide (j ≤ i))
  | _ => False
def cmpW (op : COp) (ra rb : R) (σ : St) (K : Bool → Prop) : Prop := match op with
  | .eq => match ra.data σ, rb.data σ with
    | some x, some y => eqW x y K
    | _, _ => False
  | .ne => match ra.data σ, rb.data σ with
    | some x, some y => eqW x y fun b => K (!b)
    | _, _ => False
  | .isin => match ra.data σ, rb.data σ with
    | some x, some y => inW x y K
    | _, _ => False
  | .notin => match ra.data σ, rb.data σ with
    | some x, some y => inW x y fun b => K (!b)
    | _, _ => False
  | .is => match ra.get σ, rb.get σ with
    | some x, some y => isW x y K
    | _, _ => False
  | .isnot => match ra.get σ, rb.get σ with
    | some x, some y => isW x y fun b => K (!b)
    | _, _ => False
  | op => match ra.get σ, rb.get σ with
    | some (.d (.int i)), some (.d (.int j)) => cmpI op i j K
    | _, _ => False
def ixW (ro ri : R) (σ : St) (K : R → St → Prop) : Prop := match ro.get σ, ri.get σ with
  | some (.d (.list xs)), some (.d (.int i)) => match atI xs i with
    | some x => K (.v (.d x)) σ
    | none => False
  | some (.d (.tuple xs)), some (.d (.int i)) => match atI xs i with
    | some x => K (.v (.d x)) σ
    | none => False
  | some (.d (.str s)), some (.d (.int i)) => s.length ≤ sizeLine ∧ match atI s.cps.toList i with
    | some c => K (.v (.d (.str ⟨#[c]⟩))) σ
    | none => False
  | some (.nd .list ts), some (.d (.int i)) => match ixN ts.length i with
    | some j => match ts[j]? with
      | some (.d x) => K (.v (.d x)) σ
      | some (.nd k us) => match ro with
        | .v _ => K (.v (.nd k us)) σ
        | .p a q => K (.p a (q ++ [j])) σ
      | _ => False
    | none => False
  | _, _ => False
def cutL {α : Type} (xs : List α) (lo hi : Option Int) : List α := (xs.drop (HT.sIx xs.length 0 lo)).take (HT.sIx xs.length xs.length hi - HT.sIx xs.length 0 lo)
/-- the items of a slice, to stand in a new list -/
def R.cut (r : R) (lo hi : Option Int) (σ : St) : Option (List T) := match r.get σ with
  | some (.d (.list xs)) => some (cutL (xs.map .d) lo hi)
  | some (.nd .list ts) => match r with
    | .v _ => some (cutL ts lo hi)
    | .p _ _ => if (T.leaves (cutL ts lo hi)).isSome then some (cutL ts lo hi) else none
  | _ => none
def slW (ro : R) (lo hi : Option Int) (σ : St) (K : R → St → Prop) : Prop := match ro.get σ with
  | some (.d (.tuple xs)) => K (.v (.d (.tuple (cutL xs lo hi)))) σ
  | _ => match ro.cut lo hi σ with
    | some ts => K (.v (.nd .list ts)) σ
    | none => False
/-- the bounds of a slice -/
def slArg (lo hi : Bool) (ns : List Int) (K : Option Int → Option Int → Prop) : Prop := match lo, hi, ns with
  | false, false, [] => K none none
  | true, false, [i] => K (some i) none
  | false, true, [i] => K none (some i)
  | true, true, [i, j] => K (some i) (some j)
  | _, _, _ => False
def mkTup (ts : List T) : T := match T.leaves ts with
  | some xs => .d (.tuple xs)
  | none => .nd .tup ts
mutual
/-- no list, no dict within: may be shared whatever is done -/
def immD : PyData → Bool
  | .none => true
  | .bool _ => true
  | .int _ => true
  | .str _ => true
  | .tuple xs => immDl xs
  | .list _ => false
  | .dict _ => false
def immDl : List PyData → Bool
  | [] => true
  | x :: xs => immD x && immDl xs
end
mutual
def T.flat : T → Bool
  | .dead => true
  | .d x => immD x
  | .nd _ ts => T.flatl ts
def T.flatl : List T → Bool
  | [] => true
  | t :: r => t.flat && T.flatl r
end
def passes : List Md → List R → St → Option (List T × Bool)
  | [], [], _ => some ([], false)
  | m :: ms, r :: rs, σ => match r.get σ, passes ms rs σ with
    | some (.d x), some (ts, b) => some (.d x :: ts, b)
    | some (.nd k us), some (ts, b) => match m with
      | .own => if r.isP || (T.nd k us).noTup then some (.nd k us :: ts, b) else none
      | .bor => match (T.nd k us).data with
        | some x => some (.d x :: ts, b || r.isP)
        | none => none
    | _, _ => none
  | _, _, _ => none
def backs : List Md → List R → List T → St → St
  | m :: ms, r :: rs, t :: ts, σ => match m, r with
    | .own, .p i q => putS (backs ms rs ts σ) i q t
    | _, _ => backs ms rs ts σ
  | _, _, _, σ => σ
/-- the slots that are handed in by place: those that may be changed, those that are lent -/
def ownPl : List Md → List R → List Nat
  | .own :: ms, .p i _ :: rs => i :: ownPl ms rs
  | _ :: ms, _ :: rs => ownPl ms rs
  | _, _ => []
def borPl : List Md → List R → List Nat
  | .bor :: ms, .p i _ :: rs => i :: borPl ms rs
  | _ :: ms, _ :: rs => borPl ms rs
  | _, _ => []
def apart (md : List Md) (rs : List R) : Bool := decide (ownPl md rs).Nodup && (borPl md rs).all fun i => !(ownPl md rs).contains i
def callW (fs : FS) (pu : Bool) (rs : List R) (σ : St) (K : R → St → Prop) : Prop := match passes fs.md rs σ with
  | some (ts, b) => apart fs.md rs = true ∧ (pu = true → fs.md.all (fun m => decide (m = .bor)) = true) ∧ fs.F ts fun r ts' => (b = true → r.flat = true ∧ T.flatl ts' = true) ∧ K (.v r) (backs fs.md rs ts' σ)
  | none => False
def intsOf : List PyData → Option (List Int)
  | [] => some []
  | .int i :: r => match intsOf r with
    | some ns => some (i :: ns)
    | none => none
  | _ :: _ => none
def boolsOf : List PyData → Option (List Bool)
  | [] => some []
  | .bool i :: r => match boolsOf r with
    | some ns => some (i :: ns)
    | none => none
  | _ :: _ => none
def maxL : List Int → Int
  | [] => 0
  | [x] => x
  | x :: y :: r => max x (maxL (y :: r))
def minL : List Int → Int
  | [] => 0
  | [x] => x
  | x :: y :: r => min x (minL (y :: r))
def sortI (ns : List Int) : List Int := ns.mergeSort fun a b => decide (a ≤ b)
def bltD (b : Blt) (xs : List PyData) (K : T → Prop) : Prop := match b, xs with
  | .max, [.list ys] => match intsOf ys with
    | some ns => ns ≠ [] ∧ K (.d (.int (maxL ns)))
    | none => False
  | .max, [.int i, .int j] => K (.d (.int (max i j)))
  | .min, [.list ys] => match intsOf ys with
    | some ns => ns ≠ [] ∧ K (.d (.int (minL ns)))
    | none => False
  | .min, [.int i, .int j] => K (.d (.int (min i j)))
  | .sum, [.list ys] => match intsOf ys with
    | some ns => K (.d (.int ns.sum))
    | none => False
  | .all, [.list ys] => match boolsOf ys with
    | some bs => K (.d (.bool (bs.all id)))
    | none => False
  | .any, [.list ys] => match boolsOf ys with
    | some bs => K (.d (.bool (bs.any id)))
    | none => False
  | .sorted, [.list ys] => match intsOf ys with
    | some ns => K (.nd .list ((sortI ns).map fun i => .d (.int i)))
    | none => False
  | .abs, [.int i] => K (.d (.int (if i < 0 then -i else i)))
  | .int, [.int i] => K (.d (.int i))
  | .int, [.bool k] => K (.d (.int (if k then 1 else 0)))
  | .str, [.int i] => i.natAbs.log2 < 1920 ∧ K (.d (.str (toString i)))
  | .listRange, [.int j] => -(2 ^ 62) ≤ j ∧ j ≤ 1000000 ∧ K (.nd .list ((List.range j.toNat).map fun (n : Nat) => T.d (.int (n : Int))))
  | .len, [.str s] => s.length ≤ sizeLine ∧ K (.d (.int s.length))
  | .len, [.list ys] => K (.d (.int ys.length))
  | .len, [.tuple ys] => K (.d (.int ys.length))
  | _, _ => False
def R.datas (σ : St) : List R → Option (List PyData)
  | [] => some []
  | r :: rs => match r.data σ, R.datas σ rs with
    | some x, some xs => some (x :: xs)
    | _, _ => none
def bltW (b : Blt) (rs : List R) (σ : St) (K : R → St → Prop) : Prop := match b with
  | .list => match rs with
    | [r] => match r.get σ with
      | some (.d (.tuple xs)) => K (.v (.nd .list (xs.map .d))) σ
      | _ => match r.kids σ with
        | some ts => K (.v (.nd .list ts)) σ
        | none => False
    | _ => False
  | .tuple => match rs with
    | [r] => match r.get σ with
      | some (.d (.tuple xs)) => K (.v (.d (.tuple xs))) σ
      | some (.d (.list xs)) => K (.v (.d (.tuple xs))) σ
      | some (.nd .list ts) => match T.leaves ts with
        | some xs => K (.v (.d (.tuple xs))) σ
        | none => False
      | _ => False
    | _ => False
  | .len => match rs with
    | [r] => match r.get σ with
      | some (.nd .list ts) => K (.v (.d (.int ts.length))) σ
      | some (.d x) => bltD .len [x] fun t => K (.v t) σ
      | _ => False
    | _ => False
  | b => match R.datas σ rs with
    | some xs => bltD b xs fun t => K (.v t) σ
    | none => False
def tyName : T → Option String
  | .d .none => some "NoneType"
  | .d (.bool _) => some "bool"
  | .d (.int _) => some "int"
  | .d (.str _) => some "str"
  | .d (.list _) => some "list"
  | .d (.tuple _) => some "tuple"
  | .d (.dict _) => some "dict"
  | .nd .list _ => some "list"
  | .nd .tup _ => some "tuple"
  | .nd (.dict _) _ => some "dict"
  | _ => none
def isiB (a b : String) : Bool := a == b || (a == "bool" && b == "int")
def isiW (r : R) (ty : String) (σ : St) (K : Bool → Prop) : Prop := match r.get σ with
  | some t => match tyName t with
    | some n => K (isiB n ty)
    | none => False
  | none => False
/-- something is done to a list at a place -/
def atList (r : R) (σ : St) (K : List T → (List T → St) → Prop) : Prop := match r with
  | .p i q => match r.get σ with
    | some (.nd .list ts) => K ts fun us => putS σ i q (.nd .list us)
    | _ => False
  | .v _ => False
/-- the object of a method is of its kind -/
def mtyW (m : Mth) (r : R) (σ : St) : Prop := match r.get σ with
  | some (.nd .list _) => True
  | some (.d (.list _)) => True
  | _ => False
def mthW (m : Mth) (pu : Bool) (rs : List R) (σ : St) (K : R → St → Prop) : Prop := match m, rs with
  | .append, [r, x] => pu = false ∧ toV pu x σ fun t σ1 => t.noTup = true ∧ atList r σ1 fun ts bk => ts.length < sizeLine ∧ K (.v (.d .none)) (bk (ts ++ [t]))
  | .insert, [r, i, x] => pu = false ∧ toV pu x σ fun t σ1 => t.noTup = true ∧ atList r σ1 fun ts bk => ts.length < sizeLine ∧ match i.get σ1 with
    | some (.d (.int k)) => 0 ≤ k ∧ k < 2 ^ 63 ∧ K (.v (.d .none)) (bk (ts.take k.toNat ++ [t] ++ ts.drop k.toNat))
    | _ => False
  | .pop, [r] => pu = false ∧ atList r σ fun ts bk => match ts[ts.length - 1]? with
    | some t => t.isDead = false ∧ K (.v t) (bk ts.dropLast)
    | none => False
  | .clear, [r] => pu = false ∧ atList r σ fun _ bk => K (.v (.d .none)) (bk [])
  | .reverse, [r] => pu = false ∧ atList r σ fun ts bk => K (.v (.d .none)) (bk ts.reverse)
  | .index, [r, x] => match r.data σ, x.data σ with
    | some (.list ys), some y => flatD y = true ∧ ys.all flatD = true ∧ match ys.findIdx? fun z => PyData.eqv z y with
      | some j => K (.v (.d (.int j))) σ
      | none => False
    | _, _ => False
  | _, _ => False
/-- what a loop goes through -/
def rngL (i : Int) (n : Nat) : List PyData := (List.range n).map fun k => .int (i + (k : Nat))
def rngC (i c : Int) (n : Nat) : List PyData := (List.range n).map fun k => .int (i + (k : Nat) * c)
def inR (i : Int) : Prop := -(2 ^ 62) ≤ i ∧ i < 2 ^ 62
def enumL (xs : List PyData) : List PyData := (List.range xs.length).map fun k => .tuple [.int (k : Nat), xs.getD k .none]
def seqW (pu bor : Bool) (r : R) (σ : St) (K : List PyData → St → Prop) : Prop := match r.get σ with
  | some (.d (.list xs)) => K xs σ
  | some (.nd .list ts) => match bor with
    | true => match T.leaves ts with
      | some xs => K xs σ
      | none => False
    | false => match (T.nd .list ts).data with
      | some (.list xs) => match r with
        | .v _ => K xs σ
        | .p i q => pu = false ∧ K xs (putS σ i q (.d (.list xs)))
      | _ => False
  | _ => False
def itW (pu bor : Bool) (it : ItK) (rs : List R) (σ : St) (K : List PyData → St → Prop) : Prop := match it, rs with
  | .e, [r] => match r.get σ with
    | some (.d (.tuple xs)) => K xs σ
    | _ => seqW pu bor r σ K
  | .enum, [r] => seqW pu bor r σ fun xs σ1 => K (enumL xs) σ1
  | .rng1, [r] => match r.get σ with
    | some (.d (.int j)) => inR j ∧ K (rngL 0 j.toNat) σ
    | _ => False
  | .rng2, [r, r'] => match r.get σ, r'.get σ with
    | some (.d (.int i)), some (.d (.int j)) => inR i ∧ inR j ∧ K (rngL i (j - i).toNat) σ
    | _, _ => False
  | .rng3, [r, r', r''] => match r.get σ, r'.get σ, r''.get σ with
    | some (.d (.int i)), some (.d (.int j)), some (.d (.int (-1))) => inR i ∧ inR j ∧ K (rngC i (-1) (i - j).toNat) σ
    | _, _, _ => False
  | .rrng, [r] => match r.get σ with
    | some (.d (.int j)) => inR j ∧ K (rngC ((j.toNat : Int) - 1) (-1) j.toNat) σ
    | _ => False
  | _, _ => False
/-- an item is given to its names -/
def setsD : List Nat → List PyData → St → Option St
  | [], [], σ => some σ
  | i :: is, x :: xs, σ => if i < σ.length then setsD is xs (σ.set i (.d x)) else none
  | _, _, _ => none
def bindD (is : List Nat) (x : PyData) (σ : St) : Option St := match is with
  | [i] => setsD [i] [x] σ
  | is => match x with
    | .tuple xs => setsD is xs σ
    | _ => none
def wipeT (σ : St) : List Nat → St
  | [] => σ
  | v :: vs => (wipeT σ vs).set v .dead
/-- the names as they were ahead of it -/
def restT (σ0 : St) : List Nat → St → St
  | [], σ => σ
  | i :: is, σ => restT σ0 is (σ.set i (σ0.getD i .dead))
def lcW (is : List Nat) (σ0 : St) (tst : St → (Bool → St → Prop) → Prop) (el : St → (T → St → Prop) → Prop) : List PyData → List T → St → (List T → St → Prop) → Prop
  | [], acc, σ, K => K acc σ
  | x :: xs, acc, σ, K => match bindD is x (wipeT σ is) with
    | some σ1 => tst σ1 fun b σ2 => br b (el σ2 fun t σ3 => acc.length < sizeLine ∧ lcW is σ0 tst el xs (acc ++ [t]) (restT σ0 is σ3) K) (lcW is σ0 tst el xs acc (restT σ0 is σ2) K)
    | none => False

def free (Γ : Ctx) (is : List Nat) : Bool := is.all fun i => !Γ.pin.contains i
/-- a comprehension over a dict's keys: each turn for itself, all other names are away -/
def lcdW (n i : Nat) (tst : St → (Bool → St → Prop) → Prop) (el : St → (R → St → Prop) → Prop) : List PyData → List PyData → (List PyData → Prop) → Prop
  | [], acc, K => K acc
  | x :: xs, acc, K => i < n ∧ tst ((List.replicate n T.dead).set i (.d x)) fun b σ1 => br b (el σ1 fun r _ => match r with
    | .v (.d y) => flatD y = true ∧ acc.length < sizeLine ∧ lcdW n i tst el xs (acc ++ [y]) K
    | _ => False) (lcdW n i tst el xs acc K)
/-- a pair is taken out of a dict at a place -/
def dpopW (ro ri rd : R) (σ : St) (K : R → St → Prop) : Prop := atDict ro σ fun ks ts bk => match ri.get σ, rd.get σ with
  | some (.d y), some (.d z) => match dkey y with
    | some k => match ks.findIdx? fun k' => decide (k' = k) with
      | some j => ks.Nodup ∧ match ts[j]? with
        | some (.d x) => K (.v (.d x)) (bk (ks.eraseIdx j) (ts.eraseIdx j))
        | _ => False
      | none => K (.v (.d z)) σ
    | none => False
  | _, _ => False
def intKeys : List (Key × PyData) → Option (List Int)
  | [] => some []
  | (.inl i, _) :: r => match intKeys r with
    | some ns => some (i :: ns)
    | none => none
  | _ :: _ => none
/-- the pairs of a list of pairs -/
def pairsOf : List PyData → Option (List (Key × PyData))
  | [] => some []
  | .tuple [k, x] :: r => match dkey k, pairsOf r with
    | some k, some r => some ((k, x) :: r)
    | _, _ => none
  | _ :: _ => none
def oI : Option Int → PyData
  | some i => .int i
  | none => .none
def mxdL (mx : Bool) (ns : List Int) : PyData := if ns.isEmpty then .none else .int (if mx then maxL ns else minL ns)
def dedupI : List Int → List Int
  | [] => []
  | x :: r => if r.contains x then dedupI r else x :: dedupI r
/-- a field of an object -/
def attW (Γ : Ctx) (c a : Str) (ro : R) (σ : St) (K : R → St → Prop) : Prop := match ro.get σ with
  | some (.nd (.inst C ns) ts) => match Γ.cls.lookup c with
    | some ci => ci.C = C ∧ match ns.findIdx? fun n => n == a with
      | some j => match ts[j]? with
        | some (.d x) => K (.v (.d x)) σ
        | some (.nd k us) => match ro with
          | .v _ => K (.v (.nd k us)) σ
          | .p i q => K (.p i (q ++ [j])) σ
        | _ => False
      | none => False
    | none => False
  | _ => False
def setattW (Γ : Ctx) (c a : Str) (ro : R) (t : T) (σ : St) (K : St → Prop) : Prop := t.noTup = true ∧ t.isDead = false ∧ match ro with
  | .p i q => match ro.get σ with
    | some (.nd (.inst C ns) ts) => match Γ.cls.lookup c with
      | some ci => ci.C = C ∧ ns.length < 1000 ∧ match ns.findIdx? fun n => n == a with
        | some j => K (putS σ i q (.nd (.inst C ns) (ts.set j t)))
        | none => K (putS σ i q (.nd (.inst C (ns ++ [a])) (ts ++ [t])))
      | none => False
    | _ => False
  | .v _ => False
/-- a method of an object -/
def mcallW (Γ : Ctx) (c m : Str) (pu : Bool) (ro : R) (rs : List R) (σ : St) (K : R → St → Prop) : Prop := match Γ.cls.lookup c with
  | some ci => match ci.mt.lookup m with
    | some fs => callW fs pu (ro :: rs) σ K
    | none => False
  | none => False
/-- the object of a method is one of its class, and has no such field -/
def isinW (Γ : Ctx) (c m : Str) (r : R) (σ : St) : Prop := match r.get σ with
  | some (.nd (.inst C ns) _) => match Γ.cls.lookup c with
    | some ci => ci.C = C ∧ ns.contains m = false
    | none => False
  | _ => False
def newW (Γ : Ctx) (c : Str) (pu : Bool) (rs : List R) (σ : St) (K : R → St → Prop) : Prop := match Γ.cls.lookup c with
  | some ci => match ci.mt.lookup ("__init__" : Str) with
    | some fs => match fs.md with
      | .own :: md => match passes md rs σ with
        | some (ts, b) => apart md rs = true ∧ (pu = true → md.all (fun m => decide (m = .bor)) = true) ∧ fs.F (.nd (.inst ci.C []) [] :: ts) fun r us => r = .d .none ∧ match us with
          | s :: ts' => (b = true → s.flat = true ∧ T.flatl ts' = true) ∧ K (.v s) (backs md rs ts' σ)
          | [] => False
        | none => False
      | _ => False
    | none => False
  | none => False
mutual
def wE (Γ : Ctx) : Bool → E → St → (R → St → Prop) → Prop
  | pu, .var i, σ, K => match σ[i]? with
    | some (.d x) => K (.v (.d x)) σ
    | some (.nd _ _) => K (.p i []) σ
    | _ => False
  | pu, .k x, σ, K => K (.v (.d x)) σ
  | pu, .glob g, σ, K => match Γ.glob.lookup g with
    | some x => K (.v (.d x)) σ
    | none => False
  | pu, .bin op a b, σ, K => wE Γ pu a σ fun ra σ1 => wE Γ (pu || !ra.top) b σ1 fun rb σ2 => binW op ra rb σ2 K
  | pu, .neg a, σ, K => wE Γ pu a σ fun ra σ1 => match ra.get σ1 with
    | some (.d (.int i)) => K (.v (.d (.int (-i)))) σ1
    | _ => False
  | pu, .cmp op a b, σ, K => wE Γ pu a σ fun ra σ1 => wE Γ (pu || !ra.top) b σ1 fun rb σ2 => cmpW op ra rb σ2 fun z => K (.v (.d (.bool z))) σ2
  | pu, .chain op op' a b c, σ, K => wE Γ pu a σ fun ra σ1 => wE Γ (pu || !ra.top) b σ1 fun rb σ2 => cmpW op ra rb σ2 fun z => br z (wE Γ (pu || !rb.top) c σ2 fun rc σ3 => cmpW op' rb rc σ3 fun z' => K (.v (.d (.bool z'))) σ3) (K (.v (.d (.bool false))) σ2)
  | pu, .and a b, σ, K => wE Γ pu a σ fun ra σ1 => truW ra σ1 fun c => br c (wE Γ pu b σ1 K) (K ra σ1)
  | pu, .or a b, σ, K => wE Γ pu a σ fun ra σ1 => truW ra σ1 fun c => br c (K ra σ1) (wE Γ pu b σ1 K)
  | pu, .not a, σ, K => wE Γ pu a σ fun ra σ1 => truW ra σ1 fun c => K (.v (.d (.bool (!c)))) σ1
  | pu, .ite c a b, σ, K => wE Γ pu c σ fun rc σ1 => truW rc σ1 fun z => br z (wE Γ pu a σ1 K) (wE Γ pu b σ1 K)
  | pu, .ix o i, σ, K => wE Γ pu o σ fun ro σ1 => wE Γ (pu || !ro.top) i σ1 fun ri σ2 => ixW ro ri σ2 K
  | pu, .sl lo hi o es, σ, K => wE Γ pu o σ fun ro σ1 => wN Γ (pu || !ro.top) es σ1 fun ns σ2 => slArg lo hi ns fun l h => slW ro l h σ2 K
  | pu, .rev o, σ, K => wE Γ pu o σ fun ro σ1 => match ro.kids σ1 with
    | some ts => K (.v (.nd .list ts.reverse)) σ1
    | none => False
  | pu, .lst es, σ, K => wA Γ pu es σ fun rs σ1 => toVs pu rs σ1 fun ts σ2 => ts.length ≤ sizeLine ∧ K (.v (.nd .list ts)) σ2
  | pu, .tup es, σ, K => wA Γ pu es σ fun rs σ1 => toVs pu rs σ1 fun ts σ2 => ts.length ≤ sizeLine ∧ K (.v (mkTup ts)) σ2
  | pu, .call f es, σ, K => wA Γ pu es σ fun rs σ1 => match Γ.fn.lookup f with
    | some fs => callW fs pu rs σ1 K
    | none => False
  | pu, .blt b es, σ, K => wA Γ pu es σ fun rs σ1 => bltW b rs σ1 K
  | pu, .isi a ty, σ, K => wE Γ pu a σ fun ra σ1 => isiW ra ty σ1 fun z => K (.v (.d (.bool z))) σ1
  | pu, .mth m o es, σ, K => wE Γ pu o σ fun ro σ1 => mtyW m ro σ1 ∧ wA Γ (pu || !ro.top) es σ1 fun rs σ2 => mthW m pu (ro :: rs) σ2 K
  | pu, .lc is bor elt it ies cond, σ, K => wA Γ pu ies σ fun rs σ1 => itW pu bor it rs σ1 fun xs σ2 =>
      lcW is σ2 (fun σ3 Q => wC Γ (pu || bor) cond σ3 Q) (fun σ3 Q => wE Γ (pu || bor) elt σ3 fun r σ4 => toV (pu || bor) r σ4 Q) xs [] σ2 fun acc σ3 => K (.v (.nd .list acc)) σ3
  | pu, .rpr a, σ, K => wE Γ pu a σ fun ra σ1 => match ra.data σ1 with
    | some x => x.canLay0 = true ∧ x.depth ≤ 64 ∧ x.showable = true ∧ x.shown.length ≤ sizeLine ∧ K (.v (.d (.str x.shown))) σ1
    | none => False
  | pu, .dct0, σ, K => K (.v (.nd (.dict []) [])) σ
  | pu, .dix o i, σ, K => wE Γ pu o σ fun ro σ1 => wE Γ (pu || !ro.top) i σ1 fun ri σ2 => dviewW ro ri σ2 fun z => match z with
    | some x => K (.v (.d x)) σ2
    | none => False
  | pu, .dgt o i, σ, K => wE Γ pu o σ fun ro σ1 => (ro.dv σ1).isSome = true ∧ wE Γ (pu || !ro.top) i σ1 fun ri σ2 => dviewW ro ri σ2 fun z => K (.v (.d (z.getD .none))) σ2
  | pu, .din neg i o, σ, K => wE Γ pu i σ fun ri σ1 => wE Γ (pu || !ri.top) o σ1 fun ro σ2 => dviewW ro ri σ2 fun z => K (.v (.d (.bool (z.isSome != neg)))) σ2
  | pu, .dcp o, σ, K => wE Γ pu o σ fun ro σ1 => match ro.dv σ1 with
    | some kds => K (.v (.nd (.dict (kds.map (·.1))) (kds.map fun p => .d p.2))) σ1
    | none => False
  | pu, .deq neg a b, σ, K => wE Γ pu a σ fun ra σ1 => wE Γ (pu || !ra.top) b σ1 fun rb σ2 => deqW ra rb σ2 (K (.v (.d (.bool (!neg)))) σ2)
  | pu, .frz e, σ, K => wE Γ pu e σ fun r σ1 => toV pu r σ1 fun t σ2 => match t.data with
    | some x => K (.v (.d x)) σ2
    | none => False
  | pu, .mov i, σ, K => match σ[i]? with
    | some (.d x) => K (.v (.d x)) σ
    | some (.nd k us) => pu = false ∧ free Γ [i] = true ∧ K (.v (.nd k us)) (σ.set i .dead)
    | _ => False
  | pu, .dpop o i d, σ, K => pu = false ∧ wE Γ pu o σ fun ro σ1 => (ro.dv σ1).isSome = true ∧ wE Γ (pu || !ro.top) i σ1 fun ri σ2 => wE Γ (pu || !ro.top || !ri.top) d σ2 fun rd σ3 => dpopW ro ri rd σ3 K
  | pu, .dsrt o, σ, K => wE Γ pu o σ fun ro σ1 => match ro.dv σ1 with
    | some kds => match intKeys kds with
      | some ns => ns.length ≤ sizeLine ∧ K (.v (.nd .list ((sortI ns).map fun i => .d (.int i)))) σ1
      | none => False
    | none => False
  | pu, .dlst o, σ, K => wE Γ pu o σ fun ro σ1 => match ro.dv σ1 with
    | some kds => K (.v (.nd .list (kds.map fun p => .d (keyD p.1)))) σ1
    | none => False
  | pu, .dlen o, σ, K => wE Γ pu o σ fun ro σ1 => match ro.dv σ1 with
    | some kds => K (.v (.d (.int kds.length))) σ1
    | none => False
  | pu, .lcd i elt o cond, σ, K => wE Γ pu o σ fun ro σ1 => match ro.dv σ1 with
    | some kds => lcdW σ1.length i (fun σ3 Q => wC Γ true cond σ3 Q) (fun σ3 Q => wE Γ true elt σ3 Q) (kds.map fun p => keyD p.1) [] fun acc => K (.v (.nd .list (acc.map .d))) σ1
    | none => False
  | pu, .ddsp ks es, σ, K => wA Γ pu es σ fun rs σ1 => toVs pu rs σ1 fun ts σ2 => match T.leaves ts with
    | some xs => ks.length = xs.length ∧ ks.Nodup ∧ ks.length ≤ 15 ∧ ks ≠ [] ∧ K (.v (.nd (.dict ks) ts)) σ2
    | none => False
  | pu, .dprs e, σ, K => wE Γ pu e σ fun r σ1 => match r.data σ1 with
    | some (.list xs) => match pairsOf xs with
      | some kds => (kds.map (·.1)).Nodup ∧ kds.length ≤ sizeLine ∧ K (.v (.nd (.dict (kds.map (·.1))) (kds.map fun p => .d p.2))) σ1
      | none => False
    | _ => False
  | pu, .mxd mx e, σ, K => wE Γ pu e σ fun r σ1 => match r.data σ1 with
    | some (.list xs) => match intsOf xs with
      | some ns => K (.v (.d (mxdL mx ns))) σ1
      | none => False
    | _ => False
  | pu, .lset e, σ, K => wE Γ pu e σ fun r σ1 => match r.data σ1 with
    | some (.list xs) => match intsOf xs with
      | some ns => K (.v (.d (.int (dedupI ns).length))) σ1
      | none => False
    | _ => False
  | pu, .sset e, σ, K => wE Γ pu e σ fun r σ1 => match r.data σ1 with
    | some (.list xs) => match intsOf xs with
      | some ns => K (.v (.nd .list ((sortI (dedupI ns)).map fun i => .d (.int i)))) σ1
      | none => False
    | _ => False
  | pu, .att c a o, σ, K => wE Γ pu o σ fun ro σ1 => attW Γ c a ro σ1 K
  | pu, .mcall c m o es, σ, K => wE Γ pu o σ fun ro σ1 => isinW Γ c m ro σ1 ∧ wA Γ (pu || !ro.top) es σ1 fun rs σ2 => mcallW Γ c m pu ro rs σ2 K
  | pu, .new c es, σ, K => wA Γ pu es σ fun rs σ1 => newW Γ c pu rs σ1 K
def wA (Γ : Ctx) : Bool → List E → St → (List R → St → Prop) → Prop
  | pu, [], σ, K => K [] σ
  | pu, e :: es, σ, K => wE Γ pu e σ fun r σ1 => wA Γ (pu || !r.top) es σ1 fun rs σ2 => K (r :: rs) σ2
def wN (Γ : Ctx) : Bool → List E → St → (List Int → St → Prop) → Prop
  | pu, [], σ, K => K [] σ
  | pu, e :: es, σ, K => wE Γ pu e σ fun r σ1 => match r.get σ1 with
    | some (.d (.int i)) => wN Γ pu es σ1 fun ns σ2 => K (i :: ns) σ2
    | _ => False
def wC (Γ : Ctx) : Bool → List E → St → (Bool → St → Prop) → Prop
  | pu, [], σ, K => K true σ
  | pu, e :: es, σ, K => es = [] ∧ wE Γ pu e σ fun r σ1 => truW r σ1 fun b => K b σ1
end
def wT (Γ : Ctx) (pu : Bool) (e : E) (σ : St) (K : Bool → St → Prop) : Prop := wE Γ pu e σ fun r σ1 => truW r σ1 fun b => K b σ1

/-- values that are moved out of their slots -/
def movs : List R → St → (List T → St → Prop) → Prop
  | [], σ, K => K [] σ
  | .v t :: rs, σ, K => movs rs σ fun ts σ1 => K (t :: ts) σ1
  | .p i [] :: rs, σ, K => match σ[i]? with
    | some (.nd k us) => movs rs (σ.set i .dead) fun ts σ1 => K (.nd k us :: ts) σ1
    | _ => False
  | .p _ (_ :: _) :: _, _, _ => False
structure AE where
  nx : St → Prop
  rt : T → St → Prop
  bk : St → Prop := fun _ => False
  ct : St → Prop := fun _ => False
def forW (is : List Nat) (bd : AE → St → Prop) (D : AE) : List PyData → St → Prop
  | [], σ => D.nx σ
  | x :: xs, σ => match bindD is x σ with
    | some σ1 => bd { nx := forW is bd D xs, rt := D.rt, bk := D.nx, ct := forW is bd D xs } σ1
    | none => False
def setsT : List Nat → List T → St → Option St
  | [], [], σ => some σ
  | i :: is, x :: xs, σ => if i < σ.length then setsT is xs (σ.set i x) else none
  | _, _, _ => none
/-- a, b, .. = a value -/
def unpW (is : List Nat) (r : R) (σ : St) (K : St → Prop) : Prop := match r.get σ with
  | some (.d (.tuple xs)) => match setsD is xs σ with
    | some σ1 => K σ1
    | none => False
  | some (.nd .tup ts) => match r with
    | .v _ => T.noTupl ts = true ∧ match setsT is ts σ with
      | some σ1 => K σ1
      | none => False
    | .p _ _ => False
  | _ => False
def setixW (ro ri : R) (t : T) (σ : St) (K : St → Prop) : Prop := t.noTup = true ∧ t.isDead = false ∧ atList ro σ fun ts bk => match ri.get σ with
  | some (.d (.int i)) => match ixN ts.length i with
    | some j => K (bk (ts.set j t))
    | none => False
  | _ => False
mutual
def wS (Γ : Ctx) : S → AE → St → Prop
  | .asg i e, D, σ => free Γ [i] = true ∧ wE Γ false e σ fun r σ1 => toV false r σ1 fun t σ2 => t.noTup = true ∧ i < σ2.length ∧ D.nx (σ2.set i t)
  | .unp is e, D, σ => free Γ is = true ∧ wE Γ false e σ fun r σ1 => unpW is r σ1 D.nx
  | .setix o i e, D, σ => wE Γ false e σ fun r σ1 => toV false r σ1 fun t σ2 => wE Γ false o σ2 fun ro σ3 => wE Γ (!ro.top) i σ3 fun ri σ4 => setixW ro ri t σ4 D.nx
  | .augix op o i y, D, σ => wE Γ false o σ fun ro σ1 => wE Γ (!ro.top) i σ1 fun ri σ2 => atList ro σ2 fun ts bk => match ri.get σ2 with
    | some (.d (.int k)) => 0 ≤ k ∧ match ts[k.toNat]? with
      | some (.d (.int x)) => D.nx (bk (ts.set k.toNat (.d (.int (if op = .add then x + y else x - y)))))
      | _ => False
    | _ => False
  | .rse, _, _ => False
  | .setatt c a o e, D, σ => wE Γ false e σ fun r σ1 => toV false r σ1 fun t σ2 => wE Γ false o σ2 fun ro σ3 => setattW Γ c a ro t σ3 D.nx
  | .setdix o i e, D, σ => wE Γ false e σ fun r σ1 => match r.get σ1 with
    | some (.d x) => wE Γ false o σ1 fun ro σ3 => wE Γ (!ro.top) i σ3 fun ri σ4 => atDict ro σ4 fun ks ts bk => ks.length < sizeLine ∧ match ri.get σ4 with
      | some (.d y) => match dkey y with
        | some k => D.nx (bk (dput ks ts k (.d x)).1 (dput ks ts k (.d x)).2)
        | none => False
      | _ => False
    | _ => False
  | .aug i op e, D, σ => free Γ [i] = true ∧ match σ[i]? with
    | some (.d (.int x)) => wE Γ false e σ fun re σ1 => match re.get σ1 with
      | some (.d (.int y)) => (op = .add ∨ op = .sub) ∧ i < σ1.length ∧ D.nx (σ1.set i (.d (.int (if op = .add then x + y else x - y))))
      | _ => False
    | _ => False
  | .ex e, D, σ => wE Γ false e σ fun _ σ1 => D.nx σ1
  | .ret e, D, σ => wE Γ false e σ fun r σ1 => match r with
    | .v t => D.rt t σ1
    | .p i q => if Γ.pin.contains i then toV false r σ1 D.rt else match r.get σ1 with
      | some t => D.rt t (σ1.set i .dead)
      | none => False
  | .retN, D, σ => D.rt (.d .none) σ
  | .retm es, D, σ => wA Γ false es σ fun rs σ1 => movs rs σ1 fun ts σ2 => ts.length ≤ sizeLine ∧ D.rt (mkTup ts) σ2
  | .ife c a b, D, σ => wT Γ false c σ fun z σ1 => br z (wSs Γ a D σ1) (wSs Γ b D σ1)
  | .for_ is it ies body, D, σ => free Γ is = true ∧ wA Γ false ies σ fun rs σ1 => itW false false it rs σ1 fun xs σ2 => forW is (fun D' σ' => wSs Γ body D' σ') D xs σ2
  | .while_ c body, D, σ => ∃ W : Nat → St → Prop, (∃ m, W m σ) ∧ ∀ m σ, W m σ → wT Γ false c σ fun b σ1 => br b (wSs Γ body { nx := fun σ' => ∃ m', m' < m ∧ W m' σ', rt := D.rt, bk := D.nx, ct := fun σ' => ∃ m', m' < m ∧ W m' σ' } σ1) (D.nx σ1)
  | .pass, D, σ => D.nx σ
  | .brk, D, σ => D.bk σ
  | .cnt, D, σ => D.ct σ
def wSs (Γ : Ctx) : List S → AE → St → Prop
  | [], D, σ => D.nx σ
  | s :: r, D, σ => wS Γ s { D with nx := fun σ' => wSs Γ r D σ' } σ
end
end VL
set_option Elab.async false
set_option linter.all false
set_option maxRecDepth 100000
set_option maxHeartbeats 4000000
/-! VL4: the meaning over trees as a reading of the hand layer: values. -/
namespace VL
open PySem PySem.Spec PyProof.Rows L2

/-- what a result is, in the trees with addresses -/
def RR (r : R) (v : V) (sl nw : List TA) : Prop := match r with
  | .v t => ∃ x, nw = [x] ∧ x.t = t ∧ x.v = v ∧ x.isDead = false
  | .p i q => nw = [] ∧ ∃ t c, sl[i]? = some t ∧ t.at q = some c ∧ c.v = v ∧ c.isDead = false
/-- from one state of the slots to a later one -/
structure Stp (pu : Bool) (H H' : Hp) (sl sl' : List TA) : Prop where
  pure : pu = true → sl' = sl ∧ Same H H'
  live : ∀ (i : Nat) t, sl[i]? = some t → t.isDead = false → ∃ t', sl'[i]? = some t' ∧ t'.isDead = false
section
variable {K : PySem.W.Frag} {B : Bs} {Hs H H' H1 H2 Hs' : Hp} {σ : L2.St} {sl sl' sl1 sl2 tp tp' nw nw' : List TA} {pu pu' : Bool} {r r' : R} {v v' : V}
theorem Stp.refl : Stp pu H H sl sl := ⟨fun _ => ⟨rfl, Same.refl _⟩, fun i t h d => ⟨t, h, d⟩⟩
theorem Stp.same (h : Same H H') : Stp pu H H' sl sl := ⟨fun _ => ⟨rfl, h⟩, fun i t h d => ⟨t, h, d⟩⟩
theorem Stp.trans (a : Stp pu H H1 sl sl1) (b : Stp pu' H1 H2 sl1 sl2) (h : pu = true → pu' = true) : Stp pu H H2 sl sl2 := by
  refine ⟨fun hp => ?_, fun i t ht hd => ?_⟩
  · obtain ⟨e1, s1⟩ := a.pure hp
    obtain ⟨e2, s2⟩ := b.pure (h hp)
    exact ⟨e2.trans e1, s1.trans s2⟩
  · obtain ⟨t1, h1, d1⟩ := a.live i t ht hd
    exact b.live i t1 h1 d1
theorem Stp.weak (a : Stp pu H H' sl sl') (h : pu' = true → pu = true) : Stp pu' H H' sl sl' := ⟨fun hp => a.pure (h hp), a.live⟩
/-- a result stays what it is -/
theorem RR.stay (h : RR r v sl nw) (R1 : Rel K B Hs H σ sl tp) (R2 : Rel K B Hs' H' σ sl' tp') (s : Stp pu H H' sl sl') (ht : r.top = false → pu = true) : RR r v sl' nw := by
  cases r with
  | v t => exact h
  | p i q =>
    obtain ⟨e, t, c, h1, h2, h3, h4⟩ := h
    refine ⟨e, ?_⟩
    cases q with
    | nil =>
      rw [TA.at] at h2
      cases h2
      obtain ⟨t', g1, g2⟩ := s.live i t h1 h4
      refine ⟨t', t', g1, rfl, ?_, g2⟩
      have e1 := R1.val i t h1 h4
      have e2 := R2.val i t' g1 g2
      rw [e1] at e2
      have e3 : t.v = t'.v := by simpa using e2
      rw [← e3]
      exact h3
    | cons j q =>
      have := (s.pure (ht rfl)).1
      rw [this]
      exact ⟨t, c, h1, h2, h3, h4⟩
/-- the tree behind a result -/
def RT (r : R) (sl nw : List TA) : Option TA := match r with
  | .v _ => nw.head?
  | .p i q => match sl[i]? with
    | some t => t.at q
    | none => none
theorem tl_get (sl : List TA) (i : Nat) : (TA.tl sl)[i]? = (sl[i]?).map TA.t := by rw [TA.tl_map, List.getElem?_map]
theorem RR.get (h : RR r v sl nw) (R1 : Rel K B Hs H σ sl (tp ++ nw)) : ∃ c : TA, r.get (TA.tl sl) = some c.t ∧ c.v = v ∧ c.isDead = false ∧ c.ok K Hs H ∧ (∀ a ∈ c.fp, a ∈ TA.fpl (sl ++ (tp ++ nw))) ∧ (r.isP = false → nw = [c]) ∧ (∀ i q, r = .p i q → ∃ t, sl[i]? = some t ∧ t.at q = some c) := by
  cases r with
  | v t =>
    obtain ⟨x, e1, e2, e3, e4⟩ := h
    subst e1
    refine ⟨x, ?_, e3, e4, ?_, fun a ha => fpl_mem (by simp) ha, fun _ => rfl, fun i q z => by cases z⟩
    · rw [R.get, e2]
    · have := TA.okl_append.mp R1.okT
      have h2 := this.2
      rw [TA.okl] at h2
      exact h2.1
  | p i q =>
    obtain ⟨e, t, c, h1, h2, h3, h4⟩ := h
    refine ⟨c, ?_, h3, h4, TA.at_ok q t c h2 (R1.slot_ok h1), fun a ha => ?_, fun z => (by cases z), fun i' q' z => by cases z; exact ⟨t, h1, h2⟩⟩
    · rw [R.get, tl_get, h1]
      simp only [Option.map_some]
      rw [TA.at_t, h2]
      rfl
    · obtain ⟨l1, l2, e1, _⟩ := TA.lens q t c h2
      exact fpl_mem (List.mem_append_left _ (List.mem_of_getElem? h1)) (by rw [e1]; exact List.mem_append_left _ (List.mem_append_right _ ha))
/-- its data in the heap -/
theorem RR.dp {x : PyData} (h : RR r v sl nw) (R1 : Rel K B Hs H σ sl (tp ++ nw)) (hx : r.data (TA.tl sl) = some x) : Rp K H v x := by
  obtain ⟨c, h1, h2, h3, h4, _⟩ := h.get R1
  rw [R.data, h1] at hx
  rw [← h2]
  exact TA.reads R1.sub c x h4 hx
theorem RR.dpT {x : PyData} (h : RR r v sl nw) (R1 : Rel K B Hs H σ sl (tp ++ nw)) (hx : r.get (TA.tl sl) = some (.d x)) : Rp K Hs v x ∧ Rp K H v x := by
  obtain ⟨c, h1, h2, h3, h4, _⟩ := h.get R1
  rw [h1] at hx
  have e : c.t = .d x := Option.some.inj hx
  cases c with
  | dead => cases h3
  | d w y =>
    rw [TA.t] at e
    cases e
    rw [TA.ok] at h4
    rw [← h2]
    exact ⟨h4, Rp.mono R1.sub h4⟩
  | nd k a ts => rw [TA.t] at e; cases e
end

/-- the reading of a value -/
def LE (X : Cx) (ix : List Nat) (pu : Bool) (w : St → (R → St → Prop) → Prop) : TE := fun σ H Q => ∃ B Hs sl tp P, Rel X.K ⟨B, ix⟩ Hs H σ sl tp ∧ w (TA.tl sl) P ∧
  ∀ r v Hs' H' sl' nw, Rel X.K ⟨B, ix⟩ Hs' H' σ sl' (tp ++ nw) → RR r v sl' nw → Stp pu H H' sl sl' → P r (TA.tl sl') → Q v H'
/-- several results -/
inductive RRs (sl : List TA) : List R → List V → List (List TA) → Prop
  | nil : RRs sl [] [] []
  | cons {r : R} {v : V} {nw : List TA} {rs : List R} {vs : List V} {nws : List (List TA)} : RR r v sl nw → RRs sl rs vs nws → RRs sl (r :: rs) (v :: vs) (nw :: nws)
def LA (X : Cx) (ix : List Nat) (pu : Bool) (w : St → (List R → St → Prop) → Prop) : L2.TA := fun σ H Q => ∃ B Hs sl tp P, Rel X.K ⟨B, ix⟩ Hs H σ sl tp ∧ w (TA.tl sl) P ∧
  ∀ rs vs Hs' H' sl' nws, Rel X.K ⟨B, ix⟩ Hs' H' σ sl' (tp ++ nws.flatten) → RRs sl' rs vs nws → Stp pu H H' sl sl' → P rs (TA.tl sl') → Q vs H'

section
variable {X : Cx} {a b e : Expr} {wa wb w : St → (R → St → Prop) → Prop} {pu : Bool} {pos : Pos} {ix : List Nat}
/-- two values, one behind the other -/
theorem two {σ : L2.St} {H : Hp} {B : B0} {Hs : Hp} {sl tp : List TA} {P : R → R → St → Prop} {pb : R → Bool} {wb : R → St → (R → St → Prop) → Prop} {wb' : Bool → St → (R → St → Prop) → Prop} (R0 : Rel X.K ⟨B, ix⟩ Hs H σ sl tp)
    (hw : wa (TA.tl sl) fun ra σ1 => wb' (pu || !ra.top) σ1 fun rb σ2 => P ra rb σ2) (hb : ∀ pu', PE X b (LE X ix pu' (wb' pu'))) {pins : List (Addr × Obj)} {s : Shared} (I : Inv X pins σ H s) (ha : PE X a (LE X ix pu wa))
    {α : Type} {Q : α → Shared → Prop} {f : Value → Value → Sem α}
    (hf : ∀ v u s2 x y H2 ra rb Hs2 sl2 nw1 nw2, Inv X pins σ H2 s2 → RelV x v → RelV y u → Rel X.K ⟨B, ix⟩ Hs2 H2 σ sl2 ((tp ++ nw1) ++ nw2) → RR ra x sl2 nw1 → RR rb y sl2 nw2 → Stp pu H H2 sl sl2 → P ra rb (TA.tl sl2) → wpAny (model X.prog X.w) X.A (f v u) Q X.xe s2) :
    wpAny (model X.prog X.w) X.A (eval a X.env) (fun v s₁ => wpAny (model X.prog X.w) X.A (eval b X.env) (fun u s₂ => wpAny (model X.prog X.w) X.A (f v u) Q X.xe s₂) X.xe s₁) X.xe s := by
  refine thn (ha.run pins s σ H (fun x H1 => ∃ ra Hs1 sl1 nw1, Rel X.K ⟨B, ix⟩ Hs1 H1 σ sl1 (tp ++ nw1) ∧ RR ra x sl1 nw1 ∧ Stp pu H H1 sl sl1 ∧ wb' (pu || !ra.top) (TA.tl sl1) fun rb σ2 => P ra rb σ2) I ⟨B, Hs, sl, tp, _, R0, hw, fun ra v Hs1 H1 sl1 nw1 R1 rr1 st1 p1 => ⟨ra, Hs1, sl1, nw1, R1, rr1, st1, p1⟩⟩) fun v s1 h1 => ?_
  obtain ⟨x, H1, I1, rx, ra, Hs1, sl1, nw1, R1, rr1, st1, p1⟩ := h1
  refine thn ((hb (pu || !ra.top)).run pins s1 σ H1 (fun y H2 => ∃ rb Hs2 sl2 nw2, Rel X.K ⟨B, ix⟩ Hs2 H2 σ sl2 ((tp ++ nw1) ++ nw2) ∧ RR rb y sl2 nw2 ∧ Stp (pu || !ra.top) H1 H2 sl1 sl2 ∧ P ra rb (TA.tl sl2)) I1 ⟨B, Hs1, sl1, tp ++ nw1, _, R1, p1, fun rb v Hs2 H2 sl2 nw2 R2 rr2 st2 p2 => ⟨rb, Hs2, sl2, nw2, R2, rr2, st2, p2⟩⟩) fun u s2 h2 => ?_
  obtain ⟨y, H2, I2, ry, rb, Hs2, sl2, nw2, R2, rr2, st2, p2⟩ := h2
  exact hf v u s2 x y H2 ra rb Hs2 sl2 nw1 nw2 I2 rx ry R2 (rr1.stay R1 R2 st2 (fun z => by rw [z]; simp)) rr2 (st1.trans st2 (fun z => by rw [z]; rfl)) p2
/-- one value -/
theorem one {σ : L2.St} {H : Hp} {B : B0} {Hs : Hp} {sl tp : List TA} {P : R → St → Prop} (R0 : Rel X.K ⟨B, ix⟩ Hs H σ sl tp) (hw : wa (TA.tl sl) P) {pins : List (Addr × Obj)} {s : Shared} (I : Inv X pins σ H s) (ha : PE X a (LE X ix pu wa))
    {Q : Value → Shared → Prop}
    (hf : ∀ v s1 x H1 ra Hs1 sl1 nw1, Inv X pins σ H1 s1 → RelV x v → Rel X.K ⟨B, ix⟩ Hs1 H1 σ sl1 (tp ++ nw1) → RR ra x sl1 nw1 → Stp pu H H1 sl sl1 → P ra (TA.tl sl1) → Q v s1) :
    wpAny (model X.prog X.w) X.A (eval a X.env) Q X.xe s := by
  refine thn (ha.run pins s σ H (fun x H1 => ∃ ra Hs1 sl1 nw1, Rel X.K ⟨B, ix⟩ Hs1 H1 σ sl1 (tp ++ nw1) ∧ RR ra x sl1 nw1 ∧ Stp pu H H1 sl sl1 ∧ P ra (TA.tl sl1)) I ⟨B, Hs, sl, tp, _, R0, hw, fun ra v Hs1 H1 sl1 nw1 R1 rr1 st1 p1 => ⟨ra, Hs1, sl1, nw1, R1, rr1, st1, p1⟩⟩) fun v s1 h1 => ?_
  obtain ⟨x, H1, I1, rx, ra, Hs1, sl1, nw1, R1, rr1, st1, p1⟩ := h1
  exact hf v s1 x H1 ra Hs1 sl1 nw1 I1 rx R1 rr1 st1 p1
/-- an argument list -/
theorem la_nil : PA X [] (LA X ix pu fun σ K => K [] σ) := ⟨fun pos pins s σ H Q I h => by
  obtain ⟨B, Hs, sl, tp, P, R0, hw, hk⟩ := h
  exact pa_nil.run pos pins s σ H Q I (hk [] [] Hs H sl [] (by simpa using R0) .nil .refl hw)⟩
theorem RRs.stay {K : PySem.W.Frag} {B : Bs} {Hs H H' Hs' : Hp} {σ : L2.St} {sl sl' tp tp' : List TA} (R1 : Rel K B Hs H σ sl tp) (R2 : Rel K B Hs' H' σ sl' tp') (s : Stp pu H H' sl sl') : ∀ {rs : List R} {vs : List V} {nws : List (List TA)}, RRs sl rs vs nws → (∀ r ∈ rs, r.top = false → pu = true) → RRs sl' rs vs nws
  | _, _, _, .nil, _ => .nil
  | _, _, _, .cons h t, ht => .cons (h.stay R1 R2 s (ht _ (by simp))) (RRs.stay R1 R2 s t fun r hr => ht r (by simp [hr]))
theorem la_cons {es : List Expr} {wr : Bool → St → (List R → St → Prop) → Prop} (ha : PE X a (LE X ix pu wa)) (hr : ∀ pu', PA X es (LA X ix pu' (wr pu'))) (hs : starEach (a :: es) X.env = (false, eval a X.env) :: starEach es X.env) :
    PA X (a :: es) (LA X ix pu fun σ K => wa σ fun r σ1 => wr (pu || !r.top) σ1 fun rs σ2 => K (r :: rs) σ2) := by
  refine ⟨fun pos pins s σ H Q I h => ?_⟩
  obtain ⟨B, Hs, sl, tp, P, R0, hw, hk⟩ := h
  refine (pa_cons (te := LE X ix pu wa) (t := fun σ' H1 Q' => ∃ pu', LA X ix pu' (wr pu') σ' H1 Q') ha ⟨fun pos pins s σ H Q I h => ?_⟩ hs).run pos pins s σ H Q I ?_
  · obtain ⟨pu', h⟩ := h
    exact (hr pu').run pos pins s σ H Q I h
  · refine ⟨B, Hs, sl, tp, _, R0, hw, fun ra v Hs1 H1 sl1 nw1 R1 rr1 st1 p1 => ⟨pu || !ra.top, B, Hs1, sl1, tp ++ nw1, _, R1, p1, fun rs vs Hs2 H2 sl2 nws R2 rrs st2 p2 => ?_⟩⟩
    refine hk (ra :: rs) (v :: vs) Hs2 H2 sl2 (nw1 :: nws) ?_ (.cons (rr1.stay R1 R2 st2 (fun z => by rw [z]; simp)) rrs) (st1.trans st2 (fun z => by rw [z]; rfl)) p2
    rw [List.flatten_cons, ← List.append_assoc]
    exact R2
end
end VL
set_option Elab.async false
set_option linter.all false
set_option maxRecDepth 100000
set_option maxHeartbeats 4000000
/-! VL5: operations on values, sound. -/
namespace VL
open PySem PySem.Spec PyProof.Rows L2

/-- what is wanted behind a value -/
abbrev Cont (X : Cx) (B : Bs) (σ : L2.St) (tp : List TA) (pu : Bool) (H : Hp) (sl : List TA) (P : R → St → Prop) (Q : VK) : Prop :=
  ∀ r v Hs' H' sl' nw, Rel X.K B Hs' H' σ sl' (tp ++ nw) → RR r v sl' nw → Stp pu H H' sl sl' → P r (TA.tl sl') → Q v H'
section
variable {X : Cx} {pins : List (Addr × Obj)} {s : Shared} {σ : L2.St} {H H2 Hs2 : Hp} {B : Bs} {sl sl2 tp nw nw1 nw2 as : List TA} {P : R → St → Prop} {Q : VK} {pu : Bool} {ra rb : R} {x y : V} {v u : Value}

theorem Cont.leaf {v : V} {d : PyData} (hk : Cont X B σ tp pu H sl P Q) (R1 : Rel X.K B Hs2 H2 σ sl2 tp) (dp : Rp X.K Hs2 v d) (st : Stp pu H H2 sl sl2) (hp : P (.v (.d d)) (TA.tl sl2)) : Q v H2 :=
  hk (.v (.d d)) v Hs2 H2 sl2 [.d v d] (R1.leaf dp) ⟨.d v d, rfl, rfl, rfl, rfl⟩ st hp
theorem Cont.node {k : Kd} {p : Addr} {o : HO} (hk : Cont X B σ tp pu H sl P Q) (R1 : Rel X.K B Hs2 H2 σ sl2 (tp ++ as)) (hp0 : H2 p = none) (ho : k.at (upd H2 p o) p (as.map TA.v)) (st : Stp pu H H2 sl sl2) (hp : P (.v (.nd k (TA.tl as))) (TA.tl sl2)) : Q (.ref p) (upd H2 p o) :=
  hk (.v (.nd k (TA.tl as))) (.ref p) Hs2 (upd H2 p o) sl2 [.nd k p as] (R1.allocO hp0 ho) ⟨.nd k p as, rfl, by rw [TA.t], rfl, rfl⟩ (st.trans (pu' := pu) (.same (same_upd hp0)) id) hp
theorem Cont.lst {p : Addr} (hk : Cont X B σ tp pu H sl P Q) (R1 : Rel X.K B Hs2 H2 σ sl2 (tp ++ as)) (hp0 : H2 p = none) (st : Stp pu H H2 sl sl2) (hp : P (.v (.nd .list (TA.tl as))) (TA.tl sl2)) : Q (.ref p) (upd H2 p (.lst (as.map TA.v))) :=
  hk.node (k := .list) R1 hp0 (show upd H2 p (.lst (as.map TA.v)) p = some (.lst (as.map TA.v)) from upd_same) st hp
/-- a new tuple of data -/
theorem Cont.tup {p : Addr} {vs : List V} {ds : List PyData} (hk : Cont X B σ tp pu H sl P Q) (R1 : Rel X.K B Hs2 H2 σ sl2 tp) (hp0 : H2 p = none) (dp : RpAll X.K Hs2 vs ds) (st : Stp pu H H2 sl sl2) (hp : P (.v (.d (.tuple ds))) (TA.tl sl2)) : Q (.ref p) (upd H2 p (.tup vs)) :=
  hk.leaf (R1.allocF hp0 (.tup vs)) (.tup (SqT.of upd_same) (dp.mono (same_upd (R1.hs_none hp0)))) (st.trans (pu' := pu) (.same (same_upd hp0)) id) hp
theorem Rel.tempsS {K : PySem.W.Frag} {Hs : Hp} {tp' : List TA} (R1 : Rel K B Hs H σ sl tp) (ok : TA.okl K Hs H tp') (sub : (TA.fpl tp').Sublist (TA.fpl tp)) : Rel K B Hs H σ sl tp' :=
  R1.temps ok (fun a ha => sub.subset ha) (sub.nodup R1.uqT)
theorem Rel.leaves {K : PySem.W.Frag} {Hs : Hp} {ls : List TA} (R1 : Rel K B Hs H σ sl tp) (ok : TA.okl K Hs H ls) (hf : TA.fpl ls = []) : Rel K B Hs H σ sl (tp ++ ls) :=
  R1.tempsS (TA.okl_append.mpr ⟨R1.okT, ok⟩) (by rw [TA.fpl_append, hf, List.append_nil]; exact List.Sublist.refl _)
def leafs (vs : List V) (ds : List PyData) : List TA := List.zipWith TA.d vs ds
theorem leafs_ok {K : PySem.W.Frag} {Hs H : Hp} : ∀ {vs : List V} {ds : List PyData}, RpAll K Hs vs ds → TA.okl K Hs H (leafs vs ds) ∧ TA.fpl (leafs vs ds) = [] ∧ TA.tl (leafs vs ds) = ds.map .d ∧ (leafs vs ds).map TA.v = vs
  | _, _, .nil => ⟨by show TA.okl K Hs H []; rw [TA.okl]; trivial, rfl, rfl, rfl⟩
  | _, _, .cons (v := v) (d := d) (vs := vs) (ds := ds) a b => by
    obtain ⟨h1, h2, h3, h4⟩ := leafs_ok (H := H) b
    have e : leafs (v :: vs) (d :: ds) = .d v d :: leafs vs ds := rfl
    rw [e]
    refine ⟨?_, ?_, ?_, ?_⟩
    · rw [TA.okl, TA.ok]; exact ⟨a, h1⟩
    · rw [TA.fpl, TA.fp, h2]; rfl
    · rw [TA.tl, TA.t, h3]; rfl
    · rw [List.map_cons, h4]; rfl
theorem leaves_of : ∀ {ts : List TA} {xs : List PyData}, T.leaves (TA.tl ts) = some xs → TA.fpl ts = [] ∧ TA.tl ts = xs.map .d ∧ (∀ {K : PySem.W.Frag} {Hs H : Hp}, TA.okl K Hs H ts → RpAll K Hs (ts.map TA.v) xs)
  | [], xs, h => by
    rw [TA.tl, T.leaves] at h
    cases h
    exact ⟨rfl, rfl, fun _ => .nil⟩
  | t :: r, xs, h => by
    rw [TA.tl] at h
    cases t with
    | dead => rw [TA.t, T.leaves] at h; cases h; simp
    | nd k a ts => rw [TA.t, T.leaves] at h; cases h; simp
    | d v x =>
      rw [TA.t, T.leaves] at h
      split at h
      · rename_i ys e
        cases h
        obtain ⟨h1, h2, h3⟩ := leaves_of e
        refine ⟨by rw [TA.fpl, TA.fp, h1]; rfl, by rw [TA.tl, TA.t, h2]; rfl, fun {K Hs H} ok => ?_⟩
        rw [TA.okl, TA.ok] at ok
        exact .cons ok.1 (h3 ok.2)
      · cases h
/-- a result whose tree is a leaf -/
theorem ta_d {c : TA} {x : PyData} (h : c.t = .d x) : ∃ w, c = .d w x := by
  cases c with
  | dead => rw [TA.t] at h; cases h
  | d w y => rw [TA.t] at h; cases h; exact ⟨w, rfl⟩
  | nd k a ts => rw [TA.t] at h; cases h
theorem ta_nd {c : TA} {k : Kd} {ts : List T} (h : c.t = .nd k ts) : ∃ a us, c = .nd k a us ∧ TA.tl us = ts := by
  cases c with
  | dead => rw [TA.t] at h; cases h
  | d w y => rw [TA.t] at h; cases h
  | nd k' a us => rw [TA.t] at h; cases h; exact ⟨a, us, rfl, rfl⟩
/-- a result that is an own node: its object -/
theorem RR.node {K : PySem.W.Frag} {Hs : Hp} {r : R} {v : V} {k : Kd} {ts : List T} (h : RR r v sl nw) (R1 : Rel K B Hs H σ sl (tp ++ nw)) (hx : r.get (TA.tl sl) = some (.nd k ts)) :
    ∃ a us, v = .ref a ∧ TA.tl us = ts ∧ k.at H a (us.map TA.v) ∧ TA.okl K Hs H us ∧ (r.isP = false → nw = [.nd k a us]) ∧ (∀ i q, r = .p i q → ∃ t, sl[i]? = some t ∧ t.at q = some (.nd k a us)) := by
  obtain ⟨c, h1, h2, h3, h4, _, h5, h6⟩ := h.get R1
  rw [h1] at hx
  obtain ⟨a, us, rfl, e⟩ := ta_nd (Option.some.inj hx)
  rw [TA.ok] at h4
  exact ⟨a, us, h2.symm, e, h4.1, h4.2, h5, h6⟩
/-- the items of a list that is a result -/
theorem RR.kids {K : PySem.W.Frag} {Hs : Hp} {r : R} {v : V} {ts : List T} (h : RR r v sl nw) (R1 : Rel K B Hs H σ sl (tp ++ nw)) (hk : r.kids (TA.tl sl) = some ts) :
    ∃ a us, v = .ref a ∧ TA.tl us = ts ∧ SqL K H a (us.map TA.v) ∧ TA.okl K Hs H us ∧ (TA.fpl us).Sublist (TA.fpl nw) := by
  unfold R.kids at hk
  split at hk
  · rename_i xs e
    cases hk
    obtain ⟨d1, d2⟩ := h.dpT R1 e
    cases d1 with
    | lst hr ha =>
      obtain ⟨h1, h2, h3, h4⟩ := leafs_ok (H := H) ha
      exact ⟨_, _, rfl, h3, by rw [h4]; exact SqL.mono R1.sub hr, h1, by rw [h2]; exact List.nil_sublist _⟩
  · rename_i us e
    obtain ⟨a, us', e1, e2, e3, e4, e5, e6⟩ := h.node R1 e
    cases r with
    | v t =>
      cases hk
      refine ⟨a, us', e1, e2, .inl (.inl e3), e4, ?_⟩
      rw [e5 rfl, fpl_one, TA.fp]
      exact List.sublist_cons_self _ _
    | p i q =>
      simp only at hk
      split at hk
      · rename_i hl
        cases hk
        obtain ⟨xs, hxs⟩ := Option.isSome_iff_exists.mp hl
        rw [← e2] at hxs
        obtain ⟨f1, f2, f3⟩ := leaves_of hxs
        exact ⟨a, us', e1, e2, .inl (.inl e3), e4, by rw [f1]; exact List.nil_sublist _⟩
      · cases hk
  · cases hk
end
end VL
set_option Elab.async false
set_option linter.all false
set_option maxRecDepth 100000
set_option maxHeartbeats 4000000
/-! VL6: operators, comparisons, items, slices, sound. -/
namespace VL
open PySem PySem.Spec PyProof.Rows L2

def bopIs : BOp → Operator → Bool
  | .add, .Add => true
  | .sub, .Sub => true
  | .mul, .Mult => true
  | .fdiv, .FloorDiv => true
  | .mod, .Mod => true
  | .pow, .Pow => true
  | .shl, .LShift => true
  | .shr, .RShift => true
  | .band, .BitAnd => true
  | _, _ => false
def copIs : COp → CmpOp → Bool
  | .lt, .Lt => true
  | .le, .LtE => true
  | .gt, .Gt => true
  | .ge, .GtE => true
  | .eq, .Eq => true
  | .ne, .NotEq => true
  | .isin, .In => true
  | .notin, .NotIn => true
  | .is, .Is => true
  | .isnot, .IsNot => true
  | _, _ => false

section
variable {X : Cx} {pins : List (Addr × Obj)} {s : Shared} {σ : L2.St} {H H2 Hs2 : Hp} {B : Bs} {sl sl2 tp nw nw1 nw2 as : List TA} {P : R → St → Prop} {Q : VK} {pu : Bool} {ra rb : R} {x y : V} {v u : Value}

theorem Rp.int_v {K : PySem.W.Frag} {H : Hp} {v : V} {i : Int} (h : Rp K H v (.int i)) : v = .int i := by cases h; rfl
theorem Rp.str_v {K : PySem.W.Frag} {H : Hp} {v : V} {i : Str} (h : Rp K H v (.str i)) : v = .str i := by cases h; rfl
theorem Rp.bool_v {K : PySem.W.Frag} {H : Hp} {v : V} {i : Bool} (h : Rp K H v (.bool i)) : v = .bl i := by cases h; rfl
theorem Rp.none_v {K : PySem.W.Frag} {H : Hp} {v : V} (h : Rp K H v .none) : v = .non := by cases h; rfl
/-- two lists, one behind the other, also locked ones -/
theorem op_catR : OpR X (binaryOp .Add) (fun x y H Q => ∃ l b xs zs, x = .ref l ∧ y = .ref b ∧ SqL X.K H l xs ∧ SqL X.K H b zs ∧ xs.length + zs.length ≤ sizeLine ∧ ∀ p, H p = none → Q (.ref p) (upd H p (.lst (xs ++ zs)))) := by
  intro pins s σ H x y v u Q I rx ry h
  obtain ⟨l, b, xs, zs, rfl, rfl, hH, hB, hz, q⟩ := h
  cases rx
  cases ry
  obtain ⟨its, r, pl, z⟩ := I.list hH
  obtain ⟨its2, r2, pl2, z2⟩ := I.list hB
  obtain ⟨⟨cls, dd, data, sl⟩, ho, hc, n, hd⟩ := pl.isList
  obtain ⟨⟨cls2, dd2, data2, sl2⟩, ho2, hc2, n2, hd2⟩ := pl2.isList
  simp only at hc hd hc2 hd2
  subst hc hd hc2 hd2
  have e : its.toArray ++ its2.toArray = (its ++ its2).toArray := by simp
  have l1 := r.length
  have l2 := r2.length
  refine concat_meets ⟨_, ho, rfl⟩ ⟨_, ho2, rfl⟩ noFill_list_add seq_list_add PySem.F.slot_list_add PySem.F.entry_list_add (PySem.F.args_list_add_2 _ _) (list_addW l b its.toArray its2.toArray n n2 dd dd2 sl sl2 (by rw [List.size_toArray, List.size_toArray]; omega)) ⟨ho, ho2, ?_⟩
  rw [e]
  exact ⟨.ref _, _, I.lnew (t' := s.toks) (r.append r2) (by rw [List.length_append]; omega), rfl, q _ I.fresh⟩
def bopO : BOp → Operator
  | .add => .Add
  | .sub => .Sub
  | .mul => .Mult
  | .fdiv => .FloorDiv
  | .mod => .Mod
  | .pow => .Pow
  | .shl => .LShift
  | .shr => .RShift
  | .band => .BitAnd
theorem bopIs_eq {op : BOp} {o : Operator} (ho : bopIs op o = true) : o = bopO op := by
  cases op <;> cases o <;> first | rfl | exact (Bool.noConfusion ho)
theorem binI_ok {op : BOp} {i j : Int} {Kk : Int → Prop} (I : Inv X pins σ H s) (rx : RelV (.int i) v) (ry : RelV (.int j) u) (h : binI op i j Kk) (q : ∀ z, Kk z → Q (.int z) H) :
    wpAny (model X.prog X.w) X.A (binaryOp (bopO op) v u) (EP X pins σ Q) X.xe s := by
  cases op with
  | add => exact op_add pins s σ H _ _ v u Q I rx ry ⟨i, j, rfl, rfl, q _ h⟩
  | sub => exact op_sub pins s σ H _ _ v u Q I rx ry ⟨i, j, rfl, rfl, q _ h⟩
  | mul => exact op_mul pins s σ H _ _ v u Q I rx ry ⟨i, j, rfl, rfl, h.1, q _ h.2⟩
  | fdiv => exact op_fdivW pins s σ H _ _ v u Q I rx ry ⟨i, j, rfl, rfl, h.1, q _ h.2⟩
  | mod => exact op_mod pins s σ H _ _ v u Q I rx ry ⟨i, j, rfl, rfl, h.1, q _ h.2⟩
  | pow => exact op_pow pins s σ H _ _ v u Q I rx ry ⟨i, j, rfl, rfl, h.1, q _ h.2⟩
  | shl => exact op_shl pins s σ H _ _ v u Q I rx ry ⟨i, j, rfl, rfl, h.1, q _ h.2⟩
  | shr => exact op_shr pins s σ H _ _ v u Q I rx ry ⟨i, j, rfl, rfl, h.1, q _ h.2⟩
  | band => exact op_and pins s σ H _ _ v u Q I rx ry ⟨i, j, rfl, rfl, q _ h⟩
theorem map_rep {α β : Type} (f : α → β) (xs : List α) : ∀ n : Nat, (List.replicate n xs).flatten.map f = (List.replicate n (xs.map f)).flatten
  | 0 => rfl
  | n + 1 => by rw [List.replicate_succ, List.flatten_cons, List.map_append, map_rep f xs n, List.replicate_succ, List.flatten_cons]
theorem RpAll.append {K : PySem.W.Frag} {H : Hp} : ∀ {vs ws : List V} {xs ys : List PyData}, RpAll K H vs xs → RpAll K H ws ys → RpAll K H (vs ++ ws) (xs ++ ys)
  | _, _, _, _, .nil, h => h
  | _, _, _, _, .cons a b, h => .cons a (RpAll.append b h)
theorem rep_ok {K : PySem.W.Frag} {Hs : Hp} {vs : List V} {ds : List PyData} (h : RpAll K Hs vs ds) : ∀ n : Nat, RpAll K Hs (List.replicate n vs).flatten (List.replicate n ds).flatten
  | 0 => .nil
  | n + 1 => by
    rw [List.replicate_succ, List.flatten_cons, List.replicate_succ, List.flatten_cons]
    exact h.append (rep_ok h n)
theorem op_binW {op : BOp} (I : Inv X pins σ H2 s) (rx : RelV x v) (ry : RelV y u) (R2 : Rel X.K B Hs2 H2 σ sl2 ((tp ++ nw1) ++ nw2)) (r1 : RR ra x sl2 nw1) (r2 : RR rb y sl2 nw2) (st : Stp pu H H2 sl sl2) (hk : Cont X B σ tp pu H sl P Q) (h : binW op ra rb (TA.tl sl2) P) :
    wpAny (model X.prog X.w) X.A (binaryOp (bopO op) v u) (EP X pins σ Q) X.xe s := by
  have R1 := R2.drop
  have R0 := R1.drop
  unfold binW at h
  split at h
  · rename_i i j e1 e2
    have a1 := (r1.dpT R1 e1).2.int_v
    have a2 := (r2.dpT R2 e2).2.int_v
    subst a1 a2
    exact binI_ok I rx ry h fun z hz => hk.leaf R0 (.int z) st hz
  · rename_i i j e1 e2
    have a1 := (r1.dpT R1 e1).2.str_v
    have a2 := (r2.dpT R2 e2).2.str_v
    subst a1 a2
    obtain ⟨rfl, hz, h⟩ := h
    exact op_add_str pins s σ H2 _ _ v u Q I rx ry ⟨i, j, rfl, rfl, hz, hk.leaf R0 (.str _) st h⟩
  · rename_i xs ys e1 e2
    obtain ⟨rfl, hz, h⟩ := h
    have d1 := (r1.dpT R1 e1).1
    have d2 := (r2.dpT R2 e2).1
    cases d1 with
    | tup h1 a1 =>
      cases d2 with
      | tup h2 a2 =>
        have l1 := a1.length
        have l2 := a2.length
        refine op_catA pins s σ H2 _ _ v u Q I rx ry ⟨_, _, _, _, rfl, rfl, SqT.mono R2.sub h1, SqT.mono R2.sub h2, by omega, fun e => ?_, fun e1 e2 => ?_, fun _ _ p hp => ?_⟩
        · subst e
          have e3 : xs = [] := by cases a1; rfl
          subst e3
          exact hk.leaf R0 (.tup h2 a2) st h
        · subst e2
          have e3 : ys = [] := by cases a2; rfl
          subst e3
          rw [List.append_nil] at h
          exact hk.leaf R0 (.tup h1 a1) st h
        · exact hk.tup R0 hp (a1.append a2) st h
  · rename_i ts j e1 e2
    obtain ⟨rfl, h⟩ := h
    split at h
    · rename_i xs hl
      obtain ⟨b1, b2, hz, h⟩ := h
      obtain ⟨a, us, rfl, e3, e4, e5, _, _⟩ := r1.node R1 e1
      have a2 := (r2.dpT R2 e2).2.int_v
      subst a2
      rw [← e3] at hl
      obtain ⟨f1, f2, f3⟩ := leaves_of hl
      have ra := rep_ok (f3 e5) j.toNat
      obtain ⟨g1, g2, g3, g4⟩ := leafs_ok (H := H2) ra
      have lz : (us.map TA.v).length = xs.length := (f3 e5).length
      refine op_rep pins s σ H2 _ _ v u Q I rx ry ⟨a, j, _, rfl, rfl, e4, b1, b2, by rw [lz]; exact hz, fun p hp => ?_⟩
      have := hk.lst (R0.leaves g1 g2) hp st (by rw [g3]; exact h)
      rw [g4] at this
      exact this
    · exact h.elim
  · obtain ⟨rfl, h⟩ := h
    split at h
    · rename_i ts us e1 e2
      obtain ⟨hz, h⟩ := h
      obtain ⟨a, as1, rfl, t1, d1, o1, s1⟩ := r1.kids R1 e1
      obtain ⟨b, as2, rfl, t2, d2, o2, s2⟩ := r2.kids R2 e2
      have len1 : (as1.map TA.v).length = ts.length := by rw [← t1, TA.tl_map]; simp
      have len2 : (as2.map TA.v).length = us.length := by rw [← t2, TA.tl_map]; simp
      refine op_catR pins s σ H2 _ _ v u Q I rx ry ⟨a, b, _, _, rfl, rfl, d1, d2, by rw [len1, len2]; exact hz, fun p hp => ?_⟩
      have R3 : Rel X.K B Hs2 H2 σ sl2 (tp ++ (as1 ++ as2)) := by
        refine R2.tempsS (TA.okl_append.mpr ⟨R0.okT, TA.okl_append.mpr ⟨o1, o2⟩⟩) ?_
        rw [TA.fpl_append, TA.fpl_append, TA.fpl_append, TA.fpl_append, List.append_assoc]
        exact (List.Sublist.refl _).append (s1.append s2)
      have := hk.lst R3 hp st (by rw [TA.tl_map, List.map_append, ← TA.tl_map, ← TA.tl_map, t1, t2]; exact h)
      rw [List.map_append] at this
      exact this
    · exact h.elim
theorem Rp.eqV {K : PySem.W.Frag} {H : Hp} {v w : V} {a b : PyData} (h1 : Rp K H v a) (h2 : Rp K H w b) (f1 : flatD a = true) (f2 : flatD b = true) : eqV v w = PyData.eqv a b ∧ flatV v = true ∧ flatV w = true := by
  cases h1 <;> cases h2 <;> first | (exact (Bool.noConfusion f1)) | (exact (Bool.noConfusion f2)) | exact ⟨rfl, rfl, rfl⟩
theorem all_flat {K : PySem.W.Frag} {H : Hp} : ∀ {vs : List V} {xs : List PyData}, RpAll K H vs xs → xs.all flatD = true → vs.all flatV = true
  | _, _, .nil, _ => rfl
  | _, _, .cons a b, h => by
    simp only [List.all_cons, Bool.and_eq_true] at h ⊢
    exact ⟨(a.eqV a h.1 h.1).2.1, all_flat b h.2⟩
theorem any_eqV {K : PySem.W.Frag} {H : Hp} {w : V} {x : PyData} (hx : Rp K H w x) (fx : flatD x = true) : ∀ {vs : List V} {xs : List PyData}, RpAll K H vs xs → xs.all flatD = true → inV w vs = xs.any fun z => PyData.eqv z x
  | _, _, .nil, _ => rfl
  | _, _, .cons a b, h => by
    simp only [List.all_cons, Bool.and_eq_true] at h
    have := any_eqV hx fx b h.2
    unfold inV at this ⊢
    rw [List.any_cons, List.any_cons, this, (a.eqV hx h.1 fx).1]
end
end VL
set_option Elab.async false
set_option linter.all false
set_option maxRecDepth 100000
set_option maxHeartbeats 4000000
/-! VL7: comparisons, items, slices, truth, sound. -/
namespace VL
open PySem PySem.Spec PyProof.Rows L2

def copO : COp → CmpOp
  | .lt => .Lt
  | .le => .LtE
  | .gt => .Gt
  | .ge => .GtE
  | .eq => .Eq
  | .ne => .NotEq
  | .isin => .In
  | .notin => .NotIn
  | .is => .Is
  | .isnot => .IsNot
theorem copIs_eq {op : COp} {o : CmpOp} (ho : copIs op o = true) : o = copO op := by
  cases op <;> cases o <;> first | rfl | exact (Bool.noConfusion ho)
section
variable {X : Cx} {pins : List (Addr × Obj)} {s : Shared} {σ : L2.St} {H H2 Hs2 : Hp} {B : Bs} {sl sl2 tp nw nw1 nw2 as : List TA} {P : R → St → Prop} {Q : VK} {pu : Bool} {ra rb : R} {x y : V} {v u : Value}

theorem isNone_of {K : PySem.W.Frag} {Hs : Hp} {c : TA} (ok : c.ok K Hs H) (hd : c.isDead = false) : decide (c.v = .non) = c.t.isNone := by
  cases c with
  | dead => cases hd
  | nd k a ts => rfl
  | d w z =>
    rw [TA.ok] at ok
    cases ok <;> rfl
theorem eqW_ok {a b : PyData} {Kk : Bool → Prop} {neg : Bool} (hu : X.A.units + 64 < cLine) (I : Inv X pins σ H s) (rx : RelV x v) (ry : RelV y u) (h1 : Rp X.K H x a) (h2 : Rp X.K H y b) (h : eqW a b Kk) (q : ∀ z, Kk z → Q (.bl (if neg = true then !z else z)) H) :
    wpAny (model X.prog X.w) X.A (compareOp (if neg = true then .NotEq else .Eq) v u) (EP X pins σ Q) X.xe s := by
  unfold eqW at h
  split at h
  · have e1 := h1.int_v
    have e2 := h2.int_v
    subst e1 e2
    rename_i i j
    have ed : decide (V.int i = V.int j) = decide (i = j) := by simp
    cases neg with
    | false => exact op_eq pins s σ H _ _ v u Q I rx ry ⟨rfl, by rw [ed]; exact q _ h⟩
    | true => exact op_ne pins s σ H _ _ v u Q I rx ry ⟨rfl, by rw [ed]; exact q _ h⟩
  · have e1 := h1.str_v
    have e2 := h2.str_v
    subst e1 e2
    rename_i i j
    have ed : decide (V.str i = V.str j) = decide (i = j) := by simp
    cases neg with
    | false => exact op_eq pins s σ H _ _ v u Q I rx ry ⟨rfl, by rw [ed]; exact q _ h⟩
    | true => exact op_ne pins s σ H _ _ v u Q I rx ry ⟨rfl, by rw [ed]; exact q _ h⟩
  · obtain ⟨s1, s2, h⟩ := h
    have d1 := h1.dp (SeqAt.canLay_of_shaped s1)
    have d2 := h2.dp (SeqAt.canLay_of_shaped s2)
    cases neg with
    | false => exact op_eqD hu pins s σ H _ _ v u Q I rx ry ⟨a, b, d1, d2, s1, s2, q _ h⟩
    | true => exact op_neD hu pins s σ H _ _ v u Q I rx ry ⟨a, b, d1, d2, s1, s2, q _ h⟩
theorem inW_ok {a b : PyData} {Kk : Bool → Prop} {neg : Bool} (I : Inv X pins σ H s) (rx : RelV x v) (ry : RelV y u) (h1 : Rp X.K H x a) (h2 : Rp X.K H y b) (h : inW a b Kk) (q : ∀ z, Kk z → Q (.bl (if neg = true then !z else z)) H) :
    wpAny (model X.prog X.w) X.A (compareOp (if neg = true then .NotIn else .In) v u) (EP X pins σ Q) X.xe s := by
  unfold inW at h
  split at h
  · obtain ⟨f1, f2, h⟩ := h
    cases h2 with
    | lst hr ha =>
      have e := any_eqV h1 f1 ha f2
      have fx := (h1.eqV h1 f1 f1).2.1
      cases neg with
      | false => exact op_in_seq pins s σ H _ _ v u Q I rx ry ⟨_, _, rfl, .inl hr, fx, all_flat ha f2, by simp only [Bool.false_eq_true, if_false]; rw [e]; exact q _ h⟩
      | true => exact op_notIn_seq pins s σ H _ _ v u Q I rx ry ⟨_, _, rfl, .inl hr, fx, all_flat ha f2, by simp only [if_true]; rw [e]; exact q _ h⟩
  · obtain ⟨f1, f2, h⟩ := h
    cases h2 with
    | tup hr ha =>
      have e := any_eqV h1 f1 ha f2
      have fx := (h1.eqV h1 f1 f1).2.1
      cases neg with
      | false => exact op_in_seq pins s σ H _ _ v u Q I rx ry ⟨_, _, rfl, .inr hr, fx, all_flat ha f2, by simp only [Bool.false_eq_true, if_false]; rw [e]; exact q _ h⟩
      | true => exact op_notIn_seq pins s σ H _ _ v u Q I rx ry ⟨_, _, rfl, .inr hr, fx, all_flat ha f2, by simp only [if_true]; rw [e]; exact q _ h⟩
  · split at h
    · have e1 := h1.str_v
      have e2 := h2.str_v
      subst e1 e2
      cases neg with
      | false => exact op_in_str pins s σ H _ _ v u Q I rx ry ⟨_, _, rfl, rfl, q _ h⟩
      | true => exact op_notin_str pins s σ H _ _ v u Q I rx ry ⟨_, _, rfl, rfl, q _ h⟩
    · exact h.elim
  · exact h.elim
theorem isW_ok {a b : TA} {Hs : Hp} {Kk : Bool → Prop} {neg : Bool} (I : Inv X pins σ H s) (rx : RelV a.v v) (ry : RelV b.v u) (h1 : a.ok X.K Hs H) (d1 : a.isDead = false) (h2 : b.ok X.K Hs H) (h : isW a.t b.t Kk) (q : ∀ z, Kk z → Q (.bl (if neg = true then !z else z)) H) :
    wpAny (model X.prog X.w) X.A (compareOp (if neg = true then .IsNot else .Is) v u) (EP X pins σ Q) X.xe s := by
  unfold isW at h
  split at h
  · rename_i p r e1 e2
    obtain ⟨w1, rfl⟩ := ta_d e1
    obtain ⟨w2, rfl⟩ := ta_d e2
    rw [TA.ok] at h1 h2
    have e1 := h1.bool_v
    have e2 := h2.bool_v
    subst e1 e2
    cases neg with
    | false => exact op_isBl pins s σ H _ _ v u Q I rx ry ⟨p, r, rfl, rfl, q _ h⟩
    | true => exact op_notBl pins s σ H _ _ v u Q I rx ry ⟨p, r, rfl, rfl, q _ h⟩
  · rename_i e2
    obtain ⟨w2, rfl⟩ := ta_d e2
    rw [TA.ok] at h2
    have e2 := h2.none_v
    subst e2
    have e := isNone_of h1 d1
    cases neg with
    | false => exact op_isN pins s σ H _ _ v u Q I rx ry ⟨rfl, by rw [e]; exact q _ h⟩
    | true => exact op_notN pins s σ H _ _ v u Q I rx ry ⟨rfl, by rw [e]; exact q _ h⟩
  · exact h.elim
theorem op_cmpW {op : COp} {Kk : Bool → Prop} (hu : X.A.units + 64 < cLine) (I : Inv X pins σ H2 s) (rx : RelV x v) (ry : RelV y u) (R2 : Rel X.K B Hs2 H2 σ sl2 ((tp ++ nw1) ++ nw2)) (r1 : RR ra x sl2 nw1) (r2 : RR rb y sl2 nw2) (h : cmpW op ra rb (TA.tl sl2) Kk) (q : ∀ z, Kk z → Q (.bl z) H2) :
    wpAny (model X.prog X.w) X.A (compareOp (copO op) v u) (EP X pins σ Q) X.xe s := by
  have R1 := R2.drop
  have intsE : ∀ {i j : Int}, ra.get (TA.tl sl2) = some (.d (.int i)) → rb.get (TA.tl sl2) = some (.d (.int j)) → x = .int i ∧ y = .int j := fun e1 e2 => ⟨(r1.dpT R1 e1).2.int_v, (r2.dpT R2 e2).2.int_v⟩
  cases op with
  | eq =>
    simp only [cmpW] at h
    split at h
    · rename_i e1 e2
      exact eqW_ok (neg := false) hu I rx ry (r1.dp R1 e1) (r2.dp R2 e2) h fun z hz => q _ hz
    · exact h.elim
  | ne =>
    simp only [cmpW] at h
    split at h
    · rename_i e1 e2
      exact eqW_ok (neg := true) hu I rx ry (r1.dp R1 e1) (r2.dp R2 e2) h fun z hz => q _ hz
    · exact h.elim
  | isin =>
    simp only [cmpW] at h
    split at h
    · rename_i e1 e2
      exact inW_ok (neg := false) I rx ry (r1.dp R1 e1) (r2.dp R2 e2) h fun z hz => q _ hz
    · exact h.elim
  | notin =>
    simp only [cmpW] at h
    split at h
    · rename_i e1 e2
      exact inW_ok (neg := true) I rx ry (r1.dp R1 e1) (r2.dp R2 e2) h fun z hz => q _ hz
    · exact h.elim
  | is =>
    simp only [cmpW] at h
    split at h
    · rename_i e1 e2
      obtain ⟨c1, g1, rfl, g3, g4, _⟩ := r1.get R1
      obtain ⟨c2, k1, rfl, k3, k4, _⟩ := r2.get R2
      rw [g1] at e1
      rw [k1] at e2
      cases e1
      cases e2
      exact isW_ok (neg := false) I rx ry g4 g3 k4 h fun z hz => q _ hz
    · exact h.elim
  | isnot =>
    simp only [cmpW] at h
    split at h
    · rename_i e1 e2
      obtain ⟨c1, g1, rfl, g3, g4, _⟩ := r1.get R1
      obtain ⟨c2, k1, rfl, k3, k4, _⟩ := r2.get R2
      rw [g1] at e1
      rw [k1] at e2
      cases e1
      cases e2
      exact isW_ok (neg := true) I rx ry g4 g3 k4 h fun z hz => q _ hz
    · exact h.elim
  | lt =>
    simp only [cmpW] at h
    split at h
    · rename_i i j e1 e2
      obtain ⟨rfl, rfl⟩ := intsE e1 e2
      exact op_lt pins s σ H2 _ _ v u Q I rx ry ⟨i, j, rfl, rfl, q _ h⟩
    · exact h.elim
  | le =>
    simp only [cmpW] at h
    split at h
    · rename_i i j e1 e2
      obtain ⟨rfl, rfl⟩ := intsE e1 e2
      exact op_le pins s σ H2 _ _ v u Q I rx ry ⟨i, j, rfl, rfl, q _ h⟩
    · exact h.elim
  | gt =>
    simp only [cmpW] at h
    split at h
    · rename_i i j e1 e2
      obtain ⟨rfl, rfl⟩ := intsE e1 e2
      exact op_gt pins s σ H2 _ _ v u Q I rx ry ⟨i, j, rfl, rfl, q _ h⟩
    · exact h.elim
  | ge =>
    simp only [cmpW] at h
    split at h
    · rename_i i j e1 e2
      obtain ⟨rfl, rfl⟩ := intsE e1 e2
      exact op_ge pins s σ H2 _ _ v u Q I rx ry ⟨i, j, rfl, rfl, q _ h⟩
    · exact h.elim
/-- truth -/
theorem truth_of {K : PySem.W.Frag} {Hs : Hp} {c : TA} {b : Bool} (sub : Same Hs H) (ok : c.ok K Hs H) (h : c.t.truth = some b) : TruV K c.v H b := by
  cases c with
  | dead => rw [TA.t, T.truth] at h; cases h; all_goals simp
  | d w z =>
    rw [TA.ok] at ok
    rw [TA.t] at h
    have ok' := ok.mono sub
    cases ok' with
    | non => simp only [T.truth, Option.some.injEq] at h; exact h.symm
    | bl k => simp only [T.truth, Option.some.injEq] at h; exact h.symm
    | int i => simp only [T.truth, Option.some.injEq] at h; exact h.symm
    | str z =>
      simp only [T.truth] at h
      split at h
      · rename_i hz
        simp only [Option.some.injEq] at h
        exact ⟨hz, h.symm⟩
      · cases h
    | lst hr ha =>
      simp only [T.truth, Option.some.injEq] at h
      refine .inl ⟨_, hr, ?_⟩
      rw [← h]
      cases ha <;> rfl
    | tup hr ha =>
      simp only [T.truth, Option.some.injEq] at h
      refine .inr (.inl ⟨_, hr, ?_⟩)
      rw [← h]
      cases ha <;> rfl
    | dct l hr ha => simp [T.truth] at h
  | nd k a ts =>
    rw [TA.ok] at ok
    rw [TA.t] at h
    cases k with
    | list =>
      simp only [T.truth, Option.some.injEq] at h
      refine .inl ⟨_, .inl (.inl ok.1), ?_⟩
      rw [← h, TA.tl_map]
      cases ts <;> rfl
    | tup => simp [T.truth] at h
    | dict ks => simp [T.truth] at h
    | inst C ns => simp [T.truth] at h
theorem truW_of {Kk : Bool → Prop} (R1 : Rel X.K B Hs2 H2 σ sl2 (tp ++ nw)) (r1 : RR ra x sl2 nw) (h : truW ra (TA.tl sl2) Kk) : ∃ b, TruV X.K x H2 b ∧ Kk b := by
  obtain ⟨c, g1, rfl, g3, g4, _⟩ := r1.get R1
  unfold truW at h
  rw [g1] at h
  simp only at h
  split at h
  · rename_i b hb
    exact ⟨b, truth_of R1.sub g4 hb, h⟩
  · exact h.elim
/-- a value of two others, as a reading of values -/
def R2W (X : Cx) (w : R → R → St → (R → St → Prop) → Prop) : R2 := fun x y H2 Q => ∃ σ B Hs2 sl2 tp nw1 nw2 ra rb P H sl pu, Rel X.K B Hs2 H2 σ sl2 ((tp ++ nw1) ++ nw2) ∧ RR ra x sl2 nw1 ∧ RR rb y sl2 nw2 ∧ Stp pu H H2 sl sl2 ∧ w ra rb (TA.tl sl2) P ∧ Cont X B σ tp pu H sl P Q
theorem atI_map {α β : Type} (f : α → β) (xs : List α) (i : Int) : atI (xs.map f) i = (atI xs i).map f := by
  unfold atI
  rw [List.length_map]
  cases ixN xs.length i with
  | none => rfl
  | some j => simp
theorem RpAll.atI {K : PySem.W.Frag} {H : Hp} {vs : List V} {xs : List PyData} {i : Int} {x : PyData} (h : RpAll K H vs xs) (e : L2.atI xs i = some x) : ∃ v, L2.atI vs i = some v ∧ Rp K H v x := by
  unfold L2.atI at e ⊢
  rw [h.length]
  cases q : ixN xs.length i with
  | none => rw [q] at e; cases e
  | some j =>
    rw [q] at e
    exact h.get (show xs[j]? = some x from e)
theorem ix_W : IxR X (R2W X ixW) := by
  intro value slice pins s σ' H2 x y v u Q I rx ry h hs
  obtain ⟨σ, B, Hs2, sl2, tp, nw1, nw2, ra, rb, P, H, sl, pu, R2, r1, r2, st, h, hk⟩ := h
  have R1 := R2.drop
  have R0 := R1.drop
  unfold ixW at h
  split at h
  · rename_i xs i e1 e2
    have a2 := (r2.dpT R2 e2).2.int_v
    subst a2
    have d1 := (r1.dpT R1 e1).1
    cases d1 with
    | lst hr ha =>
      split at h
      · rename_i z hz
        obtain ⟨w, hw, dw⟩ := ha.atI hz
        exact ix_list value slice pins s σ' H2 _ _ v u Q I rx ry ⟨_, _, i, w, rfl, rfl, SqL.mono R2.sub hr, hw, hk.leaf R0 dw st h⟩ hs
      · exact h.elim
  · rename_i xs i e1 e2
    have a2 := (r2.dpT R2 e2).2.int_v
    subst a2
    have d1 := (r1.dpT R1 e1).1
    cases d1 with
    | tup hr ha =>
      split at h
      · rename_i z hz
        obtain ⟨w, hw, dw⟩ := ha.atI hz
        exact ix_tup value slice pins s σ' H2 _ _ v u Q I rx ry ⟨_, _, i, w, rfl, rfl, SqT.mono R2.sub hr, hw, hk.leaf R0 dw st h⟩ hs
      · exact h.elim
  · rename_i z i e1 e2
    have a2 := (r2.dpT R2 e2).2.int_v
    have a1 := (r1.dpT R1 e1).2.str_v
    subst a1 a2
    obtain ⟨hz, h⟩ := h
    split at h
    · rename_i c hc
      exact ix_str value slice pins s σ' H2 _ _ v u Q I rx ry ⟨z, i, c, rfl, rfl, hz, hc, hk.leaf R0 (.str _) st h⟩ hs
    · exact h.elim
  · rename_i ts i e1 e2
    have a2 := (r2.dpT R2 e2).2.int_v
    subst a2
    obtain ⟨a, us, rfl, e3, e4, e5, e6, e7⟩ := r1.node R1 e1
    split at h
    · rename_i j hj
      have hj' : ixN (us.map TA.v).length i = some j := by rw [List.length_map]; rw [← e3, TA.tl_map, List.length_map] at hj; exact hj
      have go : ∀ c : TA, us[j]? = some c → Q c.v H2 → wpAny (model X.prog X.w) X.A (subscriptTail value slice v u) (EP X pins σ' Q) X.xe s := fun c hc q =>
        ix_list value slice pins s σ' H2 _ _ v u Q I rx ry ⟨a, _, i, c.v, rfl, rfl, SqL.of e4, by unfold atI; rw [hj']; show (us.map TA.v)[j]? = some c.v; rw [List.getElem?_map, hc]; rfl, q⟩ hs
      have tj : ts[j]? = (us[j]?).map TA.t := by rw [← e3]; exact tl_get us j
      split at h
      · rename_i d hd
        rw [tj] at hd
        obtain ⟨c, hc, hct⟩ := Option.map_eq_some_iff.mp hd
        obtain ⟨w, rfl⟩ := ta_d hct
        have okc := TA.okl_all.mp e5 _ (List.mem_of_getElem? hc)
        rw [TA.ok] at okc
        exact go _ hc (hk.leaf R0 okc st h)
      · rename_i k2 us2 hd
        rw [tj] at hd
        obtain ⟨c, hc, hct⟩ := Option.map_eq_some_iff.mp hd
        obtain ⟨a2, us3, rfl, e8⟩ := ta_nd hct
        cases ra with
        | v t =>
          have hn := e6 rfl
          subst hn
          exact go _ hc (hk (.v (.nd k2 us2)) _ Hs2 H2 sl2 [.nd k2 a2 us3] (R1.child hc) ⟨_, rfl, by rw [TA.t, e8], rfl, rfl⟩ st h)
        | p i0 q0 =>
          obtain ⟨t0, g1, g2⟩ := e7 i0 q0 rfl
          have hn : nw1 = [] := r1.1
          subst hn
          refine go _ hc (hk (.p i0 (q0 ++ [j])) _ Hs2 H2 sl2 [] (by simpa using R0) ⟨rfl, t0, _, g1, ?_, rfl, rfl⟩ st h)
          have : ∀ (q : List Nat) (t c' : TA), t.at q = some (.nd .list a us) → t.at (q ++ [j]) = some (.nd k2 a2 us3) := by
            intro q
            induction q with
            | nil =>
              intro t c' ht
              rw [TA.at] at ht
              cases ht
              show (TA.nd .list a us).at [j] = _
              simp only [TA.at, hc]
            | cons m q ih =>
              intro t c' ht
              cases t with
              | dead => cases ht
              | d _ _ => cases ht
              | nd kk aa tt =>
                rw [List.cons_append]
                rw [TA.at] at ht ⊢
                cases hm : tt[m]? with
                | none => rw [hm] at ht; cases ht
                | some b => rw [hm] at ht; exact ih b c' ht
          exact this q0 t0 (.dead .non) g2
      · exact h.elim
    · exact h.elim
  · exact h.elim
theorem cutL_map {α β : Type} (f : α → β) (xs : List α) (lo hi : Option Int) : cutL (xs.map f) lo hi = (cutL xs lo hi).map f := by
  unfold cutL
  rw [List.length_map, List.map_take, List.map_drop]
theorem cutL_V (xs : List V) (lo hi : Option Int) : cutL xs lo hi = cutV xs lo hi := rfl
theorem RpAll.drop {K : PySem.W.Frag} {H : Hp} : ∀ {vs : List V} {xs : List PyData} (n : Nat), RpAll K H vs xs → RpAll K H (vs.drop n) (xs.drop n)
  | _, _, 0, h => h
  | _, _, _ + 1, .nil => .nil
  | _, _, n + 1, .cons _ b => RpAll.drop n b
theorem RpAll.take {K : PySem.W.Frag} {H : Hp} : ∀ {vs : List V} {xs : List PyData} (n : Nat), RpAll K H vs xs → RpAll K H (vs.take n) (xs.take n)
  | _, _, 0, h => .nil
  | _, _, _ + 1, .nil => .nil
  | _, _, n + 1, .cons a b => .cons a (RpAll.take n b)
theorem RpAll.cut {K : PySem.W.Frag} {H : Hp} {vs : List V} {xs : List PyData} (h : RpAll K H vs xs) (lo hi : Option Int) : RpAll K H (cutV vs lo hi) (cutL xs lo hi) := by
  unfold cutV cutL
  rw [h.length]
  exact (h.drop _).take _
theorem fpl_sub {us us' : List TA} (h : us'.Sublist us) : (TA.fpl us').Sublist (TA.fpl us) := by
  induction h with
  | slnil => exact List.Sublist.refl _
  | cons a h ih => rw [TA.fpl]; exact ih.trans (List.sublist_append_right _ _)
  | cons_cons a h ih => rw [TA.fpl, TA.fpl]; exact (List.Sublist.refl _).append ih
theorem cutL_sub {α : Type} (xs : List α) (lo hi : Option Int) : (cutL xs lo hi).Sublist xs := (List.take_sublist _ _).trans (List.drop_sublist _ _)
theorem RR.cut {K : PySem.W.Frag} {B : Bs} {Hs H : Hp} {σ : L2.St} {sl tp nw : List TA} {r : R} {v : V} {lo hi : Option Int} {ts : List T} (h : RR r v sl nw) (R1 : Rel K B Hs H σ sl (tp ++ nw)) (hk : r.cut lo hi (TA.tl sl) = some ts) :
    ∃ a us, v = .ref a ∧ TA.tl (cutL us lo hi) = ts ∧ SqL K H a (us.map TA.v) ∧ TA.okl K Hs H us ∧ (TA.fpl (cutL us lo hi)).Sublist (TA.fpl nw) := by
  unfold R.cut at hk
  split at hk
  · rename_i xs e
    cases hk
    obtain ⟨d1, d2⟩ := h.dpT R1 e
    cases d1 with
    | lst hr ha =>
      obtain ⟨h1, h2, h3, h4⟩ := leafs_ok (H := H) ha
      refine ⟨_, _, rfl, by rw [TA.tl_map, ← cutL_map, ← TA.tl_map, h3], by rw [h4]; exact SqL.mono R1.sub hr, h1, (fpl_sub (cutL_sub _ lo hi)).trans ?_⟩
      rw [h2]
      exact List.nil_sublist _
  · rename_i us e
    obtain ⟨a, us', e1, e2, e3, e4, e5, e6⟩ := h.node R1 e
    have e7 : TA.tl (cutL us' lo hi) = cutL us lo hi := by rw [TA.tl_map, ← cutL_map, ← TA.tl_map, e2]
    cases r with
    | v t =>
      cases hk
      refine ⟨a, us', e1, e7, .inl (.inl e3), e4, (fpl_sub (cutL_sub _ lo hi)).trans ?_⟩
      rw [e5 rfl, fpl_one, TA.fp]
      exact List.sublist_cons_self _ _
    | p i q =>
      simp only at hk
      split at hk
      · rename_i hl
        cases hk
        obtain ⟨xs, hxs⟩ := Option.isSome_iff_exists.mp hl
        rw [← e7] at hxs
        obtain ⟨f1, f2, f3⟩ := leaves_of hxs
        exact ⟨a, us', e1, e7, .inl (.inl e3), e4, by rw [f1]; exact List.nil_sublist _⟩
      · cases hk
  · cases hk
/-- a slice of a result -/
def SlW (X : Cx) : V → Option Int → Option Int → Hp → VK → Prop := fun x lo hi H2 Q => ∃ σ B Hs2 sl2 tp nw1 ra P H sl pu, Rel X.K B Hs2 H2 σ sl2 (tp ++ nw1) ∧ RR ra x sl2 nw1 ∧ Stp pu H H2 sl sl2 ∧ slW ra lo hi (TA.tl sl2) P ∧ Cont X B σ tp pu H sl P Q
theorem sl_W : SlR X (SlW X) := by
  intro pins s σ' H2 x v vl vu lo hi sa Q I rx hs pl pu' h
  obtain ⟨σ, B, Hs2, sl2, tp, nw1, ra, P, H, sl, pu, R1, r1, st, h, hk⟩ := h
  have R0 := R1.drop
  unfold slW at h
  split at h
  · rename_i xs e1
    have d1 := (r1.dpT R1 e1).1
    cases d1 with
    | tup hr ha =>
      rename_i a vs
      refine sl_tupA pins s σ' H2 _ v vl vu lo hi sa Q I rx hs pl pu' ⟨_, _, rfl, SqT.mono R1.sub hr, fun hw => ?_, fun hw p hp => ?_⟩
      · have e : cutL xs lo hi = xs := by
          have hl := ha.length
          unfold cutL
          rw [← hl, hw.1, hw.2]
          simp [hl]
        rw [e] at h
        exact hk.leaf R0 (.tup hr ha) st h
      · exact hk.tup R0 hp (ha.cut lo hi) st h
  · split at h
    · rename_i ts hts
      obtain ⟨a, us, rfl, t1, d1, o1, s1⟩ := r1.cut R1 hts
      refine sl_list pins s σ' H2 _ v vl vu lo hi sa Q I rx hs pl pu' ⟨a, _, rfl, d1, fun p hp => ?_⟩
      have R3 : Rel X.K B Hs2 H2 σ sl2 (tp ++ cutL us lo hi) := by
        refine R1.tempsS (TA.okl_append.mpr ⟨R0.okT, TA.okl_all.mpr fun t ht => TA.okl_all.mp o1 t ((cutL_sub us lo hi).subset ht)⟩) ?_
        rw [TA.fpl_append, TA.fpl_append]
        exact (List.Sublist.refl _).append s1
      have := hk.lst R3 hp st (by rw [t1]; exact h)
      rw [← cutL_map, cutL_V] at this
      exact this
    · exact h.elim
end
end VL
set_option Elab.async false
set_option linter.all false
set_option maxRecDepth 100000
set_option maxHeartbeats 4000000
/-! VL8: values kept, displays, methods, sound. -/
namespace VL
open PySem PySem.Spec PyProof.Rows L2
theorem tl_set (sl : List TA) (i : Nat) (x : TA) : TA.tl (sl.set i x) = (TA.tl sl).set i x.t := by rw [TA.tl_map, TA.tl_map, List.map_set]
theorem tl_app (a b : List TA) : TA.tl (a ++ b) = TA.tl a ++ TA.tl b := by rw [TA.tl_map, TA.tl_map, TA.tl_map, List.map_append]
theorem tl_len (a : List TA) : (TA.tl a).length = a.length := by rw [TA.tl_map, List.length_map]
theorem tl_putS {sl : List TA} {i : Nat} {t s : TA} {q : List Nat} (h : sl[i]? = some t) : TA.tl (sl.set i (t.put s q)) = putS (TA.tl sl) i q s.t := by
  unfold putS
  rw [tl_set, tl_get, h, TA.put_t]
  rfl
/-- as RR, of a place that may be gone -/
def RR' (r : R) (v : V) (sl nw : List TA) : Prop := match r with
  | .v t => ∃ x, nw = [x] ∧ x.t = t ∧ x.v = v ∧ x.isDead = false
  | .p i q => nw = [] ∧ ∀ t c, sl[i]? = some t → t.at q = some c → c.v = v
theorem RR.weak {r : R} {v : V} {sl nw : List TA} (h : RR r v sl nw) : RR' r v sl nw := by
  cases r with
  | v t => exact h
  | p i q =>
    obtain ⟨e, t, c, h1, h2, h3, h4⟩ := h
    refine ⟨e, fun t' c' g1 g2 => ?_⟩
    rw [h1] at g1
    cases g1
    rw [h2] at g2
    cases g2
    exact h3
theorem TA.put_at {v : V} {y : PyData} : ∀ (q q' : List Nat) (t c c' : TA), t.at q = some c → c.v = v → (t.put (.d v y) q).at q' = some c' → ∃ c'', t.at q' = some c'' ∧ c''.v = c'.v
  | [], [], t, c, c', h, hv, h' => by
    rw [TA.at] at h
    cases h
    rw [TA.put, TA.at] at h'
    cases h'
    exact ⟨t, rfl, hv⟩
  | [], j :: q', t, c, c', h, hv, h' => by
    rw [TA.put, TA.at] at h'
    cases h'
    simp
  | j :: q, [], t, c, c', h, hv, h' => by
    rw [TA.at] at h'
    cases h'
    exact ⟨t, rfl, (TA.put_v (.d v y) (j :: q) t c h hv.symm).symm⟩
  | j :: q, j' :: q', t, c, c', h, hv, h' => by
    cases t with
    | dead => cases h
    | d _ _ => cases h
    | nd k a ts =>
      rw [TA.at] at h
      cases e : ts[j]? with
      | none => rw [e] at h; cases h
      | some b =>
        rw [e] at h
        simp only [TA.put, e] at h'
        rw [TA.at] at h' ⊢
        have hj : j < ts.length := (List.getElem?_eq_some_iff.mp e).1
        by_cases hjj : j' = j
        · subst hjj
          rw [List.getElem?_set_self hj] at h'
          rw [e]
          exact TA.put_at q q' b c c' h hv h'
        · rw [List.getElem?_set_ne (Ne.symm hjj)] at h'
          cases e2 : ts[j']? with
          | none => rw [e2] at h'; cases h'
          | some b2 => rw [e2] at h'; exact ⟨c', h', rfl⟩
section
variable {K : PySem.W.Frag} {B : Bs} {Hs H Hs' H' : Hp} {σ : L2.St} {sl sl' tp nw rest : List TA} {pu : Bool} {r r' : R} {v v' : V}
theorem frz_live {i : Nat} {t c : TA} {q : List Nat} {y : PyData} (h1 : sl[i]? = some t) (h2 : t.at q = some c) (hd : c.isDead = false) : ∀ (j : Nat) u, sl[j]? = some u → u.isDead = false → ∃ u', (sl.set i (t.put (.d c.v y) q))[j]? = some u' ∧ u'.isDead = false := fun j u hu hud => by
  have hi : i < sl.length := (List.getElem?_eq_some_iff.mp h1).1
  by_cases hj : j = i
  · subst hj
    rw [h1] at hu
    cases hu
    refine ⟨_, List.getElem?_set_self hi, ?_⟩
    cases q with
    | nil => rfl
    | cons m q =>
      cases t with
      | dead => cases hud
      | d _ _ => rfl
      | nd k a ts => rw [TA.put]; cases ts[m]? <;> rfl
  · exact ⟨u, by rw [List.getElem?_set_ne (Ne.symm hj)]; exact hu, hud⟩
/-- a result is made a value of one's own -/
theorem toV_ok {Kk : T → St → Prop} (R1 : Rel K B Hs H σ sl (tp ++ (nw ++ rest))) (rr : RR' r v sl nw) (h : toV pu r (TA.tl sl) Kk) :
    ∃ (x : TA) (Hs' : Hp) (sl' : List TA), Rel K B Hs' H σ sl' (tp ++ ([x] ++ rest)) ∧ x.v = v ∧ x.isDead = false ∧ Stp pu H H sl sl' ∧ Kk x.t (TA.tl sl') ∧ ∀ r' v' nw', RR' r' v' sl nw' → RR' r' v' sl' nw' := by
  cases r with
  | v t =>
    obtain ⟨x, e1, e2, e3, e4⟩ := rr
    subst e1
    exact ⟨x, Hs, sl, R1, e3, e4, .refl, by rw [e2]; exact h, fun _ _ _ z => z⟩
  | p i q =>
    obtain ⟨e1, rr⟩ := rr
    subst e1
    obtain ⟨hpu, h⟩ := h
    subst hpu
    split at h
    · rename_i y hy
      unfold R.data R.get at hy
      simp only at hy
      rw [tl_get] at hy
      cases h1 : sl[i]? with
      | none => rw [h1] at hy; cases hy
      | some t =>
        rw [h1] at hy
        simp only [Option.map_some, TA.at_t] at hy
        cases h2 : t.at q with
        | none => rw [h2] at hy; cases hy
        | some c =>
          rw [h2] at hy
          simp only [Option.map_some] at hy
          have hcd : c.isDead = false := by
            cases c with
            | dead => rw [TA.t, T.data] at hy; cases hy
            | d _ _ => rfl
            | nd _ _ _ => rfl
          have hv : c.v = v := rr t c h1 h2
          obtain ⟨R2, dp⟩ := R1.frzP h1 h2 hcd hy
          refine ⟨.d c.v y, frzH Hs H c.fp, sl.set i (t.put (.d c.v y) q), ?_, hv, rfl, ⟨fun z => (by cases z), frz_live h1 h2 hcd⟩, ?_, fun r' v' nw' rr' => ?_⟩
          · refine R2.tempsS ?_ ?_
            · have := TA.okl_append.mp R2.okT
              rw [List.nil_append] at this
              refine TA.okl_append.mpr ⟨this.1, TA.okl_append.mpr ⟨?_, this.2⟩⟩
              rw [TA.okl, TA.ok, TA.okl]
              exact ⟨dp, trivial⟩
            · rw [List.nil_append, TA.fpl_append, TA.fpl_append, TA.fpl_append, fpl_one, TA.fp, List.nil_append]
              exact List.Sublist.refl _
          · rw [tl_putS h1]
            exact h
          · cases r' with
            | v t => exact rr'
            | p i' q' =>
              obtain ⟨z1, z2⟩ := rr'
              refine ⟨z1, fun t' c' g1 g2 => ?_⟩
              by_cases hi : i' = i
              · subst hi
                rw [List.getElem?_set_self (List.getElem?_eq_some_iff.mp h1).1] at g1
                cases g1
                obtain ⟨c'', k1, k2⟩ := TA.put_at q q' t c c' h2 rfl g2
                rw [← k2]
                exact z2 t c'' h1 k1
              · rw [List.getElem?_set_ne (Ne.symm hi)] at g1
                exact z2 t' c' g1 g2
    · exact h.elim
/-- several results -/
inductive RRs' (sl : List TA) : List R → List V → List (List TA) → Prop
  | nil : RRs' sl [] [] []
  | cons {r : R} {v : V} {nw : List TA} {rs : List R} {vs : List V} {nws : List (List TA)} : RR' r v sl nw → RRs' sl rs vs nws → RRs' sl (r :: rs) (v :: vs) (nw :: nws)
theorem RRs.weak : ∀ {rs : List R} {vs : List V} {nws : List (List TA)}, RRs sl rs vs nws → RRs' sl rs vs nws
  | _, _, _, .nil => .nil
  | _, _, _, .cons a b => .cons a.weak b.weak
theorem RRs'.map (f : ∀ r v nw, RR' r v sl nw → RR' r v sl' nw) : ∀ {rs : List R} {vs : List V} {nws : List (List TA)}, RRs' sl rs vs nws → RRs' sl' rs vs nws
  | _, _, _, .nil => .nil
  | _, _, _, .cons a b => .cons (f _ _ _ a) (RRs'.map f b)
theorem toVs_ok {rs : List R} : ∀ {vs : List V} {nws : List (List TA)} {Hs : Hp} {sl tp : List TA} {Kk : List T → St → Prop}, Rel K B Hs H σ sl (tp ++ nws.flatten) → RRs' sl rs vs nws → toVs pu rs (TA.tl sl) Kk →
    ∃ (xs : List TA) (Hs' : Hp) (sl' : List TA), Rel K B Hs' H σ sl' (tp ++ xs) ∧ xs.map TA.v = vs ∧ Stp pu H H sl sl' ∧ Kk (TA.tl xs) (TA.tl sl') := by
  induction rs with
  | nil =>
    intro vs nws Hs sl tp Kk R1 rr h
    cases rr
    exact ⟨[], Hs, sl, R1, rfl, .refl, h⟩
  | cons r rs ih =>
    intro vs nws Hs sl tp Kk R1 rr h
    cases rr with
    | @cons _ v nw _ vs nws a b =>
      rw [List.flatten_cons] at R1
      rw [toVs] at h
      obtain ⟨x, Hs1, sl1, R2, e1, e2, st1, h1, f⟩ := toV_ok R1 a h
      have R3 : Rel K B Hs1 H σ sl1 ((tp ++ [x]) ++ nws.flatten) := by rw [List.append_assoc]; exact R2
      obtain ⟨xs, Hs2, sl2, R4, e3, st2, h2⟩ := ih R3 (b.map f) h1
      refine ⟨x :: xs, Hs2, sl2, ?_, by rw [List.map_cons, e1, e3], st1.trans st2 id, h2⟩
      rw [List.append_assoc] at R4
      exact R4
/-- a list at a place -/
theorem atList_ok {Kk : List T → (List T → St) → Prop} (rr : RR' r v sl nw) (h : atList r (TA.tl sl) Kk) : ∃ i q t a us, r = .p i q ∧ nw = [] ∧ sl[i]? = some t ∧ t.at q = some (.nd .list a us) ∧ v = .ref a ∧ Kk (TA.tl us) fun us' => putS (TA.tl sl) i q (.nd .list us') := by
  unfold atList at h
  cases r with
  | v t => exact h.elim
  | p i q =>
    simp only at h
    split at h
    · rename_i ts hts
      unfold R.get at hts
      simp only at hts
      rw [tl_get] at hts
      cases h1 : sl[i]? with
      | none => rw [h1] at hts; cases hts
      | some t =>
        rw [h1] at hts
        simp only [Option.map_some, TA.at_t] at hts
        cases h2 : t.at q with
        | none => rw [h2] at hts; cases hts
        | some c =>
          rw [h2] at hts
          obtain ⟨a, us, rfl, e⟩ := ta_nd (Option.some.inj hts)
          refine ⟨i, q, t, a, us, rfl, rr.1, h1, h2, (rr.2 t _ h1 h2).symm, ?_⟩
          rw [e]
          exact h
    · exact h.elim
/-- a list at a place is changed -/
theorem Rel.chg {i : Nat} {q : List Nat} {t : TA} {a : Addr} {us us' xs : List TA} (R1 : Rel K B Hs H σ sl (tp ++ xs)) (h1 : sl[i]? = some t) (h2 : t.at q = some (.nd .list a us)) (ok : TA.okl K Hs H us') (sub : ∀ b ∈ TA.fpl us', b ∈ TA.fpl us ∨ b ∈ TA.fpl xs) (uq : (TA.fpl us').Nodup)
    (hn : TA.noTupl us' = true) : Rel K B Hs (upd H a (.lst (us'.map TA.v))) σ (sl.set i (t.put (.nd .list a us') q)) tp ∧ TA.tl (sl.set i (t.put (.nd .list a us') q)) = putS (TA.tl sl) i q (.nd .list (TA.tl us')) := by
  have okc := TA.at_ok q t _ h2 (R1.slot_ok h1)
  rw [TA.ok] at okc
  have hanot : a ∉ TA.fpl us' := fun z => by
    have hu := R1.uq
    obtain ⟨l1, l2, e1, e2⟩ := Rel.lens (tp := tp ++ xs) h1 h2
    rw [e1] at hu
    have nm := nodup_mid hu
    rw [TA.fp, List.nodup_cons] at nm
    rcases sub a z with y | y
    · exact nm.2.1.1 y
    · have u3 := R1.uq
      rw [TA.fpl_append, TA.fpl_append, ← List.append_assoc, List.nodup_append] at u3
      refine u3.2.2 a ?_ a y rfl
      obtain ⟨g1, g2, ge, _⟩ := TA.lens q t _ h2
      exact List.mem_append_left _ (fpl_mem (List.mem_of_getElem? h1) (by rw [ge, TA.fp]; simp))
  refine ⟨R1.put h1 h2 rfl (fun e _ => by subst e; rw [TA.at] at h2; cases h2; exact R1.val i (.nd .list a us) h1 rfl) ?_ ?_ ?_ ?_ ?_, ?_⟩
  · simp only [TA.noTup, Kd.isTup, Bool.not_false, Bool.true_and]; exact hn
  · intro b hb
    exact upd_ne fun z => hb (by rw [z, TA.fp]; exact List.mem_cons_self)
  · rw [TA.ok]
    refine ⟨show upd H a (.lst (us'.map TA.v)) a = some (.lst (us'.map TA.v)) from upd_same, TA.okl_mono (Same.refl _) _ ok fun b hb => upd_ne fun z => hanot (z ▸ hb)⟩
  · rw [TA.fp]
    exact List.nodup_cons.mpr ⟨hanot, uq⟩
  · intro b hb
    rw [TA.fp] at hb
    rcases List.mem_cons.mp hb with rfl | hb
    · exact .inl (by rw [TA.fp]; exact List.mem_cons_self)
    · rcases sub b hb with z | z
      · exact .inl (by rw [TA.fp]; exact List.mem_cons_of_mem _ z)
      · exact .inr z
  · rw [tl_putS h1, TA.t]
theorem chg_live {i : Nat} {t s : TA} {q : List Nat} {c : TA} (h1 : sl[i]? = some t) (h2 : t.at q = some c) (hd : s.isDead = false) : ∀ (j : Nat) u, sl[j]? = some u → u.isDead = false → ∃ u', (sl.set i (t.put s q))[j]? = some u' ∧ u'.isDead = false := fun j u hu hud => by
  have hi : i < sl.length := (List.getElem?_eq_some_iff.mp h1).1
  by_cases hj : j = i
  · subst hj
    rw [h1] at hu
    cases hu
    refine ⟨_, List.getElem?_set_self hi, ?_⟩
    cases q with
    | nil => exact hd
    | cons m q =>
      cases t with
      | dead => cases hud
      | d _ _ => rfl
      | nd k a ts => rw [TA.put]; cases ts[m]? <;> rfl
  · exact ⟨u, by rw [List.getElem?_set_ne (Ne.symm hj)]; exact hu, hud⟩
end
end VL
set_option Elab.async false
set_option linter.all false
set_option maxRecDepth 100000
set_option maxHeartbeats 4000000
/-! VL9: built-in functions, sound. -/
namespace VL
open PySem PySem.Spec PyProof.Rows L2
theorem intsOf_v {K : PySem.W.Frag} {H : Hp} : ∀ {vs : List V} {xs : List PyData} {ns : List Int}, RpAll K H vs xs → intsOf xs = some ns → vs = ns.map V.int
  | _, _, ns, .nil, h => by rw [intsOf] at h; cases h; rfl
  | _, _, ns, .cons (d := d) a b, h => by
    cases d with
    | int i =>
      rw [intsOf] at h
      split at h
      · rename_i ms e
        cases h
        rw [intsOf_v b e, a.int_v]
        rfl
      · cases h
    | _ => simp [intsOf] at h
theorem boolsOf_v {K : PySem.W.Frag} {H : Hp} : ∀ {vs : List V} {xs : List PyData} {ns : List Bool}, RpAll K H vs xs → boolsOf xs = some ns → vs = ns.map V.bl
  | _, _, ns, .nil, h => by rw [boolsOf] at h; cases h; rfl
  | _, _, ns, .cons (d := d) a b, h => by
    cases d with
    | bool i =>
      rw [boolsOf] at h
      split at h
      · rename_i ms e
        cases h
        rw [boolsOf_v b e, a.bool_v]
        rfl
      · cases h
    | _ => simp [boolsOf] at h
theorem maxL_spec : ∀ ns : List Int, ns ≠ [] → maxL ns ∈ ns ∧ ∀ y ∈ ns, y ≤ maxL ns
  | [], h => absurd rfl h
  | [x], _ => ⟨by simp [maxL], by simp [maxL]⟩
  | x :: y :: r, _ => by
    obtain ⟨h1, h2⟩ := maxL_spec (y :: r) (by simp)
    rw [maxL]
    refine ⟨?_, fun z hz => ?_⟩
    · rcases Int.le_total x (maxL (y :: r)) with h | h
      · rw [Int.max_eq_right h]; exact List.mem_cons_of_mem _ h1
      · rw [Int.max_eq_left h]; exact List.mem_cons_self
    · rcases List.mem_cons.mp hz with rfl | hz
      · exact Int.le_max_left _ _
      · exact Int.le_trans (h2 z hz) (Int.le_max_right _ _)
theorem minL_spec : ∀ ns : List Int, ns ≠ [] → minL ns ∈ ns ∧ ∀ y ∈ ns, minL ns ≤ y
  | [], h => absurd rfl h
  | [x], _ => ⟨by simp [minL], by simp [minL]⟩
  | x :: y :: r, _ => by
    obtain ⟨h1, h2⟩ := minL_spec (y :: r) (by simp)
    rw [minL]
    refine ⟨?_, fun z hz => ?_⟩
    · rcases Int.le_total x (minL (y :: r)) with h | h
      · rw [Int.min_eq_left h]; exact List.mem_cons_self
      · rw [Int.min_eq_right h]; exact List.mem_cons_of_mem _ h1
    · rcases List.mem_cons.mp hz with rfl | hz
      · exact Int.min_le_left _ _
      · exact Int.le_trans (Int.min_le_right _ _) (h2 z hz)
theorem sortI_perm (ns : List Int) : (sortI ns).Perm ns := List.mergeSort_perm _ _
theorem sortI_sorted (ns : List Int) : (sortI ns).Pairwise (· ≤ ·) := by
  have := List.pairwise_mergeSort (le := fun a b : Int => decide (a ≤ b)) (fun a b c h1 h2 => by simp at *; omega) (fun a b => by simp; omega) ns
  exact this.imp fun h => by simpa using h
theorem sortI_unique {ns ms : List Int} (h : ms.Perm ns) (hs : ms.Pairwise (· ≤ ·)) : ms = sortI ns := PySem.W.ksm_same (h.trans (sortI_perm ns).symm) hs (sortI_sorted ns)
theorem intLeafs {K : PySem.W.Frag} {Hs : Hp} : ∀ ns : List Int, RpAll K Hs (ns.map V.int) (ns.map PyData.int)
  | [] => .nil
  | n :: ns => .cons (.int n) (intLeafs ns)
section
variable {X : Cx} {pins : List (Addr × Obj)} {s : Shared} {σ : L2.St} {H H2 Hs2 : Hp} {B : Bs} {sl sl2 tp nw nw1 nw2 as : List TA} {P : R → St → Prop} {Q : VK} {pu : Bool} {ra rb : R} {x y : V} {v u : Value}
/-- a call by values -/
def CaW (X : Cx) (w : List R → St → (R → St → Prop) → Prop) : List V → Hp → VK → Prop := fun xs H2 Q => ∃ σ B Hs2 sl2 tp nws rs P H sl pu, Rel X.K B Hs2 H2 σ sl2 (tp ++ nws.flatten) ∧ RRs sl2 rs xs nws ∧ Stp pu H H2 sl sl2 ∧ w rs (TA.tl sl2) P ∧ Cont X B σ tp pu H sl P Q
theorem RRs.one {sl : List TA} {r : R} {xs : List V} {nws : List (List TA)} (h : RRs sl [r] xs nws) : ∃ x nw, xs = [x] ∧ nws = [nw] ∧ RR r x sl nw := by
  cases h with
  | cons a b =>
    cases b
    exact ⟨_, _, rfl, rfl, a⟩
theorem RRs.two {sl : List TA} {r r' : R} {xs : List V} {nws : List (List TA)} (h : RRs sl [r, r'] xs nws) : ∃ x y nw nw', xs = [x, y] ∧ nws = [nw, nw'] ∧ RR r x sl nw ∧ RR r' y sl nw' := by
  cases h with
  | cons a b =>
    cases b with
    | cons c d =>
      cases d
      exact ⟨_, _, _, _, rfl, rfl, a, c⟩
/-- the data of several results -/
theorem datas_ok {K : PySem.W.Frag} {Hs : Hp} : ∀ {rs : List R} {vs : List V} {nws : List (List TA)} {xs : List PyData} {tp : List TA}, Rel K B Hs H σ sl (tp ++ nws.flatten) → RRs sl rs vs nws → R.datas (TA.tl sl) rs = some xs → RpAll K H vs xs := by
  intro rs
  induction rs with
  | nil =>
    intro vs nws xs tp R1 rr h
    cases rr
    rw [R.datas] at h
    cases h
    exact .nil
  | cons r rs ih =>
    intro vs nws xs tp R1 rr h
    cases rr with
    | @cons _ v nw _ vs nws a b =>
      rw [R.datas] at h
      split at h
      · rename_i x ys e1 e2
        cases h
        rw [List.flatten_cons] at R1
        have R2 : Rel K B Hs H σ sl ((tp ++ nw) ++ nws.flatten) := by rw [List.append_assoc]; exact R1
        exact .cons (a.dp R2.drop e1) (ih R2 b e2)
      · cases h
theorem RpAll.one_v {K : PySem.W.Frag} {H : Hp} {vs : List V} {x : PyData} (h : RpAll K H vs [x]) : ∃ v, vs = [v] ∧ Rp K H v x := by
  cases h with
  | cons a b => cases b; exact ⟨_, rfl, a⟩
theorem RpAll.two_v {K : PySem.W.Frag} {H : Hp} {vs : List V} {x y : PyData} (h : RpAll K H vs [x, y]) : ∃ v w, vs = [v, w] ∧ Rp K H v x ∧ Rp K H w y := by
  cases h with
  | cons a b => cases b with | cons c d => cases d; exact ⟨_, _, rfl, a, c⟩
def bltV : Blt → Value
  | .len => .builtin "len"
  | .max => .builtin "max"
  | .min => .builtin "min"
  | .sum => .builtin "sum"
  | .abs => .builtin "abs"
  | .int => .type "int"
  | .str => .type "str"
  | .tuple => .type "tuple"
  | .list => .type "list"
  | .sorted => .builtin "sorted"
  | .all => .builtin "all"
  | .any => .builtin "any"
  | .listRange => .none
theorem call_bltD {b : Blt} {xs : List PyData} {vs : List V} {us : List Value} {Kk : T → Prop} (hc : X.calm = true) (hb : b ≠ .listRange) (I : Inv X pins σ H s) (rv : Vals vs us) (dp : RpAll X.K H vs xs) (h : bltD b xs Kk) (q1 : ∀ v d, Kk (.d d) → (∀ Hs, Rp X.K Hs v d) → Q v H)
    (q2 : ∀ (ns : List Int) p, H p = none → Kk (.nd .list (ns.map fun i => .d (.int i))) → Q (.ref p) (upd H p (.lst (ns.map V.int)))) : wpAny (model X.prog X.w) X.A (call (bltV b) us) (EP X pins σ Q) X.xe s := by
  have int1 : ∀ {i : Int}, Kk (.d (.int i)) → Q (.int i) H := fun k => q1 _ _ k fun _ => .int _
  unfold bltD at h
  split at h
  -- max of a list
  · obtain ⟨w, rfl, d1⟩ := dp.one_v
    cases d1 with
    | lst hr ha =>
      split at h
      · rename_i ns e
        obtain ⟨hne, h⟩ := h
        have := intsOf_v ha e
        subst this
        refine cr_max hc pins s σ H _ us Q I rv ⟨_, ns, rfl, hr, by cases ns with | nil => exact absurd rfl hne | cons _ _ => simp, fun m hm hle => ?_⟩
        obtain ⟨g1, g2⟩ := maxL_spec ns hne
        have : m = maxL ns := Int.le_antisymm (g2 m hm) (hle _ g1)
        rw [this]
        exact int1 h
      · exact h.elim
  · obtain ⟨w, w', rfl, d1, d2⟩ := dp.two_v
    rename_i i j
    have e1 := d1.int_v
    have e2 := d2.int_v
    subst e1 e2
    refine call_max2 hc pins s σ H _ us Q I rv ⟨i, j, rfl, ?_⟩
    have : (if j > i then j else i) = max i j := by
      rw [Int.max_def]
      split <;> split <;> omega
    rw [this]
    exact int1 h
  · obtain ⟨w, rfl, d1⟩ := dp.one_v
    cases d1 with
    | lst hr ha =>
      split at h
      · rename_i ns e
        obtain ⟨hne, h⟩ := h
        have := intsOf_v ha e
        subst this
        refine cr_min hc pins s σ H _ us Q I rv ⟨_, ns, rfl, hr, by cases ns with | nil => exact absurd rfl hne | cons _ _ => simp, fun m hm hle => ?_⟩
        obtain ⟨g1, g2⟩ := minL_spec ns hne
        have : m = minL ns := Int.le_antisymm (hle _ g1) (g2 m hm)
        rw [this]
        exact int1 h
      · exact h.elim
  · obtain ⟨w, w', rfl, d1, d2⟩ := dp.two_v
    rename_i i j
    have e1 := d1.int_v
    have e2 := d2.int_v
    subst e1 e2
    refine call_min2 hc pins s σ H _ us Q I rv ⟨i, j, rfl, ?_⟩
    have : (if j < i then j else i) = min i j := by
      rw [Int.min_def]
      split <;> split <;> omega
    rw [this]
    exact int1 h
  · obtain ⟨w, rfl, d1⟩ := dp.one_v
    cases d1 with
    | lst hr ha =>
      split at h
      · rename_i ns e
        have := intsOf_v ha e
        subst this
        exact cr_sum hc pins s σ H _ us Q I rv ⟨_, ns, rfl, hr, int1 h⟩
      · exact h.elim
  · obtain ⟨w, rfl, d1⟩ := dp.one_v
    cases d1 with
    | lst hr ha =>
      split at h
      · rename_i bs e
        have := boolsOf_v ha e
        subst this
        exact cr_all hc pins s σ H _ us Q I rv ⟨_, bs, rfl, hr, q1 _ _ h fun _ => .bl _⟩
      · exact h.elim
  · obtain ⟨w, rfl, d1⟩ := dp.one_v
    cases d1 with
    | lst hr ha =>
      split at h
      · rename_i bs e
        have := boolsOf_v ha e
        subst this
        exact cr_any hc pins s σ H _ us Q I rv ⟨_, bs, rfl, hr, q1 _ _ h fun _ => .bl _⟩
      · exact h.elim
  · obtain ⟨w, rfl, d1⟩ := dp.one_v
    cases d1 with
    | lst hr ha =>
      split at h
      · rename_i ns e
        have := intsOf_v ha e
        subst this
        refine cr_sortedI pins s σ H _ us Q I rv ⟨_, ns, rfl, hr, fun ms p hp hs hn => ?_⟩
        rw [sortI_unique hp hs]
        exact q2 _ p hn h
      · exact h.elim
  · obtain ⟨w, rfl, d1⟩ := dp.one_v
    have e1 := d1.int_v
    subst e1
    exact call_abs pins s σ H _ us Q I rv ⟨_, rfl, int1 h⟩
  · obtain ⟨w, rfl, d1⟩ := dp.one_v
    have e1 := d1.int_v
    subst e1
    exact call_int1 pins s σ H _ us Q I rv (.inl ⟨_, rfl, int1 h⟩)
  · obtain ⟨w, rfl, d1⟩ := dp.one_v
    have e1 := d1.bool_v
    subst e1
    exact call_int1 pins s σ H _ us Q I rv (.inr ⟨_, rfl, int1 h⟩)
  · obtain ⟨w, rfl, d1⟩ := dp.one_v
    have e1 := d1.int_v
    subst e1
    exact call_str_int pins s σ H _ us Q I rv ⟨_, rfl, h.1, q1 _ _ h.2 fun _ => .str _⟩
  · exact absurd rfl hb
  · obtain ⟨w, rfl, d1⟩ := dp.one_v
    have e1 := d1.str_v
    subst e1
    exact call_len_str pins s σ H _ us Q I rv ⟨_, rfl, h.1, int1 h.2⟩
  · obtain ⟨w, rfl, d1⟩ := dp.one_v
    cases d1 with
    | lst hr ha => exact call_len_seq pins s σ H _ us Q I rv ⟨_, _, rfl, .inl hr, by rw [ha.length]; exact int1 h⟩
  · obtain ⟨w, rfl, d1⟩ := dp.one_v
    cases d1 with
    | tup hr ha => exact call_len_seq pins s σ H _ us Q I rv ⟨_, _, rfl, .inr hr, by rw [ha.length]; exact int1 h⟩
  · exact h.elim
theorem call_bltW {b : Blt} (hc : X.calm = true) (hb : b ≠ .listRange) : CallR X (bltV b) (CaW X (bltW b)) := by
  intro pins s σ' H2 xs us Q I rv h
  obtain ⟨σ, B, Hs2, sl2, tp, nws, rs, P, H, sl, pu, R1, rr, st, h, hk⟩ := h
  have R0 : Rel X.K B Hs2 H2 σ sl2 tp := R1.drop
  have gen : ∀ ds, R.datas (TA.tl sl2) rs = some ds → bltD b ds (fun t => P (.v t) (TA.tl sl2)) → wpAny (model X.prog X.w) X.A (call (bltV b) us) (EP X pins σ' Q) X.xe s := fun ds hd h => by
    refine call_bltD hc hb I rv (datas_ok R1 rr hd) h (fun v d k dp => hk.leaf R0 (dp _) st k) fun ns p hp k => ?_
    obtain ⟨g1, g2, g3, g4⟩ := leafs_ok (H := H2) (intLeafs (K := X.K) (Hs := Hs2) ns)
    have := hk.lst (R0.leaves g1 g2) hp st (by rw [g3, List.map_map]; exact k)
    rw [g4] at this
    exact this
  have single : ∀ r, rs = [r] → ∃ x nw, xs = [x] ∧ RR r x sl2 nw ∧ Rel X.K B Hs2 H2 σ sl2 (tp ++ nw) := fun r e => by
    subst e
    obtain ⟨x, nw, rfl, rfl, rr1⟩ := rr.one
    exact ⟨x, nw, rfl, rr1, by simpa using R1⟩
  cases b with
  | list =>
    simp only [bltW] at h
    split at h
    · rename_i r
      obtain ⟨x, nw, rfl, r1, R2⟩ := single r rfl
      split at h
      · rename_i ds e
        have d1 := (r1.dpT R2 e).1
        cases d1 with
        | tup hr ha =>
          refine call_list_of pins s σ' H2 _ us Q I rv ⟨_, _, rfl, .inr (SqT.mono R2.sub hr), fun l hl => ?_⟩
          obtain ⟨g1, g2, g3, g4⟩ := leafs_ok (H := H2) ha
          have := hk.lst (R0.leaves g1 g2) hl st (by rw [g3]; exact h)
          rw [g4] at this
          exact this
      · split at h
        · rename_i ts hts
          obtain ⟨a, us', rfl, t1, d1, o1, s1⟩ := r1.kids R2 hts
          refine call_list_of pins s σ' H2 _ us Q I rv ⟨_, _, rfl, .inl (d1), fun l hl => ?_⟩
          have R3 : Rel X.K B Hs2 H2 σ sl2 (tp ++ us') := by
            refine R2.tempsS (TA.okl_append.mpr ⟨R0.okT, o1⟩) ?_
            rw [TA.fpl_append, TA.fpl_append]
            exact (List.Sublist.refl _).append s1
          exact hk.lst R3 hl st (by rw [t1]; exact h)
        · exact h.elim
    · exact h.elim
  | tuple =>
    simp only [bltW] at h
    split at h
    · rename_i r
      obtain ⟨x, nw, rfl, r1, R2⟩ := single r rfl
      split at h
      · rename_i ds e
        have d1 := (r1.dpT R2 e).1
        cases d1 with
        | tup hr ha => exact call_tuple_of pins s σ' H2 _ us Q I rv ⟨_, _, rfl, .inr ⟨SqT.mono R2.sub hr, hk.leaf R0 (.tup hr ha) st h⟩⟩
      · rename_i ds e
        have d1 := (r1.dpT R2 e).1
        cases d1 with
        | lst hr ha => exact call_tuple_of pins s σ' H2 _ us Q I rv ⟨_, _, rfl, .inl ⟨SqL.mono R2.sub hr, fun l hl => hk.tup R0 hl ha st h⟩⟩
      · rename_i ts e
        split at h
        · rename_i ds hl
          obtain ⟨a, us', rfl, e3, e4, e5, _, _⟩ := r1.node R2 e
          rw [← e3] at hl
          obtain ⟨f1, f2, f3⟩ := leaves_of hl
          exact call_tuple_of pins s σ' H2 _ us Q I rv ⟨_, _, rfl, .inl ⟨SqL.of e4, fun l hl => hk.tup R0 hl (f3 e5) st h⟩⟩
        · exact h.elim
      · exact h.elim
    · exact h.elim
  | len =>
    simp only [bltW] at h
    split at h
    · rename_i r
      obtain ⟨x, nw, rfl, r1, R2⟩ := single r rfl
      split at h
      · rename_i ts e
        obtain ⟨a, us', rfl, e3, e4, e5, _, _⟩ := r1.node R2 e
        refine call_len_seq pins s σ' H2 _ us Q I rv ⟨_, _, rfl, .inl (SqL.of e4), ?_⟩
        have : (us'.map TA.v).length = ts.length := by rw [← e3, tl_len, List.length_map]
        rw [this]
        exact hk.leaf R0 (.int _) st h
      · rename_i d e
        exact gen [d] (by simp [R.datas, R.data, e, T.data]) h
      · exact h.elim
    · exact h.elim
  | listRange => exact absurd rfl hb
  | _ =>
    simp only [bltW] at h
    split at h
    · rename_i ds hd
      exact gen ds hd h
    · exact h.elim
/-- isinstance -/
theorem tyName_of {K : PySem.W.Frag} {Hs : Hp} {c : TA} {n : String} (sub : Same Hs H) (ok : c.ok K Hs H) (h : tyName c.t = some n) : TyX K H c.v (.type n) := by
  cases c with
  | dead => simp [TA.t, tyName] at h
  | d w z =>
    rw [TA.ok] at ok
    rw [TA.t] at h
    cases ok.mono sub with
    | non => simp only [tyName, Option.some.injEq] at h; subst h; exact .base .non
    | bl k => simp only [tyName, Option.some.injEq] at h; subst h; exact .base (.bl k)
    | int i => simp only [tyName, Option.some.injEq] at h; subst h; exact .base (.int i)
    | str z => simp only [tyName, Option.some.injEq] at h; subst h; exact .base (.str z)
    | lst hr ha =>
      simp only [tyName, Option.some.injEq] at h
      subst h
      rcases hr with (hr | ⟨o, hr⟩) | ⟨o, its, n, hk, hc, _⟩
      · exact .base (.lst hr)
      · exact .base (.frz hr)
      · exact .kList hk hc
    | tup hr ha =>
      simp only [tyName, Option.some.injEq] at h
      subst h
      rcases hr with (hr | ⟨o, hr⟩) | ⟨o, its, m, hk, hc, _⟩
      · exact .base (.tup hr)
      · exact .fTuple hr
      · exact .kTuple hk hc
    | dct l hr ha =>
      simp only [tyName, Option.some.injEq] at h
      subst h
      rcases hr with hr | ⟨o, hr⟩
      · exact .base (.dK hr)
      · exact .fDict hr
  | nd k a ts =>
    rw [TA.ok] at ok
    rw [TA.t] at h
    cases k with
    | list => simp only [tyName, Option.some.injEq] at h; subst h; exact .base (.lst ok.1)
    | tup => simp only [tyName, Option.some.injEq] at h; subst h; exact .base (.tup ok.1)
    | dict ks => simp only [tyName, Option.some.injEq] at h; subst h; exact .base (.dK ok.1.2)
    | inst C ns => simp [tyName] at h
end
end VL
set_option Elab.async false
set_option linter.all false
set_option maxRecDepth 100000
set_option maxHeartbeats 4000000
/-! VL10: a def's promise over trees; a call. -/
namespace VL
open PySem PySem.Spec PyProof.Rows L2
/-- the promise of a def: its arguments as trees, its result, the arguments behind it -/
def spV (K : PySem.W.Frag) (md : List Md) (F : List T → (T → List T → Prop) → Prop) : Sp := fun vs H Q _ => ∃ Hs as P, vs.length = md.length ∧ Rel K ⟨⟨H, Hs, TA.fpl as, []⟩, []⟩ Hs H (vs.map some) as [] ∧ as.map TA.v = vs ∧ (∀ t ∈ as, t.isDead = false) ∧ (∀ (i : Nat) (t : TA), md[i]? = some Md.bor → as[i]? = some t → ∃ v x, t = TA.d v x) ∧ F (TA.tl as) P ∧
  ∀ H' Hs' as' r, Rel K ⟨⟨H, Hs, TA.fpl as, []⟩, []⟩ Hs' H' (vs.map some) as' [r] → as'.map TA.v = vs → (∀ (i : Nat) (t : TA), md[i]? = some Md.own → as'[i]? = some t → t.isDead = false) → r.isDead = false → P r.t (TA.tl as') → Q r.v H'
section
variable {K : PySem.W.Frag} {B : Bs} {Hs H Hs' H' : Hp} {σ : L2.St} {sl sl' tp tp' cs as as' : List TA} {t c x r : TA} {i : Nat} {q : List Nat}
theorem Rel.perm (R : Rel K B Hs H σ sl tp) (h : tp.Perm tp') : Rel K B Hs H σ sl tp' := by
  have hp : (TA.fpl tp).Perm (TA.fpl tp') := by rw [TA.fpl_flat, TA.fpl_flat]; exact h.flatMap_right _
  exact R.temps (TA.okl_all.mpr fun u hu => TA.okl_all.mp R.okT u (h.mem_iff.mpr hu)) (fun a ha => hp.mem_iff.mpr ha) (hp.nodup_iff.mp R.uqT)
/-- the object at a place is taken out -/
theorem Rel.out1 (R : Rel K B Hs H σ sl tp) (h : sl[i]? = some t) (hc : t.at q = some c) : Rel K B Hs H σ (sl.set i (t.put (.dead c.v) q)) (tp ++ [c]) := by
  obtain ⟨l1, l2, e1, e2⟩ := Rel.lens (tp := tp) h hc
  have e3 : TA.fpl (sl.set i (t.put (.dead c.v) q) ++ (tp ++ [c])) = l1 ++ l2 ++ c.fp := by
    rw [← List.append_assoc, TA.fpl_append, e2, TA.fp, List.append_nil, fpl_one]
  have pm : (TA.fpl (sl.set i (t.put (.dead c.v) q) ++ (tp ++ [c]))).Perm (TA.fpl (sl ++ tp)) := by
    rw [e3, e1, List.append_assoc, List.append_assoc]
    exact List.Perm.append_left _ List.perm_append_comm
  obtain ⟨pv1, pv2⟩ := R.put_val (s := .dead c.v) h hc rfl (fun _ z => by cases z)
  have okc : c.ok K Hs H := TA.at_ok q t c hc (R.slot_ok h)
  refine ⟨by rw [List.length_set]; exact R.len, pv1, TA.okl_append.mpr ⟨TA.okl_all.mpr fun u hu => ?_, TA.okl_append.mpr ⟨R.okT, ?_⟩⟩, pm.nodup_iff.mpr R.uq, fun a ha => R.out a (pm.mem_iff.mp ha), R.sub, R.keep, fun a ha => R.fresh a (pm.mem_iff.mp ha), R.hs, R.hsNew, fun u hu => ?_, pv2⟩
  · rcases mem_set_or hu with rfl | hu
    · exact TA.put_ok (Same.refl _) (.dead c.v) (by rw [TA.ok]; trivial) q t c hc rfl (R.slot_ok h) (R.slot_uq h) fun _ _ _ => rfl
    · exact TA.okl_all.mp R.okS u hu
  · rw [TA.okl, TA.okl]; exact ⟨okc, trivial⟩
  · rcases mem_set_or hu with rfl | hu
    · exact TA.put_noTup _ rfl q t (R.ntup t (List.mem_of_getElem? h))
    · exact R.ntup u hu
/-- .. and put back -/
theorem Rel.in1 (R : Rel K B Hs H σ sl (tp ++ [x])) (h : sl[i]? = some t) (hc : t.at q = some c) (hcv : x.v = c.v) (hn : x.noTup = true) (hσ : q = [] → x.isDead = false → σ[i]? = some (some x.v)) : Rel K B Hs H σ (sl.set i (t.put x q)) tp := by
  have okx := R.okT
  rw [TA.okl_append, TA.okl] at okx
  have uqx := R.uqT
  rw [TA.fpl_append, fpl_one, List.nodup_append] at uqx
  exact R.put h hc hcv hσ hn (fun _ _ => rfl) okx.2.1 uqx.2.1 (fun a ha => .inr (by rw [fpl_one]; exact ha))
/-- the shared heap without what was lent -/
def unfrz (Hs : Hp) (A : List Addr) : Hp := fun a => if a ∈ A then none else Hs a
mutual
theorem Rp.unlend {A : List Addr} (hA : ∀ a ∈ A, ∀ vs o, Hs a ≠ some (.tup vs) ∧ Hs a ≠ some (.frz o (.tup vs))) : ∀ {v : V} {d : PyData}, Rp K Hs v d → immD d = true → Rp K (unfrz Hs A) v d
  | _, _, .non, _ => .non
  | _, _, .bl b, _ => .bl b
  | _, _, .int b, _ => .int b
  | _, _, .str b, _ => .str b
  | _, _, .lst _ _, h => by simp [immD] at h
  | _, _, .dct _ _ _, h => by simp [immD] at h
  | _, _, .tup (a := a) (xs := xs) hs ha, h => by
    refine .tup ?_ (RpAll.unlend hA ha (by simpa [immD] using h))
    rcases hs with (hs | ⟨o, hs⟩) | hs
    · refine .inl (.inl ?_)
      unfold unfrz
      rw [if_neg fun z => (hA a z xs default).1 hs]
      exact hs
    · refine .inl (.inr ⟨o, ?_⟩)
      unfold unfrz
      rw [if_neg fun z => (hA a z xs o).2 hs]
      exact hs
    · exact .inr hs
theorem RpAll.unlend {A : List Addr} (hA : ∀ a ∈ A, ∀ vs o, Hs a ≠ some (.tup vs) ∧ Hs a ≠ some (.frz o (.tup vs))) : ∀ {vs : List V} {ds : List PyData}, RpAll K Hs vs ds → immDl ds = true → RpAll K (unfrz Hs A) vs ds
  | _, _, .nil, _ => .nil
  | _, _, .cons a b, h => by
    simp only [immDl, Bool.and_eq_true] at h
    exact .cons (Rp.unlend hA a h.1) (RpAll.unlend hA b h.2)
end
mutual
theorem TA.unlend {A : List Addr} (hA : ∀ a ∈ A, ∀ vs o, Hs a ≠ some (.tup vs) ∧ Hs a ≠ some (.frz o (.tup vs))) : ∀ t : TA, t.ok K Hs H → t.t.flat = true → t.ok K (unfrz Hs A) H
  | .dead _, _, _ => by rw [TA.ok]; trivial
  | .d v x, h, f => by
    rw [TA.ok] at h ⊢
    rw [TA.t, T.flat] at f
    exact h.unlend hA f
  | .nd k a ts, h, f => by
    rw [TA.ok] at h ⊢
    rw [TA.t, T.flat] at f
    exact ⟨h.1, TA.unlendl hA ts h.2 f⟩
theorem TA.unlendl {A : List Addr} (hA : ∀ a ∈ A, ∀ vs o, Hs a ≠ some (.tup vs) ∧ Hs a ≠ some (.frz o (.tup vs))) : ∀ ts : List TA, TA.okl K Hs H ts → T.flatl (TA.tl ts) = true → TA.okl K (unfrz Hs A) H ts
  | [], _, _ => by rw [TA.okl]; trivial
  | t :: r, h, f => by
    rw [TA.okl] at h ⊢
    rw [TA.tl, T.flatl, Bool.and_eq_true] at f
    exact ⟨TA.unlend hA t h.1 f.1, TA.unlendl hA r h.2 f.2⟩
end
theorem unfrz_nil : unfrz Hs [] = Hs := by funext a; unfold unfrz; rw [if_neg (by simp)]
mutual
theorem TA.fp_kind : ∀ t : TA, t.ok K Hs H → t.noTup = true → ∀ a ∈ t.fp, ∀ vs o, H a ≠ some (.tup vs) ∧ H a ≠ some (.frz o (.tup vs))
  | .dead _, _, _, a, h => by simp [TA.fp] at h
  | .d _ _, _, _, a, h => by simp [TA.fp] at h
  | .nd k b ts, ok, nt, a, h => by
    rw [TA.ok] at ok
    rw [TA.noTup, Bool.and_eq_true] at nt
    rw [TA.fp] at h
    rcases List.mem_cons.mp h with rfl | h
    · intro vs o
      cases k with
      | list => rw [show H a = _ from ok.1]; exact ⟨(by intro z; cases z), (by intro z; cases z)⟩
      | tup => simp [Kd.isTup] at nt
      | dict ks => rw [show H a = _ from ok.1.2]; exact ⟨(by intro z; cases z), (by intro z; cases z)⟩
      | inst C ns => obtain ⟨_, dx, e⟩ := ok.1; rw [e]; exact ⟨(by intro z; cases z), (by intro z; cases z)⟩
    · exact TA.fpl_kind ts ok.2 nt.2 a h
theorem TA.fpl_kind : ∀ ts : List TA, TA.okl K Hs H ts → TA.noTupl ts = true → ∀ a ∈ TA.fpl ts, ∀ vs o, H a ≠ some (.tup vs) ∧ H a ≠ some (.frz o (.tup vs))
  | [], _, _, a, h => by simp [TA.fpl] at h
  | t :: r, ok, nt, a, h => by
    rw [TA.okl] at ok
    rw [TA.noTupl, Bool.and_eq_true] at nt
    rw [TA.fpl] at h
    rcases List.mem_append.mp h with h | h
    · exact TA.fp_kind t ok.1 nt.1 a h
    · exact TA.fpl_kind r ok.2 nt.2 a h
end
/-- the state that a callee sees -/
theorem Rel.enter {A : List Addr} {vs : List V} (R : Rel K B Hs H σ sl (tp ++ cs)) (hA : ∀ a ∈ A, a ∈ TA.fpl sl) (ok : TA.okl K (frzH Hs H A) H as) (hf : TA.fpl as = TA.fpl cs) (hv : as.map TA.v = vs) (hn : ∀ t ∈ as, t.noTup = true) :
    Rel K ⟨⟨H, frzH Hs H A, TA.fpl as, []⟩, []⟩ (frzH Hs H A) H (vs.map some) as [] := by
  have hcs : ∀ a ∈ TA.fpl as, a ∈ TA.fpl (sl ++ (tp ++ cs)) ∧ a ∉ A := fun a ha => by
    rw [hf] at ha
    refine ⟨by rw [TA.fpl_append, TA.fpl_append]; exact List.mem_append_right _ (List.mem_append_right _ ha), fun z => ?_⟩
    have uq := R.uq
    rw [TA.fpl_append, List.nodup_append] at uq
    exact uq.2.2 a (hA a z) a (by rw [TA.fpl_append]; exact List.mem_append_right _ ha) rfl
  refine ⟨by rw [List.length_map, ← hv, List.length_map], fun i t h hd => ?_, by rw [List.append_nil]; exact ok, ?_, fun a ha => ?_, frzH_sub R.sub, fun a o h _ => h, fun a ha => .inl (by rw [List.append_nil] at ha; exact ha), Same.refl _, fun a ha => .inl ha, hn, fun p hp => by simp at hp⟩
  · rw [List.getElem?_map, ← hv, List.getElem?_map, h]; rfl
  · rw [List.append_nil, hf]
    have := R.uqT
    rw [TA.fpl_append, List.nodup_append] at this
    exact this.2.1
  · rw [List.append_nil] at ha
    obtain ⟨h1, h2⟩ := hcs a ha
    unfold frzH
    rw [if_neg h2]
    exact R.out a h1
/-- .. and the state behind it -/
theorem Rel.leave {A : List Addr} {σ' : L2.St} (R : Rel K B Hs H σ sl (tp ++ cs)) (hA : ∀ a ∈ A, a ∈ TA.fpl sl) (hf : TA.fpl as = TA.fpl cs) (R' : Rel K ⟨⟨H, frzH Hs H A, TA.fpl as, []⟩, []⟩ Hs' H' σ' as' [r])
    (flat : A = [] ∨ (r.t.flat = true ∧ T.flatl (TA.tl as') = true)) : Rel K B (unfrz Hs' A) H' σ sl (tp ++ (as' ++ [r])) := by
  have uq0 := R.uq
  rw [← List.append_assoc, TA.fpl_append, List.nodup_append] at uq0
  have hA' : ∀ a ∈ A, a ∈ TA.fpl (sl ++ tp) := fun a ha => by rw [TA.fpl_append]; exact List.mem_append_left _ (hA a ha)
  have rest : ∀ a ∈ TA.fpl (sl ++ tp), H a ≠ none ∧ a ∉ TA.fpl as ∧ H' a = H a := fun a ha => by
    have h1 : H a ≠ none := R.some_of (by rw [← List.append_assoc, TA.fpl_append]; exact List.mem_append_left _ ha)
    have h2 : a ∉ TA.fpl as := fun z => uq0.2.2 a ha a (hf ▸ z) rfl
    refine ⟨h1, h2, ?_⟩
    cases q : H a with
    | none => exact absurd q h1
    | some o => exact R'.keep a o q h2
  have hsA : ∀ a ∈ A, Hs a = none := fun a ha => R.out a (by rw [← List.append_assoc, TA.fpl_append]; exact List.mem_append_left _ (hA' a ha))
  have sm1 : Same Hs (frzH Hs H A) := frzH_same hsA
  have smc : Same (frzH Hs H A) Hs' := R'.hs
  have sm : Same Hs (unfrz Hs' A) := fun a o e => by
    unfold unfrz
    rw [if_neg fun z => by rw [hsA a z] at e; cases e]
    exact smc a o (sm1 a o e)
  have newfp : ∀ a ∈ TA.fpl (as' ++ [r]), a ∈ TA.fpl as ∨ H a = none := fun a ha => R'.fresh a ha
  have ndis : ∀ a ∈ TA.fpl (as' ++ [r]), a ∉ TA.fpl (sl ++ tp) := fun a ha z => by
    obtain ⟨h1, h2, _⟩ := rest a z
    rcases newfp a ha with y | y
    · exact h2 y
    · exact h1 y
  have okA : ∀ a ∈ A, ∀ vs o, Hs' a ≠ some (.tup vs) ∧ Hs' a ≠ some (.frz o (.tup vs)) := fun a ha vs o => by
    have ka := TA.fpl_kind sl R.okS (TA.noTupl_all.mpr R.ntup) a (hA a ha) vs o
    have e : Hs' a = H a := by
      cases q : H a with
      | none => exact absurd q (rest a (hA' a ha)).1
      | some u => exact smc a u (by unfold frzH; rw [if_pos ha]; exact q)
    rw [e]
    exact ka
  have ok' : TA.okl K (unfrz Hs' A) H' (as' ++ [r]) := by
    rcases flat with rfl | ⟨f1, f2⟩
    · rw [unfrz_nil]; exact R'.ok
    · refine TA.unlendl okA _ R'.ok ?_
      rw [tl_app]
      have : ∀ l1 l2 : List T, T.flatl l1 = true → T.flatl l2 = true → T.flatl (l1 ++ l2) = true := by
        intro l1
        induction l1 with
        | nil => intro l2 _ h; exact h
        | cons a l1 ih =>
          intro l2 h1 h2
          rw [T.flatl, Bool.and_eq_true] at h1
          rw [List.cons_append, T.flatl, Bool.and_eq_true]
          exact ⟨h1.1, ih l2 h1.2 h2⟩
      refine this _ _ f2 ?_
      rw [TA.tl, TA.tl, T.flatl, T.flatl, f1]
      rfl
  have okr : TA.okl K (unfrz Hs' A) H' (sl ++ tp) := by
    have := R.ok
    rw [← List.append_assoc] at this
    exact TA.okl_mono sm _ (TA.okl_append.mp this).1 fun a ha => (rest a ha).2.2
  refine ⟨R.len, R.val, by rw [← List.append_assoc]; exact TA.okl_append.mpr ⟨okr, ok'⟩, ?_, fun a ha => ?_, fun a o e => ?_, fun a o h1 h2 => ?_, fun a ha => ?_, R.hs.trans sm, fun a ha => ?_, R.ntup, R.pin⟩
  · rw [← List.append_assoc, TA.fpl_append, List.nodup_append]
    exact ⟨uq0.1, R'.uq, fun a ha b hb e => ndis b hb (e ▸ ha)⟩
  · rw [← List.append_assoc, TA.fpl_append] at ha
    unfold unfrz
    split
    · rfl
    · rename_i hn
      rcases List.mem_append.mp ha with z | z
      · cases q : Hs' a with
        | none => rfl
        | some o =>
          obtain ⟨g1, g2, _⟩ := rest a z
          rcases R'.hsNew a (by rw [q]; simp) with y | y | y
          · exfalso
            apply y
            show frzH Hs H A a = none
            unfold frzH
            rw [if_neg hn]
            exact R.out a (by rw [← List.append_assoc, TA.fpl_append]; exact List.mem_append_left _ z)
          · exact absurd y g2
          · exact absurd y g1
      · exact R'.out a z
  · unfold unfrz at e
    split at e
    · cases e
    · exact R'.sub a o e
  · have h3 := R.keep a o h1 h2
    refine R'.keep a o h3 fun z => ?_
    have z : a ∈ TA.fpl as := z
    rw [hf] at z
    rcases R.fresh a (by rw [TA.fpl_append, TA.fpl_append]; exact List.mem_append_right _ (List.mem_append_right _ z)) with y | y
    · exact h2 y
    · rw [h1] at y; cases y
  · rw [← List.append_assoc, TA.fpl_append] at ha
    rcases List.mem_append.mp ha with z | z
    · exact R.fresh a (by rw [← List.append_assoc, TA.fpl_append]; exact List.mem_append_left _ z)
    · rcases newfp a z with y | y
      · rw [hf] at y
        exact R.fresh a (by rw [TA.fpl_append, TA.fpl_append]; exact List.mem_append_right _ (List.mem_append_right _ y))
      · exact R.new_free y
  · unfold unfrz at ha
    split at ha
    · exact absurd rfl ha
    · rename_i hn
      rcases R'.hsNew a ha with y | y | y
      · have y : frzH Hs H A a ≠ none := y
        unfold frzH at y
        rw [if_neg hn] at y
        exact R.hsNew a y
      · have y : a ∈ TA.fpl as := y
        rw [hf] at y
        exact .inr (R.fresh a (by rw [TA.fpl_append, TA.fpl_append]; exact List.mem_append_right _ (List.mem_append_right _ y)))
      · exact .inr (R.new_free y)
end
end VL
set_option Elab.async false
set_option linter.all false
set_option maxRecDepth 100000
set_option maxHeartbeats 4000000
/-! VL11: a call's arguments made ready, and put back. -/
namespace VL
open PySem PySem.Spec PyProof.Rows L2
theorem T.put_put (a b : T) : ∀ (q : List Nat) (t c : T), t.at q = some c → (t.put a q).put b q = t.put b q
  | [], t, c, h => rfl
  | j :: q, t, c, h => by
    cases t with
    | dead => cases h
    | d x => cases h
    | nd k ts =>
      rw [T.at] at h
      cases e : ts[j]? with
      | none => rw [e] at h; cases h
      | some d =>
        rw [e] at h
        have hj : j < ts.length := (List.getElem?_eq_some_iff.mp e).1
        simp only [T.put, e]
        rw [List.getElem?_set_self hj]
        simp only
        rw [List.set_set, T.put_put a b q d c h]
theorem TA.put_at_self (s : TA) : ∀ (q : List Nat) (t c : TA), t.at q = some c → (t.put s q).at q = some s
  | [], t, c, h => rfl
  | j :: q, t, c, h => by
    cases t with
    | dead => cases h
    | d _ _ => cases h
    | nd k a ts =>
      rw [TA.at] at h
      cases e : ts[j]? with
      | none => rw [e] at h; cases h
      | some d =>
        rw [e] at h
        have hj : j < ts.length := (List.getElem?_eq_some_iff.mp e).1
        simp only [TA.put, e]
        rw [TA.at, List.getElem?_set_self hj]
        exact TA.put_at_self s q d c h
theorem backs_len : ∀ (ms : List Md) (rs : List R) (ts : List T) (σ : St), (backs ms rs ts σ).length = σ.length
  | [], _, _, σ => by cases ‹List R› <;> cases ‹List T› <;> rfl
  | m :: ms, [], _, σ => by cases ‹List T› <;> rfl
  | m :: ms, r :: rs, [], σ => rfl
  | m :: ms, r :: rs, t :: ts, σ => by
    have ih := backs_len ms rs ts σ
    unfold backs
    split
    · unfold putS
      split
      · rw [List.length_set]; exact ih
      · exact ih
    · exact ih
theorem ownPl_cons (m : Md) (ms : List Md) (r : R) (rs : List R) : ownPl (m :: ms) (r :: rs) = (match m, r with | .own, .p i _ => [i] | _, _ => []) ++ ownPl ms rs := by
  cases m <;> cases r <;> rfl
theorem borPl_cons (m : Md) (ms : List Md) (r : R) (rs : List R) : borPl (m :: ms) (r :: rs) = (match m, r with | .bor, .p i _ => [i] | _, _ => []) ++ borPl ms rs := by
  cases m <;> cases r <;> rfl
theorem putS_ne {σ : St} {i j : Nat} {q : List Nat} {t : T} (h : j ≠ i) : (putS σ i q t)[j]? = σ[j]? := by
  unfold putS
  split
  · rw [List.getElem?_set_ne (Ne.symm h)]
  · rfl
theorem backs_ne : ∀ (ms : List Md) (rs : List R) (ts : List T) (σ : St) (j : Nat), j ∉ ownPl ms rs → (backs ms rs ts σ)[j]? = σ[j]?
  | [], _, _, σ, j, _ => by cases ‹List R› <;> cases ‹List T› <;> rfl
  | m :: ms, [], _, σ, j, _ => by cases ‹List T› <;> rfl
  | m :: ms, r :: rs, [], σ, j, _ => rfl
  | m :: ms, r :: rs, t :: ts, σ, j, h => by
    rw [ownPl_cons] at h
    have ih := backs_ne ms rs ts σ j (fun z => h (List.mem_append_right _ z))
    unfold backs
    split
    · rw [putS_ne fun z => h (by subst z; simp)]
      exact ih
    · exact ih
theorem set_comm' {α : Type} (l : List α) {i j : Nat} (a b : α) (h : i ≠ j) : (l.set i a).set j b = (l.set j b).set i a := List.set_comm _ _ h
theorem backs_set : ∀ (ms : List Md) (rs : List R) (ts : List T) (σ : St) (i : Nat) (u : T), i ∉ ownPl ms rs → backs ms rs ts (σ.set i u) = (backs ms rs ts σ).set i u
  | [], rs, ts, σ, i, u, _ => by cases rs <;> cases ts <;> rfl
  | m :: ms, [], ts, σ, i, u, _ => by cases ts <;> rfl
  | m :: ms, r :: rs, [], σ, i, u, _ => rfl
  | m :: ms, r :: rs, t :: ts, σ, i, u, h => by
    rw [ownPl_cons] at h
    have ih := backs_set ms rs ts σ i u (fun z => h (List.mem_append_right _ z))
    unfold backs
    split
    · rename_i i' q
      have hne : i' ≠ i := fun z => h (by subst z; simp)
      rw [ih]
      unfold putS
      rw [List.getElem?_set_ne (Ne.symm hne)]
      cases (backs ms rs ts σ)[i']? with
      | some t' => exact set_comm' _ _ _ (Ne.symm hne)
      | none => rfl
    · exact ih
theorem passes_congr : ∀ (ms : List Md) (rs : List R) (σ σ' : St), (∀ i ∈ ownPl ms rs ++ borPl ms rs, σ'[i]? = σ[i]?) → passes ms rs σ' = passes ms rs σ
  | [], [], σ, σ', _ => rfl
  | [], _ :: _, σ, σ', _ => rfl
  | _ :: _, [], σ, σ', _ => rfl
  | m :: ms, r :: rs, σ, σ', h => by
    rw [ownPl_cons, borPl_cons] at h
    have ih := passes_congr ms rs σ σ' fun i hi => h i (by
      rcases List.mem_append.mp hi with z | z
      · exact List.mem_append_left _ (List.mem_append_right _ z)
      · exact List.mem_append_right _ (List.mem_append_right _ z))
    have hg : r.get σ' = r.get σ := by
      cases r with
      | v t => rfl
      | p i q =>
        unfold R.get
        simp only
        rw [h i (by cases m <;> simp)]
    unfold passes
    rw [ih, hg]
/-- an argument made ready -/
inductive Ag where
  | leaf (v : V) (x : PyData)
  | own (c : TA)
  | lend (c : TA) (x : PyData)
def Ag.ta : Ag → TA
  | .leaf v x => .d v x
  | .own c => c
  | .lend c x => .d c.v x
def Ag.cs : Ag → List TA
  | .own c => [c]
  | _ => []
def Ag.A : Ag → List Addr
  | .lend c _ => c.fp
  | _ => []
def Ag.ok (K : PySem.W.Frag) (Hs H : Hp) (sl : List TA) : Ag → Prop
  | .leaf v x => Rp K Hs v x
  | .own c => c.noTup = true ∧ c.isDead = false
  | .lend c x => c.ok K Hs H ∧ c.t.data = some x ∧ (∀ a ∈ c.fp, a ∈ TA.fpl sl)
def Ag.bor : Ag → Bool
  | .own _ => false
  | _ => true
section
variable {K : PySem.W.Frag} {B : Bs} {H : Hp} {σ : L2.St}
theorem fpl_slot {sl : List TA} {i : Nat} {t : TA} {a : Addr} (h : sl[i]? = some t) (ha : a ∈ t.fp) : a ∈ TA.fpl sl := fpl_mem (List.mem_of_getElem? h) ha
structure Rdy (K : PySem.W.Frag) (B : Bs) (Hs H : Hp) (σ : L2.St) (md : List Md) (rs : List R) (vs : List V) (ts : List T) (b : Bool) (sl tp : List TA) (Hs' : Hp) (sl' : List TA) (gs : List Ag) : Prop where
  hs : Same Hs Hs'
  rel : Rel K B Hs' H σ sl' (tp ++ gs.flatMap Ag.cs)
  ok : ∀ g ∈ gs, g.ok K Hs' H sl'
  v : gs.map (fun g => g.ta.v) = vs
  tl : gs.map (fun g => g.ta.t) = ts
  mode : ∀ (i : Nat) (g : Ag), md[i]? = some Md.bor → gs[i]? = some g → g.bor = true
  len : vs.length = md.length
  none : b = false → ∀ g ∈ gs, g.A = []
  back : ∀ (as' : List TA) (Hs2 H2 : Hp) (tp2 : List TA), as'.map TA.v = vs → (∀ t ∈ as', t.noTup = true) → (∀ (i : Nat) (t : TA), md[i]? = some Md.own → as'[i]? = some t → t.isDead = false) → Rel K B Hs2 H2 σ sl' (tp2 ++ as') →
    ∃ sl'', Rel K B Hs2 H2 σ sl'' tp2 ∧ TA.tl sl'' = backs md rs (TA.tl as') (TA.tl sl) ∧ (∀ j, j ∉ ownPl md rs → sl''[j]? = sl[j]?) ∧ sl''.length = sl.length ∧ (∀ (j : Nat) (t : TA), sl[j]? = some t → t.isDead = false → ∃ t', sl''[j]? = some t' ∧ t'.isDead = false)
  same : ∀ j, j ∉ ownPl md rs → sl'[j]? = sl[j]?
theorem RRs'.setS {sl : List TA} {i : Nat} {u : TA} {rs : List R} : ∀ {ms : List Md} {vs : List V} {nws : List (List TA)}, ms.length = rs.length → (∀ i' ∈ ownPl ms rs ++ borPl ms rs, i' ≠ i) → RRs' sl rs vs nws → RRs' (sl.set i u) rs vs nws := by
  induction rs with
  | nil =>
    intro ms vs nws hl h rr
    cases rr
    exact .nil
  | cons r rs ih =>
    intro ms vs nws hl h rr
    cases ms with
    | nil => simp at hl
    | cons m ms =>
      cases rr with
      | cons a b =>
        rw [ownPl_cons, borPl_cons] at h
        refine .cons ?_ (ih (ms := ms) (by simpa using hl) (fun i' hi => h i' (by
          rcases List.mem_append.mp hi with z | z
          · exact List.mem_append_left _ (List.mem_append_right _ z)
          · exact List.mem_append_right _ (List.mem_append_right _ z))) b)
        cases r with
        | v t => exact a
        | p i' q =>
          obtain ⟨e, f⟩ := a
          refine ⟨e, fun t c h1 h2 => f t c ?_ h2⟩
          have hne : i' ≠ i := h i' (by cases m <;> simp)
          rw [List.getElem?_set_ne (Ne.symm hne)] at h1
          exact h1
theorem passes_len : ∀ {ms : List Md} {rs : List R} {σ : St} {x : List T × Bool}, passes ms rs σ = some x → ms.length = rs.length
  | [], [], _, _, _ => rfl
  | [], _ :: _, _, _, h => by simp [passes] at h
  | _ :: _, [], _, _, h => by simp [passes] at h
  | m :: ms, r :: rs, σ, x, h => by
    rw [passes] at h
    cases e : passes ms rs σ with
    | none =>
      rw [e] at h
      cases r.get σ with
      | none => simp at h
      | some t => cases t <;> simp at h
    | some y => rw [List.length_cons, List.length_cons, passes_len e]
theorem prep {rs : List R} : ∀ {md : List Md} {vs : List V} {nws : List (List TA)} {ts : List T} {b : Bool} {Hs : Hp} {sl tp : List TA}, Rel K B Hs H σ sl (tp ++ nws.flatten) → RRs' sl rs vs nws → passes md rs (TA.tl sl) = some (ts, b) → (ownPl md rs).Nodup → (∀ i ∈ borPl md rs, i ∉ ownPl md rs) →
    ∃ Hs' sl' gs, Rdy K B Hs H σ md rs vs ts b sl tp Hs' sl' gs := by
  induction rs with
  | nil =>
    intro md vs nws ts b Hs sl tp R1 rr hp hn hb
    cases rr
    cases md with
    | cons m ms => simp [passes] at hp
    | nil =>
      rw [passes] at hp
      cases hp
      refine ⟨Hs, sl, [], Same.refl _, R1, fun g hg => by simp at hg, rfl, rfl, fun i g h => by simp at h, rfl, fun _ g hg => by simp at hg, fun as' Hs2 H2 tp2 hv hn2 hn3 R2 => ?_, fun j _ => rfl⟩
      cases as' with
      | nil => exact ⟨sl, by simpa using R2, rfl, fun _ _ => rfl, rfl, fun j t h1 h2 => ⟨t, h1, h2⟩⟩
      | cons _ _ => simp at hv
  | cons r rs ih =>
    intro md vs nws ts b Hs sl tp R1 rr hp hn hb
    cases md with
    | nil => simp [passes] at hp
    | cons m ms =>
    cases rr with
    | @cons _ v nw _ vs nws a0 bt =>
    rw [List.flatten_cons] at R1
    rw [ownPl_cons] at hn
    have hn2 := (List.nodup_append.mp hn).2.1
    have hb2 : ∀ i ∈ borPl ms rs, i ∉ ownPl ms rs := fun i hi z => hb i (by rw [borPl_cons]; exact List.mem_append_right _ hi) (by rw [ownPl_cons]; exact List.mem_append_right _ z)
    rw [passes] at hp
    have hget : ∀ T0, r.get (TA.tl sl) = some T0 → T0.isDead = false → ∃ c : TA, c.t = T0 ∧ c.v = v ∧ c.isDead = false ∧ c.ok K Hs H ∧ (r.isP = false → nw = [c]) ∧ (∀ i q, r = .p i q → nw = [] ∧ ∃ t, sl[i]? = some t ∧ t.at q = some c) := by
      intro T0 hT hTd
      cases r with
      | v t =>
        obtain ⟨x, e1, e2, e3, e4⟩ := a0
        subst e1
        rw [R.get, Option.some.injEq] at hT
        refine ⟨x, e2.trans hT, e3, e4, ?_, fun _ => rfl, fun i q z => by cases z⟩
        have := R1.okT
        rw [TA.okl_append, TA.okl_append, TA.okl] at this
        exact this.2.1.1
      | p i q =>
        obtain ⟨e1, e2⟩ := a0
        unfold R.get at hT
        simp only at hT
        rw [tl_get] at hT
        cases h1 : sl[i]? with
        | none => rw [h1] at hT; cases hT
        | some t =>
          rw [h1] at hT
          simp only [Option.map_some, TA.at_t] at hT
          cases h2 : t.at q with
          | none => rw [h2] at hT; cases hT
          | some c =>
            rw [h2] at hT
            have e3 : c.t = T0 := Option.some.inj hT
            exact ⟨c, e3, e2 t c h1 h2, by rw [← TA.isDead_t, e3]; exact hTd, TA.at_ok q t c h2 (R1.slot_ok h1), fun z => (by cases z), fun i' q' z => by cases z; exact ⟨e1, t, h1, h2⟩⟩
    have Rt : Rel K B Hs H σ sl (tp ++ nws.flatten) := R1.tempsS (by
        have := R1.okT
        rw [TA.okl_append, TA.okl_append] at this
        exact TA.okl_append.mpr ⟨this.1, this.2.2⟩) (by
        rw [TA.fpl_append, TA.fpl_append, TA.fpl_append]
        exact (List.Sublist.refl _).append (List.sublist_append_right _ _))
    -- an argument in front that takes nothing out of the slots
    have front : ∀ (g : Ag) (ts1 : List T) (b1 bx : Bool) (Hs1 : Hp) (tpx : List TA), Same Hs Hs1 → Rel K B Hs1 H σ sl ((tp ++ g.cs) ++ nws.flatten) → passes ms rs (TA.tl sl) = some (ts1, b1) → (∀ Hs2 sl2, Same Hs1 Hs2 → (∀ j, j ∉ ownPl ms rs → sl2[j]? = sl[j]?) → g.ok K Hs2 H sl2) → g.ta.v = v → (m = .bor → g.bor = true) → (bx = false → g.A = []) →
        (∀ i q, m = .own → r = .p i q → ∃ t c, sl[i]? = some t ∧ t.at q = some c ∧ c.v = v ∧ c.isDead = false) → ∃ Hs' sl' gs, Rdy K B Hs H σ (m :: ms) (r :: rs) (v :: vs) (g.ta.t :: ts1) (b1 || bx) sl tp Hs' sl' gs := by
      intro g ts1 b1 bx Hs1 _ hs1 R2 hp2 hg hgv hgm hgx hpl
      obtain ⟨Hs', sl', gs, Y⟩ := ih R2 bt hp2 hn2 hb2
      refine ⟨Hs', sl', g :: gs, hs1.trans Y.hs, by rw [List.flatMap_cons, ← List.append_assoc]; exact Y.rel, fun g' hg' => ?_, by rw [List.map_cons, hgv, Y.v], by rw [List.map_cons, Y.tl], fun i g' h1 h2 => ?_, by rw [List.length_cons, List.length_cons, Y.len], fun hbb g' hg' => ?_, fun as' Hs2 H2 tp2 hv hnt hnd R3 => ?_, fun j hj => Y.same j fun z => hj (by rw [ownPl_cons]; exact List.mem_append_right _ z)⟩
      · rcases List.mem_cons.mp hg' with rfl | hg'
        · exact hg Hs' sl' Y.hs Y.same
        · exact Y.ok g' hg'
      · cases i with
        | zero =>
          simp only [List.getElem?_cons_zero, Option.some.injEq] at h1 h2
          subst h2
          exact hgm h1
        | succ i => exact Y.mode i g' (by simpa using h1) (by simpa using h2)
      · simp only [Bool.or_eq_false_iff] at hbb
        rcases List.mem_cons.mp hg' with rfl | hg'
        · exact hgx hbb.2
        · exact Y.none hbb.1 g' hg'
      · cases as' with
        | nil => simp at hv
        | cons a1 as1 =>
          rw [List.map_cons, List.cons.injEq] at hv
          have R4 : Rel K B Hs2 H2 σ sl' ((tp2 ++ [a1]) ++ as1) := by rw [List.append_assoc]; exact R3
          obtain ⟨sl2, R5, e1, e2, e3, e4⟩ := Y.back as1 Hs2 H2 (tp2 ++ [a1]) hv.2 (fun t ht => hnt t (List.mem_cons_of_mem _ ht)) (fun i t h1 h2 => hnd (i + 1) t h1 h2) R4
          by_cases hmo : ∃ i q, m = .own ∧ r = .p i q
          · obtain ⟨i, q, hm, hr⟩ := hmo
            subst hm hr
            obtain ⟨t, c, g1, g2, g3, g4⟩ := hpl i q rfl rfl
            have hnot : i ∉ ownPl ms rs := fun z => (List.nodup_append.mp hn).2.2 i (by simp) i z rfl
            have g1' : sl2[i]? = some t := (e2 i hnot).trans g1
            have hi : i < sl2.length := (List.getElem?_eq_some_iff.mp g1').1
            refine ⟨sl2.set i (t.put a1 q), R5.in1 g1' g2 (hv.1.trans g3.symm) (hnt a1 (by simp)) (fun e _ => ?_), ?_, fun j hj => ?_, by rw [List.length_set]; exact e3, fun j t' h1 h2 => ?_⟩
            · subst e
              rw [TA.at] at g2
              cases g2
              rw [hv.1, ← g3]
              exact R1.val i t g1 g4
            · rw [tl_putS g1', e1, TA.tl, backs]
            · rw [ownPl_cons] at hj
              have hji : j ≠ i := fun z => hj (by subst z; simp)
              rw [List.getElem?_set_ne (Ne.symm hji)]
              exact e2 j fun z => hj (List.mem_append_right _ z)
            · obtain ⟨t2, k1, k2⟩ := e4 j t' h1 h2
              exact chg_live g1' g2 (hnd 0 a1 rfl rfl) j t2 k1 k2
          · refine ⟨sl2, R5.drop, ?_, fun j hj => e2 j fun z => hj (by rw [ownPl_cons]; exact List.mem_append_right _ z), e3, e4⟩
            rw [e1, TA.tl]
            cases m with
            | bor => cases r <;> rfl
            | own =>
              cases r with
              | v _ => rfl
              | p i q => exact (hmo ⟨i, q, rfl, rfl⟩).elim
    cases hT : r.get (TA.tl sl) with
    | none => rw [hT] at hp; simp at hp
    | some T0 =>
    cases hps : passes ms rs (TA.tl sl) with
    | none => rw [hT, hps] at hp; cases T0 <;> simp at hp
    | some y =>
    obtain ⟨ts1, b1⟩ := y
    rw [hT, hps] at hp
    cases T0 with
    | dead => simp at hp
    | d x =>
      simp only [Option.some.injEq, Prod.mk.injEq] at hp
      obtain ⟨rfl, rfl⟩ := hp
      obtain ⟨c, c1, c2, c3, c4, c5, c6⟩ := hget _ hT rfl
      obtain ⟨w, rfl⟩ := ta_d c1
      rw [TA.ok] at c4
      have := front (.leaf v x) ts1 b1 false Hs [] (Same.refl _) (by simpa [Ag.cs] using Rt) hps (fun Hs2 sl2 hs _ => by have e : w = v := c2; subst e; exact c4.mono hs) rfl (fun _ => rfl) (fun _ => rfl) (fun i q hm hr => by
        obtain ⟨_, t, g1, g2⟩ := c6 i q hr
        exact ⟨t, _, g1, g2, c2, rfl⟩)
      rw [Bool.or_false] at this
      exact this
    | nd k us =>
      obtain ⟨c, c1, c2, c3, c4, c5, c6⟩ := hget _ hT rfl
      cases m with
      | bor =>
        simp only at hp
        split at hp
        · rename_i x hx
          simp only [Option.some.injEq, Prod.mk.injEq] at hp
          obtain ⟨rfl, rfl⟩ := hp
          have hx' : c.t.data = some x := by rw [c1]; exact hx
          cases r with
          | v t0 =>
            have hnw := c5 rfl
            subst hnw
            have R2 : Rel K B Hs H σ sl ((tp ++ nws.flatten) ++ [c]) := R1.perm (by
              rw [List.append_assoc]
              exact List.Perm.append_left _ List.perm_append_comm)
            have R3 := (R2.frzT hx').drop
            have hin : ∀ a ∈ c.fp, Hs a = Option.none := fun a ha => R1.out a (fpl_mem (by simp) ha)
            have rp : Rp K (frzH Hs H c.fp) c.v x := TA.reads_frz R1.sub c c4 hx' hin
            exact front (.leaf v x) ts1 b1 false (frzH Hs H c.fp) [] (frzH_same hin) (by simpa [Ag.cs] using R3) hps (fun Hs2 sl2 hs _ => by rw [← c2]; exact rp.mono hs) rfl (fun _ => rfl) (fun _ => rfl) (fun i q hm hr => by cases hm)
          | p i q =>
            obtain ⟨_, t, g1, g2⟩ := c6 i q rfl
            have hnot : i ∉ ownPl ms rs := fun z => hb i (by rw [borPl_cons]; simp) (by rw [ownPl_cons]; exact List.mem_append_right _ z)
            have := front (.lend c x) ts1 b1 true Hs [] (Same.refl _) (by simpa [Ag.cs] using Rt) hps (fun Hs2 sl2 hs hsame => ⟨TA.ok_mono hs c c4 fun _ _ => rfl, hx', fun a ha => by
                obtain ⟨l1, l2, le, _⟩ := TA.lens q t c g2
                exact fpl_slot ((hsame i hnot).trans g1) (by rw [le]; exact List.mem_append_left _ (List.mem_append_right _ ha))⟩) c2 (fun _ => rfl) (fun z => by cases z) (fun i q hm hr => by cases hm)
            exact this
        · simp at hp
      | own =>
        simp only at hp
        split at hp
        · rename_i hnt
          simp only [Option.some.injEq, Prod.mk.injEq] at hp
          obtain ⟨rfl, rfl⟩ := hp
          cases r with
          | v t0 =>
            have hnw := c5 rfl
            subst hnw
            have := front (.own c) ts1 b1 false Hs [] (Same.refl _) (by rw [List.append_assoc]; exact R1) hps (fun Hs2 sl2 hs _ => ⟨by rw [← TA.noTup_t, c1]; simpa [R.isP] using hnt, c3⟩) c2 (fun z => by cases z) (fun _ => rfl) (fun i q hm hr => by cases hr)
            rw [Bool.or_false] at this
            have e : (Ag.own c).ta.t = T.nd k us := c1
            rw [e] at this
            exact this
          | p i q =>
            obtain ⟨hnw, t, g1, g2⟩ := c6 i q rfl
            subst hnw
            have hi : i < sl.length := (List.getElem?_eq_some_iff.mp g1).1
            have hnot : i ∉ ownPl ms rs := fun z => (List.nodup_append.mp hn).2.2 i (by simp) i z rfl
            have hnotb : i ∉ borPl ms rs := fun z => hb i (by rw [borPl_cons]; exact List.mem_append_right _ z) (by rw [ownPl_cons]; simp)
            have hne : ∀ i' ∈ ownPl ms rs ++ borPl ms rs, i' ≠ i := fun i' hi' e => by
              subst e
              rcases List.mem_append.mp hi' with z | z
              · exact hnot z
              · exact hnotb z
            have R2 : Rel K B Hs H σ (sl.set i (t.put (.dead c.v) q)) ((tp ++ [c]) ++ nws.flatten) := (Rt.out1 g1 g2).perm (by
              rw [List.append_assoc, List.append_assoc]
              exact List.Perm.append_left _ List.perm_append_comm)
            have hps2 : passes ms rs (TA.tl (sl.set i (t.put (.dead c.v) q))) = some (ts1, b1) := by
              rw [← hps]
              refine passes_congr ms rs _ _ fun i' hi' => ?_
              rw [tl_set, List.getElem?_set_ne (Ne.symm (hne i' hi'))]
            obtain ⟨Hs', sl', gs, Y⟩ := ih R2 (bt.setS (passes_len hps) hne) hps2 hn2 hb2
            have hci : (sl.set i (t.put (.dead c.v) q))[i]? = some (t.put (.dead c.v) q) := List.getElem?_set_self hi
            refine ⟨Hs', sl', .own c :: gs, Y.hs, by rw [List.flatMap_cons, ← List.append_assoc]; exact Y.rel, fun g' hg' => ?_, by rw [List.map_cons, Y.v]; exact congrArg (· :: vs) c2, by rw [List.map_cons, Y.tl]; exact congrArg (· :: ts1) c1, fun j g' h1 h2 => ?_, by rw [List.length_cons, List.length_cons, Y.len], fun hbb g' hg' => ?_, fun as' Hs2 H2 tp2 hv hnt2 hnd2 R3 => ?_, fun j hj => ?_⟩
            · rcases List.mem_cons.mp hg' with rfl | hg'
              · exact ⟨TA.at_noTup q t c g2 (R1.ntup t (List.mem_of_getElem? g1)), c3⟩
              · exact Y.ok g' hg'
            · cases j with
              | zero => simp at h1
              | succ j => exact Y.mode j g' (by simpa using h1) (by simpa using h2)
            · rcases List.mem_cons.mp hg' with rfl | hg'
              · rfl
              · exact Y.none hbb g' hg'
            · cases as' with
              | nil => simp at hv
              | cons a1 as1 =>
                rw [List.map_cons, List.cons.injEq] at hv
                have R4 : Rel K B Hs2 H2 σ sl' ((tp2 ++ [a1]) ++ as1) := by rw [List.append_assoc]; exact R3
                obtain ⟨sl2, R5, e1, e2, e3, e4⟩ := Y.back as1 Hs2 H2 (tp2 ++ [a1]) hv.2 (fun t ht => hnt2 t (List.mem_cons_of_mem _ ht)) (fun i t h1 h2 => hnd2 (i + 1) t h1 h2) R4
                have g1' : sl2[i]? = some (t.put (.dead c.v) q) := (e2 i hnot).trans hci
                have g2' : (t.put (.dead c.v) q).at q = some (.dead c.v) := TA.put_at_self _ q t c g2
                refine ⟨sl2.set i ((t.put (.dead c.v) q).put a1 q), R5.in1 g1' g2' (hv.1.trans c2.symm) (hnt2 a1 (by simp)) (fun e _ => ?_), ?_, fun j hj => ?_, by rw [List.length_set, e3, List.length_set], fun j t' h1 h2 => ?_⟩
                · subst e
                  rw [TA.at] at g2
                  cases g2
                  rw [hv.1, ← c2]
                  exact R1.val i _ g1 c3
                · rw [tl_putS g1', e1, TA.tl]
                  show putS (backs ms rs (TA.tl as1) (TA.tl (sl.set i (t.put (.dead c.v) q)))) i q a1.t = putS (backs ms rs (TA.tl as1) (TA.tl sl)) i q a1.t
                  rw [tl_set, backs_set _ _ _ _ _ _ hnot]
                  have hlen : i < (backs ms rs (TA.tl as1) (TA.tl sl)).length := by rw [backs_len, tl_len]; exact hi
                  have hti : (backs ms rs (TA.tl as1) (TA.tl sl))[i]? = some t.t := by rw [backs_ne _ _ _ _ _ hnot, tl_get, g1]; rfl
                  unfold putS
                  rw [List.getElem?_set_self hlen, hti]
                  simp only
                  rw [List.set_set, TA.put_t, T.put_put _ _ q t.t c.t (by rw [TA.at_t, g2]; rfl)]
                · rw [ownPl_cons] at hj
                  have hji : j ≠ i := fun z => hj (by subst z; simp)
                  rw [List.getElem?_set_ne (Ne.symm hji), e2 j fun z => hj (List.mem_append_right _ z), List.getElem?_set_ne (Ne.symm hji)]
                · by_cases hji : j = i
                  · subst hji
                    refine ⟨_, List.getElem?_set_self (List.getElem?_eq_some_iff.mp g1').1, ?_⟩
                    rw [g1] at h1
                    cases h1
                    cases q with
                    | nil => exact (hnd2 0 a1 rfl rfl)
                    | cons m' q' =>
                      cases t with
                      | dead _ => cases h2
                      | d _ _ => rfl
                      | nd k' a' ts' =>
                        simp only [TA.put]
                        cases ts'[m']? with
                        | none => simp only [TA.put]; cases ts'[m']? <;> rfl
                        | some d' => simp only; cases (ts'.set m' (d'.put (TA.dead c.v) q'))[m']? <;> rfl
                  · obtain ⟨t2, k1, k2⟩ := e4 j t' (by rw [List.getElem?_set_ne (Ne.symm hji)]; exact h1) h2
                    exact ⟨t2, by rw [List.getElem?_set_ne (Ne.symm hji)]; exact k1, k2⟩
            · rw [ownPl_cons] at hj
              have hji : j ≠ i := fun z => hj (by subst z; simp)
              rw [Y.same j fun z => hj (List.mem_append_right _ z), List.getElem?_set_ne (Ne.symm hji)]
        · simp at hp
theorem Ag.fp : ∀ gs : List Ag, TA.fpl (gs.map Ag.ta) = TA.fpl (gs.flatMap Ag.cs)
  | [] => rfl
  | g :: gs => by
    rw [List.map_cons, List.flatMap_cons, TA.fpl, TA.fpl_append, Ag.fp gs]
    cases g with
    | leaf v x => rfl
    | own c => rw [Ag.ta, Ag.cs, fpl_one]
    | lend c x => rfl
/-- a call by its promise -/
theorem call_ok {X : Cx} {fs : FS} {Hs2 H0 H2 : Hp} {sl sl2 tp : List TA} {nws : List (List TA)} {rs : List R} {vs : List V} {pu : Bool} {P : R → St → Prop} {Q : VK} {E : XK} (R1 : Rel X.K B Hs2 H2 σ sl2 (tp ++ nws.flatten)) (rr : RRs sl2 rs vs nws) (st : Stp pu H0 H2 sl sl2) (h : callW fs pu rs (TA.tl sl2) P)
    (hk : ∀ r v Hs' H' sl' nw, Rel X.K B Hs' H' σ sl' (tp ++ nw) → RR r v sl' nw → Stp pu H0 H' sl sl' → P r (TA.tl sl') → Q v H') : spV X.K fs.md fs.F vs H2 Q E := by
  unfold callW at h
  split at h
  · rename_i ts b hps
    obtain ⟨hap, hpu, hF⟩ := h
    unfold apart at hap
    rw [Bool.and_eq_true] at hap
    obtain ⟨Hs', sl', gs, Y⟩ := prep R1 rr.weak hps (of_decide_eq_true hap.1) (fun i hi z => by
      have := List.all_eq_true.mp hap.2 i hi
      simp at this
      exact this z)
    have hA : ∀ a ∈ gs.flatMap Ag.A, a ∈ TA.fpl sl' := fun a ha => by
      obtain ⟨g, hg, hga⟩ := List.mem_flatMap.mp ha
      have := Y.ok g hg
      cases g with
      | leaf v x => simp [Ag.A] at hga
      | own c => simp [Ag.A] at hga
      | lend c x => exact this.2.2 a hga
    have hsA : ∀ a ∈ gs.flatMap Ag.A, Hs' a = none := fun a ha => Y.rel.out a (by rw [TA.fpl_append]; exact List.mem_append_left _ (hA a ha))
    have sm : Same Hs' (frzH Hs' H2 (gs.flatMap Ag.A)) := frzH_same hsA
    have hcs : TA.okl X.K Hs' H2 (gs.flatMap Ag.cs) := (TA.okl_append.mp Y.rel.okT).2
    have ok : TA.okl X.K (frzH Hs' H2 (gs.flatMap Ag.A)) H2 (gs.map Ag.ta) := TA.okl_all.mpr fun t ht => by
      obtain ⟨g, hg, rfl⟩ := List.mem_map.mp ht
      have := Y.ok g hg
      cases g with
      | leaf v x => rw [Ag.ta, TA.ok]; exact Rp.mono sm this
      | own c => exact TA.ok_mono sm c (TA.okl_all.mp hcs c (List.mem_flatMap.mpr ⟨_, hg, by simp [Ag.cs]⟩)) fun _ _ => rfl
      | lend c x =>
        rw [Ag.ta, TA.ok]
        refine TA.reads sm c x (TA.ok_mono (Same.refl _) c this.1 fun a ha => ?_) this.2.1
        unfold frzH
        rw [if_pos (List.mem_flatMap.mpr ⟨_, hg, ha⟩)]
    have hv : (gs.map Ag.ta).map TA.v = vs := by rw [List.map_map]; exact Y.v
    have hfp := Ag.fp gs
    have R2 := Y.rel.enter hA ok hfp hv (fun t ht => by
      obtain ⟨g, hg, rfl⟩ := List.mem_map.mp ht
      have := Y.ok g hg
      cases g with
      | leaf v x => rfl
      | own c => exact this.1
      | lend c x => rfl)
    refine ⟨_, gs.map Ag.ta, _, Y.len, R2, hv, fun t ht => ?_, fun i t h1 h2 => ?_, by rw [TA.tl_map, List.map_map, show gs.map (TA.t ∘ Ag.ta) = ts from Y.tl]; exact hF, fun H' Hs'' as' r R3 hv' hd' hdr hP => ?_⟩
    · obtain ⟨g, hg, rfl⟩ := List.mem_map.mp ht
      have := Y.ok g hg
      cases g with
      | leaf v x => rfl
      | own c => exact this.2
      | lend c x => rfl
    · rw [List.getElem?_map] at h2
      obtain ⟨g, hg, rfl⟩ := Option.map_eq_some_iff.mp h2
      have := Y.mode i g h1 hg
      cases g with
      | leaf v x => exact ⟨v, x, rfl⟩
      | own c => cases this
      | lend c x => exact ⟨c.v, x, rfl⟩
    · obtain ⟨hfl, hP⟩ := hP
      have flat : gs.flatMap Ag.A = [] ∨ (r.t.flat = true ∧ T.flatl (TA.tl as') = true) := by
        cases b with
        | false =>
          refine .inl ?_
          have := Y.none rfl
          rw [List.flatMap_eq_nil_iff]
          exact this
        | true => exact .inr (hfl rfl)
      have R4 := Y.rel.leave hA hfp R3 flat
      have R5 := R4.perm (tp' := (tp ++ [r]) ++ as') (by
        rw [List.append_assoc]
        exact List.Perm.append_left _ List.perm_append_comm)
      obtain ⟨sl3, R6, e1, e2, e3, e4⟩ := Y.back as' _ H' (tp ++ [r]) hv' R3.ntup hd' R5
      refine hk (.v r.t) r.v _ H' sl3 [r] R6 ⟨r, rfl, rfl, rfl, hdr⟩ (st.trans (pu' := pu) ⟨fun hp => ?_, e4⟩ id) (by rw [e1]; exact hP)
      have hall := hpu hp
      have hown : ∀ (ms : List Md) (rs : List R), ms.all (fun m => decide (m = .bor)) = true → ownPl ms rs = [] := by
        intro ms
        induction ms with
        | nil => intro rs _; cases rs <;> rfl
        | cons m ms ih =>
          intro rs hm
          simp only [List.all_cons, Bool.and_eq_true, decide_eq_true_eq] at hm
          cases rs with
          | nil => rw [hm.1]; rfl
          | cons r rs => rw [ownPl_cons, ih rs hm.2, hm.1]; rfl
      refine ⟨?_, fun a o ho => R3.keep a o ho ?_⟩
      · apply List.ext_getElem?
        intro j
        exact e2 j (by rw [hown _ _ hall]; simp)
      · have hz : TA.fpl (gs.map Ag.ta) = [] := by
          have : ∀ (gs : List Ag), (∀ g ∈ gs, g.bor = true) → TA.fpl (gs.map Ag.ta) = [] := by
            intro gs
            induction gs with
            | nil => intro _; rfl
            | cons g gs ih =>
              intro hg
              rw [List.map_cons, TA.fpl, ih fun g' h' => hg g' (List.mem_cons_of_mem _ h')]
              have := hg g List.mem_cons_self
              cases g with
              | leaf v x => rfl
              | own c => cases this
              | lend c x => rfl
          refine this gs fun g hg => ?_
          obtain ⟨i, hi⟩ := List.getElem?_of_mem hg
          have hlen : gs.length = fs.md.length := by
            have := Y.len
            rw [← Y.v, List.length_map] at this
            exact this
          have hil : i < fs.md.length := by rw [← hlen]; exact (List.getElem?_eq_some_iff.mp hi).1
          refine Y.mode i g ?_ hi
          rw [List.getElem?_eq_getElem hil]
          have := List.all_eq_true.mp hall _ (List.getElem_mem hil)
          simp only [decide_eq_true_eq] at this
          rw [this]
        show a ∉ TA.fpl (gs.map Ag.ta)
        rw [hz]
        simp
  · exact h.elim
end
end VL
set_option Elab.async false
set_option linter.all false
set_option maxRecDepth 100000
set_option maxHeartbeats 4000000
/-! VL12: the checker; the context. -/
namespace VL
open PySem PySem.Spec PyProof.Rows L2
structure Blk where
  N : List Str
  sc : Scope
  fnb : Str → Bool
def visB (sc : Scope) (x : Str) : Bool := match sc.names.lookup x with
  | some .local => true
  | some .cell => true
  | some .free => true
  | _ => false
def globB (sc : Scope) (x : Str) : Bool := match sc.names.lookup x with
  | some .globalImplicit => true
  | _ => false
def locB (b : Blk) (x : Str) : Bool := match b.sc.names.lookup x with
  | some .local => true
  | some .cell => b.fnb x
  | _ => false
def okNm (x : Str) : Bool := !(x == ("__debug__" : Str)) && !(x == ("__classdict__" : Str)) && !decide (x = ("__name__" : Str))
def varB (b : Blk) (i : Nat) (x : Str) : Bool := decide (b.N[i]? = some x) && visB b.sc x && okNm x
def tgB (b : Blk) (i : Nat) (x : Str) : Bool := decide (b.N[i]? = some x) && locB b x
def constIs : PyData → Const → Bool
  | .none, .none => true
  | .bool b, .bool c => b == c
  | .int i, .int j => i == j
  | .str s, .str t => decide (s = t)
  | _, _ => false
def noStar : Expr → Bool
  | .Starred _ _ => false
  | _ => true
def noSlice : Expr → Bool
  | .Slice _ _ _ _ => false
  | _ => true
def noSet : Expr → Bool
  | .Set _ _ _ => false
  | _ => true
def bltNm : Blt → Str
  | .len => "len"
  | .max => "max"
  | .min => "min"
  | .sum => "sum"
  | .abs => "abs"
  | .int => "int"
  | .str => "str"
  | .tuple => "tuple"
  | .list => "list"
  | .sorted => "sorted"
  | .all => "all"
  | .any => "any"
  | .listRange => "list"
def mthNm : Mth → Str
  | .append => "append"
  | .insert => "insert"
  | .pop => "pop"
  | .clear => "clear"
  | .reverse => "reverse"
  | .index => "index"
def bltCall (Γ : Sk) (b : Blk) (nm : Str) (x : Str) : Bool := decide (nm = x) && globB b.sc x && Γ.bs.contains x && okNm x
/-- the targets of a loop: one name, or a tuple of names -/
def tgsB (b : Blk) : List Nat → List Expr → Bool
  | [], [] => true
  | i :: is, .Name x _ :: es => tgB b i x && tgsB b is es
  | _, _ => false
def targB (b : Blk) (is : List Nat) (e : Expr) : Bool := match is, e with
  | [i], .Name x _ => tgB b i x
  | i :: j :: is, .Tuple es _ _ => tgsB b (i :: j :: is) es
  | _, _ => false
def blkOf (b : Blk) (scope : Scope) : Blk := ⟨b.N, relS scope b.sc, fun x => scope.names.lookup x == some .cell⟩
def ownOf (N : List Str) (is : List Nat) : List (Str × Nat) := is.filterMap fun i => (N[i]?).map fun x => (x, i)
def enB (it : ItK) (tg : Expr) : Bool := match it, tg with
  | .enum, .Tuple _ _ _ => true
  | .enum, _ => false
  | _, _ => true
def isTyNm (t : String) : Bool := t == "int" || t == "bool" || t == "list" || t == "tuple" || t == "str" || t == "dict"
def noCall : Expr → Bool
  | .Call _ _ _ _ => false
  | _ => true
/-- what a loop's iterable asks, its arguments -/
def itX (Γ : Sk) (b : Blk) (it : ItK) (e : Expr) : Option (List Expr) := match it with
  | .e => some [e]
  | .rng1 => match e with
    | .Call (.Name x _) [a] [] _ => if bltCall Γ b "range" x then some [a] else none
    | _ => none
  | .rng2 => match e with
    | .Call (.Name x _) [a, c] [] _ => if bltCall Γ b "range" x then some [a, c] else none
    | _ => none
  | .rng3 => match e with
    | .Call (.Name x _) [a, c, d] [] _ => if bltCall Γ b "range" x then some [a, c, d] else none
    | _ => none
  | .rrng => match e with
    | .Call (.Name y _) [.Call (.Name x _) [a] [] _] [] _ => if bltCall Γ b "reversed" y && bltCall Γ b "range" x then some [a] else none
    | _ => none
  | .enum => match e with
    | .Call (.Name x _) [a] [] _ => if bltCall Γ b "enumerate" x then some [a] else none
    | _ => none
def plainE : Expr → Bool
  | .Call _ _ _ _ => true
  | .Name _ _ => true
  | .List _ _ => true
  | .ListComp _ _ _ _ => true
  | .Subscript _ _ _ => true
  | .Tuple _ _ _ => true
  | .Attribute _ _ _ => true
  | .Dict _ _ _ => true
  | _ => false
def lcdV (b : Blk) (o : E) (e : Expr) : Bool := match o, e with
  | .var j, .Name y _ => varB b j y
  | _, _ => false
def clsHas (Γ : Sk) (c a : Str) : Bool := match Γ.cls.lookup c with
  | some (_, fs) => fs.contains a
  | none => false
def clsMth (Γ : Sk) (c m : Str) : Bool := match Γ.cls.lookup c with
  | some (ms, _) => ms.contains m
  | none => false
mutual
def chk (Γ : Sk) : Blk → E → Expr → Bool
  | b, .var i, e => match e with
    | .Name x _ => varB b i x
    | _ => false
  | b, .k c, e => match e with
    | .Constant k _ _ => constIs c k
    | _ => false
  | b, .glob g, e => match e with
    | .Name x _ => decide (g = x) && globB b.sc x && okNm x
    | _ => false
  | b, .bin op p q, e => match e with
    | .BinOp ea o eb _ => bopIs op o && chk Γ b p ea && chk Γ b q eb
    | _ => false
  | b, .neg p, e => match e with
    | .UnaryOp .USub ea _ => chk Γ b p ea
    | _ => false
  | b, .not p, e => match e with
    | .UnaryOp .Not ea _ => chk Γ b p ea
    | _ => false
  | b, .cmp op p q, e => match e with
    | .Compare ea [o] [eb] _ => copIs op o && noSet eb && chk Γ b p ea && chk Γ b q eb
    | _ => false
  | b, .chain op op' p q r, e => match e with
    | .Compare ea [o, o'] [eb, ec] _ => copIs op o && copIs op' o' && noSet eb && noSet ec && chk Γ b p ea && chk Γ b q eb && chk Γ b r ec
    | _ => false
  | b, .and p q, e => match e with
    | .BoolOp .And (e1 :: e2 :: es) pos => chk Γ b p e1 && (match es with
      | [] => chk Γ b q e2
      | e3 :: es => chk Γ b q (.BoolOp .And (e2 :: e3 :: es) pos))
    | _ => false
  | b, .or p q, e => match e with
    | .BoolOp .Or (e1 :: e2 :: es) pos => chk Γ b p e1 && (match es with
      | [] => chk Γ b q e2
      | e3 :: es => chk Γ b q (.BoolOp .Or (e2 :: e3 :: es) pos))
    | _ => false
  | b, .ite c p q, e => match e with
    | .IfExp ec ea eb _ => chk Γ b c ec && chk Γ b p ea && chk Γ b q eb
    | _ => false
  | b, .ix o i, e => match e with
    | .Subscript eo ei _ => noSlice ei && chk Γ b o eo && chk Γ b i ei
    | _ => false
  | b, .sl lo hi o es, e => match e with
    | .Subscript eo (.Slice l h none _) _ => chk Γ b o eo && (match l, h with
      | none, none => !lo && !hi && chkL Γ b es []
      | some l, none => lo && !hi && chkL Γ b es [l]
      | none, some h => !lo && hi && chkL Γ b es [h]
      | some l, some h => lo && hi && chkL Γ b es [l, h])
    | _ => false
  | b, .rev o, e => match e with
    | .Subscript eo (.Slice none none (some (.UnaryOp .USub (.Constant (.int 1) _ _) _)) _) _ => chk Γ b o eo
    | _ => false
  | b, .lst es, e => match e with
    | .List ees _ => chkL Γ b es ees
    | _ => false
  | b, .tup es, e => match e with
    | .Tuple ees _ _ => chkL Γ b es ees
    | _ => false
  | b, .call f es, e => match e with
    | .Call (.Name x _) (a :: as) [] _ => decide (f = x) && Γ.fn.contains f && globB b.sc x && okNm x && chkL Γ b es (a :: as)
    | _ => false
  | b, .blt t es, e => match e with
    | .Call (.Name x _) (a :: as) [] _ => match t with
      | .listRange => match a, as with
        | .Call (.Name y _) [n] [] _, [] => bltCall Γ b "list" x && bltCall Γ b "range" y && chkL Γ b es [n]
        | _, _ => false
      | t => bltCall Γ b (bltNm t) x && chkL Γ b es (a :: as)
    | _ => false
  | b, .isi p ty, e => match e with
    | .Call (.Name x _) [ea, .Name t _] [] _ => bltCall Γ b "isinstance" x && bltCall Γ b (Str.ofString ty) t && isTyNm ty && noStar ea && chk Γ b p ea
    | _ => false
  | b, .mth m o es, e => match e with
    | .Call (.Attribute eo nm ap) ees [] cp => decide (nm = mthNm m) && noCall eo && (ap.endLine == cp.line) && decide (ees.length < 20) && chk Γ b o eo && chkL Γ b es ees
    | _ => false
  | b, .lc is bor elt it ies cond, e => match e with
    | .ListComp e0 [⟨tg, iter, ifs, a⟩] scope _ => decide (a = 0) && (is.all fun i => !Γ.pin.contains i) && decide is.Nodup && noSet iter && blkC b.N b.sc scope (ownOf b.N is) && ((ownOf b.N is).map (·.2) == is) && targB (blkOf b scope) is tg && (match itX Γ b it iter with | some as => chkL Γ b ies as | none => false) && chk Γ (blkOf b scope) elt e0 && chkL Γ (blkOf b scope) cond ifs && decide (ifs.length ≤ 1) && enB it tg
    | _ => false
  | b, .rpr p, e => match e with
    | .Call (.Name x _) [ea] [] _ => bltCall Γ b "repr" x && noStar ea && chk Γ b p ea
    | _ => false
  | b, .dct0, e => match e with
    | .Dict [] [] _ => true
    | _ => false
  | b, .dix o i, e => match e with
    | .Subscript eo ei _ => noSlice ei && chk Γ b o eo && chk Γ b i ei
    | _ => false
  | b, .dgt o i, e => match e with
    | .Call (.Attribute eo nm ap) [ei] [] cp => decide (nm = ("get" : Str)) && noCall eo && (ap.endLine == cp.line) && noStar ei && chk Γ b o eo && chk Γ b i ei
    | _ => false
  | b, .din neg i o, e => match e with
    | .Compare ei [op] [eo] _ => copIs (if neg then .notin else .isin) op && noSet eo && chk Γ b i ei && chk Γ b o eo
    | _ => false
  | b, .dcp o, e => match e with
    | .Call (.Name x _) [eo] [] _ => bltCall Γ b "dict" x && noStar eo && chk Γ b o eo
    | _ => false
  | b, .deq neg p q, e => match e with
    | .Compare ea [op] [eb] _ => copIs (if neg then .ne else .eq) op && noSet eb && chk Γ b p ea && chk Γ b q eb
    | _ => false
  | b, .frz p, e => plainE e && chk Γ b p e
  | b, .mov i, e => false
  | b, .dpop o i d, e => match e with
    | .Call (.Attribute eo nm ap) [ei, ed] [] cp => decide (nm = ("pop" : Str)) && noCall eo && (ap.endLine == cp.line) && noStar ei && noStar ed && chk Γ b o eo && chk Γ b i ei && chk Γ b d ed
    | _ => false
  | b, .dsrt o, e => match e with
    | .Call (.Name x _) [eo] [] _ => bltCall Γ b "sorted" x && noStar eo && chk Γ b o eo
    | _ => false
  | b, .dlst o, e => match e with
    | .Call (.Name x _) [eo] [] _ => bltCall Γ b "list" x && noStar eo && chk Γ b o eo
    | _ => false
  | b, .dlen o, e => match e with
    | .Call (.Name x _) [eo] [] _ => bltCall Γ b "len" x && noStar eo && chk Γ b o eo
    | _ => false
  | b, .lcd i elt o cond, e => match e with
    | .ListComp e0 [⟨.Name x _, iter, ifs, a⟩] scope _ => decide (a = 0) && blkC b.N b.sc scope (ownOf b.N [i]) && ((ownOf b.N [i]).map (·.2) == [i]) && tgB (blkOf b scope) i x && lcdV b o iter && chk Γ (blkOf b scope) elt e0 && chkL Γ (blkOf b scope) cond ifs && decide (ifs.length ≤ 1)
    | _ => false
  | b, .ddsp ks es, e => false
  | b, .dprs p, e => false
  | b, .mxd mx p, e => false
  | b, .lset p, e => false
  | b, .sset p, e => false
  | b, .att c a o, e => match e with
    | .Attribute eo nm _ => decide (nm = a) && clsHas Γ c a && noCall eo && chk Γ b o eo
    | _ => false
  | b, .mcall c m o es, e => match e with
    | .Call (.Attribute eo nm ap) ees [] cp => decide (nm = m) && !(decide (m = ("__init__" : Str))) && clsMth Γ c m && noCall eo && (ap.endLine == cp.line) && decide (ees.length < 20) && chk Γ b o eo && chkL Γ b es ees
    | _ => false
  | b, .new c es, e => match e with
    | .Call (.Name x _) ees [] _ => decide (x = c) && clsMth Γ c "__init__" && globB b.sc x && okNm x && chkL Γ b es ees
    | _ => false
def chkL (Γ : Sk) : Blk → List E → List Expr → Bool
  | b, [], es => match es with
    | [] => true
    | _ :: _ => false
  | b, c :: cs, es => match es with
    | e :: es => noStar e && chk Γ b c e && chkL Γ b cs es
    | [] => false
end
def chkIt (Γ : Sk) (b : Blk) (it : ItK) (es : List E) (e : Expr) : Bool := match itX Γ b it e with
  | some as => chkL Γ b es as
  | none => false
end VL
set_option Elab.async false
set_option linter.all false
set_option maxRecDepth 100000
set_option maxHeartbeats 4000000
/-! VG1: what a def promises where no repr is under way: as FnOk, with a word of the guards. -/
namespace VL
open PySem PySem.Spec PyProof.Rows L2
structure FnG (P : Program) (w : World) (K : PySem.W.Frag) (mg : Str → Option Value) (base : Heap) (CX : CXT) (k : Nat) (f : Addr) (fd : FuncData) (ps : List Str) (sp : Sp) : Prop where
  len : ∀ vs H Q E, sp vs H Q E → vs.length = ps.length
  run : ∀ (A : Around) (outer : List Env) (s : Shared) (H : Hp) (args : Args) (us : List Value) (vs : List V) (Q : VK) (E : XK), Room k A → A.guards = some [] → Env0 P w K mg base A outer s H → BindsTo s fd args (ps.zip us) → Vals vs us → sp vs H Q E →
    codeAny (model P w) A (.call (.ref f) args) (CR CX outer P w H s Q E) s
theorem FnG.mono {P : Program} {w : World} {K : PySem.W.Frag} {mg : Str → Option Value} {base : Heap} {CX : CXT} {j k : Nat} {f : Addr} {fd : FuncData} {ps : List Str} {sp : Sp} (F : FnG P w K mg base CX j f fd ps sp) (h : j ≤ k) : FnG P w K mg base CX k f fd ps sp :=
  ⟨F.len, fun A outer s H args us vs Q E hr hg => F.run A outer s H args us vs Q E (hr.mono h) hg⟩
theorem fnG_of {CX : CXT} {P : Program} {w : World} {K : PySem.W.Frag} {mg : Str → Option Value} {base : Heap} {k : Nat} {f : Addr} {name qual : Str} {params : Arguments} {body : List Stmt} {scope : Scope} {dV kV doc pm cdv ct oc : Value} {an od : Option Addr} {osl : Array (Option Value)} {N ps : List Str} {sp : Sp}
    (lk : K.lookup f = some ⟨oc, od, .func (PySem.W.fnOf name qual params body scope dV kV doc pm an cdv ct), osl⟩) (hcd : PySem.W.codeIn K cdv qual = true) (S : FnScope N ps scope) (len : ∀ vs H Q E, sp vs H Q E → vs.length = ps.length)
    (hbody : ∀ (A : Around) (outer : List Env) (s : Shared) (H : Hp) (vs : List V) (Q : VK) (E : XK), Room k (A.deeper (envOfC qual scope s.heap.objs.size f cdv)) → (A.deeper (envOfC qual scope s.heap.objs.size f cdv)).guards = some [] → sp vs H Q E →
      ∃ t, PSs (cxOf CX P w K mg base N qual scope f cdv A outer s H E) body t ∧ t { nx := fun _ H' => Q .non H', rt := Q } (start N vs) H) :
    FnG P w K mg base CX (k + 1) f (PySem.W.fnOf name qual params body scope dV kV doc pm an cdv ct) ps sp := by
  refine ⟨len, fun A outer s H args us vs Q E hr hgd env hbd rv hsp => ?_⟩
  have hlen := len _ _ _ _ hsp
  have kin : K.In s.heap := env.mod.kin.keeps fun b o z => (env.bs b o z).1
  have nlim : s.heap.NoLimit := env.mod.nolimit.keeps fun b o z => (env.bs b o z).1
  have kinds : ∀ y ∈ ps.zip us, scope.names.lookup y.1 = some .local ∨ (scope.names.lookup y.1 = some .cell ∧ ((cellsFrom (s.heap.objs.size + 1) scope.names []).lookup y.1).isSome = true) := by
    rintro ⟨nm, vl⟩ hy
    exact (S.par nm (List.of_mem_zip hy).1).imp id fun z => ⟨z, PySem.W.cellsFrom_some _ _ _ (.inl z)⟩
  refine codeAny_call_function hr.depth (kin _ _ lk) rfl S.co S.gen rfl (PySem.W.codeRec_of kin hcd) (hbd _ _ _ _ (wpAny_newFunctionEnv_cells S.kind kinds fun env' he' s1 x => ?_))
  subst he'
  obtain ⟨t, ht, hq⟩ := hbody A outer s H vs Q E (hr.deeper _) hgd hsp
  have I0 : Inv (cxOf CX P w K mg base N qual scope f cdv A outer s H E) [] (start N vs) H s1 := inv_start S hr.hd env hlen rv x
  refine ⟨nlim.keeps x.toInCall.keep, codeAny_func (wpAny_mono (ht.run [] s1 (start N vs) H _ I0 hq) (fun fl s' hs => ?_) fun _ _ z => z)⟩
  cases fl with
  | ret u => obtain ⟨v, σ', H', J, r2, q⟩ := hs; exact ⟨v, H', J.os, J.bare, J.base, J.hok, r2, q⟩
  | next => obtain ⟨σ', H', J, q⟩ := hs; exact ⟨V.non, H', J.os, J.bare, J.base, J.hok, rfl, q⟩
  | brk => obtain ⟨_, _, _, q⟩ := hs; exact q.elim
  | cont => obtain ⟨_, _, _, q⟩ := hs; exact q.elim
/-- a def by its body -/
theorem fun_okG {P : Program} {w : World} {K : PySem.W.Frag} {mg : Str → Option Value} {base : Heap} {x qual : Str} {st : Stmt} {f : Addr} {fd : FuncData} {N ps : List Str} {k : Nat} {sp : Sp} (F : Fun K x qual st f fd) (S : FnScope N ps (defScope st)) (len : ∀ vs H Q E, sp vs H Q E → vs.length = ps.length)
    (hbody : ∀ (cdv : Value) (A : Around) (outer : List Env) (s : Shared) (H : Hp) (vs : List V) (Q : VK) (E : XK), Room k (A.deeper (envOfC qual (defScope st) s.heap.objs.size f cdv)) → (A.deeper (envOfC qual (defScope st) s.heap.objs.size f cdv)).guards = some [] → sp vs H Q E →
      ∃ t, PSs (cxOf CX0 P w K mg base N qual (defScope st) f cdv A outer s H E).nox (defBody st) t ∧ t { nx := fun _ H' => Q .non H', rt := Q } (start N vs) H) : FnG P w K mg base CX0 (k + 1) f fd ps sp := by
  obtain ⟨oc, od, kV, doc, pm, an, cdv, ct, osl, rfl, lk, hcd⟩ := F.ex
  exact fnG_of lk hcd S len fun A outer s H vs Q E hr hgd hsp => (hbody cdv A outer s H vs Q E hr hgd hsp).imp fun t ⟨h, q⟩ => ⟨h.nox, q⟩
section
variable {X : Cx} {CX : CXT} {k : Nat} {f : Addr} {fd : FuncData} {ps : List Str} {sp : Sp} {dvs : List V} {ds : List Value} {E : XK} {x : Str} {p pos : Pos} {e : Expr} {es : List Expr} {t : L2.TA}
theorem runG {pins : List (Addr × Obj)} {σ : L2.St} {H : Hp} {s : Shared} {Q : VK} {us : List Value} {vs : List V} (F : FnG X.prog X.w X.K X.mg X.base CX k f fd ps sp) (hr : Room k X.A) (hgd : X.A.guards = some []) (hb : Binds X.K fd ps ds) (hd : Vals dvs ds) (hx : Passes CX X E)
    (I : Inv X pins σ H s) (r : Vals vs us) (h : sp (vs ++ dvs) H Q E) : wpAny (model X.prog X.w) X.A (call (.ref f) us) (EP X pins σ Q) X.xe s := by
  have both : Vals (vs ++ dvs) (us ++ ds) := r.append hd
  have hlen : (us ++ ds).length = ps.length := by rw [← both.length, F.len _ _ _ _ h]
  refine wpAny_call (codeAny_mono (F.run X.A X.stack s H ⟨us, []⟩ (us ++ ds) (vs ++ dvs) Q E hr hgd I.env0 (hb s us I.kIn hlen) both h) fun res s' hres => ?_)
  match res, hres with
  | .error e, z => exact hx pins σ H s e s' I z
  | .ok (.ret u), z => exact I.after z
theorem pe_callG (F : FnG X.prog X.w X.K X.mg X.base CX k f fd ps sp) (hr : Room k X.A) (hgd : X.A.guards = some []) (hg : Gl X x) (hm : X.mg x = some (.ref f)) (hk : PySem.W.keepIn X.K (.ref f) = true) (hb : Binds X.K fd ps ds) (hd : Vals dvs ds) (hx : Passes CX X E)
    (ha : PA X (e :: es) t) (hdb : (x == ("__debug__" : Str)) = false) (he : starEach (e :: es) X.env = (false, eval e X.env) :: starEach es X.env) (hpl : (backTo pos (starEach es X.env)).any (·.1) = false) : PE X (.Call (.Name x p) (e :: es) [] pos) (tCall sp dvs E t) :=
  ⟨fun pins s σ H Q I h => wpAny_Call_Name_kw (ld_glob I hg hm (PySem.W.callWith_K (h₀ := X.base) I.ok.mod.kin hk (thn (ha.run pos pins s σ H _ I h) fun us s1 ⟨vs, H1, I1, r, q⟩ => ⟨I1.kIn, runG F hr hgd hb hd hx I1 r q⟩) he hpl) hdb)⟩
end
end VL
set_option Elab.async false
set_option linter.all false
set_option maxRecDepth 100000
set_option maxHeartbeats 4000000
/-! VG2: the law's call, by a promise that knows the guards. -/
namespace VL
open PySem PySem.Spec PyProof.Rows L2
section
variable {P : Program} {w : World} {K : PySem.W.Frag} {mg mb : Str → Option Value} {CX : CXT} {k : Nat} {fa a : Addr} {fd : FuncData} {x : Str} {sp : Sp} {t1 : Shared} {us : List Value} {is : List Int}
/-- from an abstract heap that holds the script at most -/
theorem law_midG (KX : K.In t1.heap) (gm : t1.heap.Ns mainGlobals mg) (gb : t1.heap.Ns builtinsNs mb) (bb : ∀ y : Str, y ≠ "__name__" → mb y = bootBuiltins y) (lim : t1.heap.NoLimit) (gens0 : t1.gens = #[])
    (obj : t1.heap.get? a = some { cls := .type "list", data := .seq us.toArray }) (room : Room k callerA) (F : ∀ base : Heap, K.In base → base.Ns mainGlobals mg → FnG P w K mg base CX k fa fd [x] sp) (bind : ∀ (s : Shared) (u : Value), BindsTo s fd ⟨[u], []⟩ [(x, u)])
    (noX : ∀ H e s', CX [] H t1 (fun _ _ _ => False) e s' → False) {H : Hp} (hO : Only H) (hsp : sp [.ref a] H (fun v _ => v = .bl true) fun _ _ _ => False) (hok : HOk P w H t1.heap) (hA : ∀ b, H b ≠ none → b = a) (hK : H a ≠ none → K.lookup a = none) :
    codeAny (model P w) callerA (.call (.ref fa) ⟨[.ref a], []⟩) (fun r s' => r = .ok (.ret (.bool true)) ∧ OldK t1.heap s'.heap ∧ s'.os = t1.os ∧ AllBare s'.gens) t1 := by
  have only : ∀ {b : Addr} {u : HO}, H b = some u → b = a := fun {b u} z => hA b fun z' => by rw [z] at z'; cases z'
  have dictFree : ∀ {b : Addr} {o : Obj} {es : Array DictEntry} {ep : Nat}, t1.heap.get? b = some o → o.data = .dict es ep → H b = none := by
    intro b o es ep g d
    cases q : H b with
    | none => rfl
    | some u =>
      obtain rfl := only q
      rw [obj] at g
      cases g
      exact nomatch d
  have keepNs : ∀ {b : Addr} {m : Str → Option Value}, t1.heap.Ns b m → (hidT t1.heap H).Ns b m := by
    rintro b m ⟨o, es, ep, g, d, r⟩
    exact ⟨o, es, ep, hidT_get g (dictFree g d), d, r⟩
  have KB : K.In (hidT t1.heap H) := by
    intro b o g
    refine hidT_get (KX b o g) ?_
    cases q : H b with
    | none => rfl
    | some u =>
      obtain rfl := only q
      rw [hK (by rw [q]; simp)] at g
      cases g
  have md : Mod K mg (hidT t1.heap H) := by
    obtain ⟨mc, l1, l2⟩ := lim
    exact ⟨KB, keepNs gm, ⟨mb, keepNs gb, bb⟩, mc, keepNs l1, l2⟩
  have env : Env0 P w K mg (hidT t1.heap H) callerA [] t1 H := by
    refine ⟨rfl, md, fun b o g => of_hidT g, Nat.le_of_eq (hidT_size _ _), trivial, fun b hb => ?_, hok, .of_eq gens0⟩
    cases (show b ∈ ([] : List Addr) from hb)
  refine codeAny_mono ((F _ KB (keepNs gm)).run callerA [] t1 H ⟨[.ref a], []⟩ [.ref a] [.ref a] _ _ room rfl env (bind t1 (.ref a)) (.cons rfl .nil) hsp) fun res s' hres => ?_
  match res, hres with
  | .error e, z => exact (noX H e s' z).elim
  | .ok (.ret u), ⟨v, H', os, bare, un, hok', rv, q⟩ =>
    have q' : v = .bl true := q
    subst q'
    have eu : u = Value.bool true := rv
    subst eu
    refine ⟨rfl, OldK.of_keep fun b o g => ?_, os, bare⟩
    cases hb : H b with
    | none =>
      refine un.keep b o g hb (fun z => ?_) (by simp)
      cases (show b ∈ ([] : List Addr) from z)
    | some hobj =>
      rcases hO b with z | ⟨ob, xs, z⟩
      · rw [hb] at z; cases z
      · obtain ⟨g1, _⟩ := hok b _ z
        obtain ⟨g2, _⟩ := hok' b _ (un.frzs b ob _ z)
        rw [g] at g1
        cases g1
        exact g2
theorem law_callG (KX : K.In t1.heap) (gm : t1.heap.Ns mainGlobals mg) (gb : t1.heap.Ns builtinsNs mb) (bb : ∀ y : Str, y ≠ "__name__" → mb y = bootBuiltins y) (lim : t1.heap.NoLimit) (gens0 : t1.gens = #[])
    (obj : t1.heap.get? a = some { cls := .type "list", data := .seq us.toArray }) (hin : IntsAre us is) (hl : is.length ≤ sizeLine) (room : Room k callerA) (F : ∀ base : Heap, K.In base → base.Ns mainGlobals mg → FnG P w K mg base CX k fa fd [x] sp) (bind : ∀ (s : Shared) (u : Value), BindsTo s fd ⟨[u], []⟩ [(x, u)])
    (hsp : ∀ H : Hp, Only H → SqL K H a (is.map V.int) → sp [.ref a] H (fun v _ => v = .bl true) fun _ _ _ => False) (noX : ∀ H e s', CX [] H t1 (fun _ _ _ => False) e s' → False) :
    codeAny (model P w) callerA (.call (.ref fa) ⟨[.ref a], []⟩) (fun r s' => r = .ok (.ret (.bool true)) ∧ OldK t1.heap s'.heap ∧ s'.os = t1.os ∧ AllBare s'.gens) t1 := by
  have vals := vals_ints hin
  have lenU := hin.length
  by_cases hk : ∃ o, K.lookup a = some o
  · obtain ⟨o, hk⟩ := hk
    have g := KX a o hk
    rw [obj] at g
    cases g
    refine law_midG KX gm gb bb lim gens0 obj room F bind noX (H := fun _ => none) (fun _ => .inl rfl) (hsp _ (fun _ => .inl rfl) (.inr ⟨_, us.toArray, _, hk, rfl, rfl, rfl, by rw [List.size_toArray, lenU]; exact hl, by simpa using vals⟩)) (fun b u z => ?_) (fun b z => absurd rfl z) fun z => absurd rfl z
    exact nomatch (show (none : Option HO) = some u from z)
  · have hk' : K.lookup a = none := by
      cases q : K.lookup a with
      | none => rfl
      | some o => exact (hk ⟨o, q⟩).elim
    obtain ⟨H, hH⟩ : ∃ H : Hp, ∀ b, H b = if b = a then some (.frz { cls := .type "list", data := .seq us.toArray } (.lst (is.map V.int))) else none := ⟨_, fun _ => rfl⟩
    have at_a : H a = some (.frz { cls := .type "list", data := .seq us.toArray } (.lst (is.map V.int))) := by rw [hH, if_pos rfl]
    have off : ∀ b, b ≠ a → H b = none := fun b hb => by rw [hH, if_neg hb]
    have hO : Only H := fun b => by
      by_cases hb : b = a
      · subst hb; exact .inr ⟨_, _, at_a⟩
      · exact .inl (off b hb)
    refine law_midG KX gm gb bb lim gens0 obj room F bind noX hO (hsp H hO (.inl (.inr ⟨_, at_a⟩))) (fun b u z => ?_) (fun b z => ?_) fun _ => hk'
    · by_cases hb : b = a
      · subst hb
        rw [at_a] at z
        cases z
        exact ⟨obj, by rw [List.length_map]; exact hl, us, _, vals, obj⟩
      · rw [off b hb] at z
        cases z
    · by_cases hb : b = a
      · exact hb
      · exact absurd (off b hb) z
end
theorem walkG {l : PySem.W.OpenLaw} {n k : Nat} {q : Program} {loose : List Str} {XP : (Str → Option Value) → Heap → Prop} {YP : World → Heap → Prop} {d : DefRec} {K : Params → PySem.W.Frag} {CX : World → CXT} {sp : World → Sp} {x : Str} (hn : l.most = some n) (hn2 : n ≤ sizeLine) (hdf : d.params.defaults = []) (hr : Room k callerA)
    (hY : ∀ (w : World) (h : Heap), YP w h → (K w.params).In h) (F : ∀ (w : World) (mg : Str → Option Value) (fa : Addr) (h : Heap), (K w.params).In h → h.Ns mainGlobals mg → mg d.name = some (.ref fa) → ∃ fd : FuncData, (∀ (s : Shared) (u : Value), BindsTo s fd ⟨[u], []⟩ [(x, u)]) ∧
      ∀ base : Heap, (K w.params).In base → base.Ns mainGlobals mg → FnG l.prog w (K w.params) mg base (CX w) k fa fd [x] (sp w))
    (hsp : ∀ (w : World) (H : Hp) (a : Addr) (ns : List Int), ns.length ≤ n → (∀ z ∈ ns, Builtin.Int.intBits z ≤ 1048576) → Only H → SqL (K w.params) H a (ns.map V.int) → sp w [.ref a] H (fun v _ => v = .bl true) fun _ _ _ => False)
    (hCX : ∀ (w : World) (H : Hp) (s : Shared) (e : Value) (s' : Shared), CX w [] H s (fun _ _ _ => False) e s' → False) : PySem.W.WalkO q loose XP YP l.row.toRowW d [] (fun f vs => PySem.call f vs) := by
  refine Att.attach_callB hn hdf fun w s₀ t1 mg mb fa o pm cd doc a us is G Y ho hd hcd hmg obj hin hlen hbits hg => ?_
  obtain ⟨fd, hb, hF⟩ := F w mg fa _ (hY w _ Y) G.T.g hmg
  exact law_callG (hY w _ Y) G.T.g G.T.b G.T.builtins G.T.nolimit hg obj hin (Nat.le_trans hlen hn2) hr hF hb (fun H hO hS => hsp w H a is hlen hbits hO hS) fun H e s' => hCX w H t1 e s'
end VL
set_option Elab.async false
set_option linter.all false
set_option maxRecDepth 100000
set_option maxHeartbeats 4000000
/-! VL13: expressions, sound, one by one. -/
namespace VL
open PySem PySem.Spec PyProof.Rows L2
structure ClsOk (P : Program) (w : World) (K : PySem.W.Frag) (mg : Str → Option Value) (base : Heap) (k : Nat) (c : Str) (ci : CI) : Prop where
  cl : Cls K ci.C
  fld : ∀ a ∈ ci.fld, NoAttr K ci.C a
  mt : ∀ m fs, ci.mt.lookup m = some fs → m ≠ "__init__" → ∃ f fd ps, Meth K ci.C m f ∧ FnG P w K mg base CX0 k f fd ps (spV K fs.md fs.F) ∧ Binds K fd ps []
  ini : ∀ fs, ci.mt.lookup ("__init__" : Str) = some fs → mg c = some (.ref ci.C) ∧ ∃ f fd ps j, j + 1 ≤ k ∧ Mk K ci.C f ∧ FnG P w K mg base CX0 j f fd ps (spV K fs.md fs.F) ∧ Binds K fd ps []
structure CxOk (X : Cx) (Γ : Ctx) (b : Blk) (k : Nat) : Prop where
  N : X.N = b.N
  sc : X.env.scope = b.sc
  calm : X.calm = true
  room : Room k X.A
  gd : X.A.guards = some []
  nd : b.N.Nodup
  fn : ∀ x, b.fnb x = true → X.fn x = true
  glob : ∀ g x, Γ.glob.lookup g = some x → ∃ v u, X.mg g = some u ∧ RelV v u ∧ ∀ Hs, Rp X.K Hs v x
  bi : ∀ n ∈ Γ.bs, X.mg n = none
  fns : ∀ f fs, Γ.fn.lookup f = some fs → ∃ a fd ps, FnG X.prog X.w X.K X.mg X.base CX0 k a fd ps (spV X.K fs.md fs.F) ∧ X.mg f = some (.ref a) ∧ PySem.W.keepIn X.K (.ref a) = true ∧ Binds X.K fd ps []
  cls : ∀ c ci, Γ.cls.lookup c = some ci → ClsOk X.prog X.w X.K X.mg X.base k c ci
section
variable {X : Cx} {Γ : Ctx} {b : Blk} {k : Nat} {pos : Pos} {ea eb ec : Expr} {p q r : E} {pu : Bool}
theorem CxOk.gl (C : CxOk X Γ b k) {x : Str} (h : globB b.sc x = true) : Gl X x := by
  unfold Gl Env.kindOf
  rw [C.sc]
  unfold globB at h
  split at h
  · assumption
  · cases h
theorem CxOk.vis (C : CxOk X Γ b k) {x : Str} (h : visB b.sc x = true) : Vis X.env.scope x := by
  unfold Vis
  rw [C.sc]
  unfold visB at h
  split at h
  · exact .inl (by assumption)
  · exact .inr (.inl (by assumption))
  · exact .inr (.inr (by assumption))
  · cases h
theorem CxOk.loc (C : CxOk X Γ b k) {x : Str} (h : locB b x = true) : L2.Loc X.env.scope x ∧ (X.fn x = true ∨ X.env.scope.names.lookup x = some .local) := by
  unfold L2.Loc
  rw [C.sc]
  unfold locB at h
  split at h
  · exact ⟨.inl (by assumption), .inr (by assumption)⟩
  · exact ⟨.inr (by assumption), .inl (C.fn x h)⟩
  · cases h
theorem okNm_of {x : Str} (h : okNm x = true) : (x == ("__debug__" : Str)) = false ∧ (x == ("__classdict__" : Str)) = false ∧ x ≠ "__name__" := by
  unfold okNm at h
  simp only [Bool.and_eq_true, Bool.not_eq_true', decide_eq_false_iff_not] at h
  exact ⟨h.1.1, h.1.2, h.2⟩
theorem star_of {e : Expr} {es : List Expr} {env : Env} (h : noStar e = true) : starEach (e :: es) env = (false, eval e env) :: starEach es env := by
  cases e <;> first | rfl | (exact (Bool.noConfusion h))
theorem stars_of {env : Env} {pos : Pos} : ∀ {es : List Expr}, es.all noStar = true → (backTo pos (starEach es env)).any (·.1) = false
  | [], _ => rfl
  | e :: es, h => by
    simp only [List.all_cons, Bool.and_eq_true] at h
    rw [star_of h.1]
    show (false || (backTo pos (starEach es env)).any (·.1)) = false
    rw [stars_of h.2]
    rfl
theorem le_var {i : Nat} {x : Str} (C : CxOk X Γ b k) (h : varB b i x = true) : PE X (.Name x pos) (LE X Γ.pin pu (wE Γ pu (.var i))) := by
  unfold varB at h
  simp only [Bool.and_eq_true, decide_eq_true_eq] at h
  obtain ⟨h1, h2, _⟩ := okNm_of h.2
  refine ⟨fun pins s σ H Q I hw => ?_⟩
  obtain ⟨B, Hs, sl, tp, P, R0, hw, hk⟩ := hw
  refine (pe_var (by rw [C.N]; exact h.1.1) (C.vis h.1.2) h1 h2).run pins s σ H Q I ?_
  rw [wE, tl_get] at hw
  cases e : sl[i]? with
  | none => rw [e] at hw; exact hw.elim
  | some t =>
    rw [e] at hw
    simp only [Option.map_some] at hw
    cases t with
    | dead v => rw [TA.t] at hw; exact hw.elim
    | d v y =>
      rw [TA.t] at hw
      have ok := R0.slot_ok e
      rw [TA.ok] at ok
      exact ⟨v, R0.val i _ e rfl, Cont.leaf hk R0 ok .refl hw⟩
    | nd kk a ts =>
      rw [TA.t] at hw
      exact ⟨.ref a, R0.val i _ e rfl, hk (.p i []) (.ref a) Hs H sl [] (by simpa using R0) ⟨rfl, _, _, e, rfl, rfl, rfl⟩ .refl hw⟩
theorem le_k {c : PyData} {cc : Const} {j : Nat} (h : constIs c cc = true) : PE X (.Constant cc j pos) (LE X Γ.pin pu (wE Γ pu (.k c))) := by
  refine ⟨fun pins s σ H Q I hw => ?_⟩
  obtain ⟨B, Hs, sl, tp, P, R0, hw, hk⟩ := hw
  rw [wE] at hw
  cases c <;> cases cc <;> first
    | exact (Bool.noConfusion h)
    | (simp only [constIs, beq_iff_eq, decide_eq_true_eq] at h
       try subst h
       first
        | exact pe_non.run pins s σ H Q I (Cont.leaf hk R0 .non .refl hw)
        | exact pe_bl.run pins s σ H Q I (Cont.leaf hk R0 (.bl _) .refl hw)
        | exact pe_int.run pins s σ H Q I (Cont.leaf hk R0 (.int _) .refl hw)
        | exact pe_str.run pins s σ H Q I (Cont.leaf hk R0 (.str _) .refl hw))
theorem le_glob {g x : Str} (C : CxOk X Γ b k) (h : (decide (g = x) && globB b.sc x && okNm x) = true) : PE X (.Name x pos) (LE X Γ.pin pu (wE Γ pu (.glob g))) := by
  simp only [Bool.and_eq_true, decide_eq_true_eq] at h
  obtain ⟨⟨rfl, h2⟩, h3⟩ := h
  refine ⟨fun pins s σ H Q I hw => ?_⟩
  obtain ⟨B, Hs, sl, tp, P, R0, hw, hk⟩ := hw
  rw [wE] at hw
  split at hw
  · rename_i y hy
    obtain ⟨v, u, g1, g2, g3⟩ := C.glob g y hy
    exact (pe_glob (C.gl h2) g1 g2 (okNm_of h3).1).run pins s σ H Q I (Cont.leaf hk R0 (g3 _) .refl hw)
  · exact hw.elim
abbrev PEc (X : Cx) (Γ : Ctx) (e : Expr) (c : E) : Prop := ∀ pu, PE X e (LE X Γ.pin pu (wE Γ pu c))
theorem le_bin {op : BOp} (ha : PEc X Γ ea p) (hb : PEc X Γ eb q) : PE X (.BinOp ea (bopO op) eb pos) (LE X Γ.pin pu (wE Γ pu (.bin op p q))) := by
  refine ⟨fun pins s σ H Q I hw => ?_⟩
  obtain ⟨B, Hs, sl, tp, P, R0, hw, hk⟩ := hw
  rw [wE] at hw
  exact wpAny_BinOp (two (pb := fun _ => pu) (wb := fun _ => wE Γ pu q) (wb' := fun pu' => wE Γ pu' q) R0 hw hb I (ha pu) fun v u s2 x y H2 ra rb Hs2 sl2 nw1 nw2 I2 rx ry R2 r1 r2 st h => op_binW I2 rx ry R2 r1 r2 st hk h)
theorem le_neg (ha : PEc X Γ ea p) : PE X (.UnaryOp .USub ea pos) (LE X Γ.pin pu (wE Γ pu (.neg p))) := by
  refine ⟨fun pins s σ H Q I hw => ?_⟩
  obtain ⟨B, Hs, sl, tp, P, R0, hw, hk⟩ := hw
  rw [wE] at hw
  refine UnaryOp_ (one R0 hw I (ha pu) fun v s1 x H1 ra Hs1 sl1 nw1 I1 rx R1 r1 st h => ?_)
  split at h
  · rename_i i e
    have := (r1.dpT R1 e).2.int_v
    subst this
    exact un_neg pins s1 σ H1 _ v Q I1 rx ⟨i, rfl, Cont.leaf hk R1.drop (.int _) st h⟩
  · exact h.elim
theorem le_cmp {op : COp} (C : CxOk X Γ b k) (hs : noSet eb = true) (ha : PEc X Γ ea p) (hb : PEc X Γ eb q) : PE X (.Compare ea [copO op] [eb] pos) (LE X Γ.pin pu (wE Γ pu (.cmp op p q))) := by
  refine ⟨fun pins s σ H Q I hw => ?_⟩
  obtain ⟨B, Hs, sl, tp, P, R0, hw, hk⟩ := hw
  rw [wE] at hw
  refine wpAny_Compare1 (two (pb := fun _ => pu) (wb := fun _ => wE Γ pu q) (wb' := fun pu' => wE Γ pu' q) R0 hw hb I (ha pu) fun v u s2 x y H2 ra rb Hs2 sl2 nw1 nw2 I2 rx ry R2 r1 r2 st h => op_cmpW C.room.units I2 rx ry R2 r1 r2 h fun z hz => Cont.leaf hk R2.drop.drop (.bl z) st hz) ?_
  cases eb <;> first | rfl | (exact (Bool.noConfusion hs))
/-- the reading of a test: the result, and its truth -/
def LR (X : Cx) (ix : List Nat) (pu : Bool) (w : St → (R → St → Prop) → Prop) : TT := fun σ H Q => ∃ (B : B0) (Hs : Hp) (sl tp : List TA) (P : R → Bool → St → Prop), Rel X.K ⟨B, ix⟩ Hs H σ sl tp ∧ w (TA.tl sl) (fun r σ1 => truW r σ1 fun c => P r c σ1) ∧
  ∀ r v c Hs' H' sl' nw, Rel X.K ⟨B, ix⟩ Hs' H' σ sl' (tp ++ nw) → RR r v sl' nw → Stp pu H H' sl sl' → (∀ Kk : Bool → Prop, truW r (TA.tl sl') Kk → Kk c) → P r c (TA.tl sl') → Q c H'
abbrev PTc (X : Cx) (Γ : Ctx) (e : Expr) (c : E) : Prop := ∀ pu, PT X e (LR X Γ.pin pu (wE Γ pu c))
theorem truW_at {r : R} {σ : St} {Kk : Bool → Prop} (h : truW r σ Kk) : ∃ c, Kk c ∧ ∀ Kk' : Bool → Prop, truW r σ Kk' → Kk' c := by
  unfold truW at h
  split at h
  · rename_i t ht
    split at h
    · rename_i c hc
      refine ⟨c, h, fun Kk' h' => ?_⟩
      unfold truW at h'
      rw [ht] at h'
      simp only at h'
      rw [hc] at h'
      exact h'
    · exact h.elim
  · exact h.elim
/-- any value's truth -/
theorem lr_plain {e : Expr} {c : E} (h : PEc X Γ e c) (he : ∀ whole, isTrue e X.env whole = (do let v ← whole; standAt e.pos; holding [v] (truthy v))) : PT X e (LR X Γ.pin pu (wE Γ pu c)) := by
  refine ⟨fun pins s σ H Q I hw => ?_⟩
  obtain ⟨B, Hs, sl, tp, P, R0, hw, hk⟩ := hw
  refine isTrue_plain (one R0 hw I (h pu) fun v s1 x H1 ra Hs1 sl1 nw1 I1 rx R1 r1 st h => ?_) (he _)
  obtain ⟨c, hc, hu⟩ := truW_at h
  obtain ⟨c', ht, hc'⟩ := truW_of (Kk := fun c' => c' = c) R1 r1 (by
    unfold truW at h ⊢
    split at h
    · split at h
      · rename_i b0 hb0
        have := hu (fun z => z = b0) (by unfold truW; simp only [*])
        simp only [*]
      · exact h.elim
    · exact h.elim)
  subst hc'
  exact tru_ok pins s1 σ H1 x v Q I1 rx ⟨c', ht, hk ra x c' Hs1 H1 sl1 nw1 R1 r1 st hu hc⟩
theorem lr_cmp {op : COp} (C : CxOk X Γ b k) (hs : noSet eb = true) (ha : PEc X Γ ea p) (hb : PEc X Γ eb q) : PT X (.Compare ea [copO op] [eb] pos) (LR X Γ.pin pu (wE Γ pu (.cmp op p q))) := by
  refine ⟨fun pins s σ H Q I hw => ?_⟩
  obtain ⟨B, Hs, sl, tp, P, R0, hw, hk⟩ := hw
  rw [wE] at hw
  refine wpAny_isTrue_Compare1 (two (pb := fun _ => pu) (wb := fun _ => wE Γ pu q) (wb' := fun pu' => wE Γ pu' q) R0 hw hb I (ha pu) fun v u s2 x y H2 ra rb Hs2 sl2 nw1 nw2 I2 rx ry R2 r1 r2 st h => thn (op_cmpW (Q := fun z H' => ∃ c, z = .bl c ∧ Q c H') C.room.units I2 rx ry R2 r1 r2 h fun z hz => ⟨z, rfl, ?_⟩) fun w s3 ⟨x3, H3, I3, r3, c, e3, q3⟩ => ?_) ?_
  · exact hk (.v (.d (.bool z))) (.bl z) z Hs2 H2 sl2 [.d (.bl z) (.bool z)] (R2.drop.drop.leaf (.bl z)) ⟨_, rfl, rfl, rfl, rfl⟩ st (fun Kk h => h) hz
  · subst e3
    cases r3
    exact wpAny_truthy_bool ⟨H3, I3, q3⟩
  · cases eb <;> first | rfl | (exact (Bool.noConfusion hs))
theorem lr_not (ha : PTc X Γ ea p) : PT X (.UnaryOp .Not ea pos) (LR X Γ.pin pu (wE Γ pu (.not p))) := by
  refine ⟨fun pins s σ H Q I hw => ?_⟩
  obtain ⟨B, Hs, sl, tp, P, R0, hw, hk⟩ := hw
  rw [wE] at hw
  refine (pt_not (ha pu)).run pins s σ H Q I ⟨B, Hs, sl, tp, _, R0, hw, fun r v c Hs' H' sl' nw R1 rr st _ hP => ?_⟩
  exact hk (.v (.d (.bool (!c)))) (.bl (!c)) (!c) Hs' H' sl' [.d (.bl (!c)) (.bool (!c))] (R1.drop.leaf (.bl _)) ⟨_, rfl, rfl, rfl, rfl⟩ st (fun Kk h => h) hP
theorem le_not (ha : PEc X Γ ea p) : PE X (.UnaryOp .Not ea pos) (LE X Γ.pin pu (wE Γ pu (.not p))) := by
  refine ⟨fun pins s σ H Q I hw => ?_⟩
  obtain ⟨B, Hs, sl, tp, P, R0, hw, hk⟩ := hw
  rw [wE] at hw
  refine (pe_notT (ha pu)).run pins s σ H Q I ⟨B, Hs, sl, tp, _, R0, hw, fun ra v Hs1 H1 sl1 nw1 R1 rr1 st1 p1 => ?_⟩
  obtain ⟨c, ht, hc⟩ := truW_of R1 rr1 p1
  exact ⟨c, ht, Cont.leaf hk R1.drop (.bl _) st1 hc⟩
theorem le_and {es : List Expr} (ha : PEc X Γ ea p) (hb : PEc X Γ (.BoolOp .And (eb :: es) pos) q) : PE X (.BoolOp .And (ea :: eb :: es) pos) (LE X Γ.pin pu (wE Γ pu (.and p q))) := by
  refine ⟨fun pins s σ H Q I hw => ?_⟩
  obtain ⟨B, Hs, sl, tp, P, R0, hw, hk⟩ := hw
  rw [wE] at hw
  refine (pe_andT (ha pu) (hb pu)).run pins s σ H Q I ⟨B, Hs, sl, tp, _, R0, hw, fun ra v Hs1 H1 sl1 nw1 R1 rr1 st1 p1 => ?_⟩
  obtain ⟨c, ht, hc⟩ := truW_of R1 rr1 p1
  refine ⟨c, ht, ?_⟩
  cases c with
  | true =>
    simp only [br_t, if_true] at hc ⊢
    exact ⟨B, Hs1, sl1, tp, _, R1.drop, hc, fun r v Hs2 H2 sl2 nw R2 rr2 st2 p2 => hk r v Hs2 H2 sl2 nw R2 rr2 (st1.trans st2 id) p2⟩
  | false =>
    simp only [br_f, Bool.false_eq_true, if_false] at hc ⊢
    exact hk ra v Hs1 H1 sl1 nw1 R1 rr1 st1 hc
theorem le_or {es : List Expr} (ha : PEc X Γ ea p) (hb : PEc X Γ (.BoolOp .Or (eb :: es) pos) q) : PE X (.BoolOp .Or (ea :: eb :: es) pos) (LE X Γ.pin pu (wE Γ pu (.or p q))) := by
  refine ⟨fun pins s σ H Q I hw => ?_⟩
  obtain ⟨B, Hs, sl, tp, P, R0, hw, hk⟩ := hw
  rw [wE] at hw
  refine (pe_orT (ha pu) (hb pu)).run pins s σ H Q I ⟨B, Hs, sl, tp, _, R0, hw, fun ra v Hs1 H1 sl1 nw1 R1 rr1 st1 p1 => ?_⟩
  obtain ⟨c, ht, hc⟩ := truW_of R1 rr1 p1
  refine ⟨c, ht, ?_⟩
  cases c with
  | false =>
    simp only [br_f, Bool.false_eq_true, if_false] at hc ⊢
    exact ⟨B, Hs1, sl1, tp, _, R1.drop, hc, fun r v Hs2 H2 sl2 nw R2 rr2 st2 p2 => hk r v Hs2 H2 sl2 nw R2 rr2 (st1.trans st2 id) p2⟩
  | true =>
    simp only [br_t, if_true] at hc ⊢
    exact hk ra v Hs1 H1 sl1 nw1 R1 rr1 st1 hc
abbrev PWc (X : Cx) (Γ : Ctx) (e : Expr) (c : E) : Prop := ∀ pu, PW X e (LR X Γ.pin pu (wE Γ pu c))
theorem lr_and {es : List Expr} (ha : PTc X Γ ea p) (hb : PWc X Γ (.BoolOp .And (eb :: es) pos) q) : PW X (.BoolOp .And (ea :: eb :: es) pos) (LR X Γ.pin pu (wE Γ pu (.and p q))) := by
  refine ⟨fun wh pins s σ H Q I hw => ?_⟩
  obtain ⟨B, Hs, sl, tp, P, R0, hw, hk⟩ := hw
  rw [wE] at hw
  refine (pw_and (ha pu) (hb pu)).run wh pins s σ H Q I ⟨B, Hs, sl, tp, _, R0, hw, fun ra v c Hs1 H1 sl1 nw1 R1 rr1 st1 hu p1 => ?_⟩
  cases c with
  | true =>
    simp only [br_t, if_true] at p1 ⊢
    exact ⟨B, Hs1, sl1, tp, _, R1.drop, p1, fun r v c Hs2 H2 sl2 nw R2 rr2 st2 hu2 p2 => hk r v c Hs2 H2 sl2 nw R2 rr2 (st1.trans st2 id) hu2 p2⟩
  | false =>
    simp only [br_f, Bool.false_eq_true, if_false] at p1 ⊢
    exact hk ra v false Hs1 H1 sl1 nw1 R1 rr1 st1 hu (hu _ p1)
theorem lr_or {es : List Expr} (ha : PTc X Γ ea p) (hb : PWc X Γ (.BoolOp .Or (eb :: es) pos) q) : PW X (.BoolOp .Or (ea :: eb :: es) pos) (LR X Γ.pin pu (wE Γ pu (.or p q))) := by
  refine ⟨fun wh pins s σ H Q I hw => ?_⟩
  obtain ⟨B, Hs, sl, tp, P, R0, hw, hk⟩ := hw
  rw [wE] at hw
  refine (pw_or (ha pu) (hb pu)).run wh pins s σ H Q I ⟨B, Hs, sl, tp, _, R0, hw, fun ra v c Hs1 H1 sl1 nw1 R1 rr1 st1 hu p1 => ?_⟩
  cases c with
  | false =>
    simp only [br_f, Bool.false_eq_true, if_false] at p1 ⊢
    exact ⟨B, Hs1, sl1, tp, _, R1.drop, p1, fun r v c Hs2 H2 sl2 nw R2 rr2 st2 hu2 p2 => hk r v c Hs2 H2 sl2 nw R2 rr2 (st1.trans st2 id) hu2 p2⟩
  | true =>
    simp only [br_t, if_true] at p1 ⊢
    exact hk ra v true Hs1 H1 sl1 nw1 R1 rr1 st1 hu (hu _ p1)
/-- a test that wants less -/
theorem LR.of {ix : List Nat} {w : St → (R → St → Prop) → Prop} {σ : L2.St} {H : Hp} {Q : Bool → Hp → Prop} {B : B0} {Hs : Hp} {sl tp : List TA} {P : Bool → St → Prop} (R0 : Rel X.K ⟨B, ix⟩ Hs H σ sl tp) (hw : w (TA.tl sl) fun r σ1 => truW r σ1 fun c => P c σ1)
    (hk : ∀ c Hs' H' sl', Rel X.K ⟨B, ix⟩ Hs' H' σ sl' tp → Stp pu H H' sl sl' → P c (TA.tl sl') → Q c H') : LR X ix pu w σ H Q :=
  ⟨B, Hs, sl, tp, fun _ c σ1 => P c σ1, R0, hw, fun r v c Hs' H' sl' nw R1 rr st _ hP => hk c Hs' H' sl' R1.drop st hP⟩
theorem le_ite (hc : PTc X Γ ec r) (ha : PEc X Γ ea p) (hb : PEc X Γ eb q) : PE X (.IfExp ec ea eb pos) (LE X Γ.pin pu (wE Γ pu (.ite r p q))) := by
  refine ⟨fun pins s σ H Q I hw => ?_⟩
  obtain ⟨B, Hs, sl, tp, P, R0, hw, hk⟩ := hw
  rw [wE] at hw
  refine (pe_ifExp (hc pu) (ha pu) (hb pu)).run pins s σ H Q I (LR.of R0 hw fun c Hs1 H1 sl1 R1 st1 p1 => ?_)
  cases c with
  | true =>
    simp only [br_t, if_true] at p1 ⊢
    exact ⟨B, Hs1, sl1, tp, _, R1, p1, fun r v Hs2 H2 sl2 nw R2 rr2 st2 p2 => hk r v Hs2 H2 sl2 nw R2 rr2 (st1.trans st2 id) p2⟩
  | false =>
    simp only [br_f, Bool.false_eq_true, if_false] at p1 ⊢
    exact ⟨B, Hs1, sl1, tp, _, R1, p1, fun r v Hs2 H2 sl2 nw R2 rr2 st2 p2 => hk r v Hs2 H2 sl2 nw R2 rr2 (st1.trans st2 id) p2⟩
theorem lr_ite (hc : PTc X Γ ec r) (ha : PTc X Γ ea p) (hb : PTc X Γ eb q) : PT X (.IfExp ec ea eb pos) (LR X Γ.pin pu (wE Γ pu (.ite r p q))) := by
  refine ⟨fun pins s σ H Q I hw => ?_⟩
  obtain ⟨B, Hs, sl, tp, P, R0, hw, hk⟩ := hw
  rw [wE] at hw
  show wpAny _ _ (do if ← isTrue ec X.env (eval ec X.env) then isTrue ea X.env (eval ea X.env) else isTrue eb X.env (eval eb X.env)) _ _ _
  refine wpAny_bind (thn ((hc pu).run pins s σ H (fun c H1 => if c = true then LR X Γ.pin pu (wE Γ pu p) σ H1 Q else LR X Γ.pin pu (wE Γ pu q) σ H1 Q) I (LR.of R0 hw fun c Hs1 H1 sl1 R1 st1 p1 => ?_)) fun c s1 ⟨H1, I1, q1⟩ => ?_)
  · cases c with
    | true =>
      simp only [br_t, if_true] at p1 ⊢
      exact ⟨B, Hs1, sl1, tp, _, R1, p1, fun r v c Hs2 H2 sl2 nw R2 rr2 st2 hu p2 => hk r v c Hs2 H2 sl2 nw R2 rr2 (st1.trans st2 id) hu p2⟩
    | false =>
      simp only [br_f, Bool.false_eq_true, if_false] at p1 ⊢
      exact ⟨B, Hs1, sl1, tp, _, R1, p1, fun r v c Hs2 H2 sl2 nw R2 rr2 st2 hu p2 => hk r v c Hs2 H2 sl2 nw R2 rr2 (st1.trans st2 id) hu p2⟩
  · cases c with
    | true => exact (ha pu).run pins s1 σ H1 Q I1 q1
    | false => exact (hb pu).run pins s1 σ H1 Q I1 q1
theorem le_ix {eo ei : Expr} {o i : E} (hs : noSlice ei = true) (ho : PEc X Γ eo o) (hi : PEc X Γ ei i) : PE X (.Subscript eo ei pos) (LE X Γ.pin pu (wE Γ pu (.ix o i))) := by
  refine ⟨fun pins s σ H Q I hw => ?_⟩
  obtain ⟨B, Hs, sl, tp, P, R0, hw, hk⟩ := hw
  rw [wE] at hw
  have hp : PlainIx ei := fun _ _ => by cases ei <;> first | rfl | (exact (Bool.noConfusion hs))
  exact Subscript_ (two (pb := fun _ => pu) (wb := fun _ => wE Γ pu i) (wb' := fun pu' => wE Γ pu' i) R0 hw hi I (ho pu) fun v u s2 x y H2 ra rb Hs2 sl2 nw1 nw2 I2 rx ry R2 r1 r2 st h => ix_W eo ei pins s2 σ H2 x y v u Q I2 rx ry ⟨σ, ⟨B, Γ.pin⟩, Hs2, sl2, tp, nw1, nw2, ra, rb, P, H, sl, pu, R2, r1, r2, st, h, hk⟩ (hp _ _))
theorem le_rev {eo : Expr} {o : E} {p1 p2 p3 : Pos} {j : Nat} (ho : PEc X Γ eo o) : PE X (.Subscript eo (.Slice none none (some (.UnaryOp .USub (.Constant (.int 1) j p1) p2)) p3) pos) (LE X Γ.pin pu (wE Γ pu (.rev o))) := by
  refine ⟨fun pins s σ H Q I hw => ?_⟩
  obtain ⟨B, Hs, sl, tp, P, R0, hw, hk⟩ := hw
  rw [wE] at hw
  refine (pe_revL (ho pu)).run pins s σ H Q I ⟨B, Hs, sl, tp, _, R0, hw, fun ra v Hs1 H1 sl1 nw1 R1 rr1 st1 p1 => ?_⟩
  split at p1
  · rename_i ts hts
    obtain ⟨a, us, rfl, t1, d1, o1, s1⟩ := rr1.kids R1 hts
    refine ⟨a, _, rfl, d1, fun l hl => ?_⟩
    have pm : (TA.fpl us.reverse).Perm (TA.fpl us) := by rw [TA.fpl_flat, TA.fpl_flat]; exact (List.reverse_perm us).flatMap_right _
    have R3 : Rel X.K ⟨B, Γ.pin⟩ Hs1 H1 σ sl1 (tp ++ us) := by
      refine R1.tempsS (TA.okl_append.mpr ⟨R1.drop.okT, o1⟩) ?_
      rw [TA.fpl_append, TA.fpl_append]
      exact (List.Sublist.refl _).append s1
    have R4 := R3.perm (tp' := tp ++ us.reverse) (List.Perm.append_left _ (List.reverse_perm us).symm)
    have := Cont.lst hk R4 hl st1 (by rw [TA.tl_map, List.map_reverse, ← TA.tl_map, t1]; exact p1)
    rw [List.map_reverse] at this
    exact this
  · exact p1.elim
theorem le_chain {op op' : COp} (C : CxOk X Γ b k) (h1 : noSet eb = true) (h2 : noSet ec = true) (ha : PEc X Γ ea p) (hb : PEc X Γ eb q) (hc : PEc X Γ ec r) : PE X (.Compare ea [copO op, copO op'] [eb, ec] pos) (LE X Γ.pin pu (wE Γ pu (.chain op op' p q r))) := by
  refine ⟨fun pins s σ H Q I hw => ?_⟩
  obtain ⟨B, Hs, sl, tp, P, R0, hw, hk⟩ := hw
  rw [wE] at hw
  refine Compare_chain (one R0 hw I (ha pu) fun v s1 x H1 ra Hs1 sl1 nw1 I1 rx R1 r1 st1 h1 => chain_link (one R1 h1 I1 (hb (pu || !ra.top)) fun u s2 y H2 rb Hs2 sl2 nw2 I2 ry R2 r2 st2 h2 => ?_)) ?_
  · have r1' := r1.stay R1 R2 st2 (fun z => by rw [z]; simp)
    have st12 := st1.trans st2 (fun z => by rw [z]; rfl)
    refine thn (op_cmpW (Q := fun z H' => H' = H2 ∧ ∃ c, z = .bl c ∧ br c (wE Γ (pu || !rb.top) r (TA.tl sl2) (fun rc σ3 => cmpW op' rb rc σ3 fun z' => P (.v (.d (.bool z'))) σ3)) (P (.v (.d (.bool false))) (TA.tl sl2))) C.room.units I2 rx ry R2 r1' r2 h2 fun z hz => ⟨rfl, z, rfl, hz⟩) fun d s3 ⟨z, H3, I3, r3, e3, c, ec', hc'⟩ => ?_
    subst e3
    subst ec'
    cases r3
    refine wpAny_truthy_bool ?_
    cases c with
    | false =>
      simp only [br_f, Bool.false_eq_true, if_false] at hc'
      exact ite_ff ⟨.bl false, H3, I3, rfl, Cont.leaf hk R2.drop.drop (.bl false) st12 hc'⟩
    | true =>
      simp only [br_t, if_true] at hc'
      refine ite_tt (chain_last (one R2 hc' I3 (hc (pu || !rb.top)) fun w s4 z H4 rc Hs4 sl4 nw4 I4 rz R4 r4 st4 h4 => ?_))
      have r2' := r2.stay R2 R4 st4 (fun z => by rw [z]; simp)
      exact op_cmpW C.room.units I4 ry rz R4 r2' r4 h4 fun z hz => Cont.leaf hk R4.drop.drop.drop (.bl z) (st12.trans st4 (fun z => by rw [z]; rfl)) hz
  · cases ec <;> first | rfl | (exact (Bool.noConfusion h2))
theorem lr_chain {op op' : COp} (C : CxOk X Γ b k) (h1 : noSet eb = true) (h2 : noSet ec = true) (ha : PEc X Γ ea p) (hb : PEc X Γ eb q) (hc : PEc X Γ ec r) : PT X (.Compare ea [copO op, copO op'] [eb, ec] pos) (LR X Γ.pin pu (wE Γ pu (.chain op op' p q r))) := by
  refine ⟨fun pins s σ H Q I hw => ?_⟩
  obtain ⟨B, Hs, sl, tp, P, R0, hw, hk⟩ := hw
  rw [wE] at hw
  have bl : ∀ (z : Bool) (Hs2 H2 : Hp) (sl2 : List TA), Rel X.K ⟨B, Γ.pin⟩ Hs2 H2 σ sl2 tp → Stp pu H H2 sl sl2 → P (.v (.d (.bool z))) z (TA.tl sl2) → Q z H2 := fun z Hs2 H2 sl2 R2 st hz =>
    hk (.v (.d (.bool z))) (.bl z) z Hs2 H2 sl2 [.d (.bl z) (.bool z)] (R2.leaf (.bl z)) ⟨_, rfl, rfl, rfl, rfl⟩ st (fun Kk h => h) hz
  refine isTrue_chain (one R0 hw I (ha pu) fun v s1 x H1 ra Hs1 sl1 nw1 I1 rx R1 r1 st1 h1 => test_link (one R1 h1 I1 (hb (pu || !ra.top)) fun u s2 y H2 rb Hs2 sl2 nw2 I2 ry R2 r2 st2 h2 => ?_)) ?_
  · have r1' := r1.stay R1 R2 st2 (fun z => by rw [z]; simp)
    have st12 := st1.trans st2 (fun z => by rw [z]; rfl)
    refine thn (op_cmpW (Q := fun z H' => H' = H2 ∧ ∃ c, z = .bl c ∧ br c (wE Γ (pu || !rb.top) r (TA.tl sl2) (fun rc σ3 => cmpW op' rb rc σ3 fun z' => P (.v (.d (.bool z'))) z' σ3)) (P (.v (.d (.bool false))) false (TA.tl sl2))) C.room.units I2 rx ry R2 r1' r2 h2 fun z hz => ⟨rfl, z, rfl, hz⟩) fun d s3 ⟨z, H3, I3, r3, e3, c, ec', hc'⟩ => ?_
    subst e3
    subst ec'
    cases r3
    refine wpAny_truthy_bool ?_
    cases c with
    | false =>
      simp only [br_f, Bool.false_eq_true, if_false] at hc'
      exact ite_ff ⟨H3, I3, bl false Hs2 H3 sl2 R2.drop.drop st12 hc'⟩
    | true =>
      simp only [br_t, if_true] at hc'
      refine ite_tt (test_last (one R2 hc' I3 (hc (pu || !rb.top)) fun w s4 z H4 rc Hs4 sl4 nw4 I4 rz R4 r4 st4 h4 => ?_))
      have r2' := r2.stay R2 R4 st4 (fun z => by rw [z]; simp)
      refine thn (op_cmpW (Q := fun z H' => ∃ c, z = .bl c ∧ Q c H') C.room.units I4 ry rz R4 r2' r4 h4 fun z hz => ⟨z, rfl, bl z Hs4 H4 sl4 R4.drop.drop.drop (st12.trans st4 (fun z => by rw [z]; rfl)) hz⟩) fun d2 s5 ⟨z2, H5, I5, r5, c2, e5, q5⟩ => ?_
      subst e5
      cases r5
      exact wpAny_truthy_bool ⟨H5, I5, q5⟩
  · cases ec <;> first | rfl | (exact (Bool.noConfusion h2))
end
end VL
set_option Elab.async false
set_option linter.all false
set_option maxRecDepth 100000
set_option maxHeartbeats 4000000
/-! VL14: displays, calls, methods, sound. -/
namespace VL
open PySem PySem.Spec PyProof.Rows L2
abbrev PAc (X : Cx) (Γ : Ctx) (es : List Expr) (cs : List E) : Prop := ∀ pu, PA X es (LA X Γ.pin pu (wA Γ pu cs))
section
variable {X : Cx} {Γ : Ctx} {b : Blk} {k : Nat} {pos : Pos} {ea eb ec : Expr} {es : List Expr} {cs : List E} {p q r : E} {pu : Bool}
theorem lac_nil : PAc X Γ [] [] := fun pu => by
  have h := la_nil (X := X) (pu := pu) (ix := Γ.pin)
  refine ⟨fun pos pins s σ H Q I hw => h.run pos pins s σ H Q I ?_⟩
  obtain ⟨B, Hs, sl, tp, P, R0, hw, hk⟩ := hw
  rw [wA] at hw
  exact ⟨B, Hs, sl, tp, P, R0, hw, hk⟩
theorem lac_cons (hs : noStar ea = true) (ha : PEc X Γ ea p) (hr : PAc X Γ es cs) : PAc X Γ (ea :: es) (p :: cs) := fun pu => by
  have h := la_cons (ha pu) hr (star_of hs)
  refine ⟨fun pos pins s σ H Q I hw => h.run pos pins s σ H Q I ?_⟩
  obtain ⟨B, Hs, sl, tp, P, R0, hw, hk⟩ := hw
  rw [wA] at hw
  exact ⟨B, Hs, sl, tp, P, R0, hw, hk⟩
theorem le_lst (h : PAc X Γ es cs) : PE X (.List es pos) (LE X Γ.pin pu (wE Γ pu (.lst cs))) := by
  refine ⟨fun pins s σ H Q I hw => ?_⟩
  obtain ⟨B, Hs, sl, tp, P, R0, hw, hk⟩ := hw
  rw [wE] at hw
  refine (pe_lst (h pu)).run pins s σ H Q I ⟨B, Hs, sl, tp, _, R0, hw, fun rs vs Hs1 H1 sl1 nws R1 rr st1 p1 => ?_⟩
  obtain ⟨xs, Hs2, sl2, R2, e1, st2, hz, hp⟩ := toVs_ok R1 rr.weak p1
  refine ⟨by rw [← e1, List.length_map, ← tl_len]; exact hz, fun l hl => ?_⟩
  rw [← e1]
  exact Cont.lst hk R2 hl (st1.trans st2 id) hp
theorem leaves_none_or (ts : List TA) : (∃ xs, T.leaves (TA.tl ts) = some xs ∧ mkTup (TA.tl ts) = .d (.tuple xs)) ∨ mkTup (TA.tl ts) = .nd .tup (TA.tl ts) := by
  unfold mkTup
  cases e : T.leaves (TA.tl ts) with
  | none => exact .inr rfl
  | some xs => exact .inl ⟨xs, rfl, rfl⟩
theorem le_tup {j : Nat} (h : PAc X Γ es cs) : PE X (.Tuple es j pos) (LE X Γ.pin pu (wE Γ pu (.tup cs))) := by
  refine ⟨fun pins s σ H Q I hw => ?_⟩
  obtain ⟨B, Hs, sl, tp, P, R0, hw, hk⟩ := hw
  rw [wE] at hw
  refine (pe_tup (h pu)).run pins s σ H Q I ⟨B, Hs, sl, tp, _, R0, hw, fun rs vs Hs1 H1 sl1 nws R1 rr st1 p1 => ?_⟩
  obtain ⟨xs, Hs2, sl2, R2, e1, st2, hz, hp⟩ := toVs_ok R1 rr.weak p1
  refine ⟨by rw [← e1, List.length_map, ← tl_len]; exact hz, fun l hl => ?_⟩
  rw [← e1]
  rcases leaves_none_or xs with ⟨ds, hl2, e2⟩ | e2
  · rw [e2] at hp
    obtain ⟨f1, f2, f3⟩ := leaves_of hl2
    exact Cont.tup hk R2.drop hl (f3 (TA.okl_append.mp R2.okT).2) (st1.trans st2 id) hp
  · rw [e2] at hp
    exact Cont.node (k := .tup) hk R2 hl (show upd H1 l (.tup (xs.map TA.v)) l = some (.tup (xs.map TA.v)) from upd_same) (st1.trans st2 id) hp
theorem fn_some : ∀ {l : List (Str × FS)} {f : Str}, (l.map (·.1)).contains f = true → (l.lookup f).isSome = true
  | [], f, h => by simp at h
  | (g, x) :: l, f, h => by
    rw [List.map_cons, List.contains_cons, Bool.or_eq_true] at h
    rw [List.lookup_cons]
    cases e : f == g with
    | true => rfl
    | false =>
      refine fn_some (h.resolve_left fun z => ?_)
      rw [e] at z
      cases z
theorem le_call {f x : Str} {p0 : Pos} (C : CxOk X Γ b k) (hx : f = x) (hf : Γ.sk.fn.contains f = true) (hg : globB b.sc x = true) (hn : okNm x = true) (hst : (ea :: es).all noStar = true) (h : PAc X Γ (ea :: es) cs) : PE X (.Call (.Name x p0) (ea :: es) [] pos) (LE X Γ.pin pu (wE Γ pu (.call f cs))) := by
  subst hx
  refine ⟨fun pins s σ H Q I hw => ?_⟩
  obtain ⟨B, Hs, sl, tp, P, R0, hw, hk⟩ := hw
  rw [wE] at hw
  obtain ⟨fs, hfn⟩ := Option.isSome_iff_exists.mp (fn_some hf)
  obtain ⟨a, fd, ps, F, hm, hkp, hb⟩ := C.fns f fs hfn
  simp only [List.all_cons, Bool.and_eq_true] at hst
  refine (pe_callG F C.room C.gd (C.gl hg) hm hkp hb .nil pass0 (h pu) (okNm_of hn).1 (star_of hst.1) (stars_of hst.2)).run pins s σ H Q I ⟨B, Hs, sl, tp, _, R0, hw, fun rs vs Hs1 H1 sl1 nws R1 rr st1 p1 => ?_⟩
  rw [hfn] at p1
  rw [List.append_nil]
  exact call_ok R1 rr st1 p1 hk
theorem bltCall_of (C : CxOk X Γ b k) {nm x : Str} (h : bltCall Γ.sk b nm x = true) : nm = x ∧ Gl X x ∧ X.mg x = none ∧ (x == ("__debug__" : Str)) = false ∧ x ≠ "__name__" := by
  unfold bltCall at h
  simp only [Bool.and_eq_true, decide_eq_true_eq] at h
  obtain ⟨h1, _, h3⟩ := okNm_of h.2
  exact ⟨h.1.1.1, C.gl h.1.1.2, C.bi x ((by have := h.1.2; simpa [Ctx.sk] using this)), h1, h3⟩
theorem boot_blt {t : Blt} (ht : t ≠ .listRange) : bootBuiltins (bltNm t) = some (bltV t) := by
  cases t <;> first | exact absurd rfl ht | decide +kernel
theorem le_blt {t : Blt} {x : Str} {p0 : Pos} (C : CxOk X Γ b k) (ht : t ≠ .listRange) (hx : bltCall Γ.sk b (bltNm t) x = true) (hst : (ea :: es).all noStar = true) (h : PAc X Γ (ea :: es) cs) : PE X (.Call (.Name x p0) (ea :: es) [] pos) (LE X Γ.pin pu (wE Γ pu (.blt t cs))) := by
  obtain ⟨rfl, hg, hm, hd, hnm⟩ := bltCall_of C hx
  refine ⟨fun pins s σ H Q I hw => ?_⟩
  obtain ⟨B, Hs, sl, tp, P, R0, hw, hk⟩ := hw
  rw [wE] at hw
  simp only [List.all_cons, Bool.and_eq_true] at hst
  have hcr := call_bltW (X := X) (b := t) C.calm ht
  have hbt := boot_blt ht
  have rd : tCB (CaW X (bltW t)) (LA X Γ.pin pu (wA Γ pu cs)) σ H Q := ⟨B, Hs, sl, tp, _, R0, hw, fun rs vs Hs1 H1 sl1 nws R1 rr st1 p1 => ⟨σ, ⟨B, Γ.pin⟩, Hs1, sl1, tp, nws, rs, P, H, sl, pu, R1, rr, st1, p1, hk⟩⟩
  cases t <;> first
    | exact absurd rfl ht
    | exact (pe_callB hcr hg hm hbt (h pu) hnm hd (star_of hst.1) (stars_of hst.2)).run pins s σ H Q I rd
    | exact (pe_callTy hcr hg hm hbt (h pu) hnm hd (star_of hst.1) (stars_of hst.2)).run pins s σ H Q I rd
theorem le_listRange {x y : Str} {p0 p1 p2 : Pos} (C : CxOk X Γ b k) (hx : bltCall Γ.sk b "list" x = true) (hy : bltCall Γ.sk b "range" y = true) (hs : noStar ea = true) (h : PAc X Γ [ea] cs) (hcs : ∃ c, cs = [c] ∧ PEc X Γ ea c) : PE X (.Call (.Name x p0) [.Call (.Name y p1) [ea] [] p2] [] pos) (LE X Γ.pin pu (wE Γ pu (.blt .listRange cs))) := by
  obtain ⟨rfl, hg, hm, hd, hnm⟩ := bltCall_of C hx
  obtain ⟨rfl, hg2, hm2, _, _⟩ := bltCall_of C hy
  obtain ⟨c, rfl, hc⟩ := hcs
  refine ⟨fun pins s σ H Q I hw => ?_⟩
  obtain ⟨B, Hs, sl, tp, P, R0, hw, hk⟩ := hw
  rw [wE, wA] at hw
  refine (pe_listRg C.calm hg hm (prg_1 hg2 hm2 (hc pu) (star_of hs))).run pins s σ H Q I ⟨B, Hs, sl, tp, _, R0, hw, fun ra v Hs1 H1 sl1 nw1 R1 rr1 st1 p1 => ?_⟩
  rw [wA] at p1
  simp only [bltW, R.datas] at p1
  cases hd1 : ra.data (TA.tl sl1) with
  | none => rw [hd1] at p1; exact p1.elim
  | some d =>
    rw [hd1] at p1
    simp only at p1
    cases d with
    | int j =>
      have := (rr1.dp R1 hd1).int_v
      subst this
      obtain ⟨b1, b2, p1⟩ := p1
      refine ⟨j, rfl, ⟨by omega, by omega, by omega, by omega, by omega⟩, fun l hl => ?_⟩
      have e : rgV 0 j = ((List.range j.toNat).map fun n : Nat => (n : Int)).map V.int := by
        unfold rgV
        rw [List.map_map]
        simp
      rw [e]
      obtain ⟨g1, g2, g3, g4⟩ := leafs_ok (H := H1) (intLeafs (K := X.K) (Hs := Hs1) ((List.range j.toNat).map fun n : Nat => (n : Int)))
      have := Cont.lst hk (R1.drop.leaves g1 g2) hl st1 (by rw [g3, List.map_map, List.map_map]; exact p1)
      rw [g4] at this
      exact this
    | _ => exact p1.elim
theorem isi_kit {n ty : String} (hn : n = "NoneType" ∨ n = "bool" ∨ n = "int" ∨ n = "str" ∨ n = "list" ∨ n = "tuple" ∨ n = "dict") (ht : isTyNm ty = true) : kitB n ty = some (isiB n ty) := by
  unfold isTyNm at ht
  simp only [Bool.or_eq_true, beq_iff_eq] at ht
  rcases ht with ((((rfl | rfl) | rfl) | rfl) | rfl) | rfl <;> rcases hn with rfl | rfl | rfl | rfl | rfl | rfl | rfl <;> decide +kernel
theorem boot_ty {ty : String} (ht : isTyNm ty = true) : bootBuiltins (Str.ofString ty) = some (.type ty) := by
  unfold isTyNm at ht
  simp only [Bool.or_eq_true, beq_iff_eq] at ht
  rcases ht with ((((rfl | rfl) | rfl) | rfl) | rfl) | rfl <;> decide +kernel
theorem tyName_in {t : T} {n : String} (h : tyName t = some n) : n = "NoneType" ∨ n = "bool" ∨ n = "int" ∨ n = "str" ∨ n = "list" ∨ n = "tuple" ∨ n = "dict" := by
  unfold tyName at h
  split at h <;> first | (cases h; simp) | cases h
theorem le_isi {ty : String} {x t : Str} {p0 p1 : Pos} (C : CxOk X Γ b k) (hx : bltCall Γ.sk b "isinstance" x = true) (ht : bltCall Γ.sk b (Str.ofString ty) t = true) (hty : isTyNm ty = true) (hs : noStar ea = true) (h : PEc X Γ ea p) : PE X (.Call (.Name x p0) [ea, .Name t p1] [] pos) (LE X Γ.pin pu (wE Γ pu (.isi p ty))) := by
  obtain ⟨rfl, hg, hm, hd, hnm⟩ := bltCall_of C hx
  obtain ⟨rfl, hg2, hm2, hd2, hnm2⟩ := bltCall_of C ht
  refine ⟨fun pins s σ H Q I hw => ?_⟩
  obtain ⟨B, Hs, sl, tp, P, R0, hw, hk⟩ := hw
  rw [wE] at hw
  have h2 : PE X (.Name (Str.ofString ty) p1) (tC (.ty ty)) := pe_bltn (u := .type ty) hg2 hm2 (boot_ty hty) rfl hnm2 hd2
  refine (pe_callB call_isi hg hm (by decide +kernel) (pa_cons (h pu) (pa_cons h2 pa_nil (star_of rfl)) (star_of hs)) hnm hd (star_of hs) (stars_of rfl)).run pins s σ H Q I ⟨B, Hs, sl, tp, _, R0, hw, fun ra v Hs1 H1 sl1 nw1 R1 rr1 st1 p1 => ?_⟩
  obtain ⟨c, g1, rfl, g3, g4, _⟩ := rr1.get R1
  unfold isiW at p1
  rw [g1] at p1
  simp only at p1
  split at p1
  · rename_i n hn
    exact ⟨c.v, .ty ty, .type n, .type ty, _, rfl, .ty ty, tyName_of R1.sub g4 hn, kit_ty (isi_kit (tyName_in hn) hty), Cont.leaf hk R1.drop (.bl _) st1 p1⟩
  · exact p1.elim
end
end VL
set_option Elab.async false
set_option linter.all false
set_option maxRecDepth 100000
set_option maxHeartbeats 4000000
/-! VL15: methods of lists, slices, sound. -/
namespace VL
open PySem PySem.Spec PyProof.Rows L2
theorem tl_take (a : List TA) (n : Nat) : TA.tl (a.take n) = (TA.tl a).take n := by rw [TA.tl_map, TA.tl_map, List.map_take]
theorem tl_drop (a : List TA) (n : Nat) : TA.tl (a.drop n) = (TA.tl a).drop n := by rw [TA.tl_map, TA.tl_map, List.map_drop]
theorem tl_rev (a : List TA) : TA.tl a.reverse = (TA.tl a).reverse := by rw [TA.tl_map, TA.tl_map, List.map_reverse]
theorem TA.at_snoc {kk : Kd} {a : Addr} {us : List TA} {j : Nat} {c : TA} (hc : us[j]? = some c) : ∀ (q : List Nat) (t : TA), t.at q = some (.nd kk a us) → t.at (q ++ [j]) = some c
  | [], t, h => by
    rw [TA.at] at h
    cases h
    show (TA.nd kk a us).at [j] = _
    simp only [TA.at, hc]
  | m :: q, t, h => by
    cases t with
    | dead _ => cases h
    | d _ _ => cases h
    | nd k' a' ts =>
      rw [List.cons_append]
      rw [TA.at] at h ⊢
      cases hm : ts[m]? with
      | none => rw [hm] at h; cases h
      | some b => rw [hm] at h; exact TA.at_snoc hc q b h
theorem TA.put_snoc {kk : Kd} {a : Addr} {us : List TA} {j : Nat} {c : TA} (s : TA) (hc : us[j]? = some c) : ∀ (q : List Nat) (t : TA), t.at q = some (.nd kk a us) → t.put s (q ++ [j]) = t.put (.nd kk a (us.set j s)) q
  | [], t, h => by
    rw [TA.at] at h
    cases h
    show (TA.nd kk a us).put s [j] = _
    simp only [TA.put, hc]
  | m :: q, t, h => by
    cases t with
    | dead _ => cases h
    | d _ _ => cases h
    | nd k' a' ts =>
      rw [List.cons_append]
      rw [TA.at] at h
      cases hm : ts[m]? with
      | none => rw [hm] at h; cases h
      | some b =>
        rw [hm] at h
        simp only [TA.put, hm]
        rw [TA.put_snoc s hc q b h]
section
variable {X : Cx} {Γ : Ctx} {b : Blk} {k : Nat} {pos : Pos} {ea eb ec : Expr} {es : List Expr} {cs : List E} {p q r : E} {pu : Bool}
theorem base_of {o : Expr} {nm : Str} {env : Env} (h : noCall o = true) : attributeBase o nm env (eval o env) = eval o env := by
  cases o <;> first | rfl | (exact (Bool.noConfusion h))
theorem stars_all {env : Env} {pos : Pos} : ∀ {es : List Expr}, es.all noStar = true → (backTo pos (starEach es env)).all (fun x => !x.1) = true
  | [], _ => rfl
  | e :: es, h => by
    simp only [List.all_cons, Bool.and_eq_true] at h
    rw [star_of h.1]
    show (true && (backTo pos (starEach es env)).all (fun x => !x.1)) = true
    rw [stars_all h.2]
    rfl
theorem noTupl_app {a c : List TA} (h1 : TA.noTupl a = true) (h2 : TA.noTupl c = true) : TA.noTupl (a ++ c) = true := by
  rw [TA.noTupl_all] at h1 h2 ⊢
  intro t ht
  rcases List.mem_append.mp ht with z | z
  · exact h1 t z
  · exact h2 t z
/-- a list at a place was changed; nothing is told -/
theorem chg_done {B : Bs} {Hs H H0 : Hp} {σ : L2.St} {sl0 sl tp : List TA} {P : R → St → Prop} {Q : VK} {i : Nat} {q : List Nat} {t : TA} {a : Addr} {us us' xs : List TA} (hk : Cont X B σ tp false H0 sl0 P Q) (st : Stp false H0 H sl0 sl) (R1 : Rel X.K B Hs H σ sl (tp ++ xs)) (h1 : sl[i]? = some t) (h2 : t.at q = some (.nd .list a us))
    (ok : TA.okl X.K Hs H us') (sub : (TA.fpl us').Perm (TA.fpl us ++ TA.fpl xs) ∨ (TA.fpl us').Sublist (TA.fpl us)) (hn : TA.noTupl us' = true) (hP : P (.v (.d .none)) (putS (TA.tl sl) i q (.nd .list (TA.tl us')))) : Q .non (upd H a (.lst (us'.map TA.v))) := by
  have uq : (TA.fpl us ++ TA.fpl xs).Nodup := by
    have hu := R1.uq
    rw [TA.fpl_append, TA.fpl_append, ← List.append_assoc, List.nodup_append] at hu
    rw [List.nodup_append]
    have us1 : (TA.nd .list a us).fp.Nodup := by
      obtain ⟨l1, l2, e1, _⟩ := TA.lens q t _ h2
      have := R1.slot_uq h1
      rw [e1] at this
      exact (nodup_mid this).2.1
    rw [TA.fp] at us1
    refine ⟨(List.nodup_cons.mp us1).2, hu.2.1, fun x hx y hy e => hu.2.2 x (List.mem_append_left _ ?_) y hy e⟩
    obtain ⟨l1, l2, e1, _⟩ := TA.lens q t _ h2
    exact fpl_slot h1 (by rw [e1, TA.fp]; exact List.mem_append_left _ (List.mem_append_right _ (List.mem_cons_of_mem _ hx)))
  obtain ⟨R2, e2⟩ := R1.chg h1 h2 ok (fun z hz => by
    rcases sub with s | s
    · exact List.mem_append.mp (s.mem_iff.mp hz)
    · exact .inl (s.subset hz)) (by
    rcases sub with s | s
    · exact s.nodup_iff.mpr uq
    · exact s.nodup (List.nodup_append.mp uq).1) hn
  exact Cont.leaf hk R2 .non (st.trans (pu' := false) ⟨fun z => (by cases z), chg_live h1 h2 rfl⟩ id) (by rw [e2]; exact hP)
theorem slot_noTupl {B : Bs} {Hs H : Hp} {σ : L2.St} {sl tp : List TA} {i : Nat} {q : List Nat} {t : TA} {a : Addr} {us : List TA} {K : PySem.W.Frag} (R1 : Rel K B Hs H σ sl tp) (h1 : sl[i]? = some t) (h2 : t.at q = some (.nd .list a us)) : TA.noTupl us = true ∧ TA.okl K Hs H us ∧ H a = some (.lst (us.map TA.v)) := by
  have n := TA.at_noTup q t _ h2 (R1.ntup t (List.mem_of_getElem? h1))
  rw [TA.noTup, Bool.and_eq_true] at n
  have o := TA.at_ok q t _ h2 (R1.slot_ok h1)
  rw [TA.ok] at o
  exact ⟨n.2, o.2, o.1⟩
theorem RRs.three {sl : List TA} {r r' r'' : R} {xs : List V} {nws : List (List TA)} (h : RRs sl [r, r', r''] xs nws) : ∃ x y z nw nw' nw'', xs = [x, y, z] ∧ nws = [nw, nw', nw''] ∧ RR r x sl nw ∧ RR r' y sl nw' ∧ RR r'' z sl nw'' := by
  cases h with
  | cons a b =>
    cases b with
    | cons c d =>
      cases d with
      | cons e f =>
        cases f
        exact ⟨_, _, _, _, _, _, rfl, rfl, a, c, e⟩
theorem RR'.rr {r : R} {v : V} {sl nw : List TA} {T0 : T} (h : RR' r v sl nw) (hg : r.get (TA.tl sl) = some T0) (hd : T0.isDead = false) : RR r v sl nw := by
  cases r with
  | v t => exact h
  | p i q =>
    obtain ⟨e, f⟩ := h
    unfold R.get at hg
    simp only at hg
    rw [tl_get] at hg
    cases h1 : sl[i]? with
    | none => rw [h1] at hg; cases hg
    | some t =>
      rw [h1] at hg
      simp only [Option.map_some, TA.at_t] at hg
      cases h2 : t.at q with
      | none => rw [h2] at hg; cases hg
      | some c =>
        rw [h2] at hg
        have e3 : c.t = T0 := Option.some.inj hg
        exact ⟨e, t, c, h1, h2, f t c h1 h2, by rw [← TA.isDead_t, e3]; exact hd⟩
def MtW (X : Cx) (m : Mth) : V → List V → Hp → VK → Prop := fun x xs H2 Q => ∃ σ B Hs2 sl2 tp nws rs P H sl pu, Rel X.K B Hs2 H2 σ sl2 (tp ++ nws.flatten) ∧ RRs sl2 rs (x :: xs) nws ∧ Stp pu H H2 sl sl2 ∧ mthW m pu rs (TA.tl sl2) P ∧ Cont X B σ tp pu H sl P Q
def mthId : Mth → String
  | .append => "list.append"
  | .insert => "list.insert"
  | .pop => "list.pop"
  | .clear => "list.clear"
  | .reverse => "list.reverse"
  | .index => "list.index"
theorem okl_one {K : PySem.W.Frag} {Hs H : Hp} {x : TA} : TA.okl K Hs H [x] ↔ x.ok K Hs H := by rw [TA.okl, TA.okl]; simp
theorem mt_append_W : MtR X "list.append" (MtW X .append) := by
  intro pins s σ' H2 x xs v us0 Q I rx rxs h
  obtain ⟨σ, B, Hs2, sl2, tp, nws, rs, P, H, sl, pu, R1, rr, st, h, hk⟩ := h
  unfold mthW at h
  split at h <;> first | exact (absurd ‹Mth.append = _› (by decide)) | skip
  · obtain ⟨hpu, h⟩ := h
    subst hpu
    obtain ⟨x1, y1, nw, nw', e1, rfl, r1, r2⟩ := rr.two
    simp only [List.cons.injEq] at e1
    obtain ⟨rfl, rfl⟩ := e1
    have R2 : Rel X.K B Hs2 H2 σ sl2 ((tp ++ nw) ++ (nw' ++ [])) := by simpa using R1
    obtain ⟨c, Hs3, sl3, R3, cv, cd, st3, ⟨hnt, h⟩, f⟩ := toV_ok R2 r2.weak h
    obtain ⟨i, q, t, a, us, rfl, hnw, h1, h2, rfl, hz, hP⟩ := atList_ok (f _ _ _ r1.weak) h
    subst hnw
    rw [List.append_nil, List.append_nil] at R3
    obtain ⟨n1, o1, a1⟩ := slot_noTupl R3 h1 h2
    have okc : c.ok X.K Hs3 H2 := okl_one.mp (TA.okl_append.mp R3.okT).2
    refine mt_append pins s σ' H2 _ _ v us0 Q I rx rxs ⟨a, _, y1, rfl, rfl, a1, by rw [List.length_map, ← tl_len]; exact hz, ?_⟩
    have := chg_done (us' := us ++ [c]) hk (st.trans st3 id) R3 h1 h2 (TA.okl_append.mpr ⟨o1, okl_one.mpr okc⟩) (.inl (by rw [TA.fpl_append])) (noTupl_app n1 (by simp [TA.noTupl, ← TA.noTup_t, hnt])) (by rw [tl_app]; exact hP)
    rw [List.map_append, List.map_cons, List.map_nil, cv] at this
    exact this
  all_goals first | exact h.elim | skip
theorem mt_insert_W : MtR X "list.insert" (MtW X .insert) := by
  intro pins s σ' H2 x xs v us0 Q I rx rxs h
  obtain ⟨σ, B, Hs2, sl2, tp, nws, rs, P, H, sl, pu, R1, rr, st, h, hk⟩ := h
  unfold mthW at h
  split at h <;> first | exact (absurd ‹Mth.insert = _› (by decide)) | skip
  · obtain ⟨hpu, h⟩ := h
    subst hpu
    obtain ⟨x1, y1, z1, nw, nw', nw'', e1, rfl, r1, r2, r3⟩ := rr.three
    simp only [List.cons.injEq] at e1
    obtain ⟨rfl, rfl⟩ := e1
    have R2 : Rel X.K B Hs2 H2 σ sl2 ((tp ++ nw ++ nw') ++ (nw'' ++ [])) := by simpa using R1
    obtain ⟨c, Hs3, sl3, R3, cv, cd, st3, ⟨hnt, h⟩, f⟩ := toV_ok R2 r3.weak h
    obtain ⟨i, q, t, a, us, rfl, hnw, h1, h2, rfl, hz, hP⟩ := atList_ok (f _ _ _ r1.weak) h
    subst hnw
    split at hP
    · rename_i kk hkk
      obtain ⟨b1, b2, hP⟩ := hP
      rw [List.append_nil, List.append_nil] at R3
      have R3' : Rel X.K B Hs3 H2 σ sl3 (tp ++ [c]) := R3.tempsS (by
          have := R3.okT
          rw [TA.okl_append, TA.okl_append] at this
          exact TA.okl_append.mpr ⟨this.1.1, this.2⟩) (by
          rw [TA.fpl_append, TA.fpl_append, TA.fpl_append]
          exact (List.sublist_append_left _ _).append (List.Sublist.refl _))
      -- the index
      have hy : y1 = .int kk := ((f _ _ _ r2.weak).rr hkk rfl |>.dpT (tp := tp) (R3.tempsS (by
          have := R3.okT
          rw [TA.okl_append, TA.okl_append] at this
          exact TA.okl_append.mpr ⟨this.1.1, this.1.2⟩) (by
          rw [TA.fpl_append, TA.fpl_append, TA.fpl_append]
          exact List.sublist_append_left _ _)) hkk).2.int_v
      subst hy
      obtain ⟨n1, o1, a1⟩ := slot_noTupl R3' h1 h2
      have okc : c.ok X.K Hs3 H2 := okl_one.mp (TA.okl_append.mp R3'.okT).2
      refine mt_insert pins s σ' H2 _ _ v us0 Q I rx rxs ⟨a, _, kk, z1, rfl, rfl, a1, by rw [List.length_map, ← tl_len]; exact hz, b1, b2, ?_⟩
      have pm : (us.take kk.toNat ++ [c] ++ us.drop kk.toNat).Perm (us ++ [c]) := by
        have h1 : (us.take kk.toNat ++ [c] ++ us.drop kk.toNat).Perm (us.take kk.toNat ++ us.drop kk.toNat ++ [c]) := by
          rw [List.append_assoc, List.append_assoc]
          exact List.Perm.append_left _ List.perm_append_comm
        rw [List.take_append_drop] at h1
        exact h1
      have := chg_done (us' := us.take kk.toNat ++ [c] ++ us.drop kk.toNat) hk (st.trans st3 id) R3' h1 h2 (TA.okl_all.mpr fun t' ht' => by
          rcases List.mem_append.mp (pm.mem_iff.mp ht') with z | z
          · exact TA.okl_all.mp o1 t' z
          · simp at z; subst z; exact okc) (.inl (by
          rw [TA.fpl_flat, TA.fpl_flat, TA.fpl_flat, ← List.flatMap_append]
          exact pm.flatMap_right _)) (TA.noTupl_all.mpr fun t' ht' => by
          rcases List.mem_append.mp (pm.mem_iff.mp ht') with z | z
          · exact TA.noTupl_all.mp n1 t' z
          · simp at z; subst z; rw [← TA.noTup_t]; exact hnt) (by
          rw [tl_app, tl_app, tl_take, tl_drop]
          exact hP)
      rw [List.map_append, List.map_append, List.map_cons, List.map_nil, cv, List.map_take, List.map_drop] at this
      exact this
    · exact hP.elim
  all_goals first | exact h.elim | skip
theorem mt_clear_W : MtR X "list.clear" (MtW X .clear) := by
  intro pins s σ' H2 x xs v us0 Q I rx rxs h
  obtain ⟨σ, B, Hs2, sl2, tp, nws, rs, P, H, sl, pu, R1, rr, st, h, hk⟩ := h
  unfold mthW at h
  split at h <;> first | exact (absurd ‹Mth.clear = _› (by decide)) | skip
  · obtain ⟨hpu, h⟩ := h
    subst hpu
    obtain ⟨x1, nw, e1, rfl, r1⟩ := rr.one
    simp only [List.cons.injEq] at e1
    obtain ⟨rfl, rfl⟩ := e1
    obtain ⟨i, q, t, a, us, rfl, hnw, h1, h2, rfl, hP⟩ := atList_ok r1.weak h
    subst hnw
    obtain ⟨n1, o1, a1⟩ := slot_noTupl R1 h1 h2
    refine mt_clear pins s σ' H2 _ _ v us0 Q I rx rxs ⟨a, _, rfl, rfl, a1, ?_⟩
    exact chg_done (us' := []) (xs := []) hk st (by simpa using R1) h1 h2 (by rw [TA.okl]; trivial) (.inr (List.nil_sublist _)) rfl hP
  all_goals first | exact h.elim | skip
theorem mt_reverse_W : MtR X "list.reverse" (MtW X .reverse) := by
  intro pins s σ' H2 x xs v us0 Q I rx rxs h
  obtain ⟨σ, B, Hs2, sl2, tp, nws, rs, P, H, sl, pu, R1, rr, st, h, hk⟩ := h
  unfold mthW at h
  split at h <;> first | exact (absurd ‹Mth.reverse = _› (by decide)) | skip
  · obtain ⟨hpu, h⟩ := h
    subst hpu
    obtain ⟨x1, nw, e1, rfl, r1⟩ := rr.one
    simp only [List.cons.injEq] at e1
    obtain ⟨rfl, rfl⟩ := e1
    obtain ⟨i, q, t, a, us, rfl, hnw, h1, h2, rfl, hP⟩ := atList_ok r1.weak h
    subst hnw
    obtain ⟨n1, o1, a1⟩ := slot_noTupl R1 h1 h2
    refine mt_reverse pins s σ' H2 _ _ v us0 Q I rx rxs ⟨a, _, rfl, rfl, a1, ?_⟩
    have pm := List.reverse_perm us
    have := chg_done (us' := us.reverse) (xs := []) hk st (by simpa using R1) h1 h2 (TA.okl_all.mpr fun t' ht' => TA.okl_all.mp o1 t' (pm.mem_iff.mp ht')) (.inl (by
          rw [TA.fpl_flat, TA.fpl_flat, TA.fpl, List.append_nil]
          exact pm.flatMap_right _)) (TA.noTupl_all.mpr fun t' ht' => TA.noTupl_all.mp n1 t' (pm.mem_iff.mp ht')) (by
          rw [tl_rev]
          exact hP)
    rw [List.map_reverse] at this
    exact this
  all_goals first | exact h.elim | skip
theorem findIdx_of {K : PySem.W.Frag} {H : Hp} {w : V} {y : PyData} (hy : Rp K H w y) (fy : flatD y = true) : ∀ {vs : List V} {ys : List PyData} {j : Nat}, RpAll K H vs ys → ys.all flatD = true → (ys.findIdx? fun z => PyData.eqv z y) = some j →
    (∃ z, vs[j]? = some z ∧ eqV z w = true) ∧ ∀ (m : Nat) (z' : V), m < j → vs[m]? = some z' → eqV z' w = false
  | _, _, j, .nil, _, h => by simp at h
  | _, _, j, .cons (v := v0) (d := d0) (vs := vs) (ds := ds) a b, f, h => by
    simp only [List.all_cons, Bool.and_eq_true] at f
    have e0 := (a.eqV hy f.1 fy).1
    rw [List.findIdx?_cons] at h
    split at h
    · rename_i hz
      cases h
      exact ⟨⟨v0, rfl, by rw [e0]; exact hz⟩, fun m z' hm => absurd hm (by omega)⟩
    · rename_i hz
      obtain ⟨j', hj, rfl⟩ := Option.map_eq_some_iff.mp h
      obtain ⟨h1, h2⟩ := findIdx_of hy fy b f.2 hj
      refine ⟨by simpa using h1, fun m z' hm hz' => ?_⟩
      cases m with
      | zero =>
        simp only [List.getElem?_cons_zero, Option.some.injEq] at hz'
        subst hz'
        rw [e0]
        simpa using hz
      | succ m => exact h2 m z' (by omega) (by simpa using hz')
theorem mt_index_W : MtR X "list.index" (MtW X .index) := by
  intro pins s σ' H2 x xs v us0 Q I rx rxs h
  obtain ⟨σ, B, Hs2, sl2, tp, nws, rs, P, H, sl, pu, R1, rr, st, h, hk⟩ := h
  unfold mthW at h
  split at h <;> first | exact (absurd ‹Mth.index = _› (by decide)) | skip
  · obtain ⟨x1, y1, nw, nw', e1, rfl, r1, r2⟩ := rr.two
    simp only [List.cons.injEq] at e1
    obtain ⟨rfl, rfl⟩ := e1
    have R2 : Rel X.K B Hs2 H2 σ sl2 ((tp ++ nw) ++ nw') := by simpa using R1
    split at h
    · rename_i ys y hy1 hy2
      obtain ⟨fy, fys, h⟩ := h
      split at h
      · rename_i j hj
        have d1 := r1.dp R2.drop hy1
        have d2 := r2.dp R2 hy2
        cases d1 with
        | lst hr ha =>
          obtain ⟨⟨z, hz, hzz⟩, hno⟩ := findIdx_of d2 fy ha fys hj
          exact mt_index pins s σ' H2 _ _ v us0 Q I rx rxs ⟨_, _, y1, j, z, rfl, rfl, hr, (d2.eqV d2 fy fy).2.1, all_flat ha fys, hz, hzz, hno, Cont.leaf hk R2.drop.drop (.int _) st h⟩
      · exact h.elim
    · exact h.elim
  all_goals first | exact h.elim | skip
theorem dropLast_setLast {α : Type} (l : List α) (x : α) : (l.set (l.length - 1) x).dropLast = l.dropLast := by
  rw [List.dropLast_eq_take, List.dropLast_eq_take, List.length_set]
  apply List.ext_getElem?
  intro j
  rw [List.getElem?_take, List.getElem?_take]
  split
  · rename_i hj
    rw [List.getElem?_set_ne (by omega)]
  · rfl
theorem putS_putS {σ : St} {i : Nat} {q : List Nat} {t c : T} {u w : T} (h1 : σ[i]? = some t) (h2 : t.at q = some c) : putS (putS σ i q u) i q w = putS σ i q w := by
  unfold putS
  rw [h1]
  simp only
  rw [List.getElem?_set_self (List.getElem?_eq_some_iff.mp h1).1]
  simp only
  rw [List.set_set, T.put_put _ _ q t c h2]
theorem mt_pop_W : MtR X "list.pop" (MtW X .pop) := by
  intro pins s σ' H2 x xs v us0 Q I rx rxs h
  obtain ⟨σ, B, Hs2, sl2, tp, nws, rs, P, H, sl, pu, R1, rr, st, h, hk⟩ := h
  unfold mthW at h
  split at h <;> first | exact (absurd ‹Mth.pop = _› (by decide)) | skip
  · obtain ⟨hpu, h⟩ := h
    subst hpu
    obtain ⟨x1, nw, e1, rfl, r1⟩ := rr.one
    simp only [List.cons.injEq] at e1
    obtain ⟨rfl, rfl⟩ := e1
    obtain ⟨i, q, t, a, us, rfl, hnw, h1, h2, rfl, hP⟩ := atList_ok r1.weak h
    subst hnw
    have R1' : Rel X.K B Hs2 H2 σ sl2 tp := by simpa using R1
    obtain ⟨n1, o1, a1⟩ := slot_noTupl R1' h1 h2
    rw [tl_len, tl_get] at hP
    cases hc : us[us.length - 1]? with
    | none => rw [hc] at hP; exact hP.elim
    | some c =>
      rw [hc] at hP
      simp only [Option.map_some] at hP
      obtain ⟨hcd, hP⟩ := hP
      have hi : i < sl2.length := (List.getElem?_eq_some_iff.mp h1).1
      have R2 := R1'.out1 h1 (TA.at_snoc hc q t h2)
      rw [TA.put_snoc _ hc q t h2] at R2
      generalize hus1 : us.set (us.length - 1) (TA.dead c.v) = us1 at R2
      generalize ht1 : t.put (.nd .list a us1) q = t1 at R2
      have g1 : (sl2.set i t1)[i]? = some t1 := List.getElem?_set_self hi
      have g2 : t1.at q = some (.nd .list a us1) := by rw [← ht1]; exact TA.put_at_self _ q t _ h2
      obtain ⟨n2, o2, a2⟩ := slot_noTupl R2 g1 g2
      have e0 : us1.dropLast = us.dropLast := by rw [← hus1]; exact dropLast_setLast us _
      have sub : us1.dropLast.Sublist us1 := List.dropLast_sublist _
      have uq1 : (TA.fpl us1).Nodup := by
        obtain ⟨l1, l2, el, _⟩ := TA.lens q t1 _ g2
        have := R2.slot_uq g1
        rw [el] at this
        have := (nodup_mid this).2.1
        rw [TA.fp] at this
        exact (List.nodup_cons.mp this).2
      obtain ⟨R3, e3⟩ := Rel.chg (tp := tp ++ [c]) (xs := []) (us' := us1.dropLast) (by simpa using R2) g1 g2 (TA.okl_all.mpr fun z hz => TA.okl_all.mp o2 z (sub.subset hz)) (fun z hz => .inl ((fpl_sub sub).subset hz)) ((fpl_sub sub).nodup uq1) (TA.noTupl_all.mpr fun z hz => TA.noTupl_all.mp n2 z (sub.subset hz))
      refine mt_pop pins s σ' H2 _ _ v us0 Q I rx rxs ⟨a, _, c.v, rfl, rfl, a1, by rw [List.length_map, List.getElem?_map, hc]; rfl, ?_⟩
      rw [e0] at R3 e3
      rw [List.map_dropLast] at R3
      have hcd' : c.isDead = false := by rw [← TA.isDead_t]; exact hcd
      refine hk (.v c.t) c.v Hs2 _ _ [c] R3 ⟨c, rfl, rfl, rfl, hcd'⟩ (st.trans (pu' := false) ⟨fun z => (by cases z), fun j u hu hud => ?_⟩ id) ?_
      · have hlive : ∃ u', (sl2.set i t1)[j]? = some u' ∧ u'.isDead = false := by
          rw [← ht1]
          exact chg_live h1 h2 rfl j u hu hud
        obtain ⟨u', k1, k2⟩ := hlive
        exact chg_live g1 g2 rfl j u' k1 k2
      · have e4 : TA.tl (sl2.set i t1) = putS (TA.tl sl2) i q (.nd .list (TA.tl us1)) := by rw [← ht1, tl_putS h1, TA.t]
        rw [e3, e4, putS_putS (t := t.t) (c := .nd .list (TA.tl us)) (by rw [tl_get, h1]; rfl) (by rw [TA.at_t, h2, Option.map_some, TA.t])]
        have e5 : TA.tl us.dropLast = (TA.tl us).dropLast := by rw [TA.tl_map, TA.tl_map, List.map_dropLast]
        rw [e5]
        exact hP
  all_goals first | exact h.elim | skip
theorem mt_W (m : Mth) : MtR X (mthId m) (MtW X m) := by
  cases m with
  | append => exact mt_append_W
  | insert => exact mt_insert_W
  | pop => exact mt_pop_W
  | clear => exact mt_clear_W
  | reverse => exact mt_reverse_W
  | index => exact mt_index_W
theorem mth_slot (m : Mth) : Slot "list" (mthNm m) (mthId m) ∧ typeOf (.builtin (mthId m)) = pure (.type "method_descriptor") := by
  cases m with
  | append => exact ⟨PySem.F.slot_list_append, PySem.F.type_list_append⟩
  | insert => exact ⟨PySem.F.slot_list_insert, PySem.F.type_list_insert⟩
  | pop => exact ⟨PySem.F.slot_list_pop, PySem.F.type_list_pop⟩
  | clear => exact ⟨PySem.F.slot_list_clear, PySem.F.type_list_clear⟩
  | reverse => exact ⟨PySem.F.slot_list_reverse, PySem.F.type_list_reverse⟩
  | index => exact ⟨PySem.F.slot_list_index, PySem.F.type_list_index⟩
theorem le_mth {m : Mth} {eo : Expr} {o : E} {nm : Str} {ap cp : Pos} (hnm : nm = mthNm m) (hno : noCall eo = true) (hline : (ap.endLine == cp.line) = true) (hlen : es.length < 20) (hst : es.all noStar = true) (ho : PEc X Γ eo o) (h : PAc X Γ es cs) (hcs : es = [] → cs = []) : PE X (.Call (.Attribute eo nm ap) es [] cp) (LE X Γ.pin pu (wE Γ pu (.mth m o cs))) := by
  subst hnm
  obtain ⟨sl1, ty1⟩ := mth_slot m
  refine ⟨fun pins s σ H Q I hw => ?_⟩
  obtain ⟨B, Hs, sl, tp, P, R0, hw, hk⟩ := hw
  rw [wE] at hw
  have tyl : ∀ {ro : R} {v : V} {Hs1 H1 : Hp} {sl1 nw1 : List TA}, Rel X.K ⟨B, Γ.pin⟩ Hs1 H1 σ sl1 (tp ++ nw1) → RR ro v sl1 nw1 → mtyW m ro (TA.tl sl1) → tyV X.K "list" v H1 := by
    intro ro v Hs1 H1 sl1 nw1 R1 rr1 hm
    unfold mtyW at hm
    split at hm
    · rename_i ts e
      obtain ⟨a, us, rfl, _, e4, _⟩ := rr1.node R1 e
      exact .inl ⟨rfl, _, SqL.of e4⟩
    · rename_i xs e
      have d := (rr1.dpT R1 e).2
      cases d with
      | lst hr ha => exact .inl ⟨rfl, _, hr⟩
    · exact hm.elim
  cases es with
  | nil =>
    have hcs := hcs rfl
    subst hcs
    refine (pe_bm0 PySem.F.plainAttrs_list sl1 ty1 (mt_W m) (ho pu) (base_of hno) hline).run pins s σ H Q I ⟨B, Hs, sl, tp, _, R0, hw, fun ro v Hs1 H1 sl1 nw1 R1 rr1 st1 p1 => ⟨tyl R1 rr1 p1.1, ?_⟩⟩
    have p2 := p1.2
    rw [wA] at p2
    exact ⟨σ, ⟨B, Γ.pin⟩, Hs1, sl1, tp, [nw1], [ro], P, H, sl, pu, by simpa using R1, .cons rr1 .nil, st1, p2, hk⟩
  | cons e es =>
    simp only [List.all_cons, Bool.and_eq_true] at hst
    have hall : (e :: es).all noStar = true := by simp only [List.all_cons, Bool.and_eq_true]; exact hst
    have ta : PA X (e :: es) (fun σ' H1 Q' => ∃ pu', LA X Γ.pin pu' (wA Γ pu' cs) σ' H1 Q') := ⟨fun pos pins s σ H Q I ⟨pu', h'⟩ => (h pu').run pos pins s σ H Q I h'⟩
    refine (pe_bm PySem.F.plainAttrs_list sl1 ty1 (mt_W m) (ho pu) ta (base_of hno) (by rw [stars_all hall]; simp only [Bool.true_and, Bool.and_eq_true, decide_eq_true_eq]; exact ⟨rfl, by simp only [List.length_nil, List.isEmpty_nil, if_true]; omega⟩) hline (star_of hst.1) (stars_of hst.2)).run pins s σ H Q I ⟨B, Hs, sl, tp, _, R0, hw, fun ro v Hs1 H1 sl1 nw1 R1 rr1 st1 p1 => ⟨tyl R1 rr1 p1.1, pu || !ro.top, B, Hs1, sl1, tp ++ nw1, _, R1, p1.2, fun rs vs Hs2 H2 sl2 nws R2 rrs st2 p2 => ?_⟩⟩
    refine ⟨σ, ⟨B, Γ.pin⟩, Hs2, sl2, tp, nw1 :: nws, ro :: rs, P, H, sl, pu, by rw [List.flatten_cons, ← List.append_assoc]; exact R2, .cons (rr1.stay R1 R2 st2 (fun z => by rw [z]; simp)) rrs, st1.trans st2 (fun z => by rw [z]; rfl), p2, hk⟩
theorem le_sl {lo hi : Bool} {eo : Expr} {o : E} {l h : Option Expr} {p2 : Pos} (ho : PEc X Γ eo o)
    (hp : (l = none ∧ h = none ∧ lo = false ∧ hi = false ∧ cs = []) ∨ (∃ el c, l = some el ∧ h = none ∧ lo = true ∧ hi = false ∧ cs = [c] ∧ PEc X Γ el c) ∨ (∃ eh c, l = none ∧ h = some eh ∧ lo = false ∧ hi = true ∧ cs = [c] ∧ PEc X Γ eh c) ∨
      (∃ el eh c c', l = some el ∧ h = some eh ∧ lo = true ∧ hi = true ∧ cs = [c, c'] ∧ PEc X Γ el c ∧ PEc X Γ eh c')) : PE X (.Subscript eo (.Slice l h none p2) pos) (LE X Γ.pin pu (wE Γ pu (.sl lo hi o cs))) := by
  refine ⟨fun pins s σ H Q I hw => ?_⟩
  obtain ⟨B, Hs, sl, tp, P, R0, hw, hk⟩ := hw
  rw [wE] at hw
  have ex : ∀ {e : Expr} {c : E}, PEc X Γ e c → PE X e (fun σ' H1 Q' => ∃ pu', LE X Γ.pin pu' (wE Γ pu' c) σ' H1 Q') := fun h => ⟨fun pins s σ H Q I ⟨pu', h'⟩ => (h pu').run pins s σ H Q I h'⟩
  rcases hp with ⟨rfl, rfl, rfl, rfl, rfl⟩ | ⟨el, c, rfl, rfl, rfl, rfl, rfl, hl⟩ | ⟨eh, c, rfl, rfl, rfl, rfl, rfl, hh⟩ | ⟨el, eh, c, c', rfl, rfl, rfl, rfl, rfl, hl, hh⟩
  · refine (pe_slice sl_W (ho pu) po_none po_none).run pins s σ H Q I ⟨B, Hs, sl, tp, _, R0, hw, fun ro v Hs1 H1 sl1 nw1 R1 rr1 st1 p1 => ?_⟩
    rw [wN] at p1
    exact ⟨σ, ⟨B, Γ.pin⟩, Hs1, sl1, tp, nw1, ro, P, H, sl, pu, R1, rr1, st1, p1, hk⟩
  · refine (pe_slice sl_W (ho pu) (po_some (ex hl)) po_none).run pins s σ H Q I ⟨B, Hs, sl, tp, _, R0, hw, fun ro v Hs1 H1 sl1 nw1 R1 rr1 st1 p1 => ?_⟩
    rw [wN] at p1
    refine ⟨pu || !ro.top, B, Hs1, sl1, tp ++ nw1, _, R1, p1, fun r2 v2 Hs2 H2 sl2 nw2 R2 rr2 st2 p2 => ?_⟩
    split at p2
    · rename_i i e
      rw [wN] at p2
      exact ⟨i, (rr2.dpT R2 e).2.int_v, σ, ⟨B, Γ.pin⟩, Hs2, sl2, tp, nw1, ro, P, H, sl, pu, R2.drop, rr1.stay R1 R2 st2 (fun z => by rw [z]; simp), st1.trans st2 (fun z => by rw [z]; rfl), p2, hk⟩
    · exact p2.elim
  · refine (pe_slice sl_W (ho pu) po_none (po_some (ex hh))).run pins s σ H Q I ⟨B, Hs, sl, tp, _, R0, hw, fun ro v Hs1 H1 sl1 nw1 R1 rr1 st1 p1 => ?_⟩
    rw [wN] at p1
    refine ⟨pu || !ro.top, B, Hs1, sl1, tp ++ nw1, _, R1, p1, fun r2 v2 Hs2 H2 sl2 nw2 R2 rr2 st2 p2 => ?_⟩
    split at p2
    · rename_i i e
      rw [wN] at p2
      exact ⟨i, (rr2.dpT R2 e).2.int_v, σ, ⟨B, Γ.pin⟩, Hs2, sl2, tp, nw1, ro, P, H, sl, pu, R2.drop, rr1.stay R1 R2 st2 (fun z => by rw [z]; simp), st1.trans st2 (fun z => by rw [z]; rfl), p2, hk⟩
    · exact p2.elim
  · refine (pe_slice sl_W (ho pu) (po_some (ex hl)) (po_some (ex hh))).run pins s σ H Q I ⟨B, Hs, sl, tp, _, R0, hw, fun ro v Hs1 H1 sl1 nw1 R1 rr1 st1 p1 => ?_⟩
    rw [wN] at p1
    refine ⟨pu || !ro.top, B, Hs1, sl1, tp ++ nw1, _, R1, p1, fun r2 v2 Hs2 H2 sl2 nw2 R2 rr2 st2 p2 => ?_⟩
    split at p2
    · rename_i i e
      rw [wN] at p2
      refine ⟨i, (rr2.dpT R2 e).2.int_v, pu || !ro.top, B, Hs2, sl2, tp ++ nw1, _, R2.drop, p2, fun r3 v3 Hs3 H3 sl3 nw3 R3 rr3 st3 p3 => ?_⟩
      split at p3
      · rename_i j e3
        rw [wN] at p3
        have rr1' := (rr1.stay R1 R2 st2 (fun z => by rw [z]; simp)).stay R2.drop R3 st3 (fun z => by rw [z]; simp)
        exact ⟨j, (rr3.dpT R3 e3).2.int_v, σ, ⟨B, Γ.pin⟩, Hs3, sl3, tp, nw1, ro, P, H, sl, pu, R3.drop, rr1', (st1.trans st2 (fun z => by rw [z]; rfl)).trans st3 (fun z => by rw [z]; rfl), p3, hk⟩
      · exact p3.elim
    · exact p2.elim
end
end VL
set_option Elab.async false
set_option linter.all false
set_option maxRecDepth 100000
set_option maxHeartbeats 4000000
/-! VL16: what loops and comprehensions go through. -/
namespace VL
open PySem PySem.Spec PyProof.Rows L2
structure Walk (K : PySem.W.Frag) (J : It) (xs : List PyData) (Hq Hsq : Hp) : Prop where
  go : ∀ i H Hs, Same Hq H → Same Hsq Hs → Same Hs H → i < xs.length → J.go i H
  stop : ∀ i H Hs, Same Hq H → Same Hsq Hs → Same Hs H → xs.length ≤ i → J.stop i H
  yld : ∀ i H Hs v H' x, Same Hq H → Same Hsq Hs → Same Hs H → xs[i]? = some x → J.yld i H v H' → ∃ Hs', Same Hs Hs' ∧ Rp K Hs' v x ∧ Same H H' ∧ ∀ B σ sl tp, Rel K B Hs H σ sl tp → Rel K B Hs' H' σ sl tp
def H00 : Hp := fun _ => none
theorem same00 {H : Hp} : Same H00 H := fun _ _ h => by cases h
section
variable {K : PySem.W.Frag} {a : Addr} {vs : List V} {xs : List PyData} {Hq Hsq : Hp}
theorem walk_list (sq : ∀ H Hs, Same Hq H → Same Hsq Hs → Same Hs H → SqL K H a vs) (ha : RpAll K Hsq vs xs) : Walk K (Itl K a) xs Hq Hsq where
  go := fun i H Hs h1 h2 h3 hi => by
    have hl := ha.length
    exact ⟨vs, vs[i], sq H Hs h1 h2 h3, by simp [hl, hi]⟩
  stop := fun i H Hs h1 h2 h3 hi => ⟨vs, sq H Hs h1 h2 h3, by rw [ha.length]; exact hi⟩
  yld := fun i H Hs v H' x h1 h2 h3 hx hy => by
    obtain ⟨rfl, hy⟩ := hy
    obtain ⟨w, hw, dw⟩ := ha.get hx
    have : v = w := Option.some.inj ((hy vs (sq _ _ h1 h2 h3)).symm.trans hw)
    subst this
    exact ⟨Hs, Same.refl _, dw.mono h2, Same.refl _, fun _ _ _ _ R => R⟩
theorem walk_tup (sq : SqT K Hsq a vs) (ha : RpAll K Hsq vs xs) : Walk K (Itt K a) xs Hq Hsq where
  go := fun i H Hs h1 h2 h3 hi => by
    have hl := ha.length
    exact ⟨vs, vs[i], SqT.mono h3 (SqT.mono h2 sq), by simp [hl, hi]⟩
  stop := fun i H Hs h1 h2 h3 hi => ⟨vs, SqT.mono h3 (SqT.mono h2 sq), by rw [ha.length]; exact hi⟩
  yld := fun i H Hs v H' x h1 h2 h3 hx hy => by
    obtain ⟨rfl, hy⟩ := hy
    obtain ⟨w, hw, dw⟩ := ha.get hx
    have : v = w := Option.some.inj ((hy vs (SqT.mono h3 (SqT.mono h2 sq))).symm.trans hw)
    subst this
    exact ⟨Hs, Same.refl _, dw.mono h2, Same.refl _, fun _ _ _ _ R => R⟩
theorem walk_rng (lo : Int) (n : Nat) : Walk K (Itr lo n) (rngL lo n) Hq Hsq where
  go := fun i H Hs _ _ _ hi => by show i < n; simpa [rngL] using hi
  stop := fun i H Hs _ _ _ hi => by show n ≤ i; simpa [rngL] using hi
  yld := fun i H Hs v H' x h1 h2 h3 hx hy => by
    obtain ⟨rfl, rfl⟩ := hy
    simp only [rngL, List.getElem?_map, Option.map_eq_some_iff] at hx
    obtain ⟨j, hj, rfl⟩ := hx
    have hin : i < n := by simpa using (List.getElem?_eq_some_iff.mp hj).1
    have : j = i := by
      rw [List.getElem?_range hin] at hj
      exact (Option.some.inj hj).symm
    subst this
    exact ⟨Hs, Same.refl _, .int _, Same.refl _, fun _ _ _ _ R => R⟩
theorem walk_rngC (lo c : Int) (n : Nat) : Walk K (Itc lo c n) (rngC lo c n) Hq Hsq where
  go := fun i H Hs _ _ _ hi => by show i < n; simpa [rngC] using hi
  stop := fun i H Hs _ _ _ hi => by show n ≤ i; simpa [rngC] using hi
  yld := fun i H Hs v H' x h1 h2 h3 hx hy => by
    obtain ⟨rfl, rfl⟩ := hy
    simp only [rngC, List.getElem?_map, Option.map_eq_some_iff] at hx
    obtain ⟨j, hj, rfl⟩ := hx
    have hin : i < n := by simpa using (List.getElem?_eq_some_iff.mp hj).1
    have : j = i := by
      rw [List.getElem?_range hin] at hj
      exact (Option.some.inj hj).symm
    subst this
    exact ⟨Hs, Same.refl _, .int _, Same.refl _, fun _ _ _ _ R => R⟩
theorem walk_enum (sq : ∀ H Hs, Same Hq H → Same Hsq Hs → Same Hs H → SqL K H a vs) (ha : RpAll K Hsq vs xs) : Walk K (Ite K a) (enumL xs) Hq Hsq where
  go := fun i H Hs h1 h2 h3 hi => by
    have hl := ha.length
    have hi : i < xs.length := by simpa [enumL] using hi
    exact ⟨vs, vs[i], sq H Hs h1 h2 h3, by simp [hl, hi]⟩
  stop := fun i H Hs h1 h2 h3 hi => ⟨vs, sq H Hs h1 h2 h3, by rw [ha.length]; simpa [enumL] using hi⟩
  yld := fun i H Hs v H' x h1 h2 h3 hx hy => by
    obtain ⟨T0, y, rfl, hn, rfl, hy⟩ := hy
    have hi : i < xs.length := by
      have := (List.getElem?_eq_some_iff.mp hx).1
      simpa [enumL] using this
    have hxi : xs[i]? = some xs[i] := List.getElem?_eq_getElem hi
    obtain ⟨w, hw, dw⟩ := ha.get hxi
    have : y = w := Option.some.inj ((hy vs (sq _ _ h1 h2 h3)).symm.trans hw)
    subst this
    have ex : x = .tuple [.int (i : Nat), xs[i]] := by
      simp only [enumL, List.getElem?_map, List.getElem?_range hi, Option.map_some, Option.some.injEq] at hx
      rw [← hx]
      simp [List.getD, hxi]
    subst ex
    have hsn : Hs T0 = none := h3.free hn
    refine ⟨upd Hs T0 (.tup [.int (i : Nat), y]), same_upd hsn, .tup (SqT.of upd_same) (.cons (.int _) (.cons ((dw.mono h2).mono (same_upd hsn)) .nil)), same_upd hn, fun B σ sl tp R => R.allocF hn _⟩
end
section
variable {X : Cx} {Γ : Ctx} {b : Blk} {k : Nat} {pos : Pos} {ea eb ec tg : Expr} {es : List Expr} {cs : List E} {p q r : E} {pu bor : Bool}
def hqOf (bor : Bool) (H : Hp) : Hp := if bor then H else H00
/-- the items of a list, for a loop -/
theorem seq_ok {K : PySem.W.Frag} {B : Bs} {Hs H : Hp} {σ : L2.St} {sl tp nw : List TA} {r : R} {v : V} {Kk : List PyData → St → Prop} (R1 : Rel K B Hs H σ sl (tp ++ nw)) (rr : RR r v sl nw) (h : seqW pu bor r (TA.tl sl) Kk) :
    ∃ a vs xs Hs' sl', v = .ref a ∧ Rel K B Hs' H σ sl' tp ∧ Stp pu H H sl sl' ∧ (∀ H2 Hs2, Same (hqOf bor H) H2 → Same Hs' Hs2 → Same Hs2 H2 → SqL K H2 a vs) ∧ SqL K H a vs ∧ RpAll K Hs' vs xs ∧ Kk xs (TA.tl sl') := by
  unfold seqW at h
  split at h
  · rename_i xs e
    have d := (rr.dpT R1 e).1
    cases d with
    | lst hr ha => exact ⟨_, _, xs, Hs, sl, rfl, R1.drop, .refl, fun H2 Hs2 _ h2 h3 => SqL.mono h3 (SqL.mono h2 hr), SqL.mono R1.sub hr, ha, h⟩
  · rename_i ts e
    obtain ⟨a, us, rfl, e3, e4, e5, e6, e7⟩ := rr.node R1 e
    cases bor with
    | true =>
      simp only at h
      split at h
      · rename_i xs hl
        rw [← e3] at hl
        obtain ⟨f1, f2, f3⟩ := leaves_of hl
        exact ⟨a, _, xs, Hs, sl, rfl, R1.drop, .refl, fun H2 Hs2 h1 _ _ => SqL.of (h1 _ _ e4), SqL.of e4, f3 e5, h⟩
      · exact h.elim
    | false =>
      simp only at h
      split at h
      · rename_i xs hd
        cases r with
        | v t0 =>
          have hnw := e6 rfl
          subst hnw
          have hd' : (TA.nd .list a us).t.data = some (.list xs) := by rw [TA.t, e3]; exact hd
          have R2 := R1.frzT hd'
          have ok := TA.okl_append.mp R1.okT
          have dp : Rp K (frzH Hs H (TA.nd .list a us).fp) (.ref a) (.list xs) := by
            have := okl_one.mp (TA.okl_append.mp R2.okT).2
            rw [TA.ok] at this
            exact this
          cases dp with
          | lst hr ha => exact ⟨a, _, xs, _, sl, rfl, R2.drop, .refl, fun H2 Hs2 _ h2 h3 => SqL.mono h3 (SqL.mono h2 hr), SqL.mono R2.sub hr, ha, h⟩
        | p i q =>
          obtain ⟨hpu, h⟩ := h
          subst hpu
          obtain ⟨t, g1, g2⟩ := e7 i q rfl
          have hd' : (TA.nd .list a us).t.data = some (.list xs) := by rw [TA.t, e3]; exact hd
          have R1' : Rel K B Hs H σ sl tp := R1.drop
          obtain ⟨R2, dp⟩ := R1'.frzP g1 g2 rfl hd'
          cases dp with
          | lst hr ha =>
            refine ⟨a, _, xs, _, _, rfl, R2, ⟨fun z => (by cases z), frz_live g1 g2 rfl⟩, fun H2 Hs2 _ h2 h3 => SqL.mono h3 (SqL.mono h2 hr), SqL.mono R2.sub hr, ha, ?_⟩
            rw [tl_putS g1]
            exact h
      · exact h.elim
  · exact h.elim
def LI (X : Cx) (ix : List Nat) (pu bor : Bool) (w : St → (List PyData → St → Prop) → Prop) : TI := fun σ H Rr => ∃ B Hs sl tp P, Rel X.K ⟨B, ix⟩ Hs H σ sl tp ∧ w (TA.tl sl) P ∧
  ∀ J xs Hs' H' sl', Rel X.K ⟨B, ix⟩ Hs' H' σ sl' tp → Walk X.K J xs (hqOf bor H') Hs' → Stp pu H H' sl sl' → P xs (TA.tl sl') → Rr J H'
theorem iter_list {pins : List (Addr × Obj)} {s1 : Shared} {σ : L2.St} {H1 : Hp} {Rr : It → Hp → Prop} {a : Addr} {xs : List V} {E : Value → Shared → Prop} (I1 : Inv X pins σ H1 s1) (hq : SqL X.K H1 a xs) (q : Rr (Itl X.K a) H1) : wpAny (model X.prog X.w) X.A (pyIter (.ref a)) (PIE X pins σ tg Rr) E s1 := by
  obtain ⟨its, rv, p, hz⟩ := I1.list hq
  refine wpAny_pyIter_list p.isList ?_
  refine ⟨s1.heap.objs.size, [s1.heap.objs.size], _, _, H1, rfl, I1.kept (t' := s1.toks) fun b o e => Heap.get?_push_of_some _ e, turn_list a _, ⟨_, Heap.get?_push_size _ rfl, rfl, rfl⟩, fun b hb => ?_, q⟩
  have e : b = s1.heap.objs.size := by simpa using hb
  subst e
  exact I1.fpOk (Nat.le_refl _) (I1.hok.fresh (Nat.le_refl _))
theorem iter_tup {pins : List (Addr × Obj)} {s1 : Shared} {σ : L2.St} {H1 : Hp} {Rr : It → Hp → Prop} {a : Addr} {xs : List V} {E : Value → Shared → Prop} (I1 : Inv X pins σ H1 s1) (hq : SqT X.K H1 a xs) (q : Rr (Itt X.K a) H1) : wpAny (model X.prog X.w) X.A (pyIter (.ref a)) (PIE X pins σ tg Rr) E s1 := by
  obtain ⟨its, rv, p, hz⟩ := I1.tuple hq
  refine wpAny_pyIter_tuple (show s1.heap.IsTuple a its.toArray from p) ?_
  refine ⟨s1.heap.objs.size, [s1.heap.objs.size], _, _, H1, rfl, I1.kept (t' := s1.toks) fun b o e => Heap.get?_push_of_some _ e, turn_tuple a _, ⟨_, Heap.get?_push_size _ rfl, rfl, rfl⟩, fun b hb => ?_, q⟩
  have e : b = s1.heap.objs.size := by simpa using hb
  subst e
  exact I1.fpOk (Nat.le_refl _) (I1.hok.fresh (Nat.le_refl _))
abbrev wIt (Γ : Ctx) (pu bor : Bool) (it : ItK) (cs : List E) : St → (List PyData → St → Prop) → Prop := fun σ K => wA Γ pu cs σ fun rs σ1 => itW pu bor it rs σ1 K
theorem li_e {c : E} (h : PEc X Γ ea c) : PI X tg ea (LI X Γ.pin pu bor (wIt Γ pu bor .e [c])) := by
  refine ⟨fun pins s σ H Rr I hw => ?_⟩
  obtain ⟨B, Hs, sl, tp, P, R0, hw, hk⟩ := hw
  simp only [wIt, wA] at hw
  refine one R0 hw I (h pu) fun v s1 x H1 ra Hs1 sl1 nw1 I1 rx R1 r1 st h => ?_
  simp only [itW] at h
  split at h
  · rename_i xs e
    have d := (r1.dpT R1 e).1
    cases d with
    | tup hr ha =>
      cases rx
      exact iter_tup I1 (SqT.mono R1.sub hr) (hk _ xs Hs1 H1 sl1 R1.drop (walk_tup hr ha) st h)
  · obtain ⟨a, vs, xs, Hs2, sl2, rfl, R2, st2, sq, sq1, ha, hP⟩ := seq_ok R1 r1 h
    cases rx
    exact iter_list I1 sq1 (hk _ xs Hs2 H1 sl2 R2 (walk_list sq ha) (st.trans st2 id) hP)
theorem li_rng1 {x : Str} {p0 : Pos} (C : CxOk X Γ b k) (hx : bltCall Γ.sk b "range" x = true) (hs : noStar ea = true) (h : PAc X Γ [ea] cs) : PI X tg (.Call (.Name x p0) [ea] [] pos) (LI X Γ.pin pu bor (wIt Γ pu bor .rng1 cs)) := by
  obtain ⟨rfl, hg, hm, _, _⟩ := bltCall_of C hx
  refine ⟨fun pins s σ H Rr I hw => ?_⟩
  obtain ⟨B, Hs, sl, tp, P, R0, hw, hk⟩ := hw
  refine (pi_range1 hg hm (h pu) (star_of hs)).run pins s σ H Rr I ⟨B, Hs, sl, tp, _, R0, hw, fun rs vs Hs1 H1 sl1 nws R1 rr st1 p1 => ?_⟩
  cases rs with
  | nil => exact p1.elim
  | cons r rs =>
  cases rs with
  | cons _ _ => exact p1.elim
  | nil =>
    obtain ⟨x, nw, rfl, rfl, r1⟩ := rr.one
    have R2 : Rel X.K ⟨B, Γ.pin⟩ Hs1 H1 σ sl1 (tp ++ nw) := by simpa using R1
    simp only [itW] at p1
    split at p1
    · rename_i j e
      obtain ⟨⟨b1, b2⟩, p1⟩ := p1
      have := (r1.dpT R2 e).2.int_v
      subst this
      exact ⟨j, rfl, b1, b2, hk _ _ Hs1 H1 sl1 R2.drop (walk_rng 0 _) st1 p1⟩
    · exact p1.elim
theorem li_rng2 {x : Str} {p0 : Pos} (C : CxOk X Γ b k) (hx : bltCall Γ.sk b "range" x = true) (hs : noStar ea = true) (hs2 : noStar eb = true) (h : PAc X Γ [ea, eb] cs) : PI X tg (.Call (.Name x p0) [ea, eb] [] pos) (LI X Γ.pin pu bor (wIt Γ pu bor .rng2 cs)) := by
  obtain ⟨rfl, hg, hm, _, _⟩ := bltCall_of C hx
  refine ⟨fun pins s σ H Rr I hw => ?_⟩
  obtain ⟨B, Hs, sl, tp, P, R0, hw, hk⟩ := hw
  refine (pi_range2 hg hm (h pu) (by rw [star_of hs, star_of hs2]; rfl) (star_of hs2)).run pins s σ H Rr I ⟨B, Hs, sl, tp, _, R0, hw, fun rs vs Hs1 H1 sl1 nws R1 rr st1 p1 => ?_⟩
  cases rs with
  | nil => exact p1.elim
  | cons r rs =>
  cases rs with
  | nil => exact p1.elim
  | cons r' rs =>
  cases rs with
  | cons _ _ => exact p1.elim
  | nil =>
    obtain ⟨x, y, nw, nw', rfl, rfl, r1, r2⟩ := rr.two
    have R2 : Rel X.K ⟨B, Γ.pin⟩ Hs1 H1 σ sl1 ((tp ++ nw) ++ nw') := by simpa using R1
    simp only [itW] at p1
    split at p1
    · rename_i i j e1 e2
      obtain ⟨⟨b1, b2⟩, ⟨b3, b4⟩, p1⟩ := p1
      have := (r1.dpT R2.drop e1).2.int_v
      subst this
      have := (r2.dpT R2 e2).2.int_v
      subst this
      exact ⟨i, j, rfl, ⟨b1, b2, b3, b4⟩, hk _ _ Hs1 H1 sl1 R2.drop.drop (walk_rng i _) st1 p1⟩
    · exact p1.elim
theorem li_rng3 {x : Str} {p0 : Pos} (C : CxOk X Γ b k) (hx : bltCall Γ.sk b "range" x = true) (hs : noStar ea = true) (hs2 : noStar eb = true) (hs3 : noStar ec = true) (h : PAc X Γ [ea, eb, ec] cs) : PI X tg (.Call (.Name x p0) [ea, eb, ec] [] pos) (LI X Γ.pin pu bor (wIt Γ pu bor .rng3 cs)) := by
  obtain ⟨rfl, hg, hm, _, _⟩ := bltCall_of C hx
  refine ⟨fun pins s σ H Rr I hw => ?_⟩
  obtain ⟨B, Hs, sl, tp, P, R0, hw, hk⟩ := hw
  refine (pi_range3 hg hm (h pu) (star_of hs) (stars_of (by simp [hs2, hs3]))).run pins s σ H Rr I ⟨B, Hs, sl, tp, _, R0, hw, fun rs vs Hs1 H1 sl1 nws R1 rr st1 p1 => ?_⟩
  cases rs with
  | nil => exact p1.elim
  | cons r rs =>
  cases rs with
  | nil => exact p1.elim
  | cons r' rs =>
  cases rs with
  | nil => exact p1.elim
  | cons r'' rs =>
  cases rs with
  | cons _ _ => exact p1.elim
  | nil =>
    obtain ⟨x, y, z, nw, nw', nw'', rfl, rfl, r1, r2, r3⟩ := rr.three
    have R2 : Rel X.K ⟨B, Γ.pin⟩ Hs1 H1 σ sl1 (((tp ++ nw) ++ nw') ++ nw'') := by simpa using R1
    simp only [itW] at p1
    split at p1
    · rename_i i j e1 e2 e3
      obtain ⟨⟨b1, b2⟩, ⟨b3, b4⟩, p1⟩ := p1
      have := (r1.dpT R2.drop.drop e1).2.int_v
      subst this
      have := (r2.dpT R2.drop e2).2.int_v
      subst this
      have := (r3.dpT R2 e3).2.int_v
      subst this
      exact ⟨i, j, -1, _, rfl, RgC.neg b1 b2 b3 b4, hk _ _ Hs1 H1 sl1 R2.drop.drop.drop (walk_rngC i (-1) _) st1 p1⟩
    · exact p1.elim
theorem li_rrng {x y : Str} {p0 p1 p2 : Pos} {c : E} (C : CxOk X Γ b k) (hx : bltCall Γ.sk b "reversed" x = true) (hy : bltCall Γ.sk b "range" y = true) (hs : noStar ea = true) (h : PEc X Γ ea c) : PI X tg (.Call (.Name x p0) [.Call (.Name y p1) [ea] [] p2] [] pos) (LI X Γ.pin pu bor (wIt Γ pu bor .rrng [c])) := by
  obtain ⟨rfl, hg, hm, _, _⟩ := bltCall_of C hx
  obtain ⟨rfl, hg2, hm2, _, _⟩ := bltCall_of C hy
  refine ⟨fun pins s σ H Rr I hw => ?_⟩
  obtain ⟨B, Hs, sl, tp, P, R0, hw, hk⟩ := hw
  simp only [wIt, wA] at hw
  refine (pi_revR hg hm (prg_1 hg2 hm2 (h pu) (star_of hs)) (star_of rfl)).run pins s σ H Rr I ⟨B, Hs, sl, tp, _, R0, hw, fun ra v Hs1 H1 sl1 nw1 R1 rr1 st1 p1 => ?_⟩
  simp only [itW] at p1
  split at p1
  · rename_i j e
    obtain ⟨⟨b1, b2⟩, p1⟩ := p1
    have := (rr1.dpT R1 e).2.int_v
    subst this
    refine ⟨j, rfl, by omega, by omega, b1, b2, ?_⟩
    have e : (Itc (0 + (((j - 0).toNat : Nat) : Int) - 1) (-1) (j - 0).toNat) = Itc ((j.toNat : Int) - 1) (-1) j.toNat := by simp
    rw [e]
    exact hk _ _ Hs1 H1 sl1 R1.drop (walk_rngC _ (-1) _) st1 p1
  · exact p1.elim
theorem li_enum {x : Str} {p0 tpos : Pos} {elts : List Expr} {kk : Nat} (C : CxOk X Γ b k) (hx : bltCall Γ.sk b "enumerate" x = true) (hs : noStar ea = true) (h : PAc X Γ [ea] cs) : PI X (.Tuple elts kk tpos) (.Call (.Name x p0) [ea] [] pos) (LI X Γ.pin pu bor (wIt Γ pu bor .enum cs)) := by
  obtain ⟨rfl, hg, hm, _, _⟩ := bltCall_of C hx
  refine ⟨fun pins s σ H Rr I hw => ?_⟩
  obtain ⟨B, Hs, sl, tp, P, R0, hw, hk⟩ := hw
  refine (pi_enum hg hm (h pu) (star_of hs)).run pins s σ H Rr I ⟨B, Hs, sl, tp, _, R0, hw, fun rs vs Hs1 H1 sl1 nws R1 rr st1 p1 => ?_⟩
  cases rs with
  | nil => exact p1.elim
  | cons r rs =>
  cases rs with
  | cons _ _ => exact p1.elim
  | nil =>
    obtain ⟨x, nw, rfl, rfl, r1⟩ := rr.one
    have R2 : Rel X.K ⟨B, Γ.pin⟩ Hs1 H1 σ sl1 (tp ++ nw) := by simpa using R1
    simp only [itW] at p1
    obtain ⟨a, vs, xs, Hs2, sl2, rfl, R3, st2, sq, sq1, ha, hP⟩ := seq_ok R2 r1 p1
    exact ⟨a, vs, rfl, sq1, hk _ _ Hs2 H1 sl2 R3 (walk_enum sq ha) (st1.trans st2 id) hP⟩
end
end VL
set_option Elab.async false
set_option linter.all false
set_option maxRecDepth 100000
set_option maxHeartbeats 4000000
/-! VL17: targets; a slot put by. -/
namespace VL
open PySem PySem.Spec PyProof.Rows L2
section
variable {X : Cx} {Γ : Ctx} {b : Blk} {k : Nat} {pos : Pos} {ix : List Nat}
/-- an item given to its names -/
def LG (X : Cx) (ix : List Nat) (is : List Nat) : TG := fun v σ H Q => ∃ B Hs sl tp x σ1, Rel X.K ⟨B, ix⟩ Hs H σ sl tp ∧ Rp X.K Hs v x ∧ bindD is x (TA.tl sl) = some σ1 ∧ (∀ i ∈ is, i ∉ ix) ∧
  ∀ σ' sl', Rel X.K ⟨B, ix⟩ Hs H σ' sl' tp → TA.tl sl' = σ1 → (∀ j, j ∉ is → σ'[j]? = σ[j]? ∧ sl'[j]? = sl[j]?) → σ'.length = σ.length → Q σ' H
def LGs (X : Cx) (ix : List Nat) (is : List Nat) : TGs := fun vs σ H Q => ∃ B Hs sl tp xs σ1, Rel X.K ⟨B, ix⟩ Hs H σ sl tp ∧ RpAll X.K Hs vs xs ∧ setsD is xs (TA.tl sl) = some σ1 ∧ (∀ i ∈ is, i ∉ ix) ∧
  ∀ σ' sl', Rel X.K ⟨B, ix⟩ Hs H σ' sl' tp → TA.tl sl' = σ1 → (∀ j, j ∉ is → σ'[j]? = σ[j]? ∧ sl'[j]? = sl[j]?) → σ'.length = σ.length → Q σ' H
theorem lg_name {i : Nat} {x : Str} (C : CxOk X Γ b k) (h : tgB b i x = true) : PG X (.Name x pos) (gName i) := by
  unfold tgB at h
  simp only [Bool.and_eq_true, decide_eq_true_eq] at h
  obtain ⟨h1, h2⟩ := C.loc h.2
  exact pg_name (by rw [C.N]; exact C.nd) (by rw [C.N]; exact h.1) h1 h2
theorem set_leaf {K : PySem.W.Frag} {B : Bs} {Hs H : Hp} {σ : L2.St} {sl tp : List TA} {i : Nat} {v : V} {x : PyData} (R0 : Rel K B Hs H σ sl tp) (dp : Rp K Hs v x) (hi : i < (TA.tl sl).length) (hn : i ∉ B.ix) : Rel K B Hs H (σ.set i (some v)) (sl.set i (.d v x)) tp ∧ TA.tl (sl.set i (.d v x)) = (TA.tl sl).set i (.d x) :=
  ⟨(R0.leaf dp).setS (by rw [tl_len] at hi; exact hi) hn rfl, by rw [tl_set, TA.t]⟩
theorem lgs_ok (C : CxOk X Γ b k) : ∀ {is : List Nat} {es : List Expr}, tgsB b is es = true → PGs X es (LGs X ix is)
  | [], [], _ => ⟨fun pins s σ H vs us Q I r h => by
      obtain ⟨B, Hs, sl, tp, xs, σ1, R0, dp, hs, _, hk⟩ := h
      cases xs with
      | nil =>
        rw [setsD] at hs
        cases hs
        cases dp
        exact pgs_nil.run pins s σ H [] us Q I r ⟨rfl, hk σ sl R0 rfl (fun _ _ => ⟨rfl, rfl⟩) rfl⟩
      | cons _ _ => simp [setsD] at hs⟩
  | [], _ :: _, h => by simp [tgsB] at h
  | i :: is, [], h => by simp [tgsB] at h
  | i :: is, e :: es, h => by
    cases e <;> first | (exact (Bool.noConfusion h)) | skip
    rename_i x pos
    simp only [tgsB, Bool.and_eq_true] at h
    have ih := lgs_ok C h.2
    refine ⟨fun pins s σ H vs us Q I r hw => ?_⟩
    obtain ⟨B, Hs, sl, tp, xs, σ1, R0, dp, hs, hn, hk⟩ := hw
    cases xs with
    | nil => simp [setsD] at hs
    | cons d ds =>
      cases dp with
      | cons d1 d2 =>
        rw [setsD] at hs
        split at hs
        · rename_i hi
          obtain ⟨R1, e1⟩ := set_leaf R0 d1 hi (hn i (by simp))
          refine (pgs_cons (lg_name C h.1) ih rfl).run pins s σ H _ us Q I r ⟨_, _, rfl, B, Hs, _, tp, ds, σ1, R1, d2, by rw [e1]; exact hs, fun j hj => hn j (List.mem_cons_of_mem _ hj), fun σ' sl' R2 e2 f2 l2 => ?_⟩
          refine hk σ' sl' R2 e2 (fun j hj => ?_) (by rw [l2, List.length_set])
          obtain ⟨f3, f4⟩ := f2 j fun z => hj (List.mem_cons_of_mem _ z)
          rw [f3, f4, List.getElem?_set_ne fun z => hj (by rw [z]; exact List.mem_cons_self), List.getElem?_set_ne fun z => hj (by rw [z]; exact List.mem_cons_self)]
          exact ⟨rfl, rfl⟩
        · cases hs
theorem tgs_each {env : Env} : ∀ {is : List Nat} {es : List Expr}, tgsB b is es = true → (assignEach es env).length = is.length ∧ (assignEach es env).findIdx? (·.1) = none
  | [], [], _ => ⟨rfl, rfl⟩
  | [], _ :: _, h => by simp [tgsB] at h
  | i :: is, [], h => by simp [tgsB] at h
  | i :: is, e :: es, h => by
    cases e <;> first | (exact (Bool.noConfusion h)) | skip
    rename_i x pos
    simp only [tgsB, Bool.and_eq_true] at h
    obtain ⟨h1, h2⟩ := tgs_each (env := env) h.2
    refine ⟨by show (assignEach es env).length + 1 = _; rw [h1]; rfl, ?_⟩
    show List.findIdx? (·.1) ((false, _) :: assignEach es env) = none
    rw [List.findIdx?_cons]
    simp only [Bool.false_eq_true, if_false]
    rw [h2]
    rfl
theorem setsD_len : ∀ {is : List Nat} {xs : List PyData} {σ σ1 : St}, setsD is xs σ = some σ1 → is.length = xs.length
  | [], [], _, _, _ => rfl
  | [], _ :: _, _, _, h => by simp [setsD] at h
  | _ :: _, [], _, _, h => by simp [setsD] at h
  | i :: is, x :: xs, σ, σ1, h => by
    rw [setsD] at h
    split at h
    · rw [List.length_cons, List.length_cons, setsD_len h]
    · cases h
theorem lg_ok {tg : Expr} {is : List Nat} (C : CxOk X Γ b k) (h : targB b is tg = true) : PG X tg (LG X ix is) := by
  unfold targB at h
  split at h
  · rename_i i x p
    refine ⟨fun pins s σ H v u Q I r hw => ?_⟩
    obtain ⟨B, Hs, sl, tp, d, σ1, R0, dp, hs, hn, hk⟩ := hw
    simp only [bindD, setsD] at hs
    split at hs
    · rename_i hi
      cases hs
      obtain ⟨R1, e1⟩ := set_leaf R0 dp hi (hn i (by simp))
      refine (lg_name C h).run pins s σ H v u Q I r (hk _ _ R1 e1 (fun j hj => ?_) (by rw [List.length_set]))
      rw [List.getElem?_set_ne fun z => hj (by simp [z]), List.getElem?_set_ne fun z => hj (by simp [z])]
      exact ⟨rfl, rfl⟩
    · cases hs
  · rename_i i j is es n p
    obtain ⟨t1, t2⟩ := tgs_each (env := X.env) h
    refine ⟨fun pins s σ H v u Q I r hw => ?_⟩
    obtain ⟨B, Hs, sl, tp, d, σ1, R0, dp, hs, hn, hk⟩ := hw
    unfold bindD at hs
    split at hs
    · rename_i heq
      cases heq
    · cases dp with
      | tup hr ha =>
        simp only at hs
        exact (pg_tup C.calm (lgs_ok (ix := ix) C h) t1 t2).run pins s σ H _ u Q I r ⟨_, _, rfl, SqT.mono R0.sub hr, by rw [ha.length, ← setsD_len hs], B, Hs, sl, tp, _, σ1, R0, ha, hs, hn, hk⟩
      | _ => simp at hs
  · cases h
end
/-! ### slots put by -/
def wipeA (sl : List TA) : List Nat → List TA
  | [] => sl
  | v :: vs => (wipeA sl vs).set v (.dead .non)
theorem wipeA_len (sl : List TA) : ∀ is : List Nat, (wipeA sl is).length = sl.length
  | [] => rfl
  | v :: vs => by unfold wipeA; rw [List.length_set, wipeA_len sl vs]
theorem wipeA_out {sl : List TA} {i : Nat} : ∀ {is : List Nat}, i ∉ is → (wipeA sl is)[i]? = sl[i]?
  | [], _ => rfl
  | v :: vs, h => by
    unfold wipeA
    rw [List.getElem?_set_ne fun z => h (by rw [z]; exact List.mem_cons_self), wipeA_out fun z => h (List.mem_cons_of_mem _ z)]
theorem tl_wipe (sl : List TA) : ∀ is : List Nat, TA.tl (wipeA sl is) = wipeT (TA.tl sl) is
  | [] => rfl
  | v :: vs => by unfold wipeA wipeT; rw [tl_set, tl_wipe sl vs, TA.t]
theorem wipe_in {σ : L2.St} {j : Nat} : ∀ {vs : List Nat}, j ∈ vs → j < σ.length → (wipe σ vs)[j]? = some none
  | [], h, _ => by simp at h
  | v :: vs, h, hl => by
    unfold wipe
    by_cases hv : v = j
    · subst hv
      rw [List.getElem?_set_self (by rw [wipe_length]; exact hl)]
    · rw [List.getElem?_set_ne hv]
      exact wipe_in (by rcases List.mem_cons.mp h with z | z; exact absurd z.symm hv; exact z) hl
section
variable {K : PySem.W.Frag} {B : Bs} {Hs H Hs' H' : Hp} {σ σ2 : L2.St} {sl sl2 tp : List TA}
theorem hide_all (R : Rel K B Hs H σ sl tp) : ∀ {is : List Nat}, is.Nodup → (∀ i ∈ is, i < sl.length ∧ i ∉ B.ix) → Rel K B Hs H (wipe σ is) (wipeA sl is) (tp ++ is.map fun i => sl.getD i (.dead .non))
  | [], _, _ => by simpa [wipe, wipeA] using R
  | i :: is, hn, hi => by
    have ih := hide_all R (List.nodup_cons.mp hn).2 fun j hj => hi j (List.mem_cons_of_mem _ hj)
    have hni := (List.nodup_cons.mp hn).1
    obtain ⟨h1, h2⟩ := hi i List.mem_cons_self
    have g : (wipeA sl is)[i]? = some (sl.getD i (.dead .non)) := by
      rw [wipeA_out hni, List.getD_eq_getElem?_getD, List.getElem?_eq_getElem h1]
      rfl
    have R2 := ih.hide (σ' := wipe σ (i :: is)) g h2 (by rw [wipe_length, wipe_length]) (fun j hj => by
      show ((wipe σ is).set i none)[j]? = _
      rw [List.getElem?_set_ne (Ne.symm hj)])
    refine R2.perm ?_
    rw [List.append_assoc]
    exact List.Perm.append_left _ List.perm_append_comm
theorem unhide_all : ∀ {is : List Nat} {hid : List TA} {σ2 : L2.St} {sl2 : List TA}, Rel K B Hs' H' σ2 sl2 (tp ++ hid) → hid.length = is.length → is.Nodup → (∀ i ∈ is, i < sl2.length ∧ i ∉ B.ix) → (∀ t ∈ hid, t.noTup = true) → σ2.length = σ.length → (∀ j, j ∉ is → σ2[j]? = σ[j]?) → (∀ (n : Nat) i t, is[n]? = some i → hid[n]? = some t → t.isDead = false → σ[i]? = some (some t.v)) →
    ∃ sl3, Rel K B Hs' H' σ sl3 tp ∧ sl3 = (is.zip hid).foldl (fun s p => s.set p.1 p.2) sl2
  | [], hid, σ2, sl2, R, hl, _, _, _, hσ, ho, _ => by
    cases hid with
    | cons _ _ => simp at hl
    | nil =>
      have : σ2 = σ := List.ext_getElem? fun j => ho j (by simp)
      subst this
      exact ⟨sl2, by simpa using R, rfl⟩
  | i :: is, hid, σ2, sl2, R, hl, hn, hi, hnt, hσ, ho, hv => by
    cases hid with
    | nil => simp at hl
    | cons t hid =>
      obtain ⟨h1, h2⟩ := hi i List.mem_cons_self
      have hni := (List.nodup_cons.mp hn).1
      have R1 : Rel K B Hs' H' σ2 sl2 ((tp ++ hid) ++ [t]) := R.perm (by
        rw [List.append_assoc]
        exact List.Perm.append_left _ (List.perm_append_comm (l₁ := [t]) (l₂ := hid)))
      have hiσ : i < σ.length := by rw [← hσ, ← R.len]; exact h1
      have R2 := R1.unhide (σ := σ2.set i (σ[i]'hiσ)) h1 h2 (hnt t (by simp)) (by rw [List.length_set]) (fun j hj => by rw [List.getElem?_set_ne (Ne.symm hj)]) (fun hd => by
        rw [List.getElem?_set_self (by rw [hσ]; exact hiσ)]
        have := hv 0 i t rfl rfl hd
        rw [List.getElem?_eq_getElem hiσ] at this
        exact this)
      obtain ⟨sl3, R3, e3⟩ := unhide_all (is := is) (hid := hid) (σ2 := σ2.set i (σ[i]'hiσ)) (sl2 := sl2.set i t) R2 (by simpa using hl) (List.nodup_cons.mp hn).2 (fun j hj => by rw [List.length_set]; exact hi j (List.mem_cons_of_mem _ hj)) (fun u hu => hnt u (List.mem_cons_of_mem _ hu)) (by rw [List.length_set]; exact hσ) (fun j hj => by
        by_cases hji : j = i
        · subst hji
          rw [List.getElem?_set_self (by rw [hσ]; exact hiσ), List.getElem?_eq_getElem hiσ]
        · rw [List.getElem?_set_ne (Ne.symm hji)]
          exact ho j fun z => by
            rcases List.mem_cons.mp z with z | z
            · exact hji z
            · exact hj z) (fun n j u h1 h2 h3 => hv (n + 1) j u (by simpa using h1) (by simpa using h2) h3)
      exact ⟨sl3, R3, e3⟩
/-- a temporary list gets one more item -/
theorem Rel.app {a : Addr} {us : List TA} {x : TA} (R : Rel K B Hs H σ sl (tp ++ [.nd .list a us, x])) : Rel K B Hs (upd H a (.lst ((us ++ [x]).map TA.v))) σ sl (tp ++ [.nd .list a (us ++ [x])]) := by
  have e1 : TA.fpl (sl ++ (tp ++ [.nd .list a us, x])) = TA.fpl (sl ++ tp) ++ (a :: (TA.fpl us ++ x.fp)) := by
    rw [← List.append_assoc, TA.fpl_append (sl ++ tp), TA.fpl, TA.fpl, TA.fpl, TA.fp]
    simp
  have e2 : TA.fpl (sl ++ (tp ++ [.nd .list a (us ++ [x])])) = TA.fpl (sl ++ tp) ++ (a :: (TA.fpl us ++ x.fp)) := by
    rw [← List.append_assoc, TA.fpl_append (sl ++ tp), fpl_one, TA.fp, TA.fpl_append us, fpl_one]
  have uq := R.uq
  rw [e1] at uq
  have ha : a ∉ TA.fpl (sl ++ tp) := fun z => by
    rw [List.nodup_append] at uq
    exact uq.2.2 a z a List.mem_cons_self rfl
  have ha2 : a ∉ TA.fpl us ++ x.fp := by
    rw [List.nodup_append] at uq
    exact (List.nodup_cons.mp uq.2.1).1
  have okr : TA.okl K Hs H (sl ++ tp) := by
    have := R.ok
    rw [← List.append_assoc] at this
    exact (TA.okl_append.mp this).1
  have okn := (TA.okl_append.mp R.okT).2
  rw [TA.okl, TA.ok, TA.okl, TA.okl] at okn
  have hA : ∀ z ∈ TA.fpl (sl ++ (tp ++ [.nd .list a (us ++ [x])])), z ∈ TA.fpl (sl ++ (tp ++ [.nd .list a us, x])) := fun z hz => by rw [e1]; rw [e2] at hz; exact hz
  have hain : a ∈ TA.fpl (sl ++ (tp ++ [.nd .list a us, x])) := by rw [e1]; simp
  refine ⟨R.len, R.val, ?_, by rw [e2]; exact uq, fun z hz => R.out z (hA z hz), fun z o hz => ?_, fun z o h1 h2 => ?_, fun z hz => R.fresh z (hA z hz), R.hs, R.hsNew, R.ntup, R.pin⟩
  · rw [← List.append_assoc]
    refine TA.okl_append.mpr ⟨TA.okl_mono (Same.refl _) _ okr fun z hz => upd_ne fun e => ha (e ▸ hz), okl_one.mpr ?_⟩
    rw [TA.ok]
    refine ⟨show upd H a (.lst ((us ++ [x]).map TA.v)) a = some (.lst ((us ++ [x]).map TA.v)) from upd_same, TA.okl_append.mpr ⟨TA.okl_mono (Same.refl _) _ okn.1.2 fun z hz => upd_ne fun e => ha2 (e ▸ List.mem_append_left _ hz), okl_one.mpr (TA.ok_mono (Same.refl _) x okn.2.1 fun z hz => upd_ne fun e => ha2 (e ▸ List.mem_append_right _ hz))⟩⟩
  · rw [upd_ne fun e => ?_]
    · exact R.sub z o hz
    · subst e
      rw [R.out z hain] at hz
      cases hz
  · rw [upd_ne fun e => ?_]
    · exact R.keep z o h1 h2
    · subst e
      rcases R.fresh z hain with y | y
      · exact h2 y
      · rw [h1] at y; cases y
/-- the begin of a loop: what is shared stays shared -/
theorem Rel.reB {b0 : B0} {ix : List Nat} (R : Rel K ⟨b0, ix⟩ Hs H σ sl tp) : Rel K ⟨{ b0 with Hs0 := Hs }, ix⟩ Hs H σ sl tp :=
  ⟨R.len, R.val, R.ok, R.uq, R.out, R.sub, R.keep, R.fresh, Same.refl _, fun a h => .inl h, R.ntup, R.pin⟩
theorem Rel.unB {b0 : B0} {ix : List Nat} {Hs1 H1 : Hp} {σ1 : L2.St} {sl1 tp1 : List TA} (R1 : Rel K ⟨b0, ix⟩ Hs1 H1 σ1 sl1 tp1) (R : Rel K ⟨{ b0 with Hs0 := Hs1 }, ix⟩ Hs H σ sl tp) : Rel K ⟨b0, ix⟩ Hs H σ sl tp :=
  ⟨R.len, R.val, R.ok, R.uq, R.out, R.sub, R.keep, R.fresh, R1.hs.trans R.hs, fun a h => (R.hsNew a h).elim (fun z => R1.hsNew a z) .inr, R.ntup, R.pin⟩
end
end VL
set_option Elab.async false
set_option linter.all false
set_option maxRecDepth 100000
set_option maxHeartbeats 4000000
/-! VL18: comprehensions. -/
namespace VL
open PySem PySem.Spec PyProof.Rows L2
theorem CxOk.blk {X : Cx} {Γ : Ctx} {b : Blk} {k : Nat} (C : CxOk X Γ b k) (s : Shared) (H : Hp) (scope : Scope) (cl : List (Str × Addr)) (C0 : Addr) (fp : List Addr) : CxOk (X.blk s H scope (compEnvC scope cl C0 X.env) fp) Γ (blkOf b scope) k :=
  ⟨C.N, by show relS scope X.env.scope = relS scope b.sc; rw [C.sc], C.calm, C.room, C.gd, C.nd, fun x h => h, C.glob, C.bi, C.fns, C.cls⟩
theorem restT_fold {σ0 : St} : ∀ {is : List Nat} {hid : List TA} {sl2 : List TA}, hid.length = is.length → (∀ (n : Nat) i t, is[n]? = some i → hid[n]? = some t → t.t = σ0.getD i .dead) → TA.tl ((is.zip hid).foldl (fun s p => s.set p.1 p.2) sl2) = restT σ0 is (TA.tl sl2)
  | [], hid, sl2, hl, _ => by cases hid with | nil => rfl | cons _ _ => simp at hl
  | i :: is, hid, sl2, hl, h => by
    cases hid with
    | nil => simp at hl
    | cons t hid =>
      rw [List.zip_cons_cons, List.foldl_cons, restT_fold (by simpa using hl) (fun n i t h1 h2 => h (n + 1) i t (by simpa using h1) (by simpa using h2)), restT, tl_set, h 0 i t rfl rfl]
theorem restT_in {σ0 : St} : ∀ {is : List Nat} {σ : St} {i : Nat}, is.Nodup → i ∈ is → i < σ.length → i < σ0.length → (restT σ0 is σ)[i]? = σ0[i]?
  | [], σ, i, _, h, _, _ => by simp at h
  | j :: is, σ, i, hn, h, hl, h0 => by
    rw [restT]
    have hnj := (List.nodup_cons.mp hn).1
    have out : ∀ {is : List Nat} {σ : St} {i : Nat}, i ∉ is → (restT σ0 is σ)[i]? = σ[i]? := by
      intro is
      induction is with
      | nil => intro σ i _; rfl
      | cons m is ih =>
        intro σ i h
        rw [restT, ih fun z => h (List.mem_cons_of_mem _ z), List.getElem?_set_ne fun z => h (by rw [z]; exact List.mem_cons_self)]
    by_cases hji : i = j
    · subst hji
      rw [out hnj, List.getElem?_set_self hl, List.getD_eq_getElem?_getD, List.getElem?_eq_getElem h0]
      rfl
    · exact restT_in (List.nodup_cons.mp hn).2 (by rcases List.mem_cons.mp h with z | z; exact absurd z hji; exact z) (by rw [List.length_set]; exact hl) h0
section
variable {X : Cx} {Γ : Ctx} {b : Blk} {k : Nat} {pos : Pos} {pu : Bool}
theorem lc_read {is : List Nat} {bor : Bool} {elt : E} {it : ItK} {ies cond : List E} {tg : Expr} {ifs : List Expr} {scope : Scope} (C : CxOk X Γ b k) (hfree : ∀ i ∈ is, i ∉ Γ.pin) (hnd : is.Nodup) (hown : (ownOf b.N is).map (·.2) = is)
    (hc : (ifs = [] ∧ cond = []) ∨ (∃ ec c, ifs = [ec] ∧ cond = [c] ∧ ∀ X', CxOk X' Γ (blkOf b scope) k → PTc X' Γ ec c)) : ∃ tt : TT, (∀ X', CxOk X' Γ (blkOf b scope) k → X'.K = X.K → PTs X' ifs tt) ∧ ∀ (σ : L2.St) (H : Hp) (Q : VK), σ.length = X.N.length → LE X Γ.pin pu (wE Γ pu (.lc is bor elt it ies cond)) σ H Q →
    tLc (LI X Γ.pin pu bor (wIt Γ pu bor it ies)) (LG X Γ.pin is) tt (LE X Γ.pin (pu || bor) (wE Γ (pu || bor) elt)) ((ownOf b.N is).map (·.2)) σ H Q := by
  -- the test
  obtain ⟨tt, htt, hcond⟩ : ∃ tt : TT, (∀ X', CxOk X' Γ (blkOf b scope) k → X'.K = X.K → PTs X' ifs tt) ∧ ∀ (B : B0) Hs H σ sl tp (P : Bool → St → Prop) (Q : Bool → Hp → Prop), Rel X.K ⟨B, Γ.pin⟩ Hs H σ sl tp → wC Γ (pu || bor) cond (TA.tl sl) P → (∀ c Hs' H' sl', Rel X.K ⟨B, Γ.pin⟩ Hs' H' σ sl' tp → Stp (pu || bor) H H' sl sl' → P c (TA.tl sl') → Q c H') → tt σ H Q := by
    rcases hc with ⟨rfl, rfl⟩ | ⟨ec, c, rfl, rfl, hc⟩
    · refine ⟨tYes, fun X' _ _ => pts_nil, fun B Hs H σ sl tp P Q R0 hw hk => ?_⟩
      rw [wC] at hw
      exact hk true Hs H sl R0 .refl hw
    · refine ⟨LR X Γ.pin (pu || bor) (wE Γ (pu || bor) c), fun X' C' eK => ?_, fun B Hs H σ sl tp P Q R0 hw hk => ?_⟩
      · have : LR X' Γ.pin (pu || bor) (wE Γ (pu || bor) c) = LR X Γ.pin (pu || bor) (wE Γ (pu || bor) c) := by unfold LR; rw [eK]
        rw [← this]
        exact pts_one (hc X' C' (pu || bor))
      · rw [wC] at hw
        exact LR.of R0 hw.2 hk
  refine ⟨tt, htt, fun σ H Q hlen hw => ?_⟩
  obtain ⟨B, Hs, sl, tp, P, R0, hw, hk⟩ := hw
  rw [wE] at hw
  have hlt : ∀ i ∈ is, i < b.N.length := fun i h => by
    rw [← hown] at h
    obtain ⟨p, hp, rfl⟩ := List.mem_map.mp h
    unfold ownOf at hp
    obtain ⟨j, hj, e⟩ := List.mem_filterMap.mp hp
    obtain ⟨x, hx, e2⟩ := Option.map_eq_some_iff.mp e
    subst e2
    exact (List.getElem?_eq_some_iff.mp hx).1
  have hσN : σ.length = b.N.length := by rw [hlen, C.N]
  refine ⟨B, Hs, sl, tp, _, R0, hw, fun J xs Hs1 H1 sl1 R1 wk st1 hP D hD => ?_⟩
  rw [hown]
  have hsl1 : sl1.length = b.N.length := by rw [R1.len]; exact hσN
  let Pv : Nat → Hp → Prop := fun i H => ∃ Hs sl acc, Rel X.K ⟨{ B with Hs0 := Hs1 }, Γ.pin⟩ Hs H σ sl (tp ++ [.nd .list D acc]) ∧ Stp (pu || bor) H1 H sl1 sl ∧ (∀ i ∈ is, (TA.tl sl)[i]? = (TA.tl sl1)[i]?) ∧
    lcW is (TA.tl sl1) (fun σ3 Q => wC Γ (pu || bor) cond σ3 Q) (fun σ3 Q => wE Γ (pu || bor) elt σ3 fun r σ4 => toV (pu || bor) r σ4 Q) (xs.drop i) (TA.tl acc) (TA.tl sl) fun acc σ3 => P (.v (.nd .list acc)) σ3
  refine ⟨fun i m H => m = xs.length - i ∧ i ≤ xs.length ∧ Pv i H, ⟨xs.length, by simp, Nat.zero_le _, Hs1, sl1, [], ?_, ⟨fun _ => ⟨rfl, same_upd hD⟩, fun i t h1 h2 => ⟨t, h1, h2⟩⟩, fun _ _ => rfl, hP⟩, ?_⟩
  · exact (Rel.allocO (k := .list) (ts := []) (by simpa using R1.reB) hD (show upd H1 D (.lst []) D = some (.lst []) from upd_same))
  rintro i m H2 ⟨rfl, hle, Hs2, sl2, acc, R2, st2, hsame, hl⟩
  have hq : Same (hqOf bor H1) H2 := by
    unfold hqOf
    split
    · rename_i hb
      exact (st2.pure (by rw [hb]; simp)).2
    · exact same00
  have hs12 : Same Hs1 Hs2 := R2.hs
  by_cases hlt2 : i < xs.length
  · refine .inr ⟨wk.go i H2 Hs2 hq hs12 R2.sub hlt2, Pv (i + 1), fun H' p => ⟨xs.length - (i + 1), by omega, rfl, hlt2, p⟩, fun v H3 hy => ?_⟩
    have hx : xs[i]? = some xs[i] := List.getElem?_eq_getElem hlt2
    obtain ⟨Hs3, s23, dp, sH, hR⟩ := wk.yld i H2 Hs2 v H3 xs[i] hq hs12 R2.sub hx hy
    have R3 := hR _ _ _ _ R2
    rw [List.drop_eq_getElem_cons hlt2, lcW] at hl
    have hsl2 : sl2.length = b.N.length := by rw [R2.len]; exact hσN
    have R4 := hide_all R3 hnd (fun j hj => ⟨by rw [hsl2]; exact hlt j hj, hfree j hj⟩)
    rw [← tl_wipe] at hl
    generalize hh : bindD is xs[i] (TA.tl (wipeA sl2 is)) = oo at hl
    cases oo with
    | none => exact hl.elim
    | some σ1 =>
      simp only at hl
      have hhid : ∀ (n : Nat) (j : Nat) (t : TA), is[n]? = some j → (is.map fun i => sl2.getD i (TA.dead V.non))[n]? = some t → sl2[j]? = some t := fun n j t h1 h2 => by
        rw [List.getElem?_map, h1] at h2
        simp only [Option.map_some, Option.some.injEq] at h2
        rw [← h2, List.getD_eq_getElem?_getD, List.getElem?_eq_getElem (by rw [hsl2]; exact hlt j (List.mem_of_getElem? h1))]
        rfl
      -- the hidden ones are put back
      have fin : ∀ (Hs5 H5 : Hp) (σ5 : L2.St) (slb sl5 acc5 : List TA), Rel X.K ⟨{ B with Hs0 := Hs1 }, Γ.pin⟩ Hs5 H5 σ5 sl5 ((tp ++ [.nd .list D acc5]) ++ is.map fun i => sl2.getD i (.dead .non)) → (∀ j, j ∉ is → σ5[j]? = σ[j]?) → σ5.length = σ.length → (∀ j, j ∉ is → slb[j]? = sl2[j]?) → ((pu || bor) = true → sl5 = slb ∧ Same H1 H5) → (∀ (j : Nat) t, slb[j]? = some t → t.isDead = false → ∃ t', sl5[j]? = some t' ∧ t'.isDead = false) →
          lcW is (TA.tl sl1) (fun σ3 Q => wC Γ (pu || bor) cond σ3 Q) (fun σ3 Q => wE Γ (pu || bor) elt σ3 fun r σ4 => toV (pu || bor) r σ4 Q) (xs.drop (i + 1)) (TA.tl acc5) (restT (TA.tl sl1) is (TA.tl sl5)) (fun acc σ3 => P (.v (.nd .list acc)) σ3) → Pv (i + 1) H5 := by
        intro Hs5 H5 σ5 slb sl5 acc5 R5 hσ5 hσl hslb hpure hlive hl5
        have hsl5 : sl5.length = b.N.length := by rw [R5.len, hσl]; exact hσN
        obtain ⟨sl6, R6, e6⟩ := unhide_all R5 (by simp) hnd (fun j hj => ⟨by rw [hsl5]; exact hlt j hj, hfree j hj⟩) (fun t ht => by
          obtain ⟨j, hj, rfl⟩ := List.mem_map.mp ht
          rw [List.getD_eq_getElem?_getD, List.getElem?_eq_getElem (by rw [hsl2]; exact hlt j hj)]
          exact R2.ntup _ (List.getElem_mem _)) hσl hσ5 (fun n j t h1 h2 hd => R2.val j t (hhid n j t h1 h2) hd)
        have fo : ∀ (l : List (Nat × TA)) (s : List TA) (j : Nat), (∀ p ∈ l, p.1 ≠ j) → (l.foldl (fun s p => s.set p.1 p.2) s)[j]? = s[j]? := by
          intro l
          induction l with
          | nil => intro s j _; rfl
          | cons p l ih =>
            intro s j hp
            rw [List.foldl_cons, ih _ _ fun q hq => hp q (List.mem_cons_of_mem _ hq), List.getElem?_set_ne (hp p List.mem_cons_self)]
        have fo2 : ∀ (is : List Nat) (f : Nat → TA) (s : List TA) (j : Nat), is.Nodup → j ∈ is → j < s.length → ((is.zip (is.map f)).foldl (fun s p => s.set p.1 p.2) s)[j]? = some (f j) := by
          intro is
          induction is with
          | nil => intro f s j _ h; simp at h
          | cons m is ih =>
            intro f s j hn hj hlen
            rw [List.map_cons, List.zip_cons_cons, List.foldl_cons]
            by_cases hm : j = m
            · subst hm
              rw [fo _ _ _ fun p hp => ?_, List.getElem?_set_self hlen]
              intro z
              have := (List.of_mem_zip (a := p.1) (b := p.2) hp).1
              rw [z] at this
              exact (List.nodup_cons.mp hn).1 this
            · exact ih f _ j (List.nodup_cons.mp hn).2 (by rcases List.mem_cons.mp hj with z | z; exact absurd z hm; exact z) (by rw [List.length_set]; exact hlen)
        have g6in : ∀ j ∈ is, sl6[j]? = sl2[j]? := fun j hj => by
          rw [e6, fo2 is _ _ j hnd hj (by rw [hsl5]; exact hlt j hj), List.getD_eq_getElem?_getD, List.getElem?_eq_getElem (by rw [hsl2]; exact hlt j hj)]
          rfl
        have g6out : ∀ j, j ∉ is → sl6[j]? = sl5[j]? := fun j hj => by
          rw [e6]
          exact fo _ _ _ fun p hp z => hj (z ▸ (List.of_mem_zip (a := p.1) (b := p.2) hp).1)
        have e7 : TA.tl sl6 = restT (TA.tl sl1) is (TA.tl sl5) := by
          rw [e6]
          refine restT_fold (by simp) fun n j t h1 h2 => ?_
          have h3 := hhid n j t h1 h2
          have h4 := hsame j (List.mem_of_getElem? h1)
          rw [tl_get, h3] at h4
          rw [List.getD_eq_getElem?_getD, ← h4]
          rfl
        refine ⟨Hs5, sl6, acc5, R6, ⟨fun hp => ?_, fun j t h1 h2 => ?_⟩, fun j hj => ?_, by rw [e7]; exact hl5⟩
        · obtain ⟨p1, p2⟩ := hpure hp
          refine ⟨?_, p2⟩
          rw [← (st2.pure hp).1]
          apply List.ext_getElem?
          intro j
          by_cases hj : j ∈ is
          · exact g6in j hj
          · rw [g6out j hj, p1, hslb j hj]
        · obtain ⟨t2, k1, k2⟩ := st2.live j t h1 h2
          by_cases hj : j ∈ is
          · exact ⟨t2, by rw [g6in j hj]; exact k1, k2⟩
          · rw [g6out j hj]
            exact hlive j t2 (by rw [hslb j hj]; exact k1) k2
        · rw [tl_get, g6in j hj, ← tl_get]
          exact hsame j hj
      refine ⟨{ B with Hs0 := Hs1 }, Hs3, wipeA sl2 is, _, xs[i], σ1, R4, dp, hh, hfree, fun σb slb Rb eb fb lb => ?_⟩
      have hσb : ∀ j, j ∉ is → σb[j]? = σ[j]? := fun j hj => by rw [(fb j hj).1, wipe_out hj]
      have hσbl : σb.length = σ.length := by rw [lb, wipe_length]
      have hslb : ∀ j, j ∉ is → slb[j]? = sl2[j]? := fun j hj => by rw [(fb j hj).2, wipeA_out hj]
      refine ⟨?_, hcond _ Hs3 H3 σb slb _ _ _ Rb (by rw [eb]; exact hl) fun c Hs4 H4 sl4 R4' st4 p4 => ?_⟩
      · apply List.ext_getElem?
        intro j
        by_cases hj : j ∈ is
        · by_cases hjl : j < σ.length
          · rw [wipe_in hj hjl, wipe_in hj (by rw [hσbl]; exact hjl)]
          · rw [List.getElem?_eq_none (by rw [wipe_length, hσbl]; omega), List.getElem?_eq_none (by rw [wipe_length]; omega)]
        · rw [wipe_out hj, wipe_out hj, hσb j hj]
      · cases c with
        | false =>
          simp only [br_f, Bool.false_eq_true, if_false] at p4 ⊢
          exact fin Hs4 H4 σb slb sl4 acc R4' hσb hσbl hslb (fun hp => ⟨(st4.pure hp).1, (st2.pure hp).2.trans (sH.trans (st4.pure hp).2)⟩) st4.live p4
        | true =>
          simp only [br_t, if_true] at p4 ⊢
          refine ⟨_, Hs4, sl4, _, _, R4', p4, fun r y Hs5 H5 sl5 nw R5 rr st5 p5 => ?_⟩
          obtain ⟨x, Hs6, sl6, R6, xv, xd, st6, ⟨hz, hl6⟩, _⟩ := toV_ok (rest := []) (by rw [List.append_nil]; exact R5) rr.weak p5
          rw [List.append_nil] at R6
          have R7 := R6.perm (tp' := (tp ++ is.map fun i => sl2.getD i (.dead .non)) ++ [.nd .list D acc, x]) (by
            have : ((tp ++ [TA.nd .list D acc]) ++ (is.map fun i => sl2.getD i (TA.dead V.non)) ++ [x]).Perm ((tp ++ (is.map fun i => sl2.getD i (TA.dead V.non))) ++ [TA.nd .list D acc] ++ [x]) := by
              refine List.Perm.append_right _ ?_
              rw [List.append_assoc, List.append_assoc]
              exact List.Perm.append_left _ List.perm_append_comm
            refine this.trans ?_
            rw [List.append_assoc _ [TA.nd .list D acc] [x]]
            exact List.Perm.refl _)
          have hDn : H5 D = some (.lst (acc.map TA.v)) := by
            have := (TA.okl_append.mp R7.okT).2
            rw [TA.okl, TA.ok] at this
            exact this.1.1
          have R8 := R7.app
          have R9 := R8.perm (tp' := (tp ++ [.nd .list D (acc ++ [x])]) ++ is.map fun i => sl2.getD i (.dead .non)) (by
            rw [List.append_assoc, List.append_assoc]
            exact List.Perm.append_left _ List.perm_append_comm)
          have eM : (acc ++ [x]).map TA.v = acc.map TA.v ++ [y] := by rw [List.map_append, List.map_cons, List.map_nil, xv]
          rw [eM] at R9
          refine ⟨acc.map TA.v, hDn, by rw [List.length_map, ← tl_len]; exact hz, ?_⟩
          have st46 := (st4.trans (pu' := pu || bor) st5 id).trans (pu' := pu || bor) st6 id
          refine fin Hs6 _ σb slb sl6 (acc ++ [x]) R9 hσb hσbl hslb (fun hp => ⟨(st46.pure hp).1, ?_⟩) st46.live (by rw [tl_app]; exact hl6)
          intro z o hz2
          have h5 := (((st2.pure hp).2.trans sH).trans (st46.pure hp).2) z o hz2
          rw [upd_ne (fun e => by subst e; rw [hD] at hz2; cases hz2)]
          exact h5
  · have hi : i = xs.length := by omega
    subst hi
    rw [List.drop_length, lcW] at hl
    refine .inl ⟨wk.stop _ H2 Hs2 hq hs12 R2.sub (Nat.le_refl _), ?_⟩
    exact hk (.v (.nd .list (TA.tl acc))) (.ref D) Hs2 H2 sl2 [.nd .list D acc] (R1.unB R2) ⟨_, rfl, by rw [TA.t], rfl, rfl⟩ (st1.trans (pu' := pu || bor) st2 fun z => by rw [z]; rfl) hl
theorem le_lc {is : List Nat} {bor : Bool} {elt : E} {it : ItK} {ies cond : List E} {e0 tg iter : Expr} {ifs : List Expr} {scope : Scope} (C : CxOk X Γ b k) (hfree : ∀ i ∈ is, i ∉ Γ.pin) (hnd : is.Nodup) (hset : noSet iter = true) (hblk : blkC b.N b.sc scope (ownOf b.N is) = true) (hown : (ownOf b.N is).map (·.2) = is)
    (htg : targB (blkOf b scope) is tg = true) (hi : ∀ pu bor, PI X tg iter (LI X Γ.pin pu bor (wIt Γ pu bor it ies))) (he : ∀ X', CxOk X' Γ (blkOf b scope) k → PEc X' Γ e0 elt)
    (hc : (ifs = [] ∧ cond = []) ∨ (∃ ec c, ifs = [ec] ∧ cond = [c] ∧ ∀ X', CxOk X' Γ (blkOf b scope) k → PTc X' Γ ec c)) : PE X (.ListComp e0 [⟨tg, iter, ifs, 0⟩] scope pos) (LE X Γ.pin pu (wE Γ pu (.lc is bor elt it ies cond))) := by
  have hN : X.N.Nodup := by rw [C.N]; exact C.nd
  have hblk' : BlkOk X.N X.env.scope scope (ownOf b.N is) := by rw [C.N, C.sc]; exact blkOk_by hblk
  obtain ⟨tt, htt, hr⟩ := lc_read (X := X) (pu := pu) (bor := bor) (elt := elt) (it := it) (ies := ies) (tg := tg) C hfree hnd hown hc
  refine ⟨fun pins s σ H Q I hw => ?_⟩
  exact (pe_lc (own := ownOf b.N is) (g := LG X Γ.pin is) (tt := tt) (te := LE X Γ.pin (pu || bor) (wE Γ (pu || bor) elt)) C.calm hN (hi pu bor) hblk' (fun s' H' C0 cl fp => lg_ok (C.blk s' H' scope cl C0 fp) htg) (fun s' H' C0 cl fp => htt _ (C.blk s' H' scope cl C0 fp) rfl) (fun s' H' C0 cl fp => he _ (C.blk s' H' scope cl C0 fp) (pu || bor)) (fun x => by cases iter <;> first | rfl | (exact (Bool.noConfusion hset)))).run pins s σ H Q I (hr σ H Q I.len hw)
theorem ls_lc {i : Nat} {y : Str} {py spos : Pos} {is : List Nat} {bor : Bool} {elt : E} {it : ItK} {ies cond : List E} {e0 tg iter : Expr} {ifs : List Expr} {scope : Scope} (C : CxOk X Γ b k) (hfree : ∀ i ∈ is, i ∉ Γ.pin) (hnd : is.Nodup) (hset : noSet iter = true) (hblk : blkC b.N b.sc scope (ownOf b.N is) = true) (hown : (ownOf b.N is).map (·.2) = is)
    (htg : targB (blkOf b scope) is tg = true) (hi : ∀ pu bor, PI X tg iter (LI X Γ.pin pu bor (wIt Γ pu bor it ies))) (he : ∀ X', CxOk X' Γ (blkOf b scope) k → PEc X' Γ e0 elt)
    (hc : (ifs = [] ∧ cond = []) ∨ (∃ ec c, ifs = [ec] ∧ cond = [c] ∧ ∀ X', CxOk X' Γ (blkOf b scope) k → PTc X' Γ ec c)) (hy : b.N[i]? = some y) (hyl : b.sc.names.lookup y = some .local) (hl : (py.line == pos.line) = true)
    (ha : (scope.names.any fun (n, k) => n == y && (k == .local || k == .cell)) = false) : PS X (.Assign [.Name y py] (.ListComp e0 [⟨tg, iter, ifs, 0⟩] scope pos) spos) (tAsg (LE X Γ.pin false (wE Γ false (.lc is bor elt it ies cond))) (gName i)) := by
  have hN : X.N.Nodup := by rw [C.N]; exact C.nd
  have hblk' : BlkOk X.N X.env.scope scope (ownOf b.N is) := by rw [C.N, C.sc]; exact blkOk_by hblk
  obtain ⟨tt, htt, hr⟩ := lc_read (X := X) (pu := false) (bor := bor) (elt := elt) (it := it) (ies := ies) (tg := tg) C hfree hnd hown hc
  refine ⟨fun pins s σ H D I hw => ?_⟩
  exact (ps_setLc (own := ownOf b.N is) (g := LG X Γ.pin is) (tt := tt) (te := LE X Γ.pin (false || bor) (wE Γ (false || bor) elt)) C.calm hN (by rw [C.N]; exact hy) (by rw [C.sc]; exact hyl) (sw_true I.ok.kind (by rw [C.sc]; exact hyl) hl ha) (hi false bor) hblk' (fun s' H' C0 cl fp => lg_ok (C.blk s' H' scope cl C0 fp) htg) (fun s' H' C0 cl fp => htt _ (C.blk s' H' scope cl C0 fp) rfl) (fun s' H' C0 cl fp => he _ (C.blk s' H' scope cl C0 fp) (false || bor)) (fun x => by cases iter <;> first | rfl | (exact (Bool.noConfusion hset)))).run pins s σ H D I (hr σ H _ I.len hw)
end
end VL
set_option Elab.async false
set_option linter.all false
set_option maxRecDepth 100000
set_option maxHeartbeats 4000000
/-! VD1: repr; dicts. -/
namespace VL
open PySem PySem.Spec PyProof.Rows L2
section
variable {X : Cx} {Γ : Ctx} {b : Blk} {k : Nat} {pos : Pos} {ea eb : Expr} {p q : E} {pu : Bool}
def rRepr (K : PySem.W.Frag) : List V → Hp → VK → Prop := fun xs H Q => ∃ v d, xs = [v] ∧ Dp K H v d ∧ d.canLay0 = true ∧ d.depth ≤ 64 ∧ d.showable = true ∧ d.shown.length ≤ sizeLine ∧ Q (.str d.shown) H
theorem call_reprD (hgd : X.A.guards = some []) (hu : X.A.units + 80 < cLine) : CallR X (.builtin "repr") (rRepr X.K) := by
  intro pins s σ H xs us Q I r h
  obtain ⟨v, d, rfl, hd, hl, h64, hs, hz, q⟩ := h
  obtain ⟨u, rfl, ru⟩ := vals1 r
  cases d with
  | none => cases hd; cases ru; exact PySem.P.repr_of_none ⟨.str _, H, I.tok _, ⟨_, rfl⟩, q⟩
  | bool b => cases hd; cases ru; exact PySem.P.repr_of_bool ⟨.str _, H, I.tok _, ⟨_, rfl⟩, q⟩
  | int i =>
    cases hd
    obtain ⟨t, rfl⟩ := ru
    exact PySem.P.repr_of_int (by simpa [PyData.showable] using hs) ⟨.str _, H, I.tok _, ⟨_, rfl⟩, q⟩
  | str x =>
    cases hd
    obtain ⟨t, rfl⟩ := ru
    exact PySem.P.repr_of_str ⟨.str _, H, I.tok _, ⟨_, rfl⟩, q⟩ hz
  | list ds =>
    obtain ⟨as, rd⟩ := Dp.reads I _ _ _ hd ru
    cases hd with
    | lst _ _ =>
      cases ru
      exact repr_of_reads' rd hs (PyData.noDict_hsm (PyData.hasDict_of_canLay _ hl)) hgd (by omega) (fun _ _ e => e) (fun h' u tk hk => ⟨.str _, H, I.kept hk, ⟨_, rfl⟩, q⟩) hz
  | tuple ds =>
    obtain ⟨as, rd⟩ := Dp.reads I _ _ _ hd ru
    cases hd with
    | tup _ _ =>
      cases ru
      exact repr_of_reads' rd hs (PyData.noDict_hsm (PyData.hasDict_of_canLay _ hl)) hgd (by omega) (fun _ _ e => e) (fun h' u tk hk => ⟨.str _, H, I.kept hk, ⟨_, rfl⟩, q⟩) hz
  | dict kvs => cases hd
theorem le_rpr {x : Str} {p0 : Pos} (C : CxOk X Γ b k) (hx : bltCall Γ.sk b "repr" x = true) (hs : noStar ea = true) (h : PEc X Γ ea p) : PE X (.Call (.Name x p0) [ea] [] pos) (LE X Γ.pin pu (wE Γ pu (.rpr p))) := by
  obtain ⟨rfl, hg, hm, hd, hnm⟩ := bltCall_of C hx
  refine ⟨fun pins s σ H Q I hw => ?_⟩
  obtain ⟨B, Hs, sl, tp, P, R0, hw, hk⟩ := hw
  rw [wE] at hw
  have hu := C.room.un
  refine (pe_callB (call_reprD C.gd (by omega)) hg hm (by decide +kernel) (pa_cons (h pu) pa_nil (star_of hs)) hnm hd (star_of hs) (stars_of rfl)).run pins s σ H Q I ⟨B, Hs, sl, tp, _, R0, hw, fun ra v Hs1 H1 sl1 nw1 R1 rr1 st1 p1 => ?_⟩
  split at p1
  · rename_i d hdt
    obtain ⟨h1, h2, h3, h4, p1⟩ := p1
    exact ⟨v, d, rfl, (rr1.dp R1 hdt).dp h1, h1, h2, h3, h4, Cont.leaf hk R1.drop (.str _) st1 p1⟩
  · exact p1.elim
theorem find_pair {K : PySem.W.Frag} {H : Hp} (k : Key) : ∀ {ks : List Key} {xs : List V} {ds : List PyData}, RpAll K H xs ds → (dfind (ks.zip ds) k = none → valV (ks.zip xs) k = none) ∧ (∀ x, dfind (ks.zip ds) k = some x → ∃ v, valV (ks.zip xs) k = some v ∧ Rp K H v x)
  | [], xs, ds, _ => ⟨fun _ => by simp [valV], fun x h => by simp [dfind] at h⟩
  | k' :: ks, _, _, .nil => ⟨fun _ => by simp [valV], fun x h => by simp [dfind] at h⟩
  | k' :: ks, _, _, .cons (v := v) (d := d) (vs := vs) (ds := ds) a b => by
    have ih := find_pair k (ks := ks) b
    by_cases e : k' = k
    · have e1 : dfind ((k' :: ks).zip (d :: ds)) k = some d := by simp [dfind, List.zip_cons_cons, List.find?_cons, e]
      have e2 : valV ((k' :: ks).zip (v :: vs)) k = some v := by simp [valV, List.zip_cons_cons, List.find?_cons, e]
      refine ⟨fun h => (by rw [e1] at h; cases h), fun x h => ?_⟩
      rw [e1] at h
      cases h
      exact ⟨v, e2, a⟩
    · have e1 : dfind ((k' :: ks).zip (d :: ds)) k = dfind (ks.zip ds) k := by simp [dfind, List.zip_cons_cons, List.find?_cons, e]
      have e2 : valV ((k' :: ks).zip (v :: vs)) k = valV (ks.zip vs) k := by simp [valV, List.zip_cons_cons, List.find?_cons, e]
      rw [e1, e2]
      exact ih
theorem unD_zip : ∀ (ks : List Key) (ds : List PyData), unD (zipD ks ds) = some (ks.zip ds)
  | [], ds => by simp [zipD, unD]
  | k :: ks, [] => by simp [zipD, unD]
  | k :: ks, d :: ds => by
    have ih := unD_zip ks ds
    have e : zipD (k :: ks) (d :: ds) = (keyD k, d) :: zipD ks ds := by simp [zipD]
    rw [e, unD, ih]
    cases k <;> rfl
theorem RpAll.up {K : PySem.W.Frag} {H H' : Hp} (e : Same H H') {vs : List V} {ds : List PyData} (h : RpAll K H vs ds) : RpAll K H' vs ds := RpAll.mono e h
/-- the pairs of a dict that is a result -/
theorem RR.dvk {B : Bs} {Hs H : Hp} {σ : L2.St} {sl tp nw : List TA} {r : R} {v : V} {kds : List (Key × PyData)} (h : RR r v sl nw) (R1 : Rel X.K B Hs H σ sl (tp ++ nw)) (hk : r.dv (TA.tl sl) = some kds) :
    ∃ (a : Addr) (ks : List Key) (xs : List V) (ds : List PyData), v = .ref a ∧ Rd H a (.dK (ks.zip xs)) ∧ ks.length = xs.length ∧ kds = ks.zip ds ∧ RpAll X.K Hs xs ds := by
  unfold R.dv at hk
  split at hk
  · rename_i kvs e
    obtain ⟨d1, d2⟩ := h.dpT R1 e
    cases d1 with
    | dct hl hr ha =>
      rw [unD_zip] at hk
      cases hk
      exact ⟨_, _, _, _, rfl, Rd.mono R1.sub hr, hl, rfl, ha⟩
  · rename_i ks ts e
    obtain ⟨a, us, e1, e2, e3, e4, e5, e6⟩ := h.node R1 e
    split at hk
    · rename_i xs hxs
      cases hk
      rw [← e2] at hxs
      obtain ⟨f1, f2, f3⟩ := leaves_of hxs
      obtain ⟨g1, g2⟩ := e3
      exact ⟨a, ks, us.map TA.v, xs, e1, .inl g2, g1, rfl, f3 e4⟩
    · cases hk
  · cases hk
theorem dkey_v {K : PySem.W.Frag} {H : Hp} {y : PyData} {v : V} {k : Key} (h : dkey y = some k) (r : Rp K H v y) : v = kV k := by
  cases y with
  | int i => cases h; exact r.int_v
  | str s => cases h; exact r.str_v
  | _ => cases h
/-- what stands under a key -/
theorem dview_ok {B : Bs} {Hs H : Hp} {σ : L2.St} {sl tp tp' nw1 nw2 : List TA} {ro ri : R} {vo vi : V} {Kk : Option PyData → Prop} (R1 : Rel X.K B Hs H σ sl (tp ++ nw1)) (R2 : Rel X.K B Hs H σ sl (tp' ++ nw2)) (ro1 : RR ro vo sl nw1) (ri1 : RR ri vi sl nw2) (h : dviewW ro ri (TA.tl sl) Kk) :
    ∃ a o z, vo = .ref a ∧ DGet H a vi o ∧ Kk z ∧ (z = none → o = none) ∧ ∀ x, z = some x → ∃ v, o = some v ∧ Rp X.K Hs v x := by
  unfold dviewW at h
  split at h
  · rename_i kds y hkd hy
    split at h
    · rename_i kk hkk
      obtain ⟨a, ks, xs, ds, e1, e2, e3, rfl, e5⟩ := ro1.dvk R1 hkd
      have ey := dkey_v hkk (ri1.dpT R2 hy).2
      obtain ⟨f1, f2⟩ := find_pair kk (ks := ks) e5
      exact ⟨a, _, _, e1, .inl ⟨_, kk, e2, ey, rfl⟩, h, f1, f2⟩
    · exact h.elim
  · exact h.elim
theorem le_dct0 : PE X (.Dict [] [] pos) (LE X Γ.pin pu (wE Γ pu .dct0)) := by
  refine ⟨fun pins s σ H Q I hw => ?_⟩
  obtain ⟨B, Hs, sl, tp, P, R0, hw, hk⟩ := hw
  rw [wE] at hw
  refine pe_dnewK.run pins s σ H Q I fun l hl => ?_
  exact Cont.node (k := .dict []) (as := []) hk (by simpa using R0) hl ⟨rfl, upd_same⟩ .refl hw
abbrev hiAny (hi : PEc X Γ eb q) : PE X eb (fun σ' H1 Q' => ∃ pu', LE X Γ.pin pu' (wE Γ pu' q) σ' H1 Q') := ⟨fun pins s σ H Q I ⟨pu', h'⟩ => (hi pu').run pins s σ H Q I h'⟩
theorem noSl_of {e : Expr} (hs : noSlice e = true) : NoSl e := fun _ _ => by cases e <;> first | rfl | (exact (Bool.noConfusion hs))
theorem le_dix (C : CxOk X Γ b k) (hs : noSlice eb = true) (ho : PEc X Γ ea p) (hi : PEc X Γ eb q) : PE X (.Subscript ea eb pos) (LE X Γ.pin pu (wE Γ pu (.dix p q))) := by
  refine ⟨fun pins s σ H Q I hw => ?_⟩
  obtain ⟨B, Hs, sl, tp, P, R0, hw, hk⟩ := hw
  rw [wE] at hw
  have hu := C.room.un
  refine (pe_dget (by omega) (ho pu) (hiAny hi) (noSl_of hs)).run pins s σ H Q I ⟨B, Hs, sl, tp, _, R0, hw, fun ro vo Hs1 H1 sl1 nw1 R1 rr1 st1 hw1 => ⟨_, B, Hs1, sl1, tp ++ nw1, _, R1, hw1, fun ri vi Hs2 H2 sl2 nw2 R2 rr2 st2 hw2 => ?_⟩⟩
  have rr1' := rr1.stay R1 R2 st2 (fun z => by rw [z]; cases pu <;> rfl)
  obtain ⟨a, o, z, e1, e2, e3, e4, e5⟩ := dview_ok R2.drop R2 rr1' rr2 hw2
  cases z with
  | none => exact e3.elim
  | some x =>
    obtain ⟨v, rfl, rp⟩ := e5 x rfl
    exact ⟨a, v, e1, e2, Cont.leaf hk R2.drop.drop rp (st1.trans st2 (fun z => by rw [z]; rfl)) e3⟩
theorem le_dgt {ap cp : Pos} {nm : Str} (C : CxOk X Γ b k) (hnm : nm = ("get" : Str)) (hno : noCall ea = true) (hline : (ap.endLine == cp.line) = true) (hs : noStar eb = true) (ho : PEc X Γ ea p) (hi : PEc X Γ eb q) : PE X (.Call (.Attribute ea nm ap) [eb] [] cp) (LE X Γ.pin pu (wE Γ pu (.dgt p q))) := by
  subst hnm
  refine ⟨fun pins s σ H Q I hw => ?_⟩
  obtain ⟨B, Hs, sl, tp, P, R0, hw, hk⟩ := hw
  rw [wE] at hw
  have hu := C.room.un
  have m1 : M1 X ea "get" ap eb cp := ⟨base_of hno, by rw [star_of hs]; rfl, hline, by rw [star_of hs]; rfl⟩
  refine (pe_dget1 (by omega) (ho pu) (hiAny hi) m1).run pins s σ H Q I ⟨B, Hs, sl, tp, _, R0, hw, fun ro vo Hs1 H1 sl1 nw1 R1 rr1 st1 hw1 => ?_⟩
  obtain ⟨hd, hw1⟩ := hw1
  obtain ⟨kds, hd⟩ := Option.isSome_iff_exists.mp hd
  obtain ⟨a, ks, xs, ds, e1, e2, _⟩ := rr1.dvk R1 hd
  refine ⟨a, e1, .inl ⟨_, e2⟩, _, B, Hs1, sl1, tp ++ nw1, _, R1, hw1, fun ri vi Hs2 H2 sl2 nw2 R2 rr2 st2 hw2 => ?_⟩
  have rr1' := rr1.stay R1 R2 st2 (fun z => by rw [z]; cases pu <;> rfl)
  obtain ⟨a', o, z, e1', e2, e3, e4, e5⟩ := dview_ok R2.drop R2 rr1' rr2 hw2
  rw [e1] at e1'
  cases e1'
  refine ⟨o, e2, ?_⟩
  cases z with
  | none =>
    rw [e4 rfl]
    exact Cont.leaf hk R2.drop.drop .non (st1.trans st2 (fun z => by rw [z]; rfl)) e3
  | some x =>
    obtain ⟨v, rfl, rp⟩ := e5 x rfl
    exact Cont.leaf hk R2.drop.drop rp (st1.trans st2 (fun z => by rw [z]; rfl)) e3
/-- comparisons that end in a truth value -/
abbrev OpOk (X : Cx) (Γ : Ctx) (oo : CmpOp) (w : R → R → St → (Bool → Prop) → Prop) : Prop := ∀ {pins : List (Addr × Obj)} {s : Shared} {σ : L2.St} {H2 Hs2 : Hp} {B : Bs} {sl2 tp nw1 nw2 : List TA} {x y : V} {v u : Value} {ra rb : R} {Q : VK} {Kk : Bool → Prop}, Inv X pins σ H2 s → RelV x v → RelV y u → Rel X.K B Hs2 H2 σ sl2 ((tp ++ nw1) ++ nw2) → RR ra x sl2 nw1 → RR rb y sl2 nw2 → w ra rb (TA.tl sl2) Kk → (∀ z, Kk z → Q (.bl z) H2) →
    wpAny (model X.prog X.w) X.A (compareOp oo v u) (EP X pins σ Q) X.xe s
theorem le_op {oo : CmpOp} {w : R → R → St → (Bool → Prop) → Prop} {c : E} (hc : ∀ σ K, wE Γ pu c σ K = wE Γ pu p σ fun ra σ1 => wE Γ (pu || !ra.top) q σ1 fun rb σ2 => w ra rb σ2 fun z => K (.v (.d (.bool z))) σ2) (hop : OpOk X Γ oo w) (hs : noSet eb = true) (ha : PEc X Γ ea p) (hb : PEc X Γ eb q) : PE X (.Compare ea [oo] [eb] pos) (LE X Γ.pin pu (wE Γ pu c)) := by
  refine ⟨fun pins s σ H Q I hw => ?_⟩
  obtain ⟨B, Hs, sl, tp, P, R0, hw, hk⟩ := hw
  rw [hc] at hw
  refine wpAny_Compare1 (two (pb := fun _ => pu) (wb := fun _ => wE Γ pu q) (wb' := fun pu' => wE Γ pu' q) R0 hw hb I (ha pu) fun v u s2 x y H2 ra rb Hs2 sl2 nw1 nw2 I2 rx ry R2 r1 r2 st h => hop I2 rx ry R2 r1 r2 h fun z hz => Cont.leaf hk R2.drop.drop (.bl z) st hz) ?_
  cases eb <;> first | rfl | (exact (Bool.noConfusion hs))
theorem lr_op {oo : CmpOp} {w : R → R → St → (Bool → Prop) → Prop} {c : E} (hc : ∀ σ K, wE Γ pu c σ K = wE Γ pu p σ fun ra σ1 => wE Γ (pu || !ra.top) q σ1 fun rb σ2 => w ra rb σ2 fun z => K (.v (.d (.bool z))) σ2) (hop : OpOk X Γ oo w) (hs : noSet eb = true) (ha : PEc X Γ ea p) (hb : PEc X Γ eb q) : PT X (.Compare ea [oo] [eb] pos) (LR X Γ.pin pu (wE Γ pu c)) := by
  refine ⟨fun pins s σ H Q I hw => ?_⟩
  obtain ⟨B, Hs, sl, tp, P, R0, hw, hk⟩ := hw
  rw [hc] at hw
  refine wpAny_isTrue_Compare1 (two (pb := fun _ => pu) (wb := fun _ => wE Γ pu q) (wb' := fun pu' => wE Γ pu' q) R0 hw hb I (ha pu) fun v u s2 x y H2 ra rb Hs2 sl2 nw1 nw2 I2 rx ry R2 r1 r2 st h => thn (hop (Q := fun z H' => ∃ c, z = .bl c ∧ Q c H') I2 rx ry R2 r1 r2 h fun z hz => ⟨z, rfl, ?_⟩) fun w s3 ⟨x3, H3, I3, r3, c, e3, q3⟩ => ?_) ?_
  · exact hk (.v (.d (.bool z))) (.bl z) z Hs2 H2 sl2 [.d (.bl z) (.bool z)] (R2.drop.drop.leaf (.bl z)) ⟨_, rfl, rfl, rfl, rfl⟩ st (fun Kk h => h) hz
  · subst e3
    cases r3
    exact wpAny_truthy_bool ⟨H3, I3, q3⟩
  · cases eb <;> first | rfl | (exact (Bool.noConfusion hs))
theorem dv_same {z : Option PyData} {o : Option V} {K : PySem.W.Frag} {Hs : Hp} (e4 : z = none → o = none) (e5 : ∀ x, z = some x → ∃ v, o = some v ∧ Rp K Hs v x) : o.isSome = z.isSome := by
  cases z with
  | none => rw [e4 rfl]; rfl
  | some x => obtain ⟨v, rfl, _⟩ := e5 x rfl; rfl
theorem op_din (neg : Bool) (hu : X.A.units + 1 < cLine) : OpOk X Γ (copO (if neg then .notin else .isin)) (fun ri ro σ Kk => dviewW ro ri σ fun z => Kk (z.isSome != neg)) := by
  intro pins s σ H2 Hs2 B sl2 tp nw1 nw2 x y v u ra rb Q Kk I rx ry R2 r1 r2 h q
  obtain ⟨a, o, z, e1, e2, e3, e4, e5⟩ := dview_ok R2 R2.drop r2 r1 h
  subst e1
  cases (show u = Value.ref a from ry)
  have es := dv_same e4 e5
  cases neg with
  | false => exact d_in hu I e2 rx fun s3 I3 => ⟨.bl o.isSome, H2, I3, rfl, q _ (by rw [es]; simpa using e3)⟩
  | true => exact d_notIn hu I e2 rx fun s3 I3 => ⟨.bl (!o.isSome), H2, I3, rfl, q _ (by rw [es]; simpa using e3)⟩
theorem zip_find {K : PySem.W.Frag} {H : Hp} : ∀ {ks : List Key} {vs us : List V} {xs : List PyData}, ks.Nodup → RpAll K H vs xs → RpAll K H us xs → xs.all flatD = true → ∀ p ∈ ks.zip vs, valV (ks.zip us) p.1 = some p.2 ∧ flatB p.2 = true
  | [], _, _, _, _, _, _, _, p, hp => by simp at hp
  | k :: ks, _, _, _, _, .nil, _, _, p, hp => by simp at hp
  | k :: ks, _, _, _, hn, .cons (v := v) (vs := vs) (d := d) (ds := ds) a b, h2, hf, p, hp => by
    cases h2 with
    | @cons u _ us _ a2 b2 =>
      simp only [List.all_cons, Bool.and_eq_true] at hf
      have e : u = v ∧ flatB v = true := by
        cases d with
        | none => cases a; cases a2; exact ⟨rfl, rfl⟩
        | bool _ => cases a; cases a2; exact ⟨rfl, rfl⟩
        | int _ => cases a; cases a2; exact ⟨rfl, rfl⟩
        | str _ => cases a; cases a2; exact ⟨rfl, rfl⟩
        | _ => simp [flatD] at hf
      rw [List.zip_cons_cons, List.mem_cons] at hp
      rcases hp with rfl | hp
      · exact ⟨by simp [valV, List.zip_cons_cons, List.find?_cons, e.1], e.2⟩
      · have ih := zip_find (List.nodup_cons.mp hn).2 b b2 hf.2 p hp
        have hk : ¬ k = p.1 := fun z => (List.nodup_cons.mp hn).1 (z ▸ (List.of_mem_zip (show (p.1, p.2) ∈ ks.zip vs from hp)).1)
        refine ⟨?_, ih.2⟩
        rw [List.zip_cons_cons]
        simpa [valV, List.find?_cons, hk] using ih.1
theorem op_deq (neg : Bool) (hu : X.A.units < cLine) : OpOk X Γ (copO (if neg then .ne else .eq)) (fun ra rb σ Kk => deqW ra rb σ (Kk (!neg))) := by
  intro pins s σ H2 Hs2 B sl2 tp nw1 nw2 x y v u ra rb Q Kk I rx ry R2 r1 r2 h q
  unfold deqW at h
  split at h
  · rename_i ks ts ls us g1 g2
    split at h
    · rename_i xs ys l1 l2
      obtain ⟨rfl, rfl, hn, hf, h⟩ := h
      obtain ⟨a, as, rfl, e2, ⟨e3, e3'⟩, e4, _⟩ := r1.node R2.drop g1
      obtain ⟨b, bs, rfl, f2, ⟨f3, f3'⟩, f4, _⟩ := r2.node R2 g2
      rw [← e2] at l1
      rw [← f2] at l2
      have hp := zip_find hn ((leaves_of l1).2.2 e4) ((leaves_of l2).2.2 f4) hf
      have hl : (ks.zip (as.map TA.v)).length = (ks.zip (bs.map TA.v)).length := by rw [List.length_zip, List.length_zip, ← e3, ← f3]
      cases neg with
      | false => exact op_eq_dictA hu pins s σ H2 _ _ v u _ I rx ry ⟨a, b, _, _, rfl, rfl, e3', f3', hl, hp, q _ h⟩
      | true => exact op_ne_dictA hu pins s σ H2 _ _ v u _ I rx ry ⟨a, b, _, _, rfl, rfl, e3', f3', hl, hp, q _ h⟩
    · exact h.elim
  · exact h.elim
theorem le_dcp {x : Str} {p0 : Pos} (C : CxOk X Γ b k) (hx : bltCall Γ.sk b "dict" x = true) (hs : noStar ea = true) (h : PEc X Γ ea p) : PE X (.Call (.Name x p0) [ea] [] pos) (LE X Γ.pin pu (wE Γ pu (.dcp p))) := by
  obtain ⟨rfl, hg, hm, hd, hnm⟩ := bltCall_of C hx
  refine ⟨fun pins s σ H Q I hw => ?_⟩
  obtain ⟨B, Hs, sl, tp, P, R0, hw, hk⟩ := hw
  rw [wE] at hw
  refine (pe_callTy call_dictD hg hm (by decide +kernel) (pa_cons (h pu) pa_nil (star_of hs)) hnm hd (star_of hs) (stars_of rfl)).run pins s σ H Q I ⟨B, Hs, sl, tp, _, R0, hw, fun ra v Hs1 H1 sl1 nw1 R1 rr1 st1 p1 => ?_⟩
  split at p1
  · rename_i kds hdt
    obtain ⟨a, ks, xs, ds, e1, e2, e3, rfl, e5⟩ := rr1.dvk R1 hdt
    subst e1
    have hl := e5.length
    obtain ⟨l1, l2, l3, l4⟩ := leafs_ok (H := H1) e5
    have z1 : (ks.zip ds).map (·.1) = ks := by rw [List.map_fst_zip]; omega
    have z2 : (ks.zip ds).map (fun p => T.d p.2) = ds.map T.d := by
      have : (ks.zip ds).map (fun p => T.d p.2) = ((ks.zip ds).map (·.2)).map T.d := by rw [List.map_map]; rfl
      rw [this, List.map_snd_zip]; omega
    rw [z1, z2] at p1
    refine ⟨a, ks.zip xs, rfl, e2, fun pp hpp => ?_⟩
    exact Cont.node (k := .dict ks) (as := leafs xs ds) hk (R1.drop.leaves l1 l2) hpp ⟨by rw [l4]; exact e3, by rw [l4]; exact upd_same⟩ st1 (by rw [l3]; exact p1)
  · exact p1.elim
/-- a dict at a place -/
theorem atDict_ok {sl nw : List TA} {r : R} {v : V} {Kk : List Key → List T → (List Key → List T → St) → Prop} (rr : RR' r v sl nw) (h : atDict r (TA.tl sl) Kk) : ∃ i q t a ks us, r = .p i q ∧ nw = [] ∧ sl[i]? = some t ∧ t.at q = some (.nd (.dict ks) a us) ∧ v = .ref a ∧ Kk ks (TA.tl us) fun ks' us' => putS (TA.tl sl) i q (.nd (.dict ks') us') := by
  unfold atDict at h
  cases r with
  | v t => exact h.elim
  | p i q =>
    simp only at h
    split at h
    · rename_i ks ts hts
      unfold R.get at hts
      simp only at hts
      rw [tl_get] at hts
      cases h1 : sl[i]? with
      | none => rw [h1] at hts; cases hts
      | some t =>
        rw [h1] at hts
        simp only [Option.map_some, TA.at_t] at hts
        cases h2 : t.at q with
        | none => rw [h2] at hts; cases hts
        | some c =>
          rw [h2] at hts
          obtain ⟨a, us, rfl, e⟩ := ta_nd (Option.some.inj hts)
          refine ⟨i, q, t, a, ks, us, rfl, rr.1, h1, h2, (rr.2 t _ h1 h2).symm, ?_⟩
          rw [e]
          exact h
    · exact h.elim
/-- a node at a place is changed -/
theorem Rel.chgK {K : PySem.W.Frag} {B : Bs} {Hs H : Hp} {σ : L2.St} {sl tp : List TA} {i : Nat} {q : List Nat} {t : TA} {a : Addr} {us us' xs : List TA} {kd kd' : Kd} {o : HO} (R1 : Rel K B Hs H σ sl (tp ++ xs)) (h1 : sl[i]? = some t) (h2 : t.at q = some (.nd kd a us)) (hk : kd'.isTup = false) (ho : kd'.at (upd H a o) a (us'.map TA.v)) (ok : TA.okl K Hs H us') (sub : ∀ b ∈ TA.fpl us', b ∈ TA.fpl us ∨ b ∈ TA.fpl xs) (uq : (TA.fpl us').Nodup)
    (hn : TA.noTupl us' = true) : Rel K B Hs (upd H a o) σ (sl.set i (t.put (.nd kd' a us') q)) tp ∧ TA.tl (sl.set i (t.put (.nd kd' a us') q)) = putS (TA.tl sl) i q (.nd kd' (TA.tl us')) := by
  have hanot : a ∉ TA.fpl us' := fun z => by
    have hu := R1.uq
    obtain ⟨l1, l2, e1, e2⟩ := Rel.lens (tp := tp ++ xs) h1 h2
    rw [e1] at hu
    have nm := nodup_mid hu
    rw [TA.fp, List.nodup_cons] at nm
    rcases sub a z with y | y
    · exact nm.2.1.1 y
    · have u3 := R1.uq
      rw [TA.fpl_append, TA.fpl_append, ← List.append_assoc, List.nodup_append] at u3
      refine u3.2.2 a ?_ a y rfl
      obtain ⟨g1, g2, ge, _⟩ := TA.lens q t _ h2
      exact List.mem_append_left _ (fpl_mem (List.mem_of_getElem? h1) (by rw [ge, TA.fp]; simp))
  refine ⟨R1.put h1 h2 rfl (fun e _ => by subst e; rw [TA.at] at h2; cases h2; exact R1.val i (.nd kd a us) h1 rfl) ?_ ?_ ?_ ?_ ?_, ?_⟩
  · rw [TA.noTup, hk]; exact hn
  · intro b hb
    exact upd_ne fun z => hb (by rw [z, TA.fp]; exact List.mem_cons_self)
  · rw [TA.ok]
    refine ⟨ho, TA.okl_mono (Same.refl _) _ ok fun b hb => upd_ne fun z => hanot (z ▸ hb)⟩
  · rw [TA.fp]
    exact List.nodup_cons.mpr ⟨hanot, uq⟩
  · intro b hb
    rw [TA.fp] at hb
    rcases List.mem_cons.mp hb with rfl | hb
    · exact .inl (by rw [TA.fp]; exact List.mem_cons_self)
    · rcases sub b hb with z | z
      · exact .inl (by rw [TA.fp]; exact List.mem_cons_of_mem _ z)
      · exact .inr z
  · rw [tl_putS h1, TA.t]
/-- a pair is put into a dict -/
def repA (ks : List Key) (us : List TA) (k : Key) (x : TA) : List TA := List.zipWith (fun k' t' => if k' = k then x else t') ks us
theorem repA_of {K : PySem.W.Frag} {Hs H : Hp} (k : Key) (v : V) (y : PyData) (rp : Rp K Hs v y) : ∀ (ks : List Key) (us : List TA), ks.length = us.length → TA.okl K Hs H us → TA.noTupl us = true →
    TA.okl K Hs H (repA ks us k (.d v y)) ∧ TA.noTupl (repA ks us k (.d v y)) = true ∧ (TA.fpl (repA ks us k (.d v y))).Sublist (TA.fpl us) ∧ TA.tl (repA ks us k (.d v y)) = List.zipWith (fun k' t' => if k' = k then .d y else t') ks (TA.tl us) ∧
    ks.length = (repA ks us k (.d v y)).length ∧ (ks.zip (us.map TA.v)).map (fun kv => if kv.1 = k then (kv.1, v) else kv) = ks.zip ((repA ks us k (.d v y)).map TA.v)
  | [], [], _, h1, h2 => ⟨h1, h2, List.Sublist.refl _, rfl, rfl, rfl⟩
  | [], _ :: _, h, _, _ => by simp at h
  | _ :: _, [], h, _, _ => by simp at h
  | k' :: ks, u :: us, h, h1, h2 => by
    rw [TA.okl] at h1
    rw [TA.noTupl, Bool.and_eq_true] at h2
    obtain ⟨i1, i2, i3, i4, i5, i6⟩ := repA_of k v y rp ks us (by simpa using h) h1.2 h2.2
    have e : repA (k' :: ks) (u :: us) k (.d v y) = (if k' = k then .d v y else u) :: repA ks us k (.d v y) := rfl
    rw [e]
    by_cases hk : k' = k
    · simp only [hk, if_true]
      refine ⟨?_, ?_, ?_, ?_, ?_, ?_⟩
      · rw [TA.okl, TA.ok]; exact ⟨rp, i1⟩
      · rw [TA.noTupl, i2]; rfl
      · rw [TA.fpl, TA.fp, List.nil_append, TA.fpl]; exact i3.trans (List.sublist_append_right _ _)
      · rw [TA.tl, i4, TA.tl, List.zipWith_cons_cons, if_pos rfl]; rfl
      · simpa using i5
      · rw [List.map_cons, List.zip_cons_cons, List.map_cons, i6, List.map_cons, List.zip_cons_cons, if_pos rfl]; rfl
    · simp only [hk, if_false]
      refine ⟨?_, ?_, ?_, ?_, ?_, ?_⟩
      · rw [TA.okl]; exact ⟨h1.1, i1⟩
      · rw [TA.noTupl, i2, h2.1]; rfl
      · rw [TA.fpl, TA.fpl]; exact List.Sublist.append (List.Sublist.refl _) i3
      · rw [TA.tl, i4, TA.tl, List.zipWith_cons_cons, if_neg hk]
      · simpa using i5
      · rw [List.map_cons, List.zip_cons_cons, List.map_cons, i6, List.map_cons, List.zip_cons_cons, if_neg hk]
theorem any_zip (k : Key) : ∀ (ks : List Key) (vs : List V), ks.length = vs.length → ((ks.zip vs).any fun kv => decide (kv.1 = k)) = ks.any fun k' => decide (k' = k)
  | [], _, _ => by simp
  | _ :: _, [], h => by simp at h
  | k' :: ks, v :: vs, h => by simp [List.zip_cons_cons, List.any_cons, any_zip k ks vs (by simpa using h)]
theorem put_dict {K : PySem.W.Frag} {B : Bs} {Hs H : Hp} {σ : L2.St} {sl tp : List TA} {i : Nat} {q : List Nat} {t : TA} {a : Addr} {us : List TA} {ks : List Key} {k : Key} {v : V} {y : PyData} (R1 : Rel K B Hs H σ sl tp) (h1 : sl[i]? = some t) (h2 : t.at q = some (.nd (.dict ks) a us)) (rp : Rp K Hs v y) :
    ∃ sl', H a = some (.dK (ks.zip (us.map TA.v))) ∧ ks.length = us.length ∧ Rel K B Hs (upd H a (.dK (putK (ks.zip (us.map TA.v)) k v))) σ sl' tp ∧ TA.tl sl' = putS (TA.tl sl) i q (.nd (.dict (dput ks (TA.tl us) k (.d y)).1) (dput ks (TA.tl us) k (.d y)).2) := by
  have n := TA.at_noTup q t _ h2 (R1.ntup t (List.mem_of_getElem? h1))
  rw [TA.noTup, Bool.and_eq_true] at n
  have o := TA.at_ok q t _ h2 (R1.slot_ok h1)
  rw [TA.ok] at o
  obtain ⟨⟨o1, o2⟩, o3⟩ := o
  rw [List.length_map] at o1
  have uq0 : (TA.fpl us).Nodup := by
    have hu := R1.uq
    obtain ⟨l1, l2, e1, e2⟩ := Rel.lens (tp := tp) h1 h2
    rw [e1] at hu
    have nm := nodup_mid hu
    rw [TA.fp, List.nodup_cons] at nm
    exact nm.2.1.2
  have hz := any_zip k ks (us.map TA.v) (by rw [List.length_map]; exact o1)
  by_cases ha : (ks.any fun k' => decide (k' = k)) = true
  · obtain ⟨i1, i2, i3, i4, i5, i6⟩ := repA_of k v y rp ks us o1 o3 n.2
    have e : putK (ks.zip (us.map TA.v)) k v = ks.zip ((repA ks us k (.d v y)).map TA.v) := by
      unfold putK
      rw [if_pos (by rw [hz]; exact ha), i6]
    have ed : dput ks (TA.tl us) k (.d y) = (ks, TA.tl (repA ks us k (.d v y))) := by
      unfold dput
      rw [if_pos ha, i4]
    rw [e, ed]
    obtain ⟨r1, r2⟩ := Rel.chgK (kd' := .dict ks) (o := .dK (ks.zip ((repA ks us k (.d v y)).map TA.v))) (us' := repA ks us k (.d v y)) (xs := []) (by rw [List.append_nil]; exact R1) h1 h2 rfl ⟨by rw [List.length_map]; exact i5, upd_same⟩ i1 (fun b hb => .inl (i3.subset hb)) (i3.nodup uq0) i2
    exact ⟨_, o2, o1, r1, r2⟩
  · have e : putK (ks.zip (us.map TA.v)) k v = (ks ++ [k]).zip ((us ++ [TA.d v y]).map TA.v) := by
      unfold putK
      rw [if_neg (by rw [hz]; exact ha), List.map_append, List.zip_append (by rw [List.length_map]; exact o1)]
      rfl
    have ed : dput ks (TA.tl us) k (.d y) = (ks ++ [k], TA.tl (us ++ [.d v y])) := by
      unfold dput
      rw [if_neg ha, tl_app]
      rfl
    rw [e, ed]
    have f1 : TA.fpl (us ++ [.d v y]) = TA.fpl us := by rw [TA.fpl_append, fpl_one, TA.fp, List.append_nil]
    obtain ⟨r1, r2⟩ := Rel.chgK (kd' := .dict (ks ++ [k])) (o := .dK ((ks ++ [k]).zip ((us ++ [TA.d v y]).map TA.v))) (us' := us ++ [.d v y]) (xs := []) (by rw [List.append_nil]; exact R1) h1 h2 rfl ⟨by simp [o1], upd_same⟩ (TA.okl_append.mpr ⟨o3, okl_one.mpr (by rw [TA.ok]; exact rp)⟩) (fun b hb => .inl (by rw [f1] at hb; exact hb)) (by rw [f1]; exact uq0) (TA.noTupl_all.mpr fun z hz => by
      rcases List.mem_append.mp hz with w | w
      · exact TA.noTupl_all.mp n.2 z w
      · rw [List.mem_singleton.mp w]; rfl)
    exact ⟨_, o2, o1, r1, r2⟩
theorem le_din {neg : Bool} (C : CxOk X Γ b k) (hs : noSet eb = true) (ha : PEc X Γ ea p) (hb : PEc X Γ eb q) : PE X (.Compare ea [copO (if neg then .notin else .isin)] [eb] pos) (LE X Γ.pin pu (wE Γ pu (.din neg p q))) :=
  le_op (w := fun ri ro σ Kk => dviewW ro ri σ fun z => Kk (z.isSome != neg)) (fun σ K => by rw [wE]) (op_din (Γ := Γ) neg (by have hu := C.room.un; omega)) hs ha hb
theorem lr_din {neg : Bool} (C : CxOk X Γ b k) (hs : noSet eb = true) (ha : PEc X Γ ea p) (hb : PEc X Γ eb q) : PT X (.Compare ea [copO (if neg then .notin else .isin)] [eb] pos) (LR X Γ.pin pu (wE Γ pu (.din neg p q))) :=
  lr_op (w := fun ri ro σ Kk => dviewW ro ri σ fun z => Kk (z.isSome != neg)) (fun σ K => by rw [wE]) (op_din (Γ := Γ) neg (by have hu := C.room.un; omega)) hs ha hb
theorem le_deq {neg : Bool} (C : CxOk X Γ b k) (hs : noSet eb = true) (ha : PEc X Γ ea p) (hb : PEc X Γ eb q) : PE X (.Compare ea [copO (if neg then .ne else .eq)] [eb] pos) (LE X Γ.pin pu (wE Γ pu (.deq neg p q))) :=
  le_op (w := fun ra rb σ Kk => deqW ra rb σ (Kk (!neg))) (fun σ K => by rw [wE]) (op_deq (Γ := Γ) neg (by have hu := C.room.un; omega)) hs ha hb
theorem lr_deq {neg : Bool} (C : CxOk X Γ b k) (hs : noSet eb = true) (ha : PEc X Γ ea p) (hb : PEc X Γ eb q) : PT X (.Compare ea [copO (if neg then .ne else .eq)] [eb] pos) (LR X Γ.pin pu (wE Γ pu (.deq neg p q))) :=
  lr_op (w := fun ra rb σ Kk => deqW ra rb σ (Kk (!neg))) (fun σ K => by rw [wE]) (op_deq (Γ := Γ) neg (by have hu := C.room.un; omega)) hs ha hb
end
end VL
set_option Elab.async false
set_option linter.all false
set_option maxRecDepth 100000
set_option maxHeartbeats 4000000
/-! VD2: values frozen; more of dicts. -/
namespace VL
open PySem PySem.Spec PyProof.Rows L2
section
variable {X : Cx} {Γ : Ctx} {b : Blk} {k : Nat} {pos : Pos} {ea eb ec : Expr} {p q r : E} {pu : Bool}
theorem le_frz (h : PEc X Γ ea p) : PE X ea (LE X Γ.pin pu (wE Γ pu (.frz p))) := by
  refine ⟨fun pins s σ H Q I hw => ?_⟩
  obtain ⟨B, Hs, sl, tp, P, R0, hw, hk⟩ := hw
  rw [wE] at hw
  refine (h pu).run pins s σ H Q I ⟨B, Hs, sl, tp, _, R0, hw, fun r v Hs1 H1 sl1 nw R1 rr st p1 => ?_⟩
  obtain ⟨x, Hs2, sl2, R2, e1, e2, st2, hp, _⟩ := toV_ok (rest := []) (by simpa using R1) rr.weak p1
  rw [List.append_nil] at R2
  split at hp
  · rename_i y hy
    subst e1
    exact hk (.v (.d y)) x.v _ _ sl2 [.d x.v y] (R2.frzT hy) ⟨_, rfl, rfl, rfl, rfl⟩ (st.trans st2 id) hp
  · exact hp.elim
/-- what is collected of a dict's int keys -/
theorem keys_ints {vs : List (Key × Value)} {ks : List Int} {acc : List Value} (hk : vs.map (·.1) = ks.map Sum.inl) (hl : acc.length = vs.length)
    (h : ∀ (j : Nat) (v : Value), acc[j]? = some v → ∃ (kk : Key) (x : Value), vs[j]? = some (kk, x) ∧ keyIs kk v = true) : IntsAre acc ks := by
  have hv : vs.length = ks.length := by simpa using congrArg List.length hk
  refine ints_each (hl.trans hv) fun j v ev => ?_
  obtain ⟨kk, x, h1, h2⟩ := h j v ev
  have h3 : (ks.map (Sum.inl : Int → Key))[j]? = some kk := by rw [← hk, List.getElem?_map, h1]; rfl
  rw [List.getElem?_map] at h3
  obtain ⟨y, hy, rfl⟩ := Option.map_eq_some_iff.mp h3
  refine ⟨y, ?_⟩
  rcases keyIs_shape h2 with ⟨_, t, z, rfl⟩ | ⟨_, _, z, _⟩
  · cases z; exact ⟨t, hy, rfl⟩
  · cases z
/-- sorted of a dict whose keys are ints, however many -/
theorem call_sortedDA (calm : X.calm = true) : CallR X (.builtin "sorted") (fun xs H Q => ∃ (d : Addr) (prs : List (Key × V)) (ks : List Int), xs = [.ref d] ∧ Rd H d (.dK prs) ∧ prs.map (·.1) = ks.map Sum.inl ∧ ks.length ≤ sizeLine ∧
    ∀ (ys : List Int) (l : Addr), ys.Perm ks → ys.Pairwise (· ≤ ·) → H l = none → Q (.ref l) (upd H l (.lst (ys.map V.int)))) := by
  rintro pins s σ H _ us Q I ru ⟨d, prs, ks, rfl, rd, hks, most, q⟩
  rw [Vals.ref1 ru]
  obtain ⟨_, lo, vs, rel, dat⟩ := dk_rd I.hok rd
  obtain ⟨ep, hat⟩ := dat.dictAt
  have kk : vs.map (·.1) = ks.map Sum.inl := rel.keys.symm.trans hks
  have hv : vs.length = ks.length := by simpa using congrArg List.length kk
  refine Calls.call_function_entry PyProof.Rows.kind_sorted PyProof.Rows.plain_sorted PyProof.Rows.entry_sorted (PyProof.Rows.args_sorted1 _) ?_
  unfold Builtin.«sorted»
  refine wpAny_bind (m := checkCount "sorted" 1 1 _) (wpAny_pure (wpAny_bind ?_))
  refine PySem.W.kdu_collect (A := X.A.in1) (PySem.W.kdl_dict (knd := mixKind X.prog X.w) (kvs := vs) (ep := ep) lo) (I.ok.hd calm) hat (hv ▸ most) fun h1 tk acc old hacc => ?_
  have len : acc.toList.length = vs.length := by rw [Array.length_toList, hacc.1]
  have nums_ : IntsAre acc.toList ks := keys_ints kk len fun j v e => hacc.2 j v (by rw [← Array.getElem?_toList]; exact e)
  have room : acc.toList.length ≤ sizeLine := by rw [len, hv]; exact most
  have J : Inv X pins σ H { s with heap := h1, toks := tk } := I.kept old
  refine wpAny_bind (wpAny_newList (show _ from ?_) room)
  have at_ : (h1.push (seqObj "list" acc.toList.toArray 0)).get? h1.objs.size = some (seqObj "list" acc.toList.toArray 0) := Heap.get?_push_size _ rfl
  show wpAny _ _ _ _ _ { s with heap := h1.push (seqObj "list" acc.toList.toArray 0), toks := tk }
  refine wpAny_bind (wpAny_holding (wpAny_call_entry PyProof.Rows.slot_list_sort ⟨_, at_, rfl⟩ PyProof.Rows.entry_list_sort ?_ (PyProof.Rows.args_list_sort _)))
  refine SrtO.list_sort_ord (s := { s with heap := h1.push (seqObj "list" acc.toList.toArray 0), toks := tk }) SrtO.swo_int at_ room (fun two => SrtO.ints_sortable nums_ two) fun out srt stb => ⟨_, rfl, ?_⟩
  obtain ⟨o1, o2, o3⟩ := SrtO.ints_out nums_ srt stb
  obtain ⟨en, there⟩ := PyProof.Rows.sortedHeap_at (vs := acc.toList) (out := out.toArray) at_
  have fits : ((out.map SrtO.iv).map V.int).length ≤ sizeLine := by rw [List.length_map, o2.length_eq]; exact most
  refine wpAny_pure ⟨_, rfl, .ref h1.objs.size, _, J.laid (t' := tk) (fun c u hc => ?_) (Nat.le_refl _) (show ObjOk X.prog X.w _ _ _ (.lst ((out.map SrtO.iv).map V.int)) from ⟨fits, out, en, vals_of_ints o1, there⟩), rfl, q _ _ o2 o3 (J.hok.fresh (Nat.le_refl _))⟩
  have lt := Heap.lt_size hc
  rw [PyProof.Rows.sortedHeap_old (Nat.ne_of_lt lt) (by rw [size_push']; exact Nat.lt_succ_of_lt lt)]
  exact Heap.get?_push_of_some _ hc
theorem intKeys_eq : ∀ {kds : List (Key × PyData)} {ns : List Int}, intKeys kds = some ns → kds.map (·.1) = ns.map Sum.inl
  | [], ns, h => by cases h; rfl
  | (.inl i, x) :: kds, ns, h => by
    rw [intKeys] at h
    split at h
    · rename_i ms e
      cases h
      rw [List.map_cons, List.map_cons, intKeys_eq e]
    · cases h
  | (.inr i, x) :: kds, ns, h => by simp [intKeys] at h
theorem le_dsrt {x : Str} {p0 : Pos} (C : CxOk X Γ b k) (hx : bltCall Γ.sk b "sorted" x = true) (hs : noStar ea = true) (h : PEc X Γ ea p) : PE X (.Call (.Name x p0) [ea] [] pos) (LE X Γ.pin pu (wE Γ pu (.dsrt p))) := by
  obtain ⟨rfl, hg, hm, hd, hnm⟩ := bltCall_of C hx
  refine ⟨fun pins s σ H Q I hw => ?_⟩
  obtain ⟨B, Hs, sl, tp, P, R0, hw, hk⟩ := hw
  rw [wE] at hw
  refine (pe_callB (call_sortedDA C.calm) hg hm (by decide +kernel) (pa_cons (h pu) pa_nil (star_of hs)) hnm hd (star_of hs) (stars_of rfl)).run pins s σ H Q I ⟨B, Hs, sl, tp, _, R0, hw, fun ra v Hs1 H1 sl1 nw1 R1 rr1 st1 p1 => ?_⟩
  split at p1
  · rename_i kds hdt
    obtain ⟨a, ks, xs, ds, e1, e2, e3, rfl, e5⟩ := rr1.dvk R1 hdt
    subst e1
    have hl := e5.length
    split at p1
    · rename_i ns hns
      obtain ⟨hz, p1⟩ := p1
      have hk1 := intKeys_eq hns
      rw [List.map_fst_zip (by omega)] at hk1
      refine ⟨a, ks.zip xs, ns, rfl, e2, by rw [List.map_fst_zip (by omega)]; exact hk1, hz, fun ys l g1 g2 hl0 => ?_⟩
      rw [sortI_unique g1 g2]
      have ra : RpAll X.K Hs1 ((sortI ns).map V.int) ((sortI ns).map PyData.int) := by
        generalize sortI ns = ms
        induction ms with
        | nil => exact .nil
        | cons m ms ih => exact .cons (.int m) ih
      obtain ⟨l1, l2, l3, l4⟩ := leafs_ok (H := H1) ra
      have := Cont.lst (as := leafs ((sortI ns).map V.int) ((sortI ns).map PyData.int)) hk (R1.drop.leaves l1 l2) hl0 st1 (by rw [l3, List.map_map]; exact p1)
      rw [l4] at this
      exact this
    · exact p1.elim
  · exact p1.elim
theorem Rp.key {K : PySem.W.Frag} {H : Hp} (kk : Key) : Rp K H (kV kk) (keyD kk) := by
  cases kk with
  | inl i => exact .int i
  | inr x => exact .str x
theorem le_dlst {x : Str} {p0 : Pos} (C : CxOk X Γ b k) (hx : bltCall Γ.sk b "list" x = true) (hs : noStar ea = true) (h : PEc X Γ ea p) : PE X (.Call (.Name x p0) [ea] [] pos) (LE X Γ.pin pu (wE Γ pu (.dlst p))) := by
  obtain ⟨rfl, hg, hm, hd, hnm⟩ := bltCall_of C hx
  refine ⟨fun pins s σ H Q I hw => ?_⟩
  obtain ⟨B, Hs, sl, tp, P, R0, hw, hk⟩ := hw
  rw [wE] at hw
  refine (pe_callTy (call_listD C.calm) hg hm (by decide +kernel) (pa_cons (h pu) pa_nil (star_of hs)) hnm hd (star_of hs) (stars_of rfl)).run pins s σ H Q I ⟨B, Hs, sl, tp, _, R0, hw, fun ra v Hs1 H1 sl1 nw1 R1 rr1 st1 p1 => ?_⟩
  split at p1
  · rename_i kds hdt
    obtain ⟨a, ks, xs, ds, e1, e2, e3, rfl, e5⟩ := rr1.dvk R1 hdt
    subst e1
    have hl := e5.length
    refine ⟨a, ks.zip xs, rfl, e2, fun l hl0 => ?_⟩
    have z1 : (ks.zip xs).map (fun kv => kV kv.1) = ks.map kV := by
      rw [show (fun kv : Key × V => kV kv.1) = kV ∘ Prod.fst from rfl, ← List.map_map, List.map_fst_zip (by omega)]
    have z2 : (ks.zip ds).map (fun p => T.d (keyD p.1)) = (ks.map keyD).map T.d := by
      rw [show (fun p : Key × PyData => T.d (keyD p.1)) = (T.d ∘ keyD) ∘ Prod.fst from rfl, ← List.map_map, List.map_fst_zip (by omega), List.map_map]
    have ra : RpAll X.K Hs1 (ks.map kV) (ks.map keyD) := by
      clear z1 z2 p1 hdt e2 e3 hl
      induction ks with
      | nil => exact .nil
      | cons m ms ih => exact .cons (.key m) ih
    obtain ⟨l1, l2, l3, l4⟩ := leafs_ok (H := H1) ra
    rw [z2] at p1
    have := Cont.lst (as := leafs (ks.map kV) (ks.map keyD)) hk (R1.drop.leaves l1 l2) hl0 st1 (by rw [l3]; exact p1)
    rw [l4] at this
    rw [z1]
    exact this
  · exact p1.elim
theorem call_lenR : CallR X (.builtin "len") (fun xs H Q => ∃ d prs, xs = [V.ref d] ∧ Rd H d (.dK prs) ∧ Q (.int (List.length prs)) H) := by
  rintro pins s σ H _ us Q I ru ⟨d, prs, rfl, rd, q⟩
  rw [Vals.ref1 ru]
  exact d_len I rd fun t s' J => ⟨.int prs.length, H, J, ⟨t, rfl⟩, q⟩
theorem le_dlen {x : Str} {p0 : Pos} (C : CxOk X Γ b k) (hx : bltCall Γ.sk b "len" x = true) (hs : noStar ea = true) (h : PEc X Γ ea p) : PE X (.Call (.Name x p0) [ea] [] pos) (LE X Γ.pin pu (wE Γ pu (.dlen p))) := by
  obtain ⟨rfl, hg, hm, hd, hnm⟩ := bltCall_of C hx
  refine ⟨fun pins s σ H Q I hw => ?_⟩
  obtain ⟨B, Hs, sl, tp, P, R0, hw, hk⟩ := hw
  rw [wE] at hw
  refine (pe_callB call_lenR hg hm (by decide +kernel) (pa_cons (h pu) pa_nil (star_of hs)) hnm hd (star_of hs) (stars_of rfl)).run pins s σ H Q I ⟨B, Hs, sl, tp, _, R0, hw, fun ra v Hs1 H1 sl1 nw1 R1 rr1 st1 p1 => ?_⟩
  split at p1
  · rename_i kds hdt
    obtain ⟨a, ks, xs, ds, e1, e2, e3, rfl, e5⟩ := rr1.dvk R1 hdt
    subst e1
    have hl := e5.length
    refine ⟨a, ks.zip xs, rfl, e2, ?_⟩
    have : (ks.zip xs).length = (ks.zip ds).length := by rw [List.length_zip, List.length_zip]; omega
    rw [this]
    exact Cont.leaf hk R1.drop (.int _) st1 p1
  · exact p1.elim
end
end VL
set_option Elab.async false
set_option linter.all false
set_option maxRecDepth 100000
set_option maxHeartbeats 4000000
/-! VD3: a pair taken out of a dict; displays; dicts of pairs. -/
namespace VL
open PySem PySem.Spec PyProof.Rows L2
theorem put_live {t s c : TA} {q : List Nat} (h : t.at q = some c) (hs : s.isDead = false) (hc : c.isDead = false) : (t.put s q).isDead = false := by
  cases q with
  | nil => rw [TA.put]; exact hs
  | cons j q =>
    cases t with
    | dead v => simp [TA.at] at h
    | d v x => simp [TA.at] at h
    | nd k a ts =>
      rw [TA.put]
      split <;> rfl
theorem stp_put {H H' : Hp} {sl : List TA} {i : Nat} {t s c : TA} {q : List Nat} (h1 : sl[i]? = some t) (h : t.at q = some c) (hs : s.isDead = false) (hc : c.isDead = false) : Stp false H H' sl (sl.set i (t.put s q)) := by
  refine ⟨fun z => (by cases z), fun j u hj hd => ?_⟩
  have hi : i < sl.length := (List.getElem?_eq_some_iff.mp h1).1
  by_cases e : j = i
  · subst e
    exact ⟨_, List.getElem?_set_self hi, put_live h hs hc⟩
  · exact ⟨u, by rw [List.getElem?_set_ne (fun z => e z.symm)]; exact hj, hd⟩
theorem zip_drop (k : Key) : ∀ {ks : List Key} {vs : List V} {j : Nat}, ks.Nodup → ks.length = vs.length → (ks.findIdx? fun k' => decide (k' = k)) = some j → (∃ v, vs[j]? = some v ∧ valV (ks.zip vs) k = some v) ∧ dropK (ks.zip vs) k = (ks.eraseIdx j).zip (vs.eraseIdx j)
  | [], _, j, _, _, h => by simp at h
  | k' :: ks, [], j, _, hl, _ => by simp at hl
  | k' :: ks, v :: vs, j, hn, hl, h => by
    rw [List.nodup_cons] at hn
    rw [List.findIdx?_cons] at h
    by_cases e : k' = k
    · subst e
      simp only [decide_true, if_true, Option.some.injEq] at h
      subst h
      refine ⟨⟨v, rfl, by simp [valV]⟩, ?_⟩
      have : (ks.zip vs).filter (fun kv => decide (kv.1 ≠ k')) = ks.zip vs := List.filter_eq_self.mpr fun p hp => by
        have : p.1 ∈ ks := (List.of_mem_zip (show (p.1, p.2) ∈ ks.zip vs from hp)).1
        simp only [decide_eq_true_eq]
        exact fun z => hn.1 (z ▸ this)
      unfold dropK
      rw [List.zip_cons_cons, List.filter_cons_of_neg (by simp), this]
      rfl
    · simp only [e, decide_false, Bool.false_eq_true, if_false, Option.map_eq_some_iff] at h
      obtain ⟨j, h, rfl⟩ := h
      obtain ⟨⟨w, h1, h2⟩, h3⟩ := zip_drop k hn.2 (by simpa using hl) h
      refine ⟨⟨w, by simpa using h1, ?_⟩, ?_⟩
      · rw [List.zip_cons_cons]
        simpa [valV, List.find?_cons, e] using h2
      · unfold dropK at h3 ⊢
        rw [List.zip_cons_cons, List.filter_cons_of_pos (by simpa using e), h3, List.eraseIdx_cons_succ, List.eraseIdx_cons_succ, List.zip_cons_cons]
theorem zip_no (k : Key) : ∀ {ks : List Key} {vs : List V}, (ks.findIdx? fun k' => decide (k' = k)) = none → valV (ks.zip vs) k = none
  | [], _, _ => by simp [valV]
  | k' :: ks, [], _ => by simp [valV]
  | k' :: ks, v :: vs, h => by
    rw [List.findIdx?_cons] at h
    by_cases e : k' = k
    · simp [e] at h
    · simp only [e, decide_false, Bool.false_eq_true, if_false, Option.map_eq_none_iff] at h
      have := zip_no k (vs := vs) h
      rw [List.zip_cons_cons]
      simpa [valV, List.find?_cons, e] using this
theorem map_erase {α β : Type} (f : α → β) : ∀ (l : List α) (j : Nat), (l.eraseIdx j).map f = (l.map f).eraseIdx j
  | [], j => by simp
  | x :: l, 0 => by simp
  | x :: l, j + 1 => by simp [map_erase f l j]
theorem tl_erase : ∀ (us : List TA) (j : Nat), TA.tl (us.eraseIdx j) = (TA.tl us).eraseIdx j := fun us j => by rw [TA.tl_map, TA.tl_map, map_erase]
section
variable {X : Cx} {Γ : Ctx} {b : Blk} {k : Nat} {pos : Pos} {ea eb ec : Expr} {p q r : E} {pu : Bool}
theorem le_dpop {ap cp : Pos} {nm : Str} (C : CxOk X Γ b k) (hnm : nm = ("pop" : Str)) (hno : noCall ea = true) (hline : (ap.endLine == cp.line) = true) (hs : noStar eb = true) (hs2 : noStar ec = true) (ho : PEc X Γ ea p) (hi : PEc X Γ eb q) (hd : PEc X Γ ec r) : PE X (.Call (.Attribute ea nm ap) [eb, ec] [] cp) (LE X Γ.pin pu (wE Γ pu (.dpop p q r))) := by
  subst hnm
  refine ⟨fun pins s σ H Q I hw => ?_⟩
  obtain ⟨B, Hs, sl, tp, P, R0, hw, hk⟩ := hw
  rw [wE] at hw
  obtain ⟨rfl, hw⟩ := hw
  have m2 : M2 X ea "pop" ap eb ec cp := ⟨base_of hno, by rw [star_of hs, star_of hs2]; rfl, hline, by rw [star_of hs, star_of hs2]; rfl⟩
  refine (pe_dpop2 (ho false) (hiAny hi) (hiAny hd) m2).run pins s σ H Q I ⟨B, Hs, sl, tp, _, R0, hw, fun ro vo Hs1 H1 sl1 nw1 R1 rr1 st1 hw1 => ?_⟩
  obtain ⟨hdv, hw1⟩ := hw1
  obtain ⟨kds, hdv⟩ := Option.isSome_iff_exists.mp hdv
  obtain ⟨a, ks0, xs0, ds0, e1, e2, _⟩ := rr1.dvk R1 hdv
  refine ⟨a, e1, .inl ⟨_, e2⟩, _, B, Hs1, sl1, tp ++ nw1, _, R1, hw1, fun ri vi Hs2 H2 sl2 nw2 R2 rr2 st2 hw2 => ⟨_, B, Hs2, sl2, tp ++ nw1 ++ nw2, _, R2, hw2, fun rd vd Hs3 H3 sl3 nw3 R3 rr3 st3 hw3 => ?_⟩⟩
  have rr1' := (rr1.stay R1 R2 st2 (fun z => by rw [z]; rfl)).stay R2 R3 st3 (fun z => by rw [z]; rfl)
  have rr2' := rr2.stay R2 R3 st3 (fun z => by rw [z]; simp)
  have st : Stp false H H3 sl sl3 := (st1.trans st2 (fun z => by cases z)).trans st3 (fun z => by cases z)
  unfold dpopW at hw3
  obtain ⟨i, qq, t, a', ks, us, rfl, hnw, h1, h2, e1', hP⟩ := atDict_ok rr1'.weak hw3
  rw [e1] at e1'
  cases e1'
  subst hnw
  have R3' : Rel X.K ⟨B, Γ.pin⟩ Hs3 H3 σ sl3 (tp ++ (nw2 ++ nw3)) := by
    rw [List.append_nil, List.append_assoc] at R3
    exact R3
  have o := TA.at_ok qq t _ h2 (R3'.slot_ok h1)
  rw [TA.ok] at o
  obtain ⟨⟨o1, o2⟩, o3⟩ := o
  split at hP
  · rename_i y z hy hz
    have dy := (rr2'.dpT (tp := tp) (by
      refine R3'.tempsS (TA.okl_append.mpr ⟨(TA.okl_append.mp R3'.okT).1, (TA.okl_append.mp (TA.okl_append.mp R3'.okT).2).1⟩) ?_
      rw [TA.fpl_append, TA.fpl_append, TA.fpl_append]
      exact List.Sublist.append (List.Sublist.refl _) (List.sublist_append_left _ _)) hy).1
    have dz := (rr3.dpT (tp := tp ++ [] ++ nw2) R3 hz).1
    split at hP
    · rename_i kk hkk
      have ey := dkey_v hkk dy
      refine ⟨ks.zip (us.map TA.v), kk, o2, ey, ?_, ?_⟩
      · intro v hv
        split at hP
        · rename_i j hj
          obtain ⟨hn, hP⟩ := hP
          obtain ⟨⟨w, g1, g2⟩, g3⟩ := zip_drop kk hn o1 hj
          rw [g2] at hv
          cases hv
          rw [g3]
          rw [tl_get] at hP
          rw [List.getElem?_map] at g1
          obtain ⟨c, hc, rfl⟩ := Option.map_eq_some_iff.mp g1
          rw [hc] at hP
          simp only [Option.map_some] at hP
          cases c with
          | dead _ => rw [TA.t] at hP; exact hP.elim
          | nd _ _ _ => rw [TA.t] at hP; exact hP.elim
          | d w x =>
            rw [TA.t] at hP
            simp only at hP
            have rp : Rp X.K Hs3 w x := by
              have := TA.okl_all.mp o3 _ (List.mem_of_getElem? hc)
              rw [TA.ok] at this
              exact this
            have n := TA.at_noTup qq t _ h2 (R3'.ntup t (List.mem_of_getElem? h1))
            rw [TA.noTup, Bool.and_eq_true] at n
            have uq0 : (TA.fpl us).Nodup := by
              have hu := R3'.uq
              obtain ⟨l1, l2, f1, f2⟩ := Rel.lens (tp := tp ++ (nw2 ++ nw3)) h1 h2
              rw [f1] at hu
              have nm := nodup_mid hu
              rw [TA.fp, List.nodup_cons] at nm
              exact nm.2.1.2
            have sb : (TA.fpl (us.eraseIdx j)).Sublist (TA.fpl us) := fpl_sub (List.eraseIdx_sublist _ _)
            obtain ⟨r1, r2⟩ := Rel.chgK (kd' := .dict (ks.eraseIdx j)) (o := .dK ((ks.eraseIdx j).zip ((us.eraseIdx j).map TA.v))) (us' := us.eraseIdx j) R3' h1 h2 rfl ⟨by rw [List.length_map, List.length_eraseIdx, List.length_eraseIdx]; rw [List.length_map] at o1; rw [o1], upd_same⟩
              (TA.okl_all.mpr fun u hu => TA.okl_all.mp o3 u (List.mem_of_mem_eraseIdx hu)) (fun c hc => .inl (sb.subset hc)) (sb.nodup uq0) (TA.noTupl_all.mpr fun u hu => TA.noTupl_all.mp n.2 u (List.mem_of_mem_eraseIdx hu))
            rw [← tl_erase, ← r2] at hP
            rw [show (us.map TA.v).eraseIdx j = (us.eraseIdx j).map TA.v from (map_erase ..).symm]
            exact Cont.leaf hk r1 rp (st.trans (stp_put h1 h2 rfl rfl) id) hP
        · rename_i hj
          rw [zip_no kk hj] at hv
          cases hv
      · intro hv
        split at hP
        · rename_i j hj
          obtain ⟨hn, hP⟩ := hP
          obtain ⟨⟨w, g1, g2⟩, g3⟩ := zip_drop kk hn o1 hj
          rw [g2] at hv
          cases hv
        · exact Cont.leaf hk (R3'.drop) dz st hP
    · exact hP.elim
  · exact hP.elim
end
end VL
set_option Elab.async false
set_option linter.all false
set_option maxRecDepth 100000
set_option maxHeartbeats 4000000
/-! VD4: a comprehension over the keys of a dict. -/
namespace VL
open PySem PySem.Spec PyProof.Rows L2
/-- the slots of one turn: all away but one -/
def aloneA (n i : Nat) (v : V) (x : PyData) : List TA := (List.replicate n (TA.dead .non)).set i (.d v x)
theorem alone_tl (n i : Nat) (v : V) (x : PyData) : TA.tl (aloneA n i v x) = (List.replicate n T.dead).set i (.d x) := by
  unfold aloneA
  rw [TA.tl_map, List.map_set, List.map_replicate]
  rfl
theorem alone_mem {n i : Nat} {v : V} {x : PyData} {t : TA} (h : t ∈ aloneA n i v x) : t = .dead .non ∨ t = .d v x := by
  rcases mem_set_or h with z | z
  · exact .inr z
  · exact .inl (List.mem_replicate.mp z).2
theorem alone_fp (n i : Nat) (v : V) (x : PyData) : TA.fpl (aloneA n i v x) = [] := by
  rw [TA.fpl_flat, List.flatMap_eq_nil_iff]
  intro t ht
  rcases alone_mem ht with rfl | rfl <;> rfl
theorem alone_rel {K : PySem.W.Frag} {ix : List Nat} {H : Hp} {σ : L2.St} {n i : Nat} {v : V} {x : PyData} (hi : i < n) (hl : σ.length = n) (hv : σ[i]? = some (some v)) (rp : Rp K (fun _ => none) v x) :
    Rel K ⟨⟨H, fun _ => none, [], []⟩, ix⟩ (fun _ => none) H σ (aloneA n i v x) [] := by
  refine ⟨?_, ?_, ?_, ?_, ?_, ?_, ?_, ?_, ?_, ?_, ?_, ?_⟩
  · unfold aloneA; rw [List.length_set, List.length_replicate, hl]
  · intro j t hj hd
    unfold aloneA at hj
    by_cases e : i = j
    · subst e
      rw [List.getElem?_set_self (by simpa using hi)] at hj
      cases hj
      exact hv
    · rw [List.getElem?_set_ne e, List.getElem?_replicate] at hj
      split at hj
      · cases hj; cases hd
      · cases hj
  · rw [List.append_nil]
    refine TA.okl_all.mpr fun t ht => ?_
    rcases alone_mem ht with rfl | rfl
    · rw [TA.ok]; trivial
    · rw [TA.ok]; exact rp
  · rw [List.append_nil, alone_fp]; exact List.nodup_nil
  · rw [List.append_nil, alone_fp]; intro a h; cases h
  · intro a o h; cases h
  · intro a o h _; exact h
  · rw [List.append_nil, alone_fp]; intro a h; cases h
  · intro a o h; cases h
  · intro a h; exact absurd rfl h
  · intro t ht
    rcases alone_mem ht with rfl | rfl <;> rfl
  · intro q hq; cases hq
theorem Rp.flat_up {K : PySem.W.Frag} {H H' : Hp} {v : V} {x : PyData} (h : Rp K H v x) (hf : flatD x = true) : Rp K H' v x := by
  cases h with
  | non => exact .non
  | bl b => exact .bl b
  | int i => exact .int i
  | str s => exact .str s
  | _ => simp [flatD] at hf
section
variable {X : Cx} {Γ : Ctx} {b : Blk} {k : Nat} {pos : Pos} {pu : Bool}
theorem lcd_read {i j n : Nat} {elt : E} {cond : List E} {ifs : List Expr} {scope : Scope} (C : CxOk X Γ b k)
    (hc : (ifs = [] ∧ cond = []) ∨ (∃ ec c, ifs = [ec] ∧ cond = [c] ∧ ∀ X', CxOk X' Γ (blkOf b scope) k → PTc X' Γ ec c)) : ∃ tt : TT, (∀ X', CxOk X' Γ (blkOf b scope) k → X'.K = X.K → PTs X' ifs tt) ∧
    ∀ (σ : L2.St) (H : Hp) (d : Addr) (o : Obj) (prs : List (Key × V)) (K : List PyData → Prop) (Q : VK), σ.length = n → i < n → σ[j]? = some (some (.ref d)) → H d = some (.frz o (.dK prs)) →
      lcdW n i (fun σ3 Q => wC Γ true cond σ3 Q) (fun σ3 Q => wE Γ true elt σ3 Q) (prs.map fun p => keyD p.1) [] K →
      (∀ D acc vs H', H D = none → Same H H' → H' D = some (.lst vs) → RpAll X.K (fun _ => none) vs acc → K acc → Q (.ref D) H') →
      tLc (iKeys (tVar j)) (gName i) tt (LE X Γ.pin true (wE Γ true elt)) [i] σ H Q := by
  obtain ⟨tt, htt, hcond⟩ : ∃ tt : TT, (∀ X', CxOk X' Γ (blkOf b scope) k → X'.K = X.K → PTs X' ifs tt) ∧ ∀ (B : B0) Hs H σ sl tp (P : Bool → St → Prop) (Q : Bool → Hp → Prop), Rel X.K ⟨B, Γ.pin⟩ Hs H σ sl tp → wC Γ true cond (TA.tl sl) P → (∀ c Hs' H' sl', Rel X.K ⟨B, Γ.pin⟩ Hs' H' σ sl' tp → Stp true H H' sl sl' → P c (TA.tl sl') → Q c H') → tt σ H Q := by
    rcases hc with ⟨rfl, rfl⟩ | ⟨ec, c, rfl, rfl, hc⟩
    · refine ⟨tYes, fun X' _ _ => pts_nil, fun B Hs H σ sl tp P Q R0 hw hk => ?_⟩
      rw [wC] at hw
      exact hk true Hs H sl R0 .refl hw
    · refine ⟨LR X Γ.pin true (wE Γ true c), fun X' C' eK => ?_, fun B Hs H σ sl tp P Q R0 hw hk => ?_⟩
      · have : LR X' Γ.pin true (wE Γ true c) = LR X Γ.pin true (wE Γ true c) := by unfold LR; rw [eK]
        rw [← this]
        exact pts_one (hc X' C' true)
      · rw [wC] at hw
        exact LR.of R0 hw.2 hk
  refine ⟨tt, htt, fun σ H d o prs K Q hσ hi hj hd hw hk => ⟨.ref d, hj, d, o, rfl, .inl ⟨prs, hd, fun D hD => ?_⟩⟩⟩
  have hDd : d ≠ D := fun z => by subst z; rw [hd] at hD; cases hD
  let Pv : Nat → Hp → Prop := fun m H2 => ∃ acc vs, Same H H2 ∧ H2 D = some (.lst vs) ∧ RpAll X.K (fun _ => none) vs acc ∧ lcdW n i (fun σ3 Q => wC Γ true cond σ3 Q) (fun σ3 Q => wE Γ true elt σ3 Q) ((prs.map fun p => keyD p.1).drop m) acc K
  refine ⟨fun m l H2 => l = prs.length - m ∧ m ≤ prs.length ∧ Pv m H2, ⟨prs.length, rfl, Nat.zero_le _, [], [], same_upd hD, upd_same, .nil, hw⟩, ?_⟩
  rintro m l H2 ⟨rfl, hle, acc, vs, hS, hDv, hR, hl⟩
  have hd2 : H2 d = some (.frz o (.dK prs)) := hS d _ hd
  by_cases hlt : m < prs.length
  · refine .inr ⟨⟨hd2, hlt⟩, Pv (m + 1), fun H' p => ⟨prs.length - (m + 1), by omega, rfl, hlt, p⟩, ?_⟩
    rintro v H3 ⟨rfl, kk, w, hkw, rfl⟩
    rw [List.drop_eq_getElem_cons (by simpa using hlt), lcdW] at hl
    obtain ⟨_, hl⟩ := hl
    have ek : (prs.map fun p => keyD p.1)[m]'(by simpa using hlt) = keyD kk := by
      rw [List.getElem_map]
      rw [List.getElem?_eq_getElem hlt] at hkw
      rw [Option.some.inj hkw]
    rw [ek, ← alone_tl n i (kV kk)] at hl
    show _ ∧ _
    refine ⟨?_, ?_⟩
    · show (((σ.set i none).set i (some (kV kk))).set i none) = σ.set i none
      rw [List.set_set, List.set_set]
    · have R1 : Rel X.K ⟨⟨H3, fun _ => none, [], []⟩, Γ.pin⟩ (fun _ => none) H3 (((wipe σ [i]).set i (some (kV kk)))) (aloneA n i (kV kk) (keyD kk)) [] :=
        alone_rel hi (by show (((σ.set i none)).set i _).length = n; rw [List.length_set, List.length_set, hσ]) (by show (((σ.set i none)).set i _)[i]? = _; rw [List.getElem?_set_self (by rw [List.length_set, hσ]; exact hi)]) (.key kk)
      refine hcond _ _ _ _ _ _ _ _ R1 hl fun c Hs4 H4 sl4 R4 st4 p4 => ?_
      have s4 := (st4.pure rfl).2
      cases c with
      | false =>
        simp only [br_f, Bool.false_eq_true, if_false] at p4 ⊢
        exact ⟨acc, vs, hS.trans s4, s4 _ _ hDv, hR, p4⟩
      | true =>
        simp only [br_t, if_true] at p4 ⊢
        refine ⟨_, Hs4, sl4, [], _, R4, p4, fun r y Hs5 H5 sl5 nw R5 rr st5 p5 => ?_⟩
        have s5 := (st5.pure rfl).2
        split at p5
        · rename_i x
          obtain ⟨hf, hz, p5⟩ := p5
          obtain ⟨z, rfl, ez, rfl, _⟩ := rr
          obtain ⟨w', rfl⟩ := ta_d ez
          have rp : Rp X.K Hs5 w' x := by
            have := R5.okT
            rw [List.nil_append, TA.okl, TA.ok] at this
            exact this.1
          have hl2 := hR.length
          refine ⟨vs, s5 _ _ (s4 _ _ hDv), by omega, acc ++ [x], vs ++ [w'], ?_, upd_same, hR.append (.cons (rp.flat_up hf) .nil), p5⟩
          intro z' o' hz'
          rw [upd_ne (fun e => by subst e; rw [hD] at hz'; cases hz')]
          exact s5 _ _ (s4 _ _ (hS _ _ hz'))
        · exact p5.elim
  · have : m = prs.length := by omega
    subst this
    rw [List.drop_of_length_le (by simp), lcdW] at hl
    exact .inl ⟨⟨hd2, Nat.le_refl _⟩, hk D acc vs H2 hD hS hDv hR hl⟩
theorem var_read {B : B0} {Hs H : Hp} {σ : L2.St} {sl tp : List TA} {j : Nat} {Kc : R → St → Prop} (R0 : Rel X.K ⟨B, Γ.pin⟩ Hs H σ sl tp) (hw : wE Γ pu (.var j) (TA.tl sl) Kc) : ∃ (ro : R) (v : V) (nw : List TA), Rel X.K ⟨B, Γ.pin⟩ Hs H σ sl (tp ++ nw) ∧ RR ro v sl nw ∧ σ[j]? = some (some v) ∧ Kc ro (TA.tl sl) := by
  rw [wE, tl_get] at hw
  cases e : sl[j]? with
  | none => rw [e] at hw; exact hw.elim
  | some t =>
    rw [e] at hw
    simp only [Option.map_some] at hw
    cases t with
    | dead v => rw [TA.t] at hw; exact hw.elim
    | d v y =>
      rw [TA.t] at hw
      have ok := R0.slot_ok e
      rw [TA.ok] at ok
      exact ⟨.v (.d y), v, [.d v y], R0.leaf ok, ⟨_, rfl, rfl, rfl, rfl⟩, R0.val j _ e rfl, hw⟩
    | nd kk a ts =>
      rw [TA.t] at hw
      exact ⟨.p j [], .ref a, [], by simpa using R0, ⟨rfl, _, _, e, rfl, rfl, rfl⟩, R0.val j _ e rfl, hw⟩
theorem le_lcd {i j : Nat} {x y : Str} {px py : Pos} {elt : E} {cond : List E} {e0 : Expr} {ifs : List Expr} {scope : Scope} (C : CxOk X Γ b k) (hblk : blkC b.N b.sc scope (ownOf b.N [i]) = true) (hown : (ownOf b.N [i]).map (·.2) = [i])
    (htg : tgB (blkOf b scope) i x = true) (hv : varB b j y = true) (he : ∀ X', CxOk X' Γ (blkOf b scope) k → PEc X' Γ e0 elt)
    (hc : (ifs = [] ∧ cond = []) ∨ (∃ ec c, ifs = [ec] ∧ cond = [c] ∧ ∀ X', CxOk X' Γ (blkOf b scope) k → PTc X' Γ ec c)) : PE X (.ListComp e0 [⟨.Name x px, .Name y py, ifs, 0⟩] scope pos) (LE X Γ.pin pu (wE Γ pu (.lcd i elt (.var j) cond))) := by
  have hN : X.N.Nodup := by rw [C.N]; exact C.nd
  have hblk' : BlkOk X.N X.env.scope scope (ownOf b.N [i]) := by rw [C.N, C.sc]; exact blkOk_by hblk
  have hvis := hv
  unfold varB at hvis
  simp only [Bool.and_eq_true, decide_eq_true_eq] at hvis
  obtain ⟨v1, v2, _⟩ := okNm_of hvis.2
  have htg' := htg
  unfold tgB at htg'
  rw [Bool.and_eq_true, decide_eq_true_eq] at htg'
  refine ⟨fun pins s σ H Q I hw => ?_⟩
  have hlen : σ.length = X.N.length := I.len
  obtain ⟨tt, htt, hr⟩ := lcd_read (X := X) (i := i) (j := j) (n := σ.length) (elt := elt) C hc
  have core : ∀ (H' : Hp) (Q' : VK) (s' : Shared), Inv X pins σ H' s' → tLc (iKeys (tVar j)) (gName i) tt (LE X Γ.pin true (wE Γ true elt)) [i] σ H' Q' → wpAny (model X.prog X.w) X.A (eval (.ListComp e0 [⟨.Name x px, .Name y py, ifs, 0⟩] scope pos) X.env) (EP X pins σ Q') X.xe s' := fun H' Q' s' I' hw' => by
    refine (pe_lc (own := ownOf b.N [i]) (wi := iKeys (tVar j)) (g := gName i) (tt := tt) (te := LE X Γ.pin true (wE Γ true elt)) C.calm hN (pi_keys (pe_var (by rw [C.N]; exact hvis.1.1) (C.vis hvis.1.2) v1 v2)) hblk' (fun s' H' C0 cl fp => ?_) (fun s' H' C0 cl fp => htt _ (C.blk s' H' scope cl C0 fp) rfl) (fun s' H' C0 cl fp => he _ (C.blk s' H' scope cl C0 fp) true)).run pins s' σ H' Q' I' (by rw [hown]; exact hw')
    have Cb := C.blk s' H' scope cl C0 fp
    have lo := Cb.loc htg'.2
    exact pg_name hN (by rw [C.N]; exact htg'.1) lo.1 lo.2
  obtain ⟨B, Hs, sl, tp, P, R0, hw, hk⟩ := hw
  rw [wE] at hw
  -- the dict
  obtain ⟨ro, a, nw, R1, rr1, hσj, hw⟩ := var_read R0 hw
  split at hw
  · rename_i kds hdt
    obtain ⟨d, ks, xs, ds, rfl, e2, e3, rfl, e5⟩ := rr1.dvk R1 hdt
    have hl5 := e5.length
    have hi : i < σ.length := by
      rw [hlen, C.N]
      exact (List.getElem?_eq_some_iff.mp htg'.1).1
    have ekeys : ((ks.zip ds).map fun p => keyD p.1) = (ks.zip xs).map fun p => keyD p.1 := by
      rw [show (fun p : Key × PyData => keyD p.1) = keyD ∘ Prod.fst from rfl, show (fun p : Key × V => keyD p.1) = keyD ∘ Prod.fst from rfl, ← List.map_map, ← List.map_map, List.map_fst_zip (by omega), List.map_fst_zip (by omega)]
    have hsl : (TA.tl sl).length = σ.length := by rw [tl_len, R0.len]
    rw [ekeys, hsl] at hw
    have fin : ∀ (D : Addr) (acc : List PyData) (vs : List V) (H' : Hp), H D = none → Same H H' → H' D = some (.lst vs) → RpAll X.K (fun _ => none) vs acc → P (.v (.nd .list (acc.map .d))) (TA.tl sl) → Q (.ref D) H' := by
      intro D acc vs H' hD hS hDv hR hP
      let H3 : Hp := fun c => if c = D then none else H' c
      have hS3 : Same H H3 := fun c o hc => by
        show (if c = D then none else H' c) = some o
        rw [if_neg (fun e => by subst e; rw [hD] at hc; cases hc)]
        exact hS c o hc
      have hD3 : H3 D = none := if_pos rfl
      have e3 : upd H3 D (.lst vs) = H' := by
        funext c
        by_cases e : c = D
        · subst e; rw [upd_same, hDv]
        · rw [upd_ne e]; exact if_neg e
      have hR' : RpAll X.K Hs vs acc := RpAll.mono (fun _ _ h => by cases h) hR
      obtain ⟨l1, l2, l3, l4⟩ := leafs_ok (H := H3) hR'
      have := Cont.lst (as := leafs vs acc) hk ((R0.grow hS3).leaves l1 l2) hD3 (Stp.same hS3) (by rw [l3]; exact hP)
      rw [l4, e3] at this
      exact this
    rcases e2 with e2 | ⟨o, e2⟩
    · obtain ⟨od, I1⟩ := I.lock e2 (show Mut (some (.dK (ks.zip xs))) from trivial)
      have hne : ∀ c, H c = none → c ≠ d := fun c hc z => by subst z; rw [e2] at hc; cases hc
      refine thn (core _ (fun v H' => H' d = some (.frz od (.dK (ks.zip xs))) ∧ Q v (upd H' d (.dK (ks.zip xs)))) s I1 (hr σ _ d od (ks.zip xs) _ _ rfl hi hσj upd_same hw fun D acc vs H' hD hS hDv hR hP => ?_)) fun v s1 ⟨z, H1, I2, r, e4, q⟩ => ⟨z, _, I2.unlock e4 (I.nofrz e2 trivial), r, q⟩
      have hDd : D ≠ d := fun z => by subst z; rw [upd_same] at hD; cases hD
      rw [upd_ne hDd] at hD
      refine ⟨hS d _ upd_same, fin D acc vs _ hD (fun c oc hc => ?_) (by rw [upd_ne hDd]; exact hDv) hR hP⟩
      by_cases e : c = d
      · subst e; rw [e2] at hc; cases hc; rw [upd_same]
      · rw [upd_ne e]; exact hS c oc (by rw [upd_ne e]; exact hc)
    · exact core H Q s I (hr σ H d o (ks.zip xs) _ Q rfl hi hσj e2 hw fun D acc vs H' hD hS hDv hR hP => fin D acc vs H' hD hS hDv hR hP)
  · exact hw.elim
end
end VL
set_option Elab.async false
set_option linter.all false
set_option maxRecDepth 100000
set_option maxHeartbeats 4000000
/-! VC1: objects: fields, methods, making. -/
namespace VL
open PySem PySem.Spec PyProof.Rows L2
section
variable {X : Cx} {CX : CXT} {k : Nat} {f C : Addr} {fd : FuncData} {ps : List Str} {sp : Sp} {dvs : List V} {ds : List Value} {E : XK} {x m : Str} {p pos apos : Pos} {e o : Expr} {es : List Expr} {ta : TE} {t : L2.TA}
theorem pe_methG {pl : Sem Bool} (he : PE X o ta) (c : Cls X.K C) (hm : Meth X.K C m f) (F : FnG X.prog X.w X.K X.mg X.base CX k f fd ps sp) (hr : Room k X.A) (hgd : X.A.guards = some []) (hb : Binds X.K fd ps ds) (hd : Vals dvs ds) (hx : Passes CX X E) (ha : PA X (e :: es) t)
    (hst : starEach (e :: es) X.env = (false, eval e X.env) :: starEach es X.env) (hpl : (backTo pos (starEach es X.env)).any (·.1) = false)
    (ht : eval (.Call (.Attribute o m apos) (e :: es) [] pos) X.env = (eval o X.env >>= fun ov => standAt apos.atName >>= fun _ => holding [ov] (getMethod ov m pl) >>= fun g => callWith pos g.1 g.2 (backTo pos (starEach (e :: es) X.env)) (backToKw pos (keywordEach [] X.env)))) :
    PE X (.Call (.Attribute o m apos) (e :: es) [] pos) (tMeth C m sp dvs E ta t) := ⟨fun pins s σ H Q I h => by
  refine PySem.W.methodCall_KW (pl := pl) (thn (he.run pins s σ H _ I h) ?_) ht
  rintro u s1 ⟨_, H1, I1, rx, a, dx, fs, rfl, ea, nofield, q⟩
  cases (show u = Value.ref a from rx)
  refine getmeth_ok I1 ea c hm nofield (PySem.W.callWith_K (first := [.ref a]) (h₀ := X.base) I.ok.mod.kin hm.kp (thn (ha.run pos pins s1 σ H1 _ I1 q) ?_) hst hpl)
  rintro us s2 ⟨vs, H2, I2, r, q2⟩
  exact ⟨I2.kIn, runG (us := .ref a :: us) (vs := .ref a :: vs) F hr hgd hb hd hx I2 (.cons rfl r) q2⟩⟩
theorem pe_meth0G {pl : Sem Bool} (he : PE X o ta) (c : Cls X.K C) (hm : Meth X.K C m f) (F : FnG X.prog X.w X.K X.mg X.base CX k f fd ps sp) (hr : Room k X.A) (hgd : X.A.guards = some []) (hb : Binds X.K fd ps ds) (hd : Vals dvs ds) (hx : Passes CX X E)
    (ht : eval (.Call (.Attribute o m apos) [] [] pos) X.env = (eval o X.env >>= fun ov => standAt apos.atName >>= fun _ => holding [ov] (getMethod ov m pl) >>= fun g => callWith pos g.1 g.2 (backTo pos (starEach [] X.env)) (backToKw pos (keywordEach [] X.env)))) :
    PE X (.Call (.Attribute o m apos) [] [] pos) (tMeth C m sp dvs E ta tNil) := ⟨fun pins s σ H Q I h => by
  refine PySem.W.methodCall_KW (pl := pl) (thn (he.run pins s σ H _ I h) ?_) ht
  rintro u s1 ⟨_, H1, I1, rx, a, dx, fs, rfl, ea, nofield, q⟩
  cases (show u = Value.ref a from rx)
  exact getmeth_ok I1 ea c hm nofield (PySem.W.callWith_K0 (first := [.ref a]) I1.kIn hm.kp (runG (us := [.ref a]) (vs := [.ref a]) F hr hgd hb hd hx I1 (.cons rfl .nil) q))⟩
/-- a class is called -/
theorem makeG {pins : List (Addr × Obj)} {σ : L2.St} {H : Hp} {s : Shared} {Q : VK} {us : List Value} {vs : List V} (M : Mk X.K C f) (F : FnG X.prog X.w X.K X.mg X.base CX k f fd ps sp) (hr : Room (k + 1) X.A) (hgd : X.A.guards = some []) (hb : Binds X.K fd ps ds) (hd : Vals dvs ds)
    (hx : Passes CX X E) (I : Inv X pins σ H s) (r : Vals vs us)
    (h : ∀ x dx, H x = none → H dx = none → dx ≠ x → sp (.ref x :: (vs ++ dvs)) (upd (upd H dx (.own x)) x (.ins C dx [])) (fun v H2 => v = .non ∧ Q (.ref x) H2) E) :
    wpAny (model X.prog X.w) X.A (call (.ref C) us) (EP X pins σ Q) X.xe s := by
  have now := h (s.heap.objs.size + 1) s.heap.objs.size (I.hok.fresh (Nat.le_succ _)) (I.hok.fresh (Nat.le_refl _)) (Nat.ne_of_lt (Nat.lt_succ_self _))
  have J := Inv.made (C := C) I
  have both : Vals (V.ref (s.heap.objs.size + 1) :: (vs ++ dvs)) (Value.ref (s.heap.objs.size + 1) :: (us ++ ds)) := .cons rfl (r.append hd)
  have many : (Value.ref (s.heap.objs.size + 1) :: us ++ ds).length = ps.length := by
    rw [List.cons_append, ← both.length]
    exact F.len _ _ _ _ now
  have run := F.run _ X.stack _ _ ⟨Value.ref (s.heap.objs.size + 1) :: us, []⟩ (Value.ref (s.heap.objs.size + 1) :: (us ++ ds)) _ _ E (hr.make C us []) (by exact hgd) (J.env0.make C us []) (hb _ (Value.ref (s.heap.objs.size + 1) :: us) J.kIn many) both now
  refine wpAny_call (make_map (f := f) I.kIn M.makes M.init (beq_iff_eq.mp M.fn) (codeAny_mono run fun res s' z => ?_))
  match res, z with
  | .error e, z => exact hx pins σ _ _ e s' J z
  | .ok (.ret u), z =>
    obtain ⟨_, H', J', rv, rfl, q⟩ := J.after z
    exact ⟨rv, ⟨V.ref (s.heap.objs.size + 1), H', J', rfl, q⟩⟩
theorem pe_makeG (M : Mk X.K C f) (F : FnG X.prog X.w X.K X.mg X.base CX k f fd ps sp) (hr : Room (k + 1) X.A) (hgd : X.A.guards = some []) (hg : Gl X x) (hm : X.mg x = some (.ref C)) (hb : Binds X.K fd ps ds) (hd : Vals dvs ds) (hx : Passes CX X E)
    (ha : PA X (e :: es) t) (hdb : (x == ("__debug__" : Str)) = false) (he : starEach (e :: es) X.env = (false, eval e X.env) :: starEach es X.env) (hpl : (backTo pos (starEach es X.env)).any (·.1) = false) : PE X (.Call (.Name x p) (e :: es) [] pos) (tMake C sp dvs E t) :=
  ⟨fun pins s σ H Q I h => wpAny_Call_Name_kw (ld_glob I hg hm (PySem.W.callWith_K (h₀ := X.base) I.ok.mod.kin M.kp (thn (ha.run pos pins s σ H _ I h) fun us s1 ⟨vs, H1, I1, r, q⟩ => ⟨I1.kIn, makeG M F hr hgd hb hd hx I1 r q⟩) he hpl) hdb)⟩
theorem pe_make0G (M : Mk X.K C f) (F : FnG X.prog X.w X.K X.mg X.base CX k f fd ps sp) (hr : Room (k + 1) X.A) (hgd : X.A.guards = some []) (hg : Gl X x) (hm : X.mg x = some (.ref C)) (hb : Binds X.K fd ps ds) (hd : Vals dvs ds) (hx : Passes CX X E) (hdb : (x == ("__debug__" : Str)) = false) : PE X (.Call (.Name x p) [] [] pos) (tMake C sp dvs E tNil) :=
  ⟨fun pins s σ H Q I h => wpAny_Call_Name_kw (ld_glob I hg hm (PySem.W.callWith_K0 I.kIn M.kp (makeG (us := []) M F hr hgd hb hd hx I .nil h)) hdb)⟩
end
end VL
set_option Elab.async false
set_option linter.all false
set_option maxRecDepth 100000
set_option maxHeartbeats 4000000
/-! VC2: objects, sound. -/
namespace VL
open PySem PySem.Spec PyProof.Rows L2
theorem look_map {α β : Type} (g : α → β) (c : Str) : ∀ l : List (Str × α), (l.map fun p => (p.1, g p.2)).lookup c = (l.lookup c).map g
  | [] => rfl
  | (d, x) :: l => by
    rw [List.map_cons, List.lookup_cons, List.lookup_cons]
    cases c == d with
    | true => rfl
    | false => exact look_map g c l
theorem sk_cls (Γ : Ctx) (c : Str) : Γ.sk.cls.lookup c = (Γ.cls.lookup c).map fun ci => (ci.mt.map (·.1), ci.fld) := by
  unfold Ctx.sk
  exact look_map (fun ci : CI => (ci.mt.map (fun x : Str × FS => x.1), ci.fld)) c Γ.cls
theorem clsHas_of {Γ : Ctx} {c a : Str} {ci : CI} (h : clsHas Γ.sk c a = true) (e : Γ.cls.lookup c = some ci) : a ∈ ci.fld := by
  unfold clsHas at h
  rw [sk_cls, e] at h
  simpa using h
theorem clsMth_of {Γ : Ctx} {c m : Str} (h : clsMth Γ.sk c m = true) : ∃ ci fs, Γ.cls.lookup c = some ci ∧ ci.mt.lookup m = some fs := by
  unfold clsMth at h
  rw [sk_cls] at h
  cases e : Γ.cls.lookup c with
  | none => rw [e] at h; cases h
  | some ci =>
    rw [e] at h
    obtain ⟨fs, hfs⟩ := Option.isSome_iff_exists.mp (fn_some (l := ci.mt) (f := m) h)
    exact ⟨ci, fs, rfl, hfs⟩
theorem zip_look {a : Str} : ∀ {ns : List Str} {vs : List V} {j : Nat}, ns.length = vs.length → (ns.findIdx? fun n => n == a) = some j → ∃ v, vs[j]? = some v ∧ (ns.zip vs).lookup a = some v
  | [], vs, j, _, h => by simp at h
  | n :: ns, [], j, hl, _ => by simp at hl
  | n :: ns, v :: vs, j, hl, h => by
    rw [List.findIdx?_cons] at h
    rw [List.zip_cons_cons, List.lookup_cons]
    by_cases e : n = a
    · subst e
      simp only [beq_self_eq_true, if_true, Option.some.injEq] at h
      subst h
      exact ⟨v, rfl, by simp⟩
    · have e1 : (n == a) = false := by simpa using e
      have e2 : (a == n) = false := by simpa using fun z => e z.symm
      simp only [e1, Bool.false_eq_true, if_false, Option.map_eq_some_iff] at h
      obtain ⟨j, h, rfl⟩ := h
      obtain ⟨w, h1, h2⟩ := zip_look (by simpa using hl) h
      exact ⟨w, by simpa using h1, by rw [e2]; exact h2⟩
theorem zip_look0 {a : Str} : ∀ {ns : List Str} {vs : List V}, ns.contains a = false → (ns.zip vs).lookup a = none
  | [], vs, _ => by simp
  | n :: ns, [], _ => by simp
  | n :: ns, v :: vs, h => by
    rw [List.contains_cons, Bool.or_eq_false_iff] at h
    rw [List.zip_cons_cons, List.lookup_cons, h.1]
    exact zip_look0 h.2
theorem zip_put {a : Str} {y : V} : ∀ {ns : List Str} {vs : List V}, ns.length = vs.length → putF a y (ns.zip vs) = match ns.findIdx? fun n => n == a with
    | some j => ns.zip (vs.set j y)
    | none => (ns ++ [a]).zip (vs ++ [y])
  | [], [], _ => rfl
  | [], _ :: _, h => by simp at h
  | n :: ns, [], h => by simp at h
  | n :: ns, v :: vs, hl => by
    have ih := zip_put (a := a) (y := y) (ns := ns) (vs := vs) (by simpa using hl)
    rw [List.zip_cons_cons, putF, List.findIdx?_cons]
    by_cases e : n = a
    · subst e
      simp
    · have e1 : (n == a) = false := by simpa using e
      simp only [e, e1, if_false, Bool.false_eq_true]
      rw [ih]
      cases hh : ns.findIdx? fun n => n == a with
      | none => rfl
      | some j => rfl
theorem at_snoc {j : Nat} {k : Kd} {a : Addr} {us : List TA} {c : TA} (hc : us[j]? = some c) : ∀ (q : List Nat) (t : TA), t.at q = some (.nd k a us) → t.at (q ++ [j]) = some c
  | [], t, h => by
    rw [TA.at] at h
    cases h
    show (TA.nd k a us).at [j] = _
    simp only [TA.at, hc]
  | m :: q, t, h => by
    cases t with
    | dead => simp [TA.at] at h
    | d _ _ => simp [TA.at] at h
    | nd kk aa tt =>
      rw [List.cons_append]
      rw [TA.at] at h ⊢
      cases hm : tt[m]? with
      | none => rw [hm] at h; cases h
      | some b => rw [hm] at h; exact at_snoc hc q b h
theorem meth_eval {env : Env} {o : Expr} {m : Str} {apos pos : Pos} {es : List Expr} (hno : noCall o = true) (hst : es.all noStar = true) (hlen : es.length < 20) (hline : (apos.endLine == pos.line) = true) :
    eval (.Call (.Attribute o m apos) es [] pos) env = (eval o env >>= fun ov => standAt apos.atName >>= fun _ => holding [ov] (getMethod ov m (do return (← importBound o env).getD true)) >>= fun g => callWith pos g.1 g.2 (backTo pos (starEach es env)) (backToKw pos (keywordEach [] env))) := by
  rw [arm_eval_Call, base_of hno]
  have hf : methodCallForm (es.length + ([] : List Keyword).length) (backTo pos (starEach es env)) (backToKw pos (keywordEach [] env)) = true := by
    unfold methodCallForm
    rw [stars_all hst]
    have : (backToKw pos (keywordEach [] env)) = [] := rfl
    rw [this]
    simp
    omega
  congr 1
  funext ov
  congr 1
  funext _
  unfold methodCall
  rw [hf]
  unfold calleeOf
  rw [if_pos rfl]
  unfold methodCallPos
  simp [hline]
section
variable {X : Cx} {Γ : Ctx} {b : Blk} {k : Nat} {pos : Pos} {ea eo : Expr} {es : List Expr} {cs : List E} {o c0 : E} {pu : Bool} {c a m : Str}
theorem le_att (C : CxOk X Γ b k) (hc : clsHas Γ.sk c a = true) (hno : noCall eo = true) (ho : PEc X Γ eo o) : PE X (.Attribute eo a pos) (LE X Γ.pin pu (wE Γ pu (.att c a o))) := by
  refine ⟨fun pins s σ H Q I hw => ?_⟩
  obtain ⟨B, Hs, sl, tp, P, R0, hw, hk⟩ := hw
  rw [wE] at hw
  refine (pe_fld (ho pu) (base_of hno)).run pins s σ H Q I ⟨B, Hs, sl, tp, _, R0, hw, fun ro v Hs1 H1 sl1 nw1 R1 rr1 st1 p1 => ?_⟩
  unfold attW at p1
  split at p1
  · rename_i C0 ns ts e1
    obtain ⟨ad, us, rfl, e3, e4, e5, e6, e7⟩ := rr1.node R1 e1
    obtain ⟨el, dx, e4⟩ := e4
    split at p1
    · rename_i ci hci
      obtain ⟨rfl, p1⟩ := p1
      have ck := C.cls c ci hci
      have hfld := ck.fld a (clsHas_of hc hci)
      split at p1
      · rename_i j hj
        obtain ⟨w, g1, g2⟩ := zip_look (a := a) el hj
        refine ⟨ad, _, dx, _, w, rfl, e4, ck.cl, hfld, g2, ?_⟩
        have tj : ts[j]? = (us[j]?).map TA.t := by rw [← e3]; exact tl_get us j
        rw [List.getElem?_map] at g1
        obtain ⟨cc, hcc, rfl⟩ := Option.map_eq_some_iff.mp g1
        rw [tj, hcc] at p1
        simp only [Option.map_some] at p1
        cases cc with
        | dead _ => rw [TA.t] at p1; exact p1.elim
        | d w x =>
          rw [TA.t] at p1
          have okc := TA.okl_all.mp e5 _ (List.mem_of_getElem? hcc)
          rw [TA.ok] at okc
          exact Cont.leaf hk R1.drop okc st1 p1
        | nd k2 a2 us2 =>
          rw [TA.t] at p1
          cases ro with
          | v t =>
            have hn := e6 rfl
            subst hn
            exact hk (.v (.nd k2 (TA.tl us2))) _ Hs1 H1 sl1 [.nd k2 a2 us2] (R1.child hcc) ⟨_, rfl, by rw [TA.t], rfl, rfl⟩ st1 p1
          | p i0 q0 =>
            obtain ⟨t0, g3, g4⟩ := e7 i0 q0 rfl
            have hn : nw1 = [] := rr1.1
            subst hn
            exact hk (.p i0 (q0 ++ [j])) _ Hs1 H1 sl1 [] R1 ⟨rfl, t0, _, g3, at_snoc hcc q0 t0 g4, rfl, rfl⟩ st1 p1
      · exact p1.elim
    · exact p1.elim
  · exact p1.elim
theorem le_mcall {ap : Pos} (C : CxOk X Γ b k) (hc : clsMth Γ.sk c m = true) (hm : m ≠ "__init__") (hno : noCall eo = true) (hline : (ap.endLine == pos.line) = true) (hst : es.all noStar = true) (hlen : es.length < 20) (hcs : es = [] → cs = []) (ho : PEc X Γ eo o) (h : PAc X Γ es cs) : PE X (.Call (.Attribute eo m ap) es [] pos) (LE X Γ.pin pu (wE Γ pu (.mcall c m o cs))) := by
  obtain ⟨ci, fs, hci, hfs⟩ := clsMth_of hc
  have ck := C.cls c ci hci
  obtain ⟨f, fd, ps, M, F, hb⟩ := ck.mt m fs hfs hm
  refine ⟨fun pins s σ H Q I hw => ?_⟩
  obtain ⟨B, Hs, sl, tp, P, R0, hw, hk⟩ := hw
  rw [wE] at hw
  have isin : ∀ {ro : R} {v : V} {Hs1 H1 : Hp} {sl1 nw1 : List TA}, Rel X.K ⟨B, Γ.pin⟩ Hs1 H1 σ sl1 (tp ++ nw1) → RR ro v sl1 nw1 → isinW Γ c m ro (TA.tl sl1) → ∃ ad dx flds, v = .ref ad ∧ H1 ad = some (.ins ci.C dx flds) ∧ flds.lookup m = none := by
    intro ro v Hs1 H1 sl1 nw1 R1 rr1 hi
    unfold isinW at hi
    split at hi
    · rename_i C0 ns ts e1
      obtain ⟨ad, us, rfl, e3, ⟨el, dx, e4⟩, e5, e6, e7⟩ := rr1.node R1 e1
      rw [hci] at hi
      obtain ⟨rfl, hi⟩ := hi
      exact ⟨ad, dx, _, rfl, e4, zip_look0 hi⟩
    · exact hi.elim
  cases es with
  | nil =>
    have hcs := hcs rfl
    subst hcs
    refine (pe_meth0G (E := E0) (ho pu) ck.cl M F C.room C.gd hb .nil pass0 (meth_eval hno hst hlen hline)).run pins s σ H Q I ⟨B, Hs, sl, tp, _, R0, hw, fun ro v Hs1 H1 sl1 nw1 R1 rr1 st1 p1 => ?_⟩
    obtain ⟨ad, dx, flds, g1, g2, g3⟩ := isin R1 rr1 p1.1
    have p2 := p1.2
    rw [wA] at p2
    unfold mcallW at p2
    rw [hci] at p2
    simp only at p2
    rw [hfs] at p2
    refine ⟨ad, dx, flds, g1, g2, g3, ?_⟩
    exact call_ok (E := E0) (nws := [nw1]) (by simpa using R1) (.cons rr1 .nil) st1 p2 hk
  | cons e es =>
    simp only [List.all_cons, Bool.and_eq_true] at hst
    have hall : (e :: es).all noStar = true := by simp only [List.all_cons, Bool.and_eq_true]; exact hst
    have ta : PA X (e :: es) (fun σ' H1 Q' => ∃ pu', LA X Γ.pin pu' (wA Γ pu' cs) σ' H1 Q') := ⟨fun pos pins s σ H Q I ⟨pu', h'⟩ => (h pu').run pos pins s σ H Q I h'⟩
    refine (pe_methG (E := E0) (ho pu) ck.cl M F C.room C.gd hb .nil pass0 ta (star_of hst.1) (stars_of hst.2) (meth_eval hno hall hlen hline)).run pins s σ H Q I ⟨B, Hs, sl, tp, _, R0, hw, fun ro v Hs1 H1 sl1 nw1 R1 rr1 st1 p1 => ?_⟩
    obtain ⟨ad, dx, flds, g1, g2, g3⟩ := isin R1 rr1 p1.1
    refine ⟨ad, dx, flds, g1, g2, g3, _, B, Hs1, sl1, tp ++ nw1, _, R1, p1.2, fun rs vs Hs2 H2 sl2 nws R2 rrs st2 p2 => ?_⟩
    unfold mcallW at p2
    rw [hci] at p2
    simp only at p2
    rw [hfs] at p2
    rw [List.append_nil]
    exact call_ok (E := E0) (nws := nw1 :: nws) (by rw [List.flatten_cons, ← List.append_assoc]; exact R2) (.cons (rr1.stay R1 R2 st2 (fun z => by rw [z]; simp)) rrs) (st1.trans st2 (fun z => by rw [z]; rfl)) p2 hk
/-- an object is made -/
theorem new_ok {B : Bs} {σ : L2.St} {C0 x : Addr} {md : List Md} {F : List T → (T → List T → Prop) → Prop} {Hs2 H0 H1 H2 : Hp} {sl sl2 tp : List TA} {nws : List (List TA)} {rs : List R} {vs : List V} {ts : List T} {fl pu : Bool} {P : R → St → Prop} {Q : VK} {E : XK}
    (R1 : Rel X.K B Hs2 H2 σ sl2 ((tp ++ [.nd (.inst C0 []) x []]) ++ nws.flatten)) (rr : RRs sl2 rs vs nws) (st : Stp pu H0 H1 sl sl2) (hx : H1 x = none) (h12 : Same H1 H2) (hps : passes md rs (TA.tl sl2) = some (ts, fl)) (hap : apart md rs = true) (hpu : pu = true → md.all (fun m => decide (m = .bor)) = true)
    (hF : F (.nd (.inst C0 []) [] :: ts) fun r us => r = .d .none ∧ match us with
      | s :: ts' => (fl = true → s.flat = true ∧ T.flatl ts' = true) ∧ P (.v s) (backs md rs ts' (TA.tl sl2))
      | [] => False)
    (hk : ∀ r v Hs' H' sl' nw, Rel X.K B Hs' H' σ sl' (tp ++ nw) → RR r v sl' nw → Stp pu H0 H' sl sl' → P r (TA.tl sl') → Q v H') : spV X.K (.own :: md) F (.ref x :: vs) H2 (fun v H' => v = .non ∧ Q (.ref x) H') E := by
  unfold apart at hap
  rw [Bool.and_eq_true] at hap
  obtain ⟨Hs', sl', gs, Y⟩ := prep R1 rr.weak hps (of_decide_eq_true hap.1) (fun i hi z => by
    have := List.all_eq_true.mp hap.2 i hi
    simp at this
    exact this z)
  have hA : ∀ a ∈ gs.flatMap Ag.A, a ∈ TA.fpl sl' := fun a ha => by
    obtain ⟨g, hg, hga⟩ := List.mem_flatMap.mp ha
    have := Y.ok g hg
    cases g with
    | leaf v x => simp [Ag.A] at hga
    | own c => simp [Ag.A] at hga
    | lend c x => exact this.2.2 a hga
  have hsA : ∀ a ∈ gs.flatMap Ag.A, Hs' a = none := fun a ha => Y.rel.out a (by rw [TA.fpl_append]; exact List.mem_append_left _ (hA a ha))
  have sm : Same Hs' (frzH Hs' H2 (gs.flatMap Ag.A)) := frzH_same hsA
  have hcs : TA.okl X.K Hs' H2 (gs.flatMap Ag.cs) := (TA.okl_append.mp Y.rel.okT).2
  have hs0 : (TA.nd (.inst C0 []) x []).ok X.K Hs' H2 := by
    have := (TA.okl_append.mp (TA.okl_append.mp Y.rel.okT).1).2
    rw [TA.okl] at this
    exact this.1
  have Yr : Rel X.K B Hs' H2 σ sl' (tp ++ (TA.nd (.inst C0 []) x [] :: gs.flatMap Ag.cs)) := by
    have := Y.rel
    rw [List.append_assoc] at this
    exact this
  have hfp : TA.fpl (TA.nd (.inst C0 []) x [] :: gs.map Ag.ta) = TA.fpl (TA.nd (.inst C0 []) x [] :: gs.flatMap Ag.cs) := by rw [TA.fpl, TA.fpl, Ag.fp gs]
  have ok : TA.okl X.K (frzH Hs' H2 (gs.flatMap Ag.A)) H2 (TA.nd (.inst C0 []) x [] :: gs.map Ag.ta) := TA.okl_all.mpr fun t ht => by
    rcases List.mem_cons.mp ht with rfl | ht
    · exact TA.ok_mono sm _ hs0 fun _ _ => rfl
    obtain ⟨g, hg, rfl⟩ := List.mem_map.mp ht
    have := Y.ok g hg
    cases g with
    | leaf v x => rw [Ag.ta, TA.ok]; exact Rp.mono sm this
    | own c => exact TA.ok_mono sm c (TA.okl_all.mp hcs c (List.mem_flatMap.mpr ⟨_, hg, by simp [Ag.cs]⟩)) fun _ _ => rfl
    | lend c x =>
      rw [Ag.ta, TA.ok]
      refine TA.reads sm c x (TA.ok_mono (Same.refl _) c this.1 fun a ha => ?_) this.2.1
      unfold frzH
      rw [if_pos (List.mem_flatMap.mpr ⟨_, hg, ha⟩)]
  have hv : (TA.nd (.inst C0 []) x [] :: gs.map Ag.ta).map TA.v = .ref x :: vs := by
    rw [List.map_cons, List.map_map]
    exact congrArg _ Y.v
  have R2 := Yr.enter hA ok hfp hv (fun t ht => by
    rcases List.mem_cons.mp ht with rfl | ht
    · rfl
    obtain ⟨g, hg, rfl⟩ := List.mem_map.mp ht
    have := Y.ok g hg
    cases g with
    | leaf v x => rfl
    | own c => exact this.1
    | lend c x => rfl)
  refine ⟨_, TA.nd (.inst C0 []) x [] :: gs.map Ag.ta, _, by simpa using Y.len, R2, hv, fun t ht => ?_, fun i t h1 h2 => ?_, by rw [TA.tl, TA.tl_map, List.map_map, show gs.map (TA.t ∘ Ag.ta) = ts from Y.tl]; exact hF, fun H' Hs'' as' r R3 hv' hd' hdr hP => ?_⟩
  · rcases List.mem_cons.mp ht with rfl | ht
    · rfl
    obtain ⟨g, hg, rfl⟩ := List.mem_map.mp ht
    have := Y.ok g hg
    cases g with
    | leaf v x => rfl
    | own c => exact this.2
    | lend c x => rfl
  · cases i with
    | zero => simp at h1
    | succ i =>
      rw [List.getElem?_cons_succ] at h1 h2
      rw [List.getElem?_map] at h2
      obtain ⟨g, hg, rfl⟩ := Option.map_eq_some_iff.mp h2
      have := Y.mode i g h1 hg
      cases g with
      | leaf v x => exact ⟨v, x, rfl⟩
      | own c => cases this
      | lend c x => exact ⟨c.v, x, rfl⟩
  · obtain ⟨hr, hP⟩ := hP
    cases as' with
    | nil => exact hP.elim
    | cons s us =>
      rw [List.map_cons, List.cons.injEq] at hv'
      rw [TA.tl] at hP
      obtain ⟨hfl, hP⟩ := hP
      obtain ⟨w, rfl⟩ := ta_d hr
      have hrn : w = .non := by
        have := R3.okT
        rw [TA.okl, TA.ok] at this
        exact this.1.none_v
      refine ⟨hrn, ?_⟩
      have flat : gs.flatMap Ag.A = [] ∨ ((TA.d w .none).t.flat = true ∧ T.flatl (TA.tl (s :: us)) = true) := by
        cases fl with
        | false =>
          refine .inl ?_
          rw [List.flatMap_eq_nil_iff]
          exact Y.none rfl
        | true =>
          refine .inr ⟨rfl, ?_⟩
          rw [TA.tl, T.flatl, (hfl rfl).1, (hfl rfl).2]
          rfl
      have R4 := Yr.leave hA hfp R3 flat
      have R5 : Rel X.K B (unfrz Hs'' (gs.flatMap Ag.A)) H' σ sl' ((tp ++ [s]) ++ us) := by
        have := R4.perm (tp' := ((tp ++ [s]) ++ us) ++ [.d w .none]) (by simp)
        exact this.drop
      have sd : s.isDead = false := hd' 0 s rfl rfl
      obtain ⟨sl3, R6, e1, e2, e3, e4⟩ := Y.back us _ H' (tp ++ [s]) hv'.2 (fun t ht => R3.ntup t (List.mem_cons_of_mem _ ht)) (fun i t h1 h2 => hd' (i + 1) t (by simpa using h1) (by simpa using h2)) R5
      rw [← hv'.1]
      refine hk (.v s.t) s.v _ H' sl3 [s] R6 ⟨s, rfl, rfl, rfl, sd⟩ (st.trans (pu' := pu) ⟨fun hp => ?_, e4⟩ id) (by rw [e1]; exact hP)
      have hall := hpu hp
      have hown : ∀ (ms : List Md) (rs : List R), ms.all (fun m => decide (m = .bor)) = true → ownPl ms rs = [] := by
        intro ms
        induction ms with
        | nil => intro rs _; cases rs <;> rfl
        | cons m ms ih =>
          intro rs hm
          simp only [List.all_cons, Bool.and_eq_true, decide_eq_true_eq] at hm
          cases rs with
          | nil => rw [hm.1]; rfl
          | cons r rs => rw [ownPl_cons, ih rs hm.2, hm.1]; rfl
      refine ⟨?_, fun a o ho => R3.keep a o (h12 a o ho) ?_⟩
      · apply List.ext_getElem?
        intro j
        exact e2 j (by rw [hown _ _ hall]; simp)
      · have hz : TA.fpl (gs.map Ag.ta) = [] := by
          have : ∀ (gs : List Ag), (∀ g ∈ gs, g.bor = true) → TA.fpl (gs.map Ag.ta) = [] := by
            intro gs
            induction gs with
            | nil => intro _; rfl
            | cons g gs ih =>
              intro hg
              rw [List.map_cons, TA.fpl, ih fun g' h' => hg g' (List.mem_cons_of_mem _ h')]
              have := hg g List.mem_cons_self
              cases g with
              | leaf v x => rfl
              | own c => cases this
              | lend c x => rfl
          refine this gs fun g hg => ?_
          obtain ⟨i, hi⟩ := List.getElem?_of_mem hg
          have hlen : gs.length = md.length := by
            have := Y.len
            rw [← Y.v, List.length_map] at this
            exact this
          have hil : i < md.length := by rw [← hlen]; exact (List.getElem?_eq_some_iff.mp hi).1
          refine Y.mode i g ?_ hi
          rw [List.getElem?_eq_getElem hil]
          have := List.all_eq_true.mp hall _ (List.getElem_mem hil)
          simp only [decide_eq_true_eq] at this
          rw [this]
        show a ∉ TA.fpl (TA.nd (.inst C0 []) x [] :: gs.map Ag.ta)
        rw [TA.fpl, hz, TA.fp, TA.fpl, List.append_nil, List.mem_singleton]
        exact fun z => by rw [z, hx] at ho; cases ho
theorem le_new {x : Str} {p0 : Pos} (C : CxOk X Γ b k) (hx : x = c) (hc : clsMth Γ.sk c "__init__" = true) (hg : globB b.sc x = true) (hn : okNm x = true) (hst : es.all noStar = true) (hcs : es = [] → cs = []) (h : PAc X Γ es cs) : PE X (.Call (.Name x p0) es [] pos) (LE X Γ.pin pu (wE Γ pu (.new c cs))) := by
  subst hx
  obtain ⟨ci, fs, hci, hfs⟩ := clsMth_of hc
  have ck := C.cls x ci hci
  obtain ⟨hmg, f, fd, ps, j, hj, M, F, hb⟩ := ck.ini fs hfs
  have hr : Room (j + 1) X.A := C.room.mono hj
  refine ⟨fun pins s σ H Q I hw => ?_⟩
  obtain ⟨B, Hs, sl, tp, P, R0, hw, hk⟩ := hw
  rw [wE] at hw
  have go : ∀ (rs : List R) (vs : List V) (Hs1 H1 : Hp) (sl1 : List TA) (nws : List (List TA)), Rel X.K ⟨B, Γ.pin⟩ Hs1 H1 σ sl1 (tp ++ nws.flatten) → RRs sl1 rs vs nws → Stp pu H H1 sl sl1 → newW Γ x pu rs (TA.tl sl1) P → ∀ y dx, H1 y = none → H1 dx = none → dx ≠ y → spV X.K fs.md fs.F (.ref y :: (vs ++ [])) (upd (upd H1 dx (.own y)) y (.ins ci.C dx [])) (fun v H2 => v = .non ∧ Q (.ref y) H2) E0 := by
    intro rs vs Hs1 H1 sl1 nws R1 rr st p1 y dx hy hdx hne
    rw [List.append_nil]
    unfold newW at p1
    rw [hci] at p1
    simp only at p1
    rw [hfs] at p1
    simp only at p1
    split at p1
    · rename_i md hmd
      split at p1
      · rename_i ts fl hps
        obtain ⟨hap, hpu, hF⟩ := p1
        rw [hmd]
        have hy2 : (upd H1 dx (.own y)) y = none := by rw [upd_ne (fun z => hne z.symm)]; exact hy
        have R2 := (R1.allocN hdx (.own y))
        have R3 : Rel X.K ⟨B, Γ.pin⟩ Hs1 (upd (upd H1 dx (.own y)) y (.ins ci.C dx [])) σ sl1 ((tp ++ nws.flatten) ++ [.nd (.inst ci.C []) y []]) := Rel.allocO (k := .inst ci.C []) (ts := []) (by rw [List.append_nil]; exact R2) hy2 ⟨rfl, dx, upd_same⟩
        have R4 := R3.perm (tp' := (tp ++ [.nd (.inst ci.C []) y []]) ++ nws.flatten) (by
          rw [List.append_assoc, List.append_assoc]
          exact List.Perm.append_left _ List.perm_append_comm)
        exact new_ok R4 rr st hy ((same_upd hdx).trans (same_upd hy2)) hps hap hpu hF hk
      · exact p1.elim
    · exact p1.elim
  cases es with
  | nil =>
    have hcs := hcs rfl
    subst hcs
    rw [wA] at hw
    exact (pe_make0G (E := E0) M F hr C.gd (C.gl hg) hmg hb .nil pass0 (okNm_of hn).1).run pins s σ H Q I (go [] [] Hs H sl [] (by simpa using R0) .nil .refl hw)
  | cons e es =>
    simp only [List.all_cons, Bool.and_eq_true] at hst
    exact (pe_makeG (E := E0) M F hr C.gd (C.gl hg) hmg hb .nil pass0 (h pu) (okNm_of hn).1 (star_of hst.1) (stars_of hst.2)).run pins s σ H Q I ⟨B, Hs, sl, tp, _, R0, hw, fun rs vs Hs1 H1 sl1 nws R1 rr st1 p1 => go rs vs Hs1 H1 sl1 nws R1 rr st1 p1⟩
end
end VL
set_option Elab.async false
set_option linter.all false
set_option maxRecDepth 100000
set_option maxHeartbeats 4000000
/-! VL19: every expression that the checker takes is sound. -/
namespace VL
open PySem PySem.Spec PyProof.Rows L2
structure Snd (X : Cx) (Γ : Ctx) (e : Expr) (c : E) : Prop where
  pe : PEc X Γ e c
  pt : PTc X Γ e c
  pw : ∀ op es pos, e = .BoolOp op es pos → PWc X Γ e c
theorem Snd.plain {X : Cx} {Γ : Ctx} {e : Expr} {c : E} (h : PEc X Γ e c) (he : ∀ whole, isTrue e X.env whole = (do let v ← whole; standAt e.pos; holding [v] (truthy v))) (hb : ∀ op es pos, e ≠ .BoolOp op es pos) : Snd X Γ e c :=
  ⟨h, fun _ => lr_plain h he, fun op es pos z => absurd z (hb op es pos)⟩
mutual
theorem sE (Γ : Ctx) (k : Nat) : ∀ (c : E) (b : Blk) (e : Expr) (X : Cx), CxOk X Γ b k → chk Γ.sk b c e = true → Snd X Γ e c
  | .var i, b, e, X, C, h => by
    unfold chk at h
    split at h
    · exact .plain (fun _ => le_var C h) (fun _ => rfl) (fun _ _ _ z => by cases z)
    · cases h
  | .k c, b, e, X, C, h => by
    unfold chk at h
    split at h
    · exact .plain (fun _ => le_k h) (fun _ => rfl) (fun _ _ _ z => by cases z)
    · cases h
  | .glob g, b, e, X, C, h => by
    unfold chk at h
    split at h
    · exact .plain (fun _ => le_glob C h) (fun _ => rfl) (fun _ _ _ z => by cases z)
    · cases h
  | .bin op p q, b, e, X, C, h => by
    unfold chk at h
    split at h
    · simp only [Bool.and_eq_true] at h
      obtain ⟨⟨h1, h2⟩, h3⟩ := h
      have e1 := bopIs_eq h1
      subst e1
      exact .plain (fun _ => le_bin (sE Γ k p b _ X C h2).pe (sE Γ k q b _ X C h3).pe) (fun _ => rfl) (fun _ _ _ z => by cases z)
    · cases h
  | .neg p, b, e, X, C, h => by
    unfold chk at h
    split at h
    · exact .plain (fun _ => le_neg (sE Γ k p b _ X C h).pe) (fun _ => rfl) (fun _ _ _ z => by cases z)
    · cases h
  | .not p, b, e, X, C, h => by
    unfold chk at h
    split at h
    · have ih := sE Γ k p b _ X C h
      exact ⟨fun _ => le_not ih.pe, fun _ => lr_not ih.pt, fun _ _ _ z => by cases z⟩
    · cases h
  | .cmp op p q, b, e, X, C, h => by
    unfold chk at h
    split at h
    · simp only [Bool.and_eq_true] at h
      obtain ⟨⟨⟨h1, h2⟩, h3⟩, h4⟩ := h
      have e1 := copIs_eq h1
      subst e1
      have i1 := (sE Γ k p b _ X C h3).pe
      have i2 := (sE Γ k q b _ X C h4).pe
      exact ⟨fun _ => le_cmp C h2 i1 i2, fun _ => lr_cmp C h2 i1 i2, fun _ _ _ z => by cases z⟩
    · cases h
  | .chain op op' p q r, b, e, X, C, h => by
    unfold chk at h
    split at h
    · simp only [Bool.and_eq_true] at h
      obtain ⟨⟨⟨⟨⟨⟨h1, h2⟩, h3⟩, h4⟩, h5⟩, h6⟩, h7⟩ := h
      have e1 := copIs_eq h1
      have e2 := copIs_eq h2
      subst e1 e2
      have i1 := (sE Γ k p b _ X C h5).pe
      have i2 := (sE Γ k q b _ X C h6).pe
      have i3 := (sE Γ k r b _ X C h7).pe
      exact ⟨fun _ => le_chain C h3 h4 i1 i2 i3, fun _ => lr_chain C h3 h4 i1 i2 i3, fun _ _ _ z => by cases z⟩
    · cases h
  | .and p q, b, e, X, C, h => by
    unfold chk at h
    split at h
    · rename_i e1 e2 es pos
      simp only [Bool.and_eq_true] at h
      have i1 := sE Γ k p b _ X C h.1
      have key : PEc X Γ (.BoolOp .And (e2 :: es) pos) q ∧ PWc X Γ (.BoolOp .And (e2 :: es) pos) q := by
        cases es with
        | nil =>
          have i2 := sE Γ k q b _ X C h.2
          exact ⟨fun pu => pe_one (i2.pe pu), fun pu => pw_and1 (i2.pt pu)⟩
        | cons e3 es =>
          have i2 := sE Γ k q b _ X C h.2
          exact ⟨i2.pe, i2.pw _ _ _ rfl⟩
      exact ⟨fun _ => le_and i1.pe key.1, fun _ => (lr_and i1.pt key.2).pt, fun _ _ _ _ _ => lr_and i1.pt key.2⟩
    · cases h
  | .or p q, b, e, X, C, h => by
    unfold chk at h
    split at h
    · rename_i e1 e2 es pos
      simp only [Bool.and_eq_true] at h
      have i1 := sE Γ k p b _ X C h.1
      have key : PEc X Γ (.BoolOp .Or (e2 :: es) pos) q ∧ PWc X Γ (.BoolOp .Or (e2 :: es) pos) q := by
        cases es with
        | nil =>
          have i2 := sE Γ k q b _ X C h.2
          exact ⟨fun pu => pe_one (i2.pe pu), fun pu => pw_or1 (i2.pt pu)⟩
        | cons e3 es =>
          have i2 := sE Γ k q b _ X C h.2
          exact ⟨i2.pe, i2.pw _ _ _ rfl⟩
      exact ⟨fun _ => le_or i1.pe key.1, fun _ => (lr_or i1.pt key.2).pt, fun _ _ _ _ _ => lr_or i1.pt key.2⟩
    · cases h
  | .ite c p q, b, e, X, C, h => by
    unfold chk at h
    split at h
    · simp only [Bool.and_eq_true] at h
      have i0 := sE Γ k c b _ X C h.1.1
      have i1 := sE Γ k p b _ X C h.1.2
      have i2 := sE Γ k q b _ X C h.2
      exact ⟨fun _ => le_ite i0.pt i1.pe i2.pe, fun _ => lr_ite i0.pt i1.pt i2.pt, fun _ _ _ z => by cases z⟩
    · cases h
  | .ix o i, b, e, X, C, h => by
    unfold chk at h
    split at h
    · simp only [Bool.and_eq_true] at h
      exact .plain (fun _ => le_ix h.1.1 (sE Γ k o b _ X C h.1.2).pe (sE Γ k i b _ X C h.2).pe) (fun _ => rfl) (fun _ _ _ z => by cases z)
    · cases h
  | .sl lo hi o es, b, e, X, C, h => by
    unfold chk at h
    split at h
    · simp only [Bool.and_eq_true] at h
      have i1 := (sE Γ k o b _ X C h.1).pe
      refine .plain (fun _ => le_sl i1 ?_) (fun _ => rfl) (fun _ _ _ z => by cases z)
      have h2 := h.2
      split at h2
      · simp only [Bool.and_eq_true, Bool.not_eq_true'] at h2
        obtain ⟨⟨h3, h4⟩, h5⟩ := h2
        have := (sL Γ k es b _ X C h5).2
        exact .inl ⟨rfl, rfl, h3, h4, by cases es with | nil => rfl | cons _ _ => cases this⟩
      · simp only [Bool.and_eq_true, Bool.not_eq_true'] at h2
        obtain ⟨⟨h3, h4⟩, h5⟩ := h2
        have := (sL Γ k es b _ X C h5).2
        cases this with
        | cons a b' =>
          cases b'
          exact .inr (.inl ⟨_, _, rfl, rfl, h3, h4, rfl, a.pe⟩)
      · simp only [Bool.and_eq_true, Bool.not_eq_true'] at h2
        obtain ⟨⟨h3, h4⟩, h5⟩ := h2
        have := (sL Γ k es b _ X C h5).2
        cases this with
        | cons a b' =>
          cases b'
          exact .inr (.inr (.inl ⟨_, _, rfl, rfl, h3, h4, rfl, a.pe⟩))
      · simp only [Bool.and_eq_true] at h2
        obtain ⟨⟨h3, h4⟩, h5⟩ := h2
        have := (sL Γ k es b _ X C h5).2
        cases this with
        | cons a b' =>
          cases b' with
          | cons a2 b2 =>
            cases b2
            exact .inr (.inr (.inr ⟨_, _, _, _, rfl, rfl, h3, h4, rfl, a.pe, a2.pe⟩))
    · cases h
  | .rev o, b, e, X, C, h => by
    unfold chk at h
    split at h
    · exact .plain (fun _ => le_rev (sE Γ k o b _ X C h).pe) (fun _ => rfl) (fun _ _ _ z => by cases z)
    · cases h
  | .lst es, b, e, X, C, h => by
    unfold chk at h
    split at h
    · exact .plain (fun _ => le_lst (sL Γ k es b _ X C h).1.2) (fun _ => rfl) (fun _ _ _ z => by cases z)
    · cases h
  | .tup es, b, e, X, C, h => by
    unfold chk at h
    split at h
    · exact .plain (fun _ => le_tup (sL Γ k es b _ X C h).1.2) (fun _ => rfl) (fun _ _ _ z => by cases z)
    · cases h
  | .call f es, b, e, X, C, h => by
    unfold chk at h
    split at h
    · simp only [Bool.and_eq_true, decide_eq_true_eq] at h
      obtain ⟨⟨⟨⟨h1, h2⟩, h3⟩, h4⟩, h5⟩ := h
      have i := (sL Γ k es b _ X C h5).1
      exact .plain (fun _ => le_call C h1 h2 h3 h4 i.1 i.2) (fun _ => rfl) (fun _ _ _ z => by cases z)
    · cases h
  | .blt t es, b, e, X, C, h => by
    unfold chk at h
    split at h
    · split at h
      · split at h
        · simp only [Bool.and_eq_true] at h
          have i := sL Γ k es b _ X C h.2
          have i2 := i.2
          cases i2 with
          | cons a b' =>
            cases b'
            have hst := i.1.1
            simp only [List.all_cons, Bool.and_eq_true] at hst
            exact .plain (fun _ => le_listRange C h.1.1 h.1.2 hst.1 i.1.2 ⟨_, rfl, a.pe⟩) (fun _ => rfl) (fun _ _ _ z => by cases z)
        · cases h
      · rename_i t hne
        simp only [Bool.and_eq_true] at h
        have i := (sL Γ k es b _ X C h.2).1
        exact .plain (fun _ => le_blt C hne h.1 i.1 i.2) (fun _ => rfl) (fun _ _ _ z => by cases z)
    · cases h
  | .isi p ty, b, e, X, C, h => by
    unfold chk at h
    split at h
    · simp only [Bool.and_eq_true] at h
      obtain ⟨⟨⟨⟨h1, h2⟩, h3⟩, h4⟩, h5⟩ := h
      exact .plain (fun _ => le_isi C h1 h2 h3 h4 (sE Γ k p b _ X C h5).pe) (fun _ => rfl) (fun _ _ _ z => by cases z)
    · cases h
  | .mth m o es, b, e, X, C, h => by
    unfold chk at h
    split at h
    · simp only [Bool.and_eq_true, decide_eq_true_eq] at h
      obtain ⟨⟨⟨⟨⟨h1, h2⟩, h3⟩, h4⟩, h5⟩, h6⟩ := h
      have i := sL Γ k es b _ X C h6
      exact .plain (fun _ => le_mth h1 h2 h3 h4 i.1.1 (sE Γ k o b _ X C h5).pe i.1.2 (fun z => by subst z; cases es with | nil => rfl | cons _ _ => cases i.2)) (fun _ => rfl) (fun _ _ _ z => by cases z)
    · cases h
  | .lc is bor elt it ies cond, b, e, X, C, h => by
    unfold chk at h
    split at h
    · simp only [Bool.and_eq_true, decide_eq_true_eq, beq_iff_eq] at h
      obtain ⟨⟨⟨⟨⟨⟨⟨⟨⟨⟨⟨h1, h2⟩, h3⟩, h4⟩, h5⟩, h6⟩, h7⟩, h8⟩, h9⟩, h10⟩, h11⟩, h12⟩ := h
      subst h1
      refine .plain (fun _ => le_lc C (fun i hi z => ?_) h3 h4 h5 h6 h7 (fun pu bor => sI Γ k it ies b _ X _ C h8 h12) (fun X' C' => (sE Γ k elt _ _ X' C' h9).pe) ?_) (fun _ => rfl) (fun _ _ _ z => by cases z)
      · have := List.all_eq_true.mp h2 i hi
        simp at this
        exact this z
      · rename_i ifs _ _ _
        cases ifs with
        | nil => exact .inl ⟨rfl, by cases cond with | nil => rfl | cons _ _ => simp [chkL] at h10⟩
        | cons ec ifs =>
          cases ifs with
          | cons _ _ => simp at h11
          | nil =>
            cases cond with
            | nil => simp [chkL] at h10
            | cons c cond =>
              cases cond with
              | cons _ _ => simp [chkL] at h10
              | nil =>
                refine .inr ⟨ec, c, rfl, rfl, fun X' C' => ?_⟩
                simp only [chkL, Bool.and_eq_true] at h10
                exact (sE Γ k c _ _ X' C' h10.1.2).pt
    · cases h
  | .rpr p, b, e, X, C, h => by
    unfold chk at h
    split at h
    · simp only [Bool.and_eq_true] at h
      exact .plain (fun _ => le_rpr C h.1.1 h.1.2 (sE Γ k p b _ X C h.2).pe) (fun _ => rfl) (fun _ _ _ z => by cases z)
    · cases h
  | .dct0, b, e, X, C, h => by
    unfold chk at h
    split at h
    · exact .plain (fun _ => le_dct0) (fun _ => rfl) (fun _ _ _ z => by cases z)
    · cases h
  | .dix o i, b, e, X, C, h => by
    unfold chk at h
    split at h
    · simp only [Bool.and_eq_true] at h
      exact .plain (fun _ => le_dix C h.1.1 (sE Γ k o b _ X C h.1.2).pe (sE Γ k i b _ X C h.2).pe) (fun _ => rfl) (fun _ _ _ z => by cases z)
    · cases h
  | .dgt o i, b, e, X, C, h => by
    unfold chk at h
    split at h
    · simp only [Bool.and_eq_true, decide_eq_true_eq] at h
      obtain ⟨⟨⟨⟨⟨h1, h2⟩, h3⟩, h4⟩, h5⟩, h6⟩ := h
      exact .plain (fun _ => le_dgt C h1 h2 h3 h4 (sE Γ k o b _ X C h5).pe (sE Γ k i b _ X C h6).pe) (fun _ => rfl) (fun _ _ _ z => by cases z)
    · cases h
  | .din neg i o, b, e, X, C, h => by
    unfold chk at h
    split at h
    · simp only [Bool.and_eq_true] at h
      obtain ⟨⟨⟨h1, h2⟩, h3⟩, h4⟩ := h
      have := copIs_eq h1
      subst this
      have hu := C.room.un
      have i1 := (sE Γ k i b _ X C h3).pe
      have i2 := (sE Γ k o b _ X C h4).pe
      exact ⟨fun _ => le_din C h2 i1 i2, fun _ => lr_din C h2 i1 i2, fun _ _ _ z => by cases z⟩
    · cases h
  | .dcp o, b, e, X, C, h => by
    unfold chk at h
    split at h
    · simp only [Bool.and_eq_true] at h
      exact .plain (fun _ => le_dcp C h.1.1 h.1.2 (sE Γ k o b _ X C h.2).pe) (fun _ => rfl) (fun _ _ _ z => by cases z)
    · cases h
  | .deq neg p q, b, e, X, C, h => by
    unfold chk at h
    split at h
    · simp only [Bool.and_eq_true] at h
      obtain ⟨⟨⟨h1, h2⟩, h3⟩, h4⟩ := h
      have := copIs_eq h1
      subst this
      have hu := C.room.un
      have i1 := (sE Γ k p b _ X C h3).pe
      have i2 := (sE Γ k q b _ X C h4).pe
      exact ⟨fun _ => le_deq C h2 i1 i2, fun _ => lr_deq C h2 i1 i2, fun _ _ _ z => by cases z⟩
    · cases h
  | .frz p, b, e, X, C, h => by
    unfold chk at h
    rw [Bool.and_eq_true] at h
    have i := (sE Γ k p b e X C h.2).pe
    have hp := h.1
    cases e <;> first | exact (Bool.noConfusion hp) | exact .plain (fun _ => le_frz i) (fun _ => rfl) (fun _ _ _ z => by cases z)
  | .mov i, b, e, X, C, h => by
    unfold chk at h
    cases h
  | .dpop o i d, b, e, X, C, h => by
    unfold chk at h
    split at h
    · simp only [Bool.and_eq_true, decide_eq_true_eq] at h
      obtain ⟨⟨⟨⟨⟨⟨⟨h1, h2⟩, h3⟩, h4⟩, h5⟩, h6⟩, h7⟩, h8⟩ := h
      exact .plain (fun _ => le_dpop C h1 h2 h3 h4 h5 (sE Γ k o b _ X C h6).pe (sE Γ k i b _ X C h7).pe (sE Γ k d b _ X C h8).pe) (fun _ => rfl) (fun _ _ _ z => by cases z)
    · cases h
  | .dsrt o, b, e, X, C, h => by
    unfold chk at h
    split at h
    · simp only [Bool.and_eq_true] at h
      exact .plain (fun _ => le_dsrt C h.1.1 h.1.2 (sE Γ k o b _ X C h.2).pe) (fun _ => rfl) (fun _ _ _ z => by cases z)
    · cases h
  | .dlst o, b, e, X, C, h => by
    unfold chk at h
    split at h
    · simp only [Bool.and_eq_true] at h
      exact .plain (fun _ => le_dlst C h.1.1 h.1.2 (sE Γ k o b _ X C h.2).pe) (fun _ => rfl) (fun _ _ _ z => by cases z)
    · cases h
  | .dlen o, b, e, X, C, h => by
    unfold chk at h
    split at h
    · simp only [Bool.and_eq_true] at h
      exact .plain (fun _ => le_dlen C h.1.1 h.1.2 (sE Γ k o b _ X C h.2).pe) (fun _ => rfl) (fun _ _ _ z => by cases z)
    · cases h
  | .lcd i elt o cond, b, e, X, C, h => by
    unfold chk at h
    split at h
    · rename_i e0 x px iter ifs a scope ps
      simp only [Bool.and_eq_true, decide_eq_true_eq, beq_iff_eq] at h
      obtain ⟨⟨⟨⟨⟨⟨⟨h1, h2⟩, h3⟩, h4⟩, h5⟩, h6⟩, h7⟩, h8⟩ := h
      subst h1
      have hc : (ifs = [] ∧ cond = []) ∨ (∃ ec c, ifs = [ec] ∧ cond = [c] ∧ ∀ X', CxOk X' Γ (blkOf b scope) k → PTc X' Γ ec c) := by
        cases ifs with
        | nil => exact .inl ⟨rfl, by cases cond with | nil => rfl | cons _ _ => simp [chkL] at h7⟩
        | cons ec ifs =>
          cases ifs with
          | cons _ _ => simp at h8
          | nil =>
            cases cond with
            | nil => simp [chkL] at h7
            | cons c cond =>
              cases cond with
              | cons _ _ => simp [chkL] at h7
              | nil =>
                refine .inr ⟨ec, c, rfl, rfl, fun X' C' => ?_⟩
                simp only [chkL, Bool.and_eq_true] at h7
                exact (sE Γ k c _ _ X' C' h7.1.2).pt
      have he := fun X' C' => (sE Γ k elt (blkOf b scope) e0 X' C' h6).pe
      unfold lcdV at h5
      split at h5
      · exact .plain (fun _ => le_lcd C h2 h3 h4 h5 he hc) (fun _ => rfl) (fun _ _ _ z => by cases z)
      · cases h5
    · cases h
  | .ddsp ks es, b, e, X, C, h => by
    unfold chk at h
    cases h
  | .dprs p, b, e, X, C, h => by
    unfold chk at h
    cases h
  | .mxd mx p, b, e, X, C, h => by
    unfold chk at h
    cases h
  | .lset p, b, e, X, C, h => by
    unfold chk at h
    cases h
  | .sset p, b, e, X, C, h => by
    unfold chk at h
    cases h
  | .att c a o, b, e, X, C, h => by
    unfold chk at h
    split at h
    · simp only [Bool.and_eq_true, decide_eq_true_eq] at h
      obtain ⟨⟨⟨rfl, h2⟩, h3⟩, h4⟩ := h
      exact .plain (fun _ => le_att C h2 h3 (sE Γ k o b _ X C h4).pe) (fun _ => rfl) (fun _ _ _ z => by cases z)
    · cases h
  | .mcall c m o es, b, e, X, C, h => by
    unfold chk at h
    split at h
    · simp only [Bool.and_eq_true, decide_eq_true_eq, Bool.not_eq_true', decide_eq_false_iff_not] at h
      obtain ⟨⟨⟨⟨⟨⟨⟨rfl, h2⟩, h3⟩, h4⟩, h5⟩, h6⟩, h7⟩, h8⟩ := h
      have i := sL Γ k es b _ X C h8
      exact .plain (fun _ => le_mcall C h3 h2 h4 h5 i.1.1 h6 (fun z => by subst z; cases es with | nil => rfl | cons _ _ => cases i.2) (sE Γ k o b _ X C h7).pe i.1.2) (fun _ => rfl) (fun _ _ _ z => by cases z)
    · cases h
  | .new c es, b, e, X, C, h => by
    unfold chk at h
    split at h
    · simp only [Bool.and_eq_true, decide_eq_true_eq] at h
      obtain ⟨⟨⟨⟨h1, h2⟩, h3⟩, h4⟩, h5⟩ := h
      have i := sL Γ k es b _ X C h5
      exact .plain (fun _ => le_new C h1 h2 h3 h4 i.1.1 (fun z => by subst z; cases es with | nil => rfl | cons _ _ => cases i.2) i.1.2) (fun _ => rfl) (fun _ _ _ z => by cases z)
    · cases h
theorem sL (Γ : Ctx) (k : Nat) : ∀ (cs : List E) (b : Blk) (es : List Expr) (X : Cx), CxOk X Γ b k → chkL Γ.sk b cs es = true → (es.all noStar = true ∧ PAc X Γ es cs) ∧ Paired (fun e c => Snd X Γ e c) es cs
  | [], b, es, X, C, h => by
    unfold chkL at h
    split at h
    · exact ⟨⟨rfl, lac_nil⟩, .nil⟩
    · cases h
  | c :: cs, b, es, X, C, h => by
    unfold chkL at h
    split at h
    · simp only [Bool.and_eq_true] at h
      have i1 := sE Γ k c b _ X C h.1.2
      obtain ⟨⟨i2, i3⟩, i4⟩ := sL Γ k cs b _ X C h.2
      exact ⟨⟨by simp only [List.all_cons, Bool.and_eq_true]; exact ⟨h.1.1, i2⟩, lac_cons h.1.1 i1.pe i3⟩, .cons i1 i4⟩
    · cases h
theorem sI (Γ : Ctx) (k : Nat) : ∀ (it : ItK) (cs : List E) (b : Blk) (e : Expr) (X : Cx) (tg : Expr) {pu bor : Bool}, CxOk X Γ b k → chkIt Γ.sk b it cs e = true → enB it tg = true → PI X tg e (LI X Γ.pin pu bor (wIt Γ pu bor it cs))
  | it, cs, b, e, X, tg, pu, bor, C, h, ht => by
    unfold chkIt at h
    split at h
    · rename_i as has
      have i := sL Γ k cs b _ X C h
      unfold itX at has
      split at has
      · cases has
        have i2 := i.2
        cases i2 with
        | cons a b2 => cases b2; exact li_e a.pe
      · split at has
        · split at has
          · rename_i hb
            cases has
            have hst := i.1.1
            simp only [List.all_cons, Bool.and_eq_true] at hst
            exact li_rng1 C hb hst.1 i.1.2
          · cases has
        · cases has
      · split at has
        · split at has
          · rename_i hb
            cases has
            have hst := i.1.1
            simp only [List.all_cons, Bool.and_eq_true] at hst
            exact li_rng2 C hb hst.1 hst.2.1 i.1.2
          · cases has
        · cases has
      · split at has
        · split at has
          · rename_i hb
            cases has
            have hst := i.1.1
            simp only [List.all_cons, Bool.and_eq_true] at hst
            exact li_rng3 C hb hst.1 hst.2.1 hst.2.2.1 i.1.2
          · cases has
        · cases has
      · split at has
        · split at has
          · rename_i hb
            cases has
            simp only [Bool.and_eq_true] at hb
            have hst := i.1.1
            simp only [List.all_cons, Bool.and_eq_true] at hst
            have i2 := i.2
            cases i2 with
            | cons a b2 => cases b2; exact li_rrng C hb.1 hb.2 hst.1 a.pe
          · cases has
        · cases has
      · split at has
        · split at has
          · rename_i hb
            cases has
            have hst := i.1.1
            simp only [List.all_cons, Bool.and_eq_true] at hst
            unfold enB at ht
            split at ht
            · exact li_enum C hb hst.1 i.1.2
            · cases ht
            · rename_i z _; exact absurd rfl z
          · cases has
        · cases has
    · cases h
end
end VL
set_option Elab.async false
set_option linter.all false
set_option maxRecDepth 100000
set_option maxHeartbeats 4000000
/-! VL20: statements, one by one. -/
namespace VL
open PySem PySem.Spec PyProof.Rows L2
/-- the ends, carried over -/
structure EOk (X : Cx) (ix : List Nat) (B : B0) (P : AE) (D : Ends) : Prop where
  nx : ∀ Hs H σ sl, Rel X.K ⟨B, ix⟩ Hs H σ sl [] → P.nx (TA.tl sl) → D.nx σ H
  rt : ∀ x Hs H σ sl, Rel X.K ⟨B, ix⟩ Hs H σ sl [x] → x.isDead = false → P.rt x.t (TA.tl sl) → D.rt x.v H
  bk : ∀ Hs H σ sl, Rel X.K ⟨B, ix⟩ Hs H σ sl [] → P.bk (TA.tl sl) → D.bk σ H
  ct : ∀ Hs H σ sl, Rel X.K ⟨B, ix⟩ Hs H σ sl [] → P.ct (TA.tl sl) → D.ct σ H
def LS (X : Cx) (ix : List Nat) (w : AE → St → Prop) : TS := fun D σ H => ∃ B Hs sl P, Rel X.K ⟨B, ix⟩ Hs H σ sl [] ∧ w P (TA.tl sl) ∧ EOk X ix B P D
def noComp : Expr → Bool
  | .ListComp _ _ _ _ => false
  | .SetComp _ _ _ _ => false
  | .DictComp _ _ _ _ _ => false
  | _ => true
theorem free_of {Γ : Ctx} {is : List Nat} (h : free Γ is = true) : ∀ i ∈ is, i ∉ Γ.pin := fun i hi z => by
  unfold free at h
  have := List.all_eq_true.mp h i hi
  simp at this
  exact this z
section
variable {X : Cx} {Γ : Ctx} {b : Blk} {k : Nat} {pos p0 : Pos} {e : Expr} {c : E} {st : Stmt} {rest : List Stmt}
theorem ls_nil : PSs X [] (LS X Γ.pin (wSs Γ [])) := ⟨fun pins s σ H D I hw => by
  obtain ⟨B, Hs, sl, P, R0, hw, ek⟩ := hw
  rw [wSs] at hw
  exact pss_nil.run pins s σ H D I (ek.nx _ _ _ _ R0 hw)⟩
theorem ls_cons {q : S} {qs : List S} (h1 : PS X st (LS X Γ.pin (wS Γ q))) (h2 : PSs X rest (LS X Γ.pin (wSs Γ qs))) : PSs X (st :: rest) (LS X Γ.pin (wSs Γ (q :: qs))) := ⟨fun pins s σ H D I hw => by
  obtain ⟨B, Hs, sl, P, R0, hw, ek⟩ := hw
  rw [wSs] at hw
  exact (pss_cons h1 h2).run pins s σ H D I ⟨B, Hs, sl, _, R0, hw, ⟨fun Hs1 H1 σ1 sl1 R1 h1 => ⟨B, Hs1, sl1, P, R1, h1, ek⟩, ek.rt, ek.bk, ek.ct⟩⟩⟩
theorem ls_asg {i : Nat} {tg : Expr} (h : PS X (.Assign [tg] e pos) (tAsg (LE X Γ.pin false (wE Γ false c)) (gName i))) : PS X (.Assign [tg] e pos) (LS X Γ.pin (wS Γ (.asg i c))) := ⟨fun pins s σ H D I hw => by
  obtain ⟨B, Hs, sl, P, R0, hw, ek⟩ := hw
  rw [wS] at hw
  refine h.run pins s σ H D I ⟨B, Hs, sl, [], _, R0, hw.2, fun r v Hs1 H1 sl1 nw R1 rr st1 p => ?_⟩
  obtain ⟨x, Hs2, sl2, R2, xv, xd, _, ⟨n1, n2, n3⟩, _⟩ := toV_ok (tp := []) (rest := []) (by simpa using R1) rr.weak p
  have R3 := Rel.setS (tp := []) (x := x) (i := i) (by simpa using R2) (by rw [tl_len] at n2; exact n2) (free_of hw.1 i (by simp)) (by rw [← TA.noTup_t]; exact n1)
  rw [xv] at R3
  exact ek.nx _ _ _ _ R3 (by rw [tl_set]; exact n3)⟩
theorem ls_ex (h : PEc X Γ e c) (hs : swapsWith e none pos.line X.env = pure false) : PS X (.Expr e pos) (LS X Γ.pin (wS Γ (.ex c))) := ⟨fun pins s σ H D I hw => by
  obtain ⟨B, Hs, sl, P, R0, hw, ek⟩ := hw
  rw [wS] at hw
  refine (ps_expr (h false) hs).run pins s σ H D I ⟨B, Hs, sl, [], _, R0, hw, fun r v Hs1 H1 sl1 nw R1 rr st1 p => ?_⟩
  exact ek.nx _ _ _ _ R1.drop p⟩
/-- the object at a place, the slot dead -/
theorem Rel.take {K : PySem.W.Frag} {B : Bs} {Hs H : Hp} {σ : L2.St} {sl : List TA} : ∀ (q : List Nat) (t c : TA), Rel K B Hs H σ sl [t] → t.at q = some c → Rel K B Hs H σ sl [c]
  | [], t, c, R, h => by rw [TA.at] at h; cases h; exact R
  | j :: q, t, c, R, h => by
    cases t with
    | dead => cases h
    | d => cases h
    | nd kk a ts =>
      rw [TA.at] at h
      split at h
      · rename_i c1 hc1
        exact Rel.take q c1 c (Rel.child (tp := []) R hc1) h
      · cases h
theorem ls_ret (h : PEc X Γ e c) : PS X (.Return (some e) pos) (LS X Γ.pin (wS Γ (.ret c))) := ⟨fun pins s σ H D I hw => by
  obtain ⟨B, Hs, sl, P, R0, hw, ek⟩ := hw
  rw [wS] at hw
  refine (ps_ret (h false)).run pins s σ H D I ⟨B, Hs, sl, [], _, R0, hw, fun r v Hs1 H1 sl1 nw R1 rr st1 p => ?_⟩
  cases r with
  | v t =>
    obtain ⟨x, rfl, rfl, rfl, xd⟩ := rr
    exact ek.rt x _ _ _ _ R1 xd p
  | p i q =>
    simp only at p
    split at p
    · obtain ⟨x, Hs2, sl2, R2, xv, xd, _, n3, _⟩ := toV_ok (tp := []) (rest := []) (by simpa using R1) rr.weak p
      rw [← xv]
      exact ek.rt x _ _ _ _ (by simpa using R2) xd n3
    · rename_i hpin
      obtain ⟨rfl, t, cc, h1, h2, h3, h4⟩ := rr
      have g : (R.p i q).get (TA.tl sl1) = some cc.t := by
        rw [R.get, tl_get, h1]
        simp only [Option.map_some]
        rw [TA.at_t, h2]
        rfl
      rw [g] at p
      simp only at p
      have R2 := Rel.hide (tp := []) (σ' := σ) (i := i) (by simpa using R1) h1 (by simpa using hpin) rfl (fun _ _ => rfl)
      have R3 := Rel.take q t cc (by simpa using R2) h2
      rw [← h3]
      exact ek.rt cc _ _ _ _ R3 h4 (by rw [tl_set]; exact p)⟩
theorem movs_ok {K : PySem.W.Frag} {B : Bs} {H : Hp} {σ : L2.St} {rs : List R} : ∀ {vs : List V} {nws : List (List TA)} {Hs : Hp} {sl tp : List TA} {Kk : List T → St → Prop}, Rel K B Hs H σ sl (tp ++ nws.flatten) → RRs' sl rs vs nws → movs rs (TA.tl sl) Kk →
    ∃ (xs : List TA) (sl' : List TA), Rel K B Hs H σ sl' (tp ++ xs) ∧ xs.map TA.v = vs ∧ Kk (TA.tl xs) (TA.tl sl') := by
  induction rs with
  | nil =>
    intro vs nws Hs sl tp Kk R1 rr h
    cases rr
    exact ⟨[], sl, R1, rfl, h⟩
  | cons r rs ih =>
    intro vs nws Hs sl tp Kk R1 rr h
    cases rr with
    | @cons _ v nw _ vs nws a b =>
      rw [List.flatten_cons] at R1
      cases r with
      | v t =>
        rw [movs] at h
        obtain ⟨x, rfl, rfl, rfl, xd⟩ := a
        obtain ⟨xs, sl', R2, e, hk⟩ := ih (tp := tp ++ [x]) (by rw [List.append_assoc]; exact R1) b h
        exact ⟨x :: xs, sl', by rw [List.append_assoc] at R2; exact R2, by rw [List.map_cons, e], hk⟩
      | p i q =>
        cases q with
        | cons j q => rw [movs] at h; exact h.elim
        | nil =>
          rw [movs] at h
          obtain ⟨rfl, f⟩ := a
          rw [tl_get] at h
          cases hs : sl[i]? with
          | none => rw [hs] at h; exact h.elim
          | some t =>
            rw [hs] at h
            have hv := f t t hs rfl
            cases t with
            | dead => exact h.elim
            | d => exact h.elim
            | nd k a us =>
              simp only [Option.map_some, TA.t] at h
              have hi : i < sl.length := (List.getElem?_eq_some_iff.mp hs).1
              have R2 := R1.out1 hs (q := []) rfl
              have b' : RRs' (sl.set i (.dead (TA.nd k a us).v)) rs vs nws := b.map fun r' v' nw' hr => by
                cases r' with
                | v _ => exact hr
                | p i' q' =>
                  obtain ⟨e, g⟩ := hr
                  refine ⟨e, fun t c h1 h2 => ?_⟩
                  by_cases hii : i' = i
                  · subst hii
                    rw [List.getElem?_set_self hi] at h1
                    cases h1
                    cases q' with
                    | nil =>
                      rw [TA.at] at h2
                      cases h2
                      exact g _ (TA.nd k a us) hs rfl
                    | cons j q' => cases h2
                  · rw [List.getElem?_set_ne (Ne.symm hii)] at h1
                    exact g t c h1 h2
              have R3 : Rel K B Hs H σ (sl.set i (.dead (TA.nd k a us).v)) ((tp ++ [.nd k a us]) ++ nws.flatten) := R2.perm (by
                rw [List.nil_append, List.append_assoc, List.append_assoc]
                exact List.Perm.append_left _ List.perm_append_comm)
              obtain ⟨xs, sl', R4, e, hk⟩ := ih R3 b' (by rw [tl_set]; exact h)
              exact ⟨_ :: xs, sl', by rw [List.append_assoc] at R4; exact R4, by rw [List.map_cons, e, hv], by rw [TA.tl, TA.t]; exact hk⟩
theorem ls_retm {es : List Expr} {cs : List E} {j : Nat} (h : PAc X Γ es cs) : PS X (.Return (some (.Tuple es j p0)) pos) (LS X Γ.pin (wS Γ (.retm cs))) := ⟨fun pins s σ H D I hw => by
  obtain ⟨B, Hs, sl, P, R0, hw, ek⟩ := hw
  rw [wS] at hw
  refine (ps_ret (pe_tup (h false))).run pins s σ H D I ⟨B, Hs, sl, [], _, R0, hw, fun rs vs Hs1 H1 sl1 nws R1 rr st1 p1 => ?_⟩
  obtain ⟨xs, sl2, R2, e1, hz, hp⟩ := movs_ok R1 rr.weak p1
  refine ⟨by rw [← e1, List.length_map, ← tl_len]; exact hz, fun l hl => ?_⟩
  rw [← e1]
  rcases leaves_none_or xs with ⟨ds, hl2, e2⟩ | e2
  · rw [e2] at hp
    obtain ⟨f1, f2, f3⟩ := leaves_of hl2
    have R3 := (Rel.allocF (tp := []) R2.drop hl (.tup (xs.map TA.v)))
    exact ek.rt (.d (.ref l) (.tuple ds)) _ _ _ _ (by simpa using R3.leaf (.tup (SqT.of upd_same) ((f3 (TA.okl_append.mp R2.okT).2).mono (same_upd (R2.hs_none hl))))) rfl hp
  · rw [e2] at hp
    have R3 := Rel.allocO (k := .tup) (tp := []) (ts := xs) R2 hl (show upd H1 l (.tup (xs.map TA.v)) l = some (.tup (xs.map TA.v)) from upd_same)
    exact ek.rt (.nd .tup l xs) _ _ _ _ (by simpa using R3) rfl (by rw [TA.t]; exact hp)⟩
theorem ls_retN : PS X (.Return none pos) (LS X Γ.pin (wS Γ .retN)) := ⟨fun pins s σ H D I hw => by
  obtain ⟨B, Hs, sl, P, R0, hw, ek⟩ := hw
  rw [wS] at hw
  exact ps_retN.run pins s σ H D I (ek.rt (.d .non .none) _ _ _ _ (by simpa using R0.leaf .non) rfl hw)⟩
theorem ls_pass : PS X (.Pass pos) (LS X Γ.pin (wS Γ .pass)) := ⟨fun pins s σ H D I hw => by
  obtain ⟨B, Hs, sl, P, R0, hw, ek⟩ := hw
  rw [wS] at hw
  exact ps_pass.run pins s σ H D I (ek.nx _ _ _ _ R0 hw)⟩
theorem ls_brk : PS X (.Break pos) (LS X Γ.pin (wS Γ .brk)) := ⟨fun pins s σ H D I hw => by
  obtain ⟨B, Hs, sl, P, R0, hw, ek⟩ := hw
  rw [wS] at hw
  exact ps_break.run pins s σ H D I (ek.bk _ _ _ _ R0 hw)⟩
theorem ls_cnt : PS X (.Continue pos) (LS X Γ.pin (wS Γ .cnt)) := ⟨fun pins s σ H D I hw => by
  obtain ⟨B, Hs, sl, P, R0, hw, ek⟩ := hw
  rw [wS] at hw
  exact ps_continue.run pins s σ H D I (ek.ct _ _ _ _ R0 hw)⟩
theorem ls_if {a b : List Stmt} {qa qb : List S} (hc : PTc X Γ e c) (ha : PSs X a (LS X Γ.pin (wSs Γ qa))) (hb : PSs X b (LS X Γ.pin (wSs Γ qb))) : PS X (.If e a b pos) (LS X Γ.pin (wS Γ (.ife c qa qb))) := ⟨fun pins s σ H D I hw => by
  obtain ⟨B, Hs, sl, P, R0, hw, ek⟩ := hw
  rw [wS] at hw
  refine (ps_if (hc false) ha hb).run pins s σ H D I (LR.of R0 hw fun z Hs1 H1 sl1 R1 st1 hp => ?_)
  cases z with
  | true =>
    simp only [br_t, if_true] at hp ⊢
    exact ⟨B, Hs1, sl1, P, R1, hp, ek⟩
  | false =>
    simp only [br_f, Bool.false_eq_true, if_false] at hp ⊢
    exact ⟨B, Hs1, sl1, P, R1, hp, ek⟩⟩
theorem ls_while {a : List Stmt} {qa : List S} (hp : PassesOwn (model X.prog X.w) X.A X.env X.xe) (hc : PTc X Γ e c) (ha : PSs X a (LS X Γ.pin (wSs Γ qa))) : PS X (.While e a [] pos) (LS X Γ.pin (wS Γ (.while_ c qa))) := ⟨fun pins s σ H D I hw => by
  obtain ⟨B, Hs, sl, P, R0, hw, ek⟩ := hw
  rw [wS] at hw
  obtain ⟨W, ⟨m0, w0⟩, hW⟩ := hw
  refine (ps_while hp (hc false) ha).run pins s σ H D I ⟨fun m σ H => ∃ Hs sl, Rel X.K ⟨B, Γ.pin⟩ Hs H σ sl [] ∧ W m (TA.tl sl), ⟨m0, Hs, sl, R0, w0⟩, ?_⟩
  rintro m σ1 H1 ⟨Hs1, sl1, R1, w1⟩
  refine LR.of R1 (hW m _ w1) fun z Hs2 H2 sl2 R2 st2 hp => ?_
  cases z with
  | true =>
    simp only [br_t, if_true] at hp ⊢
    refine ⟨fun σ' H' => ∃ m', m' < m ∧ ∃ Hs sl, Rel X.K ⟨B, Γ.pin⟩ Hs H' σ' sl [] ∧ W m' (TA.tl sl), fun σ' H' z => z, B, Hs2, sl2, _, R2, hp, ⟨?_, ek.rt, ek.nx, ?_⟩⟩
    · rintro Hs3 H3 σ3 sl3 R3 ⟨m', h1, h2⟩
      exact ⟨m', h1, Hs3, sl3, R3, h2⟩
    · rintro Hs3 H3 σ3 sl3 R3 ⟨m', h1, h2⟩
      exact ⟨m', h1, Hs3, sl3, R3, h2⟩
  | false =>
    simp only [br_f, Bool.false_eq_true, if_false] at hp ⊢
    exact ek.nx _ _ _ _ R2 hp⟩
theorem ls_for {tg iter : Expr} {is : List Nat} {it : ItK} {ies : List E} {a : List Stmt} {qa : List S} (hp : PassesOwn (model X.prog X.w) X.A X.env X.xe) (C : CxOk X Γ b k) (hset : noSet iter = true) (htg : targB b is tg = true) (hi : ∀ pu bor, PI X tg iter (LI X Γ.pin pu bor (wIt Γ pu bor it ies))) (ha : PSs X a (LS X Γ.pin (wSs Γ qa))) :
    PS X (.For tg iter a [] pos) (LS X Γ.pin (wS Γ (.for_ is it ies qa))) := ⟨fun pins s σ H D I hw => by
  obtain ⟨B, Hs, sl, P, R0, hw, ek⟩ := hw
  rw [wS] at hw
  obtain ⟨hfr, hw⟩ := hw
  refine (ps_for hp C.calm (hi false false) (lg_ok (ix := Γ.pin) C htg) ha (fun x => by cases iter <;> first | rfl | (exact (Bool.noConfusion hset)))).run pins s σ H D I ⟨B, Hs, sl, [], _, R0, hw, fun J xs Hs1 H1 sl1 R1 wk st1 hP => ?_⟩
  refine ⟨fun i m σ H => m = xs.length - i ∧ i ≤ xs.length ∧ ∃ Hs sl, Rel X.K ⟨{ B with Hs0 := Hs1 }, Γ.pin⟩ Hs H σ sl [] ∧ forW is (fun D' σ' => wSs Γ qa D' σ') P (xs.drop i) (TA.tl sl), ⟨_, rfl, Nat.zero_le _, Hs1, sl1, R1.reB, by simpa using hP⟩, ?_⟩
  rintro i m σ2 H2 ⟨rfl, hle, Hs2, sl2, R2, hl⟩
  have ek2 : ∀ {Hs H : Hp} {σ : L2.St} {sl : List TA}, Rel X.K ⟨{ B with Hs0 := Hs1 }, Γ.pin⟩ Hs H σ sl [] → P.nx (TA.tl sl) → D.nx σ H := fun R h => ek.nx _ _ _ _ (R1.unB R) h
  by_cases hlt2 : i < xs.length
  · refine .inr ⟨wk.go i H2 Hs2 same00 R2.hs R2.sub hlt2, fun σ' H' => ∃ Hs sl, Rel X.K ⟨{ B with Hs0 := Hs1 }, Γ.pin⟩ Hs H' σ' sl [] ∧ forW is (fun D' σ' => wSs Γ qa D' σ') P (xs.drop (i + 1)) (TA.tl sl), fun σ' H' p => ⟨xs.length - (i + 1), by omega, rfl, hlt2, p⟩, fun v H3 hy => ?_⟩
    have hx : xs[i]? = some xs[i] := List.getElem?_eq_getElem hlt2
    obtain ⟨Hs3, s23, dp, sH, hR⟩ := wk.yld i H2 Hs2 v H3 xs[i] same00 R2.hs R2.sub hx hy
    have R3 := hR _ _ _ _ R2
    rw [List.drop_eq_getElem_cons hlt2, forW] at hl
    generalize hh : bindD is xs[i] (TA.tl sl2) = oo at hl
    cases oo with
    | none => exact hl.elim
    | some σ1 =>
      simp only at hl
      refine ⟨{ B with Hs0 := Hs1 }, Hs3, sl2, [], xs[i], σ1, R3, dp, hh, free_of hfr, fun σb slb Rb eb fb lb => ?_⟩
      refine ⟨{ B with Hs0 := Hs1 }, Hs3, slb, { nx := forW is (fun D' σ' => wSs Γ qa D' σ') P (List.drop (i + 1) xs), rt := P.rt, bk := P.nx, ct := forW is (fun D' σ' => wSs Γ qa D' σ') P (List.drop (i + 1) xs) }, Rb, by rw [eb]; exact hl, ⟨fun Hs4 H4 σ4 sl4 R4 h4 => ⟨Hs4, sl4, R4, h4⟩, fun x Hs4 H4 σ4 sl4 R4 h4 h5 => ek.rt x _ _ _ _ (R1.unB R4) h4 h5, fun Hs4 H4 σ4 sl4 R4 h4 => ek2 R4 h4, fun Hs4 H4 σ4 sl4 R4 h4 => ⟨Hs4, sl4, R4, h4⟩⟩⟩
  · have hi : i = xs.length := by omega
    subst hi
    rw [List.drop_length, forW] at hl
    exact .inl ⟨wk.stop _ H2 Hs2 same00 R2.hs R2.sub (Nat.le_refl _), ek2 R2 hl⟩⟩
theorem ls_aug {i : Nat} {x : Str} {op : BOp} (C : CxOk X Γ b k) (h : tgB b i x = true) (hop : op = .add ∨ op = .sub) (he : PEc X Γ e c) : PS X (.AugAssign (.Name x p0) (bopO op) e pos) (LS X Γ.pin (wS Γ (.aug i op c))) := ⟨fun pins s σ H D I hw => by
  obtain ⟨B, Hs, sl, P, R0, hw, ek⟩ := hw
  rw [wS] at hw
  obtain ⟨hfr, hw⟩ := hw
  unfold tgB at h
  simp only [Bool.and_eq_true, decide_eq_true_eq] at h
  obtain ⟨h1, h2⟩ := C.loc h.2
  split at hw
  · rename_i x0 hx0
    rw [tl_get] at hx0
    obtain ⟨t0, ht0, e0⟩ := Option.map_eq_some_iff.mp hx0
    have hv0 : t0.isDead = false ∧ t0.v = .int x0 := by
      cases t0 with
      | dead => simp [TA.t] at e0
      | nd => simp [TA.t] at e0
      | d v y =>
        rw [TA.t] at e0
        have ok := R0.slot_ok ht0
        rw [TA.ok] at ok
        cases e0
        exact ⟨rfl, ok.int_v⟩
    have hσ := R0.val i t0 ht0 hv0.1
    rw [hv0.2] at hσ
    have key : ∀ (f : Int → Int → Int) (o : Operator), PIp X o (ipI f) → bopO op = o → (∀ z : Int, (if op = .add then x0 + z else x0 - z) = f x0 z) → (op = .add ∨ op = .sub) → wpAny (model X.prog X.w) X.A (exec (.AugAssign (.Name x p0) (bopO op) e pos) X.env) (SP X pins D) X.xe s := by
      intro f o ho eo hf hop
      rw [eo]
      refine (ps_aug (by rw [C.N]; exact C.nd) (by rw [C.N]; exact h.1) h1 (he false) ho h2).run pins s σ H D I ⟨_, hσ, B, Hs, sl, [], _, R0, hw, fun r v Hs1 H1 sl1 nw R1 rr st1 p => ?_⟩
      split at p
      · rename_i y hy
        obtain ⟨_, n2, n3⟩ := p
        have := (rr.dpT R1 hy).2.int_v
        subst this
        refine ⟨x0, y, rfl, rfl, ?_⟩
        obtain ⟨R2, e2⟩ := set_leaf R1.drop (.int (f x0 y)) n2 (free_of hfr i (by simp))
        exact ek.nx _ _ _ _ R2 (by rw [e2, ← hf]; exact n3)
      · exact p.elim
    by_cases ha : op = .add
    · subst ha
      exact key (fun i j => i + j) .Add ip_add rfl (fun z => by simp) (.inl rfl)
    · by_cases hs : op = .sub
      · subst hs
        exact key (fun i j => i - j) .Sub ip_sub rfl (fun z => by simp) (.inr rfl)
      · exact (hop.elim ha hs).elim
  · exact hw.elim⟩
/-- o[i] = e -/
theorem set_uq {K : PySem.W.Frag} {B : Bs} {Hs H : Hp} {σ : L2.St} {sl tp : List TA} {i j : Nat} {q : List Nat} {t x : TA} {a : Addr} {us : List TA} (R1 : Rel K B Hs H σ sl (tp ++ [x])) (h1 : sl[i]? = some t) (h2 : t.at q = some (.nd .list a us)) (hj : j < us.length) (hx : x.noTup = true) :
    Rel K B Hs (upd H a (.lst ((us.map TA.v).set j x.v))) σ (sl.set i (t.put (.nd .list a (us.set j x)) q)) tp ∧ TA.tl (sl.set i (t.put (.nd .list a (us.set j x)) q)) = putS (TA.tl sl) i q (.nd .list ((TA.tl us).set j x.t)) := by
  obtain ⟨n1, o1, a1⟩ := slot_noTupl R1 h1 h2
  have okx : x.ok K Hs H := okl_one.mp (TA.okl_append.mp R1.okT).2
  obtain ⟨u1, u2, eu, es, hl⟩ := set_pre (y := x) (List.getElem?_eq_getElem hj)
  have uq : (TA.fpl us ++ x.fp).Nodup := by
    have hu := R1.uq
    rw [TA.fpl_append, TA.fpl_append, ← List.append_assoc, List.nodup_append, fpl_one] at hu
    rw [List.nodup_append]
    have us1 : (TA.nd .list a us).fp.Nodup := by
      obtain ⟨l1, l2, e1, _⟩ := TA.lens q t _ h2
      have := R1.slot_uq h1
      rw [e1] at this
      exact (nodup_mid this).2.1
    rw [TA.fp] at us1
    refine ⟨(List.nodup_cons.mp us1).2, hu.2.1, fun x hx y hy e => hu.2.2 x (List.mem_append_left _ ?_) y hy e⟩
    obtain ⟨l1, l2, e1, _⟩ := TA.lens q t _ h2
    exact fpl_slot h1 (by rw [e1, TA.fp]; exact List.mem_append_left _ (List.mem_append_right _ (List.mem_cons_of_mem _ hx)))
  have efp : (TA.fpl (us.set j x)).Perm (TA.fpl u1 ++ TA.fpl u2 ++ x.fp) := by
    rw [es, TA.fpl_append, TA.fpl, List.append_assoc]
    exact List.Perm.append_left _ List.perm_append_comm
  have sb : (TA.fpl u1 ++ TA.fpl u2 ++ x.fp).Sublist (TA.fpl us ++ x.fp) := by
    refine List.Sublist.append ?_ (List.Sublist.refl _)
    conv => rhs; rw [eu]
    rw [TA.fpl_append, TA.fpl]
    exact List.Sublist.append (List.Sublist.refl _) (List.sublist_append_right _ _)
  have mem : ∀ y ∈ us.set j x, y ∈ us ∨ y = x := fun y hy => (List.mem_or_eq_of_mem_set hy)
  obtain ⟨R2, e2⟩ := R1.chg (us' := us.set j x) h1 h2 (TA.okl_all.mpr fun y hy => (mem y hy).elim (TA.okl_all.mp o1 y) fun z => z ▸ okx) (fun z hz => by
    have := sb.subset (efp.mem_iff.mp hz)
    rw [fpl_one]
    exact List.mem_append.mp this) (efp.nodup_iff.mpr (sb.nodup uq)) (TA.noTupl_all.mpr fun y hy => (mem y hy).elim (TA.noTupl_all.mp n1 y) fun z => z ▸ hx)
  rw [List.map_set] at R2
  rw [tl_set us] at e2
  exact ⟨R2, e2⟩
theorem ls_setix {eo ei : Expr} {o i : E} (he : PEc X Γ e c) (ho : PEc X Γ eo o) (hi : PEc X Γ ei i) (hn : noSlice ei = true) (hc : noComp e = true) : PS X (.Assign [.Subscript eo ei p0] e pos) (LS X Γ.pin (wS Γ (.setix o i c))) := ⟨fun pins s σ H D I hw => by
  obtain ⟨B, Hs, sl, P, R0, hw, ek⟩ := hw
  rw [wS] at hw
  have hi' : PE X ei (fun σ' H1 Q' => ∃ pu', LE X Γ.pin pu' (wE Γ pu' i) σ' H1 Q') := ⟨fun pins s σ H Q I ⟨pu', h'⟩ => (hi pu').run pins s σ H Q I h'⟩
  have hsw : swapsWith e (some (.Subscript eo ei p0)) pos.line X.env = pure false := by cases e <;> first | rfl | (exact (Bool.noConfusion hc))
  have hsw2 : swappedStores [.Subscript eo ei p0] e X.env = pure none := by cases e <;> rfl
  refine (ps_asg (he false) (pg_sub (ho false) hi' set_list (by intro v; cases ei <;> first | rfl | (exact (Bool.noConfusion hn)))) hsw hsw2).run pins s σ H D I ⟨B, Hs, sl, [], _, R0, hw, fun r v Hs1 H1 sl1 nw R1 rr st1 p => ?_⟩
  obtain ⟨x, Hs2, sl2, R2, xv, xd, _, hw2, _⟩ := toV_ok (tp := []) (rest := []) (by simpa using R1) rr.weak p
  refine ⟨B, Hs2, sl2, [x], _, by simpa using R2, hw2, fun ro vo Hs3 H3 sl3 nw3 R3 rr3 st3 hw3 => ⟨_, B, Hs3, sl3, [x] ++ nw3, _, R3, hw3, fun ri vi Hs4 H4 sl4 nw4 R4 rr4 st4 hw4 => ?_⟩⟩
  have rr3' := rr3.stay R3 R4 st4 (fun z => by rw [z]; rfl)
  unfold setixW at hw4
  obtain ⟨n1, n2, hw4⟩ := hw4
  obtain ⟨ii, q, t, a, us, rfl, rfl, h1, h2, rfl, hP⟩ := atList_ok rr3'.weak hw4
  split at hP
  · rename_i kk hkk
    have := (rr4.dpT R4 hkk).2.int_v
    subst this
    split at hP
    · rename_i j hj
      have R5 : Rel X.K ⟨B, Γ.pin⟩ Hs4 H4 σ sl4 ([] ++ [x]) := by simpa using R4.drop
      obtain ⟨_, _, a1⟩ := slot_noTupl R5 h1 h2
      rw [tl_len] at hj
      obtain ⟨R6, e6⟩ := set_uq R5 h1 h2 (ixN_seq hj).2.1 (by rw [← TA.noTup_t]; exact n1)
      rw [xv] at R6
      refine ⟨a, _, kk, j, rfl, rfl, a1, by rw [List.length_map]; exact hj, ek.nx _ _ _ _ R6 (by rw [e6]; exact hP)⟩
    · exact hP.elim
  · exact hP.elim⟩
/-- o[i] = a value that is data, o a dict -/
theorem ls_setdix {eo ei : Expr} {o i : E} {b : Blk} {k : Nat} (C : CxOk X Γ b k) (he : PEc X Γ e c) (ho : PEc X Γ eo o) (hi : PEc X Γ ei i) (hn : noSlice ei = true) (hc : noComp e = true) : PS X (.Assign [.Subscript eo ei p0] e pos) (LS X Γ.pin (wS Γ (.setdix o i c))) := ⟨fun pins s σ H D I hw => by
  obtain ⟨B, Hs, sl, P, R0, hw, ek⟩ := hw
  rw [wS] at hw
  have hu := C.room.un
  have hi' : PE X ei (fun σ' H1 Q' => ∃ pu', LE X Γ.pin pu' (wE Γ pu' i) σ' H1 Q') := ⟨fun pins s σ H Q I ⟨pu', h'⟩ => (hi pu').run pins s σ H Q I h'⟩
  have hsw : swapsWith e (some (.Subscript eo ei p0)) pos.line X.env = pure false := by cases e <;> first | rfl | (exact (Bool.noConfusion hc))
  have hsw2 : swappedStores [.Subscript eo ei p0] e X.env = pure none := by cases e <;> rfl
  refine (ps_asg (he false) (pg_sub (ho false) hi' (set_dict (by omega)) (by intro v; cases ei <;> first | rfl | (exact (Bool.noConfusion hn)))) hsw hsw2).run pins s σ H D I ⟨B, Hs, sl, [], _, R0, hw, fun r v Hs1 H1 sl1 nw R1 rr st1 p => ?_⟩
  split at p
  · rename_i x hx
    have rp := (rr.dpT R1 hx).1
    have R2 : Rel X.K ⟨B, Γ.pin⟩ Hs1 H1 σ sl1 ([] ++ [TA.d v x]) := R1.drop.leaf rp
    refine ⟨B, Hs1, sl1, [TA.d v x], _, by simpa using R2, p, fun ro vo Hs3 H3 sl3 nw3 R3 rr3 st3 hw3 => ⟨_, B, Hs3, sl3, [TA.d v x] ++ nw3, _, R3, hw3, fun ri vi Hs4 H4 sl4 nw4 R4 rr4 st4 hw4 => ?_⟩⟩
    have rr3' := rr3.stay R3 R4 st4 (fun z => by rw [z]; rfl)
    obtain ⟨ii, q, t, a, ks, us, rfl, rfl, h1, h2, rfl, hl, hP⟩ := atDict_ok rr3'.weak hw4
    split at hP
    · rename_i y hy
      split at hP
      · rename_i kk hkk
        have ey := dkey_v hkk (rr4.dpT R4 hy).2
        have R5 : Rel X.K ⟨B, Γ.pin⟩ Hs4 H4 σ sl4 ([] ++ [TA.d v x]) := by simpa using R4.drop
        have rp4 : Rp X.K Hs4 v x := by
          have := okl_one.mp (by simpa using R5.okT)
          rw [TA.ok] at this
          exact this
        obtain ⟨sl', g1, g2, g3, g4⟩ := put_dict (k := kk) (R5.drop) h1 h2 rp4
        refine ⟨a, _, rfl, .inl ⟨_, kk, g1, ey, ?_, rfl⟩, ek.nx _ _ _ _ g3 (by rw [g4]; exact hP)⟩
        rw [List.length_zip, List.length_map, ← g2, Nat.min_self]
        exact hl
      · exact hP.elim
    · exact hP.elim
  · exact p.elim⟩
theorem get_listN : PGet X (fun o i H Q => ∃ p xs k v, o = .ref p ∧ i = .int k ∧ 0 ≤ k ∧ SqL X.K H p xs ∧ xs[k.toNat]? = some v ∧ Q v H) := by
  intro pins s σ H o i ov iv Q I r1 r2 h
  obtain ⟨p, xs, k, z, rfl, rfl, h0, hq, he, q⟩ := h
  cases r1
  obtain ⟨t, rfl⟩ := r2
  obtain ⟨its, r, pl, hz⟩ := I.list hq
  obtain ⟨w, ew, rw'⟩ := r.get he
  have hl := r.length
  have hn := line63
  have hk : k.toNat < xs.length := (List.getElem?_eq_some_iff.mp he).1
  exact wpAny_getItem_list pl.isList h0 (by omega) (by simpa using ew) ⟨z, H, I, rw', q⟩
/-- o[i] op= a number -/
theorem ls_augix {eo ei : Expr} {o i : E} {op : BOp} {y : Int} {kk : Nat} {p1 : Pos} (ho : PEc X Γ eo o) (hi : PEc X Γ ei i) (hn : noSlice ei = true) (hop : op = .add ∨ op = .sub) : PS X (.AugAssign (.Subscript eo ei p0) (bopO op) (.Constant (.int y) kk p1) pos) (LS X Γ.pin (wS Γ (.augix op o i y))) := ⟨fun pins s σ H D I hw => by
  obtain ⟨B, Hs, sl, P, R0, hw, ek⟩ := hw
  rw [wS] at hw
  have hi' : PE X ei (fun σ' H1 Q' => ∃ pu', LE X Γ.pin pu' (wE Γ pu' i) σ' H1 Q') := ⟨fun pins s σ H Q I ⟨pu', h'⟩ => (hi pu').run pins s σ H Q I h'⟩
  have key : ∀ (f : Int → Int → Int) (oo : Operator), PIp X oo (ipI f) → bopO op = oo → (∀ x : Int, (if op = .add then x + y else x - y) = f x y) → wpAny (model X.prog X.w) X.A (exec (.AugAssign (.Subscript eo ei p0) (bopO op) (.Constant (.int y) kk p1) pos) X.env) (SP X pins D) X.xe s := by
    intro f oo hip eo' hf
    rw [eo']
    refine (ps_augS (ho false) hi' get_listN pe_int hip set_list (by intro a b c; cases ei <;> first | rfl | (exact (Bool.noConfusion hn)))).run pins s σ H D I ⟨B, Hs, sl, [], _, R0, hw, fun ro vo Hs3 H3 sl3 nw3 R3 rr3 st3 hw3 => ⟨_, B, Hs3, sl3, [] ++ nw3, _, R3, hw3, fun ri vi Hs4 H4 sl4 nw4 R4 rr4 st4 hw4 => ?_⟩⟩
    have rr3' := rr3.stay R3 R4 st4 (fun z => by rw [z]; rfl)
    obtain ⟨ii, q, t, a, us, rfl, rfl, h1, h2, rfl, hP⟩ := atList_ok rr3'.weak hw4
    split at hP
    · rename_i k hk
      have := (rr4.dpT R4 hk).2.int_v
      subst this
      obtain ⟨h0, hP⟩ := hP
      split at hP
      · rename_i x hx
        rw [tl_get] at hx
        obtain ⟨c, hc, ec⟩ := Option.map_eq_some_iff.mp hx
        have R5 : Rel X.K ⟨B, Γ.pin⟩ Hs4 H4 σ sl4 [] := by simpa using R4.drop
        obtain ⟨_, o1, a1⟩ := slot_noTupl R5 h1 h2
        have hcv : c.v = .int x := by
          obtain ⟨w, rfl⟩ := ta_d ec
          have := TA.okl_all.mp o1 _ (List.mem_of_getElem? hc)
          rw [TA.ok] at this
          exact this.int_v
        have hkl : k.toNat < us.length := (List.getElem?_eq_some_iff.mp hc).1
        have R6 : Rel X.K ⟨B, Γ.pin⟩ Hs4 H4 σ sl4 ([] ++ [TA.d (.int (f x y)) (.int (f x y))]) := Rel.leaves R5 (okl_one.mpr (by rw [TA.ok]; exact .int _)) (by simp [TA.fpl, TA.fp])
        obtain ⟨R7, e7⟩ := set_uq R6 h1 h2 hkl rfl
        refine ⟨a, us.map TA.v, k, .int x, rfl, rfl, h0, .inl (.inl a1), by rw [List.getElem?_map, hc, Option.map_some, hcv], x, y, rfl, rfl, a, us.map TA.v, k, k.toNat, rfl, rfl, a1, by rw [List.length_map]; unfold ixN; rw [if_pos h0, if_pos (by omega)], ?_⟩
        refine ek.nx _ _ _ _ R7 ?_
        rw [e7]
        rw [hf] at hP
        exact hP
      · exact hP.elim
    · exact hP.elim
  by_cases ha : op = .add
  · subst ha
    exact key (fun i j => i + j) .Add ip_add rfl (fun z => by simp)
  · have hs : op = .sub := hop.resolve_left ha
    subst hs
    exact key (fun i j => i - j) .Sub ip_sub rfl (fun z => by simp)⟩
/-- what must not be come to -/
theorem ls_rse {x y : Option Expr} : PS X (.Raise x y pos) (LS X Γ.pin (wS Γ .rse)) := ⟨fun pins s σ H D I hw => by
  obtain ⟨B, Hs, sl, P, R0, hw, ek⟩ := hw
  rw [wS] at hw
  exact hw.elim⟩
theorem at_uq {K : PySem.W.Frag} {B : Bs} {Hs H : Hp} {σ : L2.St} {sl tp : List TA} {i : Nat} {q : List Nat} {t x : TA} {kd : Kd} {a : Addr} {us : List TA} (R1 : Rel K B Hs H σ sl (tp ++ [x])) (h1 : sl[i]? = some t) (h2 : t.at q = some (.nd kd a us)) : (TA.fpl us ++ x.fp).Nodup := by
  have hu := R1.uq
  rw [TA.fpl_append, TA.fpl_append, ← List.append_assoc, List.nodup_append, fpl_one] at hu
  rw [List.nodup_append]
  have us1 : (TA.nd kd a us).fp.Nodup := by
    obtain ⟨l1, l2, e1, _⟩ := TA.lens q t _ h2
    have := R1.slot_uq h1
    rw [e1] at this
    exact (nodup_mid this).2.1
  rw [TA.fp] at us1
  refine ⟨(List.nodup_cons.mp us1).2, hu.2.1, fun x hx y hy e => hu.2.2 x (List.mem_append_left _ ?_) y hy e⟩
  obtain ⟨l1, l2, e1, _⟩ := TA.lens q t _ h2
  exact fpl_slot h1 (by rw [e1, TA.fp]; exact List.mem_append_left _ (List.mem_append_right _ (List.mem_cons_of_mem _ hx)))
/-- a node's items are others: some of its own, and one more -/
theorem chg_with {K : PySem.W.Frag} {B : Bs} {Hs H : Hp} {σ : L2.St} {sl tp : List TA} {i : Nat} {q : List Nat} {t x : TA} {kd kd' : Kd} {a : Addr} {us us' : List TA} {o : HO} (R1 : Rel K B Hs H σ sl (tp ++ [x])) (h1 : sl[i]? = some t) (h2 : t.at q = some (.nd kd a us)) (hk : kd'.isTup = false) (hx : x.noTup = true)
    (ho : kd'.at (upd H a o) a (us'.map TA.v)) (mem : ∀ y ∈ us', y ∈ us ∨ y = x) (l : List Addr) (pm : (TA.fpl us').Perm l) (sb : l.Sublist (TA.fpl us ++ x.fp)) :
    Rel K B Hs (upd H a o) σ (sl.set i (t.put (.nd kd' a us') q)) tp ∧ TA.tl (sl.set i (t.put (.nd kd' a us') q)) = putS (TA.tl sl) i q (.nd kd' (TA.tl us')) := by
  have n := TA.at_noTup q t _ h2 (R1.ntup t (List.mem_of_getElem? h1))
  rw [TA.noTup, Bool.and_eq_true] at n
  have ok := TA.at_ok q t _ h2 (R1.slot_ok h1)
  rw [TA.ok] at ok
  have okx : x.ok K Hs H := okl_one.mp (TA.okl_append.mp R1.okT).2
  have uq := at_uq R1 h1 h2
  exact Rel.chgK R1 h1 h2 hk ho (TA.okl_all.mpr fun y hy => (mem y hy).elim (TA.okl_all.mp ok.2 y) fun z => z ▸ okx) (fun z hz => by
    have := sb.subset (pm.mem_iff.mp hz)
    rw [fpl_one]
    exact List.mem_append.mp this) (pm.nodup_iff.mpr (sb.nodup uq)) (TA.noTupl_all.mpr fun y hy => (mem y hy).elim (TA.noTupl_all.mp n.2 y) fun z => z ▸ hx)
theorem ls_setatt {b : Blk} {k : Nat} {eo : Expr} {o : E} {cl a : Str} (C : CxOk X Γ b k) (hc : clsHas Γ.sk cl a = true) (he : PEc X Γ e c) (ho : PEc X Γ eo o) : PS X (.Assign [.Attribute eo a p0] e pos) (LS X Γ.pin (wS Γ (.setatt cl a o c))) := ⟨fun pins s σ H D I hw => by
  obtain ⟨B, Hs, sl, P, R0, hw, ek⟩ := hw
  rw [wS] at hw
  have hsw : swapsWith e (some (.Attribute eo a p0)) pos.line X.env = pure false := by cases e <;> rfl
  refine (ps_fld (ho false) (he false) hsw).run pins s σ H D I ⟨B, Hs, sl, [], _, R0, hw, fun r v Hs1 H1 sl1 nw R1 rr st1 p => ?_⟩
  obtain ⟨x, Hs2, sl2, R2, xv, xd, _, hw2, _⟩ := toV_ok (tp := []) (rest := []) (by simpa using R1) rr.weak p
  refine ⟨B, Hs2, sl2, [x], _, by simpa using R2, hw2, fun ro vo Hs3 H3 sl3 nw3 R3 rr3 st3 hw3 => ?_⟩
  unfold setattW at hw3
  obtain ⟨n1, n2, hw3⟩ := hw3
  have hxn : x.noTup = true := by rw [← TA.noTup_t]; exact n1
  cases ro with
  | v t => exact hw3.elim
  | p i q =>
    simp only at hw3
    split at hw3
    · rename_i C0 ns ts e1
      obtain ⟨ad, us, rfl, e3, e4, e5, e6, e7⟩ := rr3.node R3 e1
      obtain ⟨el, dx, e4⟩ := e4
      split at hw3
      · rename_i ci hci
        obtain ⟨rfl, hlen, hw3⟩ := hw3
        have ck := C.cls cl ci hci
        obtain ⟨t0, g1, g2⟩ := e7 i q rfl
        have hn : nw3 = [] := rr3.1
        subst hn
        have R4 : Rel X.K ⟨B, Γ.pin⟩ Hs3 H3 σ sl3 ([] ++ [x]) := by simpa using R3
        refine ⟨ad, _, dx, _, rfl, e4, ck.cl, ck.fld a (clsHas_of hc hci), by rw [List.length_zip]; omega, ?_⟩
        rw [← xv, zip_put (by rw [el])]
        split at hw3
        · rename_i j hj
          have hjn : j < ns.length := (List.findIdx?_eq_some_iff_getElem.mp hj).1
          have hju : j < us.length := by rw [List.length_map] at el; omega
          obtain ⟨u1, u2, eu, es, hl⟩ := set_pre (y := x) (List.getElem?_eq_getElem hju)
          try rw [hj]
          obtain ⟨R5, e8⟩ := chg_with (kd' := .inst ci.C ns) (o := .ins ci.C dx (ns.zip ((us.map TA.v).set j x.v))) (us' := us.set j x) R4 g1 g2 rfl hxn ⟨by simpa using el, dx, by rw [upd_same, List.map_set]⟩ (fun y hy => List.mem_or_eq_of_mem_set hy) (TA.fpl u1 ++ TA.fpl u2 ++ x.fp) (by
            rw [es, TA.fpl_append, TA.fpl, List.append_assoc]
            exact List.Perm.append_left _ List.perm_append_comm) (by
            refine List.Sublist.append ?_ (List.Sublist.refl _)
            conv => rhs; rw [eu]
            rw [TA.fpl_append, TA.fpl]
            exact List.Sublist.append (List.Sublist.refl _) (List.sublist_append_right _ _))
          refine ek.nx _ _ _ _ R5 ?_
          rw [e8, tl_set us, e3]
          exact hw3
        · rename_i hj
          try rw [hj]
          obtain ⟨R5, e8⟩ := chg_with (kd' := .inst ci.C (ns ++ [a])) (o := .ins ci.C dx ((ns ++ [a]).zip (us.map TA.v ++ [x.v]))) (us' := us ++ [x]) R4 g1 g2 rfl hxn ⟨by simpa using el, dx, by rw [upd_same, List.map_append]; rfl⟩ (fun y hy => by
            rcases List.mem_append.mp hy with z | z
            · exact .inl z
            · exact .inr (List.mem_singleton.mp z)) (TA.fpl us ++ x.fp) (by rw [TA.fpl_append, fpl_one]) (List.Sublist.refl _)
          refine ek.nx _ _ _ _ R5 ?_
          rw [e8, tl_app, e3]
          exact hw3
      · exact hw3.elim
    · exact hw3.elim⟩
end
end VL
set_option Elab.async false
set_option linter.all false
set_option maxRecDepth 100000
set_option maxHeartbeats 4000000
/-! VL21: the checker of statements; it is sound. -/
namespace VL
open PySem PySem.Spec PyProof.Rows L2
section
variable {X : Cx} {Γ : Ctx} {b : Blk} {k : Nat} {pos p0 : Pos} {e : Expr} {c : E}
/-- a, b, .. = the items of a tuple, objects among them -/
def LGt (X : Cx) (ix : List Nat) (is : List Nat) : TGs := fun vs σ H Q => ∃ B Hs sl xs σ1, vs = xs.map TA.v ∧ Rel X.K ⟨B, ix⟩ Hs H σ sl xs ∧ TA.noTupl xs = true ∧ setsT is (TA.tl xs) (TA.tl sl) = some σ1 ∧ (∀ i ∈ is, i ∉ ix) ∧ ∀ σ' sl', Rel X.K ⟨B, ix⟩ Hs H σ' sl' [] → TA.tl sl' = σ1 → Q σ' H
theorem lgt_ok (C : CxOk X Γ b k) {ix : List Nat} : ∀ {is : List Nat} {es : List Expr}, tgsB b is es = true → PGs X es (LGt X ix is)
  | [], [], _ => ⟨fun pins s σ H vs us Q I r h => by
      obtain ⟨B, Hs, sl, xs, σ1, ev, R0, hn, hs, _, hk⟩ := h
      cases xs with
      | nil =>
        rw [TA.tl, setsT] at hs
        cases hs
        subst ev
        exact pgs_nil.run pins s σ H [] us Q I r ⟨rfl, hk σ sl R0 rfl⟩
      | cons _ _ => simp [TA.tl, setsT] at hs⟩
  | [], _ :: _, h => by simp [tgsB] at h
  | i :: is, [], h => by simp [tgsB] at h
  | i :: is, e :: es, h => by
    cases e <;> first | (exact (Bool.noConfusion h)) | skip
    rename_i x pos
    simp only [tgsB, Bool.and_eq_true] at h
    have ih := lgt_ok C (ix := ix) h.2
    refine ⟨fun pins s σ H vs us Q I r hw => ?_⟩
    obtain ⟨B, Hs, sl, xs, σ1, ev, R0, hn, hs, hf, hk⟩ := hw
    subst ev
    cases xs with
    | nil => simp [TA.tl, setsT] at hs
    | cons d ds =>
      rw [TA.tl, setsT] at hs
      split at hs
      · rename_i hi
        rw [TA.noTupl, Bool.and_eq_true] at hn
        rw [tl_len] at hi
        have R1 := Rel.setS (tp := ds) (x := d) (i := i) (R0.perm (tp' := ds ++ [d]) (by exact (List.perm_append_comm (l₁ := [d]) (l₂ := ds)))) hi (hf i (by simp)) hn.1
        exact (pgs_cons (lg_name C h.1) ih rfl).run pins s σ H _ us Q I r ⟨_, _, rfl, B, Hs, _, ds, σ1, rfl, R1, hn.2, by rw [tl_set]; exact hs, fun j hj => hf j (List.mem_cons_of_mem _ hj), hk⟩
      · cases hs
theorem setsT_len : ∀ {is : List Nat} {xs : List T} {σ σ1 : St}, setsT is xs σ = some σ1 → is.length = xs.length
  | [], [], _, _, _ => rfl
  | [], _ :: _, _, _, h => by simp [setsT] at h
  | _ :: _, [], _, _, h => by simp [setsT] at h
  | i :: is, x :: xs, σ, σ1, h => by
    rw [setsT] at h
    split at h
    · rw [List.length_cons, List.length_cons, setsT_len h]
    · cases h
def noTupE : Expr → Bool
  | .Tuple _ _ _ => false
  | _ => true
theorem ls_unp {is : List Nat} {es : List Expr} {kk : Nat} (C : CxOk X Γ b k) (h : tgsB b is es = true) (he : PEc X Γ e c) (hc : noComp e = true) (ht : noTupE e = true) : PS X (.Assign [.Tuple es kk p0] e pos) (LS X Γ.pin (wS Γ (.unp is c))) := ⟨fun pins s σ H D I hw => by
  obtain ⟨B, Hs, sl, P, R0, hw, ek⟩ := hw
  rw [wS] at hw
  obtain ⟨hfr, hw⟩ := hw
  obtain ⟨t1, t2⟩ := tgs_each (env := X.env) h
  have hsw : swapsWith e (some (.Tuple es kk p0)) pos.line X.env = pure false := by cases e <;> first | rfl | (exact (Bool.noConfusion hc))
  have hsw2 : swappedStores [.Tuple es kk p0] e X.env = pure none := by cases e <;> first | rfl | (exact (Bool.noConfusion ht))
  have hg : PGs X es (fun vs σ H Q => LGs X Γ.pin is vs σ H Q ∨ LGt X Γ.pin is vs σ H Q) := ⟨fun pins s σ H vs us Q I r h' => h'.elim (fun z => (lgs_ok C h).run pins s σ H vs us Q I r z) (fun z => (lgt_ok C h).run pins s σ H vs us Q I r z)⟩
  refine (ps_asg (he false) (pg_tup C.calm hg t1 t2) hsw hsw2).run pins s σ H D I ⟨B, Hs, sl, [], _, R0, hw, fun r v Hs1 H1 sl1 nw R1 rr st1 p => ?_⟩
  unfold unpW at p
  split at p
  · rename_i xs hx
    have d := (rr.dpT R1 hx).1
    split at p
    · rename_i σ1 hs
      cases d with
      | tup hr ha =>
        refine ⟨_, _, rfl, SqT.mono R1.sub hr, by rw [ha.length, ← setsD_len hs], .inl ⟨B, Hs1, sl1, [], _, σ1, R1.drop, ha, hs, free_of hfr, fun σ' sl' R2 e2 _ _ => ek.nx _ _ _ _ R2 (by rw [e2]; exact p)⟩⟩
    · exact p.elim
  · rename_i ts hx
    cases r with
    | p i q => exact p.elim
    | v t =>
      simp only at p
      obtain ⟨hn, p⟩ := p
      split at p
      · rename_i σ1 hs
        obtain ⟨a, us, rfl, rfl, e4, _, e6, _⟩ := rr.node R1 hx
        have e7 := e6 rfl
        subst e7
        refine ⟨a, us.map TA.v, rfl, SqT.of e4, by rw [List.length_map, setsT_len hs, tl_len], .inr ⟨B, Hs1, sl1, us, σ1, rfl, by simpa using R1.kids, by rw [← TA.noTup_tl]; exact hn, hs, free_of hfr, fun σ' sl' R2 e2 => ek.nx _ _ _ _ R2 (by rw [e2]; exact p)⟩⟩
      · exact p.elim
  · exact p.elim⟩
end
def swB (b : Blk) (y : Str) (py : Pos) : Expr → Bool
  | .ListComp _ _ scope pos => decide (b.sc.names.lookup y = some .local) && (py.line == pos.line) && !(scope.names.any fun (n, k) => n == y && (k == .local || k == .cell))
  | e => noComp e
def lcOnly (c : E) (e : Expr) : Bool := match e with
  | .ListComp _ _ _ _ => match c with
    | .lc _ _ _ _ _ _ => true
    | _ => false
  | _ => true
mutual
def chkS (Γ : Sk) (b : Blk) : S → Stmt → Bool
  | .asg i c, s => match s with
    | .Assign [.Name x p] e _ => tgB b i x && swB b x p e && lcOnly c e && chk Γ b c e
    | _ => false
  | .unp is c, s => match s with
    | .Assign [.Tuple es _ _] e _ => tgsB b is es && noComp e && noTupE e && chk Γ b c e
    | _ => false
  | .setix o i c, s => match s with
    | .Assign [.Subscript eo ei _] e _ => noSlice ei && noComp e && chk Γ b c e && chk Γ b o eo && chk Γ b i ei
    | _ => false
  | .setdix o i c, s => match s with
    | .Assign [.Subscript eo ei _] e _ => noSlice ei && noComp e && chk Γ b c e && chk Γ b o eo && chk Γ b i ei
    | _ => false
  | .augix op o i y, s => match s with
    | .AugAssign (.Subscript eo ei _) oo (.Constant (.int z) _ _) _ => bopIs op oo && (decide (op = .add) || decide (op = .sub)) && decide (y = z) && noSlice ei && chk Γ b o eo && chk Γ b i ei
    | _ => false
  | .setatt c a o p, s => match s with
    | .Assign [.Attribute eo nm _] e _ => decide (nm = a) && clsHas Γ c a && chk Γ b p e && chk Γ b o eo
    | _ => false
  | .rse, s => match s with
    | .Raise _ _ _ => true
    | _ => false
  | .aug i op c, s => match s with
    | .AugAssign (.Name x _) o e _ => tgB b i x && bopIs op o && (decide (op = .add) || decide (op = .sub)) && chk Γ b c e
    | _ => false
  | .ex c, s => match s with
    | .Expr e _ => noComp e && chk Γ b c e
    | _ => false
  | .ret c, s => match s with
    | .Return (some e) _ => chk Γ b c e
    | _ => false
  | .retm cs, s => match s with
    | .Return (some (.Tuple es _ _)) _ => chkL Γ b cs es
    | _ => false
  | .retN, s => match s with
    | .Return none _ => true
    | _ => false
  | .ife c p q, s => match s with
    | .If e a d _ => chk Γ b c e && chkSs Γ b p a && chkSs Γ b q d
    | _ => false
  | .for_ is it ies p, s => match s with
    | .For tg iter a [] _ => noSet iter && targB b is tg && enB it tg && chkIt Γ b it ies iter && chkSs Γ b p a
    | _ => false
  | .while_ c p, s => match s with
    | .While e a [] _ => chk Γ b c e && chkSs Γ b p a
    | _ => false
  | .pass, s => match s with
    | .Pass _ => true
    | _ => false
  | .brk, s => match s with
    | .Break _ => true
    | _ => false
  | .cnt, s => match s with
    | .Continue _ => true
    | _ => false
def chkSs (Γ : Sk) (b : Blk) : List S → List Stmt → Bool
  | [], ss => match ss with
    | [] => true
    | _ :: _ => false
  | q :: qs, ss => match ss with
    | s :: ss => chkS Γ b q s && chkSs Γ b qs ss
    | [] => false
end
theorem asg_ok {X : Cx} {Γ : Ctx} {b : Blk} {k : Nat} {i : Nat} {x : Str} {p pos : Pos} {c : E} {e : Expr} (C : CxOk X Γ b k) (h1 : tgB b i x = true) (h2 : swB b x p e = true) (h0 : lcOnly c e = true) (h : chk Γ.sk b c e = true) : PS X (.Assign [.Name x p] e pos) (tAsg (LE X Γ.pin false (wE Γ false c)) (gName i)) := by
  have h1' := h1
  unfold tgB at h1
  simp only [Bool.and_eq_true, decide_eq_true_eq] at h1
  obtain ⟨l1, l2⟩ := C.loc h1.2
  have plain : noComp e = true → PS X (.Assign [.Name x p] e pos) (tAsg (LE X Γ.pin false (wE Γ false c)) (gName i)) := fun hc =>
    ps_set (by rw [C.N]; exact C.nd) (by rw [C.N]; exact h1.1) l1 ((sE Γ k c b e X C h).pe false) (by cases e <;> first | rfl | (exact (Bool.noConfusion hc))) l2
  unfold swB at h2
  split at h2
  · rename_i e1 gs scope lpos
    simp only [Bool.and_eq_true, decide_eq_true_eq, Bool.not_eq_true'] at h2
    cases c with
    | lc is bor elt it ies cond =>
      unfold chk at h
      split at h
      · rename_i heq
        cases heq
        simp only [Bool.and_eq_true, decide_eq_true_eq, beq_iff_eq] at h
        obtain ⟨⟨⟨⟨⟨⟨⟨⟨⟨⟨⟨h1, h3⟩, h4⟩, h5⟩, h6⟩, h7⟩, h8⟩, h9⟩, h10⟩, h11⟩, h12⟩, h13⟩ := h
        subst h1
        refine ls_lc C (free_of h3) h4 h5 h6 h7 h8 (fun pu bor => sI Γ k it ies b _ X _ C h9 h13) (fun X' C' => (sE Γ k elt _ _ X' C' h10).pe) ?_ h1.1 h2.1.1 h2.1.2 h2.2
        rename_i ifs
        cases ifs with
        | nil => exact .inl ⟨rfl, by cases cond with | nil => rfl | cons _ _ => simp [chkL] at h11⟩
        | cons ec ifs =>
          cases ifs with
          | cons _ _ => simp at h12
          | nil =>
            cases cond with
            | nil => simp [chkL] at h11
            | cons c cond =>
              cases cond with
              | cons _ _ => simp [chkL] at h11
              | nil =>
                refine .inr ⟨ec, c, rfl, rfl, fun X' C' => ?_⟩
                simp only [chkL, Bool.and_eq_true] at h11
                exact (sE Γ k c _ _ X' C' h11.1.2).pt
      · cases h
    | _ => exact (Bool.noConfusion h0)
  · exact plain h2
mutual
theorem sS (Γ : Ctx) (k : Nat) {X : Cx} {b : Blk} (C : CxOk X Γ b k) (hp : PassesOwn (model X.prog X.w) X.A X.env X.xe) : ∀ (q : S) (s : Stmt), chkS Γ.sk b q s = true → PS X s (LS X Γ.pin (wS Γ q))
  | .asg i c, s, h => by
    unfold chkS at h
    split at h
    · simp only [Bool.and_eq_true] at h
      exact ls_asg (asg_ok C h.1.1.1 h.1.1.2 h.1.2 h.2)
    · cases h
  | .unp is c, s, h => by
    unfold chkS at h
    split at h
    · simp only [Bool.and_eq_true] at h
      exact ls_unp C h.1.1.1 (sE Γ k c b _ X C h.2).pe h.1.1.2 h.1.2
    · cases h
  | .setix o i c, s, h => by
    unfold chkS at h
    split at h
    · simp only [Bool.and_eq_true] at h
      exact ls_setix (sE Γ k c b _ X C h.1.1.2).pe (sE Γ k o b _ X C h.1.2).pe (sE Γ k i b _ X C h.2).pe h.1.1.1.1 h.1.1.1.2
    · cases h
  | .setdix o i c, s, h => by
    unfold chkS at h
    split at h
    · simp only [Bool.and_eq_true] at h
      exact ls_setdix C (sE Γ k c b _ X C h.1.1.2).pe (sE Γ k o b _ X C h.1.2).pe (sE Γ k i b _ X C h.2).pe h.1.1.1.1 h.1.1.1.2
    · cases h
  | .augix op o i y, s, h => by
    unfold chkS at h
    split at h
    · simp only [Bool.and_eq_true, Bool.or_eq_true, decide_eq_true_eq] at h
      have e1 := bopIs_eq h.1.1.1.1.1
      subst e1
      have e2 := h.1.1.1.2
      subst e2
      exact ls_augix (sE Γ k o b _ X C h.1.2).pe (sE Γ k i b _ X C h.2).pe h.1.1.2 h.1.1.1.1.2
    · cases h
  | .setatt c a o p, s, h => by
    unfold chkS at h
    split at h
    · simp only [Bool.and_eq_true, decide_eq_true_eq] at h
      obtain ⟨⟨⟨rfl, h2⟩, h3⟩, h4⟩ := h
      exact ls_setatt C h2 (sE Γ k p b _ X C h3).pe (sE Γ k o b _ X C h4).pe
    · cases h
  | .rse, s, h => by
    unfold chkS at h
    split at h
    · exact ls_rse
    · cases h
  | .aug i op c, s, h => by
    unfold chkS at h
    split at h
    · simp only [Bool.and_eq_true, Bool.or_eq_true, decide_eq_true_eq] at h
      have e1 := bopIs_eq h.1.1.2
      subst e1
      exact ls_aug C h.1.1.1 h.1.2 (sE Γ k c b _ X C h.2).pe
    · cases h
  | .ex c, s, h => by
    unfold chkS at h
    split at h
    · simp only [Bool.and_eq_true] at h
      rename_i e p
      exact ls_ex (sE Γ k c b _ X C h.2).pe (by have := h.1; cases e <;> first | rfl | (exact (Bool.noConfusion this)))
    · cases h
  | .ret c, s, h => by
    unfold chkS at h
    split at h
    · exact ls_ret (sE Γ k c b _ X C h).pe
    · cases h
  | .retm cs, s, h => by
    unfold chkS at h
    split at h
    · exact ls_retm (sL Γ k cs b _ X C h).1.2
    · cases h
  | .retN, s, h => by
    unfold chkS at h
    split at h
    · exact ls_retN
    · cases h
  | .ife c p q, s, h => by
    unfold chkS at h
    split at h
    · simp only [Bool.and_eq_true] at h
      exact ls_if (sE Γ k c b _ X C h.1.1).pt (sSs Γ k C hp p _ h.1.2) (sSs Γ k C hp q _ h.2)
    · cases h
  | .for_ is it ies p, s, h => by
    unfold chkS at h
    split at h
    · simp only [Bool.and_eq_true] at h
      obtain ⟨⟨⟨⟨h1, h2⟩, h3⟩, h4⟩, h5⟩ := h
      exact ls_for hp C h1 h2 (fun pu bor => sI Γ k it ies b _ X _ C h4 h3) (sSs Γ k C hp p _ h5)
    · cases h
  | .while_ c p, s, h => by
    unfold chkS at h
    split at h
    · simp only [Bool.and_eq_true] at h
      exact ls_while hp (sE Γ k c b _ X C h.1).pt (sSs Γ k C hp p _ h.2)
    · cases h
  | .pass, s, h => by
    unfold chkS at h
    split at h
    · exact ls_pass
    · cases h
  | .brk, s, h => by
    unfold chkS at h
    split at h
    · exact ls_brk
    · cases h
  | .cnt, s, h => by
    unfold chkS at h
    split at h
    · exact ls_cnt
    · cases h
theorem sSs (Γ : Ctx) (k : Nat) {X : Cx} {b : Blk} (C : CxOk X Γ b k) (hp : PassesOwn (model X.prog X.w) X.A X.env X.xe) : ∀ (qs : List S) (ss : List Stmt), chkSs Γ.sk b qs ss = true → PSs X ss (LS X Γ.pin (wSs Γ qs))
  | [], ss, h => by
    unfold chkSs at h
    split at h
    · exact ls_nil
    · cases h
  | q :: qs, ss, h => by
    unfold chkSs at h
    split at h
    · simp only [Bool.and_eq_true] at h
      exact ls_cons (sS Γ k C hp q _ h.1) (sSs Γ k C hp qs _ h.2)
    · cases h
end
end VL
set_option Elab.async false
set_option linter.all false
set_option maxRecDepth 100000
set_option maxHeartbeats 4000000
/-! VL22: a def keeps its promise. -/
namespace VL
open PySem PySem.Spec PyProof.Rows L2
/-- the slots of the arguments that may be changed -/
def ownIx : List Md → Nat → List Nat
  | [], _ => []
  | .own :: ms, i => i :: ownIx ms (i + 1)
  | .bor :: ms, i => ownIx ms (i + 1)
/-- the arguments behind the call -/
def outs : List Md → List T → St → Option (List T)
  | [], _, _ => some []
  | .own :: ms, _ :: ts, s :: σ => if s.isDead then none else (outs ms ts σ).map (s :: ·)
  | .bor :: ms, _ :: ts, _ :: σ => (outs ms ts σ).map (.dead :: ·)
  | _ :: _, _, _ => none
def outW (md : List Md) (ts : List T) (σ : St) (K : List T → Prop) : Prop := match outs md ts σ with
  | some us => K us
  | none => False
def ends (md : List Md) (ts : List T) (Q : T → List T → Prop) : AE := { nx := fun σ => outW md ts σ fun us => Q (.d .none) us, rt := fun r σ => outW md ts σ fun us => Q r us }
/-- what a body owes -/
def bodyW (Γ : Ctx) (N : List Str) (md : List Md) (body : List S) (F : List T → (T → List T → Prop) → Prop) : Prop :=
  ∀ ts Q, F ts Q → ts.length = md.length → wSs Γ body (ends md ts Q) (ts ++ List.replicate (N.length - ts.length) .dead)
def outsA : List Md → List TA → List TA → List TA
  | [], _, _ => []
  | .own :: ms, _ :: as, s :: sl => s :: outsA ms as sl
  | .bor :: ms, a :: as, _ :: sl => .dead a.v :: outsA ms as sl
  | _ :: _, _, _ => []
/-- the pins -/
def pinsV : List Md → List V → Nat → List (Nat × V)
  | .own :: ms, v :: vs, i => (i, v) :: pinsV ms vs (i + 1)
  | .bor :: ms, _ :: vs, i => pinsV ms vs (i + 1)
  | _, _, _ => []
theorem pinsV_mem : ∀ {md : List Md} {vs : List V} {i : Nat} {p : Nat × V}, p ∈ pinsV md vs i → ∃ j : Nat, p.1 = i + j ∧ md[j]? = some .own ∧ vs[j]? = some p.2
  | [], vs, i, p, h => by cases vs <;> simp [pinsV] at h
  | m :: ms, [], i, p, h => by cases m <;> simp [pinsV] at h
  | .own :: ms, v :: vs, i, p, h => by
    rw [pinsV] at h
    rcases List.mem_cons.mp h with rfl | h
    · exact ⟨0, rfl, rfl, rfl⟩
    · obtain ⟨j, h1, h2, h3⟩ := pinsV_mem h
      exact ⟨j + 1, by omega, h2, h3⟩
  | .bor :: ms, v :: vs, i, p, h => by
    rw [pinsV] at h
    obtain ⟨j, h1, h2, h3⟩ := pinsV_mem h
    exact ⟨j + 1, by omega, h2, h3⟩
theorem pinsV_in : ∀ {md : List Md} {vs : List V} {i j : Nat} {v : V}, md[j]? = some .own → vs[j]? = some v → (i + j, v) ∈ pinsV md vs i
  | [], vs, i, j, v, h, _ => by simp at h
  | m :: ms, [], i, j, v, _, h => by simp at h
  | .own :: ms, w :: vs, i, 0, v, h, h2 => by
    simp at h2
    subst h2
    simp [pinsV]
  | .bor :: ms, w :: vs, i, 0, v, h, h2 => by simp at h
  | .own :: ms, w :: vs, i, j + 1, v, h, h2 => by
    have := pinsV_in (i := i + 1) (by simpa using h) (by simpa using h2)
    rw [pinsV]
    refine List.mem_cons_of_mem _ ?_
    rw [show i + (j + 1) = i + 1 + j by omega]
    exact this
  | .bor :: ms, w :: vs, i, j + 1, v, h, h2 => by
    have := pinsV_in (i := i + 1) (by simpa using h) (by simpa using h2)
    rw [pinsV]
    rw [show i + (j + 1) = i + 1 + j by omega]
    exact this
theorem ownIx_mem : ∀ {md : List Md} {i j : Nat}, md[j]? = some .own → i + j ∈ ownIx md i
  | [], i, j, h => by simp at h
  | .own :: ms, i, 0, h => by simp [ownIx]
  | .bor :: ms, i, 0, h => by simp at h
  | .own :: ms, i, j + 1, h => by
    rw [ownIx, show i + (j + 1) = i + 1 + j by omega]
    exact List.mem_cons_of_mem _ (ownIx_mem (by simpa using h))
  | .bor :: ms, i, j + 1, h => by
    rw [ownIx, show i + (j + 1) = i + 1 + j by omega]
    exact ownIx_mem (by simpa using h)
theorem outsA_spec : ∀ {md : List Md} {as sl : List TA}, as.length = md.length → md.length ≤ sl.length → (outsA md as sl).length = md.length ∧ (∀ (j : Nat), md[j]? = some .own → (outsA md as sl)[j]? = sl[j]?) ∧ (∀ (j : Nat), md[j]? = some .bor → (outsA md as sl)[j]? = (as[j]?).map fun a => .dead a.v)
  | [], as, sl, _, _ => ⟨rfl, fun j h => by simp at h, fun j h => by simp at h⟩
  | m :: ms, [], sl, h, _ => by simp at h
  | m :: ms, a :: as, [], _, h => by simp at h
  | m :: ms, a :: as, s :: sl, h1, h2 => by
    obtain ⟨l, f, g⟩ := outsA_spec (md := ms) (as := as) (sl := sl) (by simpa using h1) (by simpa using h2)
    cases m with
    | own =>
      rw [outsA]
      refine ⟨by simp [l], fun j hj => ?_, fun j hj => ?_⟩
      · cases j with
        | zero => rfl
        | succ j => simpa using f j (by simpa using hj)
      · cases j with
        | zero => simp at hj
        | succ j => simpa using g j (by simpa using hj)
    | bor =>
      rw [outsA]
      refine ⟨by simp [l], fun j hj => ?_, fun j hj => ?_⟩
      · cases j with
        | zero => simp at hj
        | succ j => simpa using f j (by simpa using hj)
      · cases j with
        | zero => rfl
        | succ j => simpa using g j (by simpa using hj)
theorem outsA_fp : ∀ {md : List Md} {as sl : List TA}, (TA.fpl (outsA md as sl)).Sublist (TA.fpl sl)
  | [], as, sl => by rw [outsA, TA.fpl]; exact List.nil_sublist _
  | m :: ms, [], sl => by cases m <;> (simp only [outsA, TA.fpl]; exact List.nil_sublist _)
  | m :: ms, a :: as, [] => by cases m <;> (simp only [outsA, TA.fpl]; exact List.nil_sublist _)
  | .own :: ms, a :: as, s :: sl => by
    rw [outsA, TA.fpl, TA.fpl]
    exact List.Sublist.append (List.Sublist.refl _) outsA_fp
  | .bor :: ms, a :: as, s :: sl => by
    rw [outsA, TA.fpl, TA.fpl, TA.fp, List.nil_append]
    exact outsA_fp.trans (List.sublist_append_right _ _)
theorem outs_tl : ∀ {md : List Md} {as sl : List TA} {us : List T}, outs md (TA.tl as) (TA.tl sl) = some us → us = TA.tl (outsA md as sl) ∧ ∀ (j : Nat) t, md[j]? = some .own → sl[j]? = some t → t.isDead = false
  | [], as, sl, us, h => by
    rw [outs] at h
    cases h
    exact ⟨by rw [outsA, TA.tl], fun j t h => by simp at h⟩
  | m :: ms, [], sl, us, h => by cases m <;> simp [TA.tl, outs] at h
  | m :: ms, a :: as, [], us, h => by cases m <;> simp [TA.tl, outs] at h
  | .own :: ms, a :: as, s :: sl, us, h => by
    rw [TA.tl, TA.tl, outs] at h
    split at h
    · cases h
    · rename_i hd
      obtain ⟨us', e1, rfl⟩ := Option.map_eq_some_iff.mp h
      obtain ⟨e2, f⟩ := outs_tl e1
      refine ⟨by rw [outsA, TA.tl, e2], fun j t h1 h2 => ?_⟩
      cases j with
      | zero =>
        simp at h2
        subst h2
        rw [TA.isDead_t] at hd
        simpa using hd
      | succ j => exact f j t (by simpa using h1) (by simpa using h2)
  | .bor :: ms, a :: as, s :: sl, us, h => by
    rw [TA.tl, TA.tl, outs] at h
    obtain ⟨us', e1, rfl⟩ := Option.map_eq_some_iff.mp h
    obtain ⟨e2, f⟩ := outs_tl e1
    refine ⟨by rw [outsA, TA.tl, e2, TA.t], fun j t h1 h2 => ?_⟩
    cases j with
    | zero => simp at h1
    | succ j => exact f j t (by simpa using h1) (by simpa using h2)
theorem outs_len : ∀ {md : List Md} {ts : List T} {σ : St} {us : List T}, outs md ts σ = some us → md.length ≤ σ.length
  | [], _, _, _, _ => Nat.zero_le _
  | m :: ms, [], σ, us, h => by cases m <;> simp [outs] at h
  | m :: ms, t :: ts, [], us, h => by cases m <;> simp [outs] at h
  | .own :: ms, t :: ts, s :: σ, us, h => by
    rw [outs] at h
    split at h
    · cases h
    · obtain ⟨us', e1, _⟩ := Option.map_eq_some_iff.mp h
      simpa using outs_len e1
  | .bor :: ms, t :: ts, s :: σ, us, h => by
    rw [outs] at h
    obtain ⟨us', e1, _⟩ := Option.map_eq_some_iff.mp h
    simpa using outs_len e1
/-- what a context of calls and names needs -/
structure GOk (P : Program) (w : World) (K : PySem.W.Frag) (mg : Str → Option Value) (base : Heap) (Γ : Ctx) (k : Nat) : Prop where
  glob : ∀ g x, Γ.glob.lookup g = some x → ∃ v u, mg g = some u ∧ RelV v u ∧ ∀ Hs, Rp K Hs v x
  bi : ∀ n ∈ Γ.bs, mg n = none
  fns : ∀ f fs, Γ.fn.lookup f = some fs → ∃ a fd ps, FnG P w K mg base CX0 k a fd ps (spV K fs.md fs.F) ∧ mg f = some (.ref a) ∧ PySem.W.keepIn K (.ref a) = true ∧ Binds K fd ps []
  cls : ∀ c ci, Γ.cls.lookup c = some ci → ClsOk P w K mg base k c ci
section
variable {P : Program} {w : World} {K : PySem.W.Frag} {mg : Str → Option Value} {base : Heap}
theorem rel_start {N : List Str} {md : List Md} {Hs H : Hp} {vs : List V} {as : List TA} (hl : vs.length = md.length) (hN : vs.length ≤ N.length) (R : Rel K ⟨⟨H, Hs, TA.fpl as, []⟩, []⟩ Hs H (vs.map some) as []) (hv : as.map TA.v = vs) :
    Rel K ⟨⟨H, Hs, TA.fpl as, pinsV md vs 0⟩, ownIx md 0⟩ Hs H (L2.start N vs) (as ++ List.replicate (N.length - vs.length) (.dead .non)) [] := by
  have fr : ∀ n, TA.fpl (List.replicate n (TA.dead V.non)) = [] := fun n => by
    induction n with
    | zero => rfl
    | succ n ih => rw [List.replicate_succ, TA.fpl, ih]; rfl
  have ha : as.length = vs.length := by rw [← hv, List.length_map]
  have ef : TA.fpl ((as ++ List.replicate (N.length - vs.length) (.dead .non)) ++ []) = TA.fpl (as ++ []) := by rw [List.append_nil, List.append_nil, TA.fpl_append, fr, List.append_nil]
  refine ⟨?_, fun i t ht hd => ?_, ?_, by rw [ef]; exact R.uq, by rw [ef]; exact R.out, R.sub, R.keep, by rw [ef]; exact R.fresh, R.hs, R.hsNew, fun t ht => ?_, fun p hp => ?_⟩
  · unfold L2.start
    rw [List.length_append, List.length_append, List.length_replicate, List.length_replicate, List.length_map, ha]
  · by_cases hi : i < as.length
    · rw [List.getElem?_append_left hi] at ht
      have := R.val i t ht hd
      unfold L2.start
      rw [List.getElem?_append_left (by rw [List.length_map, ← ha]; exact hi)]
      exact this
    · rw [List.getElem?_append_right (by omega)] at ht
      have := List.mem_of_getElem? ht
      rw [(List.mem_replicate.mp this).2] at hd
      cases hd
  · rw [List.append_nil]
    have := R.ok
    rw [List.append_nil] at this
    refine TA.okl_append.mpr ⟨this, TA.okl_all.mpr fun t ht => ?_⟩
    rw [(List.mem_replicate.mp ht).2, TA.ok]
    trivial
  · rcases List.mem_append.mp ht with z | z
    · exact R.ntup t z
    · rw [(List.mem_replicate.mp z).2]
      rfl
  · obtain ⟨j, e1, e2, e3⟩ := pinsV_mem hp
    have hj : j < as.length := by rw [ha]; exact (List.getElem?_eq_some_iff.mp e3).1
    refine ⟨by rw [e1]; exact ownIx_mem e2, as[j], ?_, ?_⟩
    · rw [e1, Nat.zero_add, List.getElem?_append_left hj, List.getElem?_eq_getElem hj]
    · rw [← hv, List.getElem?_map, List.getElem?_eq_getElem hj] at e3
      exact Option.some.inj e3
theorem rel_end {md : List Md} {Hs H Hs' H' : Hp} {vs : List V} {as sl : List TA} {σ : L2.St} {x : TA} {us : List T} (hl : vs.length = md.length) (R0 : Rel K ⟨⟨H, Hs, TA.fpl as, []⟩, []⟩ Hs H (vs.map some) as []) (hv : as.map TA.v = vs) (hd : ∀ t ∈ as, t.isDead = false)
    (hb : ∀ (i : Nat) (t : TA), md[i]? = some Md.bor → as[i]? = some t → ∃ v x, t = TA.d v x) (R : Rel K ⟨⟨H, Hs, TA.fpl as, pinsV md vs 0⟩, ownIx md 0⟩ Hs' H' σ sl [x]) (hlen : md.length ≤ sl.length) (ho : outs md (TA.tl as) (TA.tl sl) = some us) :
    us = TA.tl (outsA md as sl) ∧ Rel K ⟨⟨H, Hs, TA.fpl as, []⟩, []⟩ Hs' H' (vs.map some) (outsA md as sl) [x] ∧ (outsA md as sl).map TA.v = vs ∧ ∀ (i : Nat) (t : TA), md[i]? = some Md.own → (outsA md as sl)[i]? = some t → t.isDead = false := by
  obtain ⟨e1, nd⟩ := outs_tl ho
  have ha : as.length = md.length := by rw [← hl, ← hv, List.length_map]
  obtain ⟨l, f, g⟩ := outsA_spec (md := md) (as := as) (sl := sl) ha hlen
  have sb : (TA.fpl (outsA md as sl)).Sublist (TA.fpl sl) := outsA_fp
  have sb2 : (TA.fpl (outsA md as sl ++ [x])).Sublist (TA.fpl (sl ++ [x])) := by
    rw [TA.fpl_append, TA.fpl_append]
    exact sb.append (List.Sublist.refl _)
  -- each of them
  have each : ∀ (j : Nat) t, (outsA md as sl)[j]? = some t → (md[j]? = some .own → t.isDead = false) ∧ vs[j]? = some t.v ∧ t.ok K Hs' H' ∧ t.noTup = true := fun j t ht => by
    have hj : j < md.length := by rw [← l]; exact (List.getElem?_eq_some_iff.mp ht).1
    cases hm : md[j] with
    | own =>
      have hm' : md[j]? = some .own := by rw [List.getElem?_eq_getElem hj, hm]
      rw [f j hm'] at ht
      have hjv : j < vs.length := by omega
      obtain ⟨_, t', h1, h2⟩ := R.pin (0 + j, vs[j]) (pinsV_in hm' (List.getElem?_eq_getElem hjv))
      simp only [Nat.zero_add] at h1
      rw [ht] at h1
      cases h1
      exact ⟨fun _ => nd j t hm' ht, by rw [List.getElem?_eq_getElem hjv, h2], R.slot_ok ht, R.ntup t (List.mem_of_getElem? ht)⟩
    | bor =>
      have hm' : md[j]? = some .bor := by rw [List.getElem?_eq_getElem hj, hm]
      rw [g j hm'] at ht
      obtain ⟨t0, h0, rfl⟩ := Option.map_eq_some_iff.mp ht
      refine ⟨fun z => ?_, by rw [← hv, List.getElem?_map, h0]; rfl, by rw [TA.ok]; trivial, rfl⟩
      rw [hm'] at z
      cases z
  have eachm : ∀ t ∈ outsA md as sl, t.ok K Hs' H' ∧ t.noTup = true := fun t ht => by
    obtain ⟨j, hj, rfl⟩ := List.mem_iff_getElem.mp ht
    obtain ⟨a, b, c, d⟩ := each j _ (List.getElem?_eq_getElem hj)
    exact ⟨c, d⟩
  refine ⟨e1, ⟨by rw [l, List.length_map, hl], fun i t ht _ => by rw [List.getElem?_map, (each i t ht).2.1]; rfl, TA.okl_append.mpr ⟨TA.okl_all.mpr fun t ht => (eachm t ht).1, R.okT⟩, sb2.nodup R.uq, fun a ha => R.out a (sb2.subset ha), R.sub, R.keep, fun a ha => R.fresh a (sb2.subset ha), R.hs, R.hsNew, fun t ht => (eachm t ht).2, fun p hp => by cases hp⟩, ?_, fun j t h1 h2 => (each j t h2).1 h1⟩
  apply List.ext_getElem?
  intro j
  by_cases hj : j < md.length
  · have ht := List.getElem?_eq_getElem (l := outsA md as sl) (i := j) (by rw [l]; exact hj)
    rw [List.getElem?_map, ht, (each j _ ht).2.1]
    rfl
  · rw [List.getElem?_eq_none (by rw [List.length_map, l]; omega), List.getElem?_eq_none (by omega)]
theorem fn_ok {x qual : Str} {st : Stmt} {f : Addr} {fd : FuncData} {N ps : List Str} {k : Nat} {Γ : Ctx} {md : List Md} {body : List S} {F : List T → (T → List T → Prop) → Prop} (Fn : Fun K x qual st f fd) (Sc : FnScope N ps (defScope st)) (hmd : md.length = ps.length)
    (G : GOk P w K mg base Γ k) (hpin : Γ.pin = ownIx md 0) (hchk : chkSs Γ.sk ⟨N, defScope st, fun _ => true⟩ body (defBody st) = true) (hF : bodyW Γ N md body F) : FnG P w K mg base CX0 (k + 1) f fd ps (spV K md F) := by
  refine fun_okG Fn Sc (fun vs H Q E h => ?_) (fun cdv A outer s H vs Q E hr hgd h => ?_)
  · obtain ⟨_, _, _, hl, _⟩ := h
    rw [hl, hmd]
  · obtain ⟨Hs, as, Pq, hl, R0, hv, hd, hb, hf, hk⟩ := h
    have hpl : ps.length ≤ N.length := by
      have := congrArg List.length Sc.pre
      rw [List.length_take] at this
      omega
    have ha : as.length = md.length := by rw [← hl, ← hv, List.length_map]
    refine ⟨_, sSs Γ k (X := (cxOf CX0 P w K mg base N qual (defScope st) f cdv A outer s H E).nox) (b := ⟨N, defScope st, fun _ => true⟩) ⟨rfl, rfl, rfl, hr, hgd, Sc.nd, fun _ _ => rfl, G.glob, G.bi, G.fns, G.cls⟩ PassesOwn.never body _ hchk, ?_⟩
    rw [hpin]
    refine ⟨_, Hs, _, { nx := fun σ => outW md (TA.tl as) σ fun us => Pq (.d .none) us, rt := fun r σ => outW md (TA.tl as) σ fun us => Pq r us }, rel_start hl (by omega) R0 hv, ?_, ?_⟩
    · have hw := hF (TA.tl as) Pq hf (by rw [tl_len, ha])
      have e : TA.tl (as ++ List.replicate (N.length - vs.length) (.dead .non)) = TA.tl as ++ List.replicate (N.length - (TA.tl as).length) .dead := by
        rw [tl_app, tl_len, ha, ← hl]
        congr 1
        rw [TA.tl_map, List.map_replicate]
        rfl
      rw [e]
      exact hw
    · have fin : ∀ (y : TA) Hs' H' σ' sl', Rel K ⟨⟨H, Hs, TA.fpl as, pinsV md vs 0⟩, ownIx md 0⟩ Hs' H' σ' sl' [y] → y.isDead = false → outW md (TA.tl as) (TA.tl sl') (fun us => Pq y.t us) → Q y.v H' := fun y Hs' H' σ' sl' R1 yd ho => by
        unfold outW at ho
        split at ho
        · rename_i us hus
          have hlen : md.length ≤ sl'.length := by
            have := outs_len hus
            rw [tl_len] at this
            exact this
          obtain ⟨e1, R2, e3, e4⟩ := rel_end hl R0 hv hd hb R1 hlen hus
          exact hk H' Hs' _ y R2 e3 e4 yd (by rw [← e1]; exact ho)
        · exact ho.elim
      exact ⟨fun Hs' H' σ' sl' R1 ho => fin (.d .non .none) Hs' H' σ' sl' (Rel.leaf (K := K) (tp := []) R1 .non) rfl ho, fun y Hs' H' σ' sl' R1 yd ho => fin y Hs' H' σ' sl' R1 yd ho, fun _ _ _ _ _ z => z.elim, fun _ _ _ _ _ z => z.elim⟩
end
end VL
set_option Elab.async false
set_option linter.all false
set_option maxRecDepth 100000
set_option maxHeartbeats 4000000
/-! VL23: the law's own promise. -/
namespace VL
open PySem PySem.Spec PyProof.Rows L2
def FLaw (n : Nat) : List T → (T → List T → Prop) → Prop := fun ts Q => ∃ ns : List Int, ns.length ≤ n ∧ ts = [.d (.list (ns.map .int))] ∧ ∀ us, Q (.d (.bool true)) us
theorem ints_rp {K : PySem.W.Frag} {H : Hp} : ∀ ns : List Int, RpAll K H (ns.map V.int) (ns.map PyData.int)
  | [] => .nil
  | n :: ns => .cons (.int n) (ints_rp ns)
theorem law_sp {K : PySem.W.Frag} {H : Hp} {a : Addr} {ns : List Int} {n : Nat} {E : XK} (hl : ns.length ≤ n) (hS : SqL K H a (ns.map V.int)) : spV K [.bor] (FLaw n) [.ref a] H (fun v _ => v = .bl true) E := by
  refine ⟨H, [.d (.ref a) (.list (ns.map .int))], fun r _ => r = .d (.bool true), rfl, ⟨rfl, fun i t ht hd => ?_, ?_, ?_, ?_, Same.refl _, fun a o h _ => h, ?_, Same.refl _, fun a h => .inl h, ?_, ?_⟩, rfl, ?_, ?_, ⟨ns, hl, rfl, fun _ => rfl⟩, fun H' Hs' as' r R _ _ _ hr => ?_⟩
  · cases i with
    | zero => simp at ht; subst ht; rfl
    | succ i => simp at ht
  · refine TA.okl_all.mpr fun t ht => ?_
    simp at ht
    subst ht
    rw [TA.ok]
    exact .lst hS (ints_rp ns)
  · simp [TA.fpl, TA.fp]
  · intro b hb
    simp [TA.fpl, TA.fp] at hb
  · intro b hb
    simp [TA.fpl, TA.fp] at hb
  · intro t ht
    simp at ht
    subst ht
    rfl
  · intro p hp
    cases hp
  · intro t ht
    simp at ht
    subst ht
    rfl
  · intro i t _ ht
    cases i with
    | zero => simp at ht; exact ⟨_, _, ht.symm⟩
    | succ i => simp at ht
  · have ok := R.okT
    cases r with
    | dead => cases hr
    | nd => cases hr
    | d v y =>
      rw [TA.t] at hr
      cases hr
      rw [TA.okl, TA.ok] at ok
      exact ok.1.bool_v
end VL
set_option Elab.async false
set_option linter.all false
set_option maxRecDepth 100000
set_option maxHeartbeats 4000000
/-! VL24: a context, piece by piece. -/
namespace VL
open PySem PySem.Spec PyProof.Rows L2
section
variable {P : Program} {w : World} {K : PySem.W.Frag} {mg : Str → Option Value} {base : Heap} {k : Nat}
def FnI (P : Program) (w : World) (K : PySem.W.Frag) (mg : Str → Option Value) (base : Heap) (k : Nat) (f : Str) (fs : FS) : Prop :=
  ∃ a fd ps, FnG P w K mg base CX0 k a fd ps (spV K fs.md fs.F) ∧ mg f = some (.ref a) ∧ PySem.W.keepIn K (.ref a) = true ∧ Binds K fd ps []
theorem FnI.mono {f : Str} {fs : FS} {j k : Nat} (h : FnI P w K mg base j f fs) (hjk : j ≤ k) : FnI P w K mg base k f fs := by
  obtain ⟨a, fd, ps, h1, h2⟩ := h
  exact ⟨a, fd, ps, h1.mono hjk, h2⟩
theorem fns_nil : ∀ f fs, ([] : List (Str × FS)).lookup f = some fs → FnI P w K mg base k f fs := fun f fs h => by cases h
theorem fns_cons {f0 : Str} {fs0 : FS} {l : List (Str × FS)} (h1 : FnI P w K mg base k f0 fs0) (h2 : ∀ f fs, l.lookup f = some fs → FnI P w K mg base k f fs) : ∀ f fs, ((f0, fs0) :: l).lookup f = some fs → FnI P w K mg base k f fs := fun f fs h => by
  rw [List.lookup_cons] at h
  split at h
  · rename_i e
    have e' : f = f0 := by simpa using e
    subst e'
    cases h
    exact h1
  · exact h2 f fs h
theorem bi_nil : ∀ n ∈ ([] : List Str), mg n = none := fun n h => by cases h
theorem bi_cons {n : Str} {l : List Str} (h1 : mg n = none) (h2 : ∀ n ∈ l, mg n = none) : ∀ m ∈ n :: l, mg m = none := fun m h => by
  rcases List.mem_cons.mp h with rfl | h
  · exact h1
  · exact h2 m h
theorem gl_nil : ∀ g x, ([] : List (Str × PyData)).lookup g = some x → ∃ v u, mg g = some u ∧ RelV v u ∧ ∀ Hs, Rp K Hs v x := fun g x h => by cases h
theorem cl_nil : ∀ c ci, ([] : List (Str × CI)).lookup c = some ci → ClsOk P w K mg base k c ci := fun c ci h => by cases h
/-- a def, ready to be called -/
theorem fn_in {x qual : Str} {st : Stmt} {f : Addr} {fd : FuncData} {N ps : List Str} {Γ : Ctx} {md : List Md} {body : List S} {F : List T → (T → List T → Prop) → Prop} (Fn : Fun K x qual st f fd) (hmg : mg x = some (.ref f)) (hb : Binds K fd ps []) (Sc : FnScope N ps (defScope st)) (hmd : md.length = ps.length)
    (G : GOk P w K mg base Γ k) (hpin : Γ.pin = ownIx md 0) (hchk : chkSs Γ.sk ⟨N, defScope st, fun _ => true⟩ body (defBody st) = true) (hF : bodyW Γ N md body F) : FnI P w K mg base (k + 1) x ⟨md, F⟩ :=
  ⟨f, fd, ps, fn_ok Fn Sc hmd G hpin hchk hF, hmg, Fn.kp, hb⟩
end
end VL
set_option Elab.async false
set_option linter.all false
set_option maxRecDepth 100000
set_option maxHeartbeats 4000000
namespace VL
open PySem PySem.Spec PyProof.Rows L2
def n_law_pool : List Str := ["_law_script", "_law_k", "_law_cell", "_law_seed"]
def b_law_pool : List S := [.asg 2 (.k (.int 0)), .ife (.cmp .ne (.var 0) (.lst [])) [.asg 2 (.ix (.var 0) (.bin .mod (.var 1) (.blt .len [.var 0])))] [], .ife (.cmp .ge (.var 1) (.blt .len [.var 0])) [.asg 2 (.ix (.lst [.bin .mod (.var 2) (.k (.int 1000003)), .bin .fdiv (.var 2) (.bin .pow (.k (.int 10)) (.k (.int 18)))]) (.blt .int [.cmp .ge (.var 2) (.bin .pow (.k (.int 10)) (.k (.int 36)))]))] [], .asg 3 (.bin .mod (.bin .mul (.bin .add (.bin .add (.bin .mod (.var 2) (.k (.int 2147483629))) (.bin .mul (.k (.int 104729)) (.var 1))) (.k (.int 11))) (.k (.int 48271))) (.k (.int 2147483647))), .ret (.lst [.bin .mul (.var 2) (.blt .int [.cmp .ge (.var 2) (.bin .pow (.k (.int 10)) (.k (.int 18)))]), .var 3])]

def n_law_take : List Str := ["_law_pool_here", "_law_many", "_law_digit"]
def b_law_take : List S := [.ife (.cmp .gt (.ix (.var 0) (.k (.int 0))) (.k (.int 0))) [.asg 2 (.bin .mod (.ix (.var 0) (.k (.int 0))) (.var 1)), .setix (.var 0) (.k (.int 0)) (.bin .fdiv (.ix (.var 0) (.k (.int 0))) (.var 1)), .ret (.var 2)] [], .setix (.var 0) (.k (.int 1)) (.bin .mod (.bin .add (.bin .mul (.ix (.var 0) (.k (.int 1))) (.k (.int 48271))) (.k (.int 11))) (.k (.int 2147483647))), .ret (.bin .mod (.bin .fdiv (.bin .mod (.bin .mul (.ix (.var 0) (.k (.int 1))) (.ix (.var 0) (.k (.int 1)))) (.k (.int 2147483629))) (.k (.int 64))) (.var 1))]

def n_law_kids : List Str := ["_law_script", "_law_head", "_law_most", "_law_boughs", "_law_deep", "_law_far", "_law_kids_here", "_law_k", "_law_pool_here", "_law_turn", "_law_some", "_law_one"]
def b_law_kids : List S := [.asg 3 (.bin .add (.k (.int 1)) (.call "_law_take" [.var 1, .k (.int 12)])), .asg 4 (.ix (.lst [.k (.int 3), .k (.int 6), .k (.int 12), .k (.int 40)]) (.call "_law_take" [.var 1, .k (.int 4)])), .asg 5 (.lst [.k (.int 0)]), .asg 6 (.lst [.lst []]), .for_ [7] .rng2 [.k (.int 2), .blt .max [.k (.int 4), .blt .min [.blt .len [.var 0], .k (.int 62)]]] [.asg 8 (.call "_law_pool" [.var 0, .var 7]), .for_ [9] .rng1 [.bin .add (.k (.int 1)) (.call "_law_take" [.var 8, .k (.int 3)])] [.asg 10 (.ix (.lst [.k (.int 1), .k (.int 3), .blt .len [.var 5]]) (.call "_law_take" [.var 8, .k (.int 3)])), .asg 11 (.bin .sub (.bin .sub (.blt .len [.var 5]) (.k (.int 1))) (.bin .mod (.call "_law_take" [.var 8, .var 10]) (.blt .len [.var 5]))), .ife (.and (.cmp .lt (.blt .len [.var 5]) (.var 2)) (.and (.cmp .lt (.blt .len [.ix (.var 6) (.var 11)]) (.var 3)) (.cmp .lt (.ix (.var 5) (.var 11)) (.var 4)))) [.ex (.mth .append (.var 5) [.bin .add (.ix (.var 5) (.var 11)) (.k (.int 1))]), .ex (.mth .append (.var 6) [.lst []]), .ex (.mth .append (.ix (.var 6) (.var 11)) [.bin .sub (.blt .len [.var 5]) (.k (.int 1))])] []]], .retm [.var 6, .var 5]]

def n_law_merged : List Str := ["_law_second", "_law_kids_here", "_law_far", "_law_turn", "_law_one", "_law_other", "_law_at"]
def b_law_merged : List S := [.for_ [3] .rng1 [.call "_law_take" [.var 0, .k (.int 12)]] [.asg 4 (.call "_law_take" [.var 0, .blt .len [.var 1]]), .asg 5 (.bin .add (.bin .add (.var 4) (.k (.int 1))) (.call "_law_take" [.var 0, .blt .len [.var 1]])), .asg 6 (.call "_law_take" [.var 0, .k (.int 8)]), .ife (.and (.cmp .lt (.var 5) (.blt .len [.var 1])) (.and (.cmp .ne (.ix (.var 1) (.var 4)) (.lst [])) (.and (.cmp .lt (.ix (.var 2) (.var 4)) (.ix (.var 2) (.var 5))) (.cmp .notin (.var 5) (.ix (.var 1) (.var 4)))))) [.ife (.cmp .lt (.blt .len [.ix (.var 1) (.var 4)]) (.k (.int 12))) [.ex (.mth .insert (.ix (.var 1) (.var 4)) [.bin .mod (.var 6) (.bin .add (.blt .len [.ix (.var 1) (.var 4)]) (.k (.int 1))), .var 5])] []] []]]

def n_law_hand : List Str := ["_law_second", "_law_turns", "_law_far", "_law_drawn"]
def b_law_hand : List S := [.asg 3 (.ix (.lst [.k (.str "high"), .k (.str "low")]) (.call "_law_take" [.var 0, .k (.int 2)])), .ret (.ix (.lst [.ix (.lst [.k (.str "high"), .k (.str "low")]) (.bin .mod (.var 2) (.k (.int 2))), .ix (.lst [.k (.str "low"), .k (.str "high")]) (.bin .mod (.var 2) (.k (.int 2))), .var 3]) (.var 1))]

def n_law_worth : List Str := ["_law_pool_here", "_law_style", "_law_k"]
def b_law_worth : List S := [.ife (.cmp .eq (.var 1) (.k (.int 2))) [.ret (.bin .sub (.bin .mod (.bin .add (.bin .mul (.k (.int 37)) (.var 2)) (.k (.int 11))) (.k (.int 1009))) (.k (.int 500)))] [], .ife (.cmp .eq (.var 1) (.k (.int 3))) [.ret (.ix (.lst [.bin .pow (.k (.int 10)) (.k (.int 30)), .neg (.bin .pow (.k (.int 10)) (.k (.int 30))), .k (.int 0), .bin .mul (.call "_law_take" [.var 0, .bin .pow (.k (.int 10)) (.k (.int 9))]) (.bin .pow (.k (.int 10)) (.k (.int 21)))]) (.call "_law_take" [.var 0, .k (.int 4)]))] [], .ret (.ix (.lst [.bin .sub (.call "_law_take" [.var 0, .k (.int 3)]) (.k (.int 1)), .bin .sub (.call "_law_take" [.var 0, .k (.int 41)]) (.k (.int 20)), .k (.int 0), .k (.int 0), .call "_law_take" [.var 0, .k (.int 2)]]) (.var 1))]

def n_law_play : List Str := ["_law_script", "_law_most", "_law_merge", "_law_head", "_law_kids_here", "_law_far", "_law_style", "_law_turns", "_law_second", "_law_play_here", "_law_k", "_law_hand_here", "_law_worth_here"]
def b_law_play : List S := [.asg 3 (.call "_law_pool" [.var 0, .k (.int 0)]), .unp [4, 5] (.call "_law_kids" [.var 0, .var 3, .var 1]), .asg 6 (.call "_law_take" [.var 3, .k (.int 5)]), .asg 7 (.call "_law_take" [.var 3, .k (.int 3)]), .asg 8 (.call "_law_pool" [.var 0, .k (.int 1)]), .ife (.var 2) [.ex (.call "_law_merged" [.var 8, .var 4, .var 5])] [], .asg 9 (.lst []), .for_ [10] .rng1 [.blt .len [.var 4]] [.asg 11 (.call "_law_hand" [.var 8, .var 7, .ix (.var 5) (.var 10)]), .asg 12 (.call "_law_worth" [.var 8, .var 6, .var 10]), .ex (.mth .append (.var 9) [.ix (.lst [.tup [.k (.str "end"), .var 12], .tup [.var 11, .blt .tuple [.ix (.var 4) (.var 10)], .var 12]]) (.blt .int [.cmp .ne (.ix (.var 4) (.var 10)) (.lst [])])])], .ret (.var 9)]

end VL
set_option Elab.async false
set_option linter.all false
set_option maxRecDepth 100000
set_option maxHeartbeats 4000000
namespace VL
open PySem PySem.Spec PyProof.Rows L2
/-- a pool: its big number, its seed -/
def Pool (a s : Int) : T := .nd .list [.d (.int a), .d (.int s)]
def PoolOk (a s : Int) : Prop := 0 ≤ a ∧ 0 ≤ s ∧ s < 2147483647
abbrev F_take : List T → (T → List T → Prop) → Prop := fun ts Q => ∃ a s many, ts = [Pool a s, .d (.int many)] ∧ PoolOk a s ∧ 0 < many ∧ many < 2 ^ 64 ∧
  ∀ r a' s', 0 ≤ r → r < many → PoolOk a' s' → Q (.d (.int r)) [Pool a' s', .dead]
def Gm_take : Ctx := ⟨[], [], [], [0], []⟩
theorem log2_small {j : Int} (h : j < 2 ^ 64) (h0 : 0 < j) : j.natAbs.log2 < 9000 := by
  have h1 : j.natAbs < 2 ^ 64 := by omega
  have h2 : j.natAbs ≠ 0 := by omega
  have := (Nat.log2_lt h2).mpr h1
  omega
theorem w_take : bodyW Gm_take n_law_take [.own, .bor] b_law_take F_take := by
  intro ts Q h _
  obtain ⟨a, s, many, rfl, ⟨ha, hs0, hs⟩, hm, hm2, q⟩ := h
  have hdiv : CDivW a many := ⟨hm, log2_small hm2 hm⟩
  conv => whnf
  refine ⟨fun h => ?_, fun h => ?_⟩
  · have h := of_decide_eq_true h
    repeat ((conv => whnf); refine ⟨by first | rfl | assumption | exact Nat.le_of_ble_eq_true rfl | decide, ?_⟩)
    conv => whnf
    exact q _ _ _ (Int.emod_nonneg _ (by omega)) (Int.emod_lt_of_pos _ hm) ⟨Int.ediv_nonneg ha (by omega), hs0, hs⟩
  · have h := of_decide_eq_false h
    have hs1 := Int.emod_nonneg (s * 48271 + 11) (b := 2147483647) (by omega)
    have hs2 := Int.emod_lt_of_pos (s * 48271 + 11) (b := 2147483647) (by omega)
    have hc1 : CMul s 48271 := .inr (by omega)
    have hc2 : CMul ((s * 48271 + 11) % 2147483647) ((s * 48271 + 11) % 2147483647) := .inl (by omega)
    have hd2 : CDivW ((s * 48271 + 11) % 2147483647 * ((s * 48271 + 11) % 2147483647) % 2147483629) 64 := ⟨by decide, by decide⟩
    repeat ((conv => whnf); refine ⟨by first | rfl | assumption | exact Nat.le_of_ble_eq_true rfl | decide, ?_⟩)
    conv => whnf
    exact q _ _ _ (Int.emod_nonneg _ (by omega)) (Int.emod_lt_of_pos _ hm) ⟨ha, hs1, hs2⟩
end VL
set_option Elab.async false
set_option linter.all false
set_option maxRecDepth 100000
set_option maxHeartbeats 4000000
/-! VA2: facts of use everywhere; loops; the pool. -/
namespace VL
open PySem PySem.Spec PyProof.Rows L2
/-- data that == may look at, at most n deep -/
def shp (n : Nat) (d : PyData) : Prop := d.canLay0 = true ∧ d.depth ≤ n
theorem shp.shaped {n : Nat} {d : PyData} (h : shp n d) (hn : n ≤ 64) : SeqAt.shaped d = true := by
  unfold SeqAt.shaped
  rw [h.1, Bool.true_and]
  exact decide_eq_true (Nat.le_trans h.2 hn)
theorem shp_all {n : Nat} : ∀ {xs : List PyData}, (∀ x ∈ xs, shp n x) → PyData.canLayAll0 xs = true ∧ PyData.depthAll xs ≤ n
  | [], _ => ⟨by rw [PyData.canLayAll0], by rw [PyData.depthAll]; exact Nat.zero_le _⟩
  | x :: xs, h => by
    have h1 := h x (by simp)
    have h2 := shp_all fun y hy => h y (List.mem_cons_of_mem _ hy)
    rw [PyData.canLayAll0, PyData.depthAll, h1.1, h2.1]
    exact ⟨rfl, Nat.max_le.mpr ⟨h1.2, h2.2⟩⟩
theorem shp_list {n : Nat} {xs : List PyData} (h : ∀ x ∈ xs, shp n x) : shp (n + 1) (.list xs) := by
  have := shp_all h
  exact ⟨by rw [PyData.canLay0]; exact this.1, by rw [PyData.depth]; omega⟩
theorem shp_tup {n : Nat} {xs : List PyData} (h : ∀ x ∈ xs, shp n x) : shp (n + 1) (.tuple xs) := by
  have := shp_all h
  exact ⟨by rw [PyData.canLay0]; exact this.1, by rw [PyData.depth]; omega⟩
theorem shp_int (n : Nat) (i : Int) : shp n (.int i) := ⟨by rw [PyData.canLay0], by rw [PyData.depth]; exact Nat.zero_le _⟩
theorem shp_mono {n m : Nat} {d : PyData} (h : shp n d) (hm : n ≤ m) : shp m d := ⟨h.1, Nat.le_trans h.2 hm⟩
theorem shp_ints (ns : List Int) : shp 1 (.list (ns.map .int)) := shp_list fun x hx => by
  obtain ⟨i, _, rfl⟩ := List.mem_map.mp hx
  exact shp_int 0 i
/-- a loop over data -/
theorem forW_ind {is : List Nat} {bd : AE → St → Prop} {D : AE} (I : List PyData → St → Prop) (h0 : ∀ σ, I [] σ → D.nx σ)
    (hs : ∀ x xs σ (N : AE), (∀ σ', I xs σ' → N.nx σ') → (∀ σ', I xs σ' → N.ct σ') → (∀ r σ', D.rt r σ' → N.rt r σ') → (∀ σ', D.nx σ' → N.bk σ') → I (x :: xs) σ → match bindD is x σ with | some σ1 => bd N σ1 | none => False) : ∀ xs σ, I xs σ → forW is bd D xs σ
  | [], σ, h => h0 σ h
  | x :: xs, σ, h => hs x xs σ { nx := forW is bd D xs, rt := D.rt, bk := D.nx, ct := forW is bd D xs } (fun σ' => forW_ind I h0 hs xs σ') (fun σ' => forW_ind I h0 hs xs σ') (fun _ _ z => z) (fun _ z => z) h
theorem rngL_cons (lo : Int) (n : Nat) : rngL lo (n + 1) = .int lo :: rngL (lo + 1) n := by
  unfold rngL
  rw [List.range_succ_eq_map, List.map_cons, List.map_map]
  congr 1
  · simp
  · apply List.map_congr_left
    intro k _
    show PyData.int _ = PyData.int _
    congr 1
    push_cast
    omega
/-- a loop over a range -/
theorem forW_rng {is : List Nat} {bd : AE → St → Prop} {D : AE} {lo : Int} {n : Nat} (I : Nat → St → Prop) (h0 : ∀ σ, I n σ → D.nx σ)
    (hs : ∀ (k : Nat) σ (N : AE), k < n → (∀ σ', I (k + 1) σ' → N.nx σ') → (∀ σ', I (k + 1) σ' → N.ct σ') → (∀ r σ', D.rt r σ' → N.rt r σ') → (∀ σ', D.nx σ' → N.bk σ') → I k σ → match bindD is (.int (lo + k)) σ with | some σ1 => bd N σ1 | none => False) {σ : St} (hi : I 0 σ) : forW is bd D (rngL lo n) σ := by
  have key : ∀ (m k : Nat) (σ : St), k + m = n → I k σ → forW is bd D (rngL (lo + k) m) σ := by
    intro m
    induction m with
    | zero => intro k σ e h; have : k = n := by omega
              subst this; exact h0 σ h
    | succ m ih =>
      intro k σ e h
      rw [rngL_cons]
      have st : ∀ σ', I (k + 1) σ' → forW is bd D (rngL (lo + (k : Int) + 1) m) σ' := fun σ' h' => by
        have := ih (k + 1) σ' (by omega) h'
        rw [show lo + (k : Int) + 1 = lo + ((k + 1 : Nat) : Int) by push_cast; omega]
        exact this
      exact hs k σ { nx := forW is bd D (rngL (lo + (k : Int) + 1) m), rt := D.rt, bk := D.nx, ct := forW is bd D (rngL (lo + (k : Int) + 1) m) } (by omega) st st (fun _ _ z => z) (fun _ z => z) h
  have := key n 0 σ (by omega) hi
  rw [show lo + ((0 : Nat) : Int) = lo by simp] at this
  exact this
theorem atI_ints {ns : List Int} {i : Int} (h0 : 0 ≤ i) (h1 : i < ns.length) : ∃ z, atI (ns.map PyData.int) i = some (.int z) ∧ ns[i.toNat]? = some z := by
  have hj : i.toNat < ns.length := by omega
  refine ⟨ns[i.toNat], ?_, List.getElem?_eq_getElem hj⟩
  unfold atI ixN
  rw [if_pos h0, if_pos (by rw [List.length_map]; exact h1)]
  show (ns.map PyData.int)[i.toNat]? = _
  rw [List.getElem?_map, List.getElem?_eq_getElem hj]
  rfl
abbrev F_pool : List T → (T → List T → Prop) → Prop := fun ts Q => ∃ (ns : List Int) (k : Int), ts = [.d (.list (ns.map .int)), .d (.int k)] ∧ 0 ≤ k ∧
  ∀ a s, PoolOk a s → Q (Pool a s) [.dead, .dead]
def Gm_pool : Ctx := ⟨[], [], ["len", "int"], [], []⟩
theorem w_pool : bodyW Gm_pool n_law_pool [.bor, .bor] b_law_pool F_pool := by
  intro ts Q h _
  obtain ⟨ns, k, rfl, hk, q⟩ := h
  have hc1 : ∀ z : Int, CMul 104729 z := fun z => .inl (by decide)
  have hc2 : ∀ z : Int, CMul z 48271 := fun z => .inr (by decide)
  have hp36 : CPow 10 36 := ⟨by decide, by decide, by decide⟩
  have hp18 : CPow 10 18 := ⟨by decide, by decide, by decide⟩
  have hd18 : ∀ z : Int, CDivW z (10 ^ (18 : Int).toNat) := fun z => ⟨by decide, by decide⟩
  have hsz : ([] : List T).length ≤ sizeLine := Nat.zero_le _
  have sh1 := (shp_ints ns).shaped (by decide)
  have sh2 := (shp_ints []).shaped (by decide)
  -- the rest, once the cell is known
  have fin : ∀ (z : Int), wSs Gm_pool (b_law_pool.drop 3) (ends [.bor, .bor] [.d (.list (ns.map .int)), .d (.int k)] Q) [.d (.list (ns.map .int)), .d (.int k), .d (.int z), .dead] := by
    intro z
    have hb : ∀ b : Bool, CMul z (if b then 1 else 0) := fun b => .inr (by cases b <;> decide)
    have hs1 := Int.emod_nonneg ((z % 2147483629 + 104729 * k + 11) * 48271) (b := 2147483647) (by omega)
    have hs2 := Int.emod_lt_of_pos ((z % 2147483629 + 104729 * k + 11) * 48271) (b := 2147483647) (by omega)
    repeat ((conv => whnf); refine ⟨by first | rfl | assumption | exact hc1 _ | exact hc2 _ | exact hb _ | exact Nat.le_of_ble_eq_true rfl | decide, ?_⟩)
    conv => whnf
    refine q _ _ ⟨?_, hs1, hs2⟩
    by_cases h : (10 : Int) ^ (18 : Int).toNat ≤ z
    · rw [decide_eq_true h]
      have : (0 : Int) ≤ 10 ^ (18 : Int).toNat := by decide
      simp
      omega
    · rw [decide_eq_false h]
      simp
  have mid : ∀ (z : Int), wSs Gm_pool (b_law_pool.drop 2) (ends [.bor, .bor] [.d (.list (ns.map .int)), .d (.int k)] Q) [.d (.list (ns.map .int)), .d (.int k), .d (.int z), .dead] := by
    intro z
    conv => whnf
    refine ⟨fun h => ?_, fun h => fin z⟩
    repeat ((conv => whnf); refine ⟨by first | rfl | assumption | exact hd18 _ | exact Nat.le_of_ble_eq_true rfl | decide, ?_⟩)
    conv => whnf
    generalize decide ((10 : Int) ^ Int.toNat 36 ≤ z) = bb
    cases bb
    all_goals
      conv => whnf
      exact ⟨rfl, Nat.le_of_ble_eq_true rfl, fin _⟩
  repeat ((conv => whnf); refine ⟨by first | rfl | assumption | exact Nat.le_of_ble_eq_true rfl, ?_⟩)
  conv => whnf
  refine ⟨fun h => ?_, fun h => mid 0⟩
  have hne : 0 < ns.length := by
    cases ns with
    | nil => exact absurd h (by decide)
    | cons _ _ => exact Nat.succ_pos _
  have hl : (0 : Int) < ((ns.map PyData.int).length : Nat) := by rw [List.length_map]; omega
  obtain ⟨z, hz, _⟩ := atI_ints (ns := ns) (i := k % ((ns.map PyData.int).length : Nat)) (Int.emod_nonneg _ (by omega)) (by
    have := Int.emod_lt_of_pos k hl
    rw [List.length_map] at this ⊢
    exact this)
  repeat ((conv => whnf); refine ⟨by first | rfl | assumption | exact Nat.le_of_ble_eq_true rfl, ?_⟩)
  conv => whnf
  rw [hz]
  conv => whnf
  exact ⟨rfl, Nat.le_of_ble_eq_true rfl, mid z⟩
end VL
set_option Elab.async false
set_option linter.all false
set_option maxRecDepth 100000
set_option maxHeartbeats 4000000
/-! VA3: hands and worths. -/
namespace VL
open PySem PySem.Spec PyProof.Rows L2
abbrev fsTake : FS := ⟨[.own, .bor], F_take⟩
abbrev fsPool : FS := ⟨[.bor, .bor], F_pool⟩
abbrev F_hand : List T → (T → List T → Prop) → Prop := fun ts Q => ∃ a s turns far, ts = [Pool a s, .d (.int turns), .d (.int far)] ∧ PoolOk a s ∧ 0 ≤ turns ∧ turns < 3 ∧
  ∀ x a' s', (x = "high" ∨ x = "low") → PoolOk a' s' → Q (.d (.str x)) [Pool a' s', .dead, .dead]
def Gm_hand : Ctx := ⟨[("_law_take", fsTake)], [], [], [0], []⟩
theorem w_hand : bodyW Gm_hand n_law_hand [.own, .bor, .bor] b_law_hand F_hand := by
  intro ts Q h _
  obtain ⟨a, s, turns, far, rfl, hp, ht0, ht3, q⟩ := h
  have hsz2 : ∀ x y : T, [x, y].length ≤ sizeLine := fun _ _ => Nat.le_of_ble_eq_true rfl
  have hsz3 : ∀ x y z : T, [x, y, z].length ≤ sizeLine := fun _ _ _ => Nat.le_of_ble_eq_true rfl
  have hf : far % 2 = 0 ∨ far % 2 = 1 := by omega
  generalize hm : far % 2 = m at hf
  have ht : turns = 0 ∨ turns = 1 ∨ turns = 2 := by omega
  iterate 2 ((conv => whnf); refine ⟨by first | rfl | exact hsz2 _ _, ?_⟩)
  conv => whnf
  refine ⟨rfl, fun z => (by cases z), a, s, 2, rfl, hp, by decide, by decide, fun r a' s' h1 h2 h3 => ⟨fun z => (by cases z), ?_⟩⟩
  have hr : r = 0 ∨ r = 1 := by omega
  rcases hr with rfl | rfl
  all_goals
    (conv => whnf); refine ⟨rfl, Nat.le_of_ble_eq_true rfl, ?_⟩
    rcases hf with rfl | rfl
    all_goals
      rcases ht with rfl | rfl | rfl
      all_goals
        (conv => whnf); refine ⟨hsz2 _ _, ?_⟩
        (conv => whnf); refine ⟨by decide, ?_⟩
        (conv => whnf); rw [hm]
        (conv => whnf); refine ⟨hsz2 _ _, ?_⟩
        (conv => whnf); refine ⟨by decide, ?_⟩
        (conv => whnf); rw [hm]
        (conv => whnf); refine ⟨hsz3 _ _ _, ?_⟩
        conv => whnf
        first
          | exact q _ _ _ (.inl rfl) h3
          | exact q _ _ _ (.inr rfl) h3
abbrev F_worth : List T → (T → List T → Prop) → Prop := fun ts Q => ∃ a s style k, ts = [Pool a s, .d (.int style), .d (.int k)] ∧ PoolOk a s ∧ 0 ≤ style ∧ style < 5 ∧
  ∀ x a' s', -(10 ^ 30) ≤ x → x ≤ 10 ^ 30 → PoolOk a' s' → Q (.d (.int x)) [Pool a' s', .dead, .dead]
def Gm_worth : Ctx := ⟨[("_law_take", fsTake)], [], [], [0], []⟩
theorem w_worth : bodyW Gm_worth n_law_worth [.own, .bor, .bor] b_law_worth F_worth := by
  intro ts Q h _
  obtain ⟨a, s, style, k, rfl, hp, ht0, ht5, q⟩ := h
  have hc : CMul 37 k := .inl (by decide)
  have hp30 : CPow 10 30 := ⟨by decide, by decide, by decide⟩
  have hp9 : CPow 10 9 := ⟨by decide, by decide, by decide⟩
  have hp21 : CPow 10 21 := ⟨by decide, by decide, by decide⟩
  have hsz4 : ∀ x y z u : T, [x, y, z, u].length ≤ sizeLine := fun _ _ _ _ => Nat.le_of_ble_eq_true rfl
  have hsz5 : ∀ x y z u v : T, [x, y, z, u, v].length ≤ sizeLine := fun _ _ _ _ _ => Nat.le_of_ble_eq_true rfl
  conv => whnf
  refine ⟨fun h => ?_, fun h => ?_⟩
  · repeat ((conv => whnf); refine ⟨by first | assumption | decide, ?_⟩)
    conv => whnf
    exact q _ _ _ (by omega) (by omega) hp
  have hs2 := of_decide_eq_false h
  clear h
  conv => whnf
  refine ⟨fun h => ?_, fun h => ?_⟩
  · iterate 4 ((conv => whnf); refine ⟨by first | assumption | rfl, ?_⟩)
    (conv => whnf)
    refine ⟨fun z => (by cases z), a, s, 10 ^ Int.toNat 9, rfl, hp, by decide, by decide, fun r a' s' h1 h2 h3 => ⟨fun z => (by cases z), ?_⟩⟩
    (conv => whnf); refine ⟨hp21, ?_⟩
    (conv => whnf); refine ⟨.inl (by have : (10 : Int) ^ Int.toNat 9 = 1000000000 := by decide
                                     omega), ?_⟩
    (conv => whnf); refine ⟨hsz4 _ _ _ _, ?_⟩
    (conv => whnf)
    refine ⟨rfl, fun z => (by cases z), a', s', 4, rfl, h3, by decide, by decide, fun r2 a2 s2 g1 g2 g3 => ⟨fun z => (by cases z), ?_⟩⟩
    have e9 : (10 : Int) ^ Int.toNat 9 = 1000000000 := by decide
    have e21 : (10 : Int) ^ Int.toNat 21 = 1000000000000000000000 := by decide
    have e30 : (10 : Int) ^ Int.toNat 30 = 1000000000000000000000000000000 := by decide
    have e30' : (10 : Int) ^ 30 = 1000000000000000000000000000000 := by decide
    have er : r * 10 ^ Int.toNat 21 = r * 1000000000000000000000 := by rw [e21]
    have hr : r2 = 0 ∨ r2 = 1 ∨ r2 = 2 ∨ r2 = 3 := by omega
    rcases hr with rfl | rfl | rfl | rfl
    all_goals
      conv => whnf
      exact q _ _ _ (by omega) (by omega) g3
  · iterate 1 ((conv => whnf); refine ⟨rfl, ?_⟩)
    refine ⟨fun z => (by cases z), a, s, 3, rfl, hp, by decide, by decide, fun r a' s' h1 h2 h3 => ⟨fun z => (by cases z), ?_⟩⟩
    (conv => whnf)
    refine ⟨rfl, fun z => (by cases z), a', s', 41, rfl, h3, by decide, by decide, fun r2 a2 s2 g1 g2 g3 => ⟨fun z => (by cases z), ?_⟩⟩
    (conv => whnf)
    refine ⟨rfl, fun z => (by cases z), a2, s2, 2, rfl, g3, by decide, by decide, fun r3 a3 s3 k1 k2 k3 => ⟨fun z => (by cases z), ?_⟩⟩
    (conv => whnf); refine ⟨hsz5 _ _ _ _ _, ?_⟩
    have e30' : (10 : Int) ^ 30 = 1000000000000000000000000000000 := by decide
    have hr : style = 0 ∨ style = 1 ∨ style = 2 ∨ style = 3 ∨ style = 4 := by omega
    rcases hr with rfl | rfl | rfl | rfl | rfl
    all_goals
      conv => whnf
      exact q _ _ _ (by omega) (by omega) k3
end VL
set_option Elab.async false
set_option linter.all false
set_option maxRecDepth 100000
set_option maxHeartbeats 4000000
/-! VA4: the kids. -/
namespace VL
open PySem PySem.Spec PyProof.Rows L2
def iT (l : List Int) : List T := l.map fun i => .d (.int i)
def kidT (l : List Int) : T := .nd .list (iT l)
def KT (ks : List (List Int)) : T := .nd .list (ks.map kidT)
structure KOk (fs : List Int) (ks : List (List Int)) : Prop where
  len : ks.length = fs.length
  pos : 0 < fs.length
  up : ∀ (i : Nat) l, ks[i]? = some l → ∀ c ∈ l, (i : Int) < c ∧ c < (fs.length : Nat)
  few : ∀ (i : Nat) l, ks[i]? = some l → l.length ≤ fs.length + 12
  led : ∀ i : Nat, 0 < i → i < fs.length → ∃ (k : Nat) (l : List Int), ks[k]? = some l ∧ (i : Int) ∈ l
  nd : ∀ (i : Nat) l, ks[i]? = some l → l.Nodup
  b12 : ∀ (i : Nat) l, ks[i]? = some l → l.length ≤ 12
  lev : ∀ (i : Nat) l, ks[i]? = some l → ∀ c ∈ l, fs.getD i 0 < fs.getD c.toNat 0
  f40 : ∀ f ∈ fs, 0 ≤ f ∧ f ≤ 40
/-- .. and no stand is led to twice -/
structure KG (fs : List Int) (ks : List (List Int)) : Prop extends KOk fs ks where
  tree : ∀ (i j : Nat) l l' c, ks[i]? = some l → ks[j]? = some l' → c ∈ l → c ∈ l' → i = j
theorem ixN_of {n : Nat} {i : Int} (h0 : 0 ≤ i) (h1 : i < (n : Nat)) : ixN n i = some i.toNat := by
  unfold ixN
  rw [if_pos h0, if_pos h1]
theorem iT_get {l : List Int} {j : Nat} {x : Int} (h : l[j]? = some x) : (iT l)[j]? = some (.d (.int x)) := by
  unfold iT
  rw [List.getElem?_map, h]
  rfl
theorem iT_len (l : List Int) : (iT l).length = l.length := by unfold iT; rw [List.length_map]
theorem kids_get {ks : List (List Int)} {j : Nat} {l : List Int} (h : ks[j]? = some l) : (ks.map kidT)[j]? = some (.nd .list (iT l)) := by
  rw [List.getElem?_map, h]
  rfl
abbrev F_kids : List T → (T → List T → Prop) → Prop := fun ts Q => ∃ (ns : List Int) (a s most : Int), ts = [.d (.list (ns.map .int)), Pool a s, .d (.int most)] ∧ PoolOk a s ∧ most < 1000000 ∧
  ∀ fs ks a' s', KG fs ks → (fs.length : Int) ≤ max 1 most → PoolOk a' s' → Q (.nd .tup [KT ks, .nd .list (iT fs)]) [.dead, Pool a' s', .dead]
def Gm_kids : Ctx := ⟨[("_law_take", fsTake), ("_law_pool", fsPool)], [], ["range", "max", "min", "len"], [1], []⟩
/-- the state of the loops -/
def KI (S P M bo de : T) (most : Int) (σ : St) : Prop := ∃ fs ks x7 x8 x9 x10 x11, σ = [S, P, M, bo, de, .nd .list (iT fs), KT ks, x7, x8, x9, x10, x11] ∧ KG fs ks ∧ (fs.length : Int) ≤ max 1 most
def KI2 (S P M bo de : T) (most : Int) (σ : St) : Prop := ∃ fs ks x7 a s x9 x10 x11, σ = [S, P, M, bo, de, .nd .list (iT fs), KT ks, x7, Pool a s, x9, x10, x11] ∧ KG fs ks ∧ (fs.length : Int) ≤ max 1 most ∧ PoolOk a s
theorem mty_at {m : Mth} {i : Nat} {q : List Nat} {σ : St} {us : List T} (h : (R.p i q).get σ = some (.nd .list us)) : mtyW m (.p i q) σ := by
  unfold mtyW
  rw [h]
  trivial
theorem putS_kid {S P M bo de f x7 x8 x9 x10 x11 : T} {ks : List (List Int)} {j : Nat} {l : List Int} (h : j < ks.length) : putS [S, P, M, bo, de, f, .nd .list (ks.map kidT), x7, x8, x9, x10, x11] 6 [j] (.nd .list (iT l)) = [S, P, M, bo, de, f, KT (ks.set j l), x7, x8, x9, x10, x11] := by
  have e : (ks.map kidT)[j]? = some (.nd .list (iT ks[j])) := kids_get (List.getElem?_eq_getElem h)
  show [S, P, M, bo, de, f, T.put (.nd .list (ks.map kidT)) (.nd .list (iT l)) [j], x7, x8, x9, x10, x11] = _
  simp only [T.put, e]
  unfold KT
  rw [List.map_set]
  rfl
theorem grow_cases {ks : List (List Int)} {one : Nat} {l l' : List Int} {n : Int} {i : Nat} (h : ks[one]? = some l) (hi : ((ks ++ [[]]).set one (l ++ [n]))[i]? = some l') : (i = one ∧ l' = l ++ [n]) ∨ (i ≠ one ∧ ks[i]? = some l') ∨ l' = [] := by
  have hj : one < ks.length := (List.getElem?_eq_some_iff.mp h).1
  rw [List.getElem?_set] at hi
  split at hi
  · rename_i e
    subst e
    rw [if_pos (by simp; omega)] at hi
    cases hi
    exact .inl ⟨rfl, rfl⟩
  · rename_i e
    by_cases hik : i < ks.length
    · rw [List.getElem?_append_left hik] at hi
      exact .inr (.inl ⟨fun z => e z.symm, hi⟩)
    · rw [List.getElem?_append_right (by omega)] at hi
      have := List.mem_of_getElem? hi
      simp at this
      exact .inr (.inr this)
theorem grow_old {ks : List (List Int)} {one : Nat} {l l' : List Int} {n : Int} {i : Nat} (h : ks[one]? = some l) (hi : ks[i]? = some l') : ∃ l'', ((ks ++ [[]]).set one (l ++ [n]))[i]? = some l'' ∧ ∀ c ∈ l', c ∈ l'' := by
  have hj : one < ks.length := (List.getElem?_eq_some_iff.mp h).1
  have hik : i < ks.length := (List.getElem?_eq_some_iff.mp hi).1
  rw [List.getElem?_set]
  by_cases e : one = i
  · subst e
    rw [if_pos rfl, if_pos (by simp; omega)]
    rw [h] at hi
    cases hi
    exact ⟨_, rfl, fun c hc => List.mem_append_left _ hc⟩
  · rw [if_neg e, List.getElem?_append_left hik]
    exact ⟨_, hi, fun c hc => hc⟩
theorem KG.grow {fs : List Int} {ks : List (List Int)} {one : Nat} {f : Int} {l : List Int} (ok : KG fs ks) (h : ks[one]? = some l) (h12 : l.length < 12) (hf : fs[one]? = some f) (h40 : f < 40) : KG (fs ++ [f + 1]) ((ks ++ [[]]).set one (l ++ [(fs.length : Int)])) := by
  have hj : one < ks.length := (List.getElem?_eq_some_iff.mp h).1
  have hlen := ok.len
  have hnew : ∀ (i : Nat) l', ks[i]? = some l' → (fs.length : Int) ∉ l' := fun i l' hi z => by
    have := ok.up i l' hi _ z
    omega
  have old : ∀ (k : Nat), k < fs.length → (fs ++ [f + 1]).getD k 0 = fs.getD k 0 := fun k hk => by
    rw [List.getD_eq_getElem?_getD, List.getD_eq_getElem?_getD, List.getElem?_append_left hk]
  refine ⟨⟨by simp [hlen], by simp, fun i l' hi c hc => ?_, fun i l' hi => ?_, fun i h0 hi => ?_, fun i l' hi => ?_, fun i l' hi => ?_, fun i l' hi c hc => ?_, fun g hg => ?_⟩, fun i j l1 l2 c h1 h2 hc1 hc2 => ?_⟩
  · rw [List.length_append, List.length_singleton]
    rcases grow_cases h hi with ⟨rfl, rfl⟩ | ⟨_, hi⟩ | rfl
    · rcases List.mem_append.mp hc with z | z
      · have := ok.up _ l h c z
        omega
      · simp at z
        omega
    · have := ok.up i l' hi c hc
      omega
    · cases hc
  · rw [List.length_append, List.length_singleton]
    rcases grow_cases h hi with ⟨rfl, rfl⟩ | ⟨_, hi⟩ | rfl
    · simp
      omega
    · have := ok.few i l' hi
      omega
    · simp
  · rw [List.length_append, List.length_singleton] at hi
    by_cases e : i < fs.length
    · obtain ⟨k, l', h1, h2⟩ := ok.led i h0 e
      obtain ⟨l'', h3, h4⟩ := grow_old (n := (fs.length : Int)) h h1
      exact ⟨k, l'', h3, h4 _ h2⟩
    · have : i = fs.length := by omega
      subst this
      refine ⟨one, l ++ [(fs.length : Int)], ?_, by simp⟩
      rw [List.getElem?_set, if_pos rfl, if_pos (by simp; omega)]
  · rcases grow_cases h hi with ⟨rfl, rfl⟩ | ⟨_, hi⟩ | rfl
    · rw [List.nodup_append]
      refine ⟨ok.nd _ l h, by simp, fun a ha b hb e => ?_⟩
      simp at hb
      subst hb
      subst e
      exact hnew _ l h ha
    · exact ok.nd i l' hi
    · exact List.nodup_nil
  · rcases grow_cases h hi with ⟨rfl, rfl⟩ | ⟨_, hi⟩ | rfl
    · simp
      omega
    · exact ok.b12 i l' hi
    · simp
  · rcases grow_cases h hi with ⟨rfl, rfl⟩ | ⟨_, hi⟩ | rfl
    · rcases List.mem_append.mp hc with z | z
      · have := ok.up _ l h c z
        rw [old _ (by omega), old _ (by omega)]
        exact ok.lev _ l h c z
      · simp at z
        subst z
        rw [old _ (by omega), List.getD_eq_getElem?_getD, hf, List.getD_eq_getElem?_getD, Int.toNat_natCast, List.getElem?_append_right (Nat.le_refl _)]
        simp
        omega
    · have := ok.up i l' hi c hc
      have hi' := (List.getElem?_eq_some_iff.mp hi).1
      rw [old _ (by omega), old _ (by omega)]
      exact ok.lev i l' hi c hc
    · cases hc
  · rcases List.mem_append.mp hg with z | z
    · exact ok.f40 g z
    · simp at z
      have := ok.f40 f (List.mem_of_getElem? hf)
      omega
  · have key : ∀ (i j : Nat) l1 l2, ((ks ++ [[]]).set one (l ++ [(fs.length : Int)]))[i]? = some l1 → ((ks ++ [[]]).set one (l ++ [(fs.length : Int)]))[j]? = some l2 → c ∈ l1 → c ∈ l2 → i = one → j ≠ one → False := by
      intro i j l1 l2 h1 h2 hc1 hc2 ei ej
      rcases grow_cases h h2 with ⟨e, _⟩ | ⟨_, h2⟩ | rfl
      · exact ej e
      · rcases grow_cases h h1 with ⟨_, rfl⟩ | ⟨e, _⟩ | rfl
        · rcases List.mem_append.mp hc1 with z | z
          · exact ej (ok.tree j one l2 l c h2 h hc2 z)
          · simp at z
            subst z
            exact hnew j l2 h2 hc2
        · exact e ei
        · cases hc1
      · cases hc2
    by_cases ei : i = one
    · by_cases ej : j = one
      · omega
      · exact (key i j l1 l2 h1 h2 hc1 hc2 ei ej).elim
    · by_cases ej : j = one
      · exact (key j i l2 l1 h2 h1 hc2 hc1 ej ei).elim
      · rcases grow_cases h h1 with ⟨e, _⟩ | ⟨_, h1⟩ | rfl
        · exact absurd e ei
        · rcases grow_cases h h2 with ⟨e, _⟩ | ⟨_, h2⟩ | rfl
          · exact absurd e ej
          · exact ok.tree i j l1 l2 c h1 h2 hc1 hc2
          · cases hc2
        · cases hc1
def kidsTail : List S := [.asg 11 (.bin .sub (.bin .sub (.blt .len [.var 5]) (.k (.int 1))) (.bin .mod (.call "_law_take" [.var 8, .var 10]) (.blt .len [.var 5]))), .ife (.and (.cmp .lt (.blt .len [.var 5]) (.var 2)) (.and (.cmp .lt (.blt .len [.ix (.var 6) (.var 11)]) (.var 3)) (.cmp .lt (.ix (.var 5) (.var 11)) (.var 4)))) [.ex (.mth .append (.var 5) [.bin .add (.ix (.var 5) (.var 11)) (.k (.int 1))]), .ex (.mth .append (.var 6) [.lst []]), .ex (.mth .append (.ix (.var 6) (.var 11)) [.bin .sub (.blt .len [.var 5]) (.k (.int 1))])] []]
def kidsThen : List S := [.ex (.mth .append (.var 5) [.bin .add (.ix (.var 5) (.var 11)) (.k (.int 1))]), .ex (.mth .append (.var 6) [.lst []]), .ex (.mth .append (.ix (.var 6) (.var 11)) [.bin .sub (.blt .len [.var 5]) (.k (.int 1))])]
theorem w_kidsThen {S P M bo de x7 PP x9 x10 : T} {N : AE} {fs : List Int} {ks : List (List Int)} {one : Int} (ok : KG fs ks) (h0 : 0 ≤ one) (h1 : one < (fs.length : Nat)) (hl : (fs.length : Int) ≤ 1000000) (h12 : ∀ l, ks[one.toNat]? = some l → l.length < 12) (h40 : ∀ f, fs[one.toNat]? = some f → f < 40)
    (hN : ∀ fs' ks', KG fs' ks' → fs'.length = fs.length + 1 → N.nx [S, P, M, bo, de, .nd .list (iT fs'), KT ks', x7, PP, x9, x10, .d (.int one)]) : wSs Gm_kids kidsThen N [S, P, M, bo, de, .nd .list (iT fs), KT ks, x7, PP, x9, x10, .d (.int one)] := by
  have hsl : sizeLine > 10000000 := by decide
  have hj : one.toNat < fs.length := by omega
  have hg : fs[one.toNat]? = some fs[one.toNat] := List.getElem?_eq_getElem hj
  have hjk : one.toNat < ks.length := by rw [ok.len]; exact hj
  have hgk : ks[one.toNat]? = some ks[one.toNat] := List.getElem?_eq_getElem hjk
  -- the kid joins
  have third : ∀ (F6 K6 : List T), F6 = iT (fs ++ [fs[one.toNat] + 1]) → K6 = (ks ++ [[]]).map kidT → wSs Gm_kids (kidsThen.drop 2) N [S, P, M, bo, de, .nd .list F6, .nd .list K6, x7, PP, x9, x10, .d (.int one)] := by
    rintro F6 K6 rfl rfl
    have hgk' : (ks ++ [[]])[one.toNat]? = some ks[one.toNat] := by rw [List.getElem?_append_left hjk]; exact hgk
    have hlk : one.toNat < (ks ++ [[]]).length := by simp; omega
    conv => whnf
    rw [ixN_of h0 (by rw [List.length_map]; simp; omega)]
    conv => whnf
    rw [kids_get hgk']
    have hget : (R.p 6 ([] ++ [one.toNat])).get [S, P, M, bo, de, .nd .list (iT (fs ++ [fs[one.toNat] + 1])), .nd .list ((ks ++ [[]]).map kidT), x7, PP, x9, x10, .d (.int one)] = some (.nd .list (iT ks[one.toNat])) := by
      show T.at (.nd .list ((ks ++ [[]]).map kidT)) [one.toNat] = _
      rw [T.at, kids_get hgk']
      rfl
    (conv => whnf); refine ⟨mty_at hget, ?_⟩
    (conv => whnf); refine ⟨rfl, ?_⟩
    (conv => whnf); refine ⟨rfl, ?_⟩
    (conv => whnf)
    rw [hget]
    (conv => whnf); refine ⟨by
      have := ok.few _ _ hgk
      rw [iT_len]
      omega, ?_⟩
    have e1 : iT ks[one.toNat] ++ [T.d (.int (((iT (fs ++ [fs[one.toNat] + 1])).length : Int) - 1))] = iT (ks[one.toNat] ++ [(fs.length : Int)]) := by
      rw [iT_len]
      simp [iT]
    have e2 := putS_kid (S := S) (P := P) (M := M) (bo := bo) (de := de) (f := .nd .list (iT (fs ++ [fs[one.toNat] + 1]))) (x7 := x7) (x8 := PP) (x9 := x9) (x10 := x10) (x11 := .d (.int one)) (l := ks[one.toNat] ++ [(fs.length : Int)]) hlk
    show N.nx (putS [S, P, M, bo, de, .nd .list (iT (fs ++ [fs[one.toNat] + 1])), .nd .list ((ks ++ [[]]).map kidT), x7, PP, x9, x10, .d (.int one)] 6 [one.toNat] (.nd .list (iT ks[one.toNat] ++ [T.d (.int (((iT (fs ++ [fs[one.toNat] + 1])).length : Int) - 1))])))
    rw [e1, e2]
    exact hN _ _ (ok.grow hgk (h12 _ hgk) hg (h40 _ hg)) (by simp)
  (conv => whnf); refine ⟨trivial, ?_⟩
  (conv => whnf)
  rw [ixN_of h0 (by rw [iT_len]; exact h1)]
  (conv => whnf)
  rw [iT_get hg]
  (conv => whnf); refine ⟨rfl, ?_⟩
  (conv => whnf); refine ⟨rfl, ?_⟩
  (conv => whnf); refine ⟨by rw [iT_len]; omega, ?_⟩
  (conv => whnf); refine ⟨trivial, ?_⟩
  (conv => whnf); refine ⟨Nat.zero_le _, ?_⟩
  (conv => whnf); refine ⟨rfl, ?_⟩
  (conv => whnf); refine ⟨rfl, ?_⟩
  (conv => whnf); refine ⟨by rw [List.length_map, ok.len]; omega, ?_⟩
  exact third _ _ (by simp [iT]) (by simp [kidT, iT])
theorem w_kidsTail {S P x7 x9 x11 : T} {N : AE} {most bo de a s so : Int} {fs : List Int} {ks : List (List Int)} (ok : KG fs ks) (hbo : bo ≤ 12) (hde : de ≤ 40) (hl : (fs.length : Int) ≤ max 1 most) (hmost : most < 1000000) (hp : PoolOk a s) (h0 : 0 < so) (h1 : so < 2 ^ 64)
    (hN : ∀ σ, KI2 S P (.d (.int most)) (.d (.int bo)) (.d (.int de)) most σ → N.nx σ) : wSs Gm_kids kidsTail N [S, P, .d (.int most), .d (.int bo), .d (.int de), .nd .list (iT fs), KT ks, x7, Pool a s, x9, .d (.int so), x11] := by
  (conv => whnf); refine ⟨rfl, ?_⟩
  (conv => whnf)
  refine ⟨rfl, fun z => (by cases z), a, s, so, rfl, hp, h0, h1, fun r a' s' g1 g2 hp' => ⟨fun z => (by cases z), ?_⟩⟩
  have hpos := ok.pos
  (conv => whnf); refine ⟨by rw [iT_len]; omega, ?_⟩
  (conv => whnf); refine ⟨rfl, Nat.le_of_ble_eq_true rfl, ?_⟩
  have hr0 := Int.emod_nonneg r (b := ((iT fs).length : Int)) (by rw [iT_len]; omega)
  have hr1 := Int.emod_lt_of_pos r (b := ((iT fs).length : Int)) (by rw [iT_len]; omega)
  have o0 : 0 ≤ ((iT fs).length : Int) - 1 - r % ((iT fs).length : Int) := by omega
  have o1 : ((iT fs).length : Int) - 1 - r % ((iT fs).length : Int) < (fs.length : Nat) := by rw [iT_len] at hr0 ⊢; omega
  generalize ((iT fs).length : Int) - 1 - r % ((iT fs).length : Int) = one at o0 o1
  have hj : one.toNat < fs.length := by omega
  have hg : fs[one.toNat]? = some fs[one.toNat] := List.getElem?_eq_getElem hj
  have hgk : ks[one.toNat]? = some (ks[one.toNat]'(by rw [ok.len]; exact hj)) := List.getElem?_eq_getElem _
  have stay : N.nx [S, P, .d (.int most), .d (.int bo), .d (.int de), .nd .list (iT fs), KT ks, x7, Pool a' s', x9, .d (.int so), .d (.int one)] := hN _ ⟨fs, ks, _, _, _, _, _, _, rfl, ok, hl, hp'⟩
  have hget : (R.p 6 ([] ++ [one.toNat])).get [S, P, .d (.int most), .d (.int bo), .d (.int de), .nd .list (iT fs), KT ks, x7, Pool a' s', x9, .d (.int so), .d (.int one)] = some (.nd .list (iT (ks[one.toNat]'(by rw [ok.len]; exact hj)))) := by
    show T.at (.nd .list (ks.map kidT)) [one.toNat] = _
    rw [T.at, kids_get hgk]
    rfl
  show wSs Gm_kids (kidsTail.drop 1) N [S, P, .d (.int most), .d (.int bo), .d (.int de), .nd .list (iT fs), KT ks, x7, Pool a' s', x9, .d (.int so), .d (.int one)]
  conv => whnf
  refine ⟨fun c1 => ?_, fun c1 => ?_⟩
  · have c1' := of_decide_eq_true c1
    rw [iT_len] at c1'
    conv => whnf
    rw [ixN_of o0 (by rw [List.length_map, ok.len]; exact o1)]
    conv => whnf
    rw [kids_get hgk]
    conv => whnf
    rw [hget]
    conv => whnf
    refine ⟨fun c3 => ?_, fun c3 => ?_⟩
    · conv => whnf
      rw [ixN_of o0 (by rw [iT_len]; exact o1)]
      conv => whnf
      rw [iT_get hg]
      conv => whnf
      refine ⟨fun c4 => ?_, fun _ => stay⟩
      have c3' := of_decide_eq_true c3
      have c4' := of_decide_eq_true c4
      rw [iT_len] at c3'
      refine w_kidsThen (N := { N with nx := fun σ' => wSs Gm_kids [] N σ' }) ok o0 o1 (by omega) (fun l h => by rw [hgk] at h; cases h; omega) (fun f h => by rw [hg] at h; cases h; omega) fun fs' ks' ok' hl' => ?_
      exact hN _ ⟨fs', ks', _, _, _, _, _, _, rfl, ok', by omega, hp'⟩
    · conv => whnf
      refine ⟨fun c2 => ?_, fun _ => stay⟩
      rw [c3] at c2
      cases c2
  · conv => whnf
    refine ⟨fun c2 => ?_, fun _ => stay⟩
    rw [c1] at c2
    cases c2
theorem kg_start : KG [0] [[]] := by
  have one : ∀ (i : Nat) (l : List Int), ([[]] : List (List Int))[i]? = some l → l = [] := fun i l h => by
    cases i with
    | zero => simp at h; first | exact h | exact h.symm
    | succ i => simp at h
  refine ⟨⟨rfl, by decide, fun i l h c hc => ?_, fun i l h => ?_, fun i h0 h1 => ?_, fun i l h => ?_, fun i l h => ?_, fun i l h c hc => ?_, fun f hf => ?_⟩, fun i j l l' c h1 h2 hc1 hc2 => ?_⟩
  · rw [one i l h] at hc; cases hc
  · rw [one i l h]; simp
  · simp at h1; omega
  · rw [one i l h]; exact List.nodup_nil
  · rw [one i l h]; simp
  · rw [one i l h] at hc; cases hc
  · simp at hf; omega
  · rw [one i l h1] at hc1; cases hc1
theorem w_kids : bodyW Gm_kids n_law_kids [.bor, .own, .bor] b_law_kids F_kids := by
  intro ts Q h _
  obtain ⟨ns, a, s, most, rfl, hp, hmost, q⟩ := h
  have hsz1 : ∀ x : T, [x].length ≤ sizeLine := fun _ => Nat.le_of_ble_eq_true rfl
  have hsz2 : ∀ x y : T, [x, y].length ≤ sizeLine := fun _ _ => Nat.le_of_ble_eq_true rfl
  have hsz3 : ∀ x y z : T, [x, y, z].length ≤ sizeLine := fun _ _ _ => Nat.le_of_ble_eq_true rfl
  have hsz4 : ∀ x y z u : T, [x, y, z, u].length ≤ sizeLine := fun _ _ _ _ => Nat.le_of_ble_eq_true rfl
  have hsl : sizeLine > 10000000 := by decide
  have rest : ∀ bo de a1 s1, bo ≤ 12 → de ≤ 40 → PoolOk a1 s1 → wSs Gm_kids (b_law_kids.drop 2) (ends [.bor, .own, .bor] [.d (.list (ns.map .int)), Pool a s, .d (.int most)] Q) [.d (.list (ns.map .int)), Pool a1 s1, .d (.int most), .d (.int bo), .d (.int de), .dead, .dead, .dead, .dead, .dead, .dead, .dead] := by
    intro bo de a1 s1 hbo hde hp1
    iterate 9 ((conv => whnf); refine ⟨by first | rfl | exact hsz1 _ | exact Nat.zero_le _ | exact Nat.le_of_ble_eq_true rfl, ?_⟩)
    (conv => whnf); refine ⟨rfl, ?_⟩
    (conv => whnf); refine ⟨⟨by decide, by decide⟩, ⟨by omega, by omega⟩, ?_⟩
    refine forW_rng (fun _ σ => KI (.d (.list (ns.map .int))) (Pool a1 s1) (.d (.int most)) (.d (.int bo)) (.d (.int de)) most σ) ?_ ?_ ⟨[0], [[]], _, _, _, _, _, rfl, kg_start, by simp; omega⟩
    · -- behind the loops
      rintro σ ⟨fs, ks, x7, x8, x9, x10, x11, rfl, ok, hl⟩
      (conv => whnf); refine ⟨hsz2 _ _, ?_⟩
      exact q fs ks a1 s1 ok hl hp1
    · -- a round
      rintro k σ N hk hN - - - ⟨fs, ks, x7, x8, x9, x10, x11, rfl, ok, hl⟩
      (conv => whnf); refine ⟨rfl, ?_⟩
      (conv => whnf)
      refine ⟨rfl, fun z => (by cases z), ns, 2 + (k : Int), rfl, by omega, fun a2 s2 hp2 => ⟨fun z => (by cases z), ?_⟩⟩
      (conv => whnf); refine ⟨rfl, Nat.le_of_ble_eq_true rfl, ?_⟩
      (conv => whnf); refine ⟨rfl, ?_⟩
      (conv => whnf)
      refine ⟨rfl, fun z => (by cases z), a2, s2, 3, rfl, hp2, by decide, by decide, fun r3 a3 s3 g1 g2 hp3 => ⟨fun z => (by cases z), ?_⟩⟩
      (conv => whnf); refine ⟨⟨by omega, by omega⟩, ?_⟩
      refine forW_rng (fun _ σ => KI2 (.d (.list (ns.map .int))) (Pool a1 s1) (.d (.int most)) (.d (.int bo)) (.d (.int de)) most σ) ?_ ?_ ⟨fs, ks, _, a3, s3, _, _, _, rfl, ok, hl, hp3⟩
      · rintro σ ⟨fs, ks, x7, a4, s4, x9, x10, x11, rfl, ok, hl, hp4⟩
        exact hN _ ⟨fs, ks, _, _, _, _, _, rfl, ok, hl⟩
      · clear hk x8 x9 x10 x11 ok hl
        rintro k2 σ N2 hk2 hN2 - - - ⟨fs, ks, x7, a4, s4, x9, x10, x11, rfl, ok, hl, hp4⟩
        iterate 2 ((conv => whnf); refine ⟨by first | rfl | exact hsz3 _ _ _, ?_⟩)
        (conv => whnf)
        refine ⟨rfl, fun z => (by cases z), a4, s4, 3, rfl, hp4, by decide, by decide, fun r5 a5 s5 g1 g2 hp5 => ⟨fun z => (by cases z), ?_⟩⟩
        have hpos := ok.pos
        have hr : r5 = 0 ∨ r5 = 1 ∨ r5 = 2 := by omega
        rcases hr with rfl | rfl | rfl
        all_goals
          conv => whnf
          refine ⟨rfl, Nat.le_of_ble_eq_true rfl, w_kidsTail ok hbo hde hl hmost hp5 ?_ ?_ hN2⟩
          all_goals first | decide | (rw [iT_len]; omega)
  iterate 1 ((conv => whnf); refine ⟨rfl, ?_⟩)
  (conv => whnf)
  refine ⟨rfl, fun z => (by cases z), a, s, 12, rfl, hp, by decide, by decide, fun r1 a1 s1 h1 h2 hp1 => ⟨fun z => (by cases z), ?_⟩⟩
  (conv => whnf); refine ⟨rfl, Nat.le_of_ble_eq_true rfl, ?_⟩
  (conv => whnf); refine ⟨rfl, ?_⟩
  (conv => whnf); refine ⟨hsz4 _ _ _ _, ?_⟩
  (conv => whnf)
  refine ⟨rfl, fun z => (by cases z), a1, s1, 4, rfl, hp1, by decide, by decide, fun r2 a2 s2 g1 g2 hp2 => ⟨fun z => (by cases z), ?_⟩⟩
  have hr : r2 = 0 ∨ r2 = 1 ∨ r2 = 2 ∨ r2 = 3 := by omega
  rcases hr with rfl | rfl | rfl | rfl
  all_goals
    conv => whnf
    exact ⟨rfl, Nat.le_of_ble_eq_true rfl, rest _ _ _ _ (by omega) (by decide) hp2⟩
end VL
set_option Elab.async false
set_option linter.all false
set_option maxRecDepth 100000
set_option maxHeartbeats 4000000
/-! VA5: merging. -/
namespace VL
open PySem PySem.Spec PyProof.Rows L2
theorem datal_iT : ∀ l : List Int, T.datal (iT l) = some (l.map .int)
  | [] => by unfold iT; simp [T.datal]
  | x :: l => by
    have := datal_iT l
    unfold iT at this ⊢
    simp only [List.map_cons, T.datal, T.data, this]
theorem data_iT (l : List Int) : T.data (.nd .list (iT l)) = some (.list (l.map .int)) := by
  simp [T.data, datal_iT]
theorem flatl_iT : ∀ l : List Int, T.flatl (iT l) = true
  | [] => by unfold iT; simp [T.flatl]
  | x :: l => by
    have := flatl_iT l
    unfold iT at this ⊢
    simp only [List.map_cons, T.flatl, T.flat, immD, this, Bool.and_self]
theorem flatl_kids : ∀ ks : List (List Int), T.flatl (ks.map kidT) = true
  | [] => by simp [T.flatl]
  | l :: ks => by
    simp only [List.map_cons, T.flatl, flatl_kids ks, kidT, T.flat, flatl_iT, Bool.and_self]
theorem noTupl_iT : ∀ l : List Int, T.noTupl (iT l) = true
  | [] => by unfold iT; simp [T.noTupl]
  | x :: l => by
    have := noTupl_iT l
    unfold iT at this ⊢
    simp only [List.map_cons, T.noTupl, T.noTup, this, Bool.and_self]
theorem noTupl_kids : ∀ ks : List (List Int), T.noTupl (ks.map kidT) = true
  | [] => by simp [T.noTupl]
  | l :: ks => by
    simp only [List.map_cons, T.noTupl, noTupl_kids ks, kidT, T.noTup, noTupl_iT, Kd.isTup, Bool.not_false, Bool.and_self]
theorem flat_ints (l : List Int) : (l.map PyData.int).all flatD = true := by
  rw [List.all_eq_true]
  intro x hx
  obtain ⟨i, _, rfl⟩ := List.mem_map.mp hx
  rfl
abbrev F_merged : List T → (T → List T → Prop) → Prop := fun ts Q => ∃ (a s : Int) (fs : List Int) (ks : List (List Int)), ts = [Pool a s, KT ks, .d (.list (fs.map .int))] ∧ PoolOk a s ∧ KOk fs ks ∧ fs.length < 1000000 ∧
  ∀ ks' a' s', KOk fs ks' → PoolOk a' s' → Q (.d .none) [Pool a' s', KT ks', .dead]
def Gm_merged : Ctx := ⟨[("_law_take", fsTake)], [], ["range", "len"], [0, 1], []⟩
theorem ins_perm (l : List Int) (m : Nat) (x : Int) : (l.take m ++ [x] ++ l.drop m).Perm (x :: l) := by
  have := List.perm_middle (a := x) (l₁ := l.take m) (l₂ := l.drop m)
  rw [List.take_append_drop] at this
  simpa using this
theorem KOk.insert {fs : List Int} {ks : List (List Int)} {one : Nat} {other : Int} {l : List Int} {m : Nat} (ok : KOk fs ks) (h : ks[one]? = some l) (h1 : (one : Int) < other) (h2 : other < (fs.length : Nat)) (h3 : l.length < 12) (h4 : other ∉ l) (h5 : fs.getD one 0 < fs.getD other.toNat 0) : KOk fs (ks.set one (l.take m ++ [other] ++ l.drop m)) := by
  have hj : one < ks.length := (List.getElem?_eq_some_iff.mp h).1
  have hp := ins_perm l m other
  have key : ∀ (i : Nat) l', (ks.set one (l.take m ++ [other] ++ l.drop m))[i]? = some l' → (i = one ∧ l' = l.take m ++ [other] ++ l.drop m) ∨ ks[i]? = some l' := fun i l' hi => by
    rw [List.getElem?_set] at hi
    split at hi
    · rename_i e
      subst e
      cases hi
      exact .inl ⟨rfl, rfl⟩
    · exact .inr hi
  refine ⟨by simp [ok.len], ok.pos, fun i l' hi c hc => ?_, fun i l' hi => ?_, fun i h0 hi => ?_, fun i l' hi => ?_, fun i l' hi => ?_, fun i l' hi c hc => ?_, ok.f40⟩
  · rcases key i l' hi with ⟨rfl, rfl⟩ | hi
    · rcases List.mem_cons.mp (hp.mem_iff.mp hc) with rfl | z
      · exact ⟨h1, h2⟩
      · exact ok.up _ l h c z
    · exact ok.up i l' hi c hc
  · rcases key i l' hi with ⟨rfl, rfl⟩ | hi
    · have := hp.length_eq
      rw [List.length_cons] at this
      omega
    · exact ok.few i l' hi
  · obtain ⟨k, l', g1, g2⟩ := ok.led i h0 hi
    by_cases e : k = one
    · subst e
      rw [h] at g1
      cases g1
      exact ⟨k, _, by rw [List.getElem?_set, if_pos rfl, if_pos hj], hp.mem_iff.mpr (List.mem_cons_of_mem _ g2)⟩
    · exact ⟨k, l', by rw [List.getElem?_set, if_neg (fun z => e z.symm)]; exact g1, g2⟩
  · rcases key i l' hi with ⟨rfl, rfl⟩ | hi
    · exact hp.nodup_iff.mpr (List.nodup_cons.mpr ⟨h4, ok.nd _ l h⟩)
    · exact ok.nd i l' hi
  · rcases key i l' hi with ⟨rfl, rfl⟩ | hi
    · have := hp.length_eq
      rw [List.length_cons] at this
      omega
    · exact ok.b12 i l' hi
  · rcases key i l' hi with ⟨rfl, rfl⟩ | hi
    · rcases List.mem_cons.mp (hp.mem_iff.mp hc) with rfl | z
      · exact h5
      · exact ok.lev _ l h c z
    · exact ok.lev i l' hi c hc
theorem putS_kt {σ : St} {i j : Nat} {ks : List (List Int)} {l : List Int} (hi : σ[i]? = some (KT ks)) (h : j < ks.length) : putS σ i [j] (.nd .list (iT l)) = σ.set i (KT (ks.set j l)) := by
  have e : (ks.map kidT)[j]? = some (.nd .list (iT ks[j])) := kids_get (List.getElem?_eq_getElem h)
  unfold putS
  rw [hi]
  show σ.set i (T.put (.nd .list (ks.map kidT)) (.nd .list (iT l)) [j]) = _
  simp only [T.put, e]
  unfold KT
  rw [List.map_set]
  rfl
theorem iT_ins (l : List Int) (m : Nat) (x : Int) : (iT l).take m ++ [T.d (.int x)] ++ (iT l).drop m = iT (l.take m ++ [x] ++ l.drop m) := by
  unfold iT
  simp
theorem w_merged : bodyW Gm_merged n_law_merged [.own, .own, .bor] b_law_merged F_merged := by
  intro ts Q h _
  obtain ⟨a, s, fs, ks, rfl, hp, ok, hfl, q⟩ := h
  (conv => whnf); refine ⟨rfl, ?_⟩
  (conv => whnf)
  refine ⟨rfl, fun z => (by cases z), a, s, 12, rfl, hp, by decide, by decide, fun r a1 s1 g1 g2 hp1 => ⟨fun z => (by cases z), ?_⟩⟩
  (conv => whnf); refine ⟨⟨by omega, by omega⟩, ?_⟩
  refine forW_rng (fun _ σ => ∃ ks a s x3 x4 x5 x6, σ = [Pool a s, KT ks, .d (.list (fs.map .int)), x3, x4, x5, x6] ∧ PoolOk a s ∧ KOk fs ks) ?_ ?_ ⟨ks, a1, s1, _, _, _, _, rfl, hp1, ok⟩
  · rintro σ ⟨ks, a, s, x3, x4, x5, x6, rfl, hp, ok⟩
    exact q ks a s ok hp
  · clear ok hp1 hp q g1 g2
    rintro k σ N hk hN - - - ⟨ks, a, s, x3, x4, x5, x6, rfl, hp, ok⟩
    have hlen := ok.len
    have hpos := ok.pos
    have hlk : (0 : Int) < ((ks.map kidT).length : Nat) := by rw [List.length_map]; omega
    have hlk2 : (((ks.map kidT).length : Nat) : Int) < 2 ^ 64 := by rw [List.length_map]; omega
    (conv => whnf); refine ⟨rfl, ?_⟩
    (conv => whnf)
    refine ⟨rfl, fun z => (by cases z), a, s, ((ks.map kidT).length : Nat), rfl, hp, hlk, hlk2, fun one a1 s1 g1 g2 hp1 => ⟨fun z => (by cases z), ?_⟩⟩
    (conv => whnf); refine ⟨rfl, Nat.le_of_ble_eq_true rfl, ?_⟩
    (conv => whnf); refine ⟨rfl, ?_⟩
    (conv => whnf)
    refine ⟨rfl, fun z => (by cases z), a1, s1, ((ks.map kidT).length : Nat), rfl, hp1, hlk, hlk2, fun d a2 s2 g3 g4 hp2 => ⟨fun z => (by cases z), ?_⟩⟩
    (conv => whnf); refine ⟨rfl, Nat.le_of_ble_eq_true rfl, ?_⟩
    (conv => whnf); refine ⟨rfl, ?_⟩
    (conv => whnf)
    refine ⟨rfl, fun z => (by cases z), a2, s2, 8, rfl, hp2, by decide, by decide, fun at_ a3 s3 g5 g6 hp3 => ⟨fun z => (by cases z), ?_⟩⟩
    (conv => whnf); refine ⟨rfl, Nat.le_of_ble_eq_true rfl, ?_⟩
    show wSs Gm_merged [_] N [Pool a3 s3, KT ks, .d (.list (fs.map .int)), .d (.int (0 + (k : Int))), .d (.int one), .d (.int (one + 1 + d)), .d (.int at_)]
    have ho : one + 1 + d > one := by omega
    generalize one + 1 + d = other at ho
    have stay : N.nx [Pool a3 s3, KT ks, .d (.list (fs.map .int)), .d (.int (0 + (k : Int))), .d (.int one), .d (.int other), .d (.int at_)] := hN _ ⟨ks, a3, s3, _, _, _, _, rfl, hp3, ok⟩
    rw [List.length_map] at g2
    have hj : one.toNat < ks.length := by omega
    have hgk : ks[one.toNat]? = some ks[one.toNat] := List.getElem?_eq_getElem hj
    have hget : (R.p 1 ([] ++ [one.toNat])).get [Pool a3 s3, KT ks, .d (.list (fs.map .int)), .d (.int (0 + (k : Int))), .d (.int one), .d (.int other), .d (.int at_)] = some (.nd .list (iT ks[one.toNat])) := by
      show T.at (.nd .list (ks.map kidT)) [one.toNat] = _
      rw [T.at, kids_get hgk]
      rfl
    have hdata : (R.p 1 ([] ++ [one.toNat])).data [Pool a3 s3, KT ks, .d (.list (fs.map .int)), .d (.int (0 + (k : Int))), .d (.int one), .d (.int other), .d (.int at_)] = some (.list (ks[one.toNat].map .int)) := by
      unfold R.data
      rw [hget]
      exact data_iT _
    conv => whnf
    refine ⟨fun c1 => ?_, fun c1 => ?_⟩
    · have c1' := of_decide_eq_true c1
      rw [List.length_map] at c1'
      conv => whnf
      rw [ixN_of g1 (by rw [List.length_map]; omega)]
      conv => whnf
      rw [kids_get hgk]
      (conv => whnf); refine ⟨Nat.zero_le _, ?_⟩
      conv => whnf
      rw [hdata]
      (conv => whnf); refine ⟨(shp_ints _).shaped (by decide), (shp_ints []).shaped (by decide), ?_⟩
      conv => whnf
      refine ⟨fun c2 => ?_, fun c2 => ?_⟩
      · obtain ⟨z1, hz1, hy1⟩ := atI_ints (ns := fs) (i := one) g1 (by omega)
        obtain ⟨z2, hz2, hy2⟩ := atI_ints (ns := fs) (i := other) (by omega) (by omega)
        conv => whnf
        rw [hz1]
        conv => whnf
        rw [hz2]
        conv => whnf
        refine ⟨fun c3 => ?_, fun c3 => ?_⟩
        · conv => whnf
          rw [ixN_of g1 (by rw [List.length_map]; omega)]
          conv => whnf
          rw [kids_get hgk]
          conv => whnf
          rw [hdata]
          (conv => whnf); refine ⟨rfl, flat_ints _, ?_⟩
          conv => whnf
          refine ⟨fun c6 => ?_, fun _ => stay⟩
          have c6' : other ∉ ks[one.toNat] := fun z => by
            have : ((ks[one.toNat].map PyData.int).any fun z => PyData.eqv z (.int other)) = true := by
              rw [List.any_eq_true]
              exact ⟨.int other, List.mem_map.mpr ⟨other, z, rfl⟩, by simp [PyData.eqv]⟩
            rw [this] at c6
            cases c6
          have c3' := of_decide_eq_true c3
          conv => whnf
          rw [ixN_of g1 (by rw [List.length_map]; omega)]
          conv => whnf
          rw [kids_get hgk]
          conv => whnf
          rw [hget]
          conv => whnf
          refine ⟨fun c5 => ?_, fun _ => stay⟩
          have c5' := of_decide_eq_true c5
          rw [iT_len] at c5'
          conv => whnf
          rw [ixN_of g1 (by rw [List.length_map]; omega)]
          conv => whnf
          rw [kids_get hgk]
          (conv => whnf); refine ⟨mty_at hget, ?_⟩
          conv => whnf
          rw [ixN_of g1 (by rw [List.length_map]; omega)]
          conv => whnf
          rw [kids_get hgk]
          conv => whnf
          rw [hget]
          (conv => whnf); refine ⟨by omega, ?_⟩
          (conv => whnf); refine ⟨rfl, ?_⟩
          (conv => whnf); refine ⟨rfl, ?_⟩
          conv => whnf
          rw [hget]
          have hsl : sizeLine > 10000000 := by decide
          have e0 := Int.emod_nonneg at_ (b := ((iT ks[one.toNat]).length : Int) + 1) (by omega)
          have e1 := Int.emod_lt_of_pos at_ (b := ((iT ks[one.toNat]).length : Int) + 1) (by omega)
          have e2 := iT_len ks[one.toNat]
          (conv => whnf); refine ⟨by omega, ?_⟩
          (conv => whnf); refine ⟨e0, by omega, ?_⟩
          show N.nx (putS [Pool a3 s3, KT ks, .d (.list (fs.map .int)), .d (.int (0 + (k : Int))), .d (.int one), .d (.int other), .d (.int at_)] 1 [one.toNat] (.nd .list ((iT ks[one.toNat]).take _ ++ [T.d (.int other)] ++ (iT ks[one.toNat]).drop _)))
          rw [iT_ins, putS_kt rfl hj]
          exact hN _ ⟨_, _, _, _, _, _, _, rfl, hp3, ok.insert hgk (by omega) (by omega) (by omega) c6' (by rw [List.getD_eq_getElem?_getD, hy1, List.getD_eq_getElem?_getD, hy2]; exact c3')⟩
        · conv => whnf
          refine ⟨fun c4 => ?_, fun _ => stay⟩
          rw [c3] at c4
          cases c4
      · conv => whnf
        refine ⟨fun c4 => ?_, fun _ => stay⟩
        rw [c2] at c4
        cases c4
    · conv => whnf
      refine ⟨fun c2 => ?_, fun _ => stay⟩
      rw [c1] at c2
      cases c2
end VL
set_option Elab.async false
set_option linter.all false
set_option maxRecDepth 100000
set_option maxHeartbeats 4000000
/-! VA6: a play. -/
namespace VL
open PySem PySem.Spec PyProof.Rows L2
structure Stn where
  x : Str
  l : List Int
  w : Int
def Stn.d (s : Stn) : PyData := if s.l = [] then .tuple [.str "end", .int s.w] else .tuple [.str s.x, .tuple (s.l.map .int), .int s.w]
structure POk (P : List Stn) : Prop where
  pos : 0 < P.length
  hand : ∀ s ∈ P, s.x = "high" ∨ s.x = "low"
  up : ∀ (i : Nat) s, P[i]? = some s → ∀ c ∈ s.l, (i : Int) < c ∧ c < (P.length : Nat)
  few : ∀ s ∈ P, s.l.length ≤ P.length + 12
  low : ∀ s ∈ P, -(10 ^ 30) ≤ s.w
  high : ∀ s ∈ P, s.w ≤ 10 ^ 30
/-- .. as the laws' plays are -/
structure PX (P : List Stn) : Prop extends POk P where
  led : ∀ i : Nat, 0 < i → i < P.length → ∃ (k : Nat) (s : Stn), P[k]? = some s ∧ (i : Int) ∈ s.l
  nd : ∀ s ∈ P, s.l.Nodup
  b12 : ∀ s ∈ P, s.l.length ≤ 12
  lev : ∃ fs : List Int, fs.length = P.length ∧ (∀ f ∈ fs, 0 ≤ f ∧ f ≤ 40) ∧ ∀ (i : Nat) s, P[i]? = some s → ∀ c ∈ s.l, fs.getD i 0 < fs.getD c.toNat 0
def PTree (P : List Stn) : Prop := ∀ (i j : Nat) s s' c, P[i]? = some s → P[j]? = some s' → c ∈ s.l → c ∈ s'.l → i = j
def KTree (ks : List (List Int)) : Prop := ∀ (i j : Nat) l l' c, ks[i]? = some l → ks[j]? = some l' → c ∈ l → c ∈ l' → i = j
def PT (P : List Stn) : List T := P.map fun s => .d s.d
theorem leaves_iT : ∀ l : List Int, T.leaves (iT l) = some (l.map .int)
  | [] => by unfold iT; simp [T.leaves]
  | x :: l => by
    have := leaves_iT l
    unfold iT at this ⊢
    simp only [List.map_cons, T.leaves, this]
abbrev fsKids : FS := ⟨[.bor, .own, .bor], F_kids⟩
abbrev fsMerged : FS := ⟨[.own, .own, .bor], F_merged⟩
abbrev fsHand : FS := ⟨[.own, .bor, .bor], F_hand⟩
abbrev fsWorth : FS := ⟨[.own, .bor, .bor], F_worth⟩
abbrev F_play : List T → (T → List T → Prop) → Prop := fun ts Q => ∃ (ns : List Int) (most : Int) (merge : Bool), ts = [.d (.list (ns.map .int)), .d (.int most), .d (.bool merge)] ∧ most < 1000000 ∧
  ∀ P, POk P → (P.length : Int) ≤ max 1 most → PX P → (merge = false → PTree P) → Q (.nd .list (PT P)) [.dead, .dead, .dead]
def Gm_play : Ctx := ⟨[("_law_pool", fsPool), ("_law_kids", fsKids), ("_law_take", fsTake), ("_law_merged", fsMerged), ("_law_hand", fsHand), ("_law_worth", fsWorth)], [], ["range", "len", "tuple", "int"], [], []⟩
theorem w_play : bodyW Gm_play n_law_play [.bor, .bor, .bor] b_law_play F_play := by
  intro ts Q h _
  obtain ⟨ns, most, merge, rfl, hmost, q⟩ := h
  have hsl : sizeLine > 10000000 := by decide
  have rest : ∀ (a s a2 s2 style turns : Int) (fs : List Int) (ks : List (List Int)), PoolOk a2 s2 → 0 ≤ style → style < 5 → 0 ≤ turns → turns < 3 → KOk fs ks → (merge = false → KTree ks) → (fs.length : Int) ≤ max 1 most →
      wSs Gm_play (b_law_play.drop 6) (ends [.bor, .bor, .bor] [.d (.list (ns.map .int)), .d (.int most), .d (.bool merge)] Q) [.d (.list (ns.map .int)), .d (.int most), .d (.bool merge), Pool a s, KT ks, .nd .list (iT fs), .d (.int style), .d (.int turns), Pool a2 s2, .dead, .dead, .dead, .dead] := by
    intro a s a2 s2 style turns fs ks hp2 hs0 hs5 ht0 ht3 ok htr hl
    (conv => whnf); refine ⟨rfl, ?_⟩
    (conv => whnf); refine ⟨Nat.zero_le _, ?_⟩
    (conv => whnf); refine ⟨rfl, Nat.le_of_ble_eq_true rfl, ?_⟩
    (conv => whnf); refine ⟨rfl, ?_⟩
    have hkl : (ks.map kidT).length = fs.length := by rw [List.length_map, ok.len]
    (conv => whnf); refine ⟨⟨by omega, by omega⟩, ?_⟩
    refine forW_rng (fun k σ => ∃ P a2 s2 x10 x11 x12, σ = [.d (.list (ns.map .int)), .d (.int most), .d (.bool merge), Pool a s, KT ks, .nd .list (iT fs), .d (.int style), .d (.int turns), Pool a2 s2, .nd .list (PT P), x10, x11, x12] ∧ PoolOk a2 s2 ∧ P.length = k ∧ (∀ s ∈ P, s.x = "high" ∨ s.x = "low") ∧ (∀ (i : Nat) s, P[i]? = some s → ks[i]? = some s.l) ∧ (∀ s ∈ P, -(10 ^ 30) ≤ s.w) ∧ ∀ s ∈ P, s.w ≤ 10 ^ 30) ?_ ?_ ⟨[], a2, s2, _, _, _, rfl, hp2, rfl, by simp, by simp, by simp, by simp⟩
    · rintro σ ⟨P, a2, s2, x10, x11, x12, rfl, hp2, hlen, hh, hk, hlo, hhi⟩
      have hPl : P.length = fs.length := by omega
      have okP : POk P := by
        refine ⟨by rw [hPl]; exact ok.pos, hh, fun i s hi c hc => ?_, fun s hs => ?_, hlo, hhi⟩
        · have := ok.up i _ (hk i s hi) c hc
          rw [hPl]
          exact this
        · obtain ⟨i, hi⟩ := List.getElem?_of_mem hs
          have := ok.few i _ (hk i s hi)
          rw [hPl]
          exact this
      have back : ∀ (i : Nat) l, ks[i]? = some l → ∃ s, P[i]? = some s ∧ s.l = l := fun i l hi => by
        have hil : i < P.length := by rw [hPl, ← ok.len]; exact (List.getElem?_eq_some_iff.mp hi).1
        have h1 := List.getElem?_eq_getElem hil
        have h2 := hk i _ h1
        rw [hi] at h2
        exact ⟨_, h1, (Option.some.inj h2).symm⟩
      refine q P okP (by rw [hPl]; exact hl) ⟨okP, fun i h0 hi => ?_, fun s hs => ?_, fun s hs => ?_, fs, hPl.symm, ok.f40, fun i s hi c hc => ok.lev i _ (hk i s hi) c hc⟩ (fun hm i j s s' c h1 h2 hc1 hc2 => htr hm i j _ _ c (hk i s h1) (hk j s' h2) hc1 hc2)
      · obtain ⟨k, l, g1, g2⟩ := ok.led i h0 (by omega)
        obtain ⟨s, h1, h2⟩ := back k l g1
        exact ⟨k, s, h1, by rw [h2]; exact g2⟩
      · obtain ⟨i, hi⟩ := List.getElem?_of_mem hs
        exact ok.nd i _ (hk i s hi)
      · obtain ⟨i, hi⟩ := List.getElem?_of_mem hs
        exact ok.b12 i _ (hk i s hi)
    · rintro k σ N hkn hN - - - ⟨P, a2, s2, x10, x11, x12, rfl, hp2, hlen, hh, hk, hlo, hhi⟩
      have hkf : k < fs.length := by omega
      have hkk : k < ks.length := by rw [ok.len]; exact hkf
      have hg : fs[k]? = some fs[k] := List.getElem?_eq_getElem hkf
      have hgk : ks[k]? = some ks[k] := List.getElem?_eq_getElem hkk
      have ek : (0 + (k : Int)).toNat = k := by omega
      (conv => whnf); refine ⟨rfl, ?_⟩
      conv => whnf
      rw [ixN_of (by omega) (by rw [iT_len]; omega), ek]
      conv => whnf
      rw [iT_get hg]
      conv => whnf
      refine ⟨rfl, fun z => (by cases z), a2, s2, turns, fs[k], rfl, hp2, ht0, ht3, fun hand a3 s3 hx hp3 => ⟨fun z => (by cases z), ?_⟩⟩
      (conv => whnf); refine ⟨rfl, Nat.le_of_ble_eq_true rfl, ?_⟩
      (conv => whnf); refine ⟨rfl, ?_⟩
      conv => whnf
      refine ⟨rfl, fun z => (by cases z), a3, s3, style, 0 + (k : Int), rfl, hp3, hs0, hs5, fun w a4 s4 hw1 hw2 hp4 => ⟨fun z => (by cases z), ?_⟩⟩
      (conv => whnf); refine ⟨rfl, Nat.le_of_ble_eq_true rfl, ?_⟩
      show wSs Gm_play [_] N [.d (.list (ns.map .int)), .d (.int most), .d (.bool merge), Pool a s, KT ks, .nd .list (iT fs), .d (.int style), .d (.int turns), Pool a4 s4, .nd .list (PT P), .d (.int (0 + (k : Int))), .d (.str hand), .d (.int w)]
      have hsz2 : ∀ x y : T, [x, y].length ≤ sizeLine := fun _ _ => Nat.le_of_ble_eq_true rfl
      have hsz3 : ∀ x y z : T, [x, y, z].length ≤ sizeLine := fun _ _ _ => Nat.le_of_ble_eq_true rfl
      have hget : (R.p 4 ([] ++ [k])).get [.d (.list (ns.map .int)), .d (.int most), .d (.bool merge), Pool a s, KT ks, .nd .list (iT fs), .d (.int style), .d (.int turns), Pool a4 s4, .nd .list (PT P), .d (.int (0 + (k : Int))), .d (.str hand), .d (.int w)] = some (.nd .list (iT ks[k])) := by
        show T.at (.nd .list (ks.map kidT)) [k] = _
        rw [T.at, kids_get hgk]
        rfl
      have hdata : (R.p 4 ([] ++ [k])).data [.d (.list (ns.map .int)), .d (.int most), .d (.bool merge), Pool a s, KT ks, .nd .list (iT fs), .d (.int style), .d (.int turns), Pool a4 s4, .nd .list (PT P), .d (.int (0 + (k : Int))), .d (.str hand), .d (.int w)] = some (.list (ks[k].map .int)) := by
        unfold R.data
        rw [hget]
        exact data_iT _
      have fin : ∀ d : PyData, d = (Stn.mk hand ks[k] w).d → N.nx [.d (.list (ns.map .int)), .d (.int most), .d (.bool merge), Pool a s, KT ks, .nd .list (iT fs), .d (.int style), .d (.int turns), Pool a4 s4, .nd .list (PT P ++ [.d d]), .d (.int (0 + (k : Int))), .d (.str hand), .d (.int w)] := by
        rintro d rfl
        refine hN _ ⟨P ++ [⟨hand, ks[k], w⟩], a4, s4, .d (.int (0 + (k : Int))), .d (.str hand), .d (.int w), by simp [PT], hp4, by simp [hlen], fun s hs => ?_, fun i s hi => ?_, fun s hs => ?_, fun s hs => ?_⟩
        · rcases List.mem_append.mp hs with z | z
          · exact hh s z
          · simp at z
            subst z
            rcases hx with rfl | rfl
            · exact .inl rfl
            · exact .inr rfl
        · by_cases hik : i < P.length
          · rw [List.getElem?_append_left hik] at hi
            exact hk i s hi
          · have : i = P.length := by
              have := (List.getElem?_eq_some_iff.mp hi).1
              simp at this
              omega
            subst this
            simp at hi
            subst hi
            rw [hlen]
            exact hgk
        · rcases List.mem_append.mp hs with z | z
          · exact hlo s z
          · simp at z
            subst z
            exact hw1
        · rcases List.mem_append.mp hs with z | z
          · exact hhi s z
          · simp at z
            subst z
            exact hw2
      (conv => whnf); refine ⟨trivial, ?_⟩
      (conv => whnf); refine ⟨hsz2 _ _, ?_⟩
      conv => whnf
      rw [ixN_of (by omega) (by rw [List.length_map]; omega), ek]
      conv => whnf
      rw [kids_get hgk]
      conv => whnf
      rw [hget]
      conv => whnf
      rw [leaves_iT]
      (conv => whnf); refine ⟨hsz3 _ _ _, ?_⟩
      (conv => whnf); refine ⟨hsz2 _ _, ?_⟩
      conv => whnf
      rw [ixN_of (by omega) (by rw [List.length_map]; omega), ek]
      conv => whnf
      rw [kids_get hgk]
      (conv => whnf); refine ⟨Nat.zero_le _, ?_⟩
      conv => whnf
      rw [hdata]
      (conv => whnf); refine ⟨(shp_ints _).shaped (by decide), (shp_ints []).shaped (by decide), ?_⟩
      conv => whnf
      have hPl : (PT P).length < sizeLine := by
        unfold PT
        rw [List.length_map]
        omega
      generalize hbb : (!(PyData.list (List.map PyData.int ks[k])).eqv (PyData.list [])) = bb
      cases bb with
      | false =>
        have e0 : ks[k] = [] := by
          cases hk0 : ks[k] with
          | nil => rfl
          | cons x r => rw [hk0] at hbb; simp [PyData.eqv, PyData.eqvAll] at hbb
        (conv => whnf); refine ⟨rfl, ?_⟩
        (conv => whnf); refine ⟨rfl, ?_⟩
        (conv => whnf); refine ⟨hPl, ?_⟩
        exact fin _ (by rw [Stn.d, if_pos e0])
      | true =>
        have e0 : ks[k] ≠ [] := fun z => by rw [z] at hbb; simp [PyData.eqv, PyData.eqvAll] at hbb
        (conv => whnf); refine ⟨rfl, ?_⟩
        (conv => whnf); refine ⟨rfl, ?_⟩
        (conv => whnf); refine ⟨hPl, ?_⟩
        exact fin _ (by rw [Stn.d, if_neg e0])
  (conv => whnf); refine ⟨rfl, ?_⟩
  conv => whnf
  refine ⟨rfl, fun z => (by cases z), ns, 0, rfl, by decide, fun a s hp => ⟨fun z => (by cases z), ?_⟩⟩
  (conv => whnf); refine ⟨rfl, Nat.le_of_ble_eq_true rfl, ?_⟩
  (conv => whnf); refine ⟨rfl, ?_⟩
  conv => whnf
  refine ⟨rfl, fun z => (by cases z), ns, a, s, most, rfl, hp, hmost, fun fs ks a1 s1 ok hl hp1 => ⟨fun z => (by cases z), ?_⟩⟩
  (conv => whnf); refine ⟨by simp only [T.noTupl, KT, T.noTup, noTupl_kids, noTupl_iT, Kd.isTup, Bool.not_false, Bool.and_self], ?_⟩
  show wSs Gm_play (b_law_play.drop 2) _ [.d (.list (ns.map .int)), .d (.int most), .d (.bool merge), Pool a1 s1, KT ks, .nd .list (iT fs), .dead, .dead, .dead, .dead, .dead, .dead, .dead]
  (conv => whnf); refine ⟨rfl, ?_⟩
  conv => whnf
  refine ⟨rfl, fun z => (by cases z), a1, s1, 5, rfl, hp1, by decide, by decide, fun style a2 s2 hs0 hs5 hp2 => ⟨fun z => (by cases z), ?_⟩⟩
  (conv => whnf); refine ⟨rfl, Nat.le_of_ble_eq_true rfl, ?_⟩
  (conv => whnf); refine ⟨rfl, ?_⟩
  conv => whnf
  refine ⟨rfl, fun z => (by cases z), a2, s2, 3, rfl, hp2, by decide, by decide, fun turns a3 s3 ht0 ht3 hp3 => ⟨fun z => (by cases z), ?_⟩⟩
  (conv => whnf); refine ⟨rfl, Nat.le_of_ble_eq_true rfl, ?_⟩
  (conv => whnf); refine ⟨rfl, ?_⟩
  conv => whnf
  refine ⟨rfl, fun z => (by cases z), ns, 1, rfl, by decide, fun a4 s4 hp4 => ⟨fun z => (by cases z), ?_⟩⟩
  (conv => whnf); refine ⟨rfl, Nat.le_of_ble_eq_true rfl, ?_⟩
  show wSs Gm_play (b_law_play.drop 5) _ [.d (.list (ns.map .int)), .d (.int most), .d (.bool merge), Pool a3 s3, KT ks, .nd .list (iT fs), .d (.int style), .d (.int turns), Pool a4 s4, .dead, .dead, .dead, .dead]
  conv => whnf
  refine ⟨fun hmt => ?_, fun _ => rest a3 s3 a4 s4 style turns fs ks hp4 hs0 hs5 ht0 ht3 ok.toKOk (fun _ => ok.tree) hl⟩
  have hpass : passes fsMerged.md [R.p 8 [], R.p 4 [], R.p 5 []] [.d (.list (ns.map .int)), .d (.int most), .d (.bool merge), Pool a3 s3, KT ks, .nd .list (iT fs), .d (.int style), .d (.int turns), Pool a4 s4, .dead, .dead, .dead, .dead] = some ([Pool a4 s4, KT ks, .d (.list (fs.map .int))], true) := by
    simp [passes, R.get, T.at, Pool, KT, data_iT, R.isP]
  conv => whnf
  rw [hpass]
  conv => whnf
  refine ⟨rfl, fun z => (by cases z), a4, s4, fs, ks, rfl, hp4, ok.toKOk, by omega, fun ks' a5 s5 ok' hp5 => ⟨fun _ => ⟨rfl, ?_⟩, ?_⟩⟩
  · simp only [T.flatl, T.flat, KT, Pool, immD, flatl_kids, Bool.and_self]
  · exact rest a3 s3 a5 s5 style turns fs ks' hp5 hs0 hs5 ht0 ht3 ok' (fun z => by rw [z] at hmt; cases hmt) hl
end VL
set_option Elab.async false
set_option linter.all false
set_option maxRecDepth 100000
set_option maxHeartbeats 4000000
/-! VC3: classes of a context, piece by piece. -/
namespace VL
open PySem PySem.Spec PyProof.Rows L2
section
variable {P : Program} {w : World} {K : PySem.W.Frag} {mg : Str → Option Value} {base : Heap} {k : Nat}
def MthI (P : Program) (w : World) (K : PySem.W.Frag) (mg : Str → Option Value) (base : Heap) (k : Nat) (C : Addr) (m : Str) (fs : FS) : Prop :=
  ∃ f fd ps, Meth K C m f ∧ FnG P w K mg base CX0 k f fd ps (spV K fs.md fs.F) ∧ Binds K fd ps []
def MkI (P : Program) (w : World) (K : PySem.W.Frag) (mg : Str → Option Value) (base : Heap) (k : Nat) (C : Addr) (fs : FS) : Prop :=
  ∃ f fd ps, Mk K C f ∧ FnG P w K mg base CX0 k f fd ps (spV K fs.md fs.F) ∧ Binds K fd ps []
theorem MthI.mono {C : Addr} {m : Str} {fs : FS} {j k : Nat} (h : MthI P w K mg base j C m fs) (hjk : j ≤ k) : MthI P w K mg base k C m fs := by
  obtain ⟨f, fd, ps, h1, h2, h3⟩ := h
  exact ⟨f, fd, ps, h1, h2.mono hjk, h3⟩
theorem MkI.mono {C : Addr} {fs : FS} {j k : Nat} (h : MkI P w K mg base j C fs) (hjk : j ≤ k) : MkI P w K mg base k C fs := by
  obtain ⟨f, fd, ps, h1, h2, h3⟩ := h
  exact ⟨f, fd, ps, h1, h2.mono hjk, h3⟩
def MtsOk (P : Program) (w : World) (K : PySem.W.Frag) (mg : Str → Option Value) (base : Heap) (k : Nat) (C : Addr) (l : List (Str × FS)) : Prop := ∀ m fs, l.lookup m = some fs → m ≠ ("__init__" : Str) → MthI P w K mg base k C m fs
theorem mts_nil {C : Addr} : MtsOk P w K mg base k C [] := fun m fs h => by cases h
theorem mts_cons {C : Addr} {m0 : Str} {fs0 : FS} {l : List (Str × FS)} (h1 : MthI P w K mg base k C m0 fs0) (h2 : MtsOk P w K mg base k C l) : MtsOk P w K mg base k C ((m0, fs0) :: l) := fun m fs h hn => by
  rw [List.lookup_cons] at h
  split at h
  · rename_i e
    have e' : m = m0 := by simpa using e
    subst e'
    cases h
    exact h1
  · exact h2 m fs h hn
theorem mts_init {C : Addr} {fs0 : FS} {l : List (Str × FS)} (h2 : MtsOk P w K mg base k C l) : MtsOk P w K mg base k C (("__init__", fs0) :: l) := fun m fs h hn => by
  rw [List.lookup_cons] at h
  split at h
  · rename_i e
    exact absurd (by simpa using e) hn
  · exact h2 m fs h hn
def IniOk (P : Program) (w : World) (K : PySem.W.Frag) (mg : Str → Option Value) (base : Heap) (k : Nat) (c : Str) (C : Addr) (l : List (Str × FS)) : Prop := ∀ fs, l.lookup ("__init__" : Str) = some fs → mg c = some (.ref C) ∧ ∃ j, j + 1 ≤ k ∧ MkI P w K mg base j C fs
theorem ini_not {c : Str} {C : Addr} {l : List (Str × FS)} (h : (l.map (·.1)).contains ("__init__" : Str) = false) : IniOk P w K mg base k c C l := fun fs e => by
  have : ∀ (l : List (Str × FS)), (l.map (·.1)).contains ("__init__" : Str) = false → l.lookup ("__init__" : Str) = none := by
    intro l
    induction l with
    | nil => intro _; rfl
    | cons p l ih =>
      obtain ⟨a, b⟩ := p
      intro h
      rw [List.map_cons, List.contains_cons, Bool.or_eq_false_iff] at h
      rw [List.lookup_cons, h.1]
      exact ih h.2
  rw [this l h] at e
  cases e
theorem ini_head {c : Str} {C : Addr} {fs0 : FS} {l : List (Str × FS)} {j : Nat} (hm : mg c = some (.ref C)) (hj : j + 1 ≤ k) (h : MkI P w K mg base j C fs0) : IniOk P w K mg base k c C (("__init__", fs0) :: l) := fun fs e => by
  rw [List.lookup_cons] at e
  simp only [beq_self_eq_true] at e
  cases e
  exact ⟨hm, j, hj, h⟩
def FldOk (K : PySem.W.Frag) (C : Addr) (l : List Str) : Prop := ∀ a ∈ l, NoAttr K C a
theorem fld_nil {C : Addr} : FldOk K C [] := fun a h => by cases h
theorem fld_cons {C : Addr} {a : Str} {l : List Str} (h1 : PySem.W.findIn K (.ref C) a = some none) (h2 : FldOk K C l) : FldOk K C (a :: l) := fun b h => by
  rcases List.mem_cons.mp h with rfl | h
  · exact h1
  · exact h2 b h
theorem cls_of {c : Str} {ci : CI} (cl : Cls K ci.C) (fld : FldOk K ci.C ci.fld) (mt : MtsOk P w K mg base k ci.C ci.mt) (ini : IniOk P w K mg base k c ci.C ci.mt) : ClsOk P w K mg base k c ci :=
  ⟨cl, fld, mt, fun fs h => by
    obtain ⟨h1, j, h2, f, fd, ps, h3⟩ := ini fs h
    exact ⟨h1, f, fd, ps, j, h2, h3⟩⟩
theorem cl_cons {c : Str} {ci : CI} {l : List (Str × CI)} (h1 : ClsOk P w K mg base k c ci) (h2 : ∀ c ci, l.lookup c = some ci → ClsOk P w K mg base k c ci) : ∀ d cj, ((c, ci) :: l).lookup d = some cj → ClsOk P w K mg base k d cj := fun d cj h => by
  rw [List.lookup_cons] at h
  split at h
  · rename_i e
    have e' : d = c := by simpa using e
    subst e'
    cases h
    exact h1
  · exact h2 d cj h
theorem gl_int {g : Str} {i : Int} {t : Nat} {l : List (Str × PyData)} (h1 : mg g = some (.int i t)) (h2 : ∀ g x, l.lookup g = some x → ∃ v u, mg g = some u ∧ RelV v u ∧ ∀ Hs, Rp K Hs v x) : ∀ g' x, ((g, .int i) :: l).lookup g' = some x → ∃ v u, mg g' = some u ∧ RelV v u ∧ ∀ Hs, Rp K Hs v x := fun g' x h => by
  rw [List.lookup_cons] at h
  split at h
  · rename_i e
    have e' : g' = g := by simpa using e
    subst e'
    cases h
    exact ⟨.int i, _, h1, ⟨t, rfl⟩, fun _ => .int i⟩
  · exact h2 g' x h
theorem mth_in {C : Addr} {m qual : Str} {st : Stmt} {f : Addr} {fd : FuncData} {N ps : List Str} {Γ : Ctx} {md : List Md} {body : List S} {F : List T → (T → List T → Prop) → Prop} (Fn : Fun K m qual st f fd) (hf : PySem.W.findIn K (.ref C) m = some (some (.ref f))) (hi : PySem.W.isFn K (.ref f) = true) (hb : Binds K fd ps []) (Sc : FnScope N ps (defScope st)) (hmd : md.length = ps.length)
    (G : GOk P w K mg base Γ k) (hpin : Γ.pin = ownIx md 0) (hchk : chkSs Γ.sk ⟨N, defScope st, fun _ => true⟩ body (defBody st) = true) (hF : bodyW Γ N md body F) : MthI P w K mg base (k + 1) C m ⟨md, F⟩ :=
  ⟨f, fd, ps, ⟨hf, hi, Fn.kp⟩, fn_ok Fn Sc hmd G hpin hchk hF, hb⟩
theorem mk_in {C : Addr} {qual : Str} {st : Stmt} {f : Addr} {fd : FuncData} {N ps : List Str} {Γ : Ctx} {md : List Md} {body : List S} {F : List T → (T → List T → Prop) → Prop} (Fn : Fun K "__init__" qual st f fd) (mk : PySem.W.makesIn K C = true) (kc : PySem.W.keepIn K (.ref C) = true) (hf : PySem.W.findIn K (.ref C) "__init__" = some (some (.ref f))) (hi : PySem.W.isFn K (.ref f) = true) (hb : Binds K fd ps []) (Sc : FnScope N ps (defScope st)) (hmd : md.length = ps.length)
    (G : GOk P w K mg base Γ k) (hpin : Γ.pin = ownIx md 0) (hchk : chkSs Γ.sk ⟨N, defScope st, fun _ => true⟩ body (defBody st) = true) (hF : bodyW Γ N md body F) : MkI P w K mg base (k + 1) C ⟨md, F⟩ :=
  ⟨f, fd, ps, ⟨mk, hf, hi, kc⟩, fn_ok Fn Sc hmd G hpin hchk hF, hb⟩
/-- what is never called -/
theorem mth_never {C : Addr} {m qual : Str} {st : Stmt} {f : Addr} {fd : FuncData} {ps : List Str} {md : List Md} {F : List T → (T → List T → Prop) → Prop} (Fn : Fun K m qual st f fd) (hf : PySem.W.findIn K (.ref C) m = some (some (.ref f))) (hi : PySem.W.isFn K (.ref f) = true) (hb : Binds K fd ps []) (hmd : md.length = ps.length) (hF : ∀ ts Q, ¬ F ts Q) : MthI P w K mg base k C m ⟨md, F⟩ :=
  ⟨f, fd, ps, ⟨hf, hi, Fn.kp⟩, ⟨fun vs H Q E h => by
    obtain ⟨_, _, _, hl, _⟩ := h
    rw [hl, hmd], fun A outer s H args us vs Q E _ _ _ _ _ h => by
    obtain ⟨_, _, _, _, _, _, _, _, h, _⟩ := h
    exact (hF _ _ h).elim⟩, hb⟩
end
end VL
set_option Elab.async false
set_option linter.all false
set_option maxRecDepth 100000
set_option maxHeartbeats 4000000
namespace VL
open PySem PySem.Spec PyProof.Rows L2

def n_best_of : List Str := ["hand", "some"]
def b_best_of : List S := [.ife (.cmp .eq (.var 0) (.k (.str "high"))) [.ret (.blt .max [.var 1])] [], .ret (.blt .min [.var 1])]

def n_worths_of : List Str := ["play", "found", "number", "stand", "step"]
def b_worths_of : List S := [.asg 1 (.bin .mul (.lst [.k (.int 0)]) (.blt .len [.var 0])), .for_ [2] .rrng [.blt .len [.var 0]] [.asg 3 (.ix (.var 0) (.var 2)), .ife (.cmp .eq (.ix (.var 3) (.k (.int 0))) (.k (.str "end"))) [.setix (.var 1) (.var 2) (.ix (.var 3) (.k (.int 1)))] [.setix (.var 1) (.var 2) (.call "best_of" [.ix (.var 3) (.k (.int 0)), .lc [4] false (.ix (.var 1) (.var 4)) .e [.ix (.var 3) (.k (.int 1))] []])]], .ret (.var 1)]

def n_law_whole : List Str := ["_law_thing"]
def b_law_whole : List S := [.ret (.and (.isi (.var 0) "int") (.not (.isi (.var 0) "bool")))]

def n_is_whole : List Str := ["thing"]
def b_is_whole : List S := [.ret (.and (.isi (.var 0) "int") (.not (.isi (.var 0) "bool")))]

def n_steps_of : List Str := ["play", "number"]
def b_steps_of : List S := [.ife (.cmp .eq (.ix (.ix (.var 0) (.var 1)) (.k (.int 0))) (.k (.str "end"))) [.ret (.tup [])] [], .ret (.ix (.ix (.var 0) (.var 1)) (.k (.int 1)))]

def n_first_best : List Str := ["play", "worths", "number", "step"]
def b_first_best : List S := [.ret (.mth .index (.lc [3] false (.ix (.var 1) (.var 3)) .e [.call "steps_of" [.var 0, .var 2]] []) [.ix (.var 1) (.var 2)])]

def n_best_way : List Str := ["play", "worths", "way", "number"]
def b_best_way : List S := [.asg 1 (.call "worths_of" [.var 0]), .asg 2 (.lst []), .asg 3 (.k (.int 0)), .while_ (.cmp .ne (.ix (.ix (.var 0) (.var 3)) (.k (.int 0))) (.k (.str "end"))) [.ex (.mth .append (.var 2) [.call "first_best" [.var 0, .var 1, .var 3]]), .asg 3 (.ix (.call "steps_of" [.var 0, .var 3]) (.ix (.var 2) (.neg (.k (.int 1)))))], .ret (.var 2)]

def n_farthest : List Str := ["play", "found", "number", "step"]
def b_farthest : List S := [.asg 1 (.bin .add (.lst [.k (.int 0)]) (.bin .mul (.lst [.k .none]) (.bin .sub (.blt .len [.var 0]) (.k (.int 1))))), .for_ [2] .rng1 [.blt .len [.var 0]] [.ife (.cmp .isnot (.ix (.var 1) (.var 2)) (.k .none)) [.for_ [3] .e [.call "steps_of" [.var 0, .var 2]] [.setix (.var 1) (.var 3) (.blt .max [.bin .add (.ix (.var 1) (.var 2)) (.k (.int 1)), .or (.ix (.var 1) (.var 3)) (.k (.int 0))])]] []], .ret (.var 1)]

def n_led_to : List Str := ["play", "found", "number", "step"]
def b_led_to : List S := [.asg 1 (.bin .mul (.lst [.k (.int 0)]) (.blt .len [.var 0])), .for_ [2] .rng1 [.blt .len [.var 0]] [.for_ [3] .e [.call "steps_of" [.var 0, .var 2]] [.augix .add (.var 1) (.var 3) 1]], .ret (.var 1)]

def n_ends_of : List Str := ["play", "number", "stand"]
def b_ends_of : List S := [.ret (.lc [1, 2] false (.var 1) .enum [.var 0] [.cmp .eq (.ix (.var 2) (.k (.int 0))) (.k (.str "end"))])]

def n_ways_many : List Str := ["play", "many", "number", "step"]
def b_ways_many : List S := [.asg 1 (.bin .mul (.lst [.k (.int 1)]) (.blt .len [.var 0])), .for_ [2] .rrng [.blt .len [.var 0]] [.ife (.cmp .ne (.ix (.ix (.var 0) (.var 2)) (.k (.int 0))) (.k (.str "end"))) [.setix (.var 1) (.var 2) (.blt .sum [.lc [3] false (.ix (.var 1) (.var 3)) .e [.call "steps_of" [.var 0, .var 2]] []])] []], .ret (.ix (.var 1) (.k (.int 0)))]

def n_longest : List Str := ["play"]
def b_longest : List S := [.ret (.blt .max [.call "farthest" [.var 0]])]

def n_is_tree : List Str := ["play"]
def b_is_tree : List S := [.ret (.cmp .le (.blt .max [.call "led_to" [.var 0]]) (.k (.int 1)))]

def n_look_at_tree : List Str := ["play"]
def b_look_at_tree : List S := [.ife (.not (.call "is_tree" [.var 0])) [.rse] []]

def n_take_turns : List Str := ["play", "number", "step"]
def b_take_turns : List S := [.for_ [1] .rng1 [.blt .len [.var 0]] [.for_ [2] .e [.call "steps_of" [.var 0, .var 1]] [.ife (.cmp .eq (.ix (.ix (.var 0) (.var 2)) (.k (.int 0))) (.ix (.ix (.var 0) (.var 1)) (.k (.int 0)))) [.ret (.k (.bool false))] []]], .ret (.k (.bool true))]

def n_evenness : List Str := ["play", "far", "deep", "boughs", "number", "stand"]
def b_evenness : List S := [.asg 1 (.call "farthest" [.var 0]), .asg 2 (.lc [4] false (.ix (.var 1) (.var 4)) .e [.call "ends_of" [.var 0]] []), .asg 3 (.lc [5] false (.blt .len [.ix (.var 5) (.k (.int 1))]) .e [.var 0] [.cmp .ne (.ix (.var 5) (.k (.int 0))) (.k (.str "end"))]), .ife (.or (.not (.call "is_tree" [.var 0])) (.or (.not (.call "take_turns" [.var 0])) (.or (.cmp .ne (.blt .min [.var 2]) (.blt .max [.var 2])) (.cmp .eq (.var 3) (.lst []))))) [.ret (.k .none)] [], .ife (.cmp .ne (.blt .min [.var 3]) (.blt .max [.var 3])) [.ret (.k .none)] [], .ret (.tup [.ix (.var 3) (.k (.int 0)), .ix (.var 2) (.k (.int 0))])]

def n_end_of : List Str := ["play", "way", "number", "place", "steps"]
def b_end_of : List S := [.ife (.not (.isi (.var 1) "list")) [.rse] [], .asg 2 (.k (.int 0)), .for_ [3] .e [.var 1] [.asg 4 (.call "steps_of" [.var 0, .var 2]), .ife (.or (.not (.call "is_whole" [.var 3])) (.not (.chain .le .lt (.k (.int 0)) (.var 3) (.blt .len [.var 4])))) [.rse] [], .asg 2 (.ix (.var 4) (.var 3))], .ife (.cmp .ne (.ix (.ix (.var 0) (.var 2)) (.k (.int 0))) (.k (.str "end"))) [.rse] [], .ret (.var 2)]

def n_are_places : List Str := ["thing", "many", "place"]
def b_are_places : List S := [.ife (.or (.not (.isi (.var 0) "list")) (.not (.blt .all [.lc [2] false (.call "is_whole" [.var 2]) .e [.var 0] []]))) [.ret (.k (.bool false))] [], .ret (.cmp .eq (.blt .sorted [.var 0]) (.blt .listRange [.var 1]))]

def n_is_order : List Str := ["play", "thing", "number", "places"]
def b_is_order : List S := [.ife (.or (.not (.isi (.var 1) "list")) (.cmp .ne (.blt .len [.var 1]) (.blt .len [.var 0]))) [.ret (.k (.bool false))] [], .ret (.blt .all [.lc [2, 3] false (.call "are_places" [.var 3, .blt .len [.call "steps_of" [.var 0, .var 2]]]) .enum [.var 1] []])]

def n_look_at_order : List Str := ["play", "thing"]
def b_look_at_order : List S := [.ife (.not (.call "is_order" [.var 0, .var 1])) [.rse] []]

def n_plain_order : List Str := ["play", "number"]
def b_plain_order : List S := [.ret (.lc [1] false (.blt .listRange [.blt .len [.call "steps_of" [.var 0, .var 1]]]) .rng1 [.blt .len [.var 0]] [])]

def n_mark_of : List Str := ["stand"]
def b_mark_of : List S := [.ret (.ix (.var 0) (.neg (.k (.int 1))))]

def n_moved_ahead : List Str := ["places", "place", "one"]
def b_moved_ahead : List S := [.ret (.bin .add (.lst [.var 1]) (.lc [2] false (.var 2) .e [.var 0] [.cmp .ne (.var 2) (.var 1)]))]

def n_best_order : List Str := ["play", "worths", "order", "number", "places"]
def b_best_order : List S := [.asg 1 (.call "worths_of" [.var 0]), .asg 2 (.lst []), .for_ [3, 4] .enum [.call "plain_order" [.var 0]] [.ife (.cmp .ne (.var 4) (.lst [])) [.asg 4 (.call "moved_ahead" [.var 4, .call "first_best" [.var 0, .var 1, .var 3]])] [], .ex (.mth .append (.var 2) [.var 4])], .ret (.var 2)]

def n_are_ends : List Str := ["play", "thing", "place", "one"]
def b_are_ends : List S := [.ife (.not (.isi (.var 1) "list")) [.ret (.k (.bool false))] [], .for_ [2, 3] .enum [.var 1] [.ife (.or (.not (.call "is_whole" [.var 3])) (.or (.not (.chain .le .lt (.k (.int 0)) (.var 3) (.blt .len [.var 0]))) (.or (.cmp .ne (.ix (.ix (.var 0) (.var 3)) (.k (.int 0))) (.k (.str "end"))) (.cmp .isin (.var 3) (.sl false true (.var 1) [.var 2]))))) [.ret (.k (.bool false))] []], .ret (.k (.bool true))]

def n_look_at_ends : List Str := ["play", "thing"]
def b_look_at_ends : List S := [.ife (.not (.call "are_ends" [.var 0, .var 1])) [.rse] []]

def n_sure_at : List Str := ["hand", "owner", "some", "numbers", "one"]
def b_sure_at : List S := [.asg 3 (.lc [4] false (.var 4) .e [.var 2] [.cmp .isnot (.var 4) (.k .none)]), .ife (.and (.cmp .eq (.var 1) (.var 0)) (.cmp .ne (.var 3) (.lst []))) [.ret (.call "best_of" [.var 0, .var 3])] [], .ife (.and (.cmp .ne (.var 1) (.var 0)) (.cmp .eq (.blt .len [.var 3]) (.blt .len [.var 2]))) [.ret (.call "best_of" [.var 1, .var 3])] [], .ret (.k .none)]

def n_sure_of : List Str := ["play", "ends", "hand", "found", "one", "number", "stand", "step"]
def b_sure_of : List S := [.asg 3 (.bin .mul (.lst [.k .none]) (.blt .len [.var 0])), .for_ [4] .e [.var 1] [.setix (.var 3) (.var 4) (.ix (.ix (.var 0) (.var 4)) (.k (.int 1)))], .for_ [5] .rrng [.blt .len [.var 0]] [.asg 6 (.ix (.var 0) (.var 5)), .ife (.cmp .ne (.ix (.var 6) (.k (.int 0))) (.k (.str "end"))) [.setix (.var 3) (.var 5) (.call "sure_at" [.var 2, .ix (.var 6) (.k (.int 0)), .lc [7] false (.ix (.var 3) (.var 7)) .e [.ix (.var 6) (.k (.int 1))] []])] []], .ret (.var 3)]

def n_shown_by : List Str := ["play", "ends"]
def b_shown_by : List S := [.ex (.call "look_at_ends" [.var 0, .var 1]), .ret (.tup [.ix (.call "sure_of" [.var 0, .var 1, .k (.str "high")]) (.k (.int 0)), .ix (.call "sure_of" [.var 0, .var 1, .k (.str "low")]) (.k (.int 0))])]

def n_is_window : List Str := ["thing", "low", "high"]
def b_is_window : List S := [.ife (.or (.not (.isi (.var 0) "tuple")) (.cmp .ne (.blt .len [.var 0]) (.k (.int 2)))) [.ret (.k (.bool false))] [], .unp [1, 2] (.var 0), .ife (.or (.and (.cmp .isnot (.var 1) (.k .none)) (.not (.call "is_whole" [.var 1]))) (.and (.cmp .isnot (.var 2) (.k .none)) (.not (.call "is_whole" [.var 2])))) [.ret (.k (.bool false))] [], .ret (.or (.cmp .is (.var 1) (.k .none)) (.or (.cmp .is (.var 2) (.k .none)) (.cmp .lt (.var 1) (.var 2))))]

def n_is_shut : List Str := ["low", "high"]
def b_is_shut : List S := [.ret (.and (.cmp .isnot (.var 0) (.k .none)) (.and (.cmp .isnot (.var 1) (.k .none)) (.cmp .ge (.var 0) (.var 1))))]

def n_other_hand : List Str := ["hand"]
def b_other_hand : List S := [.ret (.ix (.lst [.k (.str "high"), .k (.str "low")]) (.blt .int [.cmp .eq (.var 0) (.k (.str "high"))]))]

def n_is_no_worse : List Str := ["hand", "one", "other"]
def b_is_no_worse : List S := [.ret (.cmp .eq (.call "best_of" [.var 0, .lst [.var 1, .var 2]]) (.var 1))]

def n_look_at_ways : List Str := ["play"]
def b_look_at_ways : List S := [.ife (.cmp .gt (.call "ways_many" [.var 0]) (.glob "MOST_WAYS")) [.rse] []]

def n_is_worth : List Str := ["thing"]
def b_is_worth : List S := [.ret (.and (.call "is_whole" [.var 0]) (.cmp .le (.blt .abs [.var 0]) (.glob "GREATEST")))]

def n_are_steps : List Str := ["thing", "number", "many", "place", "step"]
def b_are_steps : List S := [.ife (.or (.not (.isi (.var 0) "tuple")) (.not (.chain .le .le (.k (.int 1)) (.blt .len [.var 0]) (.glob "MOST_BOUGHS")))) [.ret (.k (.bool false))] [], .for_ [3, 4] .enum [.var 0] [.ife (.or (.not (.call "is_whole" [.var 4])) (.or (.not (.chain .lt .lt (.var 1) (.var 4) (.var 2))) (.cmp .isin (.var 4) (.sl false true (.var 0) [.var 3])))) [.ret (.k (.bool false))] []], .ret (.k (.bool true))]

def n_is_stand : List Str := ["thing", "number", "many"]
def b_is_stand : List S := [.ife (.or (.not (.isi (.var 0) "tuple")) (.or (.cmp .lt (.blt .len [.var 0]) (.k (.int 2))) (.not (.isi (.ix (.var 0) (.k (.int 0))) "str")))) [.ret (.k (.bool false))] [], .ife (.cmp .eq (.ix (.var 0) (.k (.int 0))) (.k (.str "end"))) [.ret (.and (.cmp .eq (.blt .len [.var 0]) (.k (.int 2))) (.call "is_worth" [.ix (.var 0) (.k (.int 1))]))] [], .ife (.or (.cmp .notin (.ix (.var 0) (.k (.int 0))) (.glob "HANDS")) (.cmp .ne (.blt .len [.var 0]) (.k (.int 3)))) [.ret (.k (.bool false))] [], .ret (.and (.call "are_steps" [.ix (.var 0) (.k (.int 1)), .var 1, .var 2]) (.call "is_worth" [.ix (.var 0) (.k (.int 2))]))]

def n_law_worths : List Str := ["_law_play_here", "_law_found", "_law_k", "_law_some", "_law_step"]
def b_law_worths : List S := [.asg 1 (.bin .mul (.lst [.k (.int 0)]) (.blt .len [.var 0])), .for_ [2] .rng3 [.bin .sub (.blt .len [.var 0]) (.k (.int 1)), .neg (.k (.int 1)), .neg (.k (.int 1))] [.ife (.cmp .eq (.ix (.ix (.var 0) (.var 2)) (.k (.int 0))) (.k (.str "end"))) [.setix (.var 1) (.var 2) (.ix (.ix (.var 0) (.var 2)) (.k (.int 1)))] [.asg 3 (.blt .sorted [.lc [4] false (.ix (.var 1) (.var 4)) .e [.ix (.ix (.var 0) (.var 2)) (.k (.int 1))] []]), .setix (.var 1) (.var 2) (.ix (.var 3) (.ix (.lst [.k (.int 0), .neg (.k (.int 1))]) (.blt .int [.cmp .eq (.ix (.ix (.var 0) (.var 2)) (.k (.int 0))) (.k (.str "high"))])))]], .ret (.var 1)]

end VL
set_option Elab.async false
set_option linter.all false
set_option maxRecDepth 100000
set_option maxHeartbeats 4000000
/-! VP1: best_of, worths_of. -/
namespace VL
open PySem PySem.Spec PyProof.Rows L2
abbrev fsPlay : FS := ⟨[.bor, .bor, .bor], F_play⟩
def best (x : Str) (vs : List Int) : Int := if x = "high" then maxL vs else minL vs
abbrev F_best_of : List T → (T → List T → Prop) → Prop := fun ts Q => ∃ (x : Str) (vs : List Int), ts = [.d (.str x), .d (.list (vs.map .int))] ∧ vs ≠ [] ∧ Q (.d (.int (best x vs))) [.dead, .dead]
def Gm_best_of : Ctx := ⟨[], [], ["max", "min"], [], []⟩
theorem intsOf_map : ∀ vs : List Int, intsOf (vs.map .int) = some vs
  | [] => rfl
  | x :: vs => by rw [List.map_cons, intsOf, intsOf_map vs]
theorem w_best_of : bodyW Gm_best_of n_best_of [.bor, .bor] b_best_of F_best_of := by
  intro ts Q h _
  obtain ⟨x, vs, rfl, hne, q⟩ := h
  conv => whnf
  refine ⟨fun h => ?_, fun h => ?_⟩
  · have h := of_decide_eq_true h
    conv => whnf
    rw [intsOf_map]
    (conv => whnf); refine ⟨hne, ?_⟩
    conv => whnf
    rw [best, if_pos h] at q
    exact q
  · have h := of_decide_eq_false h
    conv => whnf
    rw [intsOf_map]
    (conv => whnf); refine ⟨hne, ?_⟩
    conv => whnf
    rw [best, if_neg h] at q
    exact q
abbrev F_law_whole : List T → (T → List T → Prop) → Prop := fun ts Q => ∃ i : Int, ts = [.d (.int i)] ∧ Q (.d (.bool true)) [.dead]
def Gm_law_whole : Ctx := ⟨[], [], ["isinstance", "int", "bool"], [], []⟩
theorem w_law_whole : bodyW Gm_law_whole n_law_whole [.bor] b_law_whole F_law_whole := by
  intro ts Q h _
  obtain ⟨i, rfl, q⟩ := h
  conv => whnf
  refine ⟨fun _ => ?_, fun h => absurd h (by decide)⟩
  conv => whnf
  exact q
/-- what a stand is worth, by the worths behind it -/
def val (s : Stn) (ws : List Int) : Int := if s.l = [] then s.w else best s.x (s.l.map fun c => ws.getD c.toNat 0)
def PD (P : List Stn) : PyData := .list (P.map Stn.d)
abbrev F_worths_of : List T → (T → List T → Prop) → Prop := fun ts Q => ∃ P : List Stn, ts = [.d (PD P)] ∧ POk P ∧ P.length < 1000000 ∧
  ∀ ws : List Int, ws.length = P.length → (∀ (i : Nat) s, P[i]? = some s → ws[i]? = some (val s ws)) → Q (.nd .list (iT ws)) [.dead]
abbrev fsBest : FS := ⟨[.bor, .bor], F_best_of⟩
def Gm_worths_of : Ctx := ⟨[("best_of", fsBest)], [], ["len", "reversed", "range"], [], []⟩
/-- a loop over a range, backwards -/
theorem rngC_cons (lo : Int) (n : Nat) : rngC lo (-1) (n + 1) = .int lo :: rngC (lo - 1) (-1) n := by
  unfold rngC
  rw [List.range_succ_eq_map, List.map_cons, List.map_map]
  congr 1
  · simp
  · apply List.map_congr_left
    intro k _
    show PyData.int _ = PyData.int _
    congr 1
    push_cast
    omega
theorem forW_back {is : List Nat} {bd : AE → St → Prop} {D : AE} {n : Nat} (I : Nat → St → Prop) (h0 : ∀ σ, I 0 σ → D.nx σ)
    (hs : ∀ (k : Nat) σ (N : AE), k < n → (∀ σ', I k σ' → N.nx σ') → (∀ σ', I k σ' → N.ct σ') → (∀ r σ', D.rt r σ' → N.rt r σ') → (∀ σ', D.nx σ' → N.bk σ') → I (k + 1) σ → match bindD is (.int (k : Nat)) σ with | some σ1 => bd N σ1 | none => False) {σ : St} (hi : I n σ) : forW is bd D (rngC ((n : Int) - 1) (-1) n) σ := by
  have key : ∀ (m : Nat) (σ : St), m ≤ n → I m σ → forW is bd D (rngC ((m : Int) - 1) (-1) m) σ := by
    intro m
    induction m with
    | zero => intro σ _ h; exact h0 σ h
    | succ m ih =>
      intro σ hm h
      rw [rngC_cons]
      have e : ((m + 1 : Nat) : Int) - 1 = (m : Nat) := by push_cast; omega
      rw [e]
      have st : ∀ σ', I m σ' → forW is bd D (rngC ((m : Int) - 1) (-1) m) σ' := fun σ' h' => ih σ' (by omega) h'
      exact hs m σ { nx := forW is bd D (rngC ((m : Int) - 1) (-1) m), rt := D.rt, bk := D.nx, ct := forW is bd D (rngC ((m : Int) - 1) (-1) m) } (by omega) st st (fun _ _ z => z) (fun _ z => z) h
  exact key n σ (Nat.le_refl _) hi
/-- a comprehension that changes nothing: its items, one by one -/
theorem lcW_map {is : List Nat} {σ0 σ : St} {el : St → (T → St → Prop) → Prop} {K : List T → St → Prop} (f : PyData → T) : ∀ (xs : List PyData) (acc : List T),
    (∀ x ∈ xs, ∃ σ1, bindD is x (wipeT σ is) = some σ1 ∧ (∀ Q, Q (f x) σ1 → el σ1 Q) ∧ restT σ0 is σ1 = σ) → acc.length + xs.length < sizeLine → K (acc ++ xs.map f) σ → lcW is σ0 (fun s Q => Q true s) el xs acc σ K
  | [], acc, h, hz, hK => by rw [lcW]; simpa using hK
  | x :: xs, acc, h, hz, hK => by
    obtain ⟨σ1, h1, h2, h3⟩ := h x (by simp)
    rw [lcW, h1]
    simp only [br_t]
    refine h2 _ ⟨by simp at hz; omega, ?_⟩
    rw [h3]
    exact lcW_map f xs (acc ++ [f x]) (fun y hy => h y (List.mem_cons_of_mem _ hy)) (by simp at hz ⊢; omega) (by simpa using hK)
theorem atI_PD {P : List Stn} {k : Nat} {s : Stn} (h : P[k]? = some s) : atI (P.map Stn.d) (k : Nat) = some s.d := by
  have hk : k < P.length := (List.getElem?_eq_some_iff.mp h).1
  unfold atI
  rw [ixN_of (by omega) (by rw [List.length_map]; omega)]
  show (P.map Stn.d)[((k : Nat) : Int).toNat]? = _
  rw [Int.toNat_natCast, List.getElem?_map, h]
  rfl
theorem val_set {s : Stn} {ws : List Int} {m : Nat} {v : Int} (h : ∀ c ∈ s.l, (m : Int) < c) : val s (ws.set m v) = val s ws := by
  unfold val
  split
  · rfl
  · congr 1
    apply List.map_congr_left
    intro c hc
    have := h c hc
    rw [List.getD_eq_getElem?_getD, List.getD_eq_getElem?_getD, List.getElem?_set_ne (by omega)]
theorem iT_set (l : List Int) (m : Nat) (x : Int) : (iT l).set m (.d (.int x)) = iT (l.set m x) := by
  unfold iT
  rw [List.map_set]
theorem w_worths_of : bodyW Gm_worths_of n_worths_of [.bor] b_worths_of F_worths_of := by
  intro ts Q h _
  obtain ⟨P, rfl, ok, hlt, q⟩ := h
  have hsl : sizeLine > 10000000 := by decide
  have hPl : (P.map Stn.d).length = P.length := List.length_map _
  (conv => whnf); refine ⟨rfl, ?_⟩
  (conv => whnf); refine ⟨Nat.le_of_ble_eq_true rfl, ?_⟩
  (conv => whnf); refine ⟨rfl, ?_⟩
  (conv => whnf); refine ⟨by omega, by omega, by simp; omega, ?_⟩
  have e0 : List.map T.d (List.replicate (((P.map Stn.d).length : Nat) : Int).toNat [PyData.int 0]).flatten = iT (List.replicate P.length 0) := by
    rw [Int.toNat_natCast, hPl]
    unfold iT
    generalize P.length = n
    induction n with
    | zero => rfl
    | succ n ih => simp [List.replicate_succ] at ih ⊢
  (conv => whnf)
  rw [e0]
  refine ⟨by simp only [T.noTup, noTupl_iT, Kd.isTup, Bool.not_false, Bool.and_self], Nat.le_of_ble_eq_true rfl, ?_⟩
  show wSs Gm_worths_of (b_worths_of.drop 1) _ [.d (PD P), .nd .list (iT (List.replicate P.length 0)), .dead, .dead, .dead]
  (conv => whnf); refine ⟨rfl, ?_⟩
  (conv => whnf); refine ⟨⟨by omega, by omega⟩, ?_⟩
  rw [Int.toNat_natCast, hPl]
  refine forW_back (fun k σ => ∃ ws x2 x3 x4, σ = [.d (PD P), .nd .list (iT ws), x2, x3, x4] ∧ ws.length = P.length ∧ ∀ (i : Nat) s, k ≤ i → P[i]? = some s → ws[i]? = some (val s ws)) ?_ ?_ ⟨_, _, _, _, rfl, by simp, fun i s hi h => ?_⟩
  · rintro σ ⟨ws, x2, x3, x4, rfl, hl, hv⟩
    exact q ws hl fun i s h => hv i s (Nat.zero_le _) h
  · rintro k σ N hk hN - - - ⟨ws, x2, x3, x4, rfl, hl, hv⟩
    have hs : P[k]? = some P[k] := List.getElem?_eq_getElem hk
    generalize P[k] = st at hs
    have hup := ok.up k st hs
    have hjw : ixN (iT ws).length ((k : Nat) : Int) = some k := by
      rw [ixN_of (by omega) (by rw [iT_len]; omega), Int.toNat_natCast]
    have fin : ∀ v, v = val st ws → ∀ x3 x4, N.nx [.d (PD P), .nd .list ((iT ws).set k (.d (.int v))), .d (.int (k : Nat)), x3, x4] := by
      rintro v rfl x3 x4
      rw [iT_set]
      refine hN _ ⟨_, _, _, _, rfl, by simp [hl], fun i s hi h => ?_⟩
      by_cases e : i = k
      · subst e
        rw [hs] at h
        cases h
        rw [List.getElem?_set_self (by omega), val_set fun c hc => (hup c hc).1]
      · rw [List.getElem?_set_ne (by omega), val_set fun c hc => ?_]
        · exact hv i s (by omega) h
        · have := ok.up i s h c hc
          omega
    (conv => whnf); refine ⟨rfl, ?_⟩
    conv => whnf
    rw [atI_PD hs]
    (conv => whnf); refine ⟨rfl, Nat.le_of_ble_eq_true rfl, ?_⟩
    show wSs Gm_worths_of [_] N [.d (PD P), .nd .list (iT ws), .d (.int (k : Nat)), .d st.d, x4]
    by_cases hl0 : st.l = []
    · rw [show st.d = .tuple [.str "end", .int st.w] by rw [Stn.d, if_pos hl0]]
      conv => whnf
      refine ⟨fun _ => ?_, fun h => absurd h (by decide)⟩
      conv => whnf
      refine ⟨rfl, rfl, ?_⟩
      conv => whnf
      rw [hjw]
      exact fin _ (by rw [val, if_pos hl0]) _ _
    · have hx : st.x = "high" ∨ st.x = "low" := ok.hand st (List.mem_of_getElem? hs)
      rw [show st.d = .tuple [.str st.x, .tuple (st.l.map .int), .int st.w] by rw [Stn.d, if_neg hl0]]
      conv => whnf
      refine ⟨fun h => ?_, fun _ => ?_⟩
      · exfalso
        have h := of_decide_eq_true h
        rcases hx with z | z <;> rw [z] at h <;> exact absurd h (by decide)
      conv => whnf
      refine lcW_map (is := [4]) (fun x => match x with | .int c => .d (.int (ws.getD c.toNat 0)) | _ => .dead) _ [] (fun x hx2 => ?_) (by
        have := ok.few st (List.mem_of_getElem? hs)
        simp
        omega) ?_
      · obtain ⟨c, hc, rfl⟩ := List.mem_map.mp hx2
        have hcu := hup c hc
        have hcl : c.toNat < ws.length := by omega
        refine ⟨[.d (PD P), .nd .list (iT ws), .d (.int (k : Nat)), .d (.tuple [.str st.x, .tuple (st.l.map .int), .int st.w]), .d (.int c)], rfl, fun Q hQ => ?_, rfl⟩
        conv => whnf
        rw [ixN_of (by omega) (by rw [iT_len]; omega)]
        conv => whnf
        rw [iT_get (show ws[c.toNat]? = some (ws.getD c.toNat 0) by rw [List.getD_eq_getElem?_getD, List.getElem?_eq_getElem hcl]; rfl)]
        exact hQ
      · have e1 : ([] : List T) ++ (st.l.map PyData.int).map (fun x => match x with | .int c => T.d (.int (ws.getD c.toNat 0)) | _ => .dead) = iT (st.l.map fun c => ws.getD c.toNat 0) := by simp [iT]
        rw [e1]
        conv => whnf
        rw [show passes fsBest.md [R.v (.d (.str st.x)), R.v (.nd .list (iT (st.l.map fun c => ws.getD c.toNat 0)))] [.d (PD P), .nd .list (iT ws), .d (.int (k : Nat)), .d (.tuple [.str st.x, .tuple (st.l.map .int), .int st.w]), x4] = some ([.d (.str st.x), .d (.list ((st.l.map fun c => ws.getD c.toNat 0).map .int))], false) by simp [passes, R.get, data_iT, R.isP]]
        conv => whnf
        refine ⟨rfl, fun z => (by cases z), st.x, _, rfl, by simpa using hl0, fun z => (by cases z), ?_⟩
        conv => whnf
        refine ⟨rfl, rfl, ?_⟩
        conv => whnf
        rw [hjw]
        exact fin _ (by rw [val, if_neg hl0]) _ _
  · exfalso
    have := (List.getElem?_eq_some_iff.mp h).1
    omega
end VL
set_option Elab.async false
set_option linter.all false
set_option maxRecDepth 100000
set_option maxHeartbeats 4000000
/-! VT1: lemmas for walks. -/
namespace VL
open PySem PySem.Spec PyProof.Rows L2
/-- one statement at a time: the rest is a letter -/
theorem stepW {Γ : Ctx} {s : S} {r : List S} {D : AE} {σ : St} (h : ∀ rs, rs = r → wSs Γ (s :: rs) D σ) : wSs Γ (s :: r) D σ := h r rfl
@[irreducible] def hold (l : List S) : List S := l
theorem hold_eq (l : List S) : hold l = l := by unfold hold; rfl
theorem holdW {Γ : Ctx} {s : S} {r : List S} {D : AE} {σ : St} (h : wSs Γ (s :: hold r) D σ) : wSs Γ (s :: r) D σ := by rw [hold_eq] at h; exact h
theorem unholdW {Γ : Ctx} {r : List S} {D : AE} {σ : St} (h : wSs Γ r D σ) : wSs Γ (hold r) D σ := by rw [hold_eq]; exact h
section
variable {α : Type}
theorem datal_md (f : α → PyData) : ∀ l : List α, T.datal (l.map fun a => .d (f a)) = some (l.map f)
  | [] => by simp [T.datal]
  | x :: l => by simp only [List.map_cons, T.datal, T.data, datal_md f l]
theorem data_md (f : α → PyData) (l : List α) : T.data (.nd .list (l.map fun a => .d (f a))) = some (.list (l.map f)) := by
  simp only [T.data, datal_md, Option.map_some]
theorem leaves_md (f : α → PyData) : ∀ l : List α, T.leaves (l.map fun a => .d (f a)) = some (l.map f)
  | [] => by simp [T.leaves]
  | x :: l => by simp only [List.map_cons, T.leaves, leaves_md f l]
theorem noTupl_md (f : α → PyData) : ∀ l : List α, T.noTupl (l.map fun a => .d (f a)) = true
  | [] => by simp [T.noTupl]
  | x :: l => by simp only [List.map_cons, T.noTupl, T.noTup, noTupl_md f l, Bool.and_self]
theorem noTup_md (f : α → PyData) (l : List α) : T.noTup (.nd .list (l.map fun a => .d (f a))) = true := by
  simp only [T.noTup, noTupl_md, Kd.isTup, Bool.not_false, Bool.and_self]
theorem datas_md (f : α → PyData) (l : List α) (σ : St) : R.datas σ [R.v (.nd .list (l.map fun a => .d (f a)))] = some [.list (l.map f)] := by
  simp only [R.datas, R.data, R.get, data_md]
theorem bools_md (f : α → Bool) : ∀ l : List α, boolsOf (l.map fun a => .bool (f a)) = some (l.map f)
  | [] => rfl
  | x :: l => by simp only [List.map_cons, boolsOf, bools_md f l]
theorem ints_md (f : α → Int) : ∀ l : List α, intsOf (l.map fun a => .int (f a)) = some (l.map f)
  | [] => rfl
  | x :: l => by simp only [List.map_cons, intsOf, ints_md f l]
/-- comprehensions that change nothing -/
theorem lcW_m {is : List Nat} {σ0 σ : St} {tst : St → (Bool → St → Prop) → Prop} {el : St → (T → St → Prop) → Prop} {K : List T → St → Prop} (g : α → PyData) (p : α → Bool) (f : α → T) : ∀ (l : List α) (acc : List T),
    (∀ a ∈ l, ∃ σ1, bindD is (g a) (wipeT σ is) = some σ1 ∧ (∀ Q, Q (p a) σ1 → tst σ1 Q) ∧ (p a = true → ∀ Q, Q (f a) σ1 → el σ1 Q) ∧ restT σ0 is σ1 = σ) → acc.length + l.length < sizeLine → K (acc ++ (l.filter p).map f) σ → lcW is σ0 tst el (l.map g) acc σ K
  | [], acc, h, hz, hK => by rw [List.map_nil, lcW]; simpa using hK
  | x :: xs, acc, h, hz, hK => by
    obtain ⟨σ1, h1, h2, h3, h4⟩ := h x (by simp)
    rw [List.map_cons, lcW, h1]
    refine h2 _ ⟨fun e => ?_, fun e => ?_⟩
    · refine h3 e _ ⟨by simp at hz; omega, ?_⟩
      rw [h4]
      exact lcW_m g p f xs (acc ++ [f x]) (fun y hy => h y (List.mem_cons_of_mem _ hy)) (by simp at hz ⊢; omega) (by rw [List.filter_cons, if_pos e] at hK; simpa using hK)
    · rw [h4]
      exact lcW_m g p f xs acc (fun y hy => h y (List.mem_cons_of_mem _ hy)) (by simp at hz ⊢; omega) (by rw [List.filter_cons, if_neg (by rw [e]; simp)] at hK; exact hK)
/-- without a test -/
theorem lcW_md {is : List Nat} {σ0 σ : St} {el : St → (T → St → Prop) → Prop} {K : List T → St → Prop} (g : α → PyData) (f : α → T) (l : List α)
    (h : ∀ a ∈ l, ∃ σ1, bindD is (g a) (wipeT σ is) = some σ1 ∧ (∀ Q, Q (f a) σ1 → el σ1 Q) ∧ restT σ0 is σ1 = σ) (hz : l.length < sizeLine) (hK : K (l.map f) σ) : lcW is σ0 (fun s Q => Q true s) el (l.map g) [] σ K :=
  lcW_m g (fun _ => true) f l [] (fun a ha => by
    obtain ⟨σ1, h1, h2, h3⟩ := h a ha
    exact ⟨σ1, h1, fun Q hQ => hQ, fun _ Q hQ => h2 Q hQ, h3⟩) (by simpa using hz) (by rw [List.filter_eq_self.mpr (fun _ _ => rfl)]; simpa using hK)
/-- with a test -/
theorem lcW_fd {is : List Nat} {σ0 σ : St} {tst : St → (Bool → St → Prop) → Prop} {el : St → (T → St → Prop) → Prop} {K : List T → St → Prop} (g : α → PyData) (p : α → Bool) (f : α → T) (l : List α)
    (h : ∀ a ∈ l, ∃ σ1, bindD is (g a) (wipeT σ is) = some σ1 ∧ (∀ Q, Q (p a) σ1 → tst σ1 Q) ∧ (p a = true → ∀ Q, Q (f a) σ1 → el σ1 Q) ∧ restT σ0 is σ1 = σ) (hz : l.length < sizeLine) (hK : K ((l.filter p).map f) σ) : lcW is σ0 tst el (l.map g) [] σ K :=
  lcW_m g p f l [] h (by simpa using hz) (by simpa using hK)
/-- a loop whose body keeps what holds -/
theorem forW_all {is : List Nat} {bd : AE → St → Prop} {D : AE} (I : St → Prop) (h0 : ∀ σ, I σ → D.nx σ) : ∀ (l : List PyData)
    (hs : ∀ x ∈ l, ∀ σ (N : AE), (∀ σ', I σ' → N.nx σ') → (∀ σ', I σ' → N.ct σ') → (∀ r σ', D.rt r σ' → N.rt r σ') → (∀ σ', D.nx σ' → N.bk σ') → I σ → match bindD is x σ with | some σ1 => bd N σ1 | none => False) {σ : St} (hi : I σ), forW is bd D l σ
  | [], _, σ, hi => h0 σ hi
  | x :: l, hs, σ, hi => by
    have st : ∀ σ', I σ' → forW is bd D l σ' := fun σ' h' => forW_all I h0 l (fun y hy => hs y (List.mem_cons_of_mem _ hy)) h'
    exact hs x (by simp) σ { nx := forW is bd D l, rt := D.rt, bk := D.nx, ct := forW is bd D l } st st (fun _ _ z => z) (fun _ z => z) hi
/-- a loop, by how far it has come -/
theorem forW_k {is : List Nat} {bd : AE → St → Prop} {D : AE} (l : List PyData) (I : Nat → St → Prop) (h0 : ∀ σ, I l.length σ → D.nx σ)
    (hs : ∀ (k : Nat) x σ (N : AE), l[k]? = some x → (∀ σ', I (k + 1) σ' → N.nx σ') → (∀ σ', I (k + 1) σ' → N.ct σ') → (∀ r σ', D.rt r σ' → N.rt r σ') → (∀ σ', D.nx σ' → N.bk σ') → I k σ → match bindD is x σ with | some σ1 => bd N σ1 | none => False) {σ : St} (hi : I 0 σ) : forW is bd D l σ := by
  have key : ∀ (r : List PyData) (k : Nat) (σ : St), (∀ j, r[j]? = l[k + j]?) → k + r.length = l.length → I k σ → forW is bd D r σ := by
    intro r
    induction r with
    | nil => intro k σ _ hl h; simp at hl; subst hl; exact h0 σ h
    | cons x r ih =>
      intro k σ hr hl h
      have st : ∀ σ', I (k + 1) σ' → forW is bd D r σ' := fun σ' h' => ih (k + 1) σ' (fun j => by have := hr (j + 1); rw [List.getElem?_cons_succ] at this; rw [this]; congr 1; omega) (by simp at hl; omega) h'
      exact hs k x σ { nx := forW is bd D r, rt := D.rt, bk := D.nx, ct := forW is bd D r } (by have := hr 0; simpa using this.symm) st st (fun _ _ z => z) (fun _ z => z) h
  exact key l 0 σ (fun j => by simp) (by simp) hi
end
theorem rngL0 (n : Nat) : rngL 0 n = (List.range n).map fun (k : Nat) => PyData.int (k : Int) := by
  unfold rngL
  apply List.map_congr_left
  intro k _
  rw [Int.zero_add]
/-- a loop over range(n) -/
theorem forW_r0 {is : List Nat} {bd : AE → St → Prop} {D : AE} {n : Nat} (I : Nat → St → Prop) (h0 : ∀ σ, I n σ → D.nx σ)
    (hs : ∀ (k : Nat) σ (N : AE), k < n → (∀ σ', I (k + 1) σ' → N.nx σ') → (∀ σ', I (k + 1) σ' → N.ct σ') → (∀ r σ', D.rt r σ' → N.rt r σ') → (∀ σ', D.nx σ' → N.bk σ') → I k σ → match bindD is (.int (k : Nat)) σ with | some σ1 => bd N σ1 | none => False) {σ : St} (hi : I 0 σ) : forW is bd D (rngL 0 n) σ := by
  rw [rngL0]
  refine forW_k _ I (fun σ h => h0 σ (by simpa using h)) (fun k x σ N hx h1 h2 h3 h4 h => ?_) hi
  have hk : k < n := by have := (List.getElem?_eq_some_iff.mp hx).1; simpa using this
  rw [List.getElem?_map, List.getElem?_range hk] at hx
  cases hx
  exact hs k σ N hk h1 h2 h3 h4 h
/-- data at a place in a list of leaves -/
theorem atI_md {α : Type} (g : α → PyData) {l : List α} {k : Nat} {a : α} (h : l[k]? = some a) : atI (l.map g) (k : Nat) = some (g a) := by
  have hk : k < l.length := (List.getElem?_eq_some_iff.mp h).1
  unfold atI
  rw [ixN_of (by omega) (by rw [List.length_map]; omega)]
  show (l.map g)[((k : Nat) : Int).toNat]? = _
  rw [Int.toNat_natCast, List.getElem?_map, h]
  rfl
theorem atI_mi {α : Type} (g : α → PyData) {l : List α} {i : Int} {a : α} (h0 : 0 ≤ i) (h : l[i.toNat]? = some a) : atI (l.map g) i = some (g a) := by
  have := atI_md g h
  rwa [show ((i.toNat : Nat) : Int) = i by omega] at this
theorem md_get {α : Type} (g : α → PyData) {l : List α} {k : Nat} {a : α} (h : l[k]? = some a) : (l.map fun a => T.d (g a))[k]? = some (.d (g a)) := by
  rw [List.getElem?_map, h]
  rfl
theorem ixN_nat {n k : Nat} (h : k < n) : ixN n (k : Nat) = some k := by
  rw [ixN_of (by omega) (by omega), Int.toNat_natCast]
theorem PT_get {P : List Stn} {k : Nat} {s : Stn} (h : P[k]? = some s) : (PT P)[k]? = some (.d s.d) := md_get _ h
theorem PT_len (P : List Stn) : (PT P).length = P.length := List.length_map _
theorem PT_ix {P : List Stn} {k : Nat} (h : k < P.length) : ixN (PT P).length (k : Nat) = some k := ixN_nat (by rw [PT_len]; exact h)
theorem kids_p {i : Nat} {q : List Nat} {σ : St} {ts : List T} {xs : List PyData} (h : (R.p i q).get σ = some (.nd .list ts)) (hl : T.leaves ts = some xs) : R.kids (.p i q) σ = some ts := by
  unfold R.kids
  rw [h]
  simp [hl]
theorem PT_leaves (P : List Stn) : T.leaves (PT P) = some (P.map Stn.d) := leaves_md _ _
theorem sIx_k {n d k : Nat} (h : k ≤ n) : HT.sIx n d (some (k : Nat)) = k := by
  rw [HT.sIx_nat]
  omega
theorem cutL_to {α : Type} {xs : List α} {k : Nat} (h : k ≤ xs.length) : cutL xs none (some (k : Nat)) = xs.take k := by
  unfold cutL
  rw [sIx_k h, show HT.sIx xs.length 0 none = 0 from rfl]
  simp
theorem cutL_from {α : Type} {xs : List α} {k : Nat} (h : k ≤ xs.length) : cutL xs (some (k : Nat)) none = xs.drop k := by
  unfold cutL
  rw [sIx_k h, show HT.sIx xs.length xs.length none = xs.length from rfl]
  exact List.take_of_length_le (by simp)
theorem data_p {i : Nat} {q : List Nat} {σ : St} {t : T} {x : PyData} (h : (R.p i q).get σ = some t) (hd : t.data = some x) : (R.p i q).data σ = some x := by
  unfold R.data
  rw [h]
  exact hd
theorem passes_lend {ms : List Md} {rs : List R} {σ : St} {i : Nat} {q : List Nat} {k : Kd} {us : List T} {x : PyData} {ts : List T} {b : Bool} (h : (R.p i q).get σ = some (.nd k us)) (hd : (T.nd k us).data = some x) (hr : passes ms rs σ = some (ts, b)) : passes (.bor :: ms) (.p i q :: rs) σ = some (.d x :: ts, true) := by
  rw [passes, h, hr]
  simp only [hd]
  cases b <;> rfl
theorem passes_leaf {m : Md} {ms : List Md} {r : R} {rs : List R} {σ : St} {x : PyData} {ts : List T} {b : Bool} (h : r.get σ = some (.d x)) (hr : passes ms rs σ = some (ts, b)) : passes (m :: ms) (r :: rs) σ = some (.d x :: ts, b) := by
  rw [passes, h, hr]
theorem passes_val {ms : List Md} {rs : List R} {σ : St} {k : Kd} {us : List T} {x : PyData} {ts : List T} {b : Bool} (hd : (T.nd k us).data = some x) (hr : passes ms rs σ = some (ts, b)) : passes (.bor :: ms) (.v (.nd k us) :: rs) σ = some (.d x :: ts, b) := by
  rw [passes, show (R.v (.nd k us)).get σ = some (.nd k us) from rfl, hr]
  simp only [hd]
  cases b <;> rfl
theorem passes_own {ms : List Md} {rs : List R} {σ : St} {i : Nat} {q : List Nat} {k : Kd} {us : List T} {ts : List T} {b : Bool} (h : (R.p i q).get σ = some (.nd k us)) (hr : passes ms rs σ = some (ts, b)) : passes (.own :: ms) (.p i q :: rs) σ = some (.nd k us :: ts, b) := by
  rw [passes, h, hr]
  rfl
mutual
theorem eqv_refl : ∀ d : PyData, d.canLay0 = true → PyData.eqv d d = true
  | .none, _ => by simp [PyData.eqv]
  | .bool b, _ => by simp [PyData.eqv]
  | .int i, _ => by simp [PyData.eqv]
  | .str s, _ => by simp [PyData.eqv]
  | .list xs, h => by
    rw [PyData.eqv]
    exact eqvAll_refl xs (by simpa [PyData.canLay0] using h)
  | .tuple xs, h => by
    rw [PyData.eqv]
    exact eqvAll_refl xs (by simpa [PyData.canLay0] using h)
  | .dict kvs, h => by simp [PyData.canLay0] at h
theorem eqvAll_refl : ∀ ds : List PyData, PyData.canLayAll0 ds = true → PyData.eqvAll ds ds = true
  | [], _ => by simp [PyData.eqvAll]
  | d :: ds, h => by
    simp only [PyData.canLayAll0, Bool.and_eq_true] at h
    rw [PyData.eqvAll, eqv_refl d h.1, eqvAll_refl ds h.2]
    rfl
end
theorem any_int {bs : List Int} {v : Int} (h : v ∈ bs) : ((bs.map fun c => PyData.int c).any fun z => PyData.eqv z (.int v)) = true := by
  rw [List.any_eq_true]
  exact ⟨.int v, List.mem_map.mpr ⟨v, h, rfl⟩, by simp [PyData.eqv]⟩
theorem all_flat_int (bs : List Int) : ((bs.map fun c => PyData.int c).all flatD) = true := by
  rw [List.all_eq_true]
  intro x hx
  obtain ⟨c, _, rfl⟩ := List.mem_map.mp hx
  rfl
theorem shp_str (n : Nat) {s : Str} (h : PyData.strOk s = true) : shp n (.str s) := ⟨by rw [PyData.canLay0]; exact h, by rw [PyData.depth]; exact Nat.zero_le _⟩
theorem shp_bool (n : Nat) (s : Bool) : shp n (.bool s) := ⟨by rw [PyData.canLay0], by rw [PyData.depth]; exact Nat.zero_le _⟩
theorem shp_none (n : Nat) : shp n .none := ⟨by rw [PyData.canLay0], by rw [PyData.depth]; exact Nat.zero_le _⟩
theorem hand_ok {x : Str} (h : x = "high" ∨ x = "low") : PyData.strOk x = true := by
  rcases h with rfl | rfl <;> decide +kernel
theorem shp_stn {s : Stn} (h : s.x = "high" ∨ s.x = "low") : shp 2 s.d := by
  unfold Stn.d
  split
  · refine shp_tup fun x hx => ?_
    simp only [List.mem_cons, List.not_mem_nil, or_false] at hx
    rcases hx with rfl | rfl
    · exact shp_str _ (by decide +kernel)
    · exact shp_int _ _
  · refine shp_tup fun x hx => ?_
    simp only [List.mem_cons, List.not_mem_nil, or_false] at hx
    rcases hx with rfl | rfl | rfl
    · exact shp_str _ (hand_ok h)
    · refine shp_tup fun x hx => ?_
      obtain ⟨i, _, rfl⟩ := List.mem_map.mp hx
      exact shp_int _ _
    · exact shp_int _ _
theorem shp_PD {P : List Stn} (h : ∀ s ∈ P, s.x = "high" ∨ s.x = "low") : shp 3 (PD P) := shp_list fun x hx => by
  obtain ⟨s, hs, rfl⟩ := List.mem_map.mp hx
  exact shp_stn (h s hs)
end VL
set_option Elab.async false
set_option linter.all false
set_option maxRecDepth 100000
set_option maxHeartbeats 4000000
/-! VP2: steps_of, is_whole, first_best, best_way, end_of. -/
namespace VL
open PySem PySem.Spec PyProof.Rows L2
local macro_rules | `(tactic| walk_at "vc") => `(tactic| first | with_reducible rfl | assumption | exact Nat.zero_le _ | exact noTup_md _ _ | exact Nat.le_of_ble_eq_true rfl | omega | rfl | trivial | focus (simp only [T.noTup, T.noTupl, Kd.isTup, noTupl_md, noTupl_iT, noTupl_kids, PT, KT, Pool, kidT, Bool.not_false, Bool.and_self]; done) | focus (refine ⟨?_, ?_⟩ <;> omega))
local macro_rules | `(tactic| walk_at "vn") => `(tactic| (intro z; with_unfolding_all first | exact Bool.noConfusion (show false = true from z) | exact Bool.noConfusion (show true = false from z) | exact absurd z (by first | decide | (simp only [Bool.not_eq_true', Bool.not_eq_false', decide_eq_true_eq, decide_eq_false_iff_not, List.length_map, iT_len]; omega))))
local macro_rules | `(tactic| walk_at "v1") => `(tactic| ((conv => whnf); (with_reducible refine And.intro ?_ ?_); first | (walk_at "vn"; try (with_reducible intro _)) | (rotate_left; walk_at "vn"; (with_reducible intro _)) | (with_unfolding_all walk_at "vc")))
local macro_rules | `(tactic| walk_at "v") => `(tactic| ((repeat walk_at "v1"); conv => whnf))
local macro_rules | `(tactic| row_has $h) => `(tactic| (rw [$h:ident]; walk_at "v"))
local macro_rules | `(tactic| walk_at "vs") => `(tactic| (refine holdW ?_; walk_at "v"))
local macro_rules | `(tactic| walk_at "vu") => `(tactic| refine unholdW ?_)
def wholeD : PyData → Bool
  | .int _ => true
  | _ => false
def noDictD : PyData → Bool
  | .dict _ => false
  | _ => true
abbrev F_is_whole : List T → (T → List T → Prop) → Prop := fun ts Q => ∃ d : PyData, ts = [.d d] ∧ noDictD d = true ∧ Q (.d (.bool (wholeD d))) [.dead]
abbrev fsIsWhole : FS := ⟨[.bor], F_is_whole⟩
def Gm_is_whole : Ctx := ⟨[], [], ["isinstance", "bool", "int"], [], []⟩
theorem w_is_whole : bodyW Gm_is_whole n_is_whole [.bor] b_is_whole F_is_whole := by
  intro ts Q h _
  obtain ⟨d, rfl, hd, q⟩ := h
  cases d with
  | dict _ => cases hd
  | _ => walk_at "v"; exact q
theorem w_law_wholeG : bodyW Gm_law_whole n_law_whole [.bor] b_law_whole F_is_whole := by
  intro ts Q h _
  obtain ⟨d, rfl, hd, q⟩ := h
  cases d with
  | dict _ => cases hd
  | _ => walk_at "v"; exact q
theorem maxL_ge : ∀ {vs : List Int} {x : Int}, x ∈ vs → x ≤ maxL vs
  | [], x, h => by cases h
  | [y], x, h => by simp at h; subst h; exact Int.le_refl _
  | y :: z :: r, x, h => by
    rw [maxL]
    rcases List.mem_cons.mp h with rfl | h
    · omega
    · have := maxL_ge h
      omega
theorem minL_le : ∀ {vs : List Int} {x : Int}, x ∈ vs → minL vs ≤ x
  | [], x, h => by cases h
  | [y], x, h => by simp at h; subst h; exact Int.le_refl _
  | y :: z :: r, x, h => by
    rw [minL]
    rcases List.mem_cons.mp h with rfl | h
    · omega
    · have := minL_le h
      omega
theorem maxL_in : ∀ {vs : List Int}, vs ≠ [] → maxL vs ∈ vs
  | [], h => absurd rfl h
  | [y], h => by simp [maxL]
  | y :: z :: r, h => by
    rw [maxL]
    have := maxL_in (vs := z :: r) (by simp)
    by_cases e : y ≤ maxL (z :: r)
    · rw [Int.max_eq_right e]; exact List.mem_cons_of_mem _ this
    · rw [Int.max_eq_left (by omega)]; exact List.mem_cons_self
theorem minL_in : ∀ {vs : List Int}, vs ≠ [] → minL vs ∈ vs
  | [], h => absurd rfl h
  | [y], h => by simp [minL]
  | y :: z :: r, h => by
    rw [minL]
    have := minL_in (vs := z :: r) (by simp)
    by_cases e : y ≤ minL (z :: r)
    · rw [Int.min_eq_left e]; exact List.mem_cons_self
    · rw [Int.min_eq_right (by omega)]; exact List.mem_cons_of_mem _ this
theorem best_in {x : Str} {vs : List Int} (h : vs ≠ []) : best x vs ∈ vs := by
  unfold best
  split
  · exact maxL_in h
  · exact minL_in h
/-- a stand's steps -/
abbrev F_steps_of : List T → (T → List T → Prop) → Prop := fun ts Q => ∃ (P : List Stn) (k : Nat) (s : Stn), ts = [.d (PD P), .d (.int k)] ∧ P[k]? = some s ∧ (s.x = "high" ∨ s.x = "low") ∧ Q (.d (.tuple (s.l.map .int))) [.dead, .dead]
abbrev fsSteps : FS := ⟨[.bor, .bor], F_steps_of⟩
def Gm_steps_of : Ctx := ⟨[], [], [], [], []⟩
theorem w_steps_of : bodyW Gm_steps_of n_steps_of [.bor, .bor] b_steps_of F_steps_of := by
  intro ts Q h _
  obtain ⟨P, k, st, rfl, hs, hx, q⟩ := h
  by_cases hl0 : st.l = []
  · have hat : atI (P.map Stn.d) (k : Nat) = some (.tuple [.str "end", .int st.w]) := by rw [atI_PD hs, Stn.d, if_pos hl0]
    walk_at "v"
    row_has hat
    rw [hl0] at q
    exact q
  · have hat : atI (P.map Stn.d) (k : Nat) = some (.tuple [.str st.x, .tuple (st.l.map .int), .int st.w]) := by rw [atI_PD hs, Stn.d, if_neg hl0]
    have hxe : st.x ≠ "end" := by rcases hx with z | z <;> rw [z] <;> decide
    walk_at "v"
    row_has hat
    row_has hat
    exact q
def oD : Option Int → PyData
  | none => .none
  | some i => .int i
theorem flat_oD (o : Option Int) : flatD (oD o) = true := by cases o <;> rfl
theorem eqv_oD (a b : Option Int) : PyData.eqv (oD a) (oD b) = decide (a = b) := by
  cases a <;> cases b <;> simp [oD, PyData.eqv] <;> rfl
theorem oD_some (ws : List Int) : (ws.map some).map oD = ws.map .int := by rw [List.map_map]; rfl
/-- the first of a stand's steps whose stand has a value -/
def fbI (ws : List (Option Int)) (l : List Int) (v : Option Int) : Option Nat := (l.map fun c => ws.getD c.toNat none).findIdx? fun z => decide (z = v)
theorem findIdx_oD (v : Option Int) : ∀ l : List (Option Int), ((l.map oD).findIdx? fun z => PyData.eqv z (oD v)) = l.findIdx? fun z => decide (z = v)
  | [] => rfl
  | x :: l => by rw [List.map_cons, List.findIdx?_cons, List.findIdx?_cons, eqv_oD, findIdx_oD v l]
theorem all_flat_oD (l : List (Option Int)) : (l.map oD).all flatD = true := by
  rw [List.all_eq_true]
  intro x hx
  obtain ⟨o, _, rfl⟩ := List.mem_map.mp hx
  exact flat_oD o
abbrev F_first_best : List T → (T → List T → Prop) → Prop := fun ts Q => ∃ (P : List Stn) (ws : List (Option Int)) (k : Nat) (s : Stn) (v : Option Int) (j : Nat), ts = [.d (PD P), .d (.list (ws.map oD)), .d (.int k)] ∧ POk P ∧ P.length < 1000000 ∧ ws.length = P.length ∧ P[k]? = some s ∧ ws[k]? = some v ∧ fbI ws s.l v = some j ∧ Q (.d (.int j)) [.dead, .dead, .dead]
abbrev fsFirst : FS := ⟨[.bor, .bor, .bor], F_first_best⟩
def Gm_first_best : Ctx := ⟨[("steps_of", fsSteps)], [], [], [], []⟩
theorem w_first_best : bodyW Gm_first_best n_first_best [.bor, .bor, .bor] b_first_best F_first_best := by
  intro ts Q h _
  obtain ⟨P, ws, k, st, v, j, rfl, ok, hlt, hwl, hs, hv, hj, q⟩ := h
  have hsl : sizeLine > 10000000 := by decide
  walk_at "v"
  refine ⟨P, k, st, rfl, hs, ok.hand st (List.mem_of_getElem? hs), fun z => (by cases z), ?_⟩
  walk_at "v"
  have hfew := ok.few st (List.mem_of_getElem? hs)
  refine lcW_md (is := [3]) (σ := [.d (PD P), .d (.list (ws.map oD)), .d (.int k), .dead]) _ (fun c => .d (oD (ws.getD c.toNat none))) st.l (fun c hc => ?_) (by omega) ?_
  · have hcu := ok.up k st hs c hc
    have hg : atI (ws.map oD) c = some (oD (ws.getD c.toNat none)) := atI_mi _ (by omega) (by rw [List.getD_eq_getElem?_getD, List.getElem?_eq_getElem (by omega)]; rfl)
    refine ⟨[.d (PD P), .d (.list (ws.map oD)), .d (.int k), .d (.int c)], rfl, fun Q hQ => ?_, rfl⟩
    walk_at "v"
    row_has hg
    exact hQ
  have hw : atI (ws.map oD) (k : Nat) = some (oD v) := atI_md _ hv
  walk_at "v"
  row_has hw
  rw [show (R.v (T.nd .list (st.l.map fun c => T.d (oD (ws.getD c.toNat none))))).data [.d (PD P), .d (.list (ws.map oD)), .d (.int k), .dead] = some (.list ((st.l.map fun c => ws.getD c.toNat none).map oD)) by
    rw [List.map_map]
    exact data_md (fun c => oD (ws.getD c.toNat none)) st.l]
  conv => whnf
  refine ⟨flat_oD v, all_flat_oD _, ?_⟩
  rw [findIdx_oD]
  rw [show ((st.l.map fun c => ws.getD c.toNat none).findIdx? fun z => decide (z = v)) = some j from hj]
  exact q
/-- the worths of a play -/
structure WsOk (P : List Stn) (ws : List Int) : Prop where
  len : ws.length = P.length
  val : ∀ (i : Nat) s, P[i]? = some s → ws[i]? = some (val s ws)
theorem wsOk_unique {P : List Stn} {ws vs : List Int} (ok : POk P) (h : WsOk P ws) (g : WsOk P vs) : ws = vs := by
  have key : ∀ m (i : Nat), P.length - i ≤ m → ws[i]? = vs[i]? := by
    intro m
    induction m with
    | zero =>
      intro i hi
      rw [List.getElem?_eq_none (by have := h.len; omega), List.getElem?_eq_none (by have := g.len; omega)]
    | succ m ih =>
      intro i hi
      by_cases hl : i < P.length
      · have hs : P[i]? = some P[i] := List.getElem?_eq_getElem hl
        rw [h.val i _ hs, g.val i _ hs]
        unfold VL.val
        split
        · rfl
        · congr 2
          apply List.map_congr_left
          intro c hc
          have := ok.up i _ hs c hc
          rw [List.getD_eq_getElem?_getD, List.getD_eq_getElem?_getD, ih c.toNat (by omega)]
      · rw [List.getElem?_eq_none (by have := h.len; omega), List.getElem?_eq_none (by have := g.len; omega)]
  exact List.ext_getElem? fun i => key _ i (Nat.le_refl _)
/-- a way: from a stand, by places, to an end -/
inductive Goes (P : List Stn) : Nat → List Nat → Nat → Prop
  | nil {n : Nat} {s : Stn} : P[n]? = some s → s.l = [] → Goes P n [] n
  | cons {n : Nat} {s : Stn} {j : Nat} {c : Int} {js : List Nat} {e : Nat} : P[n]? = some s → s.l[j]? = some c → Goes P c.toNat js e → Goes P n (j :: js) e
/-- the best way -/
inductive BW (P : List Stn) (ws : List Int) : Nat → List Nat → Nat → Prop
  | nil {n : Nat} {s : Stn} : P[n]? = some s → s.l = [] → BW P ws n [] n
  | cons {n : Nat} {s : Stn} {j : Nat} {c : Int} {v : Int} {js : List Nat} {e : Nat} : P[n]? = some s → ws[n]? = some v → fbI (ws.map some) s.l (some v) = some j → s.l[j]? = some c → BW P ws c.toNat js e → BW P ws n (j :: js) e
theorem BW.goes {P : List Stn} {ws : List Int} {n : Nat} {js : List Nat} {e : Nat} (h : BW P ws n js e) : Goes P n js e := by
  induction h with
  | nil h1 h2 => exact .nil h1 h2
  | cons h1 h2 h3 h4 _ ih => exact .cons h1 h4 ih
theorem fbI_nil {ws : List (Option Int)} {v : Option Int} {j : Nat} (h : fbI ws [] v = some j) : False := by
  unfold fbI at h
  cases h
theorem BW.unique {P : List Stn} {ws : List Int} {n : Nat} {js : List Nat} {e : Nat} (h : BW P ws n js e) : ∀ {ks : List Nat} {f : Nat}, BW P ws n ks f → js = ks ∧ e = f := by
  induction h with
  | nil h1 h2 =>
    intro ks f g
    cases g with
    | nil _ _ => exact ⟨rfl, rfl⟩
    | cons g1 _ g3 _ _ =>
      rw [h1] at g1
      cases g1
      rw [h2] at g3
      exact (fbI_nil g3).elim
  | cons h1 h2 h3 h4 _ ih =>
    intro ks f g
    cases g with
    | nil g1 g2 =>
      rw [h1] at g1
      cases g1
      rw [g2] at h3
      exact (fbI_nil h3).elim
    | cons g1 g2 g3 g4 g5 =>
      rw [h1] at g1
      cases g1
      rw [h2] at g2
      cases g2
      rw [h3] at g3
      cases g3
      rw [h4] at g4
      cases g4
      obtain ⟨e1, e2⟩ := ih g5
      exact ⟨by rw [e1], e2⟩
/-- the first best step: where it is -/
theorem fbI_spec {ws : List Int} {l : List Int} {v : Int} {j : Nat} (h : fbI (ws.map some) l (some v) = some j) (hl : ∀ c ∈ l, c.toNat < ws.length) : ∃ c, l[j]? = some c ∧ ws[c.toNat]? = some v := by
  unfold fbI at h
  rw [List.findIdx?_eq_some_iff_getElem] at h
  obtain ⟨h1, h2, _⟩ := h
  rw [List.length_map] at h1
  refine ⟨l[j], List.getElem?_eq_getElem h1, ?_⟩
  have h3 := of_decide_eq_true h2
  rw [List.getElem_map, List.getD_eq_getElem?_getD, List.getElem?_map] at h3
  have h4 := hl l[j] (List.getElem_mem h1)
  rw [List.getElem?_eq_getElem h4] at h3 ⊢
  simpa using h3
theorem fbI_some {P : List Stn} {ws : List Int} {n : Nat} {s : Stn} (ok : POk P) (hw : WsOk P ws) (hs : P[n]? = some s) (hl : s.l ≠ []) : ∃ v j, ws[n]? = some v ∧ fbI (ws.map some) s.l (some v) = some j := by
  have hv := hw.val n s hs
  have hin : VL.val s ws ∈ s.l.map fun c => ws.getD c.toNat 0 := by
    unfold VL.val
    rw [if_neg hl]
    exact best_in (by simpa using hl)
  obtain ⟨c, hc, ec⟩ := List.mem_map.mp hin
  have hcu := ok.up n s hs c hc
  have hcl : c.toNat < ws.length := by have := hw.len; omega
  refine ⟨VL.val s ws, ?_⟩
  cases hj : fbI (ws.map some) s.l (some (VL.val s ws)) with
  | some j => exact ⟨j, hv, rfl⟩
  | none =>
    exfalso
    unfold fbI at hj
    rw [List.findIdx?_eq_none_iff] at hj
    have := hj ((ws.map some).getD c.toNat none) (List.mem_map.mpr ⟨c, hc, rfl⟩)
    rw [List.getD_eq_getElem?_getD, List.getElem?_map, List.getElem?_eq_getElem hcl] at this
    rw [List.getD_eq_getElem?_getD, List.getElem?_eq_getElem hcl] at ec
    simp at this ec
    exact this ec
theorem BW.worth {P : List Stn} {ws : List Int} {n : Nat} {js : List Nat} {e : Nat} (ok : POk P) (hw : WsOk P ws) (h : BW P ws n js e) : ∃ s, P[e]? = some s ∧ s.l = [] ∧ ws[n]? = some s.w := by
  induction h with
  | nil h1 h2 =>
    refine ⟨_, h1, h2, ?_⟩
    rw [hw.val _ _ h1, VL.val, if_pos h2]
  | cons h1 h2 h3 h4 _ ih =>
    obtain ⟨s, g1, g2, g3⟩ := ih
    refine ⟨s, g1, g2, ?_⟩
    obtain ⟨c, e1, e2⟩ := fbI_spec h3 (fun c hc => by have := ok.up _ _ h1 c hc; have := hw.len; omega)
    rw [h4] at e1
    cases e1
    rw [h2, ← g3, e2]
def nT (js : List Nat) : List T := js.map fun j => .d (.int (j : Nat))
abbrev F_best_way : List T → (T → List T → Prop) → Prop := fun ts Q => ∃ P : List Stn, ts = [.d (PD P)] ∧ POk P ∧ P.length < 1000000 ∧
  ∀ ws js e, WsOk P ws → BW P ws 0 js e → js.length ≤ P.length → Q (.nd .list (nT js)) [.dead]
abbrev fsWorths : FS := ⟨[.bor], F_worths_of⟩
abbrev fsBestWay : FS := ⟨[.bor], F_best_way⟩
def Gm_best_way : Ctx := ⟨[("worths_of", fsWorths), ("first_best", fsFirst), ("steps_of", fsSteps)], [], [], [], []⟩
theorem w_best_way : bodyW Gm_best_way n_best_way [.bor] b_best_way F_best_way := by
  intro ts Q h _
  obtain ⟨P, rfl, ok, hlt, q⟩ := h
  have hsl : sizeLine > 10000000 := by decide
  show wSs Gm_best_way b_best_way _ [.d (PD P), .dead, .dead, .dead]
  walk_at "vs"
  refine ⟨P, rfl, ok, hlt, fun ws hwl hwv => ⟨fun z => (by cases z), ?_⟩⟩
  have hw : WsOk P ws := ⟨hwl, hwv⟩
  walk_at "v"
  walk_at "vu"
  show wSs Gm_best_way (b_best_way.drop 1) _ [.d (PD P), .nd .list (iT ws), .dead, .dead]
  walk_at "vs"
  walk_at "vu"
  walk_at "vs"
  walk_at "vu"
  show wSs Gm_best_way (b_best_way.drop 3) _ [.d (PD P), .nd .list (iT ws), .nd .list (nT []), .d (.int 0)]
  refine ⟨fun m σ => ∃ (n : Nat) (js : List Nat), m = P.length - n ∧ n < P.length ∧ js.length ≤ n ∧ σ = [.d (PD P), .nd .list (iT ws), .nd .list (nT js), .d (.int n)] ∧ ∀ ks e, BW P ws n ks e → BW P ws 0 (js ++ ks) e, ⟨P.length - 0, 0, [], rfl, ok.pos, Nat.le_refl _, rfl, fun ks e h => h⟩, ?_⟩
  rintro m σ ⟨n, js, rfl, hn, hjs, rfl, hB⟩
  have hs : P[n]? = some P[n] := List.getElem?_eq_getElem hn
  generalize P[n] = st at hs
  have hx : st.x = "high" ∨ st.x = "low" := ok.hand st (List.mem_of_getElem? hs)
  have hxe : st.x ≠ "end" := by rcases hx with z | z <;> rw [z] <;> decide
  by_cases hl0 : st.l = []
  · have hat : atI (P.map Stn.d) (n : Nat) = some (.tuple [.str "end", .int st.w]) := by rw [atI_PD hs, Stn.d, if_pos hl0]
    walk_at "v"
    row_has hat
    have := hB [] n (.nil hs hl0)
    rw [List.append_nil] at this
    exact q ws js n hw this (by omega)
  · have hat : atI (P.map Stn.d) (n : Nat) = some (.tuple [.str st.x, .tuple (st.l.map .int), .int st.w]) := by rw [atI_PD hs, Stn.d, if_neg hl0]
    obtain ⟨v, j, hv, hj⟩ := fbI_some ok hw hs hl0
    obtain ⟨c, hc, hcv⟩ := fbI_spec hj (fun c hc => by have := ok.up _ _ hs c hc; omega)
    have hcu := ok.up n st hs c (List.mem_of_getElem? hc)
    have hnl : (nT js).length = js.length := List.length_map _
    walk_at "v"
    row_has hat
    rw [passes_leaf (x := PD P) rfl (passes_lend (us := iT ws) rfl (data_iT ws) (passes_leaf (x := .int n) rfl rfl))]
    walk_at "v"
    refine ⟨P, ws.map some, n, st, some v, j, by rw [oD_some], ok, hlt, by rw [List.length_map]; exact hwl, hs, by rw [List.getElem?_map, hv]; rfl, hj, fun _ => ⟨rfl, rfl⟩, ?_⟩
    walk_at "v"
    have hl2 : ixN (nT js ++ [T.d (.int (j : Nat))]).length (-1) = some js.length := by
      rw [List.length_append, hnl]
      unfold ixN
      rw [if_neg (by decide), if_pos (by simp; omega)]
      congr 1
      simp
      omega
    have hg2 : (nT js ++ [T.d (.int (j : Nat))])[js.length]? = some (.d (.int (j : Nat))) := by
      rw [List.getElem?_append_right (by omega), hnl]
      simp
    refine ⟨P, n, st, rfl, hs, hx, fun z => (by cases z), ?_⟩
    walk_at "v"
    row_has hl2
    row_has hg2
    have hat2 : atI (st.l.map PyData.int) (j : Nat) = some (.int c) := atI_md _ hc
    row_has hat2
    refine ⟨P.length - c.toNat, by omega, c.toNat, js ++ [j], rfl, by omega, by simp; omega, ?_, fun ks e hk => ?_⟩
    · rw [show nT (js ++ [j]) = nT js ++ [T.d (.int (j : Nat))] by simp [nT], show ((c.toNat : Nat) : Int) = c by omega]
      rfl
    · rw [List.append_assoc]
      exact hB _ _ (.cons hs hv hj hc hk)
/-- the end of a way -/
abbrev F_end_of : List T → (T → List T → Prop) → Prop := fun ts Q => ∃ (P : List Stn) (js : List Nat) (e : Nat), ts = [.d (PD P), .d (.list (js.map fun j => .int (j : Nat)))] ∧ POk P ∧ P.length < 1000000 ∧ Goes P 0 js e ∧ Q (.d (.int e)) [.dead, .dead]
abbrev fsEndOf : FS := ⟨[.bor, .bor], F_end_of⟩
def Gm_end_of : Ctx := ⟨[("steps_of", fsSteps), ("is_whole", fsIsWhole)], [], ["isinstance", "list", "len"], [], []⟩
theorem w_end_of : bodyW Gm_end_of n_end_of [.bor, .bor] b_end_of F_end_of := by
  intro ts Q h _
  obtain ⟨P, js, e, rfl, ok, hlt, hg, q⟩ := h
  have hsl : sizeLine > 10000000 := by decide
  show wSs Gm_end_of b_end_of _ [.d (PD P), .d (.list (js.map fun j => .int (j : Nat))), .dead, .dead, .dead]
  walk_at "vs"
  walk_at "vu"
  walk_at "vs"
  walk_at "vu"
  show wSs Gm_end_of (b_end_of.drop 2) _ [.d (PD P), .d (.list (js.map fun j => .int (j : Nat))), .d (.int 0), .dead, .dead]
  walk_at "vs"
  refine forW_k _ (fun k σ => ∃ (n : Nat) (x3 x4 : T), σ = [.d (PD P), .d (.list (js.map fun j => .int (j : Nat))), .d (.int n), x3, x4] ∧ Goes P n (js.drop k) e) ?_ ?_ ⟨0, _, _, rfl, hg⟩
  · rintro σ ⟨n, x3, x4, rfl, hG⟩
    rw [List.length_map, List.drop_length] at hG
    cases hG with
    | nil h1 h2 =>
      rename_i st
      have hat : atI (P.map Stn.d) (e : Nat) = some (.tuple [.str "end", .int st.w]) := by rw [atI_PD h1, Stn.d, if_pos h2]
      walk_at "vu"
      walk_at "v"
      row_has hat
      exact q
  · rintro k x σ N hx hN - - - ⟨n, x3, x4, rfl, hG⟩
    rw [List.getElem?_map] at hx
    obtain ⟨j, hj, rfl⟩ := Option.map_eq_some_iff.mp hx
    have hkl : k < js.length := (List.getElem?_eq_some_iff.mp hj).1
    rw [List.drop_eq_getElem_cons hkl] at hG
    rw [List.getElem?_eq_getElem hkl] at hj
    cases hj
    cases hG with
    | cons h1 h2 h3 =>
      have hjl := (List.getElem?_eq_some_iff.mp h2).1
      have hcu := ok.up _ _ h1 _ (List.mem_of_getElem? h2)
      have hat2 := atI_md PyData.int h2
      walk_at "v"
      refine ⟨P, n, _, rfl, h1, ok.hand _ (List.mem_of_getElem? h1), fun z => (by cases z), ?_⟩
      walk_at "v"
      refine ⟨_, rfl, rfl, fun z => (by cases z), ?_⟩
      walk_at "v"
      row_has hat2
      exact hN _ ⟨_, _, _, by rw [show ((Int.toNat _ : Nat) : Int) = _ from Int.toNat_of_nonneg (by omega)]; rfl, h3⟩
end VL
set_option Elab.async false
set_option linter.all false
set_option maxRecDepth 100000
set_option maxHeartbeats 4000000
/-! VP3: the laws' own worths. -/
namespace VL
open PySem PySem.Spec PyProof.Rows L2
local macro_rules | `(tactic| walk_at "vc") => `(tactic| first | with_reducible rfl | assumption | exact Nat.zero_le _ | exact noTup_md _ _ | exact Nat.le_of_ble_eq_true rfl | omega | rfl | trivial | focus (simp only [mkTup, T.leaves, T.noTup, T.noTupl, Kd.isTup, noTupl_md, noTupl_iT, noTupl_kids, PT, KT, Pool, kidT, Bool.not_false, Bool.and_self]; done) | focus (refine ⟨?_, ?_⟩ <;> omega) | exact (fun _ => rfl))
local macro_rules | `(tactic| walk_at "vn") => `(tactic| (intro z; with_unfolding_all first | exact Bool.noConfusion (show false = true from z) | exact Bool.noConfusion (show true = false from z) | exact absurd z (by first | decide | (simp only [Bool.not_eq_true', Bool.not_eq_false', decide_eq_true_eq, decide_eq_false_iff_not, List.length_map, iT_len]; omega))))
local macro_rules | `(tactic| walk_at "v1") => `(tactic| ((conv => whnf); (with_reducible refine And.intro ?_ ?_); first | (walk_at "vn"; try (with_reducible intro _)) | (rotate_left; walk_at "vn"; (with_reducible intro _)) | (with_unfolding_all walk_at "vc")))
local macro_rules | `(tactic| walk_at "v") => `(tactic| ((repeat walk_at "v1"); conv => whnf))
local macro_rules | `(tactic| row_has $h) => `(tactic| (rw [$h:ident]; walk_at "v"))
local macro_rules | `(tactic| walk_at "vs") => `(tactic| (refine holdW ?_; walk_at "v"))
local macro_rules | `(tactic| walk_at "vu") => `(tactic| refine unholdW ?_)
theorem sortI_le (ns : List Int) : (sortI ns).Pairwise (· ≤ ·) := by
  have := List.pairwise_mergeSort (le := fun a b : Int => decide (a ≤ b)) (fun a b c h1 h2 => by simp at *; omega) (fun a b => by simp; omega) ns
  exact this.imp fun h => by simpa using h
theorem sortI_len (ns : List Int) : (sortI ns).length = ns.length := (sortI_perm ns).length_eq
theorem sortI_head {ns : List Int} (h : ns ≠ []) : (sortI ns)[0]? = some (minL ns) := by
  have hl := sortI_len ns
  have hp := sortI_perm ns
  have hs := sortI_le ns
  cases e : sortI ns with
  | nil => rw [e] at hl; exact absurd (List.length_eq_zero_iff.mp hl.symm) h
  | cons x r =>
    rw [e] at hp hs
    have h1 : x ∈ ns := hp.mem_iff.mp (by simp)
    have h2 : minL ns ∈ x :: r := hp.mem_iff.mpr (minL_in h)
    have h3 := minL_le h1
    have h4 : x ≤ minL ns := by
      rcases List.mem_cons.mp h2 with z | z
      · omega
      · exact (List.pairwise_cons.mp hs).1 _ z
    show some x = some (minL ns)
    congr 1
    omega
theorem sortI_last {ns : List Int} (h : ns ≠ []) : (sortI ns)[ns.length - 1]? = some (maxL ns) := by
  have hl := sortI_len ns
  have hp := sortI_perm ns
  have hs := sortI_le ns
  have hpos : 0 < ns.length := List.length_pos_iff.mpr h
  have hk : ns.length - 1 < (sortI ns).length := by omega
  rw [List.getElem?_eq_getElem hk]
  congr 1
  have h1 : (sortI ns)[ns.length - 1] ∈ ns := hp.mem_iff.mp (List.getElem_mem hk)
  have h3 := maxL_ge h1
  obtain ⟨i, hi, ei⟩ := List.getElem_of_mem (hp.mem_iff.mpr (maxL_in h))
  have h4 : maxL ns ≤ (sortI ns)[ns.length - 1] := by
    rw [← ei]
    by_cases hii : i = ns.length - 1
    · subst hii; exact Int.le_refl _
    · exact List.pairwise_iff_getElem.mp hs i (ns.length - 1) hi hk (by omega)
  omega
/-- the worths from a stand on -/
def WI (P : List Stn) (k : Nat) (ws : List Int) : Prop := ws.length = P.length ∧ ∀ (i : Nat) s, k ≤ i → P[i]? = some s → ws[i]? = some (val s ws)
theorem WI.step {P : List Stn} {k : Nat} {ws : List Int} {st : Stn} (ok : POk P) (h : WI P (k + 1) ws) (hs : P[k]? = some st) : WI P k (ws.set k (val st ws)) := by
  have hk : k < P.length := (List.getElem?_eq_some_iff.mp hs).1
  have hup := ok.up k st hs
  refine ⟨by rw [List.length_set]; exact h.1, fun i s hi hI => ?_⟩
  by_cases e : i = k
  · subst e
    rw [hs] at hI
    cases hI
    rw [List.getElem?_set_self (by have := h.1; omega), val_set fun c hc => (hup c hc).1]
  · rw [List.getElem?_set_ne (by omega), val_set fun c hc => ?_]
    · exact h.2 i s (by omega) hI
    · have := ok.up i s hI c hc
      omega
theorem WI.start (P : List Stn) : WI P P.length (List.replicate P.length 0) := ⟨by simp, fun i s hi h => by
  have := (List.getElem?_eq_some_iff.mp h).1
  omega⟩
theorem rep_flat (d : PyData) (n : Nat) : (List.replicate n [d]).flatten = List.replicate n d := by
  induction n with
  | zero => rfl
  | succ n ih => simp [List.replicate_succ] at ih ⊢
abbrev F_law_worths : List T → (T → List T → Prop) → Prop := F_worths_of
abbrev fsLawWorths : FS := ⟨[.bor], F_worths_of⟩
def Gm_law_worths : Ctx := ⟨[], [], ["len", "range", "sorted", "int"], [], []⟩
theorem w_law_worths : bodyW Gm_law_worths n_law_worths [.bor] b_law_worths F_worths_of := by
  intro ts Q h _
  obtain ⟨P, rfl, ok, hlt, q⟩ := h
  have hsl : sizeLine > 10000000 := by decide
  have hPl : (P.map Stn.d).length = P.length := List.length_map _
  show wSs Gm_law_worths b_law_worths _ [.d (PD P), .dead, .dead, .dead, .dead]
  refine holdW ?_
  (conv => whnf); refine ⟨rfl, ?_⟩
  (conv => whnf); refine ⟨Nat.le_of_ble_eq_true rfl, ?_⟩
  (conv => whnf); refine ⟨rfl, ?_⟩
  (conv => whnf); refine ⟨by omega, by omega, by simp; omega, ?_⟩
  have e0 : List.map T.d (List.replicate (((P.map Stn.d).length : Nat) : Int).toNat [PyData.int 0]).flatten = iT (List.replicate P.length 0) := by
    rw [Int.toNat_natCast, hPl]
    unfold iT
    generalize P.length = n
    induction n with
    | zero => rfl
    | succ n ih => simp [List.replicate_succ] at ih ⊢
  (conv => whnf)
  rw [e0]
  refine ⟨by simp only [T.noTup, noTupl_iT, Kd.isTup, Bool.not_false, Bool.and_self], Nat.le_of_ble_eq_true rfl, ?_⟩
  walk_at "vu"
  show wSs Gm_law_worths (b_law_worths.drop 1) _ [.d (PD P), .nd .list (iT (List.replicate P.length 0)), .dead, .dead, .dead]
  walk_at "vs"
  rw [hPl, show ((P.length : Int) - 1 - -1).toNat = P.length by omega]
  refine forW_back (fun k σ => ∃ ws x2 x3 x4, σ = [.d (PD P), .nd .list (iT ws), x2, x3, x4] ∧ WI P k ws) ?_ ?_ ⟨_, _, _, _, rfl, WI.start P⟩
  · rintro σ ⟨ws, x2, x3, x4, rfl, hw⟩
    walk_at "vu"
    exact q ws hw.1 fun i s h => hw.2 i s (Nat.zero_le _) h
  · rintro k σ N hk hN - - - ⟨ws, x2, x3, x4, rfl, hw⟩
    have hs : P[k]? = some P[k] := List.getElem?_eq_getElem hk
    generalize P[k] = st at hs
    have hup := ok.up k st hs
    have hwl := hw.1
    have hx : st.x = "high" ∨ st.x = "low" := ok.hand st (List.mem_of_getElem? hs)
    have hxe : st.x ≠ "end" := by rcases hx with z | z <;> rw [z] <;> decide
    have hjw : ixN (iT ws).length ((k : Nat) : Int) = some k := ixN_nat (by rw [iT_len]; omega)
    have fin : ∀ v, v = val st ws → ∀ x2 x3 x4, N.nx [.d (PD P), .nd .list ((iT ws).set k (.d (.int v))), x2, x3, x4] := by
      rintro v rfl x2 x3 x4
      rw [iT_set]
      exact hN _ ⟨_, _, _, _, rfl, hw.step ok hs⟩
    by_cases hl0 : st.l = []
    · have hat : atI (P.map Stn.d) (k : Nat) = some (.tuple [.str "end", .int st.w]) := by rw [atI_PD hs, Stn.d, if_pos hl0]
      walk_at "v"
      row_has hat
      row_has hat
      row_has hjw
      exact fin _ (by rw [val, if_pos hl0]) _ _ _
    · have hat : atI (P.map Stn.d) (k : Nat) = some (.tuple [.str st.x, .tuple (st.l.map .int), .int st.w]) := by rw [atI_PD hs, Stn.d, if_neg hl0]
      walk_at "v"
      row_has hat
      row_has hat
      have hfew := ok.few st (List.mem_of_getElem? hs)
      refine lcW_md (is := [4]) (σ := [.d (PD P), .nd .list (iT ws), .d (.int k), x3, x4]) _ (fun c => .d (.int (ws.getD c.toNat 0))) st.l (fun c hc => ?_) (by omega) ?_
      · have hcu := hup c hc
        have hg1 : ixN (iT ws).length c = some c.toNat := ixN_of (by omega) (by rw [iT_len]; omega)
        have hg2 : (iT ws)[c.toNat]? = some (.d (.int (ws.getD c.toNat 0))) := iT_get (by rw [List.getD_eq_getElem?_getD, List.getElem?_eq_getElem (by omega)]; rfl)
        refine ⟨[.d (PD P), .nd .list (iT ws), .d (.int k), x3, .d (.int c)], rfl, fun Q hQ => ?_, rfl⟩
        walk_at "v"
        row_has hg1
        row_has hg2
        exact hQ
      generalize hbs : (st.l.map fun c => ws.getD c.toNat 0) = bs
      have hbs1 : (st.l.map fun c => T.d (.int (ws.getD c.toNat 0))) = bs.map fun c => T.d (.int c) := by rw [← hbs, List.map_map]; rfl
      have hbne : bs ≠ [] := by rw [← hbs]; simpa using hl0
      have hbpos : 0 < bs.length := List.length_pos_iff.mpr hbne
      have ev : val st ws = best st.x bs := by rw [val, if_neg hl0, hbs]
      have hbl : bs.length < sizeLine := by rw [← hbs, List.length_map]; omega
      rw [hbs1]
      conv => whnf
      rw [datas_md (fun c => PyData.int c)]
      conv => whnf
      rw [ints_md (fun c => c), List.map_id']
      walk_at "v"
      row_has hat
      have hsl1 : (List.map (fun i => T.d (PyData.int i)) (sortI bs)).length = bs.length := by rw [List.length_map, sortI_len]
      rcases hx with z | z
      · have hi1 : ixN (List.map (fun i => T.d (PyData.int i)) (sortI bs)).length (-1) = some (bs.length - 1) := by
          rw [hsl1]
          unfold ixN
          rw [if_neg (by decide), if_pos (by omega)]
          congr 1
          omega
        have hi2 : (List.map (fun i => T.d (PyData.int i)) (sortI bs))[bs.length - 1]? = some (.d (.int (maxL bs))) := md_get (fun i => PyData.int i) (sortI_last hbne)
        rw [z]
        walk_at "v"
        row_has hi1
        row_has hi2
        row_has hjw
        exact fin _ (by rw [ev, best, if_pos z]) _ _ _
      · have hi1 : ixN (List.map (fun i => T.d (PyData.int i)) (sortI bs)).length 0 = some 0 := by
          rw [hsl1]
          unfold ixN
          rw [if_pos (by decide), if_pos (by omega)]
          rfl
        have hi2 : (List.map (fun i => T.d (PyData.int i)) (sortI bs))[0]? = some (.d (.int (minL bs))) := md_get (fun i => PyData.int i) (sortI_head hbne)
        rw [z]
        walk_at "v"
        row_has hi1
        row_has hi2
        row_has hjw
        exact fin _ (by rw [ev, best, if_neg (by rw [z]; decide)]) _ _ _
theorem nT_len (js : List Nat) : (nT js).length = js.length := List.length_map _
theorem PT_data (P : List Stn) : T.data (.nd .list (PT P)) = some (PD P) := data_md Stn.d P
theorem nT_data (js : List Nat) : T.data (.nd .list (nT js)) = some (.list (js.map fun j => .int (j : Nat))) := data_md (fun j : Nat => PyData.int j) js
theorem flatl_nT : ∀ js : List Nat, T.flatl (nT js) = true
  | [] => rfl
  | j :: js => by
    have := flatl_nT js
    unfold nT at this ⊢
    simp only [List.map_cons, T.flatl, T.flat, immD, this, Bool.and_self]
theorem get_at {σ : St} {i j : Nat} {L : List T} {t : T} (h : σ[i]? = some (.nd .list L)) (h2 : L[j]? = some t) : (R.p i ([] ++ [j])).get σ = some t := by
  unfold R.get
  simp only [h, List.nil_append]
  rw [T.at, h2]
  rfl
theorem shp_nats (js : List Nat) : shp 1 (.list (js.map fun j => .int (j : Nat))) := shp_list fun x hx => by
  obtain ⟨i, _, rfl⟩ := List.mem_map.mp hx
  exact shp_int _ _
theorem data_v {t : T} {σ : St} {x : PyData} (h : t.data = some x) : (R.v t).data σ = some x := h
theorem nT_leaves (js : List Nat) : T.leaves (nT js) = some (js.map fun j => .int (j : Nat)) := leaves_md (fun j : Nat => PyData.int j) js
theorem pok_one {w : Int} (h1 : -(10 ^ 30) ≤ w) (h2 : w ≤ 10 ^ 30) : POk [⟨"high", [], w⟩] := by
  refine ⟨by simp, fun s hs => ?_, fun i s h c hc => ?_, fun s hs => ?_, fun s hs => ?_, fun s hs => ?_⟩
  · simp at hs; subst hs; exact .inl rfl
  · have := List.mem_of_getElem? h
    simp at this
    subst this
    cases hc
  · simp at hs; subst hs; exact Nat.zero_le _
  · simp at hs; subst hs; exact h1
  · simp at hs; subst hs; exact h2
end VL
set_option Elab.async false
set_option linter.all false
set_option maxRecDepth 100000
set_option maxHeartbeats 4000000
/-! VP4: what looked ends show. -/
namespace VL
open PySem PySem.Spec PyProof.Rows L2
local macro_rules | `(tactic| walk_at "vc") => `(tactic| first | with_reducible rfl | assumption | exact Nat.zero_le _ | exact noTup_md _ _ | exact Nat.le_of_ble_eq_true rfl | omega | rfl | trivial | focus (simp only [mkTup, T.leaves, T.noTup, T.noTupl, Kd.isTup, noTupl_md, noTupl_iT, noTupl_kids, PT, KT, Pool, kidT, Bool.not_false, Bool.and_self]; done) | focus (refine ⟨?_, ?_⟩ <;> omega) | exact (fun _ => rfl))
local macro_rules | `(tactic| walk_at "vn") => `(tactic| (intro z; with_unfolding_all first | exact Bool.noConfusion (show false = true from z) | exact Bool.noConfusion (show true = false from z) | exact absurd z (by first | decide | (simp only [Bool.not_eq_true', Bool.not_eq_false', decide_eq_true_eq, decide_eq_false_iff_not, List.length_map, iT_len]; omega))))
local macro_rules | `(tactic| walk_at "v1") => `(tactic| ((conv => whnf); (with_reducible refine And.intro ?_ ?_); first | (walk_at "vn"; try (with_reducible intro _)) | (rotate_left; walk_at "vn"; (with_reducible intro _)) | (with_unfolding_all walk_at "vc")))
local macro_rules | `(tactic| walk_at "v") => `(tactic| ((repeat walk_at "v1"); conv => whnf))
local macro_rules | `(tactic| row_has $h) => `(tactic| (rw [$h:ident]; walk_at "v"))
local macro_rules | `(tactic| walk_at "vs") => `(tactic| (refine holdW ?_; walk_at "v"))
local macro_rules | `(tactic| walk_at "vu") => `(tactic| refine unholdW ?_)
/-- looked ends -/
structure EsOk (P : List Stn) (es : List Nat) : Prop where
  nd : es.Nodup
  en : ∀ e ∈ es, ∃ s, P[e]? = some s ∧ s.l = []
def nD (es : List Nat) : PyData := .list (es.map fun j => .int (j : Nat))
abbrev F_are_ends : List T → (T → List T → Prop) → Prop := fun ts Q => ∃ (P : List Stn) (es : List Nat), ts = [.d (PD P), .d (nD es)] ∧ POk P ∧ P.length < 1000000 ∧ EsOk P es ∧ Q (.d (.bool true)) [.dead, .dead]
abbrev fsAreEnds : FS := ⟨[.bor, .bor], F_are_ends⟩
def Gm_are_ends : Ctx := ⟨[("is_whole", fsIsWhole)], [], ["isinstance", "list", "enumerate", "len"], [], []⟩
theorem nodup_le : ∀ (n : Nat) (l : List Nat), l.Nodup → (∀ x ∈ l, x < n) → l.length ≤ n
  | 0, l, _, h => by
    cases l with
    | nil => exact Nat.le_refl _
    | cons x r => exact absurd (h x (by simp)) (Nat.not_lt_zero _)
  | n + 1, l, hd, h => by
    have h1 := nodup_le n (l.erase n) (hd.erase n) fun x hx => by
      have h2 := (hd.mem_erase_iff).mp hx
      have := h x h2.2
      omega
    rw [List.length_erase] at h1
    split at h1 <;> omega
theorem EsOk.len {P : List Stn} {es : List Nat} (h : EsOk P es) : es.length ≤ P.length := nodup_le _ _ h.nd fun e he => by
  obtain ⟨s, h1, _⟩ := h.en e he
  exact (List.getElem?_eq_some_iff.mp h1).1
theorem enumL_eq (xs : List PyData) : enumL xs = (List.range xs.length).map fun k => PyData.tuple [.int (k : Nat), xs.getD k .none] := rfl
theorem any_nat_false {es : List Nat} {e : Nat} (h : e ∉ es) : ((es.map fun j => PyData.int (j : Nat)).any fun z => PyData.eqv z (.int (e : Nat))) = false := by
  rw [List.any_eq_false]
  intro x hx
  obtain ⟨j, hj, rfl⟩ := List.mem_map.mp hx
  simp only [PyData.eqv, beq_iff_eq, Int.natCast_inj]
  intro z
  rw [z] at hj
  exact h hj
theorem any_nat_true {es : List Nat} {e : Nat} (h : e ∈ es) : ((es.map fun j => PyData.int (j : Nat)).any fun z => PyData.eqv z (.int (e : Nat))) = true := by
  rw [List.any_eq_true]
  exact ⟨.int e, List.mem_map.mpr ⟨e, h, rfl⟩, by simp [PyData.eqv]⟩
theorem all_flat_nat (es : List Nat) : ((es.map fun j => PyData.int (j : Nat)).all flatD) = true := by
  rw [List.all_eq_true]
  intro x hx
  obtain ⟨c, _, rfl⟩ := List.mem_map.mp hx
  rfl
theorem w_are_ends : bodyW Gm_are_ends n_are_ends [.bor, .bor] b_are_ends F_are_ends := by
  intro ts Q h _
  obtain ⟨P, es, rfl, ok, hlt, he, q⟩ := h
  have hsl : sizeLine > 10000000 := by decide
  have hel := he.len
  show wSs Gm_are_ends b_are_ends _ [.d (PD P), .d (.list (es.map fun j => .int (j : Nat))), .dead, .dead]
  walk_at "vs"
  walk_at "vu"
  walk_at "vs"
  refine forW_k _ (fun k σ => ∃ x2 x3, σ = [.d (PD P), .d (.list (es.map fun j => .int (j : Nat))), x2, x3]) ?_ ?_ ⟨_, _, rfl⟩
  · rintro σ ⟨x2, x3, rfl⟩
    walk_at "vu"
    exact q
  · rintro k x σ N hx hN - - - ⟨x2, x3, rfl⟩
    rw [enumL_eq, List.length_map, List.getElem?_map] at hx
    have hk : k < es.length := by
      by_cases h : k < es.length
      · exact h
      · rw [List.getElem?_eq_none (by simpa using h)] at hx
        cases hx
    rw [List.getElem?_range hk] at hx
    have e1 : (es.map fun j => PyData.int (j : Nat)).getD k .none = .int (es[k] : Nat) := by rw [List.getD_eq_getElem?_getD, List.getElem?_map, List.getElem?_eq_getElem hk]; rfl
    simp only [Option.map_some, e1] at hx
    cases hx
    obtain ⟨st, hst, hsl0⟩ := he.en es[k] (List.getElem_mem hk)
    have hkP : es[k] < P.length := (List.getElem?_eq_some_iff.mp hst).1
    have hat : atI (P.map Stn.d) (es[k] : Nat) = some (.tuple [.str "end", .int st.w]) := by rw [atI_PD hst, Stn.d, if_pos hsl0]
    walk_at "v"
    refine ⟨_, rfl, rfl, fun z => (by cases z), ?_⟩
    walk_at "v"
    row_has hat
    rw [cutL_to (by rw [List.length_map, List.length_map]; omega)]
    have e2 : ((es.map fun j => PyData.int (j : Nat)).map T.d).take k = (es.take k).map fun j => T.d (.int (j : Nat)) := by rw [← List.map_take, ← List.map_take, List.map_map]; rfl
    rw [e2, data_v (data_md (fun j : Nat => PyData.int j) (es.take k))]
    (conv => whnf); refine ⟨rfl, all_flat_nat _, ?_⟩
    have hnot : es[k] ∉ es.take k := fun z => by
      obtain ⟨i, hi, ei⟩ := List.getElem_of_mem z
      rw [List.getElem_take] at ei
      rw [List.length_take] at hi
      exact List.pairwise_iff_getElem.mp he.nd i k (by omega) hk (by omega) ei
    rw [any_nat_false hnot]
    walk_at "v"
    exact hN _ ⟨_, _, rfl⟩
abbrev F_look_at_ends : List T → (T → List T → Prop) → Prop := fun ts Q => ∃ (P : List Stn) (es : List Nat), ts = [.d (PD P), .d (nD es)] ∧ POk P ∧ P.length < 1000000 ∧ EsOk P es ∧ Q (.d .none) [.dead, .dead]
abbrev fsLookEnds : FS := ⟨[.bor, .bor], F_look_at_ends⟩
def Gm_look_at_ends : Ctx := ⟨[("are_ends", fsAreEnds)], [], [], [], []⟩
theorem w_look_at_ends : bodyW Gm_look_at_ends n_look_at_ends [.bor, .bor] b_look_at_ends F_look_at_ends := by
  intro ts Q h _
  obtain ⟨P, es, rfl, ok, hlt, he, q⟩ := h
  walk_at "v"
  refine ⟨P, es, rfl, ok, hlt, he, fun z => (by cases z), ?_⟩
  walk_at "v"
  exact q
/-- the ends of a play -/
def endsOf (P : List Stn) : List Nat := (List.range P.length).filter fun k => decide ((P.getD k ⟨"", [], 0⟩).l = [])
theorem endsOf_mem {P : List Stn} {k : Nat} (h : k ∈ endsOf P) : ∃ st, P[k]? = some st ∧ st.l = [] := by
  unfold endsOf at h
  rw [List.mem_filter] at h
  have hk1 := List.mem_range.mp h.1
  have hk2 := of_decide_eq_true h.2
  rw [List.getD_eq_getElem?_getD, List.getElem?_eq_getElem hk1] at hk2
  exact ⟨_, List.getElem?_eq_getElem hk1, hk2⟩
theorem endsOf_in {P : List Stn} {k : Nat} {st : Stn} (h : P[k]? = some st) (hl : st.l = []) : k ∈ endsOf P := by
  unfold endsOf
  rw [List.mem_filter]
  refine ⟨List.mem_range.mpr (List.getElem?_eq_some_iff.mp h).1, decide_eq_true ?_⟩
  rw [List.getD_eq_getElem?_getD, h]
  exact hl
theorem endsOf_ok (P : List Stn) : EsOk P (endsOf P) := ⟨List.Pairwise.filter _ List.nodup_range, fun e he => endsOf_mem he⟩
/-- the test of an end, by a list that is handed in -/
theorem ends_test {P : List Stn} (ok : POk P) {k : Nat} (hk : k < P.length) : ∃ st, P[k]? = some st ∧ st.x ≠ "end" ∧ (decide ((P.getD k ⟨"", [], 0⟩).l = []) = decide (st.l = [])) ∧
    (st.l = [] → atI (P.map Stn.d) (k : Nat) = some (.tuple [.str "end", .int st.w])) ∧ (st.l ≠ [] → atI (P.map Stn.d) (k : Nat) = some (.tuple [.str st.x, .tuple (st.l.map .int), .int st.w])) := by
  have hs : P[k]? = some P[k] := List.getElem?_eq_getElem hk
  have hx := ok.hand _ (List.mem_of_getElem? hs)
  refine ⟨P[k], hs, ?_, ?_, fun hl => by rw [atI_PD hs, Stn.d, if_pos hl], fun hl => by rw [atI_PD hs, Stn.d, if_neg hl]⟩
  · rcases hx with z | z <;> rw [z] <;> decide
  · rw [List.getD_eq_getElem?_getD, hs]
    rfl
end VL
set_option Elab.async false
set_option linter.all false
set_option maxRecDepth 100000
set_option maxHeartbeats 4000000
/-! VP5: what a hand is sure of. -/
namespace VL
open PySem PySem.Spec PyProof.Rows L2
local macro_rules | `(tactic| walk_at "vc") => `(tactic| first | with_reducible rfl | assumption | exact Nat.zero_le _ | exact noTup_md _ _ | exact Nat.le_of_ble_eq_true rfl | omega | rfl | trivial | focus (simp only [mkTup, T.leaves, T.noTup, T.noTupl, Kd.isTup, noTupl_md, noTupl_iT, noTupl_kids, PT, KT, Pool, kidT, Bool.not_false, Bool.and_self] <;> fail) | focus (refine ⟨?_, ?_⟩ <;> omega) | exact (fun _ => rfl))
local macro_rules | `(tactic| walk_at "vn") => `(tactic| (intro z; first | (with_unfolding_all exact Bool.noConfusion (show false = true from z)) | (with_unfolding_all exact Bool.noConfusion (show true = false from z)) | (focus (refine absurd z ?_; first | decide | (simp only [Bool.not_eq_true', Bool.not_eq_false', decide_eq_true_eq, decide_eq_false_iff_not, List.length_map, iT_len]; omega) | (simp <;> fail)))))
local macro_rules | `(tactic| walk_at "v1") => `(tactic| ((conv => whnf); (with_reducible refine And.intro ?_ ?_); first | (walk_at "vn"; try (with_reducible intro _)) | (rotate_left; walk_at "vn"; (with_reducible intro _)) | (with_unfolding_all walk_at "vc")))
local macro_rules | `(tactic| walk_at "v") => `(tactic| ((repeat walk_at "v1"); conv => whnf))
local macro_rules | `(tactic| row_has $h) => `(tactic| (rw [$h:ident]; walk_at "v"))
local macro_rules | `(tactic| walk_at "vs") => `(tactic| (refine holdW ?_; walk_at "v"))
local macro_rules | `(tactic| walk_at "vu") => `(tactic| refine unholdW ?_)
def nums (os : List (Option Int)) : List Int := os.filterMap id
def sureAt (hand owner : Str) (os : List (Option Int)) : Option Int := if owner = hand then (if nums os = [] then none else some (best hand (nums os))) else if (nums os).length = os.length then some (best owner (nums os)) else none
theorem nums_filter (os : List (Option Int)) : (os.filter fun o => o.isSome).map (fun o => T.d (oD o)) = (nums os).map fun i => T.d (.int i) := by
  unfold nums
  induction os with
  | nil => rfl
  | cons o os ih => cases o <;> simp [oD] at ih ⊢ <;> exact ih
theorem nums_len (os : List (Option Int)) : (nums os).length ≤ os.length := List.length_filterMap_le _ _
theorem eqv_list_nil (ns : List Int) : PyData.eqv (.list (ns.map fun i => .int i)) (.list []) = decide (ns = []) := by
  cases ns with
  | nil => simp [PyData.eqv, PyData.eqvAll]
  | cons x r => simp [PyData.eqv, PyData.eqvAll]
theorem shp_ints' (ns : List Int) : shp 1 (.list (ns.map fun i => .int i)) := shp_ints ns
abbrev F_sure_at : List T → (T → List T → Prop) → Prop := fun ts Q => ∃ (hand owner : Str) (os : List (Option Int)), ts = [.d (.str hand), .d (.str owner), .d (.list (os.map oD))] ∧ os ≠ [] ∧ os.length < 10000000 ∧ Q (.d (oD (sureAt hand owner os))) [.dead, .dead, .dead]
abbrev fsSureAt : FS := ⟨[.bor, .bor, .bor], F_sure_at⟩
def Gm_sure_at : Ctx := ⟨[("best_of", fsBest)], [], ["len"], [], []⟩
theorem w_sure_at : bodyW Gm_sure_at n_sure_at [.bor, .bor, .bor] b_sure_at F_sure_at := by
  intro ts Q h _
  obtain ⟨hand, owner, os, rfl, hne, hlt, q⟩ := h
  have hsl : sizeLine > 10000000 := by decide
  have hol : (os.map oD).length = os.length := List.length_map _
  show wSs Gm_sure_at b_sure_at _ [.d (.str hand), .d (.str owner), .d (.list (os.map oD)), .dead, .dead]
  walk_at "vs"
  refine lcW_fd (σ := [.d (.str hand), .d (.str owner), .d (.list (os.map oD)), .dead, .dead]) oD (fun o => o.isSome) (fun o => .d (oD o)) os (fun o ho => ?_) (by omega) ?_
  · refine ⟨[.d (.str hand), .d (.str owner), .d (.list (os.map oD)), .dead, .d (oD o)], rfl, fun Q hQ => ?_, fun _ Q hQ => hQ, rfl⟩
    cases o <;> (walk_at "v"; exact hQ)
  rw [nums_filter]
  have hnl := nums_len os
  obtain ⟨ns, hn⟩ : ∃ ns, ns = nums os := ⟨_, rfl⟩
  rw [← hn]
  rw [← hn] at hnl
  have hnl2 : (ns.map fun i => T.d (.int i)).length = ns.length := List.length_map _
  walk_at "v"
  walk_at "vu"
  show wSs Gm_sure_at (b_sure_at.drop 1) _ [.d (.str hand), .d (.str owner), .d (.list (os.map oD)), .nd .list (ns.map fun i => T.d (.int i)), .dead]
  have hsh := (shp_ints' ns).shaped (by decide)
  have hsh0 := (shp_ints' []).shaped (by decide)
  have hnd : T.data (.nd .list (ns.map fun i => T.d (.int i))) = some (.list (ns.map fun i => .int i)) := data_md (fun i : Int => PyData.int i) ns
  by_cases hoh : owner = hand
  · subst hoh
    walk_at "vs"
    rw [data_p (i := 3) (q := []) (t := .nd .list (ns.map fun i => T.d (.int i))) rfl hnd]
    (conv => whnf); refine ⟨hsh, hsh0, ?_⟩
    rw [eqv_list_nil]
    by_cases hns : ns = []
    · rw [decide_eq_true hns]
      walk_at "v"
      walk_at "vu"
      show wSs Gm_sure_at (b_sure_at.drop 2) _ [.d (.str owner), .d (.str owner), .d (.list (os.map oD)), .nd .list (ns.map fun i => T.d (.int i)), .dead]
      walk_at "v"
      rw [sureAt, if_pos rfl, ← hn, if_pos hns] at q
      exact q
    · rw [decide_eq_false hns]
      walk_at "v"
      rw [passes_leaf (x := .str owner) rfl (passes_lend (us := ns.map fun i => T.d (.int i)) rfl hnd rfl)]
      walk_at "v"
      refine ⟨owner, ns, rfl, hns, fun _ => ⟨rfl, rfl⟩, ?_⟩
      walk_at "v"
      rw [sureAt, if_pos rfl, ← hn, if_neg hns] at q
      exact q
  · walk_at "vs"
    walk_at "vu"
    show wSs Gm_sure_at (b_sure_at.drop 2) _ [.d (.str hand), .d (.str owner), .d (.list (os.map oD)), .nd .list (ns.map fun i => T.d (.int i)), .dead]
    walk_at "vs"
    have hc : ∀ b : Bool, (decide (((ns.map fun i => T.d (PyData.int i)).length : Int) = ((os.map oD).length : Nat)) = b) → decide (ns.length = os.length) = b := by
      intro b h
      rw [← h, hnl2, hol]
      simp
      omega
    refine ⟨fun z => ?_, fun z => ?_⟩
    · have h1 := of_decide_eq_true (hc _ z)
      have hns : ns ≠ [] := fun e => by
        rw [e] at h1
        exact hne (List.length_eq_zero_iff.mp h1.symm)
      walk_at "v"
      rw [passes_leaf (x := .str owner) rfl (passes_lend (us := ns.map fun i => T.d (.int i)) rfl hnd rfl)]
      walk_at "v"
      refine ⟨owner, ns, rfl, hns, fun _ => ⟨rfl, rfl⟩, ?_⟩
      walk_at "v"
      rw [sureAt, if_neg hoh, ← hn, if_pos h1] at q
      exact q
    · have h1 := of_decide_eq_false (hc _ z)
      walk_at "v"
      walk_at "vu"
      walk_at "v"
      rw [sureAt, if_neg hoh, ← hn, if_neg h1] at q
      exact q
/-- what a hand is sure of, stand by stand -/
def sval (es : List Nat) (hand : Str) (i : Nat) (s : Stn) (fs : List (Option Int)) : Option Int := if s.l = [] then (if i ∈ es then some s.w else none) else sureAt hand s.x (s.l.map fun c => fs.getD c.toNat none)
structure SrOk (P : List Stn) (es : List Nat) (hand : Str) (fs : List (Option Int)) : Prop where
  len : fs.length = P.length
  val : ∀ (i : Nat) s, P[i]? = some s → fs[i]? = some (sval es hand i s fs)
theorem srOk_unique {P : List Stn} {es : List Nat} {hand : Str} {fs gs : List (Option Int)} (ok : POk P) (h : SrOk P es hand fs) (g : SrOk P es hand gs) : fs = gs := by
  have key : ∀ m (i : Nat), P.length - i ≤ m → fs[i]? = gs[i]? := by
    intro m
    induction m with
    | zero =>
      intro i hi
      rw [List.getElem?_eq_none (by have := h.len; omega), List.getElem?_eq_none (by have := g.len; omega)]
    | succ m ih =>
      intro i hi
      by_cases hl : i < P.length
      · have hs : P[i]? = some P[i] := List.getElem?_eq_getElem hl
        rw [h.val i _ hs, g.val i _ hs]
        unfold sval
        split
        · rfl
        · congr 2
          apply List.map_congr_left
          intro c hc
          have := ok.up i _ hs c hc
          rw [List.getD_eq_getElem?_getD, List.getD_eq_getElem?_getD, ih c.toNat (by omega)]
      · rw [List.getElem?_eq_none (by have := h.len; omega), List.getElem?_eq_none (by have := g.len; omega)]
  exact List.ext_getElem? fun i => key _ i (Nat.le_refl _)
theorem sval_set {es : List Nat} {hand : Str} {i : Nat} {s : Stn} {fs : List (Option Int)} {m : Nat} {v : Option Int} (h : ∀ c ∈ s.l, (m : Int) < c) : sval es hand i s (fs.set m v) = sval es hand i s fs := by
  unfold sval
  split
  · rfl
  · congr 1
    apply List.map_congr_left
    intro c hc
    have := h c hc
    rw [List.getD_eq_getElem?_getD, List.getD_eq_getElem?_getD, List.getElem?_set_ne (by omega)]
/-- from a stand on; ends further ahead may stand already -/
def SI (P : List Stn) (es : List Nat) (hand : Str) (k : Nat) (fs : List (Option Int)) : Prop := fs.length = P.length ∧ (∀ (i : Nat) s, k ≤ i → P[i]? = some s → fs[i]? = some (sval es hand i s fs))
theorem SI.step {P : List Stn} {es : List Nat} {hand : Str} {k : Nat} {fs : List (Option Int)} {st : Stn} (ok : POk P) (h : SI P es hand (k + 1) fs) (hs : P[k]? = some st) : SI P es hand k (fs.set k (sval es hand k st fs)) := by
  have hk : k < P.length := (List.getElem?_eq_some_iff.mp hs).1
  have hup := ok.up k st hs
  refine ⟨by rw [List.length_set]; exact h.1, fun i s hi hI => ?_⟩
  by_cases e : i = k
  · subst e
    rw [hs] at hI
    cases hI
    rw [List.getElem?_set_self (by have := h.1; omega), sval_set fun c hc => (hup c hc).1]
  · rw [List.getElem?_set_ne (by omega), sval_set fun c hc => ?_]
    · exact h.2 i s (by omega) hI
    · have := ok.up i s hI c hc
      omega
def oT (fs : List (Option Int)) : List T := fs.map fun o => .d (oD o)
theorem oT_len (fs : List (Option Int)) : (oT fs).length = fs.length := List.length_map _
theorem oT_get {fs : List (Option Int)} {j : Nat} {o : Option Int} (h : fs[j]? = some o) : (oT fs)[j]? = some (.d (oD o)) := md_get oD h
theorem oT_set (fs : List (Option Int)) (m : Nat) (o : Option Int) : (oT fs).set m (.d (oD o)) = oT (fs.set m o) := by
  unfold oT
  rw [List.map_set]
theorem oT_data (fs : List (Option Int)) : T.data (.nd .list (oT fs)) = some (.list (fs.map oD)) := data_md oD fs
theorem oT_noTup (fs : List (Option Int)) : T.noTup (.nd .list (oT fs)) = true := noTup_md oD fs
end VL
set_option Elab.async false
set_option linter.all false
set_option maxRecDepth 100000
set_option maxHeartbeats 4000000
/-! VP6: sure_of, shown_by. -/
namespace VL
open PySem PySem.Spec PyProof.Rows L2
local macro_rules | `(tactic| walk_at "vc") => `(tactic| first | with_reducible rfl | assumption | exact Nat.zero_le _ | exact noTup_md _ _ | exact Nat.le_of_ble_eq_true rfl | omega | rfl | trivial | focus (simp only [mkTup, T.leaves, T.noTup, T.noTupl, Kd.isTup, noTupl_md, noTupl_iT, noTupl_kids, PT, KT, Pool, kidT, Bool.not_false, Bool.and_self] <;> fail) | focus (refine ⟨?_, ?_⟩ <;> omega) | exact (fun _ => rfl))
local macro_rules | `(tactic| walk_at "vn") => `(tactic| (intro z; first | (with_unfolding_all exact Bool.noConfusion (show false = true from z)) | (with_unfolding_all exact Bool.noConfusion (show true = false from z)) | (focus (refine absurd z ?_; first | decide | (simp only [Bool.not_eq_true', Bool.not_eq_false', decide_eq_true_eq, decide_eq_false_iff_not, List.length_map, iT_len]; omega) | (simp <;> fail)))))
local macro_rules | `(tactic| walk_at "v1") => `(tactic| ((conv => whnf); (with_reducible refine And.intro ?_ ?_); first | (walk_at "vn"; try (with_reducible intro _)) | (rotate_left; walk_at "vn"; (with_reducible intro _)) | (with_unfolding_all walk_at "vc")))
local macro_rules | `(tactic| walk_at "v") => `(tactic| ((repeat walk_at "v1"); conv => whnf))
local macro_rules | `(tactic| row_has $h) => `(tactic| (rw [$h:ident]; walk_at "v"))
local macro_rules | `(tactic| walk_at "vs") => `(tactic| (refine holdW ?_; walk_at "v"))
local macro_rules | `(tactic| walk_at "vu") => `(tactic| refine unholdW ?_)
abbrev F_sure_of : List T → (T → List T → Prop) → Prop := fun ts Q => ∃ (P : List Stn) (es : List Nat) (hand : Str), ts = [.d (PD P), .d (nD es), .d (.str hand)] ∧ POk P ∧ P.length < 1000000 ∧ EsOk P es ∧
  ∀ fs, SrOk P es hand fs → Q (.nd .list (oT fs)) [.dead, .dead, .dead]
abbrev fsSureOf : FS := ⟨[.bor, .bor, .bor], F_sure_of⟩
def Gm_sure_of : Ctx := ⟨[("sure_at", fsSureAt)], [], ["len", "reversed", "range"], [], []⟩
theorem none_rep (n : Nat) : List.map T.d (List.replicate n [PyData.none]).flatten = oT (List.replicate n none) := by
  rw [rep_flat]
  unfold oT
  simp [oD]
theorem w_sure_of : bodyW Gm_sure_of n_sure_of [.bor, .bor, .bor] b_sure_of F_sure_of := by
  intro ts Q h _
  obtain ⟨P, es, hand, rfl, ok, hlt, he, q⟩ := h
  have hsl : sizeLine > 10000000 := by decide
  have hPl : (P.map Stn.d).length = P.length := List.length_map _
  have hel := he.len
  show wSs Gm_sure_of b_sure_of _ [.d (PD P), .d (.list (es.map fun j => .int (j : Nat))), .d (.str hand), .dead, .dead, .dead, .dead, .dead]
  refine holdW ?_
  (conv => whnf); refine ⟨rfl, ?_⟩
  (conv => whnf); refine ⟨Nat.le_of_ble_eq_true rfl, ?_⟩
  (conv => whnf); refine ⟨rfl, ?_⟩
  (conv => whnf); refine ⟨by omega, by omega, by simp; omega, ?_⟩
  conv => whnf
  rw [hPl, Int.toNat_natCast, none_rep]
  refine ⟨oT_noTup _, Nat.le_of_ble_eq_true rfl, ?_⟩
  walk_at "vu"
  show wSs Gm_sure_of (b_sure_of.drop 1) _ [.d (PD P), .d (.list (es.map fun j => .int (j : Nat))), .d (.str hand), .nd .list (oT (List.replicate P.length none)), .dead, .dead, .dead, .dead]
  walk_at "vs"
  refine forW_k _ (fun k σ => ∃ fs x4, σ = [.d (PD P), .d (.list (es.map fun j => .int (j : Nat))), .d (.str hand), .nd .list (oT fs), x4, .dead, .dead, .dead] ∧ fs.length = P.length ∧ ∀ (i : Nat) s, P[i]? = some s → fs[i]? = some (if i ∈ es.take k then some s.w else none)) ?_ ?_ ⟨_, _, rfl, by simp, fun i s h => ?_⟩
  · rintro σ ⟨fs, x4, rfl, hfl, hf⟩
    rw [List.length_map, List.take_length] at hf
    walk_at "vu"
    show wSs Gm_sure_of (b_sure_of.drop 2) _ [.d (PD P), .d (.list (es.map fun j => .int (j : Nat))), .d (.str hand), .nd .list (oT fs), x4, .dead, .dead, .dead]
    walk_at "vs"
    rw [hPl, Int.toNat_natCast]
    refine forW_back (fun k σ => ∃ fs x4 x5 x6 x7, σ = [.d (PD P), .d (.list (es.map fun j => .int (j : Nat))), .d (.str hand), .nd .list (oT fs), x4, x5, x6, x7] ∧ SI P es hand k fs ∧ ∀ (i : Nat) s, i < k → P[i]? = some s → s.l = [] → fs[i]? = some (if i ∈ es then some s.w else none)) ?_ ?_ ⟨_, _, _, _, _, rfl, ⟨hfl, fun i s hi h => ?_⟩, fun i s _ h _ => hf i s h⟩
    · rintro σ ⟨fs, x4, x5, x6, x7, rfl, hS, _⟩
      walk_at "vu"
      exact q fs ⟨hS.1, fun i s h => hS.2 i s (Nat.zero_le _) h⟩
    · rintro k σ N hk hN - - - ⟨fs, x4, x5, x6, x7, rfl, hS, hE⟩
      have hs : P[k]? = some P[k] := List.getElem?_eq_getElem hk
      generalize P[k] = st at hs
      have hup := ok.up k st hs
      have hfl := hS.1
      have hx : st.x = "high" ∨ st.x = "low" := ok.hand st (List.mem_of_getElem? hs)
      have hxe : st.x ≠ "end" := by rcases hx with z | z <;> rw [z] <;> decide
      by_cases hl0 : st.l = []
      · have hat : atI (P.map Stn.d) (k : Nat) = some (.tuple [.str "end", .int st.w]) := by rw [atI_PD hs, Stn.d, if_pos hl0]
        walk_at "v"
        row_has hat
        have hsv : fs[k]? = some (sval es hand k st fs) := by rw [sval, if_pos hl0]; exact hE k st (by omega) hs hl0
        refine hN _ ⟨fs, _, _, _, _, rfl, ⟨hfl, fun i s hi h => ?_⟩, fun i s hi => hE i s (by omega)⟩
        by_cases e : i = k
        · subst e
          rw [hs] at h
          cases h
          exact hsv
        · exact hS.2 i s (by omega) h
      · have hat : atI (P.map Stn.d) (k : Nat) = some (.tuple [.str st.x, .tuple (st.l.map .int), .int st.w]) := by rw [atI_PD hs, Stn.d, if_neg hl0]
        walk_at "v"
        row_has hat
        have hfew := ok.few st (List.mem_of_getElem? hs)
        refine lcW_md (is := [7]) (σ := [.d (PD P), .d (.list (es.map fun j => .int (j : Nat))), .d (.str hand), .nd .list (oT fs), x4, .d (.int k), .d (.tuple [.str st.x, .tuple (st.l.map .int), .int st.w]), x7]) _ (fun c => .d (oD (fs.getD c.toNat none))) st.l (fun c hc => ?_) (by omega) ?_
        · have hcu := hup c hc
          have hg1 : ixN (oT fs).length c = some c.toNat := ixN_of (by omega) (by rw [oT_len]; omega)
          have hg2 : (oT fs)[c.toNat]? = some (.d (oD (fs.getD c.toNat none))) := oT_get (by rw [List.getD_eq_getElem?_getD, List.getElem?_eq_getElem (by omega)]; rfl)
          refine ⟨[.d (PD P), .d (.list (es.map fun j => .int (j : Nat))), .d (.str hand), .nd .list (oT fs), x4, .d (.int k), .d (.tuple [.str st.x, .tuple (st.l.map .int), .int st.w]), .d (.int c)], rfl, fun Q hQ => ?_, rfl⟩
          walk_at "v"
          row_has hg1
          row_has hg2
          exact hQ
        have hjw : ixN (oT fs).length ((k : Nat) : Int) = some k := ixN_nat (by rw [oT_len]; omega)
        have e2 : (st.l.map fun c => oD (fs.getD c.toNat none)) = (st.l.map fun c => fs.getD c.toNat none).map oD := by rw [List.map_map]; rfl
        conv => whnf
        rw [passes_leaf (x := .str hand) rfl (passes_leaf (x := .str st.x) rfl (passes_val (data_md (fun c : Int => oD (fs.getD c.toNat none)) st.l) rfl))]
        walk_at "v"
        refine ⟨hand, st.x, st.l.map fun c => fs.getD c.toNat none, by rw [e2], by simpa using hl0, by rw [List.length_map]; omega, fun z => (by cases z), ?_⟩
        walk_at "v"
        row_has hjw
        rw [oT_set]
        have hst := hS.step ok hs
        rw [sval, if_neg hl0] at hst
        refine hN _ ⟨_, _, _, _, _, rfl, hst, fun i s hi h1 h2 => ?_⟩
        rw [List.getElem?_set_ne (by omega)]
        exact hE i s (by omega) h1 h2
    · exfalso
      have := (List.getElem?_eq_some_iff.mp h).1
      omega
  · rintro k x σ N hx hN - - - ⟨fs, x4, rfl, hfl, hf⟩
    rw [List.getElem?_map] at hx
    obtain ⟨e, he1, rfl⟩ := Option.map_eq_some_iff.mp hx
    obtain ⟨st, hst, hsl0⟩ := he.en e (List.mem_of_getElem? he1)
    have hkP : e < P.length := (List.getElem?_eq_some_iff.mp hst).1
    have hat : atI (P.map Stn.d) (e : Nat) = some (.tuple [.str "end", .int st.w]) := by rw [atI_PD hst, Stn.d, if_pos hsl0]
    have hjw : ixN (oT fs).length ((e : Nat) : Int) = some e := ixN_nat (by rw [oT_len]; omega)
    walk_at "v"
    row_has hat
    row_has hjw
    refine hN _ ⟨fs.set e (some st.w), _, by rw [← oT_set]; rfl, by simp [hfl], fun i s h => ?_⟩
    have hk : k < es.length := (List.getElem?_eq_some_iff.mp he1).1
    have hm : i ∈ es.take (k + 1) ↔ i ∈ es.take k ∨ i = es[k] := by rw [List.take_succ_eq_append_getElem hk, List.mem_append, List.mem_singleton]
    rw [List.getElem?_eq_getElem hk] at he1
    cases he1
    by_cases ei : i = es[k]
    · subst ei
      rw [List.getElem?_set_self (by omega), if_pos (hm.mpr (.inr rfl))]
      rw [hst] at h
      cases h
      rfl
    · rw [List.getElem?_set_ne (by omega), hf i s h]
      by_cases e1 : i ∈ es.take k
      · rw [if_pos e1, if_pos (hm.mpr (.inl e1))]
      · rw [if_neg e1, if_neg fun z => (hm.mp z).elim e1 ei]
  · have := (List.getElem?_eq_some_iff.mp h).1
    rw [List.getElem?_replicate, if_pos this]
    simp
abbrev F_shown_by : List T → (T → List T → Prop) → Prop := fun ts Q => ∃ (P : List Stn) (es : List Nat), ts = [.d (PD P), .d (nD es)] ∧ POk P ∧ P.length < 1000000 ∧ EsOk P es ∧
  ∀ fh fl a b, SrOk P es "high" fh → SrOk P es "low" fl → fh[0]? = some a → fl[0]? = some b → Q (.d (.tuple [oD a, oD b])) [.dead, .dead]
abbrev fsShownBy : FS := ⟨[.bor, .bor], F_shown_by⟩
def Gm_shown_by : Ctx := ⟨[("look_at_ends", fsLookEnds), ("sure_of", fsSureOf)], [], [], [], []⟩
theorem w_shown_by : bodyW Gm_shown_by n_shown_by [.bor, .bor] b_shown_by F_shown_by := by
  intro ts Q h _
  obtain ⟨P, es, rfl, ok, hlt, he, q⟩ := h
  have hpos := ok.pos
  show wSs Gm_shown_by b_shown_by _ [.d (PD P), .d (nD es)]
  walk_at "vs"
  refine ⟨P, es, rfl, ok, hlt, he, fun z => (by cases z), ?_⟩
  walk_at "v"
  walk_at "vu"
  show wSs Gm_shown_by (b_shown_by.drop 1) _ [.d (PD P), .d (nD es)]
  walk_at "v"
  refine ⟨P, es, "high", rfl, ok, hlt, he, fun fh hh => ⟨fun z => (by cases z), ?_⟩⟩
  have l1 : 0 < fh.length := by have := hh.len; omega
  have e1 : fh[0]? = some fh[0] := List.getElem?_eq_getElem l1
  generalize fh[0] = a at e1
  have h1 : ixN (oT fh).length 0 = some 0 := ixN_nat (k := 0) (by rw [oT_len]; exact l1)
  have h2 := oT_get e1
  walk_at "v"
  row_has h1
  row_has h2
  refine ⟨P, es, "low", rfl, ok, hlt, he, fun fl hl => ⟨fun z => (by cases z), ?_⟩⟩
  have l2 : 0 < fl.length := by have := hl.len; omega
  have e2 : fl[0]? = some fl[0] := List.getElem?_eq_getElem l2
  generalize fl[0] = b at e2
  have h3 : ixN (oT fl).length 0 = some 0 := ixN_nat (k := 0) (by rw [oT_len]; exact l2)
  have h4 := oT_get e2
  walk_at "v"
  row_has h3
  row_has h4
  exact q fh fl a b hh hl e1 e2
end VL
set_option Elab.async false
set_option linter.all false
set_option maxRecDepth 100000
set_option maxHeartbeats 4000000
/-! VP7: measures. -/
namespace VL
open PySem PySem.Spec PyProof.Rows L2
local macro_rules | `(tactic| walk_at "vc") => `(tactic| first | with_reducible rfl | assumption | exact Nat.zero_le _ | exact noTup_md _ _ | exact Nat.le_of_ble_eq_true rfl | omega | rfl | trivial | focus (simp only [mkTup, T.leaves, T.noTup, T.noTupl, Kd.isTup, noTupl_md, noTupl_iT, noTupl_kids, PT, KT, Pool, kidT, Bool.not_false, Bool.and_self] <;> fail) | focus (refine ⟨?_, ?_⟩ <;> omega) | exact (fun _ => rfl))
local macro_rules | `(tactic| walk_at "vn") => `(tactic| (intro z; first | (with_unfolding_all exact Bool.noConfusion (show false = true from z)) | (with_unfolding_all exact Bool.noConfusion (show true = false from z)) | (focus (refine absurd z ?_; first | decide | (simp only [Bool.not_eq_true', Bool.not_eq_false', decide_eq_true_eq, decide_eq_false_iff_not, List.length_map, iT_len]; omega) | (simp <;> fail)))))
local macro_rules | `(tactic| walk_at "v1") => `(tactic| ((conv => whnf); (with_reducible refine And.intro ?_ ?_); first | (walk_at "vn"; try (with_reducible intro _)) | (rotate_left; walk_at "vn"; (with_reducible intro _)) | (with_unfolding_all walk_at "vc")))
local macro_rules | `(tactic| walk_at "v") => `(tactic| ((repeat walk_at "v1"); conv => whnf))
local macro_rules | `(tactic| row_has $h) => `(tactic| (rw [$h:ident]; walk_at "v"))
local macro_rules | `(tactic| walk_at "vs") => `(tactic| (refine holdW ?_; walk_at "v"))
local macro_rules | `(tactic| walk_at "vu") => `(tactic| refine unholdW ?_)
abbrev F_ends_of : List T → (T → List T → Prop) → Prop := fun ts Q => ∃ P : List Stn, ts = [.d (PD P)] ∧ POk P ∧ P.length < 1000000 ∧ Q (.nd .list (nT (endsOf P))) [.dead]
abbrev fsEndsOf : FS := ⟨[.bor], F_ends_of⟩
def Gm_ends_of : Ctx := ⟨[], [], ["enumerate"], [], []⟩
theorem w_ends_of : bodyW Gm_ends_of n_ends_of [.bor] b_ends_of F_ends_of := by
  intro ts Q h _
  obtain ⟨P, rfl, ok, hlt, q⟩ := h
  have hsl : sizeLine > 10000000 := by decide
  walk_at "v"
  rw [enumL_eq, List.length_map]
  refine lcW_fd (is := [1, 2]) (σ := [.d (PD P), .dead, .dead]) _ (fun k => decide ((P.getD k ⟨"", [], 0⟩).l = [])) (fun k => .d (.int (k : Nat))) (List.range P.length) (fun k hk => ?_) (by rw [List.length_range]; omega) q
  have hk := List.mem_range.mp hk
  obtain ⟨st, h1, h2, h3, _, _⟩ := ends_test ok hk
  have e1 : (P.map Stn.d).getD k .none = st.d := by rw [List.getD_eq_getElem?_getD, List.getElem?_map, h1]; rfl
  refine ⟨[.d (PD P), .d (.int k), .d st.d], by rw [e1]; rfl, fun Q hQ => ?_, fun _ Q hQ => hQ, rfl⟩
  rw [h3] at hQ
  by_cases hl0 : st.l = []
  · rw [Stn.d, if_pos hl0] at hQ ⊢
    walk_at "v"
    simpa [hl0] using hQ
  · rw [Stn.d, if_neg hl0] at hQ ⊢
    walk_at "v"
    simpa [hl0, h2] using hQ
/-- how many steps lead to a stand -/
def ledBy (ls : List (List Int)) (i : Nat) : Int := (ls.flatten.count (i : Int) : Nat)
def ledL (P : List Stn) : List Int := (List.range P.length).map fun i => ledBy (P.map Stn.l) i
theorem ledBy_snoc (ls : List (List Int)) (l : List Int) (i : Nat) : ledBy (ls ++ [l]) i = ledBy ls i + (l.count (i : Int) : Nat) := by
  unfold ledBy
  rw [List.flatten_append, List.count_append]
  simp
theorem ledBy_part (ls : List (List Int)) (l : List Int) (c : Int) (i : Nat) : ledBy (ls ++ [l ++ [c]]) i = ledBy (ls ++ [l]) i + (if c = (i : Int) then 1 else 0) := by
  rw [ledBy_snoc, ledBy_snoc, List.count_append]
  by_cases h : c = (i : Int)
  · rw [if_pos h, h]
    simp
    omega
  · rw [if_neg h]
    simp [List.count_singleton, h]
abbrev F_led_to : List T → (T → List T → Prop) → Prop := fun ts Q => ∃ P : List Stn, ts = [.d (PD P)] ∧ POk P ∧ P.length < 1000000 ∧ Q (.nd .list (iT (ledL P))) [.dead]
abbrev fsLedTo : FS := ⟨[.bor], F_led_to⟩
def Gm_led_to : Ctx := ⟨[("steps_of", fsSteps)], [], ["len", "range"], [], []⟩
theorem zero_rep (n : Nat) : List.map T.d (List.replicate n [PyData.int 0]).flatten = iT (List.replicate n 0) := by
  rw [rep_flat]
  unfold iT
  simp
/-- a list of numbers by what stands at its places -/
def At (n : Nat) (xs : List Int) (f : Nat → Int) : Prop := xs.length = n ∧ ∀ i, i < n → xs[i]? = some (f i)
theorem At.eq {n : Nat} {xs : List Int} {f : Nat → Int} (h : At n xs f) : xs = (List.range n).map f := by
  apply List.ext_getElem?
  intro i
  rw [List.getElem?_map]
  by_cases hi : i < n
  · rw [h.2 i hi, List.getElem?_range hi]
    rfl
  · rw [List.getElem?_eq_none (by have := h.1; omega), List.getElem?_eq_none (by simpa using hi)]
    rfl
theorem w_led_to : bodyW Gm_led_to n_led_to [.bor] b_led_to F_led_to := by
  intro ts Q h _
  obtain ⟨P, rfl, ok, hlt, q⟩ := h
  have hsl : sizeLine > 10000000 := by decide
  have hPl : (P.map Stn.d).length = P.length := List.length_map _
  show wSs Gm_led_to b_led_to _ [.d (PD P), .dead, .dead, .dead]
  refine holdW ?_
  (conv => whnf); refine ⟨rfl, ?_⟩
  (conv => whnf); refine ⟨Nat.le_of_ble_eq_true rfl, ?_⟩
  (conv => whnf); refine ⟨rfl, ?_⟩
  (conv => whnf); refine ⟨by omega, by omega, by simp; omega, ?_⟩
  conv => whnf
  rw [hPl, Int.toNat_natCast, zero_rep]
  refine ⟨by simp only [T.noTup, noTupl_iT, Kd.isTup, Bool.not_false, Bool.and_self], Nat.le_of_ble_eq_true rfl, ?_⟩
  walk_at "vu"
  show wSs Gm_led_to (b_led_to.drop 1) _ [.d (PD P), .nd .list (iT (List.replicate P.length 0)), .dead, .dead]
  walk_at "vs"
  rw [hPl, Int.toNat_natCast]
  refine forW_r0 (fun k σ => ∃ xs x2 x3, σ = [.d (PD P), .nd .list (iT xs), x2, x3] ∧ At P.length xs (ledBy ((P.map Stn.l).take k))) ?_ ?_ ⟨_, _, _, rfl, by simp, fun i hi => ?_⟩
  · rintro σ ⟨xs, x2, x3, rfl, hA⟩
    rw [List.take_of_length_le (by simp)] at hA
    walk_at "vu"
    have := hA.eq
    subst this
    exact q
  · rintro k σ N hk hN - - - ⟨xs, x2, x3, rfl, hA⟩
    have hs : P[k]? = some P[k] := List.getElem?_eq_getElem hk
    have htk : (P.map Stn.l).take (k + 1) = (P.map Stn.l).take k ++ [P[k].l] := by
      rw [List.take_succ_eq_append_getElem (by simpa using hk), List.getElem_map]
    rw [htk] at hN
    generalize P[k] = st at hs hN
    have hup := ok.up k st hs
    walk_at "v"
    refine ⟨P, k, st, rfl, hs, ok.hand st (List.mem_of_getElem? hs), fun z => (by cases z), ?_⟩
    walk_at "v"
    refine forW_k (st.l.map PyData.int) (fun m σ => ∃ xs x3, σ = [.d (PD P), .nd .list (iT xs), .d (.int k), x3] ∧ At P.length xs (ledBy ((P.map Stn.l).take k ++ [st.l.take m]))) ?_ ?_ ⟨xs, _, rfl, hA.1, fun i hi => ?_⟩
    · rintro σ ⟨xs, x3, rfl, hA⟩
      rw [List.length_map, List.take_length] at hA
      exact hN _ ⟨xs, _, _, rfl, hA⟩
    · rintro m x σ N2 hx hN2 - - - ⟨xs, x3, rfl, hA⟩
      rw [List.getElem?_map] at hx
      obtain ⟨c, hc, rfl⟩ := Option.map_eq_some_iff.mp hx
      have hcu := hup c (List.mem_of_getElem? hc)
      have hm : m < st.l.length := (List.getElem?_eq_some_iff.mp hc).1
      have hxl := hA.1
      have hg2 : (iT xs)[c.toNat]? = some (.d (.int (ledBy ((P.map Stn.l).take k ++ [st.l.take m]) c.toNat))) := iT_get (hA.2 c.toNat (by omega))
      walk_at "v"
      row_has hg2
      rw [iT_set]
      refine hN2 _ ⟨_, _, rfl, by simpa using hxl, fun i hi => ?_⟩
      rw [List.take_succ_eq_append_getElem hm, ledBy_part]
      rw [List.getElem?_eq_getElem hm] at hc
      cases hc
      by_cases e : i = st.l[m].toNat
      · subst e
        rw [List.getElem?_set_self (by omega), if_pos (show st.l[m] = ((st.l[m].toNat : Nat) : Int) by omega)]
        rfl
      · rw [List.getElem?_set_ne (fun z => e z.symm), hA.2 i hi, if_neg (show ¬ st.l[m] = (i : Int) by omega)]
        simp
    · rw [hA.2 i hi, List.take_zero, ledBy_snoc]
      simp
  · rw [List.getElem?_replicate, if_pos hi]
    rfl
/-- how many ways lead on from a stand -/
def mval (s : Stn) (ms : List Int) : Int := if s.l = [] then 1 else (s.l.map fun c => ms.getD c.toNat 0).sum
structure MwOk (P : List Stn) (ms : List Int) : Prop where
  len : ms.length = P.length
  val : ∀ (i : Nat) s, P[i]? = some s → ms[i]? = some (mval s ms)
def MI (P : List Stn) (k : Nat) (ms : List Int) : Prop := ms.length = P.length ∧ (∀ (i : Nat) s, k ≤ i → P[i]? = some s → ms[i]? = some (mval s ms)) ∧ ∀ i, i < k → i < P.length → ms[i]? = some 1
theorem mval_set {s : Stn} {ms : List Int} {m : Nat} {v : Int} (h : ∀ c ∈ s.l, (m : Int) < c) : mval s (ms.set m v) = mval s ms := by
  unfold mval
  split
  · rfl
  · congr 1
    apply List.map_congr_left
    intro c hc
    have := h c hc
    rw [List.getD_eq_getElem?_getD, List.getD_eq_getElem?_getD, List.getElem?_set_ne (by omega)]
theorem MI.step {P : List Stn} {k : Nat} {ms : List Int} {st : Stn} (ok : POk P) (h : MI P (k + 1) ms) (hs : P[k]? = some st) : MI P k (ms.set k (mval st ms)) := by
  have hk : k < P.length := (List.getElem?_eq_some_iff.mp hs).1
  have hup := ok.up k st hs
  refine ⟨by rw [List.length_set]; exact h.1, fun i s hi hI => ?_, fun i hi hI => ?_⟩
  · by_cases e : i = k
    · subst e
      rw [hs] at hI
      cases hI
      rw [List.getElem?_set_self (by have := h.1; omega), mval_set fun c hc => (hup c hc).1]
    · rw [List.getElem?_set_ne (by omega), mval_set fun c hc => ?_]
      · exact h.2.1 i s (by omega) hI
      · have := ok.up i s hI c hc
        omega
  · rw [List.getElem?_set_ne (by omega)]
    exact h.2.2 i (by omega) hI
abbrev F_ways_many : List T → (T → List T → Prop) → Prop := fun ts Q => ∃ P : List Stn, ts = [.d (PD P)] ∧ POk P ∧ P.length < 1000000 ∧ ∀ ms v, MwOk P ms → ms[0]? = some v → Q (.d (.int v)) [.dead]
abbrev fsWaysMany : FS := ⟨[.bor], F_ways_many⟩
def Gm_ways_many : Ctx := ⟨[("steps_of", fsSteps)], [], ["len", "reversed", "range", "sum"], [], []⟩
theorem one_rep (n : Nat) : List.map T.d (List.replicate n [PyData.int 1]).flatten = iT (List.replicate n 1) := by
  rw [rep_flat]
  unfold iT
  simp
theorem w_ways_many : bodyW Gm_ways_many n_ways_many [.bor] b_ways_many F_ways_many := by
  intro ts Q h _
  obtain ⟨P, rfl, ok, hlt, q⟩ := h
  have hsl : sizeLine > 10000000 := by decide
  have hPl : (P.map Stn.d).length = P.length := List.length_map _
  have hpos := ok.pos
  show wSs Gm_ways_many b_ways_many _ [.d (PD P), .dead, .dead, .dead]
  refine holdW ?_
  (conv => whnf); refine ⟨rfl, ?_⟩
  (conv => whnf); refine ⟨Nat.le_of_ble_eq_true rfl, ?_⟩
  (conv => whnf); refine ⟨rfl, ?_⟩
  (conv => whnf); refine ⟨by omega, by omega, by simp; omega, ?_⟩
  conv => whnf
  rw [hPl, Int.toNat_natCast, one_rep]
  refine ⟨by simp only [T.noTup, noTupl_iT, Kd.isTup, Bool.not_false, Bool.and_self], Nat.le_of_ble_eq_true rfl, ?_⟩
  walk_at "vu"
  show wSs Gm_ways_many (b_ways_many.drop 1) _ [.d (PD P), .nd .list (iT (List.replicate P.length 1)), .dead, .dead]
  walk_at "vs"
  rw [hPl, Int.toNat_natCast]
  refine forW_back (fun k σ => ∃ ms x2 x3, σ = [.d (PD P), .nd .list (iT ms), x2, x3] ∧ MI P k ms) ?_ ?_ ⟨_, _, _, rfl, by simp, fun i s hi h => ?_, fun i _ hi => ?_⟩
  · rintro σ ⟨ms, x2, x3, rfl, hM⟩
    have l1 : 0 < ms.length := by have := hM.1; omega
    have e1 : ms[0]? = some ms[0] := List.getElem?_eq_getElem l1
    have h1 : ixN (iT ms).length 0 = some 0 := ixN_nat (k := 0) (by rw [iT_len]; exact l1)
    have h2 := iT_get e1
    walk_at "vu"
    walk_at "v"
    row_has h1
    row_has h2
    exact q ms _ ⟨hM.1, fun i s h => hM.2.1 i s (Nat.zero_le _) h⟩ e1
  · rintro k σ N hk hN - - - ⟨ms, x2, x3, rfl, hM⟩
    have hs : P[k]? = some P[k] := List.getElem?_eq_getElem hk
    generalize P[k] = st at hs
    have hup := ok.up k st hs
    have hml := hM.1
    have hx : st.x = "high" ∨ st.x = "low" := ok.hand st (List.mem_of_getElem? hs)
    have hxe : st.x ≠ "end" := by rcases hx with z | z <;> rw [z] <;> decide
    by_cases hl0 : st.l = []
    · have hat : atI (P.map Stn.d) (k : Nat) = some (.tuple [.str "end", .int st.w]) := by rw [atI_PD hs, Stn.d, if_pos hl0]
      walk_at "v"
      row_has hat
      refine hN _ ⟨ms, _, _, rfl, hml, fun i s hi h => ?_, fun i hi => hM.2.2 i (by omega)⟩
      by_cases e : i = k
      · subst e
        rw [hs] at h
        cases h
        rw [mval, if_pos hl0]
        exact hM.2.2 i (by omega) hk
      · exact hM.2.1 i s (by omega) h
    · have hat : atI (P.map Stn.d) (k : Nat) = some (.tuple [.str st.x, .tuple (st.l.map .int), .int st.w]) := by rw [atI_PD hs, Stn.d, if_neg hl0]
      have hfew := ok.few st (List.mem_of_getElem? hs)
      have hjw : ixN (iT ms).length ((k : Nat) : Int) = some k := ixN_nat (by rw [iT_len]; omega)
      walk_at "v"
      row_has hat
      refine ⟨P, k, st, rfl, hs, hx, fun z => (by cases z), ?_⟩
      walk_at "v"
      refine lcW_md (is := [3]) (σ := [.d (PD P), .nd .list (iT ms), .d (.int k), x3]) _ (fun c => .d (.int (ms.getD c.toNat 0))) st.l (fun c hc => ?_) (by omega) ?_
      · have hcu := hup c hc
        have hg1 : ixN (iT ms).length c = some c.toNat := ixN_of (by omega) (by rw [iT_len]; omega)
        have hg2 : (iT ms)[c.toNat]? = some (.d (.int (ms.getD c.toNat 0))) := iT_get (by rw [List.getD_eq_getElem?_getD, List.getElem?_eq_getElem (by omega)]; rfl)
        refine ⟨[.d (PD P), .nd .list (iT ms), .d (.int k), .d (.int c)], rfl, fun Q hQ => ?_, rfl⟩
        walk_at "v"
        row_has hg1
        row_has hg2
        exact hQ
      conv => whnf
      rw [datas_md (fun c : Int => PyData.int (ms.getD c.toNat 0))]
      conv => whnf
      rw [ints_md (fun c : Int => ms.getD c.toNat 0)]
      walk_at "v"
      row_has hjw
      rw [iT_set]
      have := hM.step ok hs
      rw [mval, if_neg hl0] at this
      exact hN _ ⟨_, _, _, rfl, this⟩
  · exfalso
    have := (List.getElem?_eq_some_iff.mp h).1
    omega
  · rw [List.getElem?_replicate, if_pos hi]
end VL
set_option Elab.async false
set_option linter.all false
set_option maxRecDepth 100000
set_option maxHeartbeats 4000000
/-! VP8: how far a stand is from the begin. -/
namespace VL
open PySem PySem.Spec PyProof.Rows L2
local macro_rules | `(tactic| walk_at "vc") => `(tactic| first | with_reducible rfl | assumption | exact Nat.zero_le _ | exact noTup_md _ _ | exact Nat.le_of_ble_eq_true rfl | omega | rfl | trivial | focus (simp only [mkTup, T.leaves, T.noTup, T.noTupl, Kd.isTup, noTupl_md, noTupl_iT, noTupl_kids, PT, KT, Pool, kidT, Bool.not_false, Bool.and_self] <;> fail) | focus (refine ⟨?_, ?_⟩ <;> omega) | exact (fun _ => rfl))
local macro_rules | `(tactic| walk_at "vn") => `(tactic| (intro z; first | (with_unfolding_all exact Bool.noConfusion (show false = true from z)) | (with_unfolding_all exact Bool.noConfusion (show true = false from z)) | (focus (refine absurd z ?_; first | decide | (simp only [Bool.not_eq_true', Bool.not_eq_false', decide_eq_true_eq, decide_eq_false_iff_not, List.length_map, iT_len]; omega) | (simp <;> fail)))))
local macro_rules | `(tactic| walk_at "v1") => `(tactic| ((conv => whnf); (with_reducible refine And.intro ?_ ?_); first | (walk_at "vn"; try (with_reducible intro _)) | (rotate_left; walk_at "vn"; (with_reducible intro _)) | (with_unfolding_all walk_at "vc")))
local macro_rules | `(tactic| walk_at "v") => `(tactic| ((repeat walk_at "v1"); conv => whnf))
local macro_rules | `(tactic| row_has $h) => `(tactic| (rw [$h:ident]; walk_at "v"))
local macro_rules | `(tactic| walk_at "vs") => `(tactic| (refine holdW ?_; walk_at "v"))
local macro_rules | `(tactic| walk_at "vu") => `(tactic| refine unholdW ?_)
/-- how far stands are, by the steps E that were gone -/
structure FE (n : Nat) (E : Nat → Nat → Prop) (fs : List (Option Int)) : Prop where
  len : fs.length = n
  zero : fs[0]? = some (some 0)
  pos : ∀ (i : Nat) v, fs[i]? = some (some v) → 0 ≤ v
  at_ : ∀ i, 0 < i → i < n → (fs[i]? = some none ∧ ∀ k, ¬ E k i) ∨ (∃ v, fs[i]? = some (some v) ∧ (∃ k u, E k i ∧ fs[k]? = some (some u) ∧ v = u + 1) ∧ ∀ k u, E k i → fs[k]? = some (some u) → u + 1 ≤ v)
theorem FE.congr {n : Nat} {E E' : Nat → Nat → Prop} {fs : List (Option Int)} (h : FE n E fs) (e : ∀ k i, E k i ↔ E' k i) : FE n E' fs := by
  have : E = E' := funext fun k => funext fun i => propext (e k i)
  rw [← this]
  exact h
theorem FE.add {n : Nat} {E : Nat → Nat → Prop} {fs : List (Option Int)} {k c : Nat} {u : Int} (h : FE n E fs) (hkc : k < c) (hc : c < n) (hE : ∀ k' i, E k' i → k' ≤ k) (hu : fs[k]? = some (some u)) :
    FE n (fun k' i => E k' i ∨ (k' = k ∧ i = c)) (fs.set c (some (max (u + 1) ((fs.getD c none).getD 0)))) := by
  have hl := h.len
  have hu0 := h.pos k u hu
  generalize hx : max (u + 1) ((fs.getD c none).getD 0) = x
  have keep : ∀ j, j ≠ c → (fs.set c (some x))[j]? = fs[j]? := fun j hj => List.getElem?_set_ne (fun z => hj z.symm)
  have self : (fs.set c (some x))[c]? = some (some x) := List.getElem?_set_self (by omega)
  refine ⟨by rw [List.length_set]; exact hl, by rw [keep 0 (by omega)]; exact h.zero, fun i v hv => ?_, fun i h0 hi => ?_⟩
  · by_cases e : i = c
    · subst e
      rw [self] at hv
      have := Option.some.inj (Option.some.inj hv)
      omega
    · rw [keep i e] at hv
      exact h.pos i v hv
  · by_cases e : i = c
    · subst e
      refine .inr ⟨_, self, ?_, fun k' w hk' hw => ?_⟩
      · rcases h.at_ i h0 hi with ⟨h1, h2⟩ | ⟨v, h1, ⟨k', w, g1, g2, g3⟩, h3⟩
        · refine ⟨k, u, .inr ⟨rfl, rfl⟩, by rw [keep k (by omega)]; exact hu, ?_⟩
          rw [List.getD_eq_getElem?_getD, h1] at hx
          simp at hx
          omega
        · rw [List.getD_eq_getElem?_getD, h1] at hx
          simp only [Option.getD_some] at hx
          by_cases hm : u + 1 ≤ v
          · have := hE k' i g1
            exact ⟨k', w, .inl g1, by rw [keep k' (by omega)]; exact g2, by omega⟩
          · exact ⟨k, u, .inr ⟨rfl, rfl⟩, by rw [keep k (by omega)]; exact hu, by omega⟩
      · have hk'' : k' ≤ k := by
          rcases hk' with z | ⟨z, _⟩
          · exact hE k' i z
          · omega
        rw [keep k' (by omega)] at hw
        rcases hk' with z | ⟨rfl, _⟩
        · rcases h.at_ i h0 hi with ⟨h1, h2⟩ | ⟨v, h1, _, h3⟩
          · exact absurd z (h2 k')
          · have := h3 k' w z hw
            rw [List.getD_eq_getElem?_getD, h1] at hx
            simp only [Option.getD_some] at hx
            omega
        · rw [hu] at hw
          cases hw
          omega
    · rw [keep i e]
      rcases h.at_ i h0 hi with ⟨h1, h2⟩ | ⟨v, h1, ⟨k', w, g1, g2, g3⟩, h3⟩
      · refine .inl ⟨h1, fun k' z => ?_⟩
        rcases z with z | ⟨_, z⟩
        · exact h2 k' z
        · exact e z
      · refine .inr ⟨v, h1, ⟨k', w, .inl g1, by have := hE k' i g1; rw [keep k' (by omega)]; exact g2, g3⟩, fun k2 w2 z hw => ?_⟩
        rcases z with z | ⟨_, z⟩
        · have := hE k2 i z
          rw [keep k2 (by omega)] at hw
          exact h3 k2 w2 z hw
        · exact absurd z e
/-- the steps of the first stands -/
def Ek (P : List Stn) (k : Nat) : Nat → Nat → Prop := fun k' i => k' < k ∧ ∃ s, P[k']? = some s ∧ (i : Int) ∈ s.l
def Ekm (P : List Stn) (k : Nat) (l : List Int) (m : Nat) : Nat → Nat → Prop := fun k' i => Ek P k k' i ∨ (k' = k ∧ (i : Int) ∈ l.take m)
theorem Ekm_step {P : List Stn} {k : Nat} {l : List Int} {m : Nat} {c : Int} (hc : l[m]? = some c) (h0 : 0 ≤ c) (k' i : Nat) : (Ekm P k l m k' i ∨ (k' = k ∧ i = c.toNat)) ↔ Ekm P k l (m + 1) k' i := by
  have hm : m < l.length := (List.getElem?_eq_some_iff.mp hc).1
  rw [List.getElem?_eq_getElem hm] at hc
  unfold Ekm
  rw [List.take_succ_eq_append_getElem hm, List.mem_append, List.mem_singleton, Option.some.inj hc]
  constructor
  · rintro ((h | ⟨h1, h2⟩) | ⟨h1, h2⟩)
    · exact .inl h
    · exact .inr ⟨h1, .inl h2⟩
    · exact .inr ⟨h1, .inr (by omega)⟩
  · rintro (h | ⟨h1, h2 | h2⟩)
    · exact .inl (.inl h)
    · exact .inl (.inr ⟨h1, h2⟩)
    · exact .inr ⟨h1, by omega⟩
theorem Ekm_all {P : List Stn} {k : Nat} {st : Stn} (hs : P[k]? = some st) (k' i : Nat) : Ekm P k st.l st.l.length k' i ↔ Ek P (k + 1) k' i := by
  unfold Ekm Ek
  rw [List.take_length]
  constructor
  · rintro (⟨h1, h2⟩ | ⟨rfl, h2⟩)
    · exact ⟨by omega, h2⟩
    · exact ⟨by omega, st, hs, h2⟩
  · rintro ⟨h1, s, h2, h3⟩
    by_cases e : k' = k
    · subst e
      rw [hs] at h2
      cases h2
      exact .inr ⟨rfl, h3⟩
    · exact .inl ⟨by omega, s, h2, h3⟩
theorem Ekm_none {P : List Stn} {k : Nat} {l : List Int} (k' i : Nat) : Ekm P k l 0 k' i ↔ Ek P k k' i := by
  unfold Ekm
  simp
theorem Ekm_le {P : List Stn} {k : Nat} {l : List Int} {m k' i : Nat} (h : Ekm P k l m k' i) : k' ≤ k := by
  rcases h with ⟨h, _⟩ | ⟨h, _⟩ <;> omega
/-- a stand that is come to has been reached -/
theorem FE.reached {P : List Stn} {k : Nat} {fs : List (Option Int)} (px : PX P) (h : FE P.length (Ek P k) fs) (hk : k < P.length) : ∃ u, fs[k]? = some (some u) := by
  by_cases h0 : k = 0
  · subst h0
    exact ⟨0, h.zero⟩
  · rcases h.at_ k (by omega) hk with ⟨_, h2⟩ | ⟨v, h1, _⟩
    · obtain ⟨k', s, g1, g2⟩ := px.led k (by omega) hk
      have := px.up k' s g1 _ g2
      exact absurd ⟨by omega, s, g1, g2⟩ (h2 k')
    · exact ⟨v, h1⟩
theorem FE.start (P : List Stn) (h : 0 < P.length) : FE P.length (Ek P 0) (some 0 :: List.replicate (P.length - 1) none) := by
  refine ⟨by simp; omega, rfl, fun i v hv => ?_, fun i h0 hi => .inl ⟨?_, fun k z => ?_⟩⟩
  · cases i with
    | zero => simp at hv; omega
    | succ i =>
      rw [List.getElem?_cons_succ, List.getElem?_replicate] at hv
      split at hv <;> simp at hv
  · cases i with
    | zero => omega
    | succ i =>
      rw [List.getElem?_cons_succ, List.getElem?_replicate, if_pos (by omega)]
  · have := z.1
    omega
/-- all are reached at last -/
structure FarOk (P : List Stn) (fs : List Int) : Prop where
  fe : FE P.length (Ek P P.length) (fs.map some)
theorem FE.all {P : List Stn} {fs : List (Option Int)} (px : PX P) (h : FE P.length (Ek P P.length) fs) : ∃ gs, fs = gs.map some ∧ FarOk P gs := by
  have hall : ∀ i, i < P.length → ∃ u, fs[i]? = some (some u) := fun i hi => by
    by_cases h0 : i = 0
    · subst h0
      exact ⟨0, h.zero⟩
    · rcases h.at_ i (by omega) hi with ⟨_, h2⟩ | ⟨v, h1, _⟩
      · obtain ⟨k', s, g1, g2⟩ := px.led i (by omega) hi
        exact absurd ⟨(List.getElem?_eq_some_iff.mp g1).1, s, g1, g2⟩ (h2 k')
      · exact ⟨v, h1⟩
  have e : fs = (fs.map fun o => o.getD 0).map some := by
    rw [List.map_map]
    apply List.ext_getElem?
    intro i
    rw [List.getElem?_map]
    by_cases hi : i < P.length
    · obtain ⟨u, hu⟩ := hall i hi
      rw [hu]
      rfl
    · rw [List.getElem?_eq_none (by have := h.len; omega)]
      rfl
  exact ⟨_, e, ⟨by rw [← e]; exact h⟩⟩
theorem farOk_unique {P : List Stn} {fs gs : List Int} (px : PX P) (h : FarOk P fs) (g : FarOk P gs) : fs = gs := by
  have hl : fs.length = P.length := by simpa using h.fe.len
  have gl : gs.length = P.length := by simpa using g.fe.len
  have conv : ∀ {xs : List Int} {i : Nat} {v : Int}, (xs.map some)[i]? = some (some v) ↔ xs[i]? = some v := fun {xs i v} => by
    rw [List.getElem?_map]
    cases xs[i]? <;> simp
  have key : ∀ m i, i ≤ m → i < P.length → fs[i]? = gs[i]? := by
    intro m
    induction m with
    | zero =>
      intro i hi _
      have : i = 0 := by omega
      subst this
      rw [conv.mp h.fe.zero, conv.mp g.fe.zero]
    | succ m ih =>
      intro i hi hP
      by_cases h0 : i = 0
      · subst h0
        rw [conv.mp h.fe.zero, conv.mp g.fe.zero]
      · have upw : ∀ k, Ek P P.length k i → k < i := fun k z => by
          obtain ⟨_, s, g1, g2⟩ := z
          have := px.up k s g1 _ g2
          omega
        rcases h.fe.at_ i (by omega) hP with ⟨h1, _⟩ | ⟨v, h1, ⟨k, u, a1, a2, a3⟩, h3⟩
        · rw [List.getElem?_map, List.getElem?_eq_getElem (by omega)] at h1
          cases h1
        · rcases g.fe.at_ i (by omega) hP with ⟨g1, _⟩ | ⟨w, g1, ⟨k2, u2, b1, b2, b3⟩, g3⟩
          · rw [List.getElem?_map, List.getElem?_eq_getElem (by omega)] at g1
            cases g1
          · have e1 := upw k a1
            have e2 := upw k2 b1
            have c1 := g3 k u a1 (conv.mpr (by rw [← ih k (by omega) (by omega)]; exact conv.mp a2))
            have c2 := h3 k2 u2 b1 (conv.mpr (by rw [ih k2 (by omega) (by omega)]; exact conv.mp b2))
            rw [conv.mp h1, conv.mp g1]
            congr 1
            omega
  apply List.ext_getElem?
  intro i
  by_cases hi : i < P.length
  · exact key i i (Nat.le_refl _) hi
  · rw [List.getElem?_eq_none (by omega), List.getElem?_eq_none (by omega)]
abbrev F_farthest : List T → (T → List T → Prop) → Prop := fun ts Q => ∃ P : List Stn, ts = [.d (PD P)] ∧ PX P ∧ P.length < 1000000 ∧ ∀ fs, FarOk P fs → Q (.nd .list (iT fs)) [.dead]
abbrev fsFarthest : FS := ⟨[.bor], F_farthest⟩
def Gm_farthest : Ctx := ⟨[("steps_of", fsSteps)], [], ["len", "range", "max"], [], []⟩
theorem oT_some (gs : List Int) : oT (gs.map some) = iT gs := by unfold oT iT; rw [List.map_map]; rfl
theorem w_farthest : bodyW Gm_farthest n_farthest [.bor] b_farthest F_farthest := by
  intro ts Q h _
  obtain ⟨P, rfl, px, hlt, q⟩ := h
  have ok := px.toPOk
  have hsl : sizeLine > 10000000 := by decide
  have hPl : (P.map Stn.d).length = P.length := List.length_map _
  have hpos := ok.pos
  show wSs Gm_farthest b_farthest _ [.d (PD P), .dead, .dead, .dead]
  refine holdW ?_
  (conv => whnf); refine ⟨rfl, ?_⟩
  (conv => whnf); refine ⟨Nat.le_of_ble_eq_true rfl, ?_⟩
  (conv => whnf); refine ⟨Nat.le_of_ble_eq_true rfl, ?_⟩
  (conv => whnf); refine ⟨rfl, ?_⟩
  (conv => whnf); refine ⟨by omega, by omega, by rw [hPl, List.length_singleton]; omega, ?_⟩
  conv => whnf
  rw [hPl, show ((P.length : Int) - 1).toNat = P.length - 1 by omega, none_rep]
  refine ⟨rfl, ?_⟩
  (conv => whnf); refine ⟨by rw [oT_len, List.length_replicate, List.length_singleton]; omega, ?_⟩
  rw [show [T.d (.int 0)] ++ oT (List.replicate (P.length - 1) none) = oT (some 0 :: List.replicate (P.length - 1) none) from rfl]
  (conv => whnf); refine ⟨oT_noTup _, Nat.le_of_ble_eq_true rfl, ?_⟩
  conv => whnf
  walk_at "vu"
  show wSs Gm_farthest (b_farthest.drop 1) _ [.d (PD P), .nd .list (oT (some 0 :: List.replicate (P.length - 1) none)), .dead, .dead]
  walk_at "vs"
  rw [hPl, Int.toNat_natCast]
  refine forW_r0 (fun k σ => ∃ fs x2 x3, σ = [.d (PD P), .nd .list (oT fs), x2, x3] ∧ FE P.length (Ek P k) fs) ?_ ?_ ⟨_, _, _, rfl, FE.start P hpos⟩
  · rintro σ ⟨fs, x2, x3, rfl, hF⟩
    obtain ⟨gs, rfl, hG⟩ := hF.all px
    rw [oT_some]
    walk_at "vu"
    exact q gs hG
  · rintro k σ N hk hN - - - ⟨fs, x2, x3, rfl, hF⟩
    obtain ⟨u, hu⟩ := hF.reached px hk
    have hs : P[k]? = some P[k] := List.getElem?_eq_getElem hk
    generalize P[k] = st at hs
    have hup := ok.up k st hs
    have hfl := hF.len
    have h1 : ixN (oT fs).length (k : Nat) = some k := ixN_nat (by rw [oT_len]; omega)
    have h2 := oT_get hu
    walk_at "v"
    row_has h1
    row_has h2
    refine ⟨P, k, st, rfl, hs, ok.hand st (List.mem_of_getElem? hs), fun z => (by cases z), ?_⟩
    walk_at "v"
    refine forW_k (st.l.map PyData.int) (fun m σ => ∃ fs x3, σ = [.d (PD P), .nd .list (oT fs), .d (.int k), x3] ∧ FE P.length (Ekm P k st.l m) fs ∧ fs[k]? = some (some u)) ?_ ?_ ⟨fs, _, rfl, hF.congr fun k' i => (Ekm_none k' i).symm, hu⟩
    · rintro σ ⟨fs, x3, rfl, hF, _⟩
      rw [List.length_map] at hF
      exact hN _ ⟨fs, _, _, rfl, hF.congr (Ekm_all hs)⟩
    · rintro m x σ N2 hx hN2 - - - ⟨fs, x3, rfl, hF, hu⟩
      rw [List.getElem?_map] at hx
      obtain ⟨c, hc, rfl⟩ := Option.map_eq_some_iff.mp hx
      have hcu := hup c (List.mem_of_getElem? hc)
      have hfl := hF.len
      have h1 : ixN (oT fs).length (k : Nat) = some k := ixN_nat (by rw [oT_len]; omega)
      have h2 := oT_get hu
      have hco : fs[c.toNat]? = some (fs.getD c.toNat none) := by rw [List.getD_eq_getElem?_getD, List.getElem?_eq_getElem (by omega)]; rfl
      have h3 : ixN (oT fs).length c = some c.toNat := ixN_of (by omega) (by rw [oT_len]; omega)
      have h4 := oT_get hco
      have fin : N2.nx [.d (PD P), .nd .list ((oT fs).set c.toNat (.d (oD (some (max (u + 1) ((fs.getD c.toNat none).getD 0)))))), .d (.int k), .d (.int c)] := by
        rw [oT_set]
        refine hN2 _ ⟨_, _, rfl, (hF.add (by omega) (by omega) (fun k' i => Ekm_le) hu).congr (Ekm_step hc (by omega)), ?_⟩
        rw [List.getElem?_set_ne (by omega)]
        exact hu
      walk_at "v"
      row_has h1
      row_has h2
      row_has h3
      row_has h4
      generalize fs.getD c.toNat none = o at fin
      cases o with
      | none =>
        walk_at "v"
        row_has h3
        exact fin
      | some v =>
        conv => whnf
        refine ⟨fun _ => ?_, fun z => ?_⟩
        · walk_at "v"
          row_has h3
          exact fin
        · have hv : v = 0 := by simpa using z
          subst hv
          walk_at "v"
          row_has h3
          exact fin
abbrev F_longest : List T → (T → List T → Prop) → Prop := fun ts Q => ∃ P : List Stn, ts = [.d (PD P)] ∧ PX P ∧ P.length < 1000000 ∧ ∀ fs, FarOk P fs → Q (.d (.int (maxL fs))) [.dead]
abbrev fsLongest : FS := ⟨[.bor], F_longest⟩
def Gm_longest : Ctx := ⟨[("farthest", fsFarthest)], [], ["max"], [], []⟩
theorem datas_iT (l : List Int) (σ : St) : R.datas σ [R.v (.nd .list (iT l))] = some [.list (l.map .int)] := datas_md (fun i : Int => PyData.int i) l σ
theorem w_longest : bodyW Gm_longest n_longest [.bor] b_longest F_longest := by
  intro ts Q h _
  obtain ⟨P, rfl, px, hlt, q⟩ := h
  have hpos := px.pos
  walk_at "v"
  refine ⟨P, rfl, px, hlt, fun fs hF => ⟨fun z => (by cases z), ?_⟩⟩
  have hl : fs.length = P.length := by simpa using hF.fe.len
  conv => whnf
  rw [datas_iT]
  conv => whnf
  rw [intsOf_map]
  (conv => whnf); refine ⟨fun z => by rw [z] at hl; simp at hl; omega, ?_⟩
  exact q fs hF
abbrev F_is_tree : List T → (T → List T → Prop) → Prop := fun ts Q => ∃ P : List Stn, ts = [.d (PD P)] ∧ POk P ∧ P.length < 1000000 ∧ Q (.d (.bool (decide (maxL (ledL P) ≤ 1)))) [.dead]
abbrev fsIsTree : FS := ⟨[.bor], F_is_tree⟩
def Gm_is_tree : Ctx := ⟨[("led_to", fsLedTo)], [], ["max"], [], []⟩
theorem ledL_len (P : List Stn) : (ledL P).length = P.length := by unfold ledL; simp
theorem w_is_tree : bodyW Gm_is_tree n_is_tree [.bor] b_is_tree F_is_tree := by
  intro ts Q h _
  obtain ⟨P, rfl, ok, hlt, q⟩ := h
  have hpos := ok.pos
  have hl := ledL_len P
  walk_at "v"
  refine ⟨P, rfl, ok, hlt, fun z => (by cases z), ?_⟩
  conv => whnf
  rw [datas_iT]
  conv => whnf
  rw [intsOf_map]
  (conv => whnf); refine ⟨fun z => by rw [z] at hl; simp at hl; omega, ?_⟩
  exact q
end VL
set_option Elab.async false
set_option linter.all false
set_option maxRecDepth 100000
set_option maxHeartbeats 4000000
namespace VL
open PySem PySem.Spec PyProof.Rows L2

def n_next_stands : List Str := ["play", "hand", "plan", "number", "steps", "place"]
def b_next_stands : List S := [.asg 4 (.call "steps_of" [.var 0, .var 3]), .ife (.cmp .ne (.ix (.ix (.var 0) (.var 3)) (.k (.int 0))) (.var 1)) [.ret (.blt .list [.var 4])] [], .asg 5 (.dgt (.var 2) (.var 3)), .ife (.or (.not (.call "is_whole" [.var 5])) (.not (.chain .le .lt (.k (.int 0)) (.var 5) (.blt .len [.var 4])))) [.ret (.k .none)] [], .ret (.lst [.ix (.var 4) (.var 5)])]

def n_come_to : List Str := ["play", "hand", "plan", "seen", "number", "behind", "step"]
def b_come_to : List S := [.asg 3 (.bin .mul (.lst [.k (.bool false)]) (.blt .len [.var 0])), .setix (.var 3) (.k (.int 0)) (.k (.bool true)), .for_ [4] .rng1 [.blt .len [.var 0]] [.ife (.ix (.var 3) (.var 4)) [.asg 5 (.call "next_stands" [.var 0, .var 1, .var 2, .var 4]), .ife (.cmp .is (.var 5) (.k .none)) [.ret (.k .none)] [], .for_ [6] .e [.var 5] [.setix (.var 3) (.var 6) (.k (.bool true))]] []], .ret (.lc [4] false (.var 4) .rng1 [.blt .len [.var 0]] [.ix (.var 3) (.var 4)])]

def n_plan_ends : List Str := ["play", "hand", "plan", "number"]
def b_plan_ends : List S := [.ret (.lc [3] false (.var 3) .e [.call "come_to" [.var 0, .var 1, .var 2]] [.cmp .eq (.ix (.ix (.var 0) (.var 3)) (.k (.int 0))) (.k (.str "end"))])]

def n_holds : List Str := ["play", "hand", "plan", "number"]
def b_holds : List S := [.ret (.call "best_of" [.call "other_hand" [.var 1], .lc [3] false (.ix (.ix (.var 0) (.var 3)) (.k (.int 1))) .e [.call "plan_ends" [.var 0, .var 1, .var 2]] []])]

end VL
set_option Elab.async false
set_option linter.all false
set_option maxRecDepth 100000
set_option maxHeartbeats 4000000
/-! VQ1: plans. -/
namespace VL
open PySem PySem.Spec PyProof.Rows L2
local macro_rules | `(tactic| walk_at "vc") => `(tactic| first | with_reducible rfl | assumption | exact Nat.zero_le _ | exact noTup_md _ _ | exact Nat.le_of_ble_eq_true rfl | omega | rfl | trivial | focus (simp only [mkTup, T.leaves, T.noTup, T.noTupl, Kd.isTup, noTupl_md, noTupl_iT, noTupl_kids, PT, KT, Pool, kidT, Bool.not_false, Bool.and_self] <;> fail) | focus (refine ⟨?_, ?_⟩ <;> omega) | exact (fun _ => rfl))
local macro_rules | `(tactic| walk_at "vn") => `(tactic| (intro z; first | (with_unfolding_all exact Bool.noConfusion (show false = true from z)) | (with_unfolding_all exact Bool.noConfusion (show true = false from z)) | (focus (refine absurd z ?_; first | decide | (simp only [Bool.not_eq_true', Bool.not_eq_false', decide_eq_true_eq, decide_eq_false_iff_not, List.length_map, iT_len]; omega) | (simp <;> fail)))))
local macro_rules | `(tactic| walk_at "v1") => `(tactic| ((conv => whnf); (with_reducible refine And.intro ?_ ?_); first | (walk_at "vn"; try (with_reducible intro _)) | (rotate_left; walk_at "vn"; (with_reducible intro _)) | (with_unfolding_all walk_at "vc")))
local macro_rules | `(tactic| walk_at "v") => `(tactic| ((repeat walk_at "v1"); conv => whnf))
local macro_rules | `(tactic| row_has $h) => `(tactic| (rw [$h:ident]; walk_at "v"))
local macro_rules | `(tactic| walk_at "vs") => `(tactic| (refine holdW ?_; walk_at "v"))
local macro_rules | `(tactic| walk_at "vu") => `(tactic| refine unholdW ?_)
abbrev Plan := List (Nat × Nat)
def PlD (kv : Plan) : PyData := .dict (kv.map fun p => (.int (p.1 : Nat), .int (p.2 : Nat)))
def PlK (kv : Plan) : List (Key × PyData) := kv.map fun p => (.inl ((p.1 : Nat) : Int), .int (p.2 : Nat))
theorem unD_pl : ∀ kv : Plan, unD (kv.map fun p => (PyData.int (p.1 : Nat), PyData.int (p.2 : Nat))) = some (PlK kv)
  | [] => rfl
  | p :: kv => by rw [List.map_cons, unD, unD_pl kv]; rfl
theorem dv_pl (kv : Plan) (σ : St) : (R.v (.d (PlD kv))).dv σ = some (PlK kv) := unD_pl kv
theorem dfind_pl (k : Nat) : ∀ kv : Plan, dfind (PlK kv) (.inl (k : Int)) = (kv.lookup k).map fun j => .int (j : Nat)
  | [] => rfl
  | p :: kv => by
    have ih := dfind_pl k kv
    unfold dfind PlK at ih ⊢
    rw [List.map_cons, List.find?_cons]
    by_cases h : p.1 = k
    · subst h
      obtain ⟨a, b⟩ := p
      simp [List.lookup]
    · have h2 : ¬ ((Sum.inl ((p.1 : Nat) : Int) : Key) = Sum.inl (k : Int)) := fun z => h (by have := Sum.inl.inj z; omega)
      have h3 : (k == p.1) = false := by simpa using fun z => h z.symm
      obtain ⟨a, b⟩ := p
      simp only [h2, decide_false, List.lookup, h3]
      exact ih
/-- where one goes on from a stand by a plan -/
def nxt (P : List Stn) (h : Str) (kv : Plan) (k : Nat) : List Int := match P[k]? with
  | some s => if s.x = h then match kv.lookup k with
    | some j => match s.l[j]? with
      | some c => [c]
      | none => []
    | none => []
    else s.l
  | none => []
/-- the plan has a step there -/
def PlAt (P : List Stn) (h : Str) (kv : Plan) (k : Nat) : Prop := ∀ s, P[k]? = some s → s.l ≠ [] → s.x = h → ∃ j c, kv.lookup k = some j ∧ s.l[j]? = some c
abbrev F_next_stands : List T → (T → List T → Prop) → Prop := fun ts Q => ∃ (P : List Stn) (h : Str) (kv : Plan) (k : Nat) (s : Stn), ts = [.d (PD P), .d (.str h), .d (PlD kv), .d (.int k)] ∧ P[k]? = some s ∧ (s.x = "high" ∨ s.x = "low") ∧ (h = "high" ∨ h = "low") ∧ s.l.length < 2000000 ∧ PlAt P h kv k ∧ (s.l = [] → kv.lookup k = none) ∧ Q (.nd .list (iT (nxt P h kv k))) [.dead, .dead, .dead, .dead]
abbrev fsNextStands : FS := ⟨[.bor, .bor, .bor, .bor], F_next_stands⟩
def Gm_next_stands : Ctx := ⟨[("steps_of", fsSteps), ("is_whole", fsIsWhole)], [], ["list", "len"], [], []⟩
theorem w_next_stands : bodyW Gm_next_stands n_next_stands [.bor, .bor, .bor, .bor] b_next_stands F_next_stands := by
  intro ts Q h _
  obtain ⟨P, h, kv, k, st, rfl, hs, hx, hh, hf, hp, he, q⟩ := h
  have hxe : st.x ≠ "end" := by rcases hx with z | z <;> rw [z] <;> decide
  have hhe : h ≠ "end" := by rcases hh with z | z <;> rw [z] <;> decide
  have hsl : sizeLine > 10000000 := by decide
  show wSs Gm_next_stands b_next_stands _ [.d (PD P), .d (.str h), .d (PlD kv), .d (.int k), .dead, .dead]
  walk_at "vs"
  refine ⟨P, k, st, rfl, hs, hx, fun z => (by cases z), ?_⟩
  walk_at "v"
  walk_at "vu"
  show wSs Gm_next_stands (b_next_stands.drop 1) _ [.d (PD P), .d (.str h), .d (PlD kv), .d (.int k), .d (.tuple (st.l.map .int)), .dead]
  by_cases hl0 : st.l = []
  · have hat : atI (P.map Stn.d) (k : Nat) = some (.tuple [.str "end", .int st.w]) := by rw [atI_PD hs, Stn.d, if_pos hl0]
    have en : nxt P h kv k = [] := by
      unfold nxt
      rw [hs]
      simp only [hl0, he hl0]
      split <;> rfl
    rw [en] at q
    rw [hl0]
    walk_at "v"
    row_has hat
    refine ⟨fun _ => ?_, fun z => absurd z (by simp; exact fun y => hhe y.symm)⟩
    walk_at "v"
    exact q
  · have hat : atI (P.map Stn.d) (k : Nat) = some (.tuple [.str st.x, .tuple (st.l.map .int), .int st.w]) := by rw [atI_PD hs, Stn.d, if_neg hl0]
    by_cases hxh : st.x = h
    · obtain ⟨j, c, hj, hc⟩ := hp st hs hl0 hxh
      have en : nxt P h kv k = [c] := by
        unfold nxt
        rw [hs]
        simp only [hxh, if_true, hj, hc]
      rw [en] at q
      walk_at "v"
      row_has hat
      refine ⟨fun z => absurd z (by simp [hxh]), fun _ => ?_⟩
      show wSs Gm_next_stands (b_next_stands.drop 2) _ [.d (PD P), .d (.str h), .d (PlD kv), .d (.int k), .d (.tuple (st.l.map .int)), .dead]
      refine holdW ?_
      (conv => whnf); refine ⟨rfl, ?_⟩
      (conv => whnf); refine ⟨by rw [dv_pl]; rfl, ?_⟩
      conv => whnf
      rw [dv_pl]
      walk_at "v"
      walk_at "vu"
      have hjl : j < st.l.length := (List.getElem?_eq_some_iff.mp hc).1
      have e5 : (dfind (PlK kv) (.inl (k : Int))).getD .none = .int (j : Nat) := by rw [dfind_pl, hj]; rfl
      have ha : atI (st.l.map PyData.int) (j : Nat) = some (.int c) := atI_md _ hc
      have hl : (st.l.map PyData.int).length = st.l.length := List.length_map _
      suffices hz : wSs Gm_next_stands (b_next_stands.drop 3) _ [.d (PD P), .d (.str h), .d (PlD kv), .d (.int k), .d (.tuple (st.l.map .int)), .d (.int (j : Nat))] by
        rw [← e5] at hz
        exact hz
      walk_at "v"
      refine ⟨_, rfl, rfl, fun z => (by cases z), ?_⟩
      walk_at "v"
      row_has ha
      exact q
    · have en : nxt P h kv k = st.l := by
        unfold nxt
        rw [hs]
        simp only [hxh, if_false]
      rw [en] at q
      walk_at "v"
      row_has hat
      rw [List.map_map]
      exact q
/-- the stands that are come to: r holds them all -/
structure ROk (P : List Stn) (h : Str) (kv : Plan) (r : List Nat) : Prop where
  zero : 0 ∈ r
  lt : ∀ i ∈ r, i < P.length
  shut : ∀ i ∈ r, ∀ c ∈ nxt P h kv i, c.toNat ∈ r
  from_ : ∀ i ∈ r, i = 0 ∨ ∃ m ∈ r, (i : Int) ∈ nxt P h kv m
  plan : ∀ i ∈ r, PlAt P h kv i
  none_ : ∀ i s, P[i]? = some s → s.l = [] → kv.lookup i = none
theorem nxt_sub {P : List Stn} {h : Str} {kv : Plan} {k : Nat} {s : Stn} {c : Int} (hs : P[k]? = some s) (hc : c ∈ nxt P h kv k) : c ∈ s.l := by
  unfold nxt at hc
  rw [hs] at hc
  simp only at hc
  split at hc
  · split at hc
    · split at hc
      · rename_i c' e
        rw [List.mem_singleton] at hc
        subst hc
        exact List.mem_of_getElem? e
      · cases hc
    · cases hc
  · exact hc
def comeL (P : List Stn) (r : List Nat) : List Nat := (List.range P.length).filter fun k => decide (k ∈ r)
/-- what is seen ahead of stand k -/
def seenB (P : List Stn) (h : Str) (kv : Plan) (r : List Nat) (k : Nat) (i : Nat) : Prop := i ∈ r ∧ (i = 0 ∨ ∃ m, m < k ∧ m ∈ r ∧ (i : Int) ∈ nxt P h kv m)
def bT (bs : List Bool) : List T := bs.map fun b => .d (.bool b)
theorem bT_len (bs : List Bool) : (bT bs).length = bs.length := List.length_map _
theorem bT_get {bs : List Bool} {k : Nat} {b : Bool} (h : bs[k]? = some b) : (bT bs)[k]? = some (.d (.bool b)) := md_get _ h
theorem bT_set (bs : List Bool) (k : Nat) (b : Bool) : (bT bs).set k (.d (.bool b)) = bT (bs.set k b) := by
  unfold bT
  rw [List.map_set]
theorem noTupl_bT (bs : List Bool) : T.noTupl (bT bs) = true := noTupl_md _ _
theorem false_rep (n : Nat) : List.map T.d (List.replicate n [PyData.bool false]).flatten = bT (List.replicate n false) := by
  rw [rep_flat]
  unfold bT
  simp
structure SB (n : Nat) (bs : List Bool) (p : Nat → Prop) : Prop where
  len : bs.length = n
  at_ : ∀ i, i < n → ∃ b, bs[i]? = some b ∧ (b = true ↔ p i)
abbrev F_come_to : List T → (T → List T → Prop) → Prop := fun ts Q => ∃ (P : List Stn) (h : Str) (kv : Plan) (r : List Nat), ts = [.d (PD P), .d (.str h), .d (PlD kv)] ∧ POk P ∧ P.length < 1000000 ∧ (h = "high" ∨ h = "low") ∧ ROk P h kv r ∧ Q (.nd .list (nT (comeL P r))) [.dead, .dead, .dead]
abbrev fsComeTo : FS := ⟨[.bor, .bor, .bor], F_come_to⟩
def Gm_come_to : Ctx := ⟨[("next_stands", fsNextStands)], [], ["len", "range"], [], []⟩
theorem w_come_to : bodyW Gm_come_to n_come_to [.bor, .bor, .bor] b_come_to F_come_to := by
  intro ts Q hh0 _
  obtain ⟨P, h, kv, r, rfl, ok, hlt, hh, ro, q⟩ := hh0
  have hsl : sizeLine > 10000000 := by decide
  have hPl : (P.map Stn.d).length = P.length := List.length_map _
  have hpos := ok.pos
  show wSs Gm_come_to b_come_to _ [.d (PD P), .d (.str h), .d (PlD kv), .dead, .dead, .dead, .dead]
  refine holdW ?_
  (conv => whnf); refine ⟨rfl, ?_⟩
  (conv => whnf); refine ⟨Nat.le_of_ble_eq_true rfl, ?_⟩
  (conv => whnf); refine ⟨rfl, ?_⟩
  (conv => whnf); refine ⟨by omega, by omega, by simp; omega, ?_⟩
  conv => whnf
  rw [hPl, Int.toNat_natCast, false_rep]
  refine ⟨by simp only [T.noTup, noTupl_bT, Kd.isTup, Bool.not_false, Bool.and_self], Nat.le_of_ble_eq_true rfl, ?_⟩
  walk_at "vu"
  show wSs Gm_come_to (b_come_to.drop 1) _ [.d (PD P), .d (.str h), .d (PlD kv), .nd .list (bT (List.replicate P.length false)), .dead, .dead, .dead]
  have h0 : ixN (bT (List.replicate P.length false)).length 0 = some 0 := ixN_nat (k := 0) (by rw [bT_len, List.length_replicate]; omega)
  walk_at "vs"
  row_has h0
  rw [bT_set]
  walk_at "vu"
  show wSs Gm_come_to (b_come_to.drop 2) _ [.d (PD P), .d (.str h), .d (PlD kv), .nd .list (bT ((List.replicate P.length false).set 0 true)), .dead, .dead, .dead]
  walk_at "vs"
  rw [hPl, Int.toNat_natCast]
  refine forW_r0 (fun k σ => ∃ bs x4 x5 x6, σ = [.d (PD P), .d (.str h), .d (PlD kv), .nd .list (bT bs), x4, x5, x6] ∧ SB P.length bs (seenB P h kv r k)) ?_ ?_ ⟨_, _, _, _, rfl, ?_⟩
  · rintro σ ⟨bs, x4, x5, x6, rfl, hS⟩
    walk_at "vu"
    walk_at "v"
    rw [hPl, Int.toNat_natCast, rngL0]
    have hbl := hS.len
    refine lcW_fd (is := [4]) (σ := [.d (PD P), .d (.str h), .d (PlD kv), .nd .list (bT bs), x4, x5, x6]) _ (fun k => decide (k ∈ r)) (fun k => .d (.int (k : Nat))) (List.range P.length) (fun k hk => ?_) (by rw [List.length_range]; omega) q
    have hk := List.mem_range.mp hk
    obtain ⟨b, hb, hbp⟩ := hS.at_ k hk
    have hg1 : ixN (bT bs).length (k : Nat) = some k := ixN_nat (by rw [bT_len]; omega)
    have hg2 := bT_get hb
    have hkr : b = decide (k ∈ r) := by
      have : b = true ↔ k ∈ r := by
        rw [hbp]
        refine ⟨fun z => z.1, fun z => ⟨z, ?_⟩⟩
        rcases ro.from_ k z with e | ⟨m, hm, hc⟩
        · exact .inl e
        · exact .inr ⟨m, ro.lt m hm, hm, hc⟩
      cases b <;> simp_all
    refine ⟨[.d (PD P), .d (.str h), .d (PlD kv), .nd .list (bT bs), .d (.int k), x5, x6], rfl, fun Q hQ => ?_, fun _ Q hQ => hQ, rfl⟩
    rw [← hkr] at hQ
    walk_at "v"
    row_has hg1
    row_has hg2
    exact hQ
  · rintro k σ N hk hN - - - ⟨bs, x4, x5, x6, rfl, hS⟩
    have hs : P[k]? = some P[k] := List.getElem?_eq_getElem hk
    generalize P[k] = st at hs
    have hup := ok.up k st hs
    have hbl := hS.len
    obtain ⟨b, hb, hbp⟩ := hS.at_ k hk
    have hg1 : ixN (bT bs).length (k : Nat) = some k := ixN_nat (by rw [bT_len]; omega)
    have hg2 := bT_get hb
    have hkr : b = true ↔ k ∈ r := by
      rw [hbp]
      unfold seenB
      refine ⟨fun z => z.1, fun z => ⟨z, ?_⟩⟩
      rcases ro.from_ k z with e | ⟨m, hm, hc⟩
      · exact .inl e
      · refine .inr ⟨m, ?_, hm, hc⟩
        have hml := ro.lt m hm
        have := ok.up m _ (List.getElem?_eq_getElem hml) _ (nxt_sub (List.getElem?_eq_getElem hml) hc)
        omega
    cases b with
    | false =>
      have hnr : k ∉ r := fun z => by have := hkr.mpr z; cases this
      walk_at "v"
      row_has hg1
      row_has hg2
      refine hN _ ⟨bs, _, _, _, rfl, hbl, fun i hi => ?_⟩
      obtain ⟨b', hb', hp'⟩ := hS.at_ i hi
      refine ⟨b', hb', hp'.trans ?_⟩
      unfold seenB
      refine and_congr_right fun hir => or_congr_right ⟨fun ⟨m, h1, h2, h3⟩ => ⟨m, by omega, h2, h3⟩, fun ⟨m, h1, h2, h3⟩ => ⟨m, ?_, h2, h3⟩⟩
      have : m ≠ k := fun z => hnr (z ▸ h2)
      omega
    | true =>
      have hr : k ∈ r := hkr.mp rfl
      walk_at "v"
      row_has hg1
      row_has hg2
      have hx : st.x = "high" ∨ st.x = "low" := ok.hand st (List.mem_of_getElem? hs)
      have hfew := ok.few st (List.mem_of_getElem? hs)
      refine ⟨P, h, kv, k, st, rfl, hs, hx, hh, by omega, ro.plan k hr, ro.none_ k st hs, fun z => (by cases z), ?_⟩
      walk_at "v"
      rw [show T.data (.nd .list (iT (nxt P h kv k))) = some (.list ((nxt P h kv k).map .int)) from data_md PyData.int _]
      walk_at "v"
      refine forW_k ((nxt P h kv k).map PyData.int) (fun m σ => ∃ bs x5 x6, σ = [.d (PD P), .d (.str h), .d (PlD kv), .nd .list (bT bs), .d (.int k), x5, x6] ∧ SB P.length bs (fun i => seenB P h kv r k i ∨ (i : Int) ∈ (nxt P h kv k).take m)) ?_ ?_ ⟨bs, _, _, rfl, hbl, fun i hi => ?_⟩
      · rintro σ ⟨bs, x5, x6, rfl, hS⟩
        rw [List.length_map, List.take_length] at hS
        refine hN _ ⟨bs, _, _, _, rfl, hS.len, fun i hi => ?_⟩
        obtain ⟨b', hb', hp'⟩ := hS.at_ i hi
        refine ⟨b', hb', hp'.trans ?_⟩
        unfold seenB
        constructor
        · rintro (⟨z1, z2⟩ | z)
          · exact ⟨z1, z2.imp id fun ⟨m, h1, h2, h3⟩ => ⟨m, by omega, h2, h3⟩⟩
          · exact ⟨by have := ro.shut k hr _ z; simpa using this, .inr ⟨k, by omega, hr, z⟩⟩
        · rintro ⟨z1, z2⟩
          rcases z2 with z2 | ⟨m, h1, h2, h3⟩
          · exact .inl ⟨z1, .inl z2⟩
          · by_cases e : m = k
            · subst e
              exact .inr h3
            · exact .inl ⟨z1, .inr ⟨m, by omega, h2, h3⟩⟩
      · rintro m x σ N2 hx hN2 - - - ⟨bs, x5, x6, rfl, hS⟩
        rw [List.getElem?_map] at hx
        obtain ⟨c, hc, rfl⟩ := Option.map_eq_some_iff.mp hx
        have hcu := hup c (nxt_sub hs (List.mem_of_getElem? hc))
        have hm : m < (nxt P h kv k).length := (List.getElem?_eq_some_iff.mp hc).1
        have hbl := hS.len
        have hg1 : ixN (bT bs).length c = some c.toNat := ixN_of (by omega) (by rw [bT_len]; omega)
        walk_at "v"
        row_has hg1
        rw [bT_set]
        refine hN2 _ ⟨_, _, _, rfl, by simpa using hbl, fun i hi => ?_⟩
        rw [List.take_succ_eq_append_getElem hm]
        rw [List.getElem?_eq_getElem hm] at hc
        cases hc
        by_cases e : i = ((nxt P h kv k)[m]).toNat
        · subst e
          exact ⟨true, List.getElem?_set_self (by omega), iff_of_true rfl (.inr (List.mem_append_right _ (List.mem_singleton.mpr (by omega))))⟩
        · obtain ⟨b', hb', hp'⟩ := hS.at_ i hi
          refine ⟨b', by rw [List.getElem?_set_ne (fun z => e z.symm)]; exact hb', hp'.trans (or_congr_right ?_)⟩
          rw [List.mem_append, List.mem_singleton]
          exact ⟨.inl, fun z => z.resolve_right fun y => e (by omega)⟩
      · obtain ⟨b', hb', hp'⟩ := hS.at_ i hi
        exact ⟨b', hb', hp'.trans (by simp)⟩
  · refine ⟨by simp, fun i hi => ?_⟩
    by_cases e : i = 0
    · subst e
      exact ⟨true, by rw [List.getElem?_set_self (by simpa using hi)], by simp [seenB, ro.zero]⟩
    · refine ⟨false, by rw [List.getElem?_set_ne (by omega), List.getElem?_replicate, if_pos hi], ?_⟩
      simp [seenB, e]
/-- the ends of a plan -/
def peL (P : List Stn) (r : List Nat) : List Nat := (comeL P r).filter fun k => decide ((P.getD k ⟨"", [], 0⟩).l = [])
abbrev F_plan_ends : List T → (T → List T → Prop) → Prop := fun ts Q => ∃ (P : List Stn) (h : Str) (kv : Plan) (r : List Nat), ts = [.d (PD P), .d (.str h), .d (PlD kv)] ∧ POk P ∧ P.length < 1000000 ∧ (h = "high" ∨ h = "low") ∧ ROk P h kv r ∧ Q (.nd .list (nT (peL P r))) [.dead, .dead, .dead]
abbrev fsPlanEnds : FS := ⟨[.bor, .bor, .bor], F_plan_ends⟩
def Gm_plan_ends : Ctx := ⟨[("come_to", fsComeTo)], [], [], [], []⟩
theorem comeL_lt {P : List Stn} {r : List Nat} {k : Nat} (h : k ∈ comeL P r) : k < P.length ∧ k ∈ r := by
  have := List.mem_filter.mp h
  exact ⟨List.mem_range.mp this.1, by simpa using this.2⟩
theorem comeL_len (P : List Stn) (r : List Nat) : (comeL P r).length ≤ P.length := by
  have := List.length_filter_le (fun k => decide (k ∈ r)) (List.range P.length)
  rw [List.length_range] at this
  exact this
theorem w_plan_ends : bodyW Gm_plan_ends n_plan_ends [.bor, .bor, .bor] b_plan_ends F_plan_ends := by
  intro ts Q hh0 _
  obtain ⟨P, h, kv, r, rfl, ok, hlt, hh, ro, q⟩ := hh0
  have hsl : sizeLine > 10000000 := by decide
  have hcl := comeL_len P r
  walk_at "v"
  refine ⟨P, h, kv, r, rfl, ok, hlt, hh, ro, fun z => (by cases z), ?_⟩
  conv => whnf
  rw [show T.data (.nd .list (nT (comeL P r))) = some (.list ((comeL P r).map fun j => .int (j : Nat))) from nT_data _]
  conv => whnf
  refine lcW_fd (is := [3]) (σ := [.d (PD P), .d (.str h), .d (PlD kv), .dead]) _ (fun k => decide ((P.getD k ⟨"", [], 0⟩).l = [])) (fun k => .d (.int (k : Nat))) (comeL P r) (fun k hk => ?_) (by omega) q
  have hk := (comeL_lt hk).1
  obtain ⟨st, h1, h2, h3, _, _⟩ := ends_test ok hk
  refine ⟨[.d (PD P), .d (.str h), .d (PlD kv), .d (.int k)], rfl, fun Q hQ => ?_, fun _ Q hQ => hQ, rfl⟩
  rw [h3] at hQ
  have hat := atI_PD h1
  by_cases hl0 : st.l = []
  · rw [Stn.d, if_pos hl0] at hat
    walk_at "v"
    row_has hat
    simpa [hl0] using hQ
  · rw [Stn.d, if_neg hl0] at hat
    walk_at "v"
    row_has hat
    simpa [hl0, h2] using hQ
def oth (h : Str) : Str := if h = "high" then "low" else "high"
abbrev F_other_hand : List T → (T → List T → Prop) → Prop := fun ts Q => ∃ h : Str, ts = [.d (.str h)] ∧ Q (.d (.str (oth h))) [.dead]
abbrev fsOther : FS := ⟨[.bor], F_other_hand⟩
def Gm_other_hand : Ctx := ⟨[], [], ["int"], [], []⟩
theorem w_other_hand : bodyW Gm_other_hand n_other_hand [.bor] b_other_hand F_other_hand := by
  intro ts Q hh0 _
  obtain ⟨h, rfl, q⟩ := hh0
  by_cases e : h = "high"
  · subst e
    walk_at "v"
    exact q
  · have e1 : decide (h = "high") = false := decide_eq_false e
    have e2 : oth h = "high" := if_neg e
    rw [e2] at q
    walk_at "v"
    row_has e1
    exact q
abbrev F_holds : List T → (T → List T → Prop) → Prop := fun ts Q => ∃ (P : List Stn) (h : Str) (kv : Plan) (r : List Nat), ts = [.d (PD P), .d (.str h), .d (PlD kv)] ∧ POk P ∧ P.length < 1000000 ∧ (h = "high" ∨ h = "low") ∧ ROk P h kv r ∧ peL P r ≠ [] ∧ Q (.d (.int (best (oth h) ((peL P r).map fun k => (P.getD k ⟨"", [], 0⟩).w)))) [.dead, .dead, .dead]
abbrev fsHolds : FS := ⟨[.bor, .bor, .bor], F_holds⟩
def Gm_holds : Ctx := ⟨[("best_of", fsBest), ("other_hand", fsOther), ("plan_ends", fsPlanEnds)], [], [], [], []⟩
theorem peL_mem {P : List Stn} {r : List Nat} {k : Nat} (h : k ∈ peL P r) : ∃ st, P[k]? = some st ∧ st.l = [] ∧ k ∈ r := by
  have h1 := List.mem_filter.mp h
  have h2 := comeL_lt h1.1
  have e := List.getElem?_eq_getElem h2.1
  refine ⟨_, e, ?_, h2.2⟩
  have := h1.2
  rw [List.getD_eq_getElem?_getD, e] at this
  simpa using this
theorem w_holds : bodyW Gm_holds n_holds [.bor, .bor, .bor] b_holds F_holds := by
  intro ts Q hh0 _
  obtain ⟨P, h, kv, r, rfl, ok, hlt, hh, ro, hne, q⟩ := hh0
  have hsl : sizeLine > 10000000 := by decide
  have hcl := comeL_len P r
  have hpl : (peL P r).length ≤ (comeL P r).length := List.length_filter_le _ _
  walk_at "v"
  refine ⟨h, rfl, fun z => (by cases z), ?_⟩
  walk_at "v"
  refine ⟨P, h, kv, r, rfl, ok, hlt, hh, ro, fun z => (by cases z), ?_⟩
  conv => whnf
  rw [show T.data (.nd .list (nT (peL P r))) = some (.list ((peL P r).map fun j => .int (j : Nat))) from nT_data _]
  conv => whnf
  refine lcW_md (is := [3]) (σ := [.d (PD P), .d (.str h), .d (PlD kv), .dead]) _ (fun k => .d (.int (P.getD k ⟨"", [], 0⟩).w)) (peL P r) (fun k hk => ?_) (by omega) ?_
  · obtain ⟨st, h1, h2, _⟩ := peL_mem hk
    have hat := atI_PD h1
    have e : P.getD k ⟨"", [], 0⟩ = st := by rw [List.getD_eq_getElem?_getD, h1]; rfl
    refine ⟨[.d (PD P), .d (.str h), .d (PlD kv), .d (.int k)], rfl, fun Q hQ => ?_, rfl⟩
    rw [e] at hQ
    rw [Stn.d, if_pos h2] at hat
    walk_at "v"
    row_has hat
    exact hQ
  conv => whnf
  rw [passes_leaf rfl (passes_val (x := .list ((peL P r).map fun k => .int (P.getD k ⟨"", [], 0⟩).w)) (data_md (fun k : Nat => PyData.int (P.getD k ⟨"", [], 0⟩).w) _) rfl)]
  walk_at "v"
  refine ⟨oth h, (peL P r).map fun k => (P.getD k ⟨"", [], 0⟩).w, by rw [List.map_map]; rfl, by simpa using hne, fun z => (by cases z), ?_⟩
  exact q
end VL
set_option Elab.async false
set_option linter.all false
set_option maxRecDepth 100000
set_option maxHeartbeats 4000000
namespace VL
open PySem PySem.Spec PyProof.Rows L2
def n_law_gone_by : List Str := ["_law_pool_here", "_law_play_here", "_law_hand_here", "_law_plan", "_law_row", "_law_at", "_law_stand", "_law_steps", "_law_step", "_law_k"]
def b_law_gone_by : List S := [.asg 3 .dct0, .asg 4 (.lst [.k (.int 0)]), .asg 5 (.k (.int 0)), .while_ (.cmp .lt (.var 5) (.blt .len [.var 4])) [.asg 6 (.ix (.var 1) (.ix (.var 4) (.var 5))), .asg 7 (.lst []), .ife (.cmp .ne (.ix (.var 6) (.k (.int 0))) (.k (.str "end"))) [.asg 7 (.ix (.var 6) (.k (.int 1)))] [], .ife (.cmp .eq (.ix (.var 6) (.k (.int 0))) (.var 2)) [.setdix (.var 3) (.ix (.var 4) (.var 5)) (.call "_law_take" [.var 0, .blt .len [.ix (.var 6) (.k (.int 1))]]), .asg 7 (.lst [.ix (.ix (.var 6) (.k (.int 1))) (.dix (.var 3) (.ix (.var 4) (.var 5)))])] [], .asg 4 (.bin .add (.var 4) (.lc [8] false (.var 8) .e [.var 7] [.cmp .notin (.var 8) (.var 4)])), .asg 5 (.bin .add (.var 5) (.k (.int 1)))], .retm [.var 3, .blt .sorted [.lc [9] false (.var 9) .e [.var 4] [.cmp .eq (.ix (.ix (.var 1) (.var 9)) (.k (.int 0))) (.k (.str "end"))]]]]

def n_plan_by : List Str := ["play", "hand", "worths", "plan", "seen", "number", "steps", "step"]
def b_plan_by : List S := [.asg 3 .dct0, .asg 4 (.bin .mul (.lst [.k (.bool false)]) (.blt .len [.var 0])), .setix (.var 4) (.k (.int 0)) (.k (.bool true)), .for_ [5] .rng1 [.blt .len [.var 0]] [.ife (.ix (.var 4) (.var 5)) [.asg 6 (.call "steps_of" [.var 0, .var 5]), .ife (.cmp .eq (.ix (.ix (.var 0) (.var 5)) (.k (.int 0))) (.var 1)) [.setdix (.var 3) (.var 5) (.call "first_best" [.var 0, .var 2, .var 5]), .asg 6 (.lst [.ix (.var 6) (.dix (.var 3) (.var 5))])] [], .for_ [7] .e [.var 6] [.setix (.var 4) (.var 7) (.k (.bool true))]] []], .ret (.var 3)]

def n_plan_of : List Str := ["play", "hand"]
def b_plan_of : List S := [.ret (.call "plan_by" [.var 0, .var 1, .call "worths_of" [.var 0]])]

def n_is_plan : List Str := ["play", "hand", "thing", "stands", "number"]
def b_is_plan : List S := [.ife (.or (.not (.isi (.var 2) "dict")) (.not (.blt .all [.lcd 4 (.call "is_whole" [.var 4]) (.var 2) []]))) [.ret (.k (.bool false))] [], .asg 3 (.call "come_to" [.var 0, .var 1, .var 2]), .ife (.cmp .is (.var 3) (.k .none)) [.ret (.k (.bool false))] [], .ret (.cmp .eq (.dsrt (.var 2)) (.lc [4] false (.var 4) .e [.var 3] [.cmp .eq (.ix (.ix (.var 0) (.var 4)) (.k (.int 0))) (.var 1)]))]


def n_lets_plan : List Str := ["play", "hand", "number", "thing"]
def b_lets_plan : List S := [.ret (.and (.call "is_plan" [.var 0, .var 1, .var 3]) (.call "is_no_worse" [.var 1, .call "holds" [.var 0, .var 1, .var 3], .var 2]))]

end VL
set_option Elab.async false
set_option linter.all false
set_option maxRecDepth 100000
set_option maxHeartbeats 4000000
/-! VR1: plans drawn. -/
namespace VL
open PySem PySem.Spec PyProof.Rows L2
local macro_rules | `(tactic| walk_at "vc") => `(tactic| first | with_reducible rfl | assumption | exact Nat.zero_le _ | exact noTup_md _ _ | exact Nat.le_of_ble_eq_true rfl | omega | rfl | trivial | focus (simp only [mkTup, T.leaves, T.noTup, T.noTupl, Kd.isTup, noTupl_md, noTupl_iT, noTupl_kids, PT, KT, Pool, kidT, Bool.not_false, Bool.and_self] <;> fail) | focus (refine ⟨?_, ?_⟩ <;> omega) | exact (fun _ => rfl))
local macro_rules | `(tactic| walk_at "vn") => `(tactic| (intro z; first | (with_unfolding_all exact Bool.noConfusion (show false = true from z)) | (with_unfolding_all exact Bool.noConfusion (show true = false from z)) | (focus (refine absurd z ?_; first | decide | (simp only [Bool.not_eq_true', Bool.not_eq_false', decide_eq_true_eq, decide_eq_false_iff_not, List.length_map, iT_len]; omega) | (simp <;> fail)))))
local macro_rules | `(tactic| walk_at "v1") => `(tactic| ((conv => whnf); (with_reducible refine And.intro ?_ ?_); first | (walk_at "vn"; try (with_reducible intro _)) | (rotate_left; walk_at "vn"; (with_reducible intro _)) | (with_unfolding_all walk_at "vc")))
local macro_rules | `(tactic| walk_at "v") => `(tactic| ((repeat walk_at "v1"); conv => whnf))
local macro_rules | `(tactic| row_has $h) => `(tactic| (rw [$h:ident]; walk_at "v"))
local macro_rules | `(tactic| walk_at "vs") => `(tactic| (refine holdW ?_; walk_at "v"))
local macro_rules | `(tactic| walk_at "vu") => `(tactic| refine unholdW ?_)
def PlKs (kv : Plan) : List Key := kv.map fun p => .inl ((p.1 : Nat) : Int)
def PlT (kv : Plan) : List T := kv.map fun p => .d (.int (p.2 : Nat))
def PlN (kv : Plan) : T := .nd (.dict (PlKs kv)) (PlT kv)
theorem PlT_leaves (kv : Plan) : T.leaves (PlT kv) = some (kv.map fun p => .int (p.2 : Nat)) := leaves_md (fun p : Nat × Nat => PyData.int p.2) kv
theorem zipD_pl : ∀ kv : Plan, zipD (PlKs kv) (kv.map fun p => .int (p.2 : Nat)) = kv.map fun p => (PyData.int (p.1 : Nat), PyData.int (p.2 : Nat))
  | [] => rfl
  | p :: kv => by
    have ih := zipD_pl kv
    unfold PlKs at ih ⊢
    rw [List.map_cons, List.map_cons, List.map_cons, ← ih]
    rfl
theorem PlN_data (kv : Plan) : (PlN kv).data = some (PlD kv) := by
  unfold PlN PlD
  rw [T.data]
  rw [show T.datal (PlT kv) = some (kv.map fun p => .int (p.2 : Nat)) from datal_md (fun p : Nat × Nat => PyData.int p.2) kv, ← zipD_pl]
  rfl
theorem noTup_pl (kv : Plan) : (PlN kv).noTup = true := by
  unfold PlN
  rw [T.noTup, show T.noTupl (PlT kv) = true from noTupl_md (fun p : Nat × Nat => PyData.int p.2) kv]
  rfl
theorem zip_pl : ∀ kv : Plan, (PlKs kv).zip (kv.map fun p => PyData.int (p.2 : Nat)) = PlK kv
  | [] => rfl
  | p :: kv => by
    have ih := zip_pl kv
    unfold PlKs PlK at ih ⊢
    rw [List.map_cons, List.map_cons, List.map_cons, List.zip_cons_cons, ih]
theorem dv_plN {kv : Plan} {i : Nat} {σ : St} (h : σ[i]? = some (PlN kv)) : (R.p i []).dv σ = some (PlK kv) := by
  unfold R.dv R.get
  simp only [h, PlN, T.at]
  rw [PlT_leaves]
  simp only
  rw [zip_pl]
theorem dput_pl {kv : Plan} {k j : Nat} (h : kv.lookup k = none) : dput (PlKs kv) (PlT kv) (.inl (k : Int)) (.d (.int (j : Nat))) = (PlKs (kv ++ [(k, j)]), PlT (kv ++ [(k, j)])) := by
  unfold dput
  rw [if_neg]
  · unfold PlKs PlT
    rw [List.map_append, List.map_append]
    rfl
  · intro z
    obtain ⟨x, hx, hk⟩ := List.any_eq_true.mp z
    obtain ⟨p, hp, rfl⟩ := List.mem_map.mp hx
    have hk : p.1 = k := by
      have := Sum.inl.inj (of_decide_eq_true hk)
      omega
    have := List.lookup_eq_none_iff.mp h p hp
    simp [hk] at this
theorem lookup_snoc {kv : Plan} {k j i : Nat} (h : kv.lookup k = none) : (kv ++ [(k, j)]).lookup i = if i = k then some j else kv.lookup i := by
  rw [List.lookup_append]
  by_cases e : i = k
  · subst e
    rw [if_pos rfl, h]
    simp [List.lookup]
  · rw [if_neg e]
    have : (i == k) = false := by simpa using e
    simp [List.lookup, this]
theorem nxt_snoc {P : List Stn} {h : Str} {kv : Plan} {k j i : Nat} (hk : kv.lookup k = none) (hi : i ≠ k) : nxt P h (kv ++ [(k, j)]) i = nxt P h kv i := by
  unfold nxt
  rw [lookup_snoc hk, if_neg hi]
/-- the walk of the law, so far -/
structure GI (P : List Stn) (h : Str) (kv : Plan) (r : List Nat) (m : Nat) : Prop where
  nd : r.Nodup
  lt : ∀ i ∈ r, i < P.length
  zero : 0 ∈ r
  le : m ≤ r.length
  key : ∀ k, (kv.lookup k).isSome = true → k ∈ r.take m ∧ ∃ s, P[k]? = some s ∧ s.l ≠ []
  knd : (kv.map (·.1)).Nodup
  plan : ∀ i ∈ r.take m, PlAt P h kv i
  shut : ∀ i ∈ r.take m, ∀ c ∈ nxt P h kv i, c.toNat ∈ r
  from_ : ∀ i ∈ r, i = 0 ∨ ∃ n ∈ r.take m, (i : Int) ∈ nxt P h kv n
theorem GI.ends {P : List Stn} {h : Str} {kv : Plan} {r : List Nat} (g : GI P h kv r r.length) : ROk P h kv r := by
  have e : r.take r.length = r := List.take_length
  refine ⟨g.zero, g.lt, fun i hi => g.shut i (by rw [e]; exact hi), fun i hi => ?_, fun i hi => g.plan i (by rw [e]; exact hi), fun i s hs hl => ?_⟩
  · have := g.from_ i hi
    rw [e] at this
    exact this
  · cases hk : kv.lookup i with
    | none => rfl
    | some j =>
      obtain ⟨_, s', hs', hl'⟩ := g.key i (by rw [hk]; rfl)
      rw [hs] at hs'
      cases hs'
      exact absurd hl hl'
/-- the new ones of some steps -/
def newL (r : List Nat) (l : List Int) : List Int := l.filter fun c => decide (c.toNat ∉ r)
theorem GI.step {P : List Stn} {h : Str} {kv kv' : Plan} {r : List Nat} {m k : Nat} {s : Stn} (ok : PX P) (g : GI P h kv r m) (hm : m < r.length) (hk : r[m]? = some k) (hs : P[k]? = some s)
    (hkv : (kv' = kv ∧ (s.l = [] ∨ s.x ≠ h)) ∨ ∃ j c, kv' = kv ++ [(k, j)] ∧ s.l[j]? = some c ∧ s.x = h) : GI P h kv' (r ++ (newL r (nxt P h kv' k)).map Int.toNat) (m + 1) := by
  have hkr : k ∈ r := List.mem_of_getElem? hk
  have htk : ∀ L : List Nat, (r ++ L).take (m + 1) = r.take m ++ [k] := fun L => by
    rw [List.take_append_of_le_length (by omega), List.take_succ, hk]
    rfl
  have hknt : k ∉ r.take m := fun z => by
    obtain ⟨n, hn, e⟩ := List.mem_take_iff_getElem.mp z
    have h1 : r[n]? = some k := by rw [List.getElem?_eq_getElem (by omega), e]
    have := (List.getElem?_inj (by omega) g.nd).mp (h1.trans hk.symm)
    omega
  have hkn : kv.lookup k = none := by
    cases e : kv.lookup k with
    | none => rfl
    | some j => exact absurd (g.key k (by rw [e]; rfl)).1 hknt
  have hsame : ∀ i ∈ r.take m, nxt P h kv' i = nxt P h kv i ∧ kv'.lookup i = kv.lookup i := fun i hi => by
    rcases hkv with ⟨rfl, _⟩ | ⟨j, c, rfl, _⟩
    · exact ⟨rfl, rfl⟩
    · have : i ≠ k := fun z => hknt (z ▸ hi)
      exact ⟨nxt_snoc hkn this, by rw [lookup_snoc hkn, if_neg this]⟩
  have hup := ok.up k s hs
  have hsub : ∀ c ∈ nxt P h kv' k, (k : Int) < c ∧ c < (P.length : Nat) := fun c hc => hup c (nxt_sub hs hc)
  have hnn : (nxt P h kv' k).Nodup := by
    have hn := ok.nd s (List.mem_of_getElem? hs)
    unfold nxt
    rw [hs]
    simp only
    split
    · split
      · split
        · simp
        · simp
      · simp
    · exact hn
  have hmem : ∀ i, i ∈ (newL r (nxt P h kv' k)).map Int.toNat ↔ i ∉ r ∧ (i : Int) ∈ nxt P h kv' k := fun i => by
    unfold newL
    rw [List.mem_map]
    constructor
    · rintro ⟨c, hc, rfl⟩
      obtain ⟨h1, h2⟩ := List.mem_filter.mp hc
      have := hsub c h1
      refine ⟨by simpa using h2, ?_⟩
      rw [show ((c.toNat : Nat) : Int) = c by omega]
      exact h1
    · rintro ⟨h1, h2⟩
      exact ⟨(i : Int), List.mem_filter.mpr ⟨h2, by simpa using h1⟩, by simp⟩
  refine ⟨?_, ?_, ?_, ?_, ?_, ?_, ?_, ?_, ?_⟩
  · rw [List.nodup_append]
    refine ⟨g.nd, ?_, ?_⟩
    · refine List.pairwise_map.mpr (List.Pairwise.imp_of_mem ?_ (List.Pairwise.filter _ hnn))
      intro a b ha hb hab z
      have h1 := hsub a (List.mem_filter.mp ha).1
      have h2 := hsub b (List.mem_filter.mp hb).1
      omega
    · intro a ha b hb e
      subst e
      exact ((hmem a).mp hb).1 ha
  · intro i hi
    rcases List.mem_append.mp hi with z | z
    · exact g.lt i z
    · have := hsub _ ((hmem i).mp z).2
      omega
  · exact List.mem_append_left _ g.zero
  · rw [List.length_append]; omega
  · intro i hi
    rw [htk]
    rcases hkv with ⟨rfl, _⟩ | ⟨j, c, rfl, hc, _⟩
    · obtain ⟨h1, h2⟩ := g.key i hi
      exact ⟨List.mem_append_left _ h1, h2⟩
    · rw [lookup_snoc hkn] at hi
      by_cases e : i = k
      · subst e
        refine ⟨List.mem_append_right _ (List.mem_singleton.mpr rfl), s, hs, fun z => ?_⟩
        rw [z] at hc
        simp at hc
      · rw [if_neg e] at hi
        obtain ⟨h1, h2⟩ := g.key i hi
        exact ⟨List.mem_append_left _ h1, h2⟩
  · rcases hkv with ⟨rfl, _⟩ | ⟨j, c, rfl, hc, _⟩
    · exact g.knd
    · rw [List.map_append, List.nodup_append]
      refine ⟨g.knd, by simp, ?_⟩
      intro a ha b hb e
      subst e
      simp only [List.map_cons, List.map_nil, List.mem_singleton] at hb
      subst hb
      obtain ⟨p, hp, e⟩ := List.mem_map.mp ha
      have := List.lookup_eq_none_iff.mp hkn p hp
      simp [e] at this
  · intro i hi
    rw [htk] at hi
    rcases List.mem_append.mp hi with z | z
    · intro s' hs' hl' hx'
      rw [(hsame i z).2]
      exact g.plan i z s' hs' hl' hx'
    · rw [List.mem_singleton] at z
      subst z
      intro s' hs' hl' hx'
      rw [hs] at hs'
      cases hs'
      rcases hkv with ⟨rfl, z | z⟩ | ⟨j, c, rfl, hc, _⟩
      · exact absurd z hl'
      · exact absurd hx' z
      · exact ⟨j, c, by rw [lookup_snoc hkn, if_pos rfl], hc⟩
  · intro i hi c hc
    rw [htk] at hi
    rcases List.mem_append.mp hi with z | z
    · rw [(hsame i z).1] at hc
      exact List.mem_append_left _ (g.shut i z c hc)
    · rw [List.mem_singleton] at z
      subst z
      by_cases e : c.toNat ∈ r
      · exact List.mem_append_left _ e
      · have := hsub c hc
        exact List.mem_append_right _ ((hmem _).mpr ⟨e, by rw [show ((c.toNat : Nat) : Int) = c by omega]; exact hc⟩)
  · intro i hi
    rw [htk]
    rcases List.mem_append.mp hi with z | z
    · rcases g.from_ i z with e | ⟨n, hn, hc⟩
      · exact .inl e
      · exact .inr ⟨n, List.mem_append_left _ hn, by rw [(hsame n hn).1]; exact hc⟩
    · exact .inr ⟨k, List.mem_append_right _ (List.mem_singleton.mpr rfl), ((hmem i).mp z).2⟩
theorem GI.fresh {P : List Stn} {h : Str} {kv : Plan} {r : List Nat} {m k : Nat} (g : GI P h kv r m) (hm : m < r.length) (hk : r[m]? = some k) : kv.lookup k = none := by
  have hknt : k ∉ r.take m := fun z => by
    obtain ⟨n, hn, e⟩ := List.mem_take_iff_getElem.mp z
    have h1 : r[n]? = some k := by rw [List.getElem?_eq_getElem (by omega), e]
    have := (List.getElem?_inj (by omega) g.nd).mp (h1.trans hk.symm)
    omega
  cases e : kv.lookup k with
  | none => rfl
  | some j => exact absurd (g.key k (by rw [e]; rfl)).1 hknt
theorem GI.start {P : List Stn} (h : Str) (ok : POk P) : GI P h [] [0] 0 := by
  refine ⟨by simp, fun i hi => ?_, by simp, by simp, fun k hk => by simp at hk, by simp, fun i hi => by simp at hi, fun i hi => by simp at hi, fun i hi => .inl (by simpa using hi)⟩
  rw [List.mem_singleton.mp hi]
  exact ok.pos
/-- the ends, rising -/
theorem sorted_eq : ∀ {l l' : List Int}, l.Pairwise (· < ·) → l'.Pairwise (· < ·) → (∀ x, x ∈ l ↔ x ∈ l') → l = l'
  | [], [], _, _, _ => rfl
  | [], y :: l', _, _, h => by have := (h y).mpr (by simp); simp at this
  | x :: l, [], _, _, h => by have := (h x).mp (by simp); simp at this
  | x :: l, y :: l', h1, h2, h => by
    rw [List.pairwise_cons] at h1 h2
    have e : x = y := by
      rcases List.mem_cons.mp ((h x).mp (by simp)) with z | z
      · exact z
      · rcases List.mem_cons.mp ((h y).mpr (by simp)) with w | w
        · exact w.symm
        · have a := h1.1 y w
          have b := h2.1 x z
          omega
    subst e
    congr 1
    refine sorted_eq h1.2 h2.2 fun z => ⟨fun hz => ?_, fun hz => ?_⟩
    · have := h1.1 z hz
      exact (List.mem_cons.mp ((h z).mp (List.mem_cons_of_mem _ hz))).resolve_left (by omega)
    · have := h2.1 z hz
      exact (List.mem_cons.mp ((h z).mpr (List.mem_cons_of_mem _ hz))).resolve_left (by omega)
def isEnd (P : List Stn) (k : Nat) : Bool := decide ((P.getD k ⟨"", [], 0⟩).l = [])
theorem sort_ends {P : List Stn} {r : List Nat} (nd : r.Nodup) (lt : ∀ i ∈ r, i < P.length) : sortI ((r.filter (isEnd P)).map fun j : Nat => (j : Int)) = (peL P r).map fun j : Nat => (j : Int) := by
  refine sorted_eq ?_ ?_ fun x => ?_
  · have h1 := sortI_le ((r.filter (isEnd P)).map fun j : Nat => (j : Int))
    have h2 : (sortI ((r.filter (isEnd P)).map fun j : Nat => (j : Int))).Nodup := by
      refine (sortI_perm _).nodup_iff.mpr ?_
      refine List.pairwise_map.mpr ((List.Pairwise.filter _ nd).imp fun hab z => hab (by omega))
    exact (h1.and h2).imp fun ⟨a, b⟩ => by omega
  · refine List.pairwise_map.mpr (List.Pairwise.filter _ (List.Pairwise.filter _ ?_))
    exact List.pairwise_lt_range.imp fun h => by omega
  · rw [(sortI_perm _).mem_iff, List.mem_map, List.mem_map]
    refine exists_congr fun j => and_congr_left fun _ => ?_
    unfold peL comeL isEnd
    rw [List.mem_filter, List.mem_filter, List.mem_filter, List.mem_range]
    constructor
    · rintro ⟨h1, h2⟩
      exact ⟨⟨lt j h1, by simpa using h1⟩, h2⟩
    · rintro ⟨⟨_, h1⟩, h2⟩
      exact ⟨by simpa using h1, h2⟩
abbrev F_law_gone_by : List T → (T → List T → Prop) → Prop := fun ts Q => ∃ (a s : Int) (P : List Stn) (h : Str), ts = [Pool a s, .d (PD P), .d (.str h)] ∧ PoolOk a s ∧ PX P ∧ P.length < 1000000 ∧ (h = "high" ∨ h = "low") ∧
  ∀ a' s' kv r, PoolOk a' s' → ROk P h kv r → (kv.map (·.1)).Nodup → Q (.nd .tup [PlN kv, .nd .list (nT (peL P r))]) [Pool a' s', .dead, .dead]
abbrev fsGoneBy : FS := ⟨[.own, .bor, .bor], F_law_gone_by⟩
def Gm_law_gone_by : Ctx := ⟨[("_law_take", fsTake)], [], ["len", "sorted"], [0], []⟩
def gbTail : List S := [.asg 4 (.bin .add (.var 4) (.lc [8] false (.var 8) .e [.var 7] [.cmp .notin (.var 8) (.var 4)])), .asg 5 (.bin .add (.var 5) (.k (.int 1)))]
theorem any_new {r : List Nat} {c : Int} (h : 0 ≤ c) : (!((r.map fun j => PyData.int (j : Nat)).any fun z => PyData.eqv z (.int c))) = decide (c.toNat ∉ r) := by
  obtain ⟨n, rfl⟩ := Int.eq_ofNat_of_zero_le h
  rw [Int.toNat_natCast]
  by_cases z : n ∈ r
  · rw [any_nat_true z]
    simp [z]
  · rw [any_nat_false z]
    simp [z]
theorem gb_tail {P : List Stn} {h : Str} {kv : Plan} {r : List Nat} {m : Nat} {a s : Int} {x6 x7 x8 x9 : T} {l : List Int} {N : AE} (hl : ∀ c ∈ l, 0 ≤ c) (hll : l.length < 2000000) (hr : r.length < 1000000) (h7 : x7 = .nd .list (iT l) ∨ x7 = .d (.tuple (l.map .int)))
    (q : ∀ y, N.nx [Pool a s, .d (PD P), .d (.str h), PlN kv, .nd .list (nT (r ++ (newL r l).map Int.toNat)), .d (.int ((m + 1 : Nat) : Int)), x6, y, x8, x9]) :
    wSs Gm_law_gone_by gbTail N [Pool a s, .d (PD P), .d (.str h), PlN kv, .nd .list (nT r), .d (.int (m : Nat)), x6, x7, x8, x9] := by
  have hsl : sizeLine > 10000000 := by decide
  have e1 : (newL r l).map (fun c => T.d (.int c)) = nT ((newL r l).map Int.toNat) := by
    unfold nT
    rw [List.map_map]
    refine List.map_congr_left fun c hc => ?_
    have := hl c (List.mem_filter.mp hc).1
    simp only [Function.comp]
    rw [show ((c.toNat : Nat) : Int) = c by omega]
  have hnl : (newL r l).length ≤ l.length := List.length_filter_le _ _
  have eap : nT r ++ nT ((newL r l).map Int.toNat) = nT (r ++ (newL r l).map Int.toNat) := by unfold nT; rw [List.map_append]
  have hsz : (nT r).length + (nT ((newL r l).map Int.toNat)).length ≤ sizeLine := by rw [nT_len, nT_len, List.length_map]; omega
  have key : ∀ y K, (∀ L, L = (newL r l).map (fun c => T.d (.int c)) → K L [Pool a s, .d (PD P), .d (.str h), PlN kv, .nd .list (nT r), .d (.int (m : Nat)), x6, y, x8, x9]) → lcW [8] [Pool a s, .d (PD P), .d (.str h), PlN kv, .nd .list (nT r), .d (.int (m : Nat)), x6, y, x8, x9] (fun σ3 Q => wC Gm_law_gone_by (false || false) [.cmp .notin (.var 8) (.var 4)] σ3 Q) (fun σ3 Q => wE Gm_law_gone_by (false || false) (.var 8) σ3 fun r σ4 => toV (false || false) r σ4 Q) (l.map .int) [] [Pool a s, .d (PD P), .d (.str h), PlN kv, .nd .list (nT r), .d (.int (m : Nat)), x6, y, x8, x9] K := by
    intro y K hK
    refine lcW_fd (is := [8]) (σ := [Pool a s, .d (PD P), .d (.str h), PlN kv, .nd .list (nT r), .d (.int (m : Nat)), x6, y, x8, x9]) _ (fun c => decide (c.toNat ∉ r)) (fun c => .d (.int c)) l (fun c hc => ?_) (by omega) (hK _ rfl)
    refine ⟨[Pool a s, .d (PD P), .d (.str h), PlN kv, .nd .list (nT r), .d (.int (m : Nat)), x6, y, .d (.int c), x9], rfl, fun Q hQ => ?_, fun _ Q hQ => hQ, rfl⟩
    rw [← any_new (hl c hc)] at hQ
    have ha := all_flat_nat r
    walk_at "v"
    rw [data_p (i := 4) (q := []) (t := .nd .list (nT r)) rfl (nT_data r)]
    walk_at "v"
    exact hQ
  rcases h7 with rfl | rfl
  · walk_at "v"
    rw [show T.data (.nd .list (iT l)) = some (.list (l.map .int)) from data_md PyData.int _]
    walk_at "v"
    refine key _ _ fun L hL => ?_
    rw [e1] at hL
    subst hL
    conv => whnf
    rw [kids_p (i := 4) (q := []) (ts := nT r) rfl (nT_leaves r)]
    (conv => whnf); refine ⟨rfl, ?_⟩
    (conv => whnf); refine ⟨hsz, ?_⟩
    rw [eap]
    (conv => whnf); refine ⟨noTup_md (fun j : Nat => PyData.int j) _, Nat.le_of_ble_eq_true rfl, ?_⟩
    walk_at "v"
    exact q _
  · walk_at "v"
    refine key _ _ fun L hL => ?_
    rw [e1] at hL
    subst hL
    conv => whnf
    rw [kids_p (i := 4) (q := []) (ts := nT r) rfl (nT_leaves r)]
    (conv => whnf); refine ⟨rfl, ?_⟩
    (conv => whnf); refine ⟨hsz, ?_⟩
    rw [eap]
    (conv => whnf); refine ⟨noTup_md (fun j : Nat => PyData.int j) _, Nat.le_of_ble_eq_true rfl, ?_⟩
    walk_at "v"
    exact q _
theorem w_law_gone_by : bodyW Gm_law_gone_by n_law_gone_by [.own, .bor, .bor] b_law_gone_by F_law_gone_by := by
  intro ts Q hh0 _
  obtain ⟨a, s, P, h, rfl, po, ok, hlt, hh, q⟩ := hh0
  have hsl : sizeLine > 10000000 := by decide
  have hhe : h ≠ "end" := by rcases hh with z | z <;> rw [z] <;> decide
  show wSs Gm_law_gone_by b_law_gone_by _ [Pool a s, .d (PD P), .d (.str h), .dead, .dead, .dead, .dead, .dead, .dead, .dead]
  walk_at "vs"
  walk_at "vu"
  walk_at "vs"
  walk_at "vu"
  walk_at "vs"
  walk_at "vu"
  show wSs Gm_law_gone_by (b_law_gone_by.drop 3) _ [Pool a s, .d (PD P), .d (.str h), PlN [], .nd .list (nT [0]), .d (.int 0), .dead, .dead, .dead, .dead]
  refine ⟨fun n σ => ∃ a s kv r m x6 x7 x8 x9, n = P.length - m ∧ PoolOk a s ∧ GI P h kv r m ∧ σ = [Pool a s, .d (PD P), .d (.str h), PlN kv, .nd .list (nT r), .d (.int (m : Nat)), x6, x7, x8, x9], ⟨_, a, s, [], [0], 0, _, _, _, _, rfl, po, GI.start h ok.toPOk, rfl⟩, ?_⟩
  rintro n σ ⟨a, s, kv, r, m, x6, x7, x8, x9, rfl, po, g, rfl⟩
  have hrl : r.length ≤ P.length := nodup_le _ _ g.nd g.lt
  have hnl := nT_len r
  by_cases hm : m < r.length
  · have hk : r[m]? = some r[m] := List.getElem?_eq_getElem hm
    generalize r[m] = k at hk
    have hkP := g.lt k (List.mem_of_getElem? hk)
    have hs : P[k]? = some P[k] := List.getElem?_eq_getElem hkP
    generalize P[k] = st at hs
    have hi1 : ixN (nT r).length (m : Nat) = some m := ixN_nat (by omega)
    have hi2 : (nT r)[m]? = some (.d (.int (k : Nat))) := md_get (fun j : Nat => PyData.int j) hk
    have hx : st.x = "high" ∨ st.x = "low" := ok.hand st (List.mem_of_getElem? hs)
    have hxe : st.x ≠ "end" := by rcases hx with z | z <;> rw [z] <;> decide
    have hfew := ok.few st (List.mem_of_getElem? hs)
    have hup := ok.up k st hs
    have hat0 := atI_PD hs
    have fin : ∀ a s kv' x6 x7 x8 x9 (l : List Int) (N : AE), PoolOk a s → l = nxt P h kv' k → ((kv' = kv ∧ (st.l = [] ∨ st.x ≠ h)) ∨ ∃ j c, kv' = kv ++ [(k, j)] ∧ st.l[j]? = some c ∧ st.x = h) → (x7 = .nd .list (iT l) ∨ x7 = .d (.tuple (l.map .int))) → (∀ σ, (∃ m', m' < P.length - m ∧ ∃ a s kv r m x6 x7 x8 x9, m' = P.length - m ∧ PoolOk a s ∧ GI P h kv r m ∧ σ = [Pool a s, .d (PD P), .d (.str h), PlN kv, .nd .list (nT r), .d (.int (m : Nat)), x6, x7, x8, x9]) → N.nx σ) → wSs Gm_law_gone_by gbTail N [Pool a s, .d (PD P), .d (.str h), PlN kv', .nd .list (nT r), .d (.int (m : Nat)), x6, x7, x8, x9] := by
      intro a s kv' x6 x7 x8 x9 l N po hl hkv h7 hN
      have hls : ∀ c ∈ l, c ∈ st.l := fun c hc => by rw [hl] at hc; exact nxt_sub hs hc
      have hll : l.length < 2000000 := by
        rw [hl]
        unfold nxt
        rw [hs]
        simp only
        split
        · split
          · split <;> simp
          · simp
        · omega
      refine gb_tail (fun c hc => by have := hup c (hls c hc); omega) hll (by omega) h7 fun y => hN _ ⟨P.length - (m + 1), by omega, a, s, kv', _, m + 1, x6, y, x8, x9, rfl, po, ?_, rfl⟩
      rw [hl]
      exact g.step ok hm hk hs hkv
    by_cases hl0 : st.l = []
    · have hat : atI (P.map Stn.d) (k : Nat) = some (.tuple [.str "end", .int st.w]) := by rw [atI_PD hs, Stn.d, if_pos hl0]
      have hkn : kv.lookup k = none := by
        cases e : kv.lookup k with
        | none => rfl
        | some j =>
          obtain ⟨_, s', hs', hl'⟩ := g.key k (by rw [e]; rfl)
          rw [hs] at hs'
          cases hs'
          exact absurd hl0 hl'
      walk_at "v"
      row_has hi1
      row_has hi2
      row_has hat
      refine ⟨fun z => absurd z (by simp; exact fun y => hhe y.symm), fun _ => ?_⟩
      refine fin a s kv _ _ _ _ [] _ po ?_ (.inl ⟨rfl, .inl hl0⟩) (.inl rfl) fun σ h => h
      unfold nxt
      rw [hs]
      simp only [hl0, hkn]
      split <;> rfl
    · have hat : atI (P.map Stn.d) (k : Nat) = some (.tuple [.str st.x, .tuple (st.l.map .int), .int st.w]) := by rw [atI_PD hs, Stn.d, if_neg hl0]
      walk_at "v"
      row_has hi1
      row_has hi2
      row_has hat
      by_cases hxh : st.x = h
      · refine ⟨fun _ => ?_, fun z => absurd z (by simp [hxh])⟩
        have hkn := g.fresh hm hk
        have hlp : 0 < st.l.length := List.length_pos_iff.mpr hl0
        have hll : (st.l.map PyData.int).length = st.l.length := List.length_map _
        have h64 : ((st.l.length : Nat) : Int) < 2 ^ 64 := by omega
        have hkl : (PlKs kv).length < sizeLine := by
          have : (kv.map (·.1)).length ≤ P.length := nodup_le _ _ g.knd fun i hi => by
            obtain ⟨p, hp, e⟩ := List.mem_map.mp hi
            have : (kv.lookup i).isSome = true := by
              cases z : kv.lookup i with
              | some _ => rfl
              | none =>
                have := List.lookup_eq_none_iff.mp z p hp
                simp [e] at this
            obtain ⟨_, s', hs', _⟩ := g.key i this
            exact (List.getElem?_eq_some_iff.mp hs').1
          unfold PlKs
          rw [List.length_map] at this ⊢
          omega
        walk_at "vs"
        refine ⟨a, s, ((st.l.map PyData.int).length : Nat), rfl, po, by omega, by omega, fun rr a' s' hr0 hr1 po' => ⟨fun z => (by cases z), ?_⟩⟩
        obtain ⟨j, rfl⟩ := Int.eq_ofNat_of_zero_le hr0
        have hj : j < st.l.length := by omega
        have hc : st.l[j]? = some st.l[j] := List.getElem?_eq_getElem hj
        generalize st.l[j] = c at hc
        have ha : atI (st.l.map PyData.int) (j : Nat) = some (.int c) := atI_md _ hc
        have hdf : dfind (PlK (kv ++ [(k, j)])) (.inl (k : Int)) = some (.int (j : Nat)) := by rw [dfind_pl, lookup_snoc hkn, if_pos rfl]; rfl
        have hdp := dput_pl (j := j) hkn
        walk_at "v"
        row_has hi1
        row_has hi2
        walk_at "vu"
        suffices hz : wSs Gm_law_gone_by [.asg 7 (.lst [.ix (.ix (.var 6) (.k (.int 1))) (.dix (.var 3) (.ix (.var 4) (.var 5)))])] _ [Pool a' s', .d (PD P), .d (.str h), .nd (.dict (PlKs (kv ++ [(k, j)]))) (PlT (kv ++ [(k, j)])), .nd .list (nT r), .d (.int (m : Nat)), .d (.tuple [.str st.x, .tuple (st.l.map .int), .int st.w]), .d (.tuple (st.l.map .int)), x8, x9] by
          rw [show PlKs (kv ++ [(k, j)]) = (dput (PlKs kv) (PlT kv) (.inl (k : Int)) (.d (.int (j : Nat)))).1 by rw [hdp], show PlT (kv ++ [(k, j)]) = (dput (PlKs kv) (PlT kv) (.inl (k : Int)) (.d (.int (j : Nat)))).2 by rw [hdp]] at hz
          exact hz
        walk_at "v"
        row_has hi1
        row_has hi2
        rw [show R.dv (.p 3 []) _ = some (PlK (kv ++ [(k, j)])) from dv_plN rfl]
        conv => whnf
        row_has hdf
        rw [ha]
        (conv => whnf); refine ⟨Nat.le_of_ble_eq_true rfl, ?_⟩
        (conv => whnf); refine ⟨rfl, Nat.le_of_ble_eq_true rfl, ?_⟩
        refine fin a' s' (kv ++ [(k, j)]) _ _ _ _ [c] _ po' ?_ (.inr ⟨j, c, rfl, hc, hxh⟩) (.inl rfl) ?_
        · unfold nxt
          rw [hs]
          simp only [hxh, if_true, lookup_snoc hkn, hc]
        · exact fun σ h => h
      · refine ⟨fun z => absurd z (by simp [hxh]), fun _ => ?_⟩
        refine fin a s kv _ _ _ _ st.l _ po ?_ (.inl ⟨rfl, .inr hxh⟩) (.inr rfl) fun σ h => h
        unfold nxt
        rw [hs]
        simp only [hxh, if_false]
  · have hme : m = r.length := by have := g.le; omega
    subst hme
    have ro := g.ends
    walk_at "v"
    rw [nT_data r]
    walk_at "v"
    refine lcW_fd (is := [9]) (σ := [Pool a s, .d (PD P), .d (.str h), PlN kv, .d (.list (r.map fun j => .int (j : Nat))), .d (.int (r.length : Nat)), x6, x7, x8, x9]) _ (isEnd P) (fun k => .d (.int (k : Nat))) r (fun k hk => ?_) (by omega) ?_
    · have hk := g.lt k hk
      obtain ⟨st, h1, h2, h3, _, _⟩ := ends_test ok.toPOk hk
      refine ⟨[Pool a s, .d (PD P), .d (.str h), PlN kv, .d (.list (r.map fun j => .int (j : Nat))), .d (.int (r.length : Nat)), x6, x7, x8, .d (.int k)], rfl, fun Q hQ => ?_, fun _ Q hQ => hQ, rfl⟩
      unfold isEnd at hQ
      rw [h3] at hQ
      have hat := atI_PD h1
      by_cases hl0 : st.l = []
      · rw [Stn.d, if_pos hl0] at hat
        walk_at "v"
        row_has hat
        simpa [hl0] using hQ
      · rw [Stn.d, if_neg hl0] at hat
        walk_at "v"
        row_has hat
        simpa [hl0, h2] using hQ
    conv => whnf
    rw [datas_md (fun k : Nat => PyData.int k)]
    conv => whnf
    rw [ints_md (fun k : Nat => (k : Int))]
    walk_at "v"
    have hq := q a s kv r po ro g.knd
    have en : nT (peL P r) = (sortI ((r.filter (isEnd P)).map fun k : Nat => (k : Int))).map fun i => T.d (.int i) := by
      rw [sort_ends g.nd g.lt, List.map_map]
      rfl
    rw [en] at hq
    exact hq
end VL
set_option Elab.async false
set_option linter.all false
set_option maxRecDepth 100000
set_option maxHeartbeats 4000000
/-! VR2: plans told: plan_by, plan_of. -/
namespace VL
open PySem PySem.Spec PyProof.Rows L2
/-- a plan: its keys are just the own stands that are come to -/
structure PlOk (P : List Stn) (h : Str) (kv : Plan) (r : List Nat) : Prop extends ROk P h kv r where
  kinc : (kv.map (·.1)).Pairwise (· < ·)
  keys : ∀ k, k ∈ kv.map (·.1) ↔ k ∈ r ∧ ∃ s, P[k]? = some s ∧ s.l ≠ [] ∧ s.x = h
/-- it goes first best steps -/
def PBy (P : List Stn) (h : Str) (ws : List (Option Int)) (kv : Plan) (r : List Nat) : Prop := ∀ k ∈ r, ∀ s, P[k]? = some s → s.l ≠ [] → s.x = h → ∃ v j, ws[k]? = some v ∧ fbI ws s.l v = some j ∧ kv.lookup k = some j
/-- stands at which there is a first best step, and so behind them -/
structure Gd (P : List Stn) (h : Str) (ws : List (Option Int)) (G : Nat → Prop) : Prop where
  zero : G 0
  own : ∀ k s, P[k]? = some s → s.l ≠ [] → s.x = h → G k → ∃ v j c, ws[k]? = some v ∧ fbI ws s.l v = some j ∧ s.l[j]? = some c ∧ G c.toNat
  oth : ∀ k s, P[k]? = some s → s.x ≠ h → G k → ∀ c ∈ s.l, G c.toNat
def markL (bs : List Bool) (l : List Int) : List Bool := l.foldl (fun b c => b.set c.toNat true) bs
theorem markL_len (l : List Int) : ∀ bs : List Bool, (markL bs l).length = bs.length := by
  induction l with
  | nil => intro bs; rfl
  | cons c l ih => intro bs; show (markL (bs.set c.toNat true) l).length = _; rw [ih, List.length_set]
theorem markL_snoc (bs : List Bool) (l : List Int) (c : Int) : markL bs (l ++ [c]) = (markL bs l).set c.toNat true := by
  unfold markL
  rw [List.foldl_append]
  rfl
theorem markL_get {l : List Int} : ∀ {bs : List Bool} {i : Nat}, (∀ c ∈ l, 0 ≤ c ∧ c < (bs.length : Nat)) → ((markL bs l)[i]? = some true ↔ bs[i]? = some true ∨ (i : Int) ∈ l) := by
  induction l with
  | nil => intro bs i _; simp [markL]
  | cons c l ih =>
    intro bs i h
    have hc := h c (by simp)
    show (markL (bs.set c.toNat true) l)[i]? = some true ↔ _
    rw [ih (fun d hd => by rw [List.length_set]; exact h d (List.mem_cons_of_mem _ hd)), List.mem_cons]
    by_cases e : i = c.toNat
    · subst e
      rw [List.getElem?_set_self (by omega)]
      exact iff_of_true (.inl rfl) (.inr (.inl (by omega)))
    · rw [List.getElem?_set_ne (fun z => e z.symm)]
      have : ¬ ((i : Int) = c) := fun z => e (by omega)
      constructor
      · rintro (z | z)
        · exact .inl z
        · exact .inr (.inr z)
      · rintro (z | z | z)
        · exact .inl z
        · exact absurd z this
        · exact .inr z
/-- plan_by ahead of stand k -/
structure PBI (P : List Stn) (h : Str) (ws : List (Option Int)) (G : Nat → Prop) (k : Nat) (kv : Plan) (bs : List Bool) : Prop where
  len : bs.length = P.length
  zero : bs[0]? = some true
  from_ : ∀ i : Nat, bs[i]? = some true → i = 0 ∨ ∃ m, m < k ∧ bs[m]? = some true ∧ (i : Int) ∈ nxt P h kv m
  shut : ∀ m, m < k → bs[m]? = some true → ∀ c ∈ nxt P h kv m, bs[c.toNat]? = some true
  kinc : (kv.map (·.1)).Pairwise (· < ·)
  keys : ∀ i, i ∈ kv.map (·.1) ↔ i < k ∧ bs[i]? = some true ∧ ∃ s, P[i]? = some s ∧ s.l ≠ [] ∧ s.x = h
  by_ : ∀ i, i < k → bs[i]? = some true → ∀ s, P[i]? = some s → s.l ≠ [] → s.x = h → ∃ v j, ws[i]? = some v ∧ fbI ws s.l v = some j ∧ kv.lookup i = some j ∧ ∃ c, s.l[j]? = some c
  good : ∀ i, bs[i]? = some true → G i
theorem lookup_some_mem {kv : Plan} {i j : Nat} (h : kv.lookup i = some j) : i ∈ kv.map (·.1) := by
  induction kv with
  | nil => cases h
  | cons p kv ih =>
    obtain ⟨a, b⟩ := p
    rw [List.lookup_cons] at h
    cases e : i == a with
    | true => simp at e; subst e; simp
    | false => rw [e] at h; exact List.mem_cons_of_mem _ (ih h)
theorem lookup_none_of {kv : Plan} {i : Nat} (h : i ∉ kv.map (·.1)) : kv.lookup i = none := by
  cases e : kv.lookup i with
  | none => rfl
  | some j => exact absurd (lookup_some_mem e) h
/-- the steps that are gone from stand k, where kv has its place there -/
theorem nxt_own {P : List Stn} {h : Str} {kv : Plan} {k j : Nat} {s : Stn} {c : Int} (hs : P[k]? = some s) (hx : s.x = h) (hj : kv.lookup k = some j) (hc : s.l[j]? = some c) : nxt P h kv k = [c] := by
  unfold nxt
  rw [hs]
  simp only [hx, if_true, hj, hc]
theorem nxt_oth {P : List Stn} {h : Str} {kv : Plan} {k : Nat} {s : Stn} (hs : P[k]? = some s) (hx : s.x ≠ h) : nxt P h kv k = s.l := by
  unfold nxt
  rw [hs]
  simp only [hx, if_false]
theorem nxt_none {P : List Stn} {h : Str} {kv : Plan} {k : Nat} {s : Stn} (hs : P[k]? = some s) (hl : s.l = []) : nxt P h kv k = [] := by
  have : ∀ c ∈ nxt P h kv k, False := fun c hc => by
    have := nxt_sub hs hc
    rw [hl] at this
    cases this
  exact List.eq_nil_iff_forall_not_mem.mpr this
theorem PBI.skip {P : List Stn} {h : Str} {ws : List (Option Int)} {G : Nat → Prop} {k : Nat} {kv : Plan} {bs : List Bool} (I : PBI P h ws G k kv bs) (hb : bs[k]? = some false) : PBI P h ws G (k + 1) kv bs := by
  have ne : ∀ m, m < k + 1 → bs[m]? = some true → m < k := fun m hm ht => by
    have : m ≠ k := fun z => by subst z; rw [hb] at ht; cases ht
    omega
  refine ⟨I.len, I.zero, fun i hi => ?_, fun m hm ht => I.shut m (ne m hm ht) ht, I.kinc, fun i => ?_, fun i hi ht => I.by_ i (ne i hi ht) ht, I.good⟩
  · exact (I.from_ i hi).imp id fun ⟨m, h1, h2, h3⟩ => ⟨m, by omega, h2, h3⟩
  · rw [I.keys i]
    exact ⟨fun ⟨h1, h2⟩ => ⟨by omega, h2⟩, fun ⟨h1, h2⟩ => ⟨ne i h1 h2.1, h2⟩⟩
theorem PBI.step {P : List Stn} {h : Str} {ws : List (Option Int)} {G : Nat → Prop} {k : Nat} {kv kv' : Plan} {bs : List Bool} {s : Stn} (ok : POk P) (gd : Gd P h ws G) (I : PBI P h ws G k kv bs) (hb : bs[k]? = some true) (hs : P[k]? = some s)
    (hkv : (kv' = kv ∧ (s.l = [] ∨ s.x ≠ h)) ∨ ∃ v j c, kv' = kv ++ [(k, j)] ∧ ws[k]? = some v ∧ fbI ws s.l v = some j ∧ s.l[j]? = some c ∧ s.x = h ∧ G c.toNat) : PBI P h ws G (k + 1) kv' (markL bs (nxt P h kv' k)) := by
  have hup := ok.up k s hs
  have hkn : kv.lookup k = none := lookup_none_of fun z => by have := ((I.keys k).mp z).1; omega
  have hsub : ∀ c ∈ nxt P h kv' k, (k : Int) < c ∧ c < (P.length : Nat) := fun c hc => hup c (nxt_sub hs hc)
  have hget : ∀ i : Nat, (markL bs (nxt P h kv' k))[i]? = some true ↔ bs[i]? = some true ∨ (i : Int) ∈ nxt P h kv' k := fun i => markL_get fun c hc => by have := hsub c hc; rw [I.len]; omega
  have hlow : ∀ i : Nat, i ≤ k → ((markL bs (nxt P h kv' k))[i]? = some true ↔ bs[i]? = some true) := fun i hi => by
    rw [hget]
    refine ⟨fun z => z.resolve_right fun y => ?_, .inl⟩
    have := hsub _ y
    omega
  have hsame : ∀ m, m < k → nxt P h kv' m = nxt P h kv m ∧ kv'.lookup m = kv.lookup m := fun m hm => by
    rcases hkv with ⟨rfl, _⟩ | ⟨v, j, c, rfl, _⟩
    · exact ⟨rfl, rfl⟩
    · exact ⟨nxt_snoc hkn (by omega), by rw [lookup_snoc hkn, if_neg (by omega)]⟩
  refine ⟨by rw [markL_len]; exact I.len, (hlow 0 (Nat.zero_le _)).mpr I.zero, fun i hi => ?_, fun m hm ht c hc => ?_, ?_, fun i => ?_, fun i hi ht s' hs' hl' hx' => ?_, fun i hi => ?_⟩
  · rcases (hget i).mp hi with z | z
    · rcases I.from_ i z with e | ⟨m, h1, h2, h3⟩
      · exact .inl e
      · exact .inr ⟨m, by omega, (hlow m (by omega)).mpr h2, by rw [(hsame m h1).1]; exact h3⟩
    · exact .inr ⟨k, by omega, (hlow k (Nat.le_refl _)).mpr hb, z⟩
  · rw [hget]
    by_cases e : m = k
    · subst e
      have := hsub c hc
      exact .inr (by rw [show ((c.toNat : Nat) : Int) = c by omega]; exact hc)
    · rw [(hsame m (by omega)).1] at hc
      exact .inl (I.shut m (by omega) ((hlow m (by omega)).mp ht) c hc)
  · rcases hkv with ⟨rfl, _⟩ | ⟨v, j, c, rfl, _⟩
    · exact I.kinc
    · rw [List.map_append, List.pairwise_append]
      refine ⟨I.kinc, by simp, fun a ha b hb' => ?_⟩
      simp only [List.map_cons, List.map_nil, List.mem_singleton] at hb'
      subst hb'
      exact ((I.keys a).mp ha).1
  · have key : i ∈ kv'.map (·.1) ↔ i ∈ kv.map (·.1) ∨ (i = k ∧ s.l ≠ [] ∧ s.x = h) := by
      rcases hkv with ⟨rfl, z⟩ | ⟨v, j, c, rfl, _, _, hc, hx, _⟩
      · exact ⟨.inl, fun y => y.resolve_right fun ⟨_, y2, y3⟩ => z.elim y2 fun w => w y3⟩
      · rw [List.map_append, List.mem_append]
        refine or_congr_right ?_
        simp only [List.map_cons, List.map_nil, List.mem_singleton]
        exact ⟨fun e => ⟨e, fun z => by rw [z] at hc; simp at hc, hx⟩, fun e => e.1⟩
    rw [key, I.keys i]
    constructor
    · rintro (⟨h1, h2, h3⟩ | ⟨rfl, h2, h3⟩)
      · exact ⟨by omega, (hlow i (by omega)).mpr h2, h3⟩
      · exact ⟨by omega, (hlow i (Nat.le_refl _)).mpr hb, s, hs, h2, h3⟩
    · rintro ⟨h1, h2, s', h3, h4, h5⟩
      by_cases e : i = k
      · subst e
        rw [hs] at h3
        cases h3
        exact .inr ⟨rfl, h4, h5⟩
      · exact .inl ⟨by omega, (hlow i (by omega)).mp h2, s', h3, h4, h5⟩
  · by_cases e : i = k
    · subst e
      rw [hs] at hs'
      cases hs'
      rcases hkv with ⟨rfl, z⟩ | ⟨v, j, c, rfl, h1, h2, h3, _⟩
      · exact (z.elim hl' fun w => w hx').elim
      · exact ⟨v, j, h1, h2, by rw [lookup_snoc hkn, if_pos rfl], c, h3⟩
    · obtain ⟨v, j, h1, h2, h3, h4⟩ := I.by_ i (by omega) ((hlow i (by omega)).mp ht) s' hs' hl' hx'
      exact ⟨v, j, h1, h2, by rw [(hsame i (by omega)).2]; exact h3, h4⟩
  · rcases (hget i).mp hi with z | z
    · exact I.good i z
    · have hG := I.good k hb
      rcases hkv with ⟨rfl, y⟩ | ⟨v, j, c, rfl, _, _, hc, hx, hg⟩
      · rcases y with y | y
        · rw [nxt_none hs y] at z
          cases z
        · have := gd.oth k s hs y hG _ (nxt_sub hs z)
          simpa using this
      · rw [nxt_own hs hx (by rw [lookup_snoc hkn, if_pos rfl]) hc, List.mem_singleton] at z
        rw [← z] at hg
        simpa using hg
def seenL (n : Nat) (bs : List Bool) : List Nat := (List.range n).filter fun i => bs.getD i false
theorem seenL_mem {n : Nat} {bs : List Bool} {i : Nat} (hl : bs.length = n) : i ∈ seenL n bs ↔ bs[i]? = some true := by
  unfold seenL
  rw [List.mem_filter, List.mem_range, List.getD_eq_getElem?_getD]
  constructor
  · rintro ⟨h1, h2⟩
    rw [List.getElem?_eq_getElem (by omega)] at h2 ⊢
    simpa using h2
  · intro h
    exact ⟨by rw [← hl]; exact (List.getElem?_eq_some_iff.mp h).1, by rw [h]; rfl⟩
theorem PBI.ends {P : List Stn} {h : Str} {ws : List (Option Int)} {G : Nat → Prop} {kv : Plan} {bs : List Bool} (I : PBI P h ws G P.length kv bs) : PlOk P h kv (seenL P.length bs) ∧ PBy P h ws kv (seenL P.length bs) ∧ ∀ i ∈ seenL P.length bs, G i := by
  have mem : ∀ i, i ∈ seenL P.length bs ↔ bs[i]? = some true := fun i => seenL_mem I.len
  have lt : ∀ i, bs[i]? = some true → i < P.length := fun i hi => by rw [← I.len]; exact (List.getElem?_eq_some_iff.mp hi).1
  refine ⟨⟨⟨(mem 0).mpr I.zero, fun i hi => lt i ((mem i).mp hi), fun i hi c hc => (mem _).mpr (I.shut i (lt i ((mem i).mp hi)) ((mem i).mp hi) c hc), fun i hi => ?_, fun i hi s hs hl hx => ?_, fun i s hs hl => lookup_none_of fun z => ?_⟩, I.kinc, fun i => ?_⟩, fun i hi s hs hl hx => ?_, fun i hi => I.good i ((mem i).mp hi)⟩
  · exact (I.from_ i ((mem i).mp hi)).imp id fun ⟨m, h1, h2, h3⟩ => ⟨m, (mem m).mpr h2, h3⟩
  · obtain ⟨v, j, h1, h2, h3, c, h4⟩ := I.by_ i (lt i ((mem i).mp hi)) ((mem i).mp hi) s hs hl hx
    exact ⟨j, c, h3, h4⟩
  · obtain ⟨_, _, s', h1, h2, _⟩ := (I.keys i).mp z
    rw [hs] at h1
    cases h1
    exact h2 hl
  · rw [I.keys i, mem i]
    exact ⟨fun z => z.2, fun z => ⟨lt i z.1, z⟩⟩
  · obtain ⟨v, j, h1, h2, h3, c, h4⟩ := I.by_ i (lt i ((mem i).mp hi)) ((mem i).mp hi) s hs hl hx
    exact ⟨v, j, h1, h2, h3⟩
theorem PBI.start {P : List Stn} {h : Str} {ws : List (Option Int)} {G : Nat → Prop} (ok : POk P) (gd : Gd P h ws G) : PBI P h ws G 0 [] ((List.replicate P.length false).set 0 true) := by
  have only : ∀ i, ((List.replicate P.length false).set 0 true)[i]? = some true → i = 0 := fun i hi => by
    by_cases e : i = 0
    · exact e
    · rw [List.getElem?_set_ne (fun z => e z.symm), List.getElem?_replicate] at hi
      split at hi <;> simp at hi
  have hpos := ok.pos
  refine ⟨by simp, List.getElem?_set_self (by simpa using hpos), fun i hi => .inl (only i hi), fun m hm => absurd hm (by omega), by simp, fun i => ⟨fun z => by simp at z, fun z => absurd z.1 (by omega)⟩, fun i hi => absurd hi (by omega), fun i hi => ?_⟩
  rw [only i hi]
  exact gd.zero
end VL
set_option Elab.async false
set_option linter.all false
set_option maxRecDepth 100000
set_option maxHeartbeats 4000000
/-! VR3: plan_by, plan_of walked. -/
namespace VL
open PySem PySem.Spec PyProof.Rows L2
local macro_rules | `(tactic| walk_at "vc") => `(tactic| first | with_reducible rfl | assumption | exact Nat.zero_le _ | exact noTup_md _ _ | exact Nat.le_of_ble_eq_true rfl | omega | rfl | trivial | focus (simp only [mkTup, T.leaves, T.noTup, T.noTupl, Kd.isTup, noTupl_md, noTupl_iT, noTupl_kids, PT, KT, Pool, kidT, Bool.not_false, Bool.and_self] <;> fail) | focus (refine ⟨?_, ?_⟩ <;> omega) | exact (fun _ => rfl))
local macro_rules | `(tactic| walk_at "vn") => `(tactic| (intro z; first | (with_unfolding_all exact Bool.noConfusion (show false = true from z)) | (with_unfolding_all exact Bool.noConfusion (show true = false from z)) | (focus (refine absurd z ?_; first | decide | (simp only [Bool.not_eq_true', Bool.not_eq_false', decide_eq_true_eq, decide_eq_false_iff_not, List.length_map, iT_len]; omega) | (simp <;> fail)))))
local macro_rules | `(tactic| walk_at "v1") => `(tactic| ((conv => whnf); (with_reducible refine And.intro ?_ ?_); first | (walk_at "vn"; try (with_reducible intro _)) | (rotate_left; walk_at "vn"; (with_reducible intro _)) | (with_unfolding_all walk_at "vc")))
local macro_rules | `(tactic| walk_at "v") => `(tactic| ((repeat walk_at "v1"); conv => whnf))
local macro_rules | `(tactic| row_has $h) => `(tactic| (rw [$h:ident]; walk_at "v"))
local macro_rules | `(tactic| walk_at "vs") => `(tactic| (refine holdW ?_; walk_at "v"))
local macro_rules | `(tactic| walk_at "vu") => `(tactic| refine unholdW ?_)
theorem inc_from {n : Nat} : ∀ {l : List Nat} {a : Nat}, l.Pairwise (· < ·) → (∀ x ∈ l, a ≤ x ∧ x < n) → l.length ≤ n - a
  | [], _, _, _ => by simp
  | x :: l, a, hp, h => by
    rw [List.pairwise_cons] at hp
    have hx := h x (by simp)
    have := inc_from (n := n) (a := x + 1) hp.2 fun y hy => ⟨hp.1 y hy, (h y (List.mem_cons_of_mem _ hy)).2⟩
    rw [List.length_cons]
    omega
theorem inc_len {n : Nat} {l : List Nat} (hp : l.Pairwise (· < ·)) (h : ∀ x ∈ l, x < n) : l.length ≤ n := inc_from hp (a := 0) fun x hx => ⟨Nat.zero_le _, h x hx⟩
abbrev F_plan_by : List T → (T → List T → Prop) → Prop := fun ts Q => ∃ (P : List Stn) (h : Str) (ws : List (Option Int)) (G : Nat → Prop), ts = [.d (PD P), .d (.str h), .d (.list (ws.map oD))] ∧ POk P ∧ P.length < 1000000 ∧ (h = "high" ∨ h = "low") ∧ ws.length = P.length ∧ Gd P h ws G ∧
  ∀ kv r, PlOk P h kv r → PBy P h ws kv r → (∀ i ∈ r, G i) → Q (PlN kv) [.dead, .dead, .dead]
abbrev fsPlanBy : FS := ⟨[.bor, .bor, .bor], F_plan_by⟩
def Gm_plan_by : Ctx := ⟨[("steps_of", fsSteps), ("first_best", fsFirst)], [], ["len", "range"], [], []⟩
theorem w_plan_by : bodyW Gm_plan_by n_plan_by [.bor, .bor, .bor] b_plan_by F_plan_by := by
  intro ts Q hh0 _
  obtain ⟨P, h, ws, G, rfl, ok, hlt, hh, hwl, gd, q⟩ := hh0
  have hsl : sizeLine > 10000000 := by decide
  have hPl : (P.map Stn.d).length = P.length := List.length_map _
  have hpos := ok.pos
  show wSs Gm_plan_by b_plan_by _ [.d (PD P), .d (.str h), .d (.list (ws.map oD)), .dead, .dead, .dead, .dead, .dead]
  walk_at "vs"
  walk_at "vu"
  show wSs Gm_plan_by (b_plan_by.drop 1) _ [.d (PD P), .d (.str h), .d (.list (ws.map oD)), PlN [], .dead, .dead, .dead, .dead]
  refine holdW ?_
  (conv => whnf); refine ⟨rfl, ?_⟩
  (conv => whnf); refine ⟨Nat.le_of_ble_eq_true rfl, ?_⟩
  (conv => whnf); refine ⟨rfl, ?_⟩
  (conv => whnf); refine ⟨by omega, by omega, by simp; omega, ?_⟩
  conv => whnf
  rw [hPl, Int.toNat_natCast, false_rep]
  refine ⟨by simp only [T.noTup, noTupl_bT, Kd.isTup, Bool.not_false, Bool.and_self], Nat.le_of_ble_eq_true rfl, ?_⟩
  walk_at "vu"
  show wSs Gm_plan_by (b_plan_by.drop 2) _ [.d (PD P), .d (.str h), .d (.list (ws.map oD)), PlN [], .nd .list (bT (List.replicate P.length false)), .dead, .dead, .dead]
  have h0 : ixN (bT (List.replicate P.length false)).length 0 = some 0 := ixN_nat (k := 0) (by rw [bT_len, List.length_replicate]; omega)
  walk_at "vs"
  row_has h0
  rw [bT_set]
  walk_at "vu"
  show wSs Gm_plan_by (b_plan_by.drop 3) _ [.d (PD P), .d (.str h), .d (.list (ws.map oD)), PlN [], .nd .list (bT ((List.replicate P.length false).set 0 true)), .dead, .dead, .dead]
  walk_at "vs"
  rw [hPl, Int.toNat_natCast]
  refine forW_r0 (fun k σ => ∃ kv bs x5 x6 x7, σ = [.d (PD P), .d (.str h), .d (.list (ws.map oD)), PlN kv, .nd .list (bT bs), x5, x6, x7] ∧ PBI P h ws G k kv bs) ?_ ?_ ⟨_, _, _, _, _, rfl, PBI.start ok gd⟩
  · rintro σ ⟨kv, bs, x5, x6, x7, rfl, hI⟩
    walk_at "vu"
    obtain ⟨h1, h2, h3⟩ := hI.ends
    walk_at "v"
    exact q kv _ h1 h2 h3
  · rintro k σ N hk hN - - - ⟨kv, bs, x5, x6, x7, rfl, hI⟩
    have hs : P[k]? = some P[k] := List.getElem?_eq_getElem hk
    generalize P[k] = st at hs
    have hbl := hI.len
    have hb : bs[k]? = some bs[k] := List.getElem?_eq_getElem (by omega)
    generalize bs[k] = b at hb
    have hg1 : ixN (bT bs).length (k : Nat) = some k := ixN_nat (by rw [bT_len]; omega)
    have hg2 := bT_get hb
    cases b with
    | false =>
      walk_at "v"
      row_has hg1
      row_has hg2
      exact hN _ ⟨kv, bs, _, _, _, rfl, hI.skip hb⟩
    | true =>
      have hx : st.x = "high" ∨ st.x = "low" := ok.hand st (List.mem_of_getElem? hs)
      have hup := ok.up k st hs
      have hG := hI.good k hb
      have hkl : kv.length < 1000000 := by
        have := inc_len hI.kinc fun i hi => (by
          obtain ⟨h1, _⟩ := (hI.keys i).mp hi
          omega : i < P.length)
        rw [List.length_map] at this
        omega
      -- the marking, and on
      have mark : ∀ (kv' : Plan) (x6 x7 : T) (xs : List PyData), PBI P h ws G (k + 1) kv' (markL bs (nxt P h kv' k)) → xs = (nxt P h kv' k).map PyData.int → forW [7] (fun D' σ' => wSs Gm_plan_by [.setix (.var 4) (.var 7) (.k (.bool true))] D' σ') N xs [.d (PD P), .d (.str h), .d (.list (ws.map oD)), PlN kv', .nd .list (bT bs), .d (.int k), x6, x7] := by
        rintro kv' x6 x7 xs hI' rfl
        refine forW_k _ (fun m σ => ∃ x6 x7, σ = [.d (PD P), .d (.str h), .d (.list (ws.map oD)), PlN kv', .nd .list (bT (markL bs ((nxt P h kv' k).take m))), .d (.int k), x6, x7]) ?_ ?_ ⟨x6, x7, rfl⟩
        · rintro σ ⟨x6, x7, rfl⟩
          rw [List.length_map, List.take_length]
          exact hN _ ⟨kv', _, _, _, _, rfl, hI'⟩
        · rintro m x σ N2 hx hN2 - - - ⟨x6, x7, rfl⟩
          rw [List.getElem?_map] at hx
          obtain ⟨c, hc, rfl⟩ := Option.map_eq_some_iff.mp hx
          have hcu := hup c (nxt_sub hs (List.mem_of_getElem? hc))
          have hm : m < (nxt P h kv' k).length := (List.getElem?_eq_some_iff.mp hc).1
          have hg1 : ixN (bT (markL bs ((nxt P h kv' k).take m))).length c = some c.toNat := ixN_of (by omega) (by rw [bT_len, markL_len]; omega)
          walk_at "v"
          row_has hg1
          rw [bT_set]
          refine hN2 _ ⟨x6, .d (.int c), ?_⟩
          rw [List.take_succ_eq_append_getElem hm, markL_snoc]
          rw [List.getElem?_eq_getElem hm] at hc
          cases hc
          rfl
      walk_at "v"
      row_has hg1
      row_has hg2
      refine ⟨P, k, st, rfl, hs, hx, fun z => (by cases z), ?_⟩
      walk_at "v"
      have hxe : st.x ≠ "end" := by rcases hx with z | z <;> rw [z] <;> decide
      have hhe : h ≠ "end" := by rcases hh with z | z <;> rw [z] <;> decide
      by_cases hl0 : st.l = []
      · have hat : atI (P.map Stn.d) (k : Nat) = some (.tuple [.str "end", .int st.w]) := by rw [atI_PD hs, Stn.d, if_pos hl0]
        row_has hat
        refine ⟨fun z => absurd z (by simp; exact fun y => hhe y.symm), fun _ => ?_⟩
        rw [hl0]
        walk_at "v"
        exact mark kv _ _ _ (hI.step ok gd hb hs (.inl ⟨rfl, .inl hl0⟩)) (by rw [nxt_none hs hl0])
      · have hat : atI (P.map Stn.d) (k : Nat) = some (.tuple [.str st.x, .tuple (st.l.map .int), .int st.w]) := by rw [atI_PD hs, Stn.d, if_neg hl0]
        row_has hat
        by_cases hxh : st.x = h
        · refine ⟨fun _ => ?_, fun z => absurd z (by simp [hxh])⟩
          obtain ⟨v, j, c, hv, hj, hc, hgc⟩ := gd.own k st hs hl0 hxh hG
          have hkn : kv.lookup k = none := lookup_none_of fun z => by have := ((hI.keys k).mp z).1; omega
          have hI' := hI.step (kv' := kv ++ [(k, j)]) ok gd hb hs (.inr ⟨v, j, c, rfl, hv, hj, hc, hxh, hgc⟩)
          have hlk : (kv ++ [(k, j)]).lookup k = some j := by rw [lookup_snoc hkn, if_pos rfl]
          have hjl : j < st.l.length := (List.getElem?_eq_some_iff.mp hc).1
          have hkl2 : (PlKs kv).length < sizeLine := by unfold PlKs; rw [List.length_map]; omega
          walk_at "v"
          refine ⟨P, ws, k, st, v, j, rfl, ok, hlt, hwl, hs, hv, hj, fun z => (by cases z), ?_⟩
          (conv => whnf); refine ⟨hkl2, ?_⟩
          conv => whnf
          rw [dput_pl hkn]
          show wSs Gm_plan_by [.asg 6 _, .for_ [7] .e [.var 6] _] _ [.d (PD P), .d (.str h), .d (.list (ws.map oD)), PlN (kv ++ [(k, j)]), .nd .list (bT bs), .d (.int k), .d (.tuple (st.l.map .int)), x7]
          have hdv : (R.p 3 []).dv [.d (PD P), .d (.str h), .d (.list (ws.map oD)), PlN (kv ++ [(k, j)]), .nd .list (bT bs), .d (.int k), .d (.tuple (st.l.map .int)), x7] = some (PlK (kv ++ [(k, j)])) := dv_plN rfl
          have hdf : dfind (PlK (kv ++ [(k, j)])) (.inl (k : Int)) = some (.int (j : Nat)) := by rw [dfind_pl, hlk]; rfl
          have hatj : atI (st.l.map PyData.int) (j : Nat) = some (.int c) := atI_md _ hc
          refine holdW ?_
          walk_at "v"
          row_has hdv
          row_has hdf
          row_has hatj
          walk_at "vu"
          refine ⟨rfl, rfl, ?_⟩
          exact mark (kv ++ [(k, j)]) (.d (.list [.int c])) x7 [.int c] hI' (by rw [nxt_own hs hxh hlk hc]; rfl)
        · refine ⟨fun z => absurd z (by simpa using hxh), fun _ => ?_⟩
          walk_at "v"
          exact mark kv _ _ _ (hI.step ok gd hb hs (.inl ⟨rfl, .inr hxh⟩)) (by rw [nxt_oth hs hxh])
theorem gd_worths {P : List Stn} {h : Str} {ws : List Int} (ok : POk P) (hw : WsOk P ws) : Gd P h (ws.map some) (fun k => k < P.length) := by
  refine ⟨ok.pos, fun k s hs hl hx hk => ?_, fun k s hs hx hk c hc => ?_⟩
  · obtain ⟨v, j, h1, h2⟩ := fbI_some ok hw hs hl
    have hup := ok.up k s hs
    obtain ⟨c, h3, h4⟩ := fbI_spec h2 (fun c hc => by have := hup c hc; rw [hw.len]; omega)
    have := hup c (List.mem_of_getElem? h3)
    exact ⟨some v, j, c, by rw [List.getElem?_map, h1]; rfl, h2, h3, by omega⟩
  · have := ok.up k s hs c hc
    omega
abbrev F_plan_of : List T → (T → List T → Prop) → Prop := fun ts Q => ∃ (P : List Stn) (h : Str), ts = [.d (PD P), .d (.str h)] ∧ POk P ∧ P.length < 1000000 ∧ (h = "high" ∨ h = "low") ∧
  ∀ ws kv r, WsOk P ws → PlOk P h kv r → PBy P h (ws.map some) kv r → Q (PlN kv) [.dead, .dead]
abbrev fsPlanOf : FS := ⟨[.bor, .bor], F_plan_of⟩
def Gm_plan_of : Ctx := ⟨[("plan_by", fsPlanBy), ("worths_of", fsWorths)], [], [], [], []⟩
theorem w_plan_of : bodyW Gm_plan_of n_plan_of [.bor, .bor] b_plan_of F_plan_of := by
  intro ts Q hh0 _
  obtain ⟨P, h, rfl, ok, hlt, hh, q⟩ := hh0
  walk_at "v"
  refine ⟨P, rfl, ok, hlt, fun ws hwl hwv => ⟨fun z => (by cases z), ?_⟩⟩
  have hw : WsOk P ws := ⟨hwl, hwv⟩
  conv => whnf
  rw [passes_leaf rfl (passes_leaf rfl (passes_val (data_iT ws) rfl))]
  walk_at "v"
  refine ⟨P, h, ws.map some, _, by rw [oD_some], ok, hlt, hh, by rw [List.length_map]; exact hwl, gd_worths ok hw, fun kv r h1 h2 _ => ⟨fun z => (by cases z), ?_⟩⟩
  conv => whnf
  exact q ws kv r hw h1 h2
end VL
set_option Elab.async false
set_option linter.all false
set_option maxRecDepth 100000
set_option maxHeartbeats 4000000
/-! VR4: plans looked over; what told plans hold. -/
namespace VL
open PySem PySem.Spec PyProof.Rows L2
local macro_rules | `(tactic| walk_at "vc") => `(tactic| first | with_reducible rfl | assumption | exact Nat.zero_le _ | exact noTup_md _ _ | exact Nat.le_of_ble_eq_true rfl | omega | rfl | trivial | focus (simp only [mkTup, T.leaves, T.noTup, T.noTupl, Kd.isTup, noTupl_md, noTupl_iT, noTupl_kids, PT, KT, Pool, kidT, Bool.not_false, Bool.and_self] <;> fail) | focus (refine ⟨?_, ?_⟩ <;> omega) | exact (fun _ => rfl))
local macro_rules | `(tactic| walk_at "vn") => `(tactic| (intro z; first | (with_unfolding_all exact Bool.noConfusion (show false = true from z)) | (with_unfolding_all exact Bool.noConfusion (show true = false from z)) | (focus (refine absurd z ?_; first | decide | (simp only [Bool.not_eq_true', Bool.not_eq_false', decide_eq_true_eq, decide_eq_false_iff_not, List.length_map, iT_len]; omega) | (simp <;> fail)))))
local macro_rules | `(tactic| walk_at "v1") => `(tactic| ((conv => whnf); (with_reducible refine And.intro ?_ ?_); first | (walk_at "vn"; try (with_reducible intro _)) | (rotate_left; walk_at "vn"; (with_reducible intro _)) | (with_unfolding_all walk_at "vc")))
local macro_rules | `(tactic| walk_at "v") => `(tactic| ((repeat walk_at "v1"); conv => whnf))
local macro_rules | `(tactic| row_has $h) => `(tactic| (rw [$h:ident]; walk_at "v"))
local macro_rules | `(tactic| walk_at "vs") => `(tactic| (refine holdW ?_; walk_at "v"))
local macro_rules | `(tactic| walk_at "vu") => `(tactic| refine unholdW ?_)
/-- a plan, its keys in any order -/
structure PlG (P : List Stn) (h : Str) (kv : Plan) (r : List Nat) : Prop extends ROk P h kv r where
  knd : (kv.map (·.1)).Nodup
  keys : ∀ k, k ∈ kv.map (·.1) ↔ k ∈ r ∧ ∃ s, P[k]? = some s ∧ s.l ≠ [] ∧ s.x = h
theorem PlOk.g {P : List Stn} {h : Str} {kv : Plan} {r : List Nat} (p : PlOk P h kv r) : PlG P h kv r := ⟨p.toROk, p.kinc.imp fun z => Nat.ne_of_lt z, p.keys⟩
theorem lcdW_all {α : Type} {n i : Nat} {el : St → (R → St → Prop) → Prop} {K : List PyData → Prop} (g f : α → PyData) (hi : i < n) : ∀ (l : List α) (acc : List PyData),
    (∀ a ∈ l, flatD (f a) = true ∧ ∀ Q : R → St → Prop, (∀ σ', Q (.v (.d (f a))) σ') → el ((List.replicate n T.dead).set i (.d (g a))) Q) → acc.length + l.length ≤ sizeLine → K (acc ++ l.map f) → lcdW n i (fun σ Q => Q true σ) el (l.map g) acc K
  | [], acc, _, _, h => by
    rw [List.map_nil, lcdW]
    simpa using h
  | a :: l, acc, ha, hl, h => by
    rw [List.length_cons] at hl
    rw [List.map_cons, lcdW]
    obtain ⟨h1, h2⟩ := ha a (by simp)
    refine ⟨hi, ?_⟩
    show br true _ _
    rw [br_t]
    refine h2 _ fun σ' => ⟨h1, by omega, ?_⟩
    exact lcdW_all g f hi l (acc ++ [f a]) (fun b hb => ha b (List.mem_cons_of_mem _ hb)) (by simp; omega) (by simpa using h)
theorem intKeys_pl : ∀ kv : Plan, intKeys (PlK kv) = some (kv.map fun p => ((p.1 : Nat) : Int))
  | [] => rfl
  | p :: kv => by
    show intKeys ((.inl ((p.1 : Nat) : Int), _) :: PlK kv) = _
    rw [intKeys, intKeys_pl kv]
    rfl
def ownB (P : List Stn) (h : Str) (k : Nat) : Bool := decide ((P.getD k ⟨"", [], 0⟩).l ≠ []) && decide ((P.getD k ⟨"", [], 0⟩).x = h)
/-- the own stands that are come to, rising -/
def ownL (P : List Stn) (h : Str) (r : List Nat) : List Nat := (comeL P r).filter (ownB P h)
theorem ownL_mem {P : List Stn} {h : Str} {r : List Nat} (hlt : ∀ i ∈ r, i < P.length) {k : Nat} : k ∈ ownL P h r ↔ k ∈ r ∧ ∃ s, P[k]? = some s ∧ s.l ≠ [] ∧ s.x = h := by
  unfold ownL
  rw [List.mem_filter]
  have hc : k ∈ comeL P r ↔ k ∈ r := by
    unfold comeL
    rw [List.mem_filter, List.mem_range]
    exact ⟨fun z => by simpa using z.2, fun z => ⟨hlt k z, by simpa using z⟩⟩
  rw [hc]
  refine and_congr_right fun hk => ?_
  have e := List.getElem?_eq_getElem (hlt k hk)
  unfold ownB
  rw [List.getD_eq_getElem?_getD, e]
  simp
theorem comeL_inc (P : List Stn) (r : List Nat) : (comeL P r).Pairwise (· < ·) := List.Pairwise.filter _ List.pairwise_lt_range
theorem sort_keys {P : List Stn} {h : Str} {kv : Plan} {r : List Nat} (pl : PlG P h kv r) : sortI (kv.map fun p => ((p.1 : Nat) : Int)) = (ownL P h r).map fun j : Nat => (j : Int) := by
  refine sorted_eq ?_ ?_ fun x => ?_
  · have h1 := sortI_le (kv.map fun p => ((p.1 : Nat) : Int))
    have h2 : (sortI (kv.map fun p => ((p.1 : Nat) : Int))).Nodup := (sortI_perm _).nodup_iff.mpr (by
      have := pl.knd
      rw [show (kv.map fun p => ((p.1 : Nat) : Int)) = (kv.map (·.1)).map (fun j : Nat => (j : Int)) by rw [List.map_map]; rfl]
      exact List.pairwise_map.mpr (this.imp fun z y => z (by omega)))
    refine (List.Pairwise.and h1 h2).imp fun z => ?_
    omega
  · exact List.pairwise_map.mpr ((List.Pairwise.filter _ (comeL_inc P r)).imp fun z => by omega)
  · rw [(sortI_perm _).mem_iff, List.mem_map, List.mem_map]
    constructor
    · rintro ⟨p, hp, rfl⟩
      exact ⟨p.1, (ownL_mem pl.lt).mpr ((pl.keys p.1).mp (List.mem_map.mpr ⟨p, hp, rfl⟩)), rfl⟩
    · rintro ⟨j, hj, rfl⟩
      obtain ⟨p, hp, e⟩ := List.mem_map.mp ((pl.keys j).mpr ((ownL_mem pl.lt).mp hj))
      exact ⟨p, hp, by rw [e]⟩
theorem PlG.few {P : List Stn} {h : Str} {kv : Plan} {r : List Nat} (pl : PlG P h kv r) : kv.length ≤ P.length := by
  have h1 := congrArg List.length (sort_keys pl)
  rw [sortI_len, List.length_map, List.length_map] at h1
  have h2 : (ownL P h r).length ≤ (comeL P r).length := List.length_filter_le _ _
  have h3 := comeL_len P r
  omega
abbrev F_is_plan : List T → (T → List T → Prop) → Prop := fun ts Q => ∃ (P : List Stn) (h : Str) (kv : Plan) (r : List Nat), ts = [.d (PD P), .d (.str h), .d (PlD kv)] ∧ POk P ∧ P.length < 1000000 ∧ (h = "high" ∨ h = "low") ∧ PlG P h kv r ∧ Q (.d (.bool true)) [.dead, .dead, .dead]
abbrev fsIsPlan : FS := ⟨[.bor, .bor, .bor], F_is_plan⟩
def Gm_is_plan : Ctx := ⟨[("is_whole", fsIsWhole), ("come_to", fsComeTo)], [], ["all", "isinstance", "dict", "sorted"], [], []⟩
theorem w_is_plan : bodyW Gm_is_plan n_is_plan [.bor, .bor, .bor] b_is_plan F_is_plan := by
  intro ts Q hh0 _
  obtain ⟨P, h, kv, r, rfl, ok, hlt, hh, pl, q⟩ := hh0
  have hsl : sizeLine > 10000000 := by decide
  have hfew := pl.few
  have hcl := comeL_len P r
  have hdv : ∀ σ, (R.v (.d (PlD kv))).dv σ = some (PlK kv) := dv_pl kv
  show wSs Gm_is_plan b_is_plan _ [.d (PD P), .d (.str h), .d (PlD kv), .dead, .dead]
  refine holdW ?_
  walk_at "v"
  rw [hdv]
  conv => whnf
  rw [show (PlK kv).map (fun p => keyD p.1) = kv.map fun p => PyData.int ((p.1 : Nat) : Int) by unfold PlK; rw [List.map_map]; rfl]
  refine lcdW_all (n := 5) (i := 4) (fun p : Nat × Nat => PyData.int ((p.1 : Nat) : Int)) (fun _ => PyData.bool true) (by decide) kv [] (fun p hp => ⟨rfl, fun Q hQ => ?_⟩) (by simp; omega) ?_
  · walk_at "v"
    exact ⟨.int (p.1 : Nat), rfl, rfl, fun z => (by cases z), hQ _⟩
  rw [List.nil_append, show (kv.map fun _ => PyData.bool true).map T.d = kv.map fun _ => T.d (PyData.bool true) by rw [List.map_map]; rfl]
  conv => whnf
  rw [datas_md (fun _ : Nat × Nat => PyData.bool true)]
  conv => whnf
  rw [bools_md (fun _ : Nat × Nat => true)]
  conv => whnf
  refine ⟨fun z => absurd z (by simp), fun _ => ?_⟩
  walk_at "vu"
  show wSs Gm_is_plan (b_is_plan.drop 1) _ [.d (PD P), .d (.str h), .d (PlD kv), .dead, .dead]
  walk_at "vs"
  refine ⟨P, h, kv, r, rfl, ok, hlt, hh, pl.toROk, fun z => (by cases z), ?_⟩
  have hnt : T.noTup (.nd .list (nT (comeL P r))) = true := noTup_md (fun j : Nat => PyData.int j) _
  walk_at "v"
  walk_at "vu"
  show wSs Gm_is_plan (b_is_plan.drop 2) _ [.d (PD P), .d (.str h), .d (PlD kv), .nd .list (nT (comeL P r)), .dead]
  walk_at "vs"
  walk_at "vu"
  show wSs Gm_is_plan (b_is_plan.drop 3) _ [.d (PD P), .d (.str h), .d (PlD kv), .nd .list (nT (comeL P r)), .dead]
  conv => whnf
  rw [hdv]
  conv => whnf
  rw [intKeys_pl]
  (conv => whnf); refine ⟨by rw [List.length_map]; omega, ?_⟩
  conv => whnf
  rw [show T.data (.nd .list (nT (comeL P r))) = some (.list ((comeL P r).map fun j => .int (j : Nat))) from nT_data _]
  (conv => whnf); refine ⟨rfl, ?_⟩
  refine lcW_fd (is := [4]) (σ := [.d (PD P), .d (.str h), .d (PlD kv), .d (.list ((comeL P r).map fun j => .int (j : Nat))), .dead]) _ (ownB P h) (fun k => .d (.int (k : Nat))) (comeL P r) (fun k hk => ?_) (by omega) ?_
  · have hk := (comeL_lt hk).1
    have hs : P[k]? = some P[k] := List.getElem?_eq_getElem hk
    generalize P[k] = st at hs
    have hx : st.x = "high" ∨ st.x = "low" := ok.hand st (List.mem_of_getElem? hs)
    have hhe : ¬ (("end" : Str) = h) := by rcases hh with z | z <;> rw [z] <;> decide
    refine ⟨[.d (PD P), .d (.str h), .d (PlD kv), .d (.list ((comeL P r).map fun j => .int (j : Nat))), .d (.int k)], rfl, fun Q hQ => ?_, fun _ Q hQ => hQ, rfl⟩
    have hat := atI_PD hs
    have eo : ownB P h k = (decide (st.l ≠ []) && decide (st.x = h)) := by
      unfold ownB
      rw [List.getD_eq_getElem?_getD, hs]
      rfl
    rw [eo] at hQ
    by_cases hl0 : st.l = []
    · rw [Stn.d, if_pos hl0] at hat
      walk_at "v"
      row_has hat
      simpa [hl0, hhe] using hQ
    · rw [Stn.d, if_neg hl0] at hat
      walk_at "v"
      row_has hat
      simpa [hl0] using hQ
  · show cmpW .eq _ _ _ _
    have e1 : ∀ σ, R.data (.v (.nd .list ((sortI (kv.map fun p => ((p.1 : Nat) : Int))).map fun i => .d (.int i)))) σ = some (.list ((ownL P h r).map fun j => .int (j : Nat))) := fun σ => by
      rw [sort_keys pl, List.map_map]
      exact data_md (fun j : Nat => PyData.int j) (ownL P h r)
    have e2 : ∀ σ, R.data (.v (.nd .list (((comeL P r).filter (ownB P h)).map fun k => .d (.int (k : Nat))))) σ = some (.list ((ownL P h r).map fun j => .int (j : Nat))) := fun σ => data_md (fun j : Nat => PyData.int j) (ownL P h r)
    have hsh := (shp_nats (ownL P h r)).shaped (by decide)
    unfold cmpW
    simp only [e1, e2]
    refine ⟨hsh, hsh, ?_⟩
    rw [eqv_refl _ (shp_nats (ownL P h r)).1]
    walk_at "v"
    exact q
abbrev F_is_no_worse : List T → (T → List T → Prop) → Prop := fun ts Q => ∃ (h : Str) (a b : Int), ts = [.d (.str h), .d (.int a), .d (.int b)] ∧ Q (.d (.bool (decide (best h [a, b] = a)))) [.dead, .dead, .dead]
abbrev fsNoWorse : FS := ⟨[.bor, .bor, .bor], F_is_no_worse⟩
def Gm_is_no_worse : Ctx := ⟨[("best_of", fsBest)], [], [], [], []⟩
theorem w_is_no_worse : bodyW Gm_is_no_worse n_is_no_worse [.bor, .bor, .bor] b_is_no_worse F_is_no_worse := by
  intro ts Q hh0 _
  obtain ⟨h, a, b, rfl, q⟩ := hh0
  walk_at "v"
  refine ⟨h, [a, b], rfl, by simp, fun z => (by cases z), ?_⟩
  walk_at "v"
  exact q
/-- what a plan holds -/
def heldBy (P : List Stn) (h : Str) (r : List Nat) : Int := best (oth h) ((peL P r).map fun k => (P.getD k ⟨"", [], 0⟩).w)
abbrev F_lets_plan : List T → (T → List T → Prop) → Prop := fun ts Q => ∃ (P : List Stn) (h : Str) (n : Int) (kv : Plan) (r : List Nat), ts = [.d (PD P), .d (.str h), .d (.int n), .d (PlD kv)] ∧ POk P ∧ P.length < 1000000 ∧ (h = "high" ∨ h = "low") ∧ PlG P h kv r ∧ peL P r ≠ [] ∧ Q (.d (.bool (decide (best h [heldBy P h r, n] = heldBy P h r)))) [.dead, .dead, .dead, .dead]
abbrev fsLetsPlan : FS := ⟨[.bor, .bor, .bor, .bor], F_lets_plan⟩
def Gm_lets_plan : Ctx := ⟨[("is_plan", fsIsPlan), ("is_no_worse", fsNoWorse), ("holds", fsHolds)], [], [], [], []⟩
theorem w_lets_plan : bodyW Gm_lets_plan n_lets_plan [.bor, .bor, .bor, .bor] b_lets_plan F_lets_plan := by
  intro ts Q hh0 _
  obtain ⟨P, h, n, kv, r, rfl, ok, hlt, hh, pl, hne, q⟩ := hh0
  walk_at "v"
  refine ⟨P, h, kv, r, rfl, ok, hlt, hh, pl, fun z => (by cases z), ?_⟩
  walk_at "v"
  refine ⟨P, h, kv, r, rfl, ok, hlt, hh, pl.toROk, hne, fun z => (by cases z), ?_⟩
  walk_at "v"
  refine ⟨h, _, n, rfl, fun z => (by cases z), ?_⟩
  walk_at "v"
  exact q
end VL
set_option Elab.async false
set_option linter.all false
set_option maxRecDepth 100000
set_option maxHeartbeats 4000000
/-! VR5: what a told plan holds; walks by a given plan. -/
namespace VL
open PySem PySem.Spec PyProof.Rows L2
theorem hands {x h : Str} (hx : x = "high" ∨ x = "low") (hh : h = "high" ∨ h = "low") (hne : x ≠ h) : x = oth h := by
  unfold oth
  rcases hx with rfl | rfl <;> rcases hh with rfl | rfl
  · exact absurd rfl hne
  · rw [if_neg (by decide)]
  · rw [if_pos rfl]
  · exact absurd rfl hne
theorem oth_high : oth "high" = "low" := by decide
theorem oth_low : oth "low" = "high" := by decide
/-- a is as good as b for h -/
def NoW (h : Str) (a b : Int) : Prop := if h = "high" then b ≤ a else a ≤ b
theorem NoW.refl (h : Str) (a : Int) : NoW h a a := by unfold NoW; split <;> omega
theorem NoW.trans {h : Str} {a b c : Int} (h1 : NoW h a b) (h2 : NoW h b c) : NoW h a c := by unfold NoW at *; split <;> simp_all <;> omega
theorem best_oth {h : Str} (hh : h = "high" ∨ h = "low") {l : List Int} {v : Int} (hv : v ∈ l) (ha : ∀ x ∈ l, NoW h x v) : best (oth h) l = v := by
  have hne : l ≠ [] := fun z => by rw [z] at hv; cases hv
  rcases hh with rfl | rfl
  · have : best (oth "high") l = minL l := by unfold best; rw [oth_high, if_neg (by decide)]
    rw [this]
    have h1 := minL_le hv
    have h2 := ha _ (minL_in hne)
    unfold NoW at h2
    rw [if_pos rfl] at h2
    omega
  · have : best (oth "low") l = maxL l := by unfold best; rw [oth_low, if_pos rfl]
    rw [this]
    have h1 := maxL_ge hv
    have h2 := ha _ (maxL_in hne)
    unfold NoW at h2
    rw [if_neg (by decide)] at h2
    omega
theorem best_no {h : Str} (hh : h = "high" ∨ h = "low") {l : List Int} {x : Int} (hx : x ∈ l) : NoW h x (best (oth h) l) := by
  unfold NoW best
  rcases hh with rfl | rfl
  · rw [if_pos rfl, oth_high, if_neg (by decide)]
    exact minL_le hx
  · rw [if_neg (by decide), oth_low, if_pos rfl]
    exact maxL_ge hx
theorem WsOk.at_ {P : List Stn} {ws : List Int} (hw : WsOk P ws) {k : Nat} {s : Stn} (hs : P[k]? = some s) : ws.getD k 0 = VL.val s ws := by
  rw [List.getD_eq_getElem?_getD, hw.val k s hs]
  rfl
/-- what is come to by a plan of first best steps is worth no less, one end as much -/
theorem told_all {P : List Stn} {h : Str} {ws : List Int} {kv : Plan} {r : List Nat} (ok : POk P) (hw : WsOk P ws) (hh : h = "high" ∨ h = "low") (ro : ROk P h kv r) (pb : PBy P h (ws.map some) kv r) : (∀ i ∈ r, NoW h (ws.getD i 0) (ws.getD 0 0)) ∧ ∀ k ∈ r, ∃ e ∈ r, ∃ s, P[e]? = some s ∧ s.l = [] ∧ s.w = ws.getD k 0 := by
  have own : ∀ k ∈ r, ∀ s, P[k]? = some s → s.l ≠ [] → s.x = h → ∃ c, nxt P h kv k = [c] ∧ c ∈ s.l ∧ ws.getD c.toNat 0 = ws.getD k 0 := fun k hk s hs hl hx => by
    obtain ⟨v, j, h1, h2, h3⟩ := pb k hk s hs hl hx
    rw [List.getElem?_map] at h1
    obtain ⟨v, hv, rfl⟩ := Option.map_eq_some_iff.mp h1
    have hup := ok.up k s hs
    obtain ⟨c, h4, h5⟩ := fbI_spec h2 (fun c hc => by have := hup c hc; rw [hw.len]; omega)
    exact ⟨c, nxt_own hs hx h3 h4, List.mem_of_getElem? h4, by rw [List.getD_eq_getElem?_getD, List.getD_eq_getElem?_getD, h5, hv]⟩
  have other : ∀ k ∈ r, ∀ s, P[k]? = some s → s.l ≠ [] → s.x ≠ h → ws.getD k 0 = best (oth h) (s.l.map fun c => ws.getD c.toNat 0) := fun k hk s hs hl hx => by
    rw [hw.at_ hs, val, if_neg hl, hands (ok.hand s (List.mem_of_getElem? hs)) hh hx]
  constructor
  · intro i
    induction i using Nat.strongRecOn with
    | ind i ih =>
      intro hi
      rcases ro.from_ i hi with rfl | ⟨m, hm, hc⟩
      · exact .refl _ _
      · have hml := ro.lt m hm
        have hs : P[m]? = some P[m] := List.getElem?_eq_getElem hml
        generalize P[m] = s at hs
        have hup := ok.up m s hs _ (nxt_sub hs hc)
        have hl : s.l ≠ [] := fun z => by have := nxt_sub hs hc; rw [z] at this; cases this
        have im := ih m (by omega) hm
        by_cases hx : s.x = h
        · obtain ⟨c, h1, h2, h3⟩ := own m hm s hs hl hx
          rw [h1, List.mem_singleton] at hc
          rw [← hc] at h3
          simp only [Int.toNat_natCast] at h3
          rw [h3]
          exact im
        · refine .trans ?_ im
          rw [other m hm s hs hl hx]
          have := best_no hh (List.mem_map.mpr ⟨_, nxt_sub hs hc, rfl⟩ : ws.getD ((i : Int)).toNat 0 ∈ s.l.map fun c => ws.getD c.toNat 0)
          simpa using this
  · have key : ∀ (n k : Nat), P.length - k ≤ n → k ∈ r → ∃ e ∈ r, ∃ s, P[e]? = some s ∧ s.l = [] ∧ s.w = ws.getD k 0 := by
      intro n
      induction n with
      | zero => intro k hn hk; have := ro.lt k hk; omega
      | succ n ih =>
        intro k hn hk
        have hkl := ro.lt k hk
        have hs : P[k]? = some P[k] := List.getElem?_eq_getElem hkl
        generalize P[k] = s at hs
        have hup := ok.up k s hs
        by_cases hl : s.l = []
        · exact ⟨k, hk, s, hs, hl, by rw [hw.at_ hs, val, if_pos hl]⟩
        · by_cases hx : s.x = h
          · obtain ⟨c, h1, h2, h3⟩ := own k hk s hs hl hx
            have hcu := hup c h2
            obtain ⟨e, he, s', h4, h5, h6⟩ := ih c.toNat (by omega) (ro.shut k hk c (by rw [h1]; exact List.mem_singleton.mpr rfl))
            exact ⟨e, he, s', h4, h5, by rw [h6, h3]⟩
          · have e := other k hk s hs hl hx
            have hb := best_in (x := oth h) (vs := s.l.map fun c => ws.getD c.toNat 0) (by simpa using hl)
            rw [← e] at hb
            obtain ⟨c, hc, hcv⟩ := List.mem_map.mp hb
            have hcu := hup c hc
            obtain ⟨e, he, s', h4, h5, h6⟩ := ih c.toNat (by omega) (ro.shut k hk c (by rw [nxt_oth hs hx]; exact hc))
            exact ⟨e, he, s', h4, h5, by rw [h6, hcv]⟩
    exact fun k hk => key P.length k (by omega) hk
theorem peL_in {P : List Stn} {r : List Nat} {e : Nat} {s : Stn} (he : e ∈ r) (hs : P[e]? = some s) (hl : s.l = []) : e ∈ peL P r := by
  unfold peL comeL
  rw [List.mem_filter, List.mem_filter, List.mem_range, List.getD_eq_getElem?_getD, hs]
  exact ⟨⟨(List.getElem?_eq_some_iff.mp hs).1, by simpa using he⟩, by simpa using hl⟩
theorem told_holds {P : List Stn} {h : Str} {ws : List Int} {kv : Plan} {r : List Nat} (ok : POk P) (hw : WsOk P ws) (hh : h = "high" ∨ h = "low") (ro : ROk P h kv r) (pb : PBy P h (ws.map some) kv r) : heldBy P h r = ws.getD 0 0 ∧ peL P r ≠ [] := by
  obtain ⟨h1, h2⟩ := told_all ok hw hh ro pb
  obtain ⟨e, he, s, hs, hl, hv⟩ := h2 0 ro.zero
  have hep := peL_in he hs hl
  refine ⟨best_oth hh (List.mem_map.mpr ⟨e, hep, ?_⟩) fun x hx => ?_, fun z => by rw [z] at hep; cases hep⟩
  · rw [List.getD_eq_getElem?_getD, hs]
    exact hv
  · obtain ⟨k, hk, rfl⟩ := List.mem_map.mp hx
    obtain ⟨st, g1, g2, g3⟩ := peL_mem hk
    have := h1 k g3
    rw [hw.at_ g1, val, if_pos g2] at this
    rw [List.getD_eq_getElem?_getD, g1]
    exact this
/-- two sets that are come to by one plan are one -/
theorem reach_sub {P : List Stn} {h : Str} {kv : Plan} {r r' : List Nat} (ok : POk P) (hlt : ∀ i ∈ r, i < P.length) (hf : ∀ i ∈ r, i = 0 ∨ ∃ m ∈ r, (i : Int) ∈ nxt P h kv m) (h0 : 0 ∈ r') (hs : ∀ i ∈ r', ∀ c ∈ nxt P h kv i, c.toNat ∈ r') : ∀ i ∈ r, i ∈ r' := by
  intro i
  induction i using Nat.strongRecOn with
  | ind i ih =>
    intro hi
    rcases hf i hi with rfl | ⟨m, hm, hc⟩
    · exact h0
    · have hml := hlt m hm
      have := ok.up m _ (List.getElem?_eq_getElem hml) _ (nxt_sub (List.getElem?_eq_getElem hml) hc)
      have := hs m (ih m (by omega) hm) _ hc
      simpa using this
/-- a walk by a given plan, so far -/
structure HW (P : List Stn) (h : Str) (kv : Plan) (r row : List Nat) (m : Nat) : Prop where
  nd : row.Nodup
  sub : ∀ i ∈ row, i ∈ r
  zero : 0 ∈ row
  le : m ≤ row.length
  shut : ∀ i ∈ row.take m, ∀ c ∈ nxt P h kv i, c.toNat ∈ row
theorem HW.start {P : List Stn} {h : Str} {kv : Plan} {r : List Nat} (ro : ROk P h kv r) : HW P h kv r [0] 0 :=
  ⟨by simp, fun i hi => by rw [List.mem_singleton.mp hi]; exact ro.zero, by simp, by simp, fun i hi => by simp at hi⟩
theorem HW.step {P : List Stn} {h : Str} {kv : Plan} {r row : List Nat} {m k : Nat} (px : PX P) (ro : ROk P h kv r) (g : HW P h kv r row m) (hm : m < row.length) (hk : row[m]? = some k) : HW P h kv r (row ++ (newL row (nxt P h kv k)).map Int.toNat) (m + 1) := by
  have hkr : k ∈ row := List.mem_of_getElem? hk
  have hkl := ro.lt k (g.sub k hkr)
  have hs : P[k]? = some P[k] := List.getElem?_eq_getElem hkl
  generalize P[k] = s at hs
  have htk : ∀ L : List Nat, (row ++ L).take (m + 1) = row.take m ++ [k] := fun L => by
    rw [List.take_append_of_le_length (by omega), List.take_succ, hk]
    rfl
  have hup := px.up k s hs
  have hsub : ∀ c ∈ nxt P h kv k, (k : Int) < c ∧ c < (P.length : Nat) := fun c hc => hup c (nxt_sub hs hc)
  have hnn : (nxt P h kv k).Nodup := by
    have hn := px.nd s (List.mem_of_getElem? hs)
    unfold nxt
    rw [hs]
    simp only
    split
    · split
      · split <;> simp
      · simp
    · exact hn
  have hmem : ∀ i, i ∈ (newL row (nxt P h kv k)).map Int.toNat ↔ i ∉ row ∧ (i : Int) ∈ nxt P h kv k := fun i => by
    unfold newL
    rw [List.mem_map]
    constructor
    · rintro ⟨c, hc, rfl⟩
      obtain ⟨h1, h2⟩ := List.mem_filter.mp hc
      have := hsub c h1
      refine ⟨by simpa using h2, ?_⟩
      rw [show ((c.toNat : Nat) : Int) = c by omega]
      exact h1
    · rintro ⟨h1, h2⟩
      exact ⟨(i : Int), List.mem_filter.mpr ⟨h2, by simpa using h1⟩, by simp⟩
  refine ⟨?_, fun i hi => ?_, List.mem_append_left _ g.zero, by rw [List.length_append]; omega, fun i hi c hc => ?_⟩
  · rw [List.nodup_append]
    refine ⟨g.nd, ?_, ?_⟩
    · refine List.pairwise_map.mpr (List.Pairwise.imp_of_mem ?_ (List.Pairwise.filter _ hnn))
      intro a b ha hb hab z
      have h1 := hsub a (List.mem_filter.mp ha).1
      have h2 := hsub b (List.mem_filter.mp hb).1
      omega
    · intro a ha b hb e
      subst e
      exact ((hmem a).mp hb).1 ha
  · rcases List.mem_append.mp hi with z | z
    · exact g.sub i z
    · have := ro.shut k (g.sub k hkr) _ ((hmem i).mp z).2
      simpa using this
  · rw [htk] at hi
    rcases List.mem_append.mp hi with z | z
    · exact List.mem_append_left _ (g.shut i z c hc)
    · rw [List.mem_singleton] at z
      subst z
      by_cases e : c.toNat ∈ row
      · exact List.mem_append_left _ e
      · have := hsub c hc
        exact List.mem_append_right _ ((hmem _).mpr ⟨e, by rw [show ((c.toNat : Nat) : Int) = c by omega]; exact hc⟩)
theorem HW.ends {P : List Stn} {h : Str} {kv : Plan} {r row : List Nat} (ok : POk P) (ro : ROk P h kv r) (g : HW P h kv r row row.length) : ∀ i, i ∈ row ↔ i ∈ r := fun i =>
  ⟨g.sub i, fun hi => reach_sub ok ro.lt ro.from_ g.zero (fun i hi => g.shut i (by rw [List.take_length]; exact hi)) i hi⟩
theorem minL_perm {l l' : List Int} (h : l.Perm l') (hne : l ≠ []) : minL l = minL l' := by
  have hne' : l' ≠ [] := fun z => hne (by rw [z] at h; exact h.eq_nil)
  have h1 := minL_le (h.mem_iff.mp (minL_in hne))
  have h2 := minL_le (h.mem_iff.mpr (minL_in hne'))
  omega
theorem maxL_perm {l l' : List Int} (h : l.Perm l') (hne : l ≠ []) : maxL l = maxL l' := by
  have hne' : l' ≠ [] := fun z => hne (by rw [z] at h; exact h.eq_nil)
  have h1 := maxL_ge (h.mem_iff.mp (maxL_in hne))
  have h2 := maxL_ge (h.mem_iff.mpr (maxL_in hne'))
  omega
/-- the own stands of a walk, sorted -/
theorem sort_own {P : List Stn} {h : Str} {r row : List Nat} (hlt : ∀ i ∈ r, i < P.length) (nd : row.Nodup) (he : ∀ i, i ∈ row ↔ i ∈ r) : sortI ((row.filter (ownB P h)).map fun j : Nat => (j : Int)) = (ownL P h r).map fun j : Nat => (j : Int) := by
  refine sorted_eq ?_ ?_ fun x => ?_
  · have h1 := sortI_le ((row.filter (ownB P h)).map fun j : Nat => (j : Int))
    have h2 : (sortI ((row.filter (ownB P h)).map fun j : Nat => (j : Int))).Nodup := (sortI_perm _).nodup_iff.mpr (List.pairwise_map.mpr ((List.Pairwise.filter _ nd).imp fun z y => z (by omega)))
    refine (List.Pairwise.and h1 h2).imp fun z => ?_
    omega
  · exact List.pairwise_map.mpr ((List.Pairwise.filter _ (comeL_inc P r)).imp fun z => by omega)
  · rw [(sortI_perm _).mem_iff, List.mem_map, List.mem_map]
    have : ∀ j, j ∈ row.filter (ownB P h) ↔ j ∈ ownL P h r := fun j => by
      unfold ownL comeL
      rw [List.mem_filter, List.mem_filter, List.mem_filter, List.mem_range, he j]
      exact ⟨fun z => ⟨⟨hlt j z.1, by simpa using z.1⟩, z.2⟩, fun z => ⟨by simpa using z.1.2, z.2⟩⟩
    exact ⟨fun ⟨j, hj, e⟩ => ⟨j, (this j).mp hj, e⟩, fun ⟨j, hj, e⟩ => ⟨j, (this j).mpr hj, e⟩⟩
theorem ends_perm {P : List Stn} {r row : List Nat} (hlt : ∀ i ∈ r, i < P.length) (nd : row.Nodup) (he : ∀ i, i ∈ row ↔ i ∈ r) : (row.filter (isEnd P)).Perm (peL P r) := by
  refine (List.perm_ext_iff_of_nodup (List.Pairwise.filter _ nd) (List.Pairwise.filter _ ((comeL_inc P r).imp fun z => Nat.ne_of_lt z))).mpr fun j => ?_
  unfold comeL isEnd
  rw [List.mem_filter, List.mem_filter, List.mem_filter, List.mem_range, he j]
  exact ⟨fun z => ⟨⟨hlt j z.1, by simpa using z.1⟩, z.2⟩, fun z => ⟨by simpa using z.1.2, z.2⟩⟩
end VL
set_option Elab.async false
set_option linter.all false
set_option maxRecDepth 100000
set_option maxHeartbeats 4000000
/-! VS1: searches from the left, plainly. -/
namespace VL
open PySem PySem.Spec PyProof.Rows L2
def mxO (a : Option Int) (v : Int) : Int := match a with
  | none => v
  | some x => max x v
def mnO (a : Option Int) (v : Int) : Int := match a with
  | none => v
  | some x => min x v
def shutO : Option Int → Option Int → Bool
  | some x, some y => decide (y ≤ x)
  | _, _ => false
/-- a is below v, or open -/
def ltO (a : Option Int) (v : Int) : Prop := ∀ x, a = some x → x < v
def gtO (b : Option Int) (v : Int) : Prop := ∀ y, b = some y → v < y
def nilS : Stn := ⟨"", [], 0⟩
/-- an order of a play -/
structure OOk (P : List Stn) (O : List (List Nat)) : Prop where
  len : O.length = P.length
  per : ∀ (k : Nat) s, P[k]? = some s → ∃ ps, O[k]? = some ps ∧ ps.Perm (List.range s.l.length)
/-- what the search does at the steps of a stand -/
def abgo (rec : Nat → Option Int → Option Int → Int × List Nat) (s : Stn) : List Nat → Option Int → Option Int → Option Int → Int × List Nat
  | [], best, _, _ => (best.getD 0, [])
  | j :: js, best, a, b =>
    if s.x = "high" then
      if shutO (some (mxO a (mxO best (rec (s.l.getD j 0).toNat a b).1))) b = true then (mxO best (rec (s.l.getD j 0).toNat a b).1, (rec (s.l.getD j 0).toNat a b).2)
      else ((abgo rec s js (some (mxO best (rec (s.l.getD j 0).toNat a b).1)) (some (mxO a (mxO best (rec (s.l.getD j 0).toNat a b).1))) b).1, (rec (s.l.getD j 0).toNat a b).2 ++ (abgo rec s js (some (mxO best (rec (s.l.getD j 0).toNat a b).1)) (some (mxO a (mxO best (rec (s.l.getD j 0).toNat a b).1))) b).2)
    else
      if shutO a (some (mnO b (mnO best (rec (s.l.getD j 0).toNat a b).1))) = true then (mnO best (rec (s.l.getD j 0).toNat a b).1, (rec (s.l.getD j 0).toNat a b).2)
      else ((abgo rec s js (some (mnO best (rec (s.l.getD j 0).toNat a b).1)) a (some (mnO b (mnO best (rec (s.l.getD j 0).toNat a b).1)))).1, (rec (s.l.getD j 0).toNat a b).2 ++ (abgo rec s js (some (mnO best (rec (s.l.getD j 0).toNat a b).1)) a (some (mnO b (mnO best (rec (s.l.getD j 0).toNat a b).1)))).2)
def ab (P : List Stn) (O : List (List Nat)) : Nat → Nat → Option Int → Option Int → Int × List Nat
  | 0, _, _, _ => (0, [])
  | n + 1, k, a, b => if (P.getD k nilS).l = [] then ((P.getD k nilS).w, [k]) else abgo (ab P O n) (P.getD k nilS) (O.getD k []) none a b
/-- the ways that are looked at, by the worths of the steps that stand ahead -/
def lkgo (rec : Nat → Option Int → Option Int → List Nat) (ws : List Int) (s : Stn) : List Nat → Option Int → Option Int → List Nat
  | [], _, _ => []
  | j :: js, a, b => rec (s.l.getD j 0).toNat a b ++ (if s.x = "high" then
      if shutO (some (mxO a (ws.getD (s.l.getD j 0).toNat 0))) b = true then [] else lkgo rec ws s js (some (mxO a (ws.getD (s.l.getD j 0).toNat 0))) b
    else
      if shutO a (some (mnO b (ws.getD (s.l.getD j 0).toNat 0))) = true then [] else lkgo rec ws s js a (some (mnO b (ws.getD (s.l.getD j 0).toNat 0))))
def lk (P : List Stn) (O : List (List Nat)) (ws : List Int) : Nat → Nat → Option Int → Option Int → List Nat
  | 0, _, _, _ => []
  | n + 1, k, a, b => if (P.getD k nilS).l = [] then [k] else lkgo (lk P O ws n) ws (P.getD k nilS) (O.getD k []) a b
/-- what the search promises of a stand -/
structure Sp1 (v w : Int) (a b : Option Int) : Prop where
  lb : ltO a v → v ≤ w
  ub : gtO b v → w ≤ v
theorem shut_false {a b : Option Int} (h : ¬ shutO a b = true) {x y : Int} (ha : a = some x) (hb : b = some y) : x < y := by
  subst ha hb
  simp [shutO] at h
  exact h
theorem shut_true {a b : Option Int} (h : shutO a b = true) : ∃ x y, a = some x ∧ b = some y ∧ y ≤ x := by
  cases a with
  | none => simp [shutO] at h
  | some x => cases b with
    | none => simp [shutO] at h
    | some y => exact ⟨x, y, rfl, rfl, by simpa [shutO] using h⟩
theorem ltO_some {x v : Int} : ltO (some x) v ↔ x < v := ⟨fun h => h x rfl, fun h y e => by cases e; exact h⟩
theorem gtO_some {x v : Int} : gtO (some x) v ↔ v < x := ⟨fun h => h x rfl, fun h y e => by cases e; exact h⟩
section
variable {rec : Nat → Option Int → Option Int → Int × List Nat} {ws : List Int} {s : Stn}
theorem abgo_high (hx : s.x = "high") (hr : ∀ j, j < s.l.length → ∀ a b, ¬ shutO a b = true → Sp1 (rec (s.l.getD j 0).toNat a b).1 (ws.getD (s.l.getD j 0).toNat 0) a b) :
    ∀ (js : List Nat) (best a b : Option Int), (∀ j ∈ js, j < s.l.length) → (js ≠ [] ∨ best ≠ none) → ¬ shutO a b = true → (∀ m, best = some m → ∃ x, a = some x ∧ m ≤ x) →
      (ltO a (abgo rec s js best a b).1 → ∃ j ∈ js, (abgo rec s js best a b).1 ≤ ws.getD (s.l.getD j 0).toNat 0) ∧ (∀ m, best = some m → m ≤ (abgo rec s js best a b).1) ∧ (gtO b (abgo rec s js best a b).1 → ∀ j ∈ js, ws.getD (s.l.getD j 0).toNat 0 ≤ (abgo rec s js best a b).1)
  | [], best, a, b, _, hne, hs, hb => by
    cases best with
    | none => exact absurd rfl (hne.resolve_left fun z => z rfl)
    | some m =>
      obtain ⟨x, rfl, hm⟩ := hb m rfl
      simp only [abgo, Option.getD_some]
      refine ⟨fun z => ?_, fun m' e => by cases e; exact Int.le_refl _, fun _ j hj => by cases hj⟩
      have := ltO_some.mp z
      omega
  | j :: js, best, a, b, hjs, hne, hs, hb => by
    have hr0 := hr j (hjs j (by simp)) a b hs
    rw [abgo, if_pos hx]
    generalize (rec (s.l.getD j 0).toNat a b).1 = r at *
    generalize hm : mxO best r = m
    generalize ha : mxO a m = a'
    have hrm : r ≤ m := by rw [← hm]; cases best <;> simp only [mxO] <;> omega
    have hbm : ∀ x, best = some x → x ≤ m := fun x e => by rw [← hm, e]; simp only [mxO]; omega
    have hma : m ≤ a' := by rw [← ha]; cases a <;> simp only [mxO] <;> omega
    have haa : ∀ x, a = some x → x ≤ a' := fun x e => by rw [← ha, e]; simp only [mxO]; omega
    -- where m is beyond a it is r
    have hmr : ltO a m → m = r := fun z => by
      cases best with
      | none => rw [← hm]; rfl
      | some x =>
        obtain ⟨y, rfl, hxy⟩ := hb x rfl
        have := ltO_some.mp z
        rw [← hm] at this ⊢
        simp only [mxO] at this ⊢
        omega
    have ha' : ∀ v : Int, v ≤ a' → ltO a v → v ≤ m := fun v h1 h2 => by
      cases a with
      | none => rw [← ha] at h1; exact h1
      | some x =>
        have := ltO_some.mp h2
        rw [← ha] at h1
        simp only [mxO] at h1
        omega
    split
    · rename_i hsh
      simp only
      refine ⟨fun z => ⟨j, by simp, ?_⟩, hbm, fun z => ?_⟩
      · have e := hmr z
        rw [e]
        rw [e] at z
        exact hr0.lb z
      · obtain ⟨x, y, e1, e2, h⟩ := shut_true hsh
        cases e1
        have hmy := z y e2
        cases a with
        | none => rw [← ha] at h; simp only [mxO] at h; omega
        | some x =>
          have := shut_false hs rfl e2
          rw [← ha] at h
          simp only [mxO] at h
          omega
    · rename_i hsh
      obtain ⟨i1, i2, i3⟩ := abgo_high hx hr js (some m) (some a') b (fun i hi => hjs i (List.mem_cons_of_mem _ hi)) (.inr (by simp)) hsh (fun x e => by cases e; exact ⟨a', rfl, hma⟩)
      generalize (abgo rec s js (some m) (some a') b).1 = v at *
      have hmv := i2 m rfl
      refine ⟨fun z => ?_, fun x e => Int.le_trans (hbm x e) hmv, fun z i hi => ?_⟩
      · by_cases hv : a' < v
        · obtain ⟨i, hi, h⟩ := i1 (ltO_some.mpr hv)
          exact ⟨i, List.mem_cons_of_mem _ hi, h⟩
        · have h1 := ha' v (by omega) z
          have h2 : m = v := by omega
          subst h2
          have e := hmr z
          refine ⟨j, by simp, ?_⟩
          rw [e]
          rw [e] at z
          exact hr0.lb z
      · rcases List.mem_cons.mp hi with rfl | hi
        · have : gtO b r := fun y e => by have := z y e; omega
          have := hr0.ub this
          omega
        · exact i3 z i hi
theorem abgo_low (hx : s.x ≠ "high") (hr : ∀ j, j < s.l.length → ∀ a b, ¬ shutO a b = true → Sp1 (rec (s.l.getD j 0).toNat a b).1 (ws.getD (s.l.getD j 0).toNat 0) a b) :
    ∀ (js : List Nat) (best a b : Option Int), (∀ j ∈ js, j < s.l.length) → (js ≠ [] ∨ best ≠ none) → ¬ shutO a b = true → (∀ m, best = some m → ∃ x, b = some x ∧ x ≤ m) →
      (gtO b (abgo rec s js best a b).1 → ∃ j ∈ js, ws.getD (s.l.getD j 0).toNat 0 ≤ (abgo rec s js best a b).1) ∧ (∀ m, best = some m → (abgo rec s js best a b).1 ≤ m) ∧ (ltO a (abgo rec s js best a b).1 → ∀ j ∈ js, (abgo rec s js best a b).1 ≤ ws.getD (s.l.getD j 0).toNat 0)
  | [], best, a, b, _, hne, hs, hb => by
    cases best with
    | none => exact absurd rfl (hne.resolve_left fun z => z rfl)
    | some m =>
      obtain ⟨x, rfl, hm⟩ := hb m rfl
      simp only [abgo, Option.getD_some]
      refine ⟨fun z => ?_, fun m' e => by cases e; exact Int.le_refl _, fun _ j hj => by cases hj⟩
      have := gtO_some.mp z
      omega
  | j :: js, best, a, b, hjs, hne, hs, hb => by
    have hr0 := hr j (hjs j (by simp)) a b hs
    rw [abgo, if_neg hx]
    generalize (rec (s.l.getD j 0).toNat a b).1 = r at *
    generalize hm : mnO best r = m
    generalize hbb : mnO b m = b'
    have hrm : m ≤ r := by rw [← hm]; cases best <;> simp only [mnO] <;> omega
    have hbm : ∀ x, best = some x → m ≤ x := fun x e => by rw [← hm, e]; simp only [mnO]; omega
    have hma : b' ≤ m := by rw [← hbb]; cases b <;> simp only [mnO] <;> omega
    have hmr : gtO b m → m = r := fun z => by
      cases best with
      | none => rw [← hm]; rfl
      | some x =>
        obtain ⟨y, rfl, hxy⟩ := hb x rfl
        have := gtO_some.mp z
        rw [← hm] at this ⊢
        simp only [mnO] at this ⊢
        omega
    have ha' : ∀ v : Int, b' ≤ v → gtO b v → m ≤ v := fun v h1 h2 => by
      cases b with
      | none => rw [← hbb] at h1; exact h1
      | some x =>
        have := gtO_some.mp h2
        rw [← hbb] at h1
        simp only [mnO] at h1
        omega
    split
    · rename_i hsh
      simp only
      refine ⟨fun z => ⟨j, by simp, ?_⟩, hbm, fun z => ?_⟩
      · have e := hmr z
        rw [e]
        rw [e] at z
        exact hr0.ub z
      · obtain ⟨x, y, e1, e2, h⟩ := shut_true hsh
        cases e2
        have hmy := z x e1
        cases b with
        | none => rw [← hbb] at h; simp only [mnO] at h; omega
        | some y =>
          have := shut_false hs e1 rfl
          rw [← hbb] at h
          simp only [mnO] at h
          omega
    · rename_i hsh
      obtain ⟨i1, i2, i3⟩ := abgo_low hx hr js (some m) a (some b') (fun i hi => hjs i (List.mem_cons_of_mem _ hi)) (.inr (by simp)) hsh (fun x e => by cases e; exact ⟨b', rfl, hma⟩)
      generalize (abgo rec s js (some m) a (some b')).1 = v at *
      have hmv := i2 m rfl
      refine ⟨fun z => ?_, fun x e => Int.le_trans hmv (hbm x e), fun z i hi => ?_⟩
      · by_cases hv : v < b'
        · obtain ⟨i, hi, h⟩ := i1 (gtO_some.mpr hv)
          exact ⟨i, List.mem_cons_of_mem _ hi, h⟩
        · have h1 := ha' v (by omega) z
          have h2 : m = v := by omega
          subst h2
          have e := hmr z
          refine ⟨j, by simp, ?_⟩
          rw [e]
          rw [e] at z
          exact hr0.ub z
      · rcases List.mem_cons.mp hi with rfl | hi
        · have : ltO a r := fun y e => by have := z y e; omega
          have := hr0.lb this
          omega
        · exact i3 z i hi
end
end VL
set_option Elab.async false
set_option linter.all false
set_option maxRecDepth 100000
set_option maxHeartbeats 4000000
/-! VS2: what a search tells, and what it looks at. -/
namespace VL
open PySem PySem.Spec PyProof.Rows L2
/-- levels: how far stands are from the begin -/
structure Lv (P : List Stn) (fs : List Int) : Prop where
  len : fs.length = P.length
  bd : ∀ f ∈ fs, 0 ≤ f ∧ f ≤ 40
  up : ∀ (i : Nat) s, P[i]? = some s → ∀ c ∈ s.l, fs.getD i 0 < fs.getD c.toNat 0
theorem PX.lv {P : List Stn} (px : PX P) : ∃ fs, Lv P fs := by
  obtain ⟨fs, h1, h2, h3⟩ := px.lev
  exact ⟨fs, h1, h2, h3⟩
def Fu (fs : List Int) (n k : Nat) : Prop := (41 : Int) ≤ n + fs.getD k 0
theorem Fu.le {P : List Stn} {fs : List Int} (lv : Lv P fs) {k : Nat} (hk : k < P.length) : 0 ≤ fs.getD k 0 ∧ fs.getD k 0 ≤ 40 := by
  have h := List.getElem?_eq_getElem (l := fs) (i := k) (by rw [lv.len]; exact hk)
  rw [List.getD_eq_getElem?_getD, h]
  exact lv.bd _ (List.mem_of_getElem? h)
theorem Fu.kid {P : List Stn} {fs : List Int} (ok : POk P) (lv : Lv P fs) {n k : Nat} {s : Stn} {c : Int} (hs : P[k]? = some s) (hc : c ∈ s.l) (h : Fu fs (n + 1) k) : c.toNat < P.length ∧ Fu fs n c.toNat := by
  have h1 := ok.up k s hs c hc
  have h2 := lv.up k s hs c hc
  unfold Fu at *
  refine ⟨by omega, by push_cast at h; omega⟩
theorem Fu.zero {P : List Stn} {fs : List Int} (lv : Lv P fs) {k : Nat} (hk : k < P.length) (h : Fu fs 0 k) : False := by
  have := Fu.le lv hk
  unfold Fu at h
  omega
theorem getD_at {P : List Stn} {k : Nat} {s : Stn} (hs : P[k]? = some s) : P.getD k nilS = s := by rw [List.getD_eq_getElem?_getD, hs]; rfl
theorem OOk.at_ {P : List Stn} {O : List (List Nat)} (oo : OOk P O) {k : Nat} {s : Stn} (hs : P[k]? = some s) : (O.getD k []).Perm (List.range s.l.length) := by
  obtain ⟨ps, h1, h2⟩ := oo.per k s hs
  rw [List.getD_eq_getElem?_getD, h1]
  exact h2
theorem kid_at {s : Stn} {j : Nat} (hj : j < s.l.length) : s.l.getD j 0 ∈ s.l := by
  rw [List.getD_eq_getElem?_getD, List.getElem?_eq_getElem hj]
  exact List.getElem_mem hj
theorem kid_of {s : Stn} {c : Int} (hc : c ∈ s.l) : ∃ j, j < s.l.length ∧ s.l.getD j 0 = c := by
  obtain ⟨j, hj, e⟩ := List.getElem_of_mem hc
  exact ⟨j, hj, by rw [List.getD_eq_getElem?_getD, List.getElem?_eq_getElem hj]; exact e⟩
section
variable {P : List Stn} {O : List (List Nat)} {ws fs : List Int}
theorem ab_sp (ok : POk P) (hw : WsOk P ws) (oo : OOk P O) (lv : Lv P fs) : ∀ (n k : Nat), k < P.length → Fu fs n k → ∀ a b, ¬ shutO a b = true → Sp1 (ab P O n k a b).1 (ws.getD k 0) a b
  | 0, k, hk, hf, _, _, _ => (Fu.zero lv hk hf).elim
  | n + 1, k, hk, hf, a, b, hs => by
    have hst : P[k]? = some P[k] := List.getElem?_eq_getElem hk
    generalize P[k] = s at hst
    have hp := oo.at_ hst
    have hmem : ∀ j, j ∈ O.getD k [] ↔ j < s.l.length := fun j => by rw [hp.mem_iff, List.mem_range]
    rw [ab, getD_at hst]
    split
    · rename_i hl
      rw [hw.at_ hst, val, if_pos hl]
      exact ⟨fun _ => Int.le_refl _, fun _ => Int.le_refl _⟩
    · rename_i hl
      have hlp : 0 < s.l.length := List.length_pos_iff.mpr hl
      have hne : O.getD k [] ≠ [] := fun z => by have := (hmem 0).mpr hlp; rw [z] at this; cases this
      have hr : ∀ j, j < s.l.length → ∀ a b, ¬ shutO a b = true → Sp1 (ab P O n (s.l.getD j 0).toNat a b).1 (ws.getD (s.l.getD j 0).toNat 0) a b := fun j hj a b hsh => by
        obtain ⟨h1, h2⟩ := Fu.kid ok lv hst (kid_at hj) hf
        exact ab_sp ok hw oo lv n _ h1 h2 a b hsh
      have hvs : s.l.map (fun c => ws.getD c.toNat 0) ≠ [] := by simpa using hl
      by_cases hx : s.x = "high"
      · obtain ⟨h1, _, h3⟩ := abgo_high hx hr (O.getD k []) none a b (fun j hj => (hmem j).mp hj) (.inl hne) hs (fun m e => by cases e)
        have ew : ws.getD k 0 = maxL (s.l.map fun c => ws.getD c.toNat 0) := by rw [hw.at_ hst, val, if_neg hl, best, if_pos hx]
        rw [ew]
        refine ⟨fun z => ?_, fun z => ?_⟩
        · obtain ⟨j, hj, h⟩ := h1 z
          exact Int.le_trans h (maxL_ge (List.mem_map.mpr ⟨_, kid_at ((hmem j).mp hj), rfl⟩))
        · obtain ⟨c, hc, e⟩ := List.mem_map.mp (maxL_in hvs)
          obtain ⟨j, hj, e2⟩ := kid_of hc
          have := h3 z j ((hmem j).mpr hj)
          rw [e2] at this
          rw [← e]
          exact this
      · obtain ⟨h1, _, h3⟩ := abgo_low hx hr (O.getD k []) none a b (fun j hj => (hmem j).mp hj) (.inl hne) hs (fun m e => by cases e)
        have ew : ws.getD k 0 = minL (s.l.map fun c => ws.getD c.toNat 0) := by rw [hw.at_ hst, val, if_neg hl, best, if_neg hx]
        rw [ew]
        refine ⟨fun z => ?_, fun z => ?_⟩
        · obtain ⟨c, hc, e⟩ := List.mem_map.mp (minL_in hvs)
          obtain ⟨j, hj, e2⟩ := kid_of hc
          have := h3 z j ((hmem j).mpr hj)
          rw [e2] at this
          rw [← e]
          exact this
        · obtain ⟨j, hj, h⟩ := h1 z
          exact Int.le_trans (minL_le (List.mem_map.mpr ⟨_, kid_at ((hmem j).mp hj), rfl⟩)) h
/-- the sides go on alike, by what was found and by what is -/
theorem side_high {r w : Int} {best a b : Option Int} (sp : Sp1 r w a b) (hs : ¬ shutO a b = true) (hb : ∀ m, best = some m → ∃ x, a = some x ∧ m ≤ x) :
    (shutO (some (mxO a (mxO best r))) b = true ↔ shutO (some (mxO a w)) b = true) ∧ (¬ shutO (some (mxO a w)) b = true → mxO a (mxO best r) = mxO a w) := by
  have e : mxO a (mxO best r) = mxO a r := by
    cases best with
    | none => rfl
    | some m =>
      obtain ⟨x, rfl, hx⟩ := hb m rfl
      simp only [mxO]
      omega
  rw [e]
  have key : gtO b r → mxO a r = mxO a w := fun z => by
    have h1 := sp.ub z
    cases a with
    | none => have := sp.lb (fun x e => by cases e); simp only [mxO]; omega
    | some x =>
      by_cases hx : x < r
      · have := sp.lb (ltO_some.mpr hx); simp only [mxO]; omega
      · simp only [mxO]; omega
  by_cases z : gtO b r
  · rw [key z]
    exact ⟨Iff.rfl, fun _ => rfl⟩
  · obtain ⟨y, rfl, hy⟩ : ∃ y, b = some y ∧ y ≤ r := by
      cases b with
      | none => exact absurd (fun y e => by cases e) z
      | some y => exact ⟨y, rfl, Int.not_lt.mp fun h => z (gtO_some.mpr h)⟩
    have hrw : r ≤ w := sp.lb fun x e => by have := shut_false hs e rfl; omega
    have h1 : r ≤ mxO a r := by cases a <;> simp only [mxO] <;> omega
    have h2 : w ≤ mxO a w := by cases a <;> simp only [mxO] <;> omega
    have s1 : shutO (some (mxO a r)) (some y) = true := by simp only [shutO, decide_eq_true_eq]; omega
    have s2 : shutO (some (mxO a w)) (some y) = true := by simp only [shutO, decide_eq_true_eq]; omega
    exact ⟨iff_of_true s1 s2, fun h => absurd s2 h⟩
theorem side_low {r w : Int} {best a b : Option Int} (sp : Sp1 r w a b) (hs : ¬ shutO a b = true) (hb : ∀ m, best = some m → ∃ x, b = some x ∧ x ≤ m) :
    (shutO a (some (mnO b (mnO best r))) = true ↔ shutO a (some (mnO b w)) = true) ∧ (¬ shutO a (some (mnO b w)) = true → mnO b (mnO best r) = mnO b w) := by
  have e : mnO b (mnO best r) = mnO b r := by
    cases best with
    | none => rfl
    | some m =>
      obtain ⟨x, rfl, hx⟩ := hb m rfl
      simp only [mnO]
      omega
  rw [e]
  have key : ltO a r → mnO b r = mnO b w := fun z => by
    have h1 := sp.lb z
    cases b with
    | none => have := sp.ub (fun x e => by cases e); simp only [mnO]; omega
    | some x =>
      by_cases hx : r < x
      · have := sp.ub (gtO_some.mpr hx); simp only [mnO]; omega
      · simp only [mnO]; omega
  by_cases z : ltO a r
  · rw [key z]
    exact ⟨Iff.rfl, fun _ => rfl⟩
  · obtain ⟨y, rfl, hy⟩ : ∃ y, a = some y ∧ r ≤ y := by
      cases a with
      | none => exact absurd (fun y e => by cases e) z
      | some y => exact ⟨y, rfl, Int.not_lt.mp fun h => z (ltO_some.mpr h)⟩
    have hrw : w ≤ r := sp.ub fun x e => by have := shut_false hs rfl e; omega
    have h1 : mnO b r ≤ r := by cases b <;> simp only [mnO] <;> omega
    have h2 : mnO b w ≤ w := by cases b <;> simp only [mnO] <;> omega
    have s1 : shutO (some y) (some (mnO b r)) = true := by simp only [shutO, decide_eq_true_eq]; omega
    have s2 : shutO (some y) (some (mnO b w)) = true := by simp only [shutO, decide_eq_true_eq]; omega
    exact ⟨iff_of_true s1 s2, fun h => absurd s2 h⟩
theorem go_looks {rec : Nat → Option Int → Option Int → Int × List Nat} {rec' : Nat → Option Int → Option Int → List Nat} {s : Stn} (hr : ∀ j, j < s.l.length → ∀ a b, ¬ shutO a b = true → Sp1 (rec (s.l.getD j 0).toNat a b).1 (ws.getD (s.l.getD j 0).toNat 0) a b ∧ (rec (s.l.getD j 0).toNat a b).2 = rec' (s.l.getD j 0).toNat a b) :
    ∀ (js : List Nat) (best a b : Option Int), (∀ j ∈ js, j < s.l.length) → ¬ shutO a b = true → (s.x = "high" → ∀ m, best = some m → ∃ x, a = some x ∧ m ≤ x) → (s.x ≠ "high" → ∀ m, best = some m → ∃ x, b = some x ∧ x ≤ m) → (abgo rec s js best a b).2 = lkgo rec' ws s js a b
  | [], best, a, b, _, _, _, _ => rfl
  | j :: js, best, a, b, hjs, hs, h1, h2 => by
    obtain ⟨sp, hl⟩ := hr j (hjs j (by simp)) a b hs
    rw [abgo, lkgo]
    by_cases hx : s.x = "high"
    · rw [if_pos hx, if_pos hx]
      obtain ⟨g1, g2⟩ := side_high sp hs (h1 hx)
      by_cases hsh : shutO (some (mxO a (ws.getD (s.l.getD j 0).toNat 0))) b = true
      · rw [if_pos (g1.mpr hsh), if_pos hsh, List.append_nil]
        exact hl
      · rw [if_neg (fun z => hsh (g1.mp z)), if_neg hsh, g2 hsh, hl]
        simp only
        congr 1
        refine go_looks hr js _ _ _ (fun i hi => hjs i (List.mem_cons_of_mem _ hi)) hsh (fun _ m e => ?_) (fun z => absurd hx z)
        cases e
        refine ⟨_, rfl, ?_⟩
        rw [← g2 hsh]
        generalize (mxO best (rec (s.l.getD j 0).toNat a b).1) = m
        cases a <;> simp only [mxO] <;> omega
    · rw [if_neg hx, if_neg hx]
      obtain ⟨g1, g2⟩ := side_low sp hs (h2 hx)
      by_cases hsh : shutO a (some (mnO b (ws.getD (s.l.getD j 0).toNat 0))) = true
      · rw [if_pos (g1.mpr hsh), if_pos hsh, List.append_nil]
        exact hl
      · rw [if_neg (fun z => hsh (g1.mp z)), if_neg hsh, g2 hsh, hl]
        simp only
        congr 1
        refine go_looks hr js _ _ _ (fun i hi => hjs i (List.mem_cons_of_mem _ hi)) hsh (fun z => absurd z hx) (fun _ m e => ?_)
        cases e
        refine ⟨_, rfl, ?_⟩
        rw [← g2 hsh]
        generalize (mnO best (rec (s.l.getD j 0).toNat a b).1) = m
        cases b <;> simp only [mnO] <;> omega
theorem ab_looks (ok : POk P) (hw : WsOk P ws) (oo : OOk P O) (lv : Lv P fs) : ∀ (n k : Nat), k < P.length → Fu fs n k → ∀ a b, ¬ shutO a b = true → (ab P O n k a b).2 = lk P O ws n k a b
  | 0, k, hk, hf, _, _, _ => (Fu.zero lv hk hf).elim
  | n + 1, k, hk, hf, a, b, hs => by
    have hst : P[k]? = some P[k] := List.getElem?_eq_getElem hk
    generalize P[k] = s at hst
    have hp := oo.at_ hst
    have hmem : ∀ j, j ∈ O.getD k [] ↔ j < s.l.length := fun j => by rw [hp.mem_iff, List.mem_range]
    rw [ab, lk, getD_at hst]
    split
    · rfl
    · refine go_looks (fun j hj a b hsh => ?_) _ none a b (fun j hj => (hmem j).mp hj) hs (fun _ m e => by cases e) (fun _ m e => by cases e)
      obtain ⟨h1, h2⟩ := Fu.kid ok lv hst (kid_at hj) hf
      exact ⟨ab_sp ok hw oo lv n _ h1 h2 a b hsh, ab_looks ok hw oo lv n _ h1 h2 a b hsh⟩
end
/-! ### windows within windows -/
def leA : Option Int → Option Int → Prop
  | none, _ => True
  | some x, some y => x ≤ y
  | some _, none => False
def leB : Option Int → Option Int → Prop
  | _, none => True
  | some x, some y => x ≤ y
  | none, some _ => False
theorem shut_mono {a a' b b' : Option Int} (ha : leA a a') (hb : leB b' b) (h : shutO a b = true) : shutO a' b' = true := by
  obtain ⟨x, y, rfl, rfl, hxy⟩ := shut_true h
  cases a' with
  | none => exact ha.elim
  | some x' => cases b' with
    | none => exact hb.elim
    | some y' =>
      have h1 : x ≤ x' := ha
      have h2 : y' ≤ y := hb
      simp only [shutO, decide_eq_true_eq]
      omega
theorem leA_mx {a a' : Option Int} (ha : leA a a') (w : Int) : leA (some (mxO a w)) (some (mxO a' w)) := by
  show mxO a w ≤ mxO a' w
  cases a with
  | none => cases a' <;> simp only [mxO] <;> omega
  | some x => cases a' with
    | none => exact ha.elim
    | some y => have : x ≤ y := ha; simp only [mxO]; omega
theorem leB_mn {b b' : Option Int} (hb : leB b' b) (w : Int) : leB (some (mnO b' w)) (some (mnO b w)) := by
  show mnO b' w ≤ mnO b w
  cases b with
  | none => cases b' <;> simp only [mnO] <;> omega
  | some x => cases b' with
    | none => exact hb.elim
    | some y => have : y ≤ x := hb; simp only [mnO]; omega
section
variable {P : List Stn} {O : List (List Nat)} {ws : List Int}
theorem lkgo_mono {rec : Nat → Option Int → Option Int → List Nat} {s : Stn} (hr : ∀ c a a' b b', leA a a' → leB b' b → (rec c a' b').Sublist (rec c a b)) : ∀ (js : List Nat) (a a' b b' : Option Int), leA a a' → leB b' b → (lkgo rec ws s js a' b').Sublist (lkgo rec ws s js a b)
  | [], _, _, _, _, _, _ => List.Sublist.refl _
  | j :: js, a, a', b, b', ha, hb => by
    rw [lkgo, lkgo]
    refine List.Sublist.append (hr _ _ _ _ _ ha hb) ?_
    by_cases hx : s.x = "high"
    · rw [if_pos hx, if_pos hx]
      have h1 := leA_mx ha (ws.getD (s.l.getD j 0).toNat 0)
      split
      · exact List.nil_sublist _
      · rename_i hsh
        rw [if_neg (fun z => hsh (shut_mono h1 hb z))]
        exact lkgo_mono hr js _ _ _ _ h1 hb
    · rw [if_neg hx, if_neg hx]
      have h1 := leB_mn hb (ws.getD (s.l.getD j 0).toNat 0)
      split
      · exact List.nil_sublist _
      · rename_i hsh
        rw [if_neg (fun z => hsh (shut_mono ha h1 z))]
        exact lkgo_mono hr js _ _ _ _ ha h1
/-- a narrower window looks at no way that the wider one does not look at -/
theorem lk_mono : ∀ (n k : Nat) (a a' b b' : Option Int), leA a a' → leB b' b → (lk P O ws n k a' b').Sublist (lk P O ws n k a b)
  | 0, _, _, _, _, _, _, _ => List.Sublist.refl _
  | n + 1, k, a, a', b, b', ha, hb => by
    rw [lk, lk]
    split
    · exact List.Sublist.refl _
    · exact lkgo_mono (fun c a a' b b' h1 h2 => lk_mono n c a a' b b' h1 h2) _ _ _ _ _ ha hb
/-- the way, not looked at where it is shut -/
def lk' (P : List Stn) (O : List (List Nat)) (ws : List Int) (n k : Nat) (a b : Option Int) : List Nat := if shutO a b = true then [] else lk P O ws n k a b
theorem mx_mx (a : Option Int) (h w : Int) : mxO (some (mxO a h)) w = mxO (some (mxO a w)) h := by cases a <;> simp only [mxO] <;> omega
theorem mn_mn (a : Option Int) (h w : Int) : mnO (some (mnO a h)) w = mnO (some (mnO a w)) h := by cases a <;> simp only [mnO] <;> omega
theorem touch_go {n : Nat} {s : Stn} {h : Int} (ih : ∀ c a b e, ¬ shutO a b = true → e ∈ lk P O ws n c a b → e ∈ lk' P O ws n c a (some (mnO b h)) ∨ e ∈ lk' P O ws n c (some (mxO a h)) b) :
    ∀ (js : List Nat) (a b : Option Int) (e : Nat), ¬ shutO a b = true → e ∈ lkgo (lk P O ws n) ws s js a b → (¬ shutO a (some (mnO b h)) = true ∧ e ∈ lkgo (lk P O ws n) ws s js a (some (mnO b h))) ∨ (¬ shutO (some (mxO a h)) b = true ∧ e ∈ lkgo (lk P O ws n) ws s js (some (mxO a h)) b)
  | [], _, _, _, _, he => by cases he
  | j :: js, a, b, e, hs, he => by
    rw [lkgo] at he
    rw [lkgo, lkgo]
    rcases List.mem_append.mp he with he | he
    · rcases ih _ _ _ _ hs he with z | z
      · unfold lk' at z
        split at z
        · cases z
        · rename_i hz
          exact .inl ⟨hz, List.mem_append_left _ z⟩
      · unfold lk' at z
        split at z
        · cases z
        · rename_i hz
          exact .inr ⟨hz, List.mem_append_left _ z⟩
    · by_cases hx : s.x = "high"
      · rw [if_pos hx] at he
        split at he
        · cases he
        · rename_i hsh
          generalize ws.getD (s.l.getD j 0).toNat 0 = w at *
          have hle : leA a (some (mxO a w)) := by cases a <;> simp only [leA, mxO] <;> omega
          have hle2 : leA (some (mxO a h)) (some (mxO (some (mxO a w)) h)) := by show mxO a h ≤ _; cases a <;> simp only [mxO] <;> omega
          rcases touch_go ih js _ _ _ hsh he with ⟨z1, z2⟩ | ⟨z1, z2⟩
          · refine .inl ⟨fun y => z1 (shut_mono hle (by show mnO b h ≤ mnO b h; omega) y), List.mem_append_right _ ?_⟩
            rw [if_pos hx, if_neg z1]
            exact z2
          · refine .inr ⟨fun y => z1 (shut_mono hle2 (by cases b with | none => trivial | some y => exact Int.le_refl _) y), List.mem_append_right _ ?_⟩
            rw [if_pos hx, mx_mx, if_neg z1]
            exact z2
      · rw [if_neg hx] at he
        split at he
        · cases he
        · rename_i hsh
          generalize ws.getD (s.l.getD j 0).toNat 0 = w at *
          have hle : leB (some (mnO b w)) b := by cases b <;> simp only [leB, mnO] <;> omega
          have hle2 : leB (some (mnO (some (mnO b w)) h)) (some (mnO b h)) := by show _ ≤ mnO b h; cases b <;> simp only [mnO] <;> omega
          rcases touch_go ih js _ _ _ hsh he with ⟨z1, z2⟩ | ⟨z1, z2⟩
          · refine .inl ⟨fun y => z1 (shut_mono (by cases a with | none => trivial | some y => exact Int.le_refl _) hle2 y), List.mem_append_right _ ?_⟩
            rw [if_neg hx, mn_mn, if_neg z1]
            exact z2
          · refine .inr ⟨fun y => z1 (shut_mono (by show mxO a h ≤ mxO a h; omega) hle y), List.mem_append_right _ ?_⟩
            rw [if_neg hx, if_neg z1]
            exact z2
/-- two windows that touch look together at all -/
theorem lk_touch (h : Int) : ∀ (n k : Nat) (a b : Option Int) (e : Nat), ¬ shutO a b = true → e ∈ lk P O ws n k a b → e ∈ lk' P O ws n k a (some (mnO b h)) ∨ e ∈ lk' P O ws n k (some (mxO a h)) b
  | 0, _, _, _, _, _, he => by cases he
  | n + 1, k, a, b, e, hs, he => by
    unfold lk'
    rw [lk] at he
    rw [lk, lk]
    split at he
    · rename_i hl
      rw [if_pos hl, if_pos hl]
      by_cases h1 : shutO a (some (mnO b h)) = true
      · rw [if_pos h1]
        refine .inr ?_
        rw [if_neg]
        · exact he
        · intro h2
          obtain ⟨x, y, rfl, e1, hxy⟩ := shut_true h1
          obtain ⟨x2, y2, e2, rfl, hxy2⟩ := shut_true h2
          cases e1
          cases e2
          have := shut_false hs rfl rfl
          simp only [mxO, mnO] at *
          omega
      · rw [if_neg h1]
        exact .inl he
    · rename_i hl
      rw [if_neg hl, if_neg hl]
      rcases touch_go (fun c a b e h1 h2 => lk_touch h n c a b e h1 h2) _ _ _ _ hs he with ⟨z1, z2⟩ | ⟨z1, z2⟩
      · rw [if_neg z1]; exact .inl z2
      · rw [if_neg z1]; exact .inr z2
end
end VL
set_option Elab.async false
set_option linter.all false
set_option maxRecDepth 100000
set_option maxHeartbeats 4000000
namespace VL
open PySem PySem.Spec PyProof.Rows L2
def n_Search___init__ : List Str := ["self", "play", "order"]
def b_Search___init__ : List S := [.setatt "Search" "stands" (.var 0) (.var 1), .setatt "Search" "places" (.var 0) (.var 2), .setatt "Search" "seen" (.var 0) (.lst [])]

def n_Search_worth_from : List Str := ["self", "number", "low", "high", "stand", "best", "place", "found"]
def b_Search_worth_from : List S := [.asg 4 (.ix (.att "Search" "stands" (.var 0)) (.var 1)), .ife (.cmp .eq (.ix (.var 4) (.k (.int 0))) (.k (.str "end"))) [.ex (.mth .append (.att "Search" "seen" (.var 0)) [.var 1]), .ret (.ix (.var 4) (.k (.int 1)))] [], .asg 5 (.k .none), .for_ [6] .e [.ix (.att "Search" "places" (.var 0)) (.var 1)] [.asg 7 (.mcall "Search" "worth_from" (.var 0) [.ix (.ix (.var 4) (.k (.int 1))) (.var 6), .var 2, .var 3]), .ife (.cmp .eq (.ix (.var 4) (.k (.int 0))) (.k (.str "high"))) [.asg 5 (.ite (.cmp .is (.var 5) (.k .none)) (.var 7) (.blt .max [.var 5, .var 7])), .asg 2 (.ite (.cmp .is (.var 2) (.k .none)) (.var 5) (.blt .max [.var 2, .var 5]))] [.asg 5 (.ite (.cmp .is (.var 5) (.k .none)) (.var 7) (.blt .min [.var 5, .var 7])), .asg 3 (.ite (.cmp .is (.var 3) (.k .none)) (.var 5) (.blt .min [.var 3, .var 5]))], .ife (.call "is_shut" [.var 2, .var 3]) [.ret (.var 5)] []], .ret (.var 5)]

def n_unlike : List Str := ["some", "found", "one"]
def b_unlike : List S := [.asg 1 .dct0, .for_ [2] .e [.var 0] [.setdix (.var 1) (.var 2) (.k (.bool true))], .ret (.dlst (.var 1))]

def n_searched : List Str := ["play", "order", "window", "search", "worth", "low", "high"]
def b_searched : List S := [.ex (.call "look_at_order" [.var 0, .var 1]), .ife (.not (.call "is_window" [.var 2])) [.rse] [], .ex (.call "look_at_ways" [.var 0]), .asg 3 (.new "Search" [.var 0, .var 1]), .asg 4 (.mcall "Search" "worth_from" (.var 3) [.k (.int 0), .ix (.var 2) (.k (.int 0)), .ix (.var 2) (.k (.int 1))]), .unp [5, 6] (.call "shown_by" [.var 0, .call "unlike" [.att "Search" "seen" (.var 3)]]), .ife (.and (.cmp .isnot (.ix (.var 2) (.k (.int 0))) (.k .none)) (.cmp .le (.var 4) (.ix (.var 2) (.k (.int 0))))) [.ret (.tup [.k (.str "below"), .var 6, .att "Search" "seen" (.var 3)])] [], .ife (.and (.cmp .isnot (.ix (.var 2) (.k (.int 1))) (.k .none)) (.cmp .ge (.var 4) (.ix (.var 2) (.k (.int 1))))) [.ret (.tup [.k (.str "above"), .var 5, .att "Search" "seen" (.var 3)])] [], .ret (.tup [.k (.str "is"), .var 4, .att "Search" "seen" (.var 3)])]

def n_law_shuffled : List Str := ["_law_pool_here", "_law_some", "_law_found", "_law_one"]
def b_law_shuffled : List S := [.asg 2 (.lst []), .for_ [3] .e [.var 1] [.ex (.mth .insert (.var 2) [.call "_law_take" [.var 0, .bin .add (.blt .len [.var 2]) (.k (.int 1))], .var 3])], .ret (.var 2)]

def n_law_order : List Str := ["_law_pool_here", "_law_play_here", "_law_way", "_law_order_here", "_law_stand", "_law_places"]
def b_law_order : List S := [.asg 2 (.call "_law_take" [.var 0, .k (.int 4)]), .asg 3 (.lst []), .for_ [4] .e [.var 1] [.asg 5 (.ite (.cmp .ne (.ix (.var 4) (.k (.int 0))) (.k (.str "end"))) (.blt .listRange [.blt .len [.ix (.var 4) (.k (.int 1))]]) (.lst [])), .ife (.cmp .eq (.var 2) (.k (.int 1))) [.asg 5 (.rev (.var 5))] [], .ife (.cmp .gt (.var 2) (.k (.int 1))) [.asg 5 (.call "_law_shuffled" [.var 0, .var 5])] [], .ex (.mth .append (.var 3) [.var 5])], .ret (.var 3)]

def n_law_ways_many : List Str := ["_law_play_here", "_law_many", "_law_k", "_law_step"]
def b_law_ways_many : List S := [.asg 1 (.bin .mul (.lst [.k (.int 1)]) (.blt .len [.var 0])), .for_ [2] .rng3 [.bin .sub (.blt .len [.var 0]) (.k (.int 1)), .neg (.k (.int 1)), .neg (.k (.int 1))] [.ife (.cmp .ne (.ix (.ix (.var 0) (.var 2)) (.k (.int 0))) (.k (.str "end"))) [.setix (.var 1) (.var 2) (.blt .sum [.lc [3] false (.ix (.var 1) (.var 3)) .e [.ix (.ix (.var 0) (.var 2)) (.k (.int 1))] []])] []], .ret (.ix (.var 1) (.k (.int 0)))]

def n_law_worths2 : List Str := ["_law_play_here", "_law_found", "_law_k", "_law_stand", "_law_some", "_law_step"]
def b_law_worths2 : List S := [.asg 1 (.bin .mul (.lst [.k (.int 0)]) (.blt .len [.var 0])), .for_ [2] .rng3 [.bin .sub (.blt .len [.var 0]) (.k (.int 1)), .neg (.k (.int 1)), .neg (.k (.int 1))] [.asg 3 (.ix (.var 0) (.var 2)), .setix (.var 1) (.var 2) (.ix (.var 3) (.neg (.k (.int 1)))), .ife (.cmp .ne (.ix (.var 3) (.k (.int 0))) (.k (.str "end"))) [.asg 4 (.lc [5] false (.ix (.var 1) (.var 5)) .e [.ix (.var 3) (.k (.int 1))] []), .setix (.var 1) (.var 2) (.ix (.lst [.blt .min [.var 4], .blt .max [.var 4]]) (.blt .int [.cmp .eq (.ix (.var 3) (.k (.int 0))) (.k (.str "high"))]))] []], .ret (.var 1)]

def n_law_sures : List Str := ["_law_play_here", "_law_ends", "_law_hand_here", "_law_found", "_law_k", "_law_stand", "_law_some", "_law_known", "_law_step", "_law_one"]
def b_law_sures : List S := [.asg 3 (.bin .mul (.lst [.k .none]) (.blt .len [.var 0])), .for_ [4] .rng3 [.bin .sub (.blt .len [.var 0]) (.k (.int 1)), .neg (.k (.int 1)), .neg (.k (.int 1))] [.asg 5 (.ix (.var 0) (.var 4)), .ife (.cmp .eq (.ix (.var 5) (.k (.int 0))) (.k (.str "end"))) [.setix (.var 3) (.var 4) (.ix (.lst [.k .none, .ix (.var 5) (.k (.int 1))]) (.blt .int [.cmp .isin (.var 4) (.var 1)]))] [.asg 6 (.lc [8] false (.ix (.var 3) (.var 8)) .e [.ix (.var 5) (.k (.int 1))] []), .asg 7 (.lc [9] false (.var 9) .e [.var 6] [.cmp .isnot (.var 9) (.k .none)]), .ife (.and (.cmp .ne (.var 7) (.lst [])) (.or (.cmp .eq (.ix (.var 5) (.k (.int 0))) (.var 2)) (.cmp .eq (.blt .len [.var 7]) (.blt .len [.var 6])))) [.setix (.var 3) (.var 4) (.ix (.lst [.blt .min [.var 7], .blt .max [.var 7]]) (.blt .int [.cmp .eq (.ix (.var 5) (.k (.int 0))) (.k (.str "high"))]))] []]], .ret (.var 3)]

def n_law_shown : List Str := ["_law_play_here", "_law_ends"]
def b_law_shown : List S := [.ret (.tup [.ix (.call "_law_sures" [.var 0, .var 1, .k (.str "high")]) (.k (.int 0)), .ix (.call "_law_sures" [.var 0, .var 1, .k (.str "low")]) (.k (.int 0))])]

end VL
set_option Elab.async false
set_option linter.all false
set_option maxRecDepth 100000
set_option maxHeartbeats 4000000
/-! VS3: orders, windows. -/
namespace VL
open PySem PySem.Spec PyProof.Rows L2
local macro_rules | `(tactic| walk_at "vc") => `(tactic| first | with_reducible rfl | assumption | exact Nat.zero_le _ | exact noTup_md _ _ | exact Nat.le_of_ble_eq_true rfl | omega | rfl | trivial | focus (simp only [mkTup, T.leaves, T.noTup, T.noTupl, Kd.isTup, noTupl_md, noTupl_iT, noTupl_kids, PT, KT, Pool, kidT, Bool.not_false, Bool.and_self] <;> fail) | focus (refine ⟨?_, ?_⟩ <;> omega) | exact (fun _ => rfl))
local macro_rules | `(tactic| walk_at "vn") => `(tactic| (intro z; first | (with_unfolding_all exact Bool.noConfusion (show false = true from z)) | (with_unfolding_all exact Bool.noConfusion (show true = false from z)) | (focus (refine absurd z ?_; first | decide | (simp only [Bool.not_eq_true', Bool.not_eq_false', decide_eq_true_eq, decide_eq_false_iff_not, List.length_map, iT_len]; omega) | (simp <;> fail)))))
local macro_rules | `(tactic| walk_at "v1") => `(tactic| ((conv => whnf); (with_reducible refine And.intro ?_ ?_); first | (walk_at "vn"; try (with_reducible intro _)) | (rotate_left; walk_at "vn"; (with_reducible intro _)) | (with_unfolding_all walk_at "vc")))
local macro_rules | `(tactic| walk_at "v") => `(tactic| ((repeat walk_at "v1"); conv => whnf))
local macro_rules | `(tactic| row_has $h) => `(tactic| (rw [$h:ident]; walk_at "v"))
local macro_rules | `(tactic| walk_at "vs") => `(tactic| (refine holdW ?_; walk_at "v"))
local macro_rules | `(tactic| walk_at "vu") => `(tactic| refine unholdW ?_)
def OD (O : List (List Nat)) : PyData := .list (O.map nD)
theorem sortI_range {ps : List Nat} {m : Nat} (h : ps.Perm (List.range m)) : sortI (ps.map fun j : Nat => (j : Int)) = (List.range m).map fun j : Nat => (j : Int) := by
  refine (sortI_unique ((h.map _).symm) ?_).symm
  exact List.pairwise_map.mpr (List.pairwise_lt_range.imp fun z => by omega)
abbrev F_are_places : List T → (T → List T → Prop) → Prop := fun ts Q => ∃ (ps : List Nat) (m : Nat), ts = [.d (nD ps), .d (.int (m : Nat))] ∧ ps.Perm (List.range m) ∧ m < 1000000 ∧ Q (.d (.bool true)) [.dead, .dead]
abbrev fsArePlaces : FS := ⟨[.bor, .bor], F_are_places⟩
def Gm_are_places : Ctx := ⟨[("is_whole", fsIsWhole)], [], ["all", "isinstance", "list", "sorted", "range"], [], []⟩
theorem w_are_places : bodyW Gm_are_places n_are_places [.bor, .bor] b_are_places F_are_places := by
  intro ts Q h _
  obtain ⟨ps, m, rfl, hp, hm, q⟩ := h
  have hsl : sizeLine > 10000000 := by decide
  have hl := hp.length_eq
  rw [List.length_range] at hl
  show wSs Gm_are_places b_are_places _ [.d (nD ps), .d (.int (m : Nat)), .dead]
  refine holdW ?_
  walk_at "v"
  refine lcW_md (is := [2]) (σ := [.d (nD ps), .d (.int (m : Nat)), .dead]) (fun j : Nat => PyData.int j) (fun _ => .d (.bool true)) ps (fun c hc => ?_) (by omega) ?_
  · refine ⟨[.d (nD ps), .d (.int (m : Nat)), .d (.int c)], rfl, fun Q hQ => ?_, rfl⟩
    walk_at "v"
    exact ⟨.int c, rfl, rfl, fun z => (by cases z), hQ⟩
  conv => whnf
  rw [datas_md (fun _ : Nat => PyData.bool true)]
  conv => whnf
  rw [bools_md (fun _ : Nat => true)]
  conv => whnf
  refine ⟨fun z => absurd z (by simp), fun _ => ?_⟩
  walk_at "vu"
  show wSs Gm_are_places (b_are_places.drop 1) _ [.d (nD ps), .d (.int (m : Nat)), .dead]
  have hi := ints_md (fun k : Nat => (k : Int)) ps
  have e1 : ∀ σ, R.data (.v (.nd .list ((sortI (ps.map fun j : Nat => (j : Int))).map fun i => .d (.int i)))) σ = some (.list ((List.range m).map fun j => .int (j : Nat))) := fun σ => by
    rw [sortI_range hp, List.map_map]
    exact data_md (fun j : Nat => PyData.int j) (List.range m)
  have e2 : ∀ σ, R.data (.v (.nd .list ((List.range (m : Int).toNat).map fun (n : Nat) => T.d (.int (n : Int))))) σ = some (.list ((List.range m).map fun j => .int (j : Nat))) := fun σ => by
    rw [Int.toNat_natCast]
    exact data_md (fun j : Nat => PyData.int j) (List.range m)
  have hsh := (shp_nats (List.range m)).shaped (by decide)
  conv => whnf
  rw [hi]
  (conv => whnf); refine ⟨by omega, by omega, ?_⟩
  conv => whnf
  rw [e1, e2]
  (conv => whnf); refine ⟨hsh, hsh, ?_⟩
  rw [eqv_refl _ (shp_nats (List.range m)).1]
  walk_at "v"
  exact q
abbrev F_is_order : List T → (T → List T → Prop) → Prop := fun ts Q => ∃ (P : List Stn) (O : List (List Nat)), ts = [.d (PD P), .d (OD O)] ∧ POk P ∧ P.length < 1000000 ∧ OOk P O ∧ (∀ s ∈ P, s.l.length < 1000000) ∧ Q (.d (.bool true)) [.dead, .dead]
abbrev fsIsOrder : FS := ⟨[.bor, .bor], F_is_order⟩
def Gm_is_order : Ctx := ⟨[("are_places", fsArePlaces), ("steps_of", fsSteps)], [], ["len", "isinstance", "list", "all", "enumerate"], [], []⟩
theorem enum_md {α : Type} (f : α → PyData) (l : List α) : enumL (l.map f) = l.zipIdx.map fun p => .tuple [.int (p.2 : Nat), f p.1] := by
  unfold enumL
  apply List.ext_getElem
  · simp
  · intro i h1 h2
    simp at h1 h2
    simp [List.getD_eq_getElem?_getD, List.getElem?_eq_getElem h1]
theorem w_is_order : bodyW Gm_is_order n_is_order [.bor, .bor] b_is_order F_is_order := by
  intro ts Q h _
  obtain ⟨P, O, rfl, ok, hlt, oo, hfw, q⟩ := h
  have hsl : sizeLine > 10000000 := by decide
  have h1 : (O.map nD).length = O.length := List.length_map _
  have h2 : (P.map Stn.d).length = P.length := List.length_map _
  have h3 := oo.len
  have hdec : decide ((((O.map nD).length : Nat) : Int) = (((P.map Stn.d).length : Nat) : Int)) = true := decide_eq_true (by omega)
  show wSs Gm_is_order b_is_order _ [.d (PD P), .d (OD O), .dead, .dead]
  refine holdW ?_
  walk_at "v"
  walk_at "vu"
  show wSs Gm_is_order (b_is_order.drop 1) _ [.d (PD P), .d (OD O), .dead, .dead]
  walk_at "v"
  rw [enum_md nD O]
  refine lcW_md (is := [2, 3]) (σ := [.d (PD P), .d (OD O), .dead, .dead]) (fun p : List Nat × Nat => .tuple [.int (p.2 : Nat), nD p.1]) (fun _ => .d (.bool true)) O.zipIdx (fun p hp => ?_) (by rw [List.length_zipIdx]; omega) ?_
  · obtain ⟨ps, k⟩ := p
    have hk : O[k]? = some ps := List.mem_zipIdx_iff_getElem?.mp hp
    have hkl : k < P.length := by rw [← h3]; exact (List.getElem?_eq_some_iff.mp hk).1
    have hs : P[k]? = some P[k] := List.getElem?_eq_getElem hkl
    generalize P[k] = s at hs
    obtain ⟨ps', g1, g2⟩ := oo.per k s hs
    rw [hk] at g1
    cases g1
    refine ⟨[.d (PD P), .d (OD O), .d (.int k), .d (nD ps)], rfl, fun Q hQ => ?_, rfl⟩
    walk_at "v"
    refine ⟨P, k, s, rfl, hs, ok.hand s (List.mem_of_getElem? hs), fun z => (by cases z), ?_⟩
    have hsl2 : (s.l.map PyData.int).length = s.l.length := List.length_map _
    walk_at "v"
    exact ⟨ps, s.l.length, by rw [hsl2], g2, hfw s (List.mem_of_getElem? hs), fun z => (by cases z), hQ⟩
  conv => whnf
  rw [datas_md (fun _ : List Nat × Nat => PyData.bool true)]
  conv => whnf
  rw [bools_md (fun _ : List Nat × Nat => true)]
  conv => whnf
  have : (O.zipIdx.map fun _ => true).all id = true := by simp
  rw [this]
  exact q
abbrev F_look_at_order : List T → (T → List T → Prop) → Prop := fun ts Q => ∃ (P : List Stn) (O : List (List Nat)), ts = [.d (PD P), .d (OD O)] ∧ POk P ∧ P.length < 1000000 ∧ OOk P O ∧ (∀ s ∈ P, s.l.length < 1000000) ∧ Q (.d .none) [.dead, .dead]
abbrev fsLookOrder : FS := ⟨[.bor, .bor], F_look_at_order⟩
def Gm_look_at_order : Ctx := ⟨[("is_order", fsIsOrder)], [], [], [], []⟩
theorem w_look_at_order : bodyW Gm_look_at_order n_look_at_order [.bor, .bor] b_look_at_order F_look_at_order := by
  intro ts Q h _
  obtain ⟨P, O, rfl, ok, hlt, oo, hfw, q⟩ := h
  walk_at "v"
  refine ⟨P, O, rfl, ok, hlt, oo, hfw, fun z => (by cases z), ?_⟩
  walk_at "v"
  exact q
def wiD (a b : Option Int) : PyData := .tuple [oD a, oD b]
abbrev F_is_window : List T → (T → List T → Prop) → Prop := fun ts Q => ∃ a b : Option Int, ts = [.d (wiD a b)] ∧ ¬ shutO a b = true ∧ Q (.d (.bool true)) [.dead]
abbrev fsIsWindow : FS := ⟨[.bor], F_is_window⟩
def Gm_is_window : Ctx := ⟨[("is_whole", fsIsWhole)], [], ["len", "isinstance", "tuple"], [], []⟩
theorem w_is_window : bodyW Gm_is_window n_is_window [.bor] b_is_window F_is_window := by
  intro ts Q h _
  obtain ⟨a, b, rfl, hs, q⟩ := h
  cases a with
  | none => cases b with
    | none => walk_at "v"; exact q
    | some y =>
      walk_at "v"
      refine ⟨_, rfl, rfl, fun z => (by cases z), ?_⟩
      walk_at "v"
      exact q
  | some x => cases b with
    | none =>
      walk_at "v"
      refine ⟨_, rfl, rfl, fun z => (by cases z), ?_⟩
      walk_at "v"
      exact q
    | some y =>
      have hxy := shut_false hs rfl rfl
      have hdec : decide (x < y) = true := decide_eq_true hxy
      walk_at "v"
      refine ⟨_, rfl, rfl, fun z => (by cases z), ?_⟩
      walk_at "v"
      refine ⟨_, rfl, rfl, fun z => (by cases z), ?_⟩
      walk_at "v"
      rw [hdec]
      exact q
abbrev F_is_shut : List T → (T → List T → Prop) → Prop := fun ts Q => ∃ a b : Option Int, ts = [.d (oD a), .d (oD b)] ∧ Q (.d (.bool (shutO a b))) [.dead, .dead]
abbrev fsIsShut : FS := ⟨[.bor, .bor], F_is_shut⟩
def Gm_is_shut : Ctx := ⟨[], [], [], [], []⟩
theorem w_is_shut : bodyW Gm_is_shut n_is_shut [.bor, .bor] b_is_shut F_is_shut := by
  intro ts Q h _
  obtain ⟨a, b, rfl, q⟩ := h
  cases a with
  | none => walk_at "v"; cases b <;> exact q
  | some x => cases b with
    | none => walk_at "v"; exact q
    | some y => walk_at "v"; exact q
abbrev F_look_at_ways : List T → (T → List T → Prop) → Prop := fun ts Q => ∃ (P : List Stn) (ms : List Int) (v : Int), ts = [.d (PD P)] ∧ POk P ∧ P.length < 1000000 ∧ MwOk P ms ∧ ms[0]? = some v ∧ v ≤ 2000 ∧ Q (.d .none) [.dead]
abbrev fsLookWays : FS := ⟨[.bor], F_look_at_ways⟩
def Gm_look_at_ways : Ctx := ⟨[("ways_many", fsWaysMany)], [("MOST_WAYS", .int 2000)], [], [], []⟩
theorem mwOk_unique {P : List Stn} {ms ns : List Int} (ok : POk P) (h : MwOk P ms) (g : MwOk P ns) : ms = ns := by
  have key : ∀ (m k : Nat), P.length - k ≤ m → ms.getD k 0 = ns.getD k 0 := by
    intro m
    induction m with
    | zero =>
      intro k hk
      rw [List.getD_eq_getElem?_getD, List.getD_eq_getElem?_getD, List.getElem?_eq_none (by rw [h.len]; omega), List.getElem?_eq_none (by rw [g.len]; omega)]
    | succ m ih =>
      intro k hk
      by_cases hkl : k < P.length
      · have hs : P[k]? = some P[k] := List.getElem?_eq_getElem hkl
        generalize P[k] = s at hs
        rw [List.getD_eq_getElem?_getD, List.getD_eq_getElem?_getD, h.val k s hs, g.val k s hs]
        show mval s ms = mval s ns
        unfold mval
        split
        · rfl
        · congr 1
          refine List.map_congr_left fun c hc => ?_
          have := ok.up k s hs c hc
          exact ih c.toNat (by omega)
      · rw [List.getD_eq_getElem?_getD, List.getD_eq_getElem?_getD, List.getElem?_eq_none (by rw [h.len]; omega), List.getElem?_eq_none (by rw [g.len]; omega)]
  apply List.ext_getElem?
  intro k
  have := key P.length k (by omega)
  by_cases hkl : k < P.length
  · rw [List.getD_eq_getElem?_getD, List.getD_eq_getElem?_getD, List.getElem?_eq_getElem (by rw [h.len]; exact hkl), List.getElem?_eq_getElem (by rw [g.len]; exact hkl)] at this
    rw [List.getElem?_eq_getElem (by rw [h.len]; exact hkl), List.getElem?_eq_getElem (by rw [g.len]; exact hkl)]
    simpa using this
  · rw [List.getElem?_eq_none (by rw [h.len]; omega), List.getElem?_eq_none (by rw [g.len]; omega)]
theorem w_look_at_ways : bodyW Gm_look_at_ways n_look_at_ways [.bor] b_look_at_ways F_look_at_ways := by
  intro ts Q h _
  obtain ⟨P, ms, v, rfl, ok, hlt, hm, hv, hle, q⟩ := h
  have hdec : decide ((2000 : Int) < v) = false := decide_eq_false (by omega)
  walk_at "v"
  refine ⟨P, rfl, ok, hlt, fun ms' v' hm' hv' => ⟨fun z => (by cases z), ?_⟩⟩
  have e := mwOk_unique ok hm' hm
  subst e
  rw [hv] at hv'
  cases hv'
  walk_at "v"
  exact q
/-- each once, in the order of the first ones -/
def uniqL (l : List Nat) : List Nat := l.foldl (fun acc x => if x ∈ acc then acc else acc ++ [x]) []
theorem uniqL_snoc (l : List Nat) (x : Nat) : uniqL (l ++ [x]) = if x ∈ uniqL l then uniqL l else uniqL l ++ [x] := by
  unfold uniqL
  rw [List.foldl_append]
  rfl
theorem snoc_ind {α : Type} {p : List α → Prop} (h0 : p []) (hs : ∀ l x, p l → p (l ++ [x])) (l : List α) : p l := by
  have : ∀ r : List α, p r.reverse := fun r => by
    induction r with
    | nil => exact h0
    | cons x r ih => rw [List.reverse_cons]; exact hs _ _ ih
  rw [← List.reverse_reverse l]
  exact this _
theorem uniqL_mem (l : List Nat) : ∀ x : Nat, x ∈ uniqL l ↔ x ∈ l := by
  refine snoc_ind (p := fun l => ∀ x : Nat, x ∈ uniqL l ↔ x ∈ l) (fun x => by simp [uniqL]) (fun l y ih x => ?_) l
  rw [uniqL_snoc, List.mem_append, List.mem_singleton]
  split
  · rename_i h
    rw [ih]
    exact ⟨.inl, fun z => z.elim id fun e => e ▸ (ih y).mp h⟩
  · rw [List.mem_append, List.mem_singleton, ih]
theorem uniqL_nd (l : List Nat) : (uniqL l).Nodup := by
  refine snoc_ind (p := fun l => (uniqL l).Nodup) (by simp [uniqL]) (fun l y ih => ?_) l
  rw [uniqL_snoc]
  split
  · exact ih
  · rename_i h
    rw [List.nodup_append]
    exact ⟨ih, by simp, fun a ha b hb e => h (by rw [List.mem_singleton] at hb; rw [← hb, ← e]; exact ha)⟩
theorem uniqL_len (l : List Nat) : (uniqL l).length ≤ l.length := by
  refine snoc_ind (p := fun l => (uniqL l).length ≤ l.length) (by simp [uniqL]) (fun l y ih => ?_) l
  rw [uniqL_snoc]
  split <;> simp <;> omega
end VL
set_option Elab.async false
set_option linter.all false
set_option maxRecDepth 100000
set_option maxHeartbeats 4000000
/-! VS4: unlike; Search. -/
namespace VL
open PySem PySem.Spec PyProof.Rows L2
local macro_rules | `(tactic| walk_at "vc") => `(tactic| first | with_reducible rfl | assumption | exact Nat.zero_le _ | exact noTup_md _ _ | exact Nat.le_of_ble_eq_true rfl | omega | rfl | trivial | focus (simp only [mkTup, T.leaves, T.noTup, T.noTupl, Kd.isTup, noTupl_md, noTupl_iT, noTupl_kids, PT, KT, Pool, kidT, Bool.not_false, Bool.and_self] <;> fail) | focus (refine ⟨?_, ?_⟩ <;> omega) | exact (fun _ => rfl))
local macro_rules | `(tactic| walk_at "vn") => `(tactic| (intro z; first | (with_unfolding_all exact Bool.noConfusion (show false = true from z)) | (with_unfolding_all exact Bool.noConfusion (show true = false from z)) | (focus (refine absurd z ?_; first | decide | (simp only [Bool.not_eq_true', Bool.not_eq_false', decide_eq_true_eq, decide_eq_false_iff_not, List.length_map, iT_len]; omega) | (simp <;> fail)))))
local macro_rules | `(tactic| walk_at "v1") => `(tactic| ((conv => whnf); (with_reducible refine And.intro ?_ ?_); first | (walk_at "vn"; try (with_reducible intro _)) | (rotate_left; walk_at "vn"; (with_reducible intro _)) | (with_unfolding_all walk_at "vc")))
local macro_rules | `(tactic| walk_at "v") => `(tactic| ((repeat walk_at "v1"); conv => whnf))
local macro_rules | `(tactic| row_has $h) => `(tactic| (rw [$h:ident]; walk_at "v"))
local macro_rules | `(tactic| walk_at "vs") => `(tactic| (refine holdW ?_; walk_at "v"))
local macro_rules | `(tactic| walk_at "vu") => `(tactic| refine unholdW ?_)
def unK (l : List Nat) : List Key := l.map fun j => .inl ((j : Nat) : Int)
def unT (l : List Nat) : List T := l.map fun _ => .d (.bool true)
theorem unT_rep (l : List Nat) (k : Key) : ∀ ks : List Key, List.zipWith (fun k' t' => if k' = k then T.d (.bool true) else t') ks (unT l) = (unT l).take ks.length := by
  induction l with
  | nil => intro ks; cases ks <;> simp [unT]
  | cons x l ih =>
    intro ks
    cases ks with
    | nil => simp
    | cons k' ks =>
      have := ih ks
      unfold unT at this ⊢
      rw [List.map_cons, List.zipWith_cons_cons, this]
      simp
theorem dput_un (l : List Nat) (x : Nat) : dput (unK l) (unT l) (.inl (x : Int)) (.d (.bool true)) = (unK (if x ∈ l then l else l ++ [x]), unT (if x ∈ l then l else l ++ [x])) := by
  have hm : ((unK l).any fun k' => decide (k' = (.inl (x : Int) : Key))) = true ↔ x ∈ l := by
    rw [List.any_eq_true]
    constructor
    · rintro ⟨k, hk, e⟩
      obtain ⟨j, hj, rfl⟩ := List.mem_map.mp hk
      have : j = x := by have := Sum.inl.inj (of_decide_eq_true e); omega
      exact this ▸ hj
    · intro h
      exact ⟨_, List.mem_map.mpr ⟨x, h, rfl⟩, decide_eq_true rfl⟩
  unfold dput
  by_cases h : x ∈ l
  · rw [if_pos (hm.mpr h), if_pos h, unT_rep]
    congr 1
    rw [show (unK l).length = (unT l).length by unfold unK unT; simp, List.take_length]
  · rw [if_neg (fun z => h (hm.mp z)), if_neg h]
    unfold unK unT
    simp
abbrev F_unlike : List T → (T → List T → Prop) → Prop := fun ts Q => ∃ l : List Nat, ts = [.d (nD l)] ∧ l.length < 10000000 ∧ Q (.nd .list (nT (uniqL l))) [.dead]
abbrev fsUnlike : FS := ⟨[.bor], F_unlike⟩
def Gm_unlike : Ctx := ⟨[], [], ["list"], [], []⟩
theorem w_unlike : bodyW Gm_unlike n_unlike [.bor] b_unlike F_unlike := by
  intro ts Q h _
  obtain ⟨l, rfl, hl, q⟩ := h
  have hsl : sizeLine > 10000000 := by decide
  show wSs Gm_unlike b_unlike _ [.d (nD l), .dead, .dead]
  walk_at "vs"
  walk_at "vu"
  show wSs Gm_unlike (b_unlike.drop 1) _ [.d (nD l), .nd (.dict (unK [])) (unT []), .dead]
  walk_at "vs"
  refine forW_k (l.map fun j => PyData.int (j : Nat)) (fun m σ => ∃ x2, σ = [.d (nD l), .nd (.dict (unK (uniqL (l.take m)))) (unT (uniqL (l.take m))), x2]) ?_ ?_ ⟨_, rfl⟩
  · rintro σ ⟨x2, rfl⟩
    walk_at "vu"
    rw [List.length_map, List.take_length]
    generalize uniqL l = u at *
    have hdv : (R.p 1 []).dv [.d (nD l), .nd (.dict (unK u)) (unT u), x2] = some ((unK u).zip (u.map fun _ => PyData.bool true)) := by
      unfold R.dv R.get
      simp only [List.getElem?_cons_succ, List.getElem?_cons_zero, T.at]
      rw [show T.leaves (unT u) = some (u.map fun _ => PyData.bool true) from leaves_md (fun _ : Nat => PyData.bool true) u]
    have hk : ((unK u).zip (u.map fun _ => PyData.bool true)).map (fun p => T.d (keyD p.1)) = nT u := by
      rw [show (fun p : Key × PyData => T.d (keyD p.1)) = (T.d ∘ keyD) ∘ Prod.fst from rfl, ← List.map_map, List.map_fst_zip (by unfold unK; simp)]
      unfold unK nT
      rw [List.map_map]
      rfl
    conv => whnf
    rw [hdv]
    conv => whnf
    rw [hk]
    exact q
  · rintro m x σ N hx hN - - - ⟨x2, rfl⟩
    rw [List.getElem?_map] at hx
    obtain ⟨c, hc, rfl⟩ := Option.map_eq_some_iff.mp hx
    have hm : m < l.length := (List.getElem?_eq_some_iff.mp hc).1
    have hlen : (unK (uniqL (l.take m))).length < sizeLine := by
      have h1 := uniqL_len (l.take m)
      have h2 := List.length_take_le m l
      unfold unK
      rw [List.length_map]
      omega
    have hdp := dput_un (uniqL (l.take m)) c
    rw [← uniqL_snoc] at hdp
    have htk : l.take m ++ [c] = l.take (m + 1) := by rw [List.take_succ, hc]; rfl
    rw [htk] at hdp
    walk_at "v"
    refine hN _ ⟨.d (.int c), ?_⟩
    rw [← show (dput (unK (uniqL (l.take m))) (unT (uniqL (l.take m))) (.inl (c : Int)) (.d (.bool true))).1 = unK (uniqL (l.take (m + 1))) by rw [hdp], ← show (dput (unK (uniqL (l.take m))) (unT (uniqL (l.take m))) (.inl (c : Int)) (.d (.bool true))).2 = unT (uniqL (l.take (m + 1))) by rw [hdp]]
    rfl
/-- a search, as an object -/
def SrT (C : Addr) (P : List Stn) (O : List (List Nat)) (seen : List Nat) : T := .nd (.inst C ["stands", "places", "seen"]) [.d (PD P), .d (OD O), .nd .list (nT seen)]
abbrev F_Search___init__ (C : Addr) : List T → (T → List T → Prop) → Prop := fun ts Q => ∃ (P : List Stn) (O : List (List Nat)), ts = [.nd (.inst C []) [], .d (PD P), .d (OD O)] ∧ Q (.d .none) [SrT C P O [], .dead, .dead]
abbrev fsSInit (C : Addr) : FS := ⟨[.own, .bor, .bor], F_Search___init__ C⟩
abbrev ci_Search0 (C : Addr) : CI := ⟨C, [], ["stands", "places", "seen"]⟩
def Gm_Search___init__ (C : Addr) : Ctx := ⟨[], [], [], [0], [("Search", ci_Search0 C)]⟩
theorem w_Search___init__ (C : Addr) : bodyW (Gm_Search___init__ C) n_Search___init__ [.own, .bor, .bor] b_Search___init__ (F_Search___init__ C) := by
  intro ts Q h _
  obtain ⟨P, O, rfl, q⟩ := h
  walk_at "v"
  exact q
/-! ### the search -/
theorem abgo_len {rec : Nat → Option Int → Option Int → Int × List Nat} {s : Stn} {f : Nat → Int} (hr : ∀ j, j < s.l.length → ∀ a b, ((rec (s.l.getD j 0).toNat a b).2.length : Int) ≤ f j) (hf : ∀ j, j < s.l.length → 0 ≤ f j) :
    ∀ (js : List Nat) (best a b : Option Int), (∀ j ∈ js, j < s.l.length) → ((abgo rec s js best a b).2.length : Int) ≤ (js.map f).sum
  | [], _, _, _, _ => by simp [abgo]
  | j :: js, best, a, b, hj => by
    have h1 := hr j (hj j (by simp)) a b
    have hs : 0 ≤ (js.map f).sum := by
      have : ∀ l : List Nat, (∀ i ∈ l, i < s.l.length) → 0 ≤ (l.map f).sum := by
        intro l
        induction l with
        | nil => intro _; simp
        | cons i l ih =>
          intro hl
          have h1 := hf i (hl i (by simp))
          have h2 := ih fun k hk => hl k (List.mem_cons_of_mem _ hk)
          simp only [List.map_cons, List.sum_cons]
          omega
      exact this js fun i hi => hj i (List.mem_cons_of_mem _ hi)
    rw [abgo, List.map_cons, List.sum_cons]
    by_cases hx : s.x = "high"
    · rw [if_pos hx]
      split
      · simp only; omega
      · have h2 := abgo_len hr hf js (some (mxO best (rec (s.l.getD j 0).toNat a b).1)) (some (mxO a (mxO best (rec (s.l.getD j 0).toNat a b).1))) b fun i hi => hj i (List.mem_cons_of_mem _ hi)
        simp only [List.length_append]
        push_cast
        omega
    · rw [if_neg hx]
      split
      · simp only; omega
      · have h2 := abgo_len hr hf js (some (mnO best (rec (s.l.getD j 0).toNat a b).1)) a (some (mnO b (mnO best (rec (s.l.getD j 0).toNat a b).1))) fun i hi => hj i (List.mem_cons_of_mem _ hi)
        simp only [List.length_append]
        push_cast
        omega
theorem mw_pos {P : List Stn} {ms : List Int} (ok : POk P) (hm : MwOk P ms) : ∀ k, k < P.length → 1 ≤ ms.getD k 0 := by
  have key : ∀ (n k : Nat), P.length - k ≤ n → k < P.length → 1 ≤ ms.getD k 0 := by
    intro n
    induction n with
    | zero => intro k h1 h2; omega
    | succ n ih =>
      intro k h1 h2
      have hs : P[k]? = some P[k] := List.getElem?_eq_getElem h2
      generalize P[k] = s at hs
      rw [List.getD_eq_getElem?_getD, hm.val k s hs]
      show 1 ≤ mval s ms
      unfold mval
      split
      · omega
      · rename_i hl
        have hup := ok.up k s hs
        have all : ∀ x ∈ s.l.map (fun c => ms.getD c.toNat 0), 1 ≤ x := fun x hx => by
          obtain ⟨c, hc, rfl⟩ := List.mem_map.mp hx
          have := hup c hc
          exact ih c.toNat (by omega) (by omega)
        have hne : s.l.map (fun c => ms.getD c.toNat 0) ≠ [] := by simpa using hl
        generalize s.l.map (fun c => ms.getD c.toNat 0) = l at *
        have : ∀ l : List Int, (∀ x ∈ l, 1 ≤ x) → (l.length : Int) ≤ l.sum := by
          intro l
          induction l with
          | nil => intro _; simp
          | cons x l ih =>
            intro h
            have h1 := h x (by simp)
            have h2 := ih fun y hy => h y (List.mem_cons_of_mem _ hy)
            simp only [List.length_cons, List.sum_cons]
            push_cast
            omega
        have h3 := this l all
        have h4 := List.length_pos_iff.mpr hne
        omega
  exact fun k hk => key P.length k (by omega) hk
theorem perm_sum {l l' : List Int} (h : l.Perm l') : l.sum = l'.sum := by
  induction h with
  | nil => rfl
  | cons x _ ih => simp only [List.sum_cons, ih]
  | swap x y l => simp only [List.sum_cons]; omega
  | trans _ _ h1 h2 => exact h1.trans h2
theorem mw_sum {P : List Stn} {ms : List Int} {O : List (List Nat)} (hm : MwOk P ms) (oo : OOk P O) {k : Nat} {s : Stn} (hs : P[k]? = some s) (hl : s.l ≠ []) : ((O.getD k []).map fun j => ms.getD (s.l.getD j 0).toNat 0).sum = ms.getD k 0 := by
  have h1 := perm_sum ((oo.at_ hs).map fun j => ms.getD (s.l.getD j 0).toNat 0)
  rw [h1, List.getD_eq_getElem?_getD (l := ms) (i := k), hm.val k s hs]
  show _ = mval s ms
  unfold mval
  rw [if_neg hl]
  congr 1
  apply List.ext_getElem
  · simp
  · intro i h2 h3
    simp at h2 h3
    simp [List.getD_eq_getElem?_getD, List.getElem?_eq_getElem h3]
theorem ab_len {P : List Stn} {O : List (List Nat)} {ms fs : List Int} (ok : POk P) (oo : OOk P O) (hm : MwOk P ms) (lv : Lv P fs) : ∀ (n k : Nat), k < P.length → ∀ a b, ((ab P O n k a b).2.length : Int) ≤ ms.getD k 0
  | 0, k, hk, a, b => by
    have := mw_pos ok hm k hk
    rw [ab]
    simp only [List.length_nil]
    omega
  | n + 1, k, hk, a, b => by
    have hs : P[k]? = some P[k] := List.getElem?_eq_getElem hk
    generalize P[k] = s at hs
    have hpos := mw_pos ok hm k hk
    have hup := ok.up k s hs
    rw [ab, getD_at hs]
    split
    · simp only [List.length_singleton]; omega
    · rename_i hl
      rw [← mw_sum hm oo hs hl]
      have hmem : ∀ j ∈ O.getD k [], j < s.l.length := fun j hj => List.mem_range.mp ((oo.at_ hs).mem_iff.mp hj)
      have hc : ∀ j, j < s.l.length → (s.l.getD j 0).toNat < P.length := fun j hj => by have := hup _ (kid_at hj); omega
      exact abgo_len (f := fun j => ms.getD (s.l.getD j 0).toNat 0) (fun j hj a b => ab_len ok oo hm lv n _ (hc j hj) a b) (fun j hj => by have := mw_pos ok hm _ (hc j hj); omega) _ _ _ _ hmem
end VL
set_option Elab.async false
set_option linter.all false
set_option maxRecDepth 100000
set_option maxHeartbeats 4000000
/-! VS5: Search.worth_from. -/
namespace VL
open PySem PySem.Spec PyProof.Rows L2
local macro_rules | `(tactic| walk_at "vc") => `(tactic| first | with_reducible rfl | assumption | exact Nat.zero_le _ | exact noTup_md _ _ | exact Nat.le_of_ble_eq_true rfl | omega | rfl | trivial | focus (simp only [mkTup, T.leaves, T.noTup, T.noTupl, Kd.isTup, noTupl_md, noTupl_iT, noTupl_kids, PT, KT, Pool, kidT, Bool.not_false, Bool.and_self] <;> fail) | focus (refine ⟨?_, ?_⟩ <;> omega) | exact (fun _ => rfl))
local macro_rules | `(tactic| walk_at "vn") => `(tactic| (intro z; first | (with_unfolding_all exact Bool.noConfusion (show false = true from z)) | (with_unfolding_all exact Bool.noConfusion (show true = false from z)) | (focus (refine absurd z ?_; first | decide | (simp only [Bool.not_eq_true', Bool.not_eq_false', decide_eq_true_eq, decide_eq_false_iff_not, List.length_map, iT_len]; omega) | (simp <;> fail)))))
local macro_rules | `(tactic| walk_at "v1") => `(tactic| ((conv => whnf); (with_reducible refine And.intro ?_ ?_); first | (walk_at "vn"; try (with_reducible intro _)) | (rotate_left; walk_at "vn"; (with_reducible intro _)) | (with_unfolding_all walk_at "vc")))
local macro_rules | `(tactic| walk_at "v") => `(tactic| ((repeat walk_at "v1"); conv => whnf))
local macro_rules | `(tactic| row_has $h) => `(tactic| (rw [$h:ident]; walk_at "v"))
local macro_rules | `(tactic| walk_at "vs") => `(tactic| (refine holdW ?_; walk_at "v"))
local macro_rules | `(tactic| walk_at "vu") => `(tactic| refine unholdW ?_)
abbrev F_Search_worth_from (C : Addr) (n : Nat) : List T → (T → List T → Prop) → Prop := fun ts Q => ∃ (P : List Stn) (O : List (List Nat)) (fs ms : List Int) (k : Nat) (a b : Option Int) (seen : List Nat),
  ts = [SrT C P O seen, .d (.int (k : Nat)), .d (oD a), .d (oD b)] ∧ POk P ∧ OOk P O ∧ Lv P fs ∧ MwOk P ms ∧ k < P.length ∧ Fu fs n k ∧ (seen.length : Int) + ms.getD k 0 < 10000000 ∧
  Q (.d (.int (ab P O n k a b).1)) [SrT C P O (seen ++ (ab P O n k a b).2), .dead, .dead, .dead]
theorem F_Search_worth_from_zero {C : Addr} {ts : List T} {Q : T → List T → Prop} (h : F_Search_worth_from C 0 ts Q) : False := by
  obtain ⟨P, O, fs, ms, k, a, b, seen, _, ok, _, lv, _, hk, hf, _⟩ := h
  exact Fu.zero lv hk hf
abbrev fsWF (C : Addr) (n : Nat) : FS := ⟨[.own, .bor, .bor, .bor], F_Search_worth_from C n⟩
abbrev ci_SearchR (C : Addr) (n : Nat) : CI := ⟨C, [("worth_from", fsWF C n)], ["stands", "places", "seen"]⟩
def Gm_Search_worth_from (C : Addr) (n : Nat) : Ctx := ⟨[("is_shut", fsIsShut)], [], ["max", "min"], [0], [("Search", ci_SearchR C n)]⟩
theorem oD_some1 (x : Int) : oD (some x) = .int x := rfl
theorem w_Search_worth_from (C : Addr) (n : Nat) : bodyW (Gm_Search_worth_from C n) n_Search_worth_from [.own, .bor, .bor, .bor] b_Search_worth_from (F_Search_worth_from C (n + 1)) := by
  intro ts Q h _
  obtain ⟨P, O, fs, ms, k, a0, b0, seen0, rfl, ok, oo, lv, hm, hk, hf, hlen, q⟩ := h
  have hsl : sizeLine > 10000000 := by decide
  have hs : P[k]? = some P[k] := List.getElem?_eq_getElem hk
  generalize P[k] = s at hs
  have hpos := mw_pos ok hm k hk
  have hx : s.x = "high" ∨ s.x = "low" := ok.hand s (List.mem_of_getElem? hs)
  have hxe : s.x ≠ "end" := by rcases hx with z | z <;> rw [z] <;> decide
  have hup := ok.up k s hs
  rw [ab, getD_at hs] at q
  show wSs (Gm_Search_worth_from C n) b_Search_worth_from _ [SrT C P O seen0, .d (.int (k : Nat)), .d (oD a0), .d (oD b0), .dead, .dead, .dead, .dead]
  by_cases hl0 : s.l = []
  · rw [if_pos hl0] at q
    have hat : atI (P.map Stn.d) (k : Nat) = some (.tuple [.str "end", .int s.w]) := by rw [atI_PD hs, Stn.d, if_pos hl0]
    have hsn : (nT seen0).length < sizeLine := by rw [nT_len]; omega
    have hap : nT seen0 ++ [T.d (.int (k : Nat))] = nT (seen0 ++ [k]) := by unfold nT; rw [List.map_append]; rfl
    walk_at "v"
    row_has hat
    unfold SrT at q
    rw [← hap] at q
    exact q
  · rw [if_neg hl0] at q
    have hat : atI (P.map Stn.d) (k : Nat) = some (.tuple [.str s.x, .tuple (s.l.map .int), .int s.w]) := by rw [atI_PD hs, Stn.d, if_neg hl0]
    have hop : (O.getD k []).Perm (List.range s.l.length) := oo.at_ hs
    have hO : O[k]? = some (O.getD k []) := by
      obtain ⟨ps, h1, _⟩ := oo.per k s hs
      rw [List.getD_eq_getElem?_getD, h1]
      rfl
    have hatO : atI (O.map nD) (k : Nat) = some (nD (O.getD k [])) := atI_md nD hO
    have hsum := mw_sum hm oo hs hl0
    have hjs0 : ∀ j ∈ O.getD k [], j < s.l.length := fun j hj => List.mem_range.mp (hop.mem_iff.mp hj)
    have hne0 : O.getD k [] ≠ [] := fun z => by
      rw [z] at hop
      have := hop.length_eq
      simp at this
      exact hl0 (List.length_eq_zero_iff.mp this.symm)
    generalize O.getD k [] = js0 at *
    walk_at "vs"
    row_has hat
    walk_at "vu"
    show wSs (Gm_Search_worth_from C n) (b_Search_worth_from.drop 1) _ [SrT C P O seen0, .d (.int (k : Nat)), .d (oD a0), .d (oD b0), .d (.tuple [.str s.x, .tuple (s.l.map .int), .int s.w]), .dead, .dead, .dead]
    walk_at "vs"
    walk_at "vu"
    show wSs (Gm_Search_worth_from C n) (b_Search_worth_from.drop 2) _ [SrT C P O seen0, .d (.int (k : Nat)), .d (oD a0), .d (oD b0), .d (.tuple [.str s.x, .tuple (s.l.map .int), .int s.w]), .dead, .dead, .dead]
    walk_at "vs"
    walk_at "vu"
    show wSs (Gm_Search_worth_from C n) (b_Search_worth_from.drop 3) _ [SrT C P O seen0, .d (.int (k : Nat)), .d (oD a0), .d (oD b0), .d (.tuple [.str s.x, .tuple (s.l.map .int), .int s.w]), .d .none, .dead, .dead]
    walk_at "vs"
    rw [hatO]
    refine forW_ind (fun rem σ => ∃ (js : List Nat) (best a b : Option Int) (pre : List Nat) (x6 x7 : T), rem = js.map (fun j => PyData.int (j : Nat)) ∧ σ = [SrT C P O (seen0 ++ pre), .d (.int (k : Nat)), .d (oD a), .d (oD b), .d (.tuple [.str s.x, .tuple (s.l.map .int), .int s.w]), .d (oD best), x6, x7] ∧ (∀ j ∈ js, j < s.l.length) ∧ (js ≠ [] ∨ best ≠ none) ∧
      (pre.length : Int) + (js.map fun j => ms.getD (s.l.getD j 0).toNat 0).sum ≤ ms.getD k 0 ∧ (abgo (ab P O n) s js0 none a0 b0).1 = (abgo (ab P O n) s js best a b).1 ∧ (abgo (ab P O n) s js0 none a0 b0).2 = pre ++ (abgo (ab P O n) s js best a b).2) ?_ ?_ (js0.map fun j => PyData.int (j : Nat)) _ ⟨js0, none, a0, b0, [], .dead, .dead, rfl, by rw [List.append_nil]; rfl, hjs0, .inl hne0, by simp only [List.length_nil]; rw [hsum]; simp, rfl, rfl⟩
    · rintro σ ⟨js, best, a, b, pre, x6, x7, hrem, rfl, _, hne, _, e1, e2⟩
      have hjs : js = [] := by cases js with | nil => rfl | cons _ _ => simp at hrem
      subst hjs
      cases best with
      | none => exact absurd rfl (hne.resolve_left fun z => z rfl)
      | some m =>
        simp only [abgo, Option.getD_some, List.append_nil] at e1 e2
        rw [e1, e2] at q
        walk_at "vu"
        walk_at "v"
        exact q
    · rintro x xs σ N hN - hR - ⟨js, best, a, b, pre, x6, x7, hrem, rfl, hjs, hne, hcnt, e1, e2⟩
      cases js with
      | nil => simp at hrem
      | cons j js =>
        rw [List.map_cons, List.cons.injEq] at hrem
        obtain ⟨rfl, rfl⟩ := hrem
        have hj := hjs j (by simp)
        have hjs' : ∀ i ∈ js, i < s.l.length := fun i hi => hjs i (List.mem_cons_of_mem _ hi)
        obtain ⟨hc1, hc2⟩ := Fu.kid ok lv hs (kid_at hj) hf
        have hcu := hup _ (kid_at hj)
        rw [List.map_cons, List.sum_cons] at hcnt
        have hsum0 : 0 ≤ (js.map fun j => ms.getD (s.l.getD j 0).toNat 0).sum := by
          have : ∀ l : List Nat, (∀ i ∈ l, i < s.l.length) → 0 ≤ (l.map fun j => ms.getD (s.l.getD j 0).toNat 0).sum := by
            intro l
            induction l with
            | nil => intro _; simp
            | cons i l ih =>
              intro hl
              have h1 := hup _ (kid_at (hl i (by simp)))
              have h2 := mw_pos ok hm (s.l.getD i 0).toNat (by omega)
              have h3 := ih fun k hk => hl k (List.mem_cons_of_mem _ hk)
              simp only [List.map_cons, List.sum_cons]
              omega
          exact this js hjs'
        have hll := ab_len ok oo hm lv n (s.l.getD j 0).toNat hc1 a b
        have hat2 : atI (s.l.map PyData.int) (j : Nat) = some (.int (((s.l.getD j 0).toNat : Nat) : Int)) := by
          rw [show (((s.l.getD j 0).toNat : Nat) : Int) = s.l.getD j 0 by omega]
          refine atI_md _ ?_
          rw [List.getD_eq_getElem?_getD, List.getElem?_eq_getElem hj]
          rfl
        rw [abgo] at e1 e2
        generalize hc : (s.l.getD j 0).toNat = c at *
        walk_at "vs"
        row_has hat2
        refine ⟨P, O, fs, ms, c, a, b, seen0 ++ pre, rfl, ok, oo, lv, hm, hc1, hc2, by rw [List.length_append]; push_cast; omega, fun z => (by cases z), ?_⟩
        generalize hr : ab P O n c a b = r at *
        obtain ⟨v, lk⟩ := r
        simp only at *
        walk_at "v"
        walk_at "vu"
        show wSs (Gm_Search_worth_from C n) [_, _] N [SrT C P O (seen0 ++ pre ++ lk), .d (.int (k : Nat)), .d (oD a), .d (oD b), .d (.tuple [.str s.x, .tuple (s.l.map .int), .int s.w]), .d (oD best), .d (.int (j : Nat)), .d (.int v)]
        by_cases hxh : s.x = "high"
        · rw [if_pos hxh] at e1 e2
          have hdx : decide (s.x = "high") = true := decide_eq_true hxh
          suffices hz : wSs (Gm_Search_worth_from C n) [.ife (.call "is_shut" [.var 2, .var 3]) [.ret (.var 5)] []] N [SrT C P O (seen0 ++ pre ++ lk), .d (.int (k : Nat)), .d (oD (some (mxO a (mxO best v)))), .d (oD b), .d (.tuple [.str s.x, .tuple (s.l.map .int), .int s.w]), .d (oD (some (mxO best v))), .d (.int (j : Nat)), .d (.int v)] by
            refine holdW ?_
            cases best <;> cases a
            all_goals
              walk_at "v"
              row_has hdx
              walk_at "vu"
              exact hz
          walk_at "v"
          refine ⟨_, _, rfl, fun z => (by cases z), ?_⟩
          by_cases hsh : shutO (some (mxO a (mxO best v))) b = true
          · rw [if_pos hsh] at e1 e2
            rw [hsh]
            walk_at "v"
            simp only at e1 e2
            refine hR _ _ ?_
            rw [e1, e2, ← List.append_assoc] at q
            exact q
          · rw [if_neg hsh] at e1 e2
            simp only [Bool.not_eq_true] at hsh
            rw [hsh]
            walk_at "v"
            refine hN _ ⟨js, _, _, b, pre ++ lk, _, _, rfl, by rw [List.append_assoc]; rfl, hjs', .inr (by simp), by rw [List.length_append]; push_cast; omega, e1, by rw [e2, List.append_assoc]⟩
        · rw [if_neg hxh] at e1 e2
          have hdx : decide (s.x = "high") = false := decide_eq_false hxh
          suffices hz : wSs (Gm_Search_worth_from C n) [.ife (.call "is_shut" [.var 2, .var 3]) [.ret (.var 5)] []] N [SrT C P O (seen0 ++ pre ++ lk), .d (.int (k : Nat)), .d (oD a), .d (oD (some (mnO b (mnO best v)))), .d (.tuple [.str s.x, .tuple (s.l.map .int), .int s.w]), .d (oD (some (mnO best v))), .d (.int (j : Nat)), .d (.int v)] by
            refine holdW ?_
            cases best <;> cases b
            all_goals
              walk_at "v"
              walk_at "vu"
              exact hz
          walk_at "v"
          refine ⟨_, _, rfl, fun z => (by cases z), ?_⟩
          by_cases hsh : shutO a (some (mnO b (mnO best v))) = true
          · rw [if_pos hsh] at e1 e2
            rw [hsh]
            walk_at "v"
            simp only at e1 e2
            refine hR _ _ ?_
            rw [e1, e2, ← List.append_assoc] at q
            exact q
          · rw [if_neg hsh] at e1 e2
            simp only [Bool.not_eq_true] at hsh
            rw [hsh]
            walk_at "v"
            refine hN _ ⟨js, _, a, _, pre ++ lk, _, _, rfl, by rw [List.append_assoc]; rfl, hjs', .inr (by simp), by rw [List.length_append]; push_cast; omega, e1, by rw [e2, List.append_assoc]⟩
end VL
set_option Elab.async false
set_option linter.all false
set_option maxRecDepth 100000
set_option maxHeartbeats 4000000
/-! VS6: searched. -/
namespace VL
open PySem PySem.Spec PyProof.Rows L2
local macro_rules | `(tactic| walk_at "vc") => `(tactic| first | with_reducible rfl | assumption | exact Nat.zero_le _ | exact noTup_md _ _ | exact Nat.le_of_ble_eq_true rfl | omega | rfl | trivial | focus (simp only [mkTup, T.leaves, T.noTup, T.noTupl, Kd.isTup, noTupl_md, noTupl_iT, noTupl_kids, PT, KT, Pool, kidT, Bool.not_false, Bool.and_self] <;> fail) | focus (refine ⟨?_, ?_⟩ <;> omega) | exact (fun _ => rfl))
local macro_rules | `(tactic| walk_at "vn") => `(tactic| (intro z; first | (with_unfolding_all exact Bool.noConfusion (show false = true from z)) | (with_unfolding_all exact Bool.noConfusion (show true = false from z)) | (focus (refine absurd z ?_; first | decide | (simp only [Bool.not_eq_true', Bool.not_eq_false', decide_eq_true_eq, decide_eq_false_iff_not, List.length_map, iT_len]; omega) | (simp <;> fail)))))
local macro_rules | `(tactic| walk_at "v1") => `(tactic| ((conv => whnf); (with_reducible refine And.intro ?_ ?_); first | (walk_at "vn"; try (with_reducible intro _)) | (rotate_left; walk_at "vn"; (with_reducible intro _)) | (with_unfolding_all walk_at "vc")))
local macro_rules | `(tactic| walk_at "v") => `(tactic| ((repeat walk_at "v1"); conv => whnf))
local macro_rules | `(tactic| row_has $h) => `(tactic| (rw [$h:ident]; walk_at "v"))
local macro_rules | `(tactic| walk_at "vs") => `(tactic| (refine holdW ?_; walk_at "v"))
local macro_rules | `(tactic| walk_at "vu") => `(tactic| refine unholdW ?_)
theorem abgo_all {rec : Nat → Option Int → Option Int → Int × List Nat} {s : Stn} {p : Nat → Prop} (hr : ∀ j, j < s.l.length → ∀ a b, ∀ e ∈ (rec (s.l.getD j 0).toNat a b).2, p e) : ∀ (js : List Nat) (best a b : Option Int), (∀ j ∈ js, j < s.l.length) → ∀ e ∈ (abgo rec s js best a b).2, p e
  | [], _, _, _, _, e, he => by simp [abgo] at he
  | j :: js, best, a, b, hj, e, he => by
    have h1 := hr j (hj j (by simp)) a b
    have h2 := fun best a b => abgo_all hr js best a b fun i hi => hj i (List.mem_cons_of_mem _ hi)
    rw [abgo] at he
    split at he
    · split at he
      · exact h1 e he
      · rcases List.mem_append.mp he with z | z
        · exact h1 e z
        · exact h2 _ _ _ e z
    · split at he
      · exact h1 e he
      · rcases List.mem_append.mp he with z | z
        · exact h1 e z
        · exact h2 _ _ _ e z
theorem ab_ends {P : List Stn} {O : List (List Nat)} (ok : POk P) (oo : OOk P O) : ∀ (n k : Nat), k < P.length → ∀ a b, ∀ e ∈ (ab P O n k a b).2, ∃ s, P[e]? = some s ∧ s.l = []
  | 0, k, hk, a, b, e, he => by simp [ab] at he
  | n + 1, k, hk, a, b, e, he => by
    have hs : P[k]? = some P[k] := List.getElem?_eq_getElem hk
    generalize P[k] = s at hs
    have hup := ok.up k s hs
    rw [ab, getD_at hs] at he
    split at he
    · rename_i hl
      rw [List.mem_singleton.mp he]
      exact ⟨s, hs, hl⟩
    · exact abgo_all (fun j hj a b e he => ab_ends ok oo n _ (by have := hup _ (kid_at hj); omega) a b e he) _ _ _ _ (fun j hj => List.mem_range.mp ((oo.at_ hs).mem_iff.mp hj)) e he
theorem es_looks {P : List Stn} {O : List (List Nat)} (ok : POk P) (oo : OOk P O) (n k : Nat) (hk : k < P.length) (a b : Option Int) : EsOk P (uniqL (ab P O n k a b).2) :=
  ⟨uniqL_nd _, fun e he => ab_ends ok oo n k hk a b e ((uniqL_mem _ e).mp he)⟩
/-- what searched tells -/
def sdR (a b : Option Int) (w : Int) (x y : Option Int) : Str × PyData :=
  if shutO a (some w) = true then ("below", oD y) else if shutO (some w) b = true then ("above", oD x) else ("is", .int w)
def seD (a b : Option Int) (w : Int) (x y : Option Int) (looks : List Nat) : PyData := .tuple [.str (sdR a b w x y).1, (sdR a b w x y).2, nD looks]
abbrev F_searched : List T → (T → List T → Prop) → Prop := fun ts Q => ∃ (P : List Stn) (O : List (List Nat)) (fs ms : List Int) (v : Int) (a b : Option Int), ts = [.d (PD P), .d (OD O), .d (wiD a b)] ∧ POk P ∧ P.length < 1000000 ∧ OOk P O ∧ (∀ s ∈ P, s.l.length < 1000000) ∧ Lv P fs ∧ MwOk P ms ∧ ms[0]? = some v ∧ v ≤ 2000 ∧ ¬ shutO a b = true ∧
  ∀ fh fl x y, SrOk P (uniqL (ab P O 41 0 a b).2) "high" fh → SrOk P (uniqL (ab P O 41 0 a b).2) "low" fl → fh[0]? = some x → fl[0]? = some y → Q (.d (seD a b (ab P O 41 0 a b).1 x y (ab P O 41 0 a b).2)) [.dead, .dead, .dead]
abbrev fsSearched : FS := ⟨[.bor, .bor, .bor], F_searched⟩
abbrev ci_Search (C : Addr) : CI := ⟨C, [("__init__", fsSInit C), ("worth_from", fsWF C 41)], ["stands", "places", "seen"]⟩
def Gm_searched (C : Addr) : Ctx := ⟨[("look_at_order", fsLookOrder), ("is_window", fsIsWindow), ("look_at_ways", fsLookWays), ("shown_by", fsShownBy), ("unlike", fsUnlike)], [], [], [], [("Search", ci_Search C)]⟩
theorem oD_is (a : Option Int) : T.isNone (.d (oD a)) = a.isNone := by cases a <;> rfl
theorem w_searched (C : Addr) : bodyW (Gm_searched C) n_searched [.bor, .bor, .bor] b_searched F_searched := by
  intro ts Q h _
  obtain ⟨P, O, fs, ms, v, a, b, rfl, ok, hlt, oo, hfw, lv, hm, hv, hv2, hsh, q⟩ := h
  have hsl : sizeLine > 10000000 := by decide
  have hpos := ok.pos
  have hes := es_looks ok oo 41 0 hpos a b
  have hll := ab_len ok oo hm lv 41 0 hpos a b
  have hv0 : ms.getD 0 0 = v := by rw [List.getD_eq_getElem?_getD, hv]; rfl
  have hfu : Fu fs 41 0 := by have := (Fu.le lv hpos).1; unfold Fu; omega
  show wSs (Gm_searched C) b_searched _ [.d (PD P), .d (OD O), .d (wiD a b), .dead, .dead, .dead, .dead]
  walk_at "vs"
  refine ⟨P, O, rfl, ok, hlt, oo, hfw, fun z => (by cases z), ?_⟩
  walk_at "v"
  walk_at "vu"
  show wSs (Gm_searched C) (b_searched.drop 1) _ [.d (PD P), .d (OD O), .d (wiD a b), .dead, .dead, .dead, .dead]
  walk_at "vs"
  refine ⟨a, b, rfl, hsh, fun z => (by cases z), ?_⟩
  walk_at "v"
  walk_at "vu"
  show wSs (Gm_searched C) (b_searched.drop 2) _ [.d (PD P), .d (OD O), .d (wiD a b), .dead, .dead, .dead, .dead]
  walk_at "vs"
  refine ⟨P, ms, v, rfl, ok, hlt, hm, hv, hv2, fun z => (by cases z), ?_⟩
  walk_at "v"
  walk_at "vu"
  show wSs (Gm_searched C) (b_searched.drop 3) _ [.d (PD P), .d (OD O), .d (wiD a b), .dead, .dead, .dead, .dead]
  walk_at "vs"
  refine ⟨P, O, rfl, rfl, fun z => (by cases z), ?_⟩
  walk_at "v"
  walk_at "vu"
  show wSs (Gm_searched C) (b_searched.drop 4) _ [.d (PD P), .d (OD O), .d (wiD a b), SrT C P O [], .dead, .dead, .dead]
  walk_at "vs"
  refine ⟨P, O, fs, ms, 0, a, b, [], rfl, ok, oo, lv, hm, hpos, hfu, by simp only [List.length_nil]; omega, fun z => (by cases z), ?_⟩
  rw [List.nil_append]
  generalize hr : ab P O 41 0 a b = r at *
  obtain ⟨w, looks⟩ := r
  simp only at *
  walk_at "v"
  walk_at "vu"
  show wSs (Gm_searched C) (b_searched.drop 5) _ [.d (PD P), .d (OD O), .d (wiD a b), SrT C P O looks, .d (.int w), .dead, .dead]
  refine holdW ?_
  walk_at "v"
  rw [passes_lend (k := .list) (us := nT looks) rfl (nT_data looks) rfl]
  walk_at "v"
  refine ⟨looks, rfl, by omega, fun _ => ⟨flatl_nT _, rfl⟩, ?_⟩
  conv => whnf
  rw [passes_leaf rfl (passes_val (nT_data (uniqL looks)) rfl)]
  walk_at "v"
  refine ⟨P, uniqL looks, rfl, ok, hlt, hes, fun fh fl x y h1 h2 h3 h4 => ⟨fun z => (by cases z), ?_⟩⟩
  have hq := q fh fl x y h1 h2 h3 h4
  walk_at "v"
  walk_at "vu"
  show wSs (Gm_searched C) (b_searched.drop 6) _ [.d (PD P), .d (OD O), .d (wiD a b), SrT C P O looks, .d (.int w), .d (oD x), .d (oD y)]
  have hnd := nT_data looks
  have hD : ∀ wi : PyData, (R.p 3 ([] ++ [0 + 1 + 1])).data [.d (PD P), .d (OD O), .d wi, SrT C P O looks, .d (.int w), .d (oD x), .d (oD y)] = some (nD looks) := fun _ => hnd
  unfold seD at hq
  by_cases h1 : shutO a (some w) = true
  · rw [show sdR a b w x y = (Str.ofString "below", oD y) from if_pos h1] at hq
    cases a with
    | none => cases h1
    | some a =>
      have h1 : w ≤ a := of_decide_eq_true h1
      walk_at "v"
      rw [hD]
      walk_at "v"
      exact hq
  · by_cases h2 : shutO (some w) b = true
    · rw [show sdR a b w x y = (Str.ofString "above", oD x) from (if_neg h1).trans (if_pos h2)] at hq
      cases b with
      | none => cases h2
      | some b =>
        have h2 : w ≥ b := of_decide_eq_true h2
        cases a with
        | none =>
          walk_at "v"
          rw [hD]
          walk_at "v"
          exact hq
        | some a =>
          have h1 : ¬ w ≤ a := fun z => h1 (decide_eq_true z)
          walk_at "v"
          rw [hD]
          walk_at "v"
          exact hq
    · rw [show sdR a b w x y = (Str.ofString "is", .int w) from (if_neg h1).trans (if_neg h2)] at hq
      cases a with
      | none =>
        cases b with
        | none =>
          walk_at "v"
          rw [hD]
          walk_at "v"
          exact hq
        | some b =>
          have h2 : ¬ w ≥ b := fun z => h2 (decide_eq_true z)
          walk_at "v"
          rw [hD]
          walk_at "v"
          exact hq
      | some a =>
        have h1 : ¬ w ≤ a := fun z => h1 (decide_eq_true z)
        cases b with
        | none =>
          walk_at "v"
          rw [hD]
          walk_at "v"
          exact hq
        | some b =>
          have h2 : ¬ w ≥ b := fun z => h2 (decide_eq_true z)
          walk_at "v"
          rw [hD]
          walk_at "v"
          exact hq
end VL
set_option Elab.async false
set_option linter.all false
set_option maxRecDepth 100000
set_option maxHeartbeats 4000000
/-! VS7: the laws' own helpers: _law_ways_many, _law_worths, _law_shuffled, _law_order. -/
namespace VL
open PySem PySem.Spec PyProof.Rows L2
local macro_rules | `(tactic| walk_at "vc") => `(tactic| first | with_reducible rfl | assumption | exact Nat.zero_le _ | exact noTup_md _ _ | exact Nat.le_of_ble_eq_true rfl | omega | rfl | trivial | focus (simp only [mkTup, T.leaves, T.noTup, T.noTupl, Kd.isTup, noTupl_md, noTupl_iT, noTupl_kids, PT, KT, Pool, kidT, Bool.not_false, Bool.and_self] <;> fail) | focus (refine ⟨?_, ?_⟩ <;> omega) | exact (fun _ => rfl))
local macro_rules | `(tactic| walk_at "vn") => `(tactic| (intro z; first | (with_unfolding_all exact Bool.noConfusion (show false = true from z)) | (with_unfolding_all exact Bool.noConfusion (show true = false from z)) | (focus (refine absurd z ?_; first | decide | (simp only [Bool.not_eq_true', Bool.not_eq_false', decide_eq_true_eq, decide_eq_false_iff_not, List.length_map, iT_len]; omega) | (simp <;> fail)))))
local macro_rules | `(tactic| walk_at "v1") => `(tactic| ((conv => whnf); (with_reducible refine And.intro ?_ ?_); first | (walk_at "vn"; try (with_reducible intro _)) | (rotate_left; walk_at "vn"; (with_reducible intro _)) | (with_unfolding_all walk_at "vc")))
local macro_rules | `(tactic| walk_at "v") => `(tactic| ((repeat walk_at "v1"); conv => whnf))
local macro_rules | `(tactic| row_has $h) => `(tactic| (rw [$h:ident]; walk_at "v"))
local macro_rules | `(tactic| walk_at "vs") => `(tactic| (refine holdW ?_; walk_at "v"))
local macro_rules | `(tactic| walk_at "vu") => `(tactic| refine unholdW ?_)
theorem datas_q {σ : St} {i : Nat} {q : List Nat} {t : T} {x : PyData} (h : (R.p i q).get σ = some t) (hd : t.data = some x) : R.datas σ [.p i q] = some [x] := by
  unfold R.datas
  rw [data_p h hd]
  rfl
abbrev F_law_ways_many : List T → (T → List T → Prop) → Prop := F_ways_many
abbrev fsLawWaysMany : FS := ⟨[.bor], F_ways_many⟩
def Gm_law_ways_many : Ctx := ⟨[], [], ["len", "range", "sum"], [], []⟩
theorem w_law_ways_many : bodyW Gm_law_ways_many n_law_ways_many [.bor] b_law_ways_many F_ways_many := by
  intro ts Q h _
  obtain ⟨P, rfl, ok, hlt, q⟩ := h
  have hsl : sizeLine > 10000000 := by decide
  have hPl : (P.map Stn.d).length = P.length := List.length_map _
  have hpos := ok.pos
  show wSs Gm_law_ways_many b_law_ways_many _ [.d (PD P), .dead, .dead, .dead]
  refine holdW ?_
  (conv => whnf); refine ⟨rfl, ?_⟩
  (conv => whnf); refine ⟨Nat.le_of_ble_eq_true rfl, ?_⟩
  (conv => whnf); refine ⟨rfl, ?_⟩
  (conv => whnf); refine ⟨by omega, by omega, by simp; omega, ?_⟩
  conv => whnf
  rw [hPl, Int.toNat_natCast, one_rep]
  refine ⟨by simp only [T.noTup, noTupl_iT, Kd.isTup, Bool.not_false, Bool.and_self], Nat.le_of_ble_eq_true rfl, ?_⟩
  walk_at "vu"
  show wSs Gm_law_ways_many (b_law_ways_many.drop 1) _ [.d (PD P), .nd .list (iT (List.replicate P.length 1)), .dead, .dead]
  walk_at "vs"
  rw [hPl, show ((P.length : Int) - 1 - -1).toNat = P.length by omega]
  refine forW_back (fun k σ => ∃ ms x2 x3, σ = [.d (PD P), .nd .list (iT ms), x2, x3] ∧ MI P k ms) ?_ ?_ ⟨_, _, _, rfl, by simp, fun i s hi h => ?_, fun i _ hi => ?_⟩
  · rintro σ ⟨ms, x2, x3, rfl, hM⟩
    have l1 : 0 < ms.length := by have := hM.1; omega
    have e1 : ms[0]? = some ms[0] := List.getElem?_eq_getElem l1
    have h1 : ixN (iT ms).length 0 = some 0 := ixN_nat (k := 0) (by rw [iT_len]; exact l1)
    have h2 := iT_get e1
    walk_at "vu"
    walk_at "v"
    row_has h1
    row_has h2
    exact q ms _ ⟨hM.1, fun i s h => hM.2.1 i s (Nat.zero_le _) h⟩ e1
  · rintro k σ N hk hN - - - ⟨ms, x2, x3, rfl, hM⟩
    have hs : P[k]? = some P[k] := List.getElem?_eq_getElem hk
    generalize P[k] = st at hs
    have hup := ok.up k st hs
    have hml := hM.1
    have hx : st.x = "high" ∨ st.x = "low" := ok.hand st (List.mem_of_getElem? hs)
    have hxe : st.x ≠ "end" := by rcases hx with z | z <;> rw [z] <;> decide
    by_cases hl0 : st.l = []
    · have hat : atI (P.map Stn.d) (k : Nat) = some (.tuple [.str "end", .int st.w]) := by rw [atI_PD hs, Stn.d, if_pos hl0]
      walk_at "v"
      row_has hat
      refine hN _ ⟨ms, _, _, rfl, hml, fun i s hi h => ?_, fun i hi => hM.2.2 i (by omega)⟩
      by_cases e : i = k
      · subst e
        rw [hs] at h
        cases h
        rw [mval, if_pos hl0]
        exact hM.2.2 i (by omega) hk
      · exact hM.2.1 i s (by omega) h
    · have hat : atI (P.map Stn.d) (k : Nat) = some (.tuple [.str st.x, .tuple (st.l.map .int), .int st.w]) := by rw [atI_PD hs, Stn.d, if_neg hl0]
      have hfew := ok.few st (List.mem_of_getElem? hs)
      have hjw : ixN (iT ms).length ((k : Nat) : Int) = some k := ixN_nat (by rw [iT_len]; omega)
      walk_at "v"
      row_has hat
      row_has hat
      refine lcW_md (is := [3]) (σ := [.d (PD P), .nd .list (iT ms), .d (.int k), x3]) _ (fun c => .d (.int (ms.getD c.toNat 0))) st.l (fun c hc => ?_) (by omega) ?_
      · have hcu := hup c hc
        have hg1 : ixN (iT ms).length c = some c.toNat := ixN_of (by omega) (by rw [iT_len]; omega)
        have hg2 : (iT ms)[c.toNat]? = some (.d (.int (ms.getD c.toNat 0))) := iT_get (by rw [List.getD_eq_getElem?_getD, List.getElem?_eq_getElem (by omega)]; rfl)
        refine ⟨[.d (PD P), .nd .list (iT ms), .d (.int k), .d (.int c)], rfl, fun Q hQ => ?_, rfl⟩
        walk_at "v"
        row_has hg1
        row_has hg2
        exact hQ
      conv => whnf
      rw [datas_md (fun c : Int => PyData.int (ms.getD c.toNat 0))]
      conv => whnf
      rw [ints_md (fun c : Int => ms.getD c.toNat 0)]
      walk_at "v"
      row_has hjw
      rw [iT_set]
      have := hM.step ok hs
      rw [mval, if_neg hl0] at this
      exact hN _ ⟨_, _, _, rfl, this⟩
  · exfalso
    have := (List.getElem?_eq_some_iff.mp h).1
    omega
  · rw [List.getElem?_replicate, if_pos hi]
abbrev F_law_worths2 : List T → (T → List T → Prop) → Prop := F_worths_of
def Gm_law_worths2 : Ctx := ⟨[], [], ["len", "range", "min", "max", "int"], [], []⟩
theorem w_law_worths2 : bodyW Gm_law_worths2 n_law_worths2 [.bor] b_law_worths2 F_worths_of := by
  intro ts Q h _
  obtain ⟨P, rfl, ok, hlt, q⟩ := h
  have hsl : sizeLine > 10000000 := by decide
  have hPl : (P.map Stn.d).length = P.length := List.length_map _
  show wSs Gm_law_worths2 b_law_worths2 _ [.d (PD P), .dead, .dead, .dead, .dead, .dead]
  refine holdW ?_
  (conv => whnf); refine ⟨rfl, ?_⟩
  (conv => whnf); refine ⟨Nat.le_of_ble_eq_true rfl, ?_⟩
  (conv => whnf); refine ⟨rfl, ?_⟩
  (conv => whnf); refine ⟨by omega, by omega, by simp; omega, ?_⟩
  have e0 : List.map T.d (List.replicate (((P.map Stn.d).length : Nat) : Int).toNat [PyData.int 0]).flatten = iT (List.replicate P.length 0) := by
    rw [Int.toNat_natCast, hPl]
    unfold iT
    generalize P.length = n
    induction n with
    | zero => rfl
    | succ n ih => simp [List.replicate_succ] at ih ⊢
  (conv => whnf)
  rw [e0]
  refine ⟨by simp only [T.noTup, noTupl_iT, Kd.isTup, Bool.not_false, Bool.and_self], Nat.le_of_ble_eq_true rfl, ?_⟩
  walk_at "vu"
  show wSs Gm_law_worths2 (b_law_worths2.drop 1) _ [.d (PD P), .nd .list (iT (List.replicate P.length 0)), .dead, .dead, .dead, .dead]
  walk_at "vs"
  rw [hPl, show ((P.length : Int) - 1 - -1).toNat = P.length by omega]
  refine forW_back (fun k σ => ∃ ws x2 x3 x4 x5, σ = [.d (PD P), .nd .list (iT ws), x2, x3, x4, x5] ∧ WI P k ws) ?_ ?_ ⟨_, _, _, _, _, rfl, WI.start P⟩
  · rintro σ ⟨ws, x2, x3, x4, x5, rfl, hw⟩
    walk_at "vu"
    exact q ws hw.1 fun i s h => hw.2 i s (Nat.zero_le _) h
  · rintro k σ N hk hN - - - ⟨ws, x2, x3, x4, x5, rfl, hw⟩
    have hs : P[k]? = some P[k] := List.getElem?_eq_getElem hk
    generalize P[k] = st at hs
    have hup := ok.up k st hs
    have hwl := hw.1
    have hx : st.x = "high" ∨ st.x = "low" := ok.hand st (List.mem_of_getElem? hs)
    have hxe : st.x ≠ "end" := by rcases hx with z | z <;> rw [z] <;> decide
    have hjw : ixN (iT ws).length ((k : Nat) : Int) = some k := ixN_nat (by rw [iT_len]; omega)
    have fin : ∀ v, v = val st ws → ∀ x2 x3 x4 x5, N.nx [.d (PD P), .nd .list ((iT ws).set k (.d (.int v))), x2, x3, x4, x5] := by
      rintro v rfl x2 x3 x4 x5
      rw [iT_set]
      exact hN _ ⟨_, _, _, _, _, rfl, hw.step ok hs⟩
    by_cases hl0 : st.l = []
    · have hat : atI (P.map Stn.d) (k : Nat) = some (.tuple [.str "end", .int st.w]) := by rw [atI_PD hs, Stn.d, if_pos hl0]
      walk_at "v"
      row_has hat
      row_has hjw
      exact fin _ (by rw [val, if_pos hl0]) _ _ _ _
    · have hat : atI (P.map Stn.d) (k : Nat) = some (.tuple [.str st.x, .tuple (st.l.map .int), .int st.w]) := by rw [atI_PD hs, Stn.d, if_neg hl0]
      have hfew := ok.few st (List.mem_of_getElem? hs)
      have hjs : ixN ((iT ws).set k (.d (.int st.w))).length ((k : Nat) : Int) = some k := by rw [List.length_set]; exact hjw
      obtain ⟨us, hus⟩ : ∃ us, us = ws.set k st.w := ⟨_, rfl⟩
      have hul : us.length = ws.length := by rw [hus, List.length_set]
      have hju : ixN (iT us).length ((k : Nat) : Int) = some k := ixN_nat (by rw [iT_len]; omega)
      have hug : ∀ c ∈ st.l, us.getD c.toNat 0 = ws.getD c.toNat 0 := fun c hc => by
        have := hup c hc
        rw [hus, List.getD_eq_getElem?_getD, List.getD_eq_getElem?_getD, List.getElem?_set_ne (by omega)]
      have hev : (st.l.map fun c => us.getD c.toNat 0) = st.l.map fun c => ws.getD c.toNat 0 := List.map_congr_left hug
      have hfin : ∀ v, us.set k v = ws.set k v := fun v => by rw [hus, List.set_set]
      walk_at "vs"
      row_has hat
      walk_at "vu"
      show wSs Gm_law_worths2 [_, _] N [.d (PD P), .nd .list (iT ws), .d (.int (k : Nat)), .d (.tuple [.str st.x, .tuple (st.l.map .int), .int st.w]), x4, x5]
      walk_at "vs"
      row_has hjw
      rw [iT_set, ← hus]
      walk_at "vu"
      show wSs Gm_law_worths2 [_] N [.d (PD P), .nd .list (iT us), .d (.int (k : Nat)), .d (.tuple [.str st.x, .tuple (st.l.map .int), .int st.w]), x4, x5]
      walk_at "v"
      refine lcW_md (is := [5]) (σ := [.d (PD P), .nd .list (iT us), .d (.int (k : Nat)), .d (.tuple [.str st.x, .tuple (st.l.map .int), .int st.w]), x4, x5]) _ (fun c => .d (.int (us.getD c.toNat 0))) st.l (fun c hc => ?_) (by omega) ?_
      · have hcu := hup c hc
        have hg1 : ixN (iT us).length c = some c.toNat := ixN_of (by omega) (by rw [iT_len]; omega)
        have hg2 : (iT us)[c.toNat]? = some (.d (.int (us.getD c.toNat 0))) := iT_get (by rw [List.getD_eq_getElem?_getD, List.getElem?_eq_getElem (by omega)]; rfl)
        refine ⟨[.d (PD P), .nd .list (iT us), .d (.int (k : Nat)), .d (.tuple [.str st.x, .tuple (st.l.map .int), .int st.w]), x4, .d (.int c)], rfl, fun Q hQ => ?_, rfl⟩
        walk_at "v"
        row_has hg1
        row_has hg2
        exact hQ
      generalize hbs : (st.l.map fun c => us.getD c.toNat 0) = bs
      have hbs1 : (st.l.map fun c => T.d (.int (us.getD c.toNat 0))) = bs.map fun c => T.d (.int c) := by rw [← hbs, List.map_map]; rfl
      have hbne : bs ≠ [] := by rw [← hbs]; simpa using hl0
      have hbpos : 0 < bs.length := List.length_pos_iff.mpr hbne
      have ev : val st ws = best st.x bs := by rw [val, if_neg hl0, ← hev, hbs]
      rw [hbs1]
      have hin := intsOf_map bs
      walk_at "v"
      rw [datas_q (t := .nd .list (bs.map fun c => T.d (.int c))) rfl (data_md (fun c => PyData.int c) bs)]
      walk_at "v"
      rw [hin]
      walk_at "v"
      rw [datas_q (t := .nd .list (bs.map fun c => T.d (.int c))) rfl (data_md (fun c => PyData.int c) bs)]
      walk_at "v"
      rw [hin]
      walk_at "v"
      rcases hx with z | z
      · rw [z]
        walk_at "v"
        row_has hju
        rw [iT_set, hfin, ← iT_set]
        exact fin _ (by rw [ev, best, if_pos z]) _ _ _ _
      · rw [z]
        walk_at "v"
        row_has hju
        rw [iT_set, hfin, ← iT_set]
        exact fin _ (by rw [ev, best, if_neg (by rw [z]; decide)]) _ _ _ _
/-- a list put into another order -/
abbrev F_law_shuffled : List T → (T → List T → Prop) → Prop := fun ts Q => ∃ (a s : Int) (l : List Nat), ts = [Pool a s, .d (nD l)] ∧ PoolOk a s ∧ l.length < 1000000 ∧ ∀ l' a' s', l'.Perm l → PoolOk a' s' → Q (.nd .list (nT l')) [Pool a' s', .dead]
abbrev fsLawShuffled : FS := ⟨[.own, .bor], F_law_shuffled⟩
def Gm_law_shuffled : Ctx := ⟨[("_law_take", fsTake)], [], ["len"], [0], []⟩
theorem nT_app (l m : List Nat) : nT (l ++ m) = nT l ++ nT m := List.map_append
theorem nT_take (l : List Nat) (k : Nat) : nT (l.take k) = (nT l).take k := List.map_take
theorem nT_drop (l : List Nat) (k : Nat) : nT (l.drop k) = (nT l).drop k := List.map_drop
theorem w_law_shuffled : bodyW Gm_law_shuffled n_law_shuffled [.own, .bor] b_law_shuffled F_law_shuffled := by
  intro ts Q h _
  obtain ⟨a, s, l, rfl, hp, hl, q⟩ := h
  have hsl : sizeLine > 10000000 := by decide
  show wSs Gm_law_shuffled b_law_shuffled _ [Pool a s, .d (nD l), .dead, .dead]
  walk_at "vs"
  walk_at "vu"
  show wSs Gm_law_shuffled (b_law_shuffled.drop 1) _ [Pool a s, .d (nD l), .nd .list (nT []), .dead]
  walk_at "vs"
  refine forW_k (l.map fun j => PyData.int (j : Nat)) (fun m σ => ∃ l' a s x3, σ = [Pool a s, .d (nD l), .nd .list (nT l'), x3] ∧ l'.Perm (l.take m) ∧ PoolOk a s) ?_ ?_ ⟨[], a, s, _, rfl, by simp, hp⟩
  · rintro σ ⟨l', a, s, x3, rfl, hpe, hp⟩
    rw [List.length_map, List.take_length] at hpe
    walk_at "vu"
    walk_at "v"
    exact q l' a s hpe hp
  · rintro m x σ N hx hN - - - ⟨l', a, s, x3, rfl, hpe, hp⟩
    rw [List.getElem?_map] at hx
    obtain ⟨j, hj, rfl⟩ := Option.map_eq_some_iff.mp hx
    have hm : m < l.length := (List.getElem?_eq_some_iff.mp hj).1
    have hll := hpe.length_eq
    rw [List.length_take] at hll
    have hnl := nT_len l'
    walk_at "v"
    refine ⟨a, s, _, rfl, hp, by omega, by omega, fun r a' s' h0 h1 hp' => ⟨fun z => (by cases z), ?_⟩⟩
    rw [hnl] at h1
    walk_at "v"
    show N.nx [Pool a' s', .d (nD l), .nd .list ((nT l').take r.toNat ++ nT [j] ++ (nT l').drop r.toNat), .d (.int (j : Nat))]
    rw [← nT_take, ← nT_drop, ← nT_app, ← nT_app]
    refine hN _ ⟨_, a', s', _, rfl, ?_, hp'⟩
    rw [List.take_succ_eq_append_getElem hm]
    rw [List.getElem?_eq_getElem hm] at hj
    cases hj
    have e1 : (l'.take r.toNat ++ [l[m]] ++ l'.drop r.toNat).Perm (l'.take r.toNat ++ l'.drop r.toNat ++ [l[m]]) := by
      rw [List.append_assoc, List.append_assoc]
      exact List.Perm.append_left _ List.perm_append_comm
    rw [List.take_append_drop] at e1
    exact e1.trans (hpe.append_right _)
/-- an order of a play -/
abbrev F_law_order : List T → (T → List T → Prop) → Prop := fun ts Q => ∃ (a s : Int) (P : List Stn), ts = [Pool a s, .d (PD P)] ∧ PoolOk a s ∧ POk P ∧ P.length < 100000 ∧ ∀ O a' s', OOk P O → PoolOk a' s' → Q (.nd .list (O.map fun ps => .d (nD ps))) [Pool a' s', .dead]
abbrev fsLawOrder : FS := ⟨[.own, .bor], F_law_order⟩
def Gm_law_order : Ctx := ⟨[("_law_take", fsTake), ("_law_shuffled", fsLawShuffled)], [], ["list", "range", "len"], [0], []⟩
structure OTo (P : List Stn) (m : Nat) (O : List (List Nat)) : Prop where
  len : O.length = m
  per : ∀ (k : Nat) s, k < m → P[k]? = some s → ∃ ps, O[k]? = some ps ∧ ps.Perm (List.range s.l.length)
theorem OTo.step {P : List Stn} {m : Nat} {O : List (List Nat)} {st : Stn} {ps : List Nat} (h : OTo P m O) (hs : P[m]? = some st) (hp : ps.Perm (List.range st.l.length)) : OTo P (m + 1) (O ++ [ps]) := by
  refine ⟨by rw [List.length_append, h.len]; rfl, fun k s hk hP => ?_⟩
  by_cases e : k = m
  · subst e
    rw [hs] at hP
    cases hP
    exact ⟨ps, by rw [List.getElem?_append_right (by rw [h.len]; omega), h.len]; simp, hp⟩
  · obtain ⟨qs, h1, h2⟩ := h.per k s (by omega) hP
    exact ⟨qs, by rw [List.getElem?_append_left (by rw [h.len]; omega)]; exact h1, h2⟩
theorem w_law_order : bodyW Gm_law_order n_law_order [.own, .bor] b_law_order F_law_order := by
  intro ts Q h _
  obtain ⟨a, s, P, rfl, hp, ok, hlt, q⟩ := h
  have hsl : sizeLine > 10000000 := by decide
  show wSs Gm_law_order b_law_order _ [Pool a s, .d (PD P), .dead, .dead, .dead, .dead]
  walk_at "vs"
  refine ⟨a, s, _, rfl, hp, by omega, by omega, fun way a' s' h0 h4 hp' => ⟨fun z => (by cases z), ?_⟩⟩
  walk_at "v"
  walk_at "vu"
  show wSs Gm_law_order (b_law_order.drop 1) _ [Pool a' s', .d (PD P), .d (.int way), .dead, .dead, .dead]
  walk_at "vs"
  walk_at "vu"
  show wSs Gm_law_order (b_law_order.drop 2) _ [Pool a' s', .d (PD P), .d (.int way), .nd .list (([] : List (List Nat)).map fun ps => .d (nD ps)), .dead, .dead]
  walk_at "vs"
  refine forW_k (P.map Stn.d) (fun m σ => ∃ O a s x4 x5, σ = [Pool a s, .d (PD P), .d (.int way), .nd .list (O.map fun ps => .d (nD ps)), x4, x5] ∧ OTo P m O ∧ PoolOk a s) ?_ ?_ ⟨[], a', s', _, _, rfl, ⟨rfl, fun k s hk => by omega⟩, hp'⟩
  · rintro σ ⟨O, a, s, x4, x5, rfl, ho, hp⟩
    rw [List.length_map] at ho
    walk_at "vu"
    walk_at "v"
    exact q O a s ⟨ho.len, fun k s h => ho.per k s (List.getElem?_eq_some_iff.mp h).1 h⟩ hp
  · rintro m x σ N hx hN - - - ⟨O, a, s, x4, x5, rfl, ho, hp⟩
    rw [List.getElem?_map] at hx
    obtain ⟨st, hs, rfl⟩ := Option.map_eq_some_iff.mp hx
    have hm : m < P.length := (List.getElem?_eq_some_iff.mp hs).1
    have hfew := ok.few st (List.mem_of_getElem? hs)
    have hol := ho.len
    have hol2 : (O.map fun ps => T.d (nD ps)).length < sizeLine := by rw [List.length_map]; omega
    have hx : st.x = "high" ∨ st.x = "low" := ok.hand st (List.mem_of_getElem? hs)
    have hxe : st.x ≠ "end" := by rcases hx with z | z <;> rw [z] <;> decide
    obtain ⟨sd, hsd⟩ : ∃ sd, sd = st.d := ⟨_, rfl⟩
    have key : ∀ ps : List Nat, ps.Perm (List.range st.l.length) → ∀ a s, PoolOk a s → wSs Gm_law_order [.ex (.mth .append (.var 3) [.var 5])] N [Pool a s, .d (PD P), .d (.int way), .nd .list (O.map fun ps => .d (nD ps)), .d sd, .nd .list (nT ps)] := fun ps hpe a s hp => by
      have hdt := nT_data ps
      walk_at "v"
      rw [data_p (t := .nd .list (nT ps)) rfl hdt]
      walk_at "v"
      show N.nx [Pool a s, .d (PD P), .d (.int way), .nd .list ((O.map fun ps => .d (nD ps)) ++ [.d (nD ps)]), .d sd, .d (nD ps)]
      exact hN _ ⟨O ++ [ps], a, s, .d sd, .d (nD ps), by rw [List.map_append]; rfl, ho.step hs hpe, hp⟩
    have key2 : ∀ ps : List Nat, ps.Perm (List.range st.l.length) → wSs Gm_law_order [.ife (.cmp .eq (.var 2) (.k (.int 1))) [.asg 5 (.rev (.var 5))] [], .ife (.cmp .gt (.var 2) (.k (.int 1))) [.asg 5 (.call "_law_shuffled" [.var 0, .var 5])] [], .ex (.mth .append (.var 3) [.var 5])] N [Pool a s, .d (PD P), .d (.int way), .nd .list (O.map fun ps => .d (nD ps)), .d sd, .nd .list (nT ps)] := fun ps hpe => by
      have hdt := nT_data ps
      have hpl := hpe.length_eq
      rw [List.length_range] at hpl
      by_cases h1 : way = 1
      · subst h1
        have e : (nT ps).reverse = nT ps.reverse := List.map_reverse.symm
        have hk : (R.p 5 []).kids [Pool a s, .d (PD P), .d (.int 1), .nd .list (O.map fun ps => .d (nD ps)), .d sd, .nd .list (nT ps)] = some (nT ps) := by
          show (if (T.leaves (nT ps)).isSome = true then some (nT ps) else none) = _
          rw [show T.leaves (nT ps) = _ from leaves_md (fun j : Nat => PyData.int j) ps]
          rfl
        have hnt : T.noTup (.nd .list (nT ps.reverse)) = true := noTup_md _ _
        walk_at "vs"
        rw [hk]
        (conv => whnf)
        rw [e]
        refine ⟨hnt, Nat.le_of_ble_eq_true rfl, ?_⟩
        walk_at "vu"
        show wSs Gm_law_order [_, _] N [Pool a s, .d (PD P), .d (.int 1), .nd .list (O.map fun ps => .d (nD ps)), .d sd, .nd .list (nT ps.reverse)]
        walk_at "vs"
        walk_at "vu"
        exact key _ ((List.reverse_perm ps).trans hpe) a s hp
      · by_cases h2 : way > 1
        · walk_at "vs"
          walk_at "vu"
          walk_at "vs"
          rw [passes_own rfl (passes_lend (k := .list) (us := nT ps) rfl hdt rfl)]
          walk_at "v"
          refine ⟨a, s, ps, rfl, hp, by omega, fun l' a' s' hl' hp' => ⟨fun _ => ⟨flatl_nT _, rfl⟩, ?_⟩⟩
          walk_at "v"
          walk_at "vu"
          exact key _ (hl'.trans hpe) a' s' hp'
        · walk_at "vs"
          walk_at "vu"
          walk_at "vs"
          walk_at "vu"
          exact key _ hpe a s hp
    by_cases hl0 : st.l = []
    · rw [Stn.d, if_pos hl0] at hsd ⊢
      subst hsd
      walk_at "vs"
      walk_at "vu"
      exact key2 [] (by rw [hl0]; simp)
    · rw [Stn.d, if_neg hl0] at hsd ⊢
      subst hsd
      have hml : (st.l.map PyData.int).length = st.l.length := List.length_map _
      walk_at "vs"
      walk_at "vu"
      have := key2 (List.range st.l.length) (List.Perm.refl _)
      rw [← hml] at this
      exact this
end VL
set_option Elab.async false
set_option linter.all false
set_option maxRecDepth 100000
set_option maxHeartbeats 4000000
namespace VL
open PySem PySem.Spec PyProof.Rows L2

def n_law_side : List Str := ["_law_worth_here", "_law_window"]
def b_law_side : List S := [.ife (.and (.cmp .isnot (.ix (.var 1) (.k (.int 0))) (.k .none)) (.cmp .le (.var 0) (.ix (.var 1) (.k (.int 0))))) [.ret (.k (.str "below"))] [], .ret (.ix (.lst [.k (.str "is"), .k (.str "above")]) (.blt .int [.and (.cmp .isnot (.ix (.var 1) (.k (.int 1))) (.k .none)) (.cmp .ge (.var 0) (.ix (.var 1) (.k (.int 1))))]))]

def n_law_within : List Str := ["_law_few", "_law_many", "_law_at", "_law_one"]
def b_law_within : List S := [.asg 2 (.k (.int 0)), .for_ [3] .e [.var 1] [.ife (.and (.cmp .lt (.var 2) (.blt .len [.var 0])) (.cmp .eq (.ix (.var 0) (.var 2)) (.var 3))) [.asg 2 (.bin .add (.var 2) (.k (.int 1)))] []], .ret (.cmp .eq (.var 2) (.blt .len [.var 0]))]

def n_law : List Str := ["_law_script", "_law_play_here", "_law_worth_here", "_law_k", "_law_pool_here", "_law_order_here", "_law_low", "_law_high", "_law_more", "_law_windows", "_law_ahead", "_law_every", "_law_touching", "_law_window", "_law_word", "_law_number", "_law_looks", "_law_end"]
def b_law : List S := [.asg 1 (.frz (.call "_law_play" [.var 0, .k (.int 90), .cmp .eq (.bin .mod (.blt .len [.var 0]) (.k (.int 2))) (.k (.int 1))])), .ife (.cmp .eq (.blt .len [.var 0]) (.k (.int 1))) [.asg 1 (.frz (.sl true false (.var 1) [.neg (.k (.int 1))]))] [], .ife (.cmp .gt (.call "_law_ways_many" [.var 1]) (.k (.int 2000))) [.ret (.k (.bool true))] [], .asg 2 (.ix (.call "_law_worths" [.var 1]) (.k (.int 0))), .for_ [3] .rng1 [.k (.int 3)] [.asg 4 (.call "_law_pool" [.var 0, .bin .add (.k (.int 70)) (.var 3)]), .asg 5 (.frz (.call "_law_order" [.var 4, .var 1])), .asg 6 (.bin .add (.bin .sub (.var 2) (.k (.int 6))) (.call "_law_take" [.var 4, .k (.int 12)])), .asg 7 (.bin .add (.bin .add (.var 6) (.k (.int 1))) (.call "_law_take" [.var 4, .k (.int 12)])), .asg 8 (.call "_law_take" [.var 4, .k (.int 9)]), .asg 9 (.lst [.tup [.k .none, .k .none], .ix (.lst [.tup [.bin .sub (.var 6) (.var 8), .k .none], .tup [.k .none, .bin .add (.var 7) (.var 8)]]) (.call "_law_take" [.var 4, .k (.int 2)])]), .asg 9 (.bin .add (.var 9) (.lst [.tup [.bin .sub (.var 6) (.var 8), .bin .add (.var 7) (.var 8)], .tup [.var 6, .var 7]])), .asg 10 (.k .none), .asg 11 (.ix (.call "searched" [.var 1, .var 5, .tup [.k .none, .k .none]]) (.k (.int 2))), .asg 12 (.bin .add (.ix (.call "searched" [.var 1, .var 5, .tup [.k .none, .var 7]]) (.k (.int 2))) (.ix (.call "searched" [.var 1, .var 5, .tup [.var 7, .k .none]]) (.k (.int 2)))), .ife (.cmp .ne (.lc [17] false (.var 17) .e [.var 11] [.cmp .notin (.var 17) (.var 12)]) (.lst [])) [.ret (.k (.bool false))] [], .for_ [13] .e [.var 9] [.unp [14, 15, 16] (.call "searched" [.var 1, .var 5, .var 13]), .ife (.or (.cmp .ne (.var 14) (.call "_law_side" [.var 2, .var 13])) (.and (.cmp .eq (.var 14) (.k (.str "is"))) (.cmp .ne (.var 15) (.var 2)))) [.ret (.k (.bool false))] [], .ife (.and (.cmp .isnot (.var 10) (.k .none)) (.not (.call "_law_within" [.var 16, .var 10]))) [.ret (.k (.bool false))] [], .asg 10 (.var 16)]], .ret (.k (.bool true))]

end VL
set_option Elab.async false
set_option linter.all false
set_option maxRecDepth 100000
set_option maxHeartbeats 4000000
/-! VE37: _law_side, _law_within, a play's last stand. -/
namespace VL
open PySem PySem.Spec PyProof.Rows L2
local macro_rules | `(tactic| walk_at "vc") => `(tactic| first | with_reducible rfl | assumption | exact Nat.zero_le _ | exact noTup_md _ _ | exact Nat.le_of_ble_eq_true rfl | omega | rfl | trivial | focus (simp only [mkTup, T.leaves, T.noTup, T.noTupl, Kd.isTup, noTupl_md, noTupl_iT, noTupl_kids, PT, KT, Pool, kidT, Bool.not_false, Bool.and_self] <;> fail) | focus (refine ⟨?_, ?_⟩ <;> omega) | exact (fun _ => rfl))
local macro_rules | `(tactic| walk_at "vn") => `(tactic| (intro z; first | (with_unfolding_all exact Bool.noConfusion (show false = true from z)) | (with_unfolding_all exact Bool.noConfusion (show true = false from z)) | (focus (refine absurd z ?_; first | decide | (simp only [Bool.not_eq_true', Bool.not_eq_false', decide_eq_true_eq, decide_eq_false_iff_not, List.length_map, iT_len]; omega) | (simp <;> fail)))))
local macro_rules | `(tactic| walk_at "v1") => `(tactic| ((conv => whnf); (with_reducible refine And.intro ?_ ?_); first | (walk_at "vn"; try (with_reducible intro _)) | (rotate_left; walk_at "vn"; (with_reducible intro _)) | (with_unfolding_all walk_at "vc")))
local macro_rules | `(tactic| walk_at "v") => `(tactic| ((repeat walk_at "v1"); conv => whnf))
local macro_rules | `(tactic| row_has $h) => `(tactic| (rw [$h:ident]; walk_at "v"))
local macro_rules | `(tactic| walk_at "vs") => `(tactic| (refine holdW ?_; walk_at "v"))
local macro_rules | `(tactic| walk_at "vu") => `(tactic| refine unholdW ?_)
def sideW (a b : Option Int) (v : Int) : Str := if shutO a (some v) = true then "below" else if shutO (some v) b = true then "above" else "is"
theorem sd_side {a b : Option Int} {w v : Int} {x y : Option Int} (hs : ¬ shutO a b = true) (sp : Sp1 w v a b) : (sdR a b w x y).1 = sideW a b v ∧ ((sdR a b w x y).1 = "is" → (sdR a b w x y).2 = .int v) := by
  have e1 : shutO a (some w) = shutO a (some v) := by
    cases a with
    | none => rfl
    | some p =>
      have h1 := sp.lb
      have h2 := sp.ub
      rw [ltO_some] at h1
      by_cases z : w ≤ p
      · have : gtO b w := fun y e => by have := shut_false hs rfl e; omega
        have := h2 this
        simp only [shutO]; rw [decide_eq_true z, decide_eq_true (by omega)]
      · have := h1 (by omega)
        simp only [shutO]; rw [decide_eq_false z, decide_eq_false (by omega)]
  have e2 : shutO a (some w) = false → shutO (some w) b = shutO (some v) b := fun z => by
    have h1 : w ≤ v := sp.lb fun p e => by
      subst e
      simp only [shutO, decide_eq_false_iff_not] at z
      omega
    cases b with
    | none => rfl
    | some p =>
      have h2 := sp.ub
      rw [gtO_some] at h2
      by_cases z : p ≤ w
      · simp only [shutO]; rw [decide_eq_true z, decide_eq_true (by omega)]
      · have := h2 (by omega)
        simp only [shutO]; rw [decide_eq_false z, decide_eq_false (by omega)]
  by_cases z : shutO a (some w) = true
  · rw [show sdR a b w x y = (Str.ofString "below", oD y) from if_pos z, show sideW a b v = Str.ofString "below" from if_pos (by rw [← e1]; exact z)]
    exact ⟨rfl, fun h => absurd (show Str.ofString "below" = Str.ofString "is" from h) (by decide)⟩
  · have z' : shutO a (some w) = false := by simpa using z
    have z2 : ¬ shutO a (some v) = true := by rw [← e1]; exact z
    by_cases u : shutO (some w) b = true
    · rw [show sdR a b w x y = (Str.ofString "above", oD x) from (if_neg z).trans (if_pos u), show sideW a b v = Str.ofString "above" from (if_neg z2).trans (if_pos (by rw [← e2 z']; exact u))]
      exact ⟨rfl, fun h => absurd (show Str.ofString "above" = Str.ofString "is" from h) (by decide)⟩
    · rw [show sdR a b w x y = (Str.ofString "is", .int w) from (if_neg z).trans (if_neg u), show sideW a b v = Str.ofString "is" from (if_neg z2).trans (if_neg (by rw [← e2 z']; exact u))]
      refine ⟨rfl, fun _ => ?_⟩
      have h1 : w ≤ v := sp.lb fun p e => by
        subst e
        simp only [shutO, decide_eq_false_iff_not] at z'
        omega
      have h2 : v ≤ w := sp.ub fun p e => by
        subst e
        simp only [shutO, decide_eq_true_eq] at u
        omega
      show PyData.int w = PyData.int v
      rw [show w = v by omega]
abbrev F_law_side : List T → (T → List T → Prop) → Prop := fun ts Q => ∃ (v : Int) (a b : Option Int), ts = [.d (.int v), .d (wiD a b)] ∧ Q (.d (.str (sideW a b v))) [.dead, .dead]
abbrev fsLawSide : FS := ⟨[.bor, .bor], F_law_side⟩
def Gm_law_side : Ctx := ⟨[], [], ["int"], [], []⟩
theorem w_law_side : bodyW Gm_law_side n_law_side [.bor, .bor] b_law_side F_law_side := by
  intro ts Q h _
  obtain ⟨v, a, b, rfl, q⟩ := h
  unfold sideW at q
  by_cases h1 : shutO a (some v) = true
  · rw [if_pos h1] at q
    cases a with
    | none => cases h1
    | some a =>
      have h1 : v ≤ a := of_decide_eq_true h1
      walk_at "v"
      exact q
  · rw [if_neg h1] at q
    have h1' : ∀ x, a = some x → ¬ v ≤ x := fun x e z => h1 (by rw [e]; exact decide_eq_true z)
    by_cases h2 : shutO (some v) b = true
    · rw [if_pos h2] at q
      cases b with
      | none => cases h2
      | some b =>
        have h2 : v ≥ b := of_decide_eq_true h2
        cases a with
        | none => walk_at "v"; rw [decide_eq_true (show b ≤ v from h2)]; walk_at "v"; exact q
        | some a => have h1 := h1' a rfl; walk_at "v"; rw [decide_eq_true (show b ≤ v from h2)]; walk_at "v"; exact q
    · rw [if_neg h2] at q
      have h2' : ∀ x, b = some x → ¬ v ≥ x := fun x e z => h2 (by rw [e]; exact decide_eq_true z)
      cases a with
      | none =>
        cases b with
        | none => walk_at "v"; exact q
        | some b => have h2 := h2' b rfl; walk_at "v"; rw [decide_eq_false (show ¬ b ≤ v from h2)]; walk_at "v"; exact q
      | some a =>
        have h1 := h1' a rfl
        cases b with
        | none => walk_at "v"; exact q
        | some b => have h2 := h2' b rfl; walk_at "v"; rw [decide_eq_false (show ¬ b ≤ v from h2)]; walk_at "v"; exact q
abbrev F_law_within : List T → (T → List T → Prop) → Prop := fun ts Q => ∃ (few many : List Nat), ts = [.d (nD few), .d (nD many)] ∧ few.Sublist many ∧ many.length < 10000000 ∧ Q (.d (.bool true)) [.dead, .dead]
abbrev fsLawWithin : FS := ⟨[.bor, .bor], F_law_within⟩
def Gm_law_within : Ctx := ⟨[], [], ["len"], [], []⟩
theorem sub_ne {α : Type} {x y : α} {l m : List α} (h : (x :: l).Sublist (y :: m)) (hn : x ≠ y) : (x :: l).Sublist m := by
  cases h with
  | cons _ h => exact h
  | cons_cons _ h => exact absurd rfl hn
theorem w_law_within : bodyW Gm_law_within n_law_within [.bor, .bor] b_law_within F_law_within := by
  intro ts Q h _
  obtain ⟨few, many, rfl, hsub, hl, q⟩ := h
  have hsl : sizeLine > 10000000 := by decide
  have hfl : (few.map fun j => PyData.int (j : Nat)).length = few.length := List.length_map _
  show wSs Gm_law_within b_law_within _ [.d (nD few), .d (nD many), .dead, .dead]
  walk_at "vs"
  walk_at "vu"
  show wSs Gm_law_within (b_law_within.drop 1) _ [.d (nD few), .d (nD many), .d (.int ((0 : Nat) : Int)), .dead]
  walk_at "vs"
  refine forW_k (many.map fun j => PyData.int (j : Nat)) (fun m σ => ∃ (g : Nat) (x3 : T), σ = [.d (nD few), .d (nD many), .d (.int (g : Nat)), x3] ∧ g ≤ few.length ∧ (few.drop g).Sublist (many.drop m)) ?_ ?_ ⟨0, _, rfl, Nat.zero_le _, hsub⟩
  · rintro σ ⟨g, x3, rfl, hg, hs⟩
    rw [List.length_map, List.drop_length] at hs
    have : few.length ≤ g := List.drop_eq_nil_iff.mp (List.sublist_nil.mp hs)
    have e : g = few.length := by omega
    subst e
    walk_at "vu"
    walk_at "v"
    rw [hfl, decide_eq_true rfl]
    exact q
  · rintro m x σ N hx hN - - - ⟨g, x3, rfl, hg, hs⟩
    rw [List.getElem?_map] at hx
    obtain ⟨j, hj, rfl⟩ := Option.map_eq_some_iff.mp hx
    have hm : m < many.length := (List.getElem?_eq_some_iff.mp hj).1
    rw [List.getElem?_eq_getElem hm] at hj
    cases hj
    rw [List.drop_eq_getElem_cons hm] at hs
    by_cases h1 : g < few.length
    · have hat : atI (few.map fun j => PyData.int (j : Nat)) (g : Nat) = some (.int (few[g] : Nat)) := atI_md _ (List.getElem?_eq_getElem h1)
      rw [List.drop_eq_getElem_cons h1] at hs
      by_cases e : few[g] = many[m]
      · have e' : ((few[g] : Nat) : Int) = (many[m] : Nat) := by rw [e]
        walk_at "v"
        row_has hat
        rw [e] at hs
        exact hN _ ⟨g + 1, _, rfl, h1, List.cons_sublist_cons.mp hs⟩
      · have e' : ¬ ((few[g] : Nat) : Int) = (many[m] : Nat) := by omega
        walk_at "v"
        row_has hat
        exact hN _ ⟨g, _, rfl, hg, by rw [List.drop_eq_getElem_cons h1]; exact sub_ne hs e⟩
    · walk_at "v"
      refine hN _ ⟨g, _, rfl, hg, ?_⟩
      rw [List.drop_eq_nil_of_le (by omega)]
      exact List.nil_sublist _
/-! ### a play of its last stand alone -/
theorem px_one1 {w : Int} (h1 : -(10 ^ 30) ≤ w) (h2 : w ≤ 10 ^ 30) : PX [⟨"high", [], w⟩] := by
  refine ⟨pok_one h1 h2, fun i hi hl => ?_, fun s hs => ?_, fun s hs => ?_, [0], rfl, by simp, fun i s hs c hc => ?_⟩
  · simp at hl; omega
  · rw [List.mem_singleton.mp hs]; simp
  · rw [List.mem_singleton.mp hs]; simp
  · have := List.mem_of_getElem? hs
    rw [List.mem_singleton.mp this] at hc
    cases hc
theorem last_one {P : List Stn} (ok : POk P) : ∃ w : Int, (P.map Stn.d).drop (P.length - 1) = [Stn.d ⟨"high", [], w⟩] ∧ PX [⟨"high", [], w⟩] := by
  have hp := ok.pos
  have hi : P.length - 1 < P.length := by omega
  have hs : P[P.length - 1]? = some P[P.length - 1] := List.getElem?_eq_getElem hi
  have hm := List.mem_of_getElem? hs
  generalize hst : P[P.length - 1] = st at hs hm
  have hl0 : st.l = [] := by
    rcases hl : st.l with _ | ⟨c, l⟩
    · rfl
    · have := ok.up _ st hs c (by rw [hl]; simp)
      omega
  refine ⟨st.w, ?_, px_one1 (ok.low st hm) (ok.high st hm)⟩
  rw [← List.map_drop, List.drop_eq_getElem_cons hi, hst, List.drop_eq_nil_of_le (by omega)]
  show [Stn.d st] = _
  congr 1
  unfold Stn.d
  rw [if_pos hl0, if_pos rfl]
end VL
set_option Elab.async false
set_option linter.all false
set_option maxRecDepth 100000
set_option maxHeartbeats 4000000
/-! VF37: k37's law. -/
namespace VL
open PySem PySem.Spec PyProof.Rows L2
local macro_rules | `(tactic| walk_at "vc") => `(tactic| first | with_reducible rfl | assumption | exact Nat.zero_le _ | exact noTup_md _ _ | exact Nat.le_of_ble_eq_true rfl | omega | rfl | trivial | focus (simp only [mkTup, T.leaves, T.noTup, T.noTupl, Kd.isTup, noTupl_md, noTupl_iT, noTupl_kids, PT, KT, Pool, kidT, Bool.not_false, Bool.and_self] <;> fail) | focus (refine ⟨?_, ?_⟩ <;> omega) | exact (fun _ => rfl))
local macro_rules | `(tactic| walk_at "vn") => `(tactic| (intro z; first | (with_unfolding_all exact Bool.noConfusion (show false = true from z)) | (with_unfolding_all exact Bool.noConfusion (show true = false from z)) | (focus (refine absurd z ?_; first | decide | (simp only [Bool.not_eq_true', Bool.not_eq_false', decide_eq_true_eq, decide_eq_false_iff_not, List.length_map, iT_len]; omega) | (simp <;> fail)))))
local macro_rules | `(tactic| walk_at "v1") => `(tactic| ((conv => whnf); (with_reducible refine And.intro ?_ ?_); first | (walk_at "vn"; try (with_reducible intro _)) | (rotate_left; walk_at "vn"; (with_reducible intro _)) | (with_unfolding_all walk_at "vc")))
local macro_rules | `(tactic| walk_at "v") => `(tactic| ((repeat walk_at "v1"); conv => whnf))
local macro_rules | `(tactic| row_has $h) => `(tactic| (rw [$h:ident]; walk_at "v"))
local macro_rules | `(tactic| walk_at "vs") => `(tactic| (refine holdW ?_; walk_at "v"))
local macro_rules | `(tactic| walk_at "vu") => `(tactic| refine unholdW ?_)
theorem PT_frz (P : List Stn) : T.data (.nd .list (PT P)) = some (PD P) := PT_data P
theorem OT_data (O : List (List Nat)) : T.data (.nd .list (O.map fun ps => .d (nD ps))) = some (OD O) := data_md nD O
theorem cut_last {α : Type} (xs : List α) (h : 0 < xs.length) : cutL xs (some (-1)) none = xs.drop (xs.length - 1) := by
  unfold cutL HT.sIx
  simp only
  rw [if_pos (by decide), show ((-1 : Int) + (xs.length : Int)).toNat = xs.length - 1 by omega]
  exact List.take_of_length_le (by rw [List.length_drop]; omega)
def Gm_law (C : Addr) : Ctx := ⟨[("_law_play", fsPlay), ("_law_ways_many", fsLawWaysMany), ("_law_worths", fsLawWorths), ("_law_pool", fsPool), ("_law_order", fsLawOrder), ("_law_take", fsTake), ("searched", fsSearched), ("_law_side", fsLawSide), ("_law_within", fsLawWithin)], [], ["len", "range"], [], []⟩
theorem w_law (C : Addr) : bodyW (Gm_law C) n_law [.bor] b_law (FLaw 63) := by
  intro ts Q h _
  obtain ⟨ns, hns, rfl, q⟩ := h
  have hsl : sizeLine > 10000000 := by decide
  have hnl : (ns.map PyData.int).length = ns.length := List.length_map _
  show wSs (Gm_law C) b_law _ [.d (.list (ns.map .int)), .dead, .dead, .dead, .dead, .dead, .dead, .dead, .dead, .dead, .dead, .dead, .dead, .dead, .dead, .dead, .dead, .dead]
  suffices hz : ∀ P : List Stn, PX P → P.length ≤ 90 → wSs (Gm_law C) (b_law.drop 2) (ends [.bor] [.d (.list (ns.map .int))] Q) [.d (.list (ns.map .int)), .d (PD P), .dead, .dead, .dead, .dead, .dead, .dead, .dead, .dead, .dead, .dead, .dead, .dead, .dead, .dead, .dead, .dead] by
    walk_at "vs"
    refine ⟨ns, 90, _, rfl, by decide, fun P ok hP px _ => ⟨fun z => (by cases z), ?_⟩⟩
    have hpd := PT_data P
    have hPl : P.length ≤ 90 := by omega
    walk_at "v"
    rw [hpd]
    walk_at "v"
    walk_at "vu"
    show wSs (Gm_law C) (b_law.drop 1) _ [.d (.list (ns.map .int)), .d (PD P), .dead, .dead, .dead, .dead, .dead, .dead, .dead, .dead, .dead, .dead, .dead, .dead, .dead, .dead, .dead, .dead]
    by_cases h1 : ns.length = 1
    · obtain ⟨w, hw, pxw⟩ := last_one ok
      have hpos := ok.pos
      have hcut : T.data (.nd .list (cutL (List.map T.d (List.map Stn.d P)) (some (-1)) none)) = some (PD [⟨"high", [], w⟩]) := by
        rw [cut_last _ (by simpa using hpos), ← List.map_drop, List.length_map, List.length_map, hw]
        rfl
      walk_at "vs"
      rw [hcut]
      walk_at "v"
      walk_at "vu"
      exact hz _ pxw (by simp)
    · walk_at "vs"
      walk_at "vu"
      exact hz P px hPl
  intro P px hP
  have ok := px.toPOk
  have hpos := ok.pos
  walk_at "vs"
  refine ⟨P, rfl, ok, by omega, fun ms v hm hv => ⟨fun z => (by cases z), ?_⟩⟩
  by_cases hv2 : v > 2000
  · walk_at "v"
    exact q _
  walk_at "v"
  walk_at "vu"
  show wSs (Gm_law C) (b_law.drop 3) _ [.d (.list (ns.map .int)), .d (PD P), .dead, .dead, .dead, .dead, .dead, .dead, .dead, .dead, .dead, .dead, .dead, .dead, .dead, .dead, .dead, .dead]
  walk_at "vs"
  refine ⟨P, rfl, ok, by omega, fun ws hwl hwv => ⟨fun z => (by cases z), ?_⟩⟩
  have hw : WsOk P ws := ⟨hwl, hwv⟩
  obtain ⟨w, hww⟩ : ∃ w, ws[0]? = some w := ⟨_, List.getElem?_eq_getElem (by omega)⟩
  have hw0 : ws.getD 0 0 = w := by rw [List.getD_eq_getElem?_getD, hww]; rfl
  have h5 : ixN (iT ws).length 0 = some 0 := ixN_nat (k := 0) (by rw [iT_len, hwl]; exact hpos)
  have h6 : (iT ws)[0]? = some (.d (.int w)) := iT_get hww
  walk_at "v"
  row_has h5
  row_has h6
  walk_at "vu"
  show wSs (Gm_law C) (b_law.drop 4) _ [.d (.list (ns.map .int)), .d (PD P), .d (.int w), .dead, .dead, .dead, .dead, .dead, .dead, .dead, .dead, .dead, .dead, .dead, .dead, .dead, .dead, .dead]
  obtain ⟨fs, lv⟩ := px.lv
  have hfu : Fu fs 41 0 := by have := (Fu.le lv hpos).1; unfold Fu; omega
  have hfew : ∀ s ∈ P, s.l.length < 1000000 := fun s hs => by have := px.b12 s hs; omega
  have hlen : ∀ O, OOk P O → ∀ a b, (ab P O 41 0 a b).2.length ≤ 2000 := fun O oo a b => by
    have := ab_len ok oo hm lv 41 0 hpos a b
    have e : ms.getD 0 0 = v := by rw [List.getD_eq_getElem?_getD, hv]; rfl
    omega
  refine holdW ?_
  (conv => whnf); refine ⟨rfl, ?_⟩
  (conv => whnf); refine ⟨by unfold inR; omega, ?_⟩
  show forW [3] (fun D' σ' => wSs (Gm_law C) _ D' σ') _ [.int 0, .int 1, .int 2] [.d (.list (ns.map .int)), .d (PD P), .d (.int w), .dead, .dead, .dead, .dead, .dead, .dead, .dead, .dead, .dead, .dead, .dead, .dead, .dead, .dead, .dead]
  refine forW_all (l := [.int 0, .int 1, .int 2]) (fun σ => ∃ x3 x4 x5 x6 x7 x8 x9 x10 x11 x12 x13 x14 x15 x16 x17, σ = [.d (.list (ns.map .int)), .d (PD P), .d (.int w), x3, x4, x5, x6, x7, x8, x9, x10, x11, x12, x13, x14, x15, x16, x17]) ?_ ?_ ⟨_, _, _, _, _, _, _, _, _, _, _, _, _, _, _, rfl⟩
  · rintro σ ⟨x3, x4, x5, x6, x7, x8, x9, x10, x11, x12, x13, x14, x15, x16, x17, rfl⟩
    walk_at "vu"
    walk_at "v"
    exact q _
  · rintro x hx σ N hN - hR - ⟨x3, x4, x5, x6, x7, x8, x9, x10, x11, x12, x13, x14, x15, x16, x17, rfl⟩
    obtain ⟨k, rfl, hk0⟩ : ∃ k : Int, x = .int k ∧ 0 ≤ k := by
      simp only [List.mem_cons, List.not_mem_nil, or_false] at hx
      rcases hx with rfl | rfl | rfl
      · exact ⟨0, rfl, by decide⟩
      · exact ⟨1, rfl, by decide⟩
      · exact ⟨2, rfl, by decide⟩
    walk_at "vs"
    refine ⟨ns, _, rfl, by omega, fun a s hp => ⟨fun z => (by cases z), ?_⟩⟩
    walk_at "v"
    walk_at "vu"
    show wSs (Gm_law C) [_, _, _, _, _, _, _, _, _, _, _] N [.d (.list (ns.map .int)), .d (PD P), .d (.int w), .d (.int k), Pool a s, x5, x6, x7, x8, x9, x10, x11, x12, x13, x14, x15, x16, x17]
    walk_at "vs"
    refine ⟨a, s, P, rfl, hp, ok, by omega, fun O a s oo hp => ⟨fun z => (by cases z), ?_⟩⟩
    have hod := OT_data O
    walk_at "v"
    rw [hod]
    walk_at "v"
    walk_at "vu"
    show wSs (Gm_law C) [_, _, _, _, _, _, _, _, _, _] N [.d (.list (ns.map .int)), .d (PD P), .d (.int w), .d (.int k), Pool a s, .d (OD O), x6, x7, x8, x9, x10, x11, x12, x13, x14, x15, x16, x17]
    walk_at "vs"
    refine ⟨a, s, _, rfl, hp, by omega, by omega, fun r a s h0 h1 hp => ⟨fun z => (by cases z), ?_⟩⟩
    walk_at "v"
    walk_at "vu"
    generalize w - 6 + r = low
    show wSs (Gm_law C) [_, _, _, _, _, _, _, _, _] N [.d (.list (ns.map .int)), .d (PD P), .d (.int w), .d (.int k), Pool a s, .d (OD O), .d (.int low), x7, x8, x9, x10, x11, x12, x13, x14, x15, x16, x17]
    walk_at "vs"
    refine ⟨a, s, _, rfl, hp, by omega, by omega, fun r a s h0 h1 hp => ⟨fun z => (by cases z), ?_⟩⟩
    walk_at "v"
    walk_at "vu"
    obtain ⟨high, hhi⟩ : ∃ high, high = low + 1 + r := ⟨_, rfl⟩
    rw [← hhi]
    show wSs (Gm_law C) [_, _, _, _, _, _, _, _] N [.d (.list (ns.map .int)), .d (PD P), .d (.int w), .d (.int k), Pool a s, .d (OD O), .d (.int low), .d (.int high), x8, x9, x10, x11, x12, x13, x14, x15, x16, x17]
    walk_at "vs"
    refine ⟨a, s, _, rfl, hp, by omega, by omega, fun more a s hm0 hm1 hp => ⟨fun z => (by cases z), ?_⟩⟩
    walk_at "v"
    walk_at "vu"
    show wSs (Gm_law C) [_, _, _, _, _, _, _] N [.d (.list (ns.map .int)), .d (PD P), .d (.int w), .d (.int k), Pool a s, .d (OD O), .d (.int low), .d (.int high), .d (.int more), x9, x10, x11, x12, x13, x14, x15, x16, x17]
    walk_at "vs"
    refine ⟨a, s, _, rfl, hp, by omega, by omega, fun r2 a s h2 h3 hp => ⟨fun z => (by cases z), ?_⟩⟩
    have hw2 : ∃ x, (r2 = 0 ∧ x = (some (low - more), none)) ∨ (r2 = 1 ∧ x = ((none : Option Int), some (high + more))) := by
      have : r2 = 0 ∨ r2 = 1 := by omega
      rcases this with z | z
      · exact ⟨_, .inl ⟨z, rfl⟩⟩
      · exact ⟨_, .inr ⟨z, rfl⟩⟩
    obtain ⟨⟨wa, wb⟩, hw2⟩ := hw2
    suffices hz : wSs (Gm_law C) [_, _, _, _, _, _] N [.d (.list (ns.map .int)), .d (PD P), .d (.int w), .d (.int k), Pool a s, .d (OD O), .d (.int low), .d (.int high), .d (.int more), .nd .list [.d (wiD none none), .d (wiD wa wb)], x10, x11, x12, x13, x14, x15, x16, x17] by
      rcases hw2 with ⟨rfl, e⟩ | ⟨rfl, e⟩
      · cases e
        walk_at "v"
        walk_at "vu"
        exact hz
      · cases e
        walk_at "v"
        walk_at "vu"
        exact hz
    walk_at "vs"
    walk_at "vu"
    show wSs (Gm_law C) [_, _, _, _, _] N [.d (.list (ns.map .int)), .d (PD P), .d (.int w), .d (.int k), Pool a s, .d (OD O), .d (.int low), .d (.int high), .d (.int more), .nd .list [.d (wiD none none), .d (wiD wa wb), .d (wiD (some (low - more)) (some (high + more))), .d (wiD (some low) (some high))], x10, x11, x12, x13, x14, x15, x16, x17]
    walk_at "vs"
    walk_at "vu"
    show wSs (Gm_law C) [_, _, _, _] N [.d (.list (ns.map .int)), .d (PD P), .d (.int w), .d (.int k), Pool a s, .d (OD O), .d (.int low), .d (.int high), .d (.int more), .nd .list [.d (wiD none none), .d (wiD wa wb), .d (wiD (some (low - more)) (some (high + more))), .d (wiD (some low) (some high))], .d .none, x11, x12, x13, x14, x15, x16, x17]
    walk_at "vs"
    refine ⟨P, O, fs, ms, v, none, none, rfl, ok, by omega, oo, hfew, lv, hm, hv, by omega, (by intro z; cases z), fun fh fl x y _ _ _ _ => ⟨fun z => (by cases z), ?_⟩⟩
    walk_at "v"
    walk_at "vu"
    show wSs (Gm_law C) [_, _, _] N [.d (.list (ns.map .int)), .d (PD P), .d (.int w), .d (.int k), Pool a s, .d (OD O), .d (.int low), .d (.int high), .d (.int more), .nd .list [.d (wiD none none), .d (wiD wa wb), .d (wiD (some (low - more)) (some (high + more))), .d (wiD (some low) (some high))], .d .none, .d (nD (ab P O 41 0 none none).2), x12, x13, x14, x15, x16, x17]
    walk_at "vs"
    refine ⟨P, O, fs, ms, v, none, (some high), rfl, ok, by omega, oo, hfew, lv, hm, hv, by omega, (by intro z; cases z), fun fh fl x y _ _ _ _ => ⟨fun z => (by cases z), ?_⟩⟩
    walk_at "v"
    refine ⟨P, O, fs, ms, v, (some high), none, rfl, ok, by omega, oo, hfew, lv, hm, hv, by omega, (by intro z; cases z), fun fh fl x y _ _ _ _ => ⟨fun z => (by cases z), ?_⟩⟩
    walk_at "v"
    have hl1 := hlen O oo none (some high)
    have hl2 := hlen O oo (some high) none
    have hl3 := hlen O oo none none
    obtain ⟨every, hev⟩ : ∃ every, every = (ab P O 41 0 none none).2 := ⟨_, rfl⟩
    obtain ⟨l12, hl12⟩ : ∃ l12, l12 = (ab P O 41 0 none (some high)).2 ++ (ab P O 41 0 (some high) none).2 := ⟨_, rfl⟩
    have e12 : List.map T.d (List.map (fun j : Nat => PyData.int (j : Nat)) (ab P O 41 0 none (some high)).2) ++ List.map T.d (List.map (fun j : Nat => PyData.int (j : Nat)) (ab P O 41 0 (some high) none).2) = nT l12 := by
      rw [hl12, nT_app, List.map_map, List.map_map]
      rfl
    rw [List.length_map, List.length_map, List.length_map, List.length_map, e12, ← hev]
    refine ⟨by omega, noTup_md _ _, Nat.le_of_ble_eq_true rfl, ?_⟩
    walk_at "vu"
    show wSs (Gm_law C) [_, _] N [.d (.list (ns.map .int)), .d (PD P), .d (.int w), .d (.int k), Pool a s, .d (OD O), .d (.int low), .d (.int high), .d (.int more), .nd .list [.d (wiD none none), .d (wiD wa wb), .d (wiD (some (low - more)) (some (high + more))), .d (wiD (some low) (some high))], .d .none, .d (nD every), .nd .list (nT l12), x13, x14, x15, x16, x17]
    have hin : ∀ e ∈ every, ((l12.map fun j => PyData.int (j : Nat)).any fun z => PyData.eqv z (.int (e : Nat))) = true := fun e he => by
      rw [List.any_eq_true]
      have key : e ∈ l12 := by
        rw [hev, ab_looks ok hw oo lv 41 0 hpos hfu none none (by decide)] at he
        rw [hl12, ab_looks ok hw oo lv 41 0 hpos hfu none (some high) (by intro z; cases z), ab_looks ok hw oo lv 41 0 hpos hfu (some high) none (by intro z; cases z)]
        exact List.mem_append.mpr (lk_touch high 41 0 none none e (by decide) he)
      exact ⟨.int (e : Nat), List.mem_map.mpr ⟨e, key, rfl⟩, by simp [PyData.eqv]⟩
    have hd12 := nT_data l12
    have hfl : (l12.map fun j => PyData.int (j : Nat)).all flatD = true := by
      rw [List.all_eq_true]
      intro x hx
      obtain ⟨j, _, rfl⟩ := List.mem_map.mp hx
      rfl
    walk_at "vs"
    refine lcW_fd (is := [17]) (σ := [.d (.list (ns.map .int)), .d (PD P), .d (.int w), .d (.int k), Pool a s, .d (OD O), .d (.int low), .d (.int high), .d (.int more), .nd .list [.d (wiD none none), .d (wiD wa wb), .d (wiD (some (low - more)) (some (high + more))), .d (wiD (some low) (some high))], .d .none, .d (nD every), .nd .list (nT l12), x13, x14, x15, x16, x17]) (fun j : Nat => PyData.int j) (fun _ => false) (fun _ => .d .none) every (fun c hc => ?_) (by rw [hev]; omega) ?_
    · refine ⟨[.d (.list (ns.map .int)), .d (PD P), .d (.int w), .d (.int k), Pool a s, .d (OD O), .d (.int low), .d (.int high), .d (.int more), .nd .list [.d (wiD none none), .d (wiD wa wb), .d (wiD (some (low - more)) (some (high + more))), .d (wiD (some low) (some high))], .d .none, .d (nD every), .nd .list (nT l12), x13, x14, x15, x16, .d (.int (c : Nat))], rfl, fun Q hQ => ?_, fun z => (by cases z), rfl⟩
      walk_at "v"
      rw [data_p (t := .nd .list (nT l12)) rfl hd12]
      walk_at "v"
      rw [hin c hc]
      exact hQ
    rw [List.filter_eq_nil_iff.mpr (fun _ _ => by decide)]
    walk_at "v"
    walk_at "vu"
    show wSs (Gm_law C) [_] N [.d (.list (ns.map .int)), .d (PD P), .d (.int w), .d (.int k), Pool a s, .d (OD O), .d (.int low), .d (.int high), .d (.int more), .nd .list [.d (wiD none none), .d (wiD wa wb), .d (wiD (some (low - more)) (some (high + more))), .d (wiD (some low) (some high))], .d .none, .d (nD every), .nd .list (nT l12), x13, x14, x15, x16, x17]
    obtain ⟨Wn, hWn⟩ : ∃ Wn : List (Option Int × Option Int), Wn = [(none, none), (wa, wb), (some (low - more), some (high + more)), (some low, some high)] := ⟨_, rfl⟩
    have hsh : ∀ p ∈ Wn, ¬ shutO p.1 p.2 = true := fun p hp => by
      rw [hWn] at hp
      simp only [List.mem_cons, List.not_mem_nil, or_false] at hp
      rcases hp with rfl | rfl | rfl | rfl
      · decide
      · rcases hw2 with ⟨_, e⟩ | ⟨_, e⟩ <;> cases e <;> (intro z; cases z)
      · simp only [shutO, decide_eq_true_eq]; omega
      · simp only [shutO, decide_eq_true_eq]; omega
    have hmono : ∀ (m : Nat) p p', Wn[m]? = some p → Wn[m + 1]? = some p' → leA p.1 p'.1 ∧ leB p'.2 p.2 := fun m p p' h h' => by
      rw [hWn] at h h'
      match m, h, h' with
      | 0, h, h' =>
        cases h; cases h'
        exact ⟨trivial, by cases wb <;> trivial⟩
      | 1, h, h' =>
        cases h; cases h'
        rcases hw2 with ⟨_, e⟩ | ⟨_, e⟩
        · cases e
          exact ⟨Int.le_refl _, trivial⟩
        · cases e
          exact ⟨trivial, Int.le_refl _⟩
      | 2, h, h' =>
        cases h; cases h'
        exact ⟨show low - more ≤ low by omega, show high ≤ high + more by omega⟩
      | 3, h, h' => cases h'
      | m + 4, h, h' => simp at h
    (conv => whnf); refine ⟨rfl, ?_⟩
    (conv => whnf); refine ⟨rfl, ?_⟩
    have hWd : [wiD none none, wiD wa wb, wiD (some (low - more)) (some (high + more)), wiD (some low) (some high)] = Wn.map fun p => wiD p.1 p.2 := by rw [hWn]; rfl
    suffices hz : forW [13] (fun D' σ' => wSs (Gm_law C) _ D' σ') _ (Wn.map fun p => wiD p.1 p.2) [.d (.list (ns.map .int)), .d (PD P), .d (.int w), .d (.int k), Pool a s, .d (OD O), .d (.int low), .d (.int high), .d (.int more), .d (.list (Wn.map fun p => wiD p.1 p.2)), .d .none, .d (nD every), .nd .list (nT l12), x13, x14, x15, x16, x17] by
      rw [← hWd] at hz
      exact hz
    refine forW_k (Wn.map fun p => wiD p.1 p.2) (fun m σ => ∃ ah x13 x14 x15 x16 x17, σ = [.d (.list (ns.map .int)), .d (PD P), .d (.int w), .d (.int k), Pool a s, .d (OD O), .d (.int low), .d (.int high), .d (.int more), .d (.list (Wn.map fun p => wiD p.1 p.2)), .d ah, .d (nD every), .nd .list (nT l12), x13, x14, x15, x16, x17] ∧ ((m = 0 ∧ ah = .none) ∨ ∃ p m', m = m' + 1 ∧ Wn[m']? = some p ∧ ah = nD (ab P O 41 0 p.1 p.2).2)) ?_ ?_ ⟨_, _, _, _, _, _, rfl, .inl ⟨rfl, rfl⟩⟩
    · rintro σ ⟨ah, x13, x14, x15, x16, x17, rfl, _⟩
      exact hN _ ⟨_, _, _, _, _, _, _, _, _, _, _, _, _, _, _, rfl⟩
    · rintro m x σ N2 hx hN2 - hR2 - ⟨ah, x13, x14, x15, x16, x17, rfl, hah⟩
      rw [List.getElem?_map] at hx
      obtain ⟨⟨pa, pb⟩, hpx, rfl⟩ := Option.map_eq_some_iff.mp hx
      have hps := hsh _ (List.mem_of_getElem? hpx)
      have sp := ab_sp ok hw oo lv 41 0 hpos hfu pa pb hps
      rw [hw0] at sp
      have hll := hlen O oo pa pb
      have hlk := ab_looks ok hw oo lv 41 0 hpos hfu pa pb hps
      walk_at "vs"
      refine ⟨P, O, fs, ms, v, pa, pb, rfl, ok, by omega, oo, hfew, lv, hm, hv, by omega, hps, fun fh fl x y _ _ _ _ => ⟨fun z => (by cases z), ?_⟩⟩
      obtain ⟨hs1, hs2⟩ := sd_side (x := x) (y := y) hps sp
      unfold seD
      generalize sdR pa pb (ab P O 41 0 pa pb).1 x y = sd at hs1 hs2
      obtain ⟨wd, nm⟩ := sd
      simp only at hs1 hs2
      obtain ⟨looks, hlo⟩ : ∃ looks, looks = (ab P O 41 0 pa pb).2 := ⟨_, rfl⟩
      rw [← hlo]
      rw [← hlo] at hll hlk
      walk_at "v"
      walk_at "vu"
      show wSs (Gm_law C) [_, _, _] N2 [.d (.list (ns.map .int)), .d (PD P), .d (.int w), .d (.int k), Pool a s, .d (OD O), .d (.int low), .d (.int high), .d (.int more), .d (.list (Wn.map fun p => wiD p.1 p.2)), .d ah, .d (nD every), .nd .list (nT l12), .d (wiD pa pb), .d (.str wd), .d nm, .d (nD looks), x17]
      have hdec : decide (wd = wd) = true := decide_eq_true rfl
      suffices hz : wSs (Gm_law C) [_, _] N2 [.d (.list (ns.map .int)), .d (PD P), .d (.int w), .d (.int k), Pool a s, .d (OD O), .d (.int low), .d (.int high), .d (.int more), .d (.list (Wn.map fun p => wiD p.1 p.2)), .d ah, .d (nD every), .nd .list (nT l12), .d (wiD pa pb), .d (.str wd), .d nm, .d (nD looks), x17] by
        refine holdW ?_
        walk_at "v"
        refine ⟨w, pa, pb, rfl, fun z => (by cases z), ?_⟩
        rw [← hs1]
        by_cases his : wd = "is"
        · have hnm := hs2 his
          subst hnm
          walk_at "v"
          refine ⟨fun _ => ?_, fun z => absurd his (of_decide_eq_false z)⟩
          walk_at "v"
          walk_at "vu"
          exact hz
        · walk_at "v"
          walk_at "vu"
          exact hz
      have fin : ∀ ah : PyData, N2.nx [.d (.list (ns.map .int)), .d (PD P), .d (.int w), .d (.int k), Pool a s, .d (OD O), .d (.int low), .d (.int high), .d (.int more), .d (.list (Wn.map fun p => wiD p.1 p.2)), .d (nD looks), .d (nD every), .nd .list (nT l12), .d (wiD pa pb), .d (.str wd), .d nm, .d (nD looks), x17] := fun _ => hN2 _ ⟨nD looks, _, _, _, _, _, rfl, .inr ⟨(pa, pb), m, rfl, hpx, by rw [hlo]⟩⟩
      rcases hah with ⟨_, rfl⟩ | ⟨p, m', rfl, hp', rfl⟩
      · walk_at "vs"
        walk_at "vu"
        walk_at "v"
        exact fin .none
      · obtain ⟨m1, m2⟩ := hmono m' p (pa, pb) hp' hpx
        have hpl := ab_looks ok hw oo lv 41 0 hpos hfu p.1 p.2 (hsh _ (List.mem_of_getElem? hp'))
        have hpn := hlen O oo p.1 p.2
        walk_at "vs"
        refine ⟨looks, (ab P O 41 0 p.1 p.2).2, rfl, ?_, by omega, fun z => (by cases z), ?_⟩
        · rw [hlk, hpl]
          exact lk_mono 41 0 _ _ _ _ m1 m2
        walk_at "v"
        walk_at "vu"
        walk_at "v"
        exact fin .none
end VL
set_option Elab.async false
set_option linter.all false
set_option maxRecDepth 100000
set_option maxHeartbeats 4000000
namespace VL
open PySem PySem.Spec PyProof.Rows L2

abbrev s_law_pool : Stmt := PySem.Challenge.pw_cutboughs_k37_whole_windows_within_windo.main.body.getD 32 (.Pass ⟨0, 0, 0, 0⟩)
theorem sc_law_pool : FnScope n_law_pool ["_law_script", "_law_k"] (defScope s_law_pool) := ⟨rfl, rfl, rfl, by decide +kernel, rfl, by decide +kernel, by decide +kernel⟩
theorem ch_law_pool : chkSs (Gm_pool).sk ⟨n_law_pool, defScope s_law_pool, fun _ => true⟩ b_law_pool (defBody s_law_pool) = true := by decide +kernel
abbrev s_law_take : Stmt := PySem.Challenge.pw_cutboughs_k37_whole_windows_within_windo.main.body.getD 33 (.Pass ⟨0, 0, 0, 0⟩)
theorem sc_law_take : FnScope n_law_take ["_law_pool_here", "_law_many"] (defScope s_law_take) := ⟨rfl, rfl, rfl, by decide +kernel, rfl, by decide +kernel, by decide +kernel⟩
theorem ch_law_take : chkSs (Gm_take).sk ⟨n_law_take, defScope s_law_take, fun _ => true⟩ b_law_take (defBody s_law_take) = true := by decide +kernel
abbrev s_law_kids : Stmt := PySem.Challenge.pw_cutboughs_k37_whole_windows_within_windo.main.body.getD 34 (.Pass ⟨0, 0, 0, 0⟩)
theorem sc_law_kids : FnScope n_law_kids ["_law_script", "_law_head", "_law_most"] (defScope s_law_kids) := ⟨rfl, rfl, rfl, by decide +kernel, rfl, by decide +kernel, by decide +kernel⟩
theorem ch_law_kids : chkSs (Gm_kids).sk ⟨n_law_kids, defScope s_law_kids, fun _ => true⟩ b_law_kids (defBody s_law_kids) = true := by decide +kernel
abbrev s_law_merged : Stmt := PySem.Challenge.pw_cutboughs_k37_whole_windows_within_windo.main.body.getD 36 (.Pass ⟨0, 0, 0, 0⟩)
theorem sc_law_merged : FnScope n_law_merged ["_law_second", "_law_kids_here", "_law_far"] (defScope s_law_merged) := ⟨rfl, rfl, rfl, by decide +kernel, rfl, by decide +kernel, by decide +kernel⟩
theorem ch_law_merged : chkSs (Gm_merged).sk ⟨n_law_merged, defScope s_law_merged, fun _ => true⟩ b_law_merged (defBody s_law_merged) = true := by decide +kernel
abbrev s_law_hand : Stmt := PySem.Challenge.pw_cutboughs_k37_whole_windows_within_windo.main.body.getD 37 (.Pass ⟨0, 0, 0, 0⟩)
theorem sc_law_hand : FnScope n_law_hand ["_law_second", "_law_turns", "_law_far"] (defScope s_law_hand) := ⟨rfl, rfl, rfl, by decide +kernel, rfl, by decide +kernel, by decide +kernel⟩
theorem ch_law_hand : chkSs (Gm_hand).sk ⟨n_law_hand, defScope s_law_hand, fun _ => true⟩ b_law_hand (defBody s_law_hand) = true := by decide +kernel
abbrev s_law_worth : Stmt := PySem.Challenge.pw_cutboughs_k37_whole_windows_within_windo.main.body.getD 35 (.Pass ⟨0, 0, 0, 0⟩)
theorem sc_law_worth : FnScope n_law_worth ["_law_pool_here", "_law_style", "_law_k"] (defScope s_law_worth) := ⟨rfl, rfl, rfl, by decide +kernel, rfl, by decide +kernel, by decide +kernel⟩
theorem ch_law_worth : chkSs (Gm_worth).sk ⟨n_law_worth, defScope s_law_worth, fun _ => true⟩ b_law_worth (defBody s_law_worth) = true := by decide +kernel
abbrev s_law_play : Stmt := PySem.Challenge.pw_cutboughs_k37_whole_windows_within_windo.main.body.getD 38 (.Pass ⟨0, 0, 0, 0⟩)
theorem sc_law_play : FnScope n_law_play ["_law_script", "_law_most", "_law_merge"] (defScope s_law_play) := ⟨rfl, rfl, rfl, by decide +kernel, rfl, by decide +kernel, by decide +kernel⟩
theorem ch_law_play : chkSs (Gm_play).sk ⟨n_law_play, defScope s_law_play, fun _ => true⟩ b_law_play (defBody s_law_play) = true := by decide +kernel
abbrev s_law_ways_many : Stmt := PySem.Challenge.pw_cutboughs_k37_whole_windows_within_windo.main.body.getD 42 (.Pass ⟨0, 0, 0, 0⟩)
theorem sc_law_ways_many : FnScope n_law_ways_many ["_law_play_here"] (defScope s_law_ways_many) := ⟨rfl, rfl, rfl, by decide +kernel, rfl, by decide +kernel, by decide +kernel⟩
theorem ch_law_ways_many : chkSs (Gm_law_ways_many).sk ⟨n_law_ways_many, defScope s_law_ways_many, fun _ => true⟩ b_law_ways_many (defBody s_law_ways_many) = true := by decide +kernel
abbrev s_law_worths : Stmt := PySem.Challenge.pw_cutboughs_k37_whole_windows_within_windo.main.body.getD 39 (.Pass ⟨0, 0, 0, 0⟩)
theorem sc_law_worths : FnScope n_law_worths2 ["_law_play_here"] (defScope s_law_worths) := ⟨rfl, rfl, rfl, by decide +kernel, rfl, by decide +kernel, by decide +kernel⟩
theorem ch_law_worths : chkSs (Gm_law_worths2).sk ⟨n_law_worths2, defScope s_law_worths, fun _ => true⟩ b_law_worths2 (defBody s_law_worths) = true := by decide +kernel
abbrev s_law_shuffled : Stmt := PySem.Challenge.pw_cutboughs_k37_whole_windows_within_windo.main.body.getD 40 (.Pass ⟨0, 0, 0, 0⟩)
theorem sc_law_shuffled : FnScope n_law_shuffled ["_law_pool_here", "_law_some"] (defScope s_law_shuffled) := ⟨rfl, rfl, rfl, by decide +kernel, rfl, by decide +kernel, by decide +kernel⟩
theorem ch_law_shuffled : chkSs (Gm_law_shuffled).sk ⟨n_law_shuffled, defScope s_law_shuffled, fun _ => true⟩ b_law_shuffled (defBody s_law_shuffled) = true := by decide +kernel
abbrev s_law_order : Stmt := PySem.Challenge.pw_cutboughs_k37_whole_windows_within_windo.main.body.getD 41 (.Pass ⟨0, 0, 0, 0⟩)
theorem sc_law_order : FnScope n_law_order ["_law_pool_here", "_law_play_here"] (defScope s_law_order) := ⟨rfl, rfl, rfl, by decide +kernel, rfl, by decide +kernel, by decide +kernel⟩
theorem ch_law_order : chkSs (Gm_law_order).sk ⟨n_law_order, defScope s_law_order, fun _ => true⟩ b_law_order (defBody s_law_order) = true := by decide +kernel
abbrev s_is_whole : Stmt := PySem.Challenge.pw_cutboughs_k37_whole_windows_within_windo.main.body.getD 7 (.Pass ⟨0, 0, 0, 0⟩)
theorem sc_is_whole : FnScope n_is_whole ["thing"] (defScope s_is_whole) := ⟨rfl, rfl, rfl, by decide +kernel, rfl, by decide +kernel, by decide +kernel⟩
theorem ch_is_whole : chkSs (Gm_is_whole).sk ⟨n_is_whole, defScope s_is_whole, fun _ => true⟩ b_is_whole (defBody s_is_whole) = true := by decide +kernel
abbrev s_are_places : Stmt := PySem.Challenge.pw_cutboughs_k37_whole_windows_within_windo.main.body.getD 20 (.Pass ⟨0, 0, 0, 0⟩)
theorem sc_are_places : FnScope n_are_places ["thing", "many"] (defScope s_are_places) := ⟨rfl, rfl, rfl, by decide +kernel, rfl, by decide +kernel, by decide +kernel⟩
theorem ch_are_places : chkSs (Gm_are_places).sk ⟨n_are_places, defScope s_are_places, fun _ => true⟩ b_are_places (defBody s_are_places) = true := by decide +kernel
abbrev s_steps_of : Stmt := PySem.Challenge.pw_cutboughs_k37_whole_windows_within_windo.main.body.getD 8 (.Pass ⟨0, 0, 0, 0⟩)
theorem sc_steps_of : FnScope n_steps_of ["play", "number"] (defScope s_steps_of) := ⟨rfl, rfl, rfl, by decide +kernel, rfl, by decide +kernel, by decide +kernel⟩
theorem ch_steps_of : chkSs (Gm_steps_of).sk ⟨n_steps_of, defScope s_steps_of, fun _ => true⟩ b_steps_of (defBody s_steps_of) = true := by decide +kernel
abbrev s_is_order : Stmt := PySem.Challenge.pw_cutboughs_k37_whole_windows_within_windo.main.body.getD 21 (.Pass ⟨0, 0, 0, 0⟩)
theorem sc_is_order : FnScope n_is_order ["play", "thing"] (defScope s_is_order) := ⟨rfl, rfl, rfl, by decide +kernel, rfl, by decide +kernel, by decide +kernel⟩
theorem ch_is_order : chkSs (Gm_is_order).sk ⟨n_is_order, defScope s_is_order, fun _ => true⟩ b_is_order (defBody s_is_order) = true := by decide +kernel
abbrev s_look_at_order : Stmt := PySem.Challenge.pw_cutboughs_k37_whole_windows_within_windo.main.body.getD 22 (.Pass ⟨0, 0, 0, 0⟩)
theorem sc_look_at_order : FnScope n_look_at_order ["play", "thing"] (defScope s_look_at_order) := ⟨rfl, rfl, rfl, by decide +kernel, rfl, by decide +kernel, by decide +kernel⟩
theorem ch_look_at_order : chkSs (Gm_look_at_order).sk ⟨n_look_at_order, defScope s_look_at_order, fun _ => true⟩ b_look_at_order (defBody s_look_at_order) = true := by decide +kernel
abbrev s_is_window : Stmt := PySem.Challenge.pw_cutboughs_k37_whole_windows_within_windo.main.body.getD 25 (.Pass ⟨0, 0, 0, 0⟩)
theorem sc_is_window : FnScope n_is_window ["thing"] (defScope s_is_window) := ⟨rfl, rfl, rfl, by decide +kernel, rfl, by decide +kernel, by decide +kernel⟩
theorem ch_is_window : chkSs (Gm_is_window).sk ⟨n_is_window, defScope s_is_window, fun _ => true⟩ b_is_window (defBody s_is_window) = true := by decide +kernel
abbrev s_ways_many : Stmt := PySem.Challenge.pw_cutboughs_k37_whole_windows_within_windo.main.body.getD 18 (.Pass ⟨0, 0, 0, 0⟩)
theorem sc_ways_many : FnScope n_ways_many ["play"] (defScope s_ways_many) := ⟨rfl, rfl, rfl, by decide +kernel, rfl, by decide +kernel, by decide +kernel⟩
theorem ch_ways_many : chkSs (Gm_ways_many).sk ⟨n_ways_many, defScope s_ways_many, fun _ => true⟩ b_ways_many (defBody s_ways_many) = true := by decide +kernel
abbrev s_look_at_ways : Stmt := PySem.Challenge.pw_cutboughs_k37_whole_windows_within_windo.main.body.getD 26 (.Pass ⟨0, 0, 0, 0⟩)
theorem sc_look_at_ways : FnScope n_look_at_ways ["play"] (defScope s_look_at_ways) := ⟨rfl, rfl, rfl, by decide +kernel, rfl, by decide +kernel, by decide +kernel⟩
theorem ch_look_at_ways : chkSs (Gm_look_at_ways).sk ⟨n_look_at_ways, defScope s_look_at_ways, fun _ => true⟩ b_look_at_ways (defBody s_look_at_ways) = true := by decide +kernel
abbrev s_Search___init__ : Stmt := inClass (PySem.Challenge.pw_cutboughs_k37_whole_windows_within_windo.main.body.getD 28 (.Pass ⟨0, 0, 0, 0⟩)) 0
theorem sc_Search___init__ : FnScope n_Search___init__ ["self", "play", "order"] (defScope s_Search___init__) := ⟨rfl, rfl, rfl, by decide +kernel, rfl, by decide +kernel, by decide +kernel⟩
theorem ch_Search___init__ : chkSs (Gm_Search___init__ 0).sk ⟨n_Search___init__, defScope s_Search___init__, fun _ => true⟩ b_Search___init__ (defBody s_Search___init__) = true := by decide +kernel
abbrev s_is_shut : Stmt := PySem.Challenge.pw_cutboughs_k37_whole_windows_within_windo.main.body.getD 27 (.Pass ⟨0, 0, 0, 0⟩)
theorem sc_is_shut : FnScope n_is_shut ["low", "high"] (defScope s_is_shut) := ⟨rfl, rfl, rfl, by decide +kernel, rfl, by decide +kernel, by decide +kernel⟩
theorem ch_is_shut : chkSs (Gm_is_shut).sk ⟨n_is_shut, defScope s_is_shut, fun _ => true⟩ b_is_shut (defBody s_is_shut) = true := by decide +kernel
abbrev s_Search_worth_from : Stmt := inClass (PySem.Challenge.pw_cutboughs_k37_whole_windows_within_windo.main.body.getD 28 (.Pass ⟨0, 0, 0, 0⟩)) 1
theorem sc_Search_worth_from : FnScope n_Search_worth_from ["self", "number", "low", "high"] (defScope s_Search_worth_from) := ⟨rfl, rfl, rfl, by decide +kernel, rfl, by decide +kernel, by decide +kernel⟩
theorem ch_Search_worth_from : chkSs (Gm_Search_worth_from 0 0).sk ⟨n_Search_worth_from, defScope s_Search_worth_from, fun _ => true⟩ b_Search_worth_from (defBody s_Search_worth_from) = true := by decide +kernel
abbrev s_are_ends : Stmt := PySem.Challenge.pw_cutboughs_k37_whole_windows_within_windo.main.body.getD 12 (.Pass ⟨0, 0, 0, 0⟩)
theorem sc_are_ends : FnScope n_are_ends ["play", "thing"] (defScope s_are_ends) := ⟨rfl, rfl, rfl, by decide +kernel, rfl, by decide +kernel, by decide +kernel⟩
theorem ch_are_ends : chkSs (Gm_are_ends).sk ⟨n_are_ends, defScope s_are_ends, fun _ => true⟩ b_are_ends (defBody s_are_ends) = true := by decide +kernel
abbrev s_look_at_ends : Stmt := PySem.Challenge.pw_cutboughs_k37_whole_windows_within_windo.main.body.getD 13 (.Pass ⟨0, 0, 0, 0⟩)
theorem sc_look_at_ends : FnScope n_look_at_ends ["play", "thing"] (defScope s_look_at_ends) := ⟨rfl, rfl, rfl, by decide +kernel, rfl, by decide +kernel, by decide +kernel⟩
theorem ch_look_at_ends : chkSs (Gm_look_at_ends).sk ⟨n_look_at_ends, defScope s_look_at_ends, fun _ => true⟩ b_look_at_ends (defBody s_look_at_ends) = true := by decide +kernel
abbrev s_best_of : Stmt := PySem.Challenge.pw_cutboughs_k37_whole_windows_within_windo.main.body.getD 10 (.Pass ⟨0, 0, 0, 0⟩)
theorem sc_best_of : FnScope n_best_of ["hand", "some"] (defScope s_best_of) := ⟨rfl, rfl, rfl, by decide +kernel, rfl, by decide +kernel, by decide +kernel⟩
theorem ch_best_of : chkSs (Gm_best_of).sk ⟨n_best_of, defScope s_best_of, fun _ => true⟩ b_best_of (defBody s_best_of) = true := by decide +kernel
abbrev s_sure_at : Stmt := PySem.Challenge.pw_cutboughs_k37_whole_windows_within_windo.main.body.getD 14 (.Pass ⟨0, 0, 0, 0⟩)
theorem sc_sure_at : FnScope n_sure_at ["hand", "owner", "some"] (defScope s_sure_at) := ⟨rfl, rfl, rfl, by decide +kernel, rfl, by decide +kernel, by decide +kernel⟩
theorem ch_sure_at : chkSs (Gm_sure_at).sk ⟨n_sure_at, defScope s_sure_at, fun _ => true⟩ b_sure_at (defBody s_sure_at) = true := by decide +kernel
abbrev s_sure_of : Stmt := PySem.Challenge.pw_cutboughs_k37_whole_windows_within_windo.main.body.getD 15 (.Pass ⟨0, 0, 0, 0⟩)
theorem sc_sure_of : FnScope n_sure_of ["play", "ends", "hand"] (defScope s_sure_of) := ⟨rfl, rfl, rfl, by decide +kernel, rfl, by decide +kernel, by decide +kernel⟩
theorem ch_sure_of : chkSs (Gm_sure_of).sk ⟨n_sure_of, defScope s_sure_of, fun _ => true⟩ b_sure_of (defBody s_sure_of) = true := by decide +kernel
abbrev s_shown_by : Stmt := PySem.Challenge.pw_cutboughs_k37_whole_windows_within_windo.main.body.getD 16 (.Pass ⟨0, 0, 0, 0⟩)
theorem sc_shown_by : FnScope n_shown_by ["play", "ends"] (defScope s_shown_by) := ⟨rfl, rfl, rfl, by decide +kernel, rfl, by decide +kernel, by decide +kernel⟩
theorem ch_shown_by : chkSs (Gm_shown_by).sk ⟨n_shown_by, defScope s_shown_by, fun _ => true⟩ b_shown_by (defBody s_shown_by) = true := by decide +kernel
abbrev s_unlike : Stmt := PySem.Challenge.pw_cutboughs_k37_whole_windows_within_windo.main.body.getD 29 (.Pass ⟨0, 0, 0, 0⟩)
theorem sc_unlike : FnScope n_unlike ["some"] (defScope s_unlike) := ⟨rfl, rfl, rfl, by decide +kernel, rfl, by decide +kernel, by decide +kernel⟩
theorem ch_unlike : chkSs (Gm_unlike).sk ⟨n_unlike, defScope s_unlike, fun _ => true⟩ b_unlike (defBody s_unlike) = true := by decide +kernel
abbrev s_searched : Stmt := PySem.Challenge.pw_cutboughs_k37_whole_windows_within_windo.main.body.getD 30 (.Pass ⟨0, 0, 0, 0⟩)
theorem sc_searched : FnScope n_searched ["play", "order", "window"] (defScope s_searched) := ⟨rfl, rfl, rfl, by decide +kernel, rfl, by decide +kernel, by decide +kernel⟩
theorem ch_searched : chkSs (Gm_searched 0).sk ⟨n_searched, defScope s_searched, fun _ => true⟩ b_searched (defBody s_searched) = true := by decide +kernel
abbrev s_law_side : Stmt := PySem.Challenge.pw_cutboughs_k37_whole_windows_within_windo.main.body.getD 44 (.Pass ⟨0, 0, 0, 0⟩)
theorem sc_law_side : FnScope n_law_side ["_law_worth_here", "_law_window"] (defScope s_law_side) := ⟨rfl, rfl, rfl, by decide +kernel, rfl, by decide +kernel, by decide +kernel⟩
theorem ch_law_side : chkSs (Gm_law_side).sk ⟨n_law_side, defScope s_law_side, fun _ => true⟩ b_law_side (defBody s_law_side) = true := by decide +kernel
abbrev s_law_within : Stmt := PySem.Challenge.pw_cutboughs_k37_whole_windows_within_windo.main.body.getD 43 (.Pass ⟨0, 0, 0, 0⟩)
theorem sc_law_within : FnScope n_law_within ["_law_few", "_law_many"] (defScope s_law_within) := ⟨rfl, rfl, rfl, by decide +kernel, rfl, by decide +kernel, by decide +kernel⟩
theorem ch_law_within : chkSs (Gm_law_within).sk ⟨n_law_within, defScope s_law_within, fun _ => true⟩ b_law_within (defBody s_law_within) = true := by decide +kernel
abbrev s_law : Stmt := PySem.Challenge.pw_cutboughs_k37_whole_windows_within_windo.main.body.getD 45 (.Pass ⟨0, 0, 0, 0⟩)
theorem sc_law : FnScope n_law ["_law_script"] (defScope s_law) := ⟨rfl, rfl, rfl, by decide +kernel, rfl, by decide +kernel, by decide +kernel⟩
theorem ch_law : chkSs (Gm_law 0).sk ⟨n_law, defScope s_law, fun _ => true⟩ b_law (defBody s_law) = true := by decide +kernel
theorem all_mk {l : PySem.W.OpenLaw} {w : World} {K : PySem.W.Frag} {h : Heap} {mg : Str → Option Value} {fa CSearch f0 f1 f2 f3 f4 f5 f6 f7 f8 f9 f10 f11 f12 f13 f14 f15 f16 f17 f18 f19 f20 f21 f22 f23 f24 f25 f26 f27 f28 f29 f30 f31 f32 : Addr} (X : K.In h) (G : h.Ns mainGlobals mg) (hfa : mg "law" = some (.ref fa))
    (aCSearch : PySem.W.nsIn K mainGlobals "Search" = some (some (.ref CSearch))) (pgCSearch : PySem.W.plainGet K CSearch Str.empty = true) (hdCSearch : PySem.W.hasDictIn K CSearch = true) (poCSearch : PySem.W.plainOver K CSearch = true) (saCSearch : PySem.W.findIn K (.ref CSearch) "__setattr__" = some (some (.builtin "object.__setattr__"))) (mkCSearch : PySem.W.makesIn K CSearch = true) (kcCSearch : PySem.W.keepIn K (.ref CSearch) = true)
    (nCSearch_stands : PySem.W.findIn K (.ref CSearch) "stands" = some none)
    (nCSearch_places : PySem.W.findIn K (.ref CSearch) "places" = some none)
    (nCSearch_seen : PySem.W.findIn K (.ref CSearch) "seen" = some none)
    {od0 an0 : Option Addr} {sl0 : Array (Option Value)} {oc0 kV0 dc0 pm0 cd0 ct0 : Value} (a0 : PySem.W.nsIn K mainGlobals "_law_pool" = some (some (.ref f0))) (l0 : K.lookup f0 = some ⟨oc0, od0, .func (PySem.W.fnOf "_law_pool" "_law_pool" (defArgs s_law_pool) (defBody s_law_pool) (defScope s_law_pool) .none kV0 dc0 pm0 an0 cd0 ct0), sl0⟩) (c0 : PySem.W.codeIn K cd0 "_law_pool" = true) (k0 : PySem.W.keepIn K (.ref f0) = true)
    {od1 an1 : Option Addr} {sl1 : Array (Option Value)} {oc1 kV1 dc1 pm1 cd1 ct1 : Value} (a1 : PySem.W.nsIn K mainGlobals "_law_take" = some (some (.ref f1))) (l1 : K.lookup f1 = some ⟨oc1, od1, .func (PySem.W.fnOf "_law_take" "_law_take" (defArgs s_law_take) (defBody s_law_take) (defScope s_law_take) .none kV1 dc1 pm1 an1 cd1 ct1), sl1⟩) (c1 : PySem.W.codeIn K cd1 "_law_take" = true) (k1 : PySem.W.keepIn K (.ref f1) = true)
    {od2 an2 : Option Addr} {sl2 : Array (Option Value)} {oc2 kV2 dc2 pm2 cd2 ct2 : Value} (a2 : PySem.W.nsIn K mainGlobals "_law_kids" = some (some (.ref f2))) (l2 : K.lookup f2 = some ⟨oc2, od2, .func (PySem.W.fnOf "_law_kids" "_law_kids" (defArgs s_law_kids) (defBody s_law_kids) (defScope s_law_kids) .none kV2 dc2 pm2 an2 cd2 ct2), sl2⟩) (c2 : PySem.W.codeIn K cd2 "_law_kids" = true) (k2 : PySem.W.keepIn K (.ref f2) = true)
    {od3 an3 : Option Addr} {sl3 : Array (Option Value)} {oc3 kV3 dc3 pm3 cd3 ct3 : Value} (a3 : PySem.W.nsIn K mainGlobals "_law_merged" = some (some (.ref f3))) (l3 : K.lookup f3 = some ⟨oc3, od3, .func (PySem.W.fnOf "_law_merged" "_law_merged" (defArgs s_law_merged) (defBody s_law_merged) (defScope s_law_merged) .none kV3 dc3 pm3 an3 cd3 ct3), sl3⟩) (c3 : PySem.W.codeIn K cd3 "_law_merged" = true) (k3 : PySem.W.keepIn K (.ref f3) = true)
    {od4 an4 : Option Addr} {sl4 : Array (Option Value)} {oc4 kV4 dc4 pm4 cd4 ct4 : Value} (a4 : PySem.W.nsIn K mainGlobals "_law_hand" = some (some (.ref f4))) (l4 : K.lookup f4 = some ⟨oc4, od4, .func (PySem.W.fnOf "_law_hand" "_law_hand" (defArgs s_law_hand) (defBody s_law_hand) (defScope s_law_hand) .none kV4 dc4 pm4 an4 cd4 ct4), sl4⟩) (c4 : PySem.W.codeIn K cd4 "_law_hand" = true) (k4 : PySem.W.keepIn K (.ref f4) = true)
    {od5 an5 : Option Addr} {sl5 : Array (Option Value)} {oc5 kV5 dc5 pm5 cd5 ct5 : Value} (a5 : PySem.W.nsIn K mainGlobals "_law_worth" = some (some (.ref f5))) (l5 : K.lookup f5 = some ⟨oc5, od5, .func (PySem.W.fnOf "_law_worth" "_law_worth" (defArgs s_law_worth) (defBody s_law_worth) (defScope s_law_worth) .none kV5 dc5 pm5 an5 cd5 ct5), sl5⟩) (c5 : PySem.W.codeIn K cd5 "_law_worth" = true) (k5 : PySem.W.keepIn K (.ref f5) = true)
    {od6 an6 : Option Addr} {sl6 : Array (Option Value)} {oc6 kV6 dc6 pm6 cd6 ct6 : Value} (a6 : PySem.W.nsIn K mainGlobals "_law_play" = some (some (.ref f6))) (l6 : K.lookup f6 = some ⟨oc6, od6, .func (PySem.W.fnOf "_law_play" "_law_play" (defArgs s_law_play) (defBody s_law_play) (defScope s_law_play) .none kV6 dc6 pm6 an6 cd6 ct6), sl6⟩) (c6 : PySem.W.codeIn K cd6 "_law_play" = true) (k6 : PySem.W.keepIn K (.ref f6) = true)
    {od7 an7 : Option Addr} {sl7 : Array (Option Value)} {oc7 kV7 dc7 pm7 cd7 ct7 : Value} (a7 : PySem.W.nsIn K mainGlobals "_law_ways_many" = some (some (.ref f7))) (l7 : K.lookup f7 = some ⟨oc7, od7, .func (PySem.W.fnOf "_law_ways_many" "_law_ways_many" (defArgs s_law_ways_many) (defBody s_law_ways_many) (defScope s_law_ways_many) .none kV7 dc7 pm7 an7 cd7 ct7), sl7⟩) (c7 : PySem.W.codeIn K cd7 "_law_ways_many" = true) (k7 : PySem.W.keepIn K (.ref f7) = true)
    {od8 an8 : Option Addr} {sl8 : Array (Option Value)} {oc8 kV8 dc8 pm8 cd8 ct8 : Value} (a8 : PySem.W.nsIn K mainGlobals "_law_worths" = some (some (.ref f8))) (l8 : K.lookup f8 = some ⟨oc8, od8, .func (PySem.W.fnOf "_law_worths" "_law_worths" (defArgs s_law_worths) (defBody s_law_worths) (defScope s_law_worths) .none kV8 dc8 pm8 an8 cd8 ct8), sl8⟩) (c8 : PySem.W.codeIn K cd8 "_law_worths" = true) (k8 : PySem.W.keepIn K (.ref f8) = true)
    {od9 an9 : Option Addr} {sl9 : Array (Option Value)} {oc9 kV9 dc9 pm9 cd9 ct9 : Value} (a9 : PySem.W.nsIn K mainGlobals "_law_shuffled" = some (some (.ref f9))) (l9 : K.lookup f9 = some ⟨oc9, od9, .func (PySem.W.fnOf "_law_shuffled" "_law_shuffled" (defArgs s_law_shuffled) (defBody s_law_shuffled) (defScope s_law_shuffled) .none kV9 dc9 pm9 an9 cd9 ct9), sl9⟩) (c9 : PySem.W.codeIn K cd9 "_law_shuffled" = true) (k9 : PySem.W.keepIn K (.ref f9) = true)
    {od10 an10 : Option Addr} {sl10 : Array (Option Value)} {oc10 kV10 dc10 pm10 cd10 ct10 : Value} (a10 : PySem.W.nsIn K mainGlobals "_law_order" = some (some (.ref f10))) (l10 : K.lookup f10 = some ⟨oc10, od10, .func (PySem.W.fnOf "_law_order" "_law_order" (defArgs s_law_order) (defBody s_law_order) (defScope s_law_order) .none kV10 dc10 pm10 an10 cd10 ct10), sl10⟩) (c10 : PySem.W.codeIn K cd10 "_law_order" = true) (k10 : PySem.W.keepIn K (.ref f10) = true)
    {od11 an11 : Option Addr} {sl11 : Array (Option Value)} {oc11 kV11 dc11 pm11 cd11 ct11 : Value} (a11 : PySem.W.nsIn K mainGlobals "is_whole" = some (some (.ref f11))) (l11 : K.lookup f11 = some ⟨oc11, od11, .func (PySem.W.fnOf "is_whole" "is_whole" (defArgs s_is_whole) (defBody s_is_whole) (defScope s_is_whole) .none kV11 dc11 pm11 an11 cd11 ct11), sl11⟩) (c11 : PySem.W.codeIn K cd11 "is_whole" = true) (k11 : PySem.W.keepIn K (.ref f11) = true)
    {od12 an12 : Option Addr} {sl12 : Array (Option Value)} {oc12 kV12 dc12 pm12 cd12 ct12 : Value} (a12 : PySem.W.nsIn K mainGlobals "are_places" = some (some (.ref f12))) (l12 : K.lookup f12 = some ⟨oc12, od12, .func (PySem.W.fnOf "are_places" "are_places" (defArgs s_are_places) (defBody s_are_places) (defScope s_are_places) .none kV12 dc12 pm12 an12 cd12 ct12), sl12⟩) (c12 : PySem.W.codeIn K cd12 "are_places" = true) (k12 : PySem.W.keepIn K (.ref f12) = true)
    {od13 an13 : Option Addr} {sl13 : Array (Option Value)} {oc13 kV13 dc13 pm13 cd13 ct13 : Value} (a13 : PySem.W.nsIn K mainGlobals "steps_of" = some (some (.ref f13))) (l13 : K.lookup f13 = some ⟨oc13, od13, .func (PySem.W.fnOf "steps_of" "steps_of" (defArgs s_steps_of) (defBody s_steps_of) (defScope s_steps_of) .none kV13 dc13 pm13 an13 cd13 ct13), sl13⟩) (c13 : PySem.W.codeIn K cd13 "steps_of" = true) (k13 : PySem.W.keepIn K (.ref f13) = true)
    {od14 an14 : Option Addr} {sl14 : Array (Option Value)} {oc14 kV14 dc14 pm14 cd14 ct14 : Value} (a14 : PySem.W.nsIn K mainGlobals "is_order" = some (some (.ref f14))) (l14 : K.lookup f14 = some ⟨oc14, od14, .func (PySem.W.fnOf "is_order" "is_order" (defArgs s_is_order) (defBody s_is_order) (defScope s_is_order) .none kV14 dc14 pm14 an14 cd14 ct14), sl14⟩) (c14 : PySem.W.codeIn K cd14 "is_order" = true) (k14 : PySem.W.keepIn K (.ref f14) = true)
    {od15 an15 : Option Addr} {sl15 : Array (Option Value)} {oc15 kV15 dc15 pm15 cd15 ct15 : Value} (a15 : PySem.W.nsIn K mainGlobals "look_at_order" = some (some (.ref f15))) (l15 : K.lookup f15 = some ⟨oc15, od15, .func (PySem.W.fnOf "look_at_order" "look_at_order" (defArgs s_look_at_order) (defBody s_look_at_order) (defScope s_look_at_order) .none kV15 dc15 pm15 an15 cd15 ct15), sl15⟩) (c15 : PySem.W.codeIn K cd15 "look_at_order" = true) (k15 : PySem.W.keepIn K (.ref f15) = true)
    {od16 an16 : Option Addr} {sl16 : Array (Option Value)} {oc16 kV16 dc16 pm16 cd16 ct16 : Value} (a16 : PySem.W.nsIn K mainGlobals "is_window" = some (some (.ref f16))) (l16 : K.lookup f16 = some ⟨oc16, od16, .func (PySem.W.fnOf "is_window" "is_window" (defArgs s_is_window) (defBody s_is_window) (defScope s_is_window) .none kV16 dc16 pm16 an16 cd16 ct16), sl16⟩) (c16 : PySem.W.codeIn K cd16 "is_window" = true) (k16 : PySem.W.keepIn K (.ref f16) = true)
    {od17 an17 : Option Addr} {sl17 : Array (Option Value)} {oc17 kV17 dc17 pm17 cd17 ct17 : Value} (a17 : PySem.W.nsIn K mainGlobals "ways_many" = some (some (.ref f17))) (l17 : K.lookup f17 = some ⟨oc17, od17, .func (PySem.W.fnOf "ways_many" "ways_many" (defArgs s_ways_many) (defBody s_ways_many) (defScope s_ways_many) .none kV17 dc17 pm17 an17 cd17 ct17), sl17⟩) (c17 : PySem.W.codeIn K cd17 "ways_many" = true) (k17 : PySem.W.keepIn K (.ref f17) = true)
    {od18 an18 : Option Addr} {sl18 : Array (Option Value)} {oc18 kV18 dc18 pm18 cd18 ct18 : Value} (a18 : PySem.W.nsIn K mainGlobals "look_at_ways" = some (some (.ref f18))) (l18 : K.lookup f18 = some ⟨oc18, od18, .func (PySem.W.fnOf "look_at_ways" "look_at_ways" (defArgs s_look_at_ways) (defBody s_look_at_ways) (defScope s_look_at_ways) .none kV18 dc18 pm18 an18 cd18 ct18), sl18⟩) (c18 : PySem.W.codeIn K cd18 "look_at_ways" = true) (k18 : PySem.W.keepIn K (.ref f18) = true)
    {od19 an19 : Option Addr} {sl19 : Array (Option Value)} {oc19 kV19 dc19 pm19 cd19 ct19 : Value} (a19 : PySem.W.findIn K (.ref CSearch) "__init__" = some (some (.ref f19))) (i19 : PySem.W.isFn K (.ref f19) = true) (l19 : K.lookup f19 = some ⟨oc19, od19, .func (PySem.W.fnOf "__init__" "Search.__init__" (defArgs s_Search___init__) (defBody s_Search___init__) (defScope s_Search___init__) .none kV19 dc19 pm19 an19 cd19 ct19), sl19⟩) (c19 : PySem.W.codeIn K cd19 "Search.__init__" = true) (k19 : PySem.W.keepIn K (.ref f19) = true)
    {od20 an20 : Option Addr} {sl20 : Array (Option Value)} {oc20 kV20 dc20 pm20 cd20 ct20 : Value} (a20 : PySem.W.nsIn K mainGlobals "is_shut" = some (some (.ref f20))) (l20 : K.lookup f20 = some ⟨oc20, od20, .func (PySem.W.fnOf "is_shut" "is_shut" (defArgs s_is_shut) (defBody s_is_shut) (defScope s_is_shut) .none kV20 dc20 pm20 an20 cd20 ct20), sl20⟩) (c20 : PySem.W.codeIn K cd20 "is_shut" = true) (k20 : PySem.W.keepIn K (.ref f20) = true)
    {od21 an21 : Option Addr} {sl21 : Array (Option Value)} {oc21 kV21 dc21 pm21 cd21 ct21 : Value} (a21 : PySem.W.findIn K (.ref CSearch) "worth_from" = some (some (.ref f21))) (i21 : PySem.W.isFn K (.ref f21) = true) (l21 : K.lookup f21 = some ⟨oc21, od21, .func (PySem.W.fnOf "worth_from" "Search.worth_from" (defArgs s_Search_worth_from) (defBody s_Search_worth_from) (defScope s_Search_worth_from) .none kV21 dc21 pm21 an21 cd21 ct21), sl21⟩) (c21 : PySem.W.codeIn K cd21 "Search.worth_from" = true) (k21 : PySem.W.keepIn K (.ref f21) = true)
    {od22 an22 : Option Addr} {sl22 : Array (Option Value)} {oc22 kV22 dc22 pm22 cd22 ct22 : Value} (a22 : PySem.W.nsIn K mainGlobals "are_ends" = some (some (.ref f22))) (l22 : K.lookup f22 = some ⟨oc22, od22, .func (PySem.W.fnOf "are_ends" "are_ends" (defArgs s_are_ends) (defBody s_are_ends) (defScope s_are_ends) .none kV22 dc22 pm22 an22 cd22 ct22), sl22⟩) (c22 : PySem.W.codeIn K cd22 "are_ends" = true) (k22 : PySem.W.keepIn K (.ref f22) = true)
    {od23 an23 : Option Addr} {sl23 : Array (Option Value)} {oc23 kV23 dc23 pm23 cd23 ct23 : Value} (a23 : PySem.W.nsIn K mainGlobals "look_at_ends" = some (some (.ref f23))) (l23 : K.lookup f23 = some ⟨oc23, od23, .func (PySem.W.fnOf "look_at_ends" "look_at_ends" (defArgs s_look_at_ends) (defBody s_look_at_ends) (defScope s_look_at_ends) .none kV23 dc23 pm23 an23 cd23 ct23), sl23⟩) (c23 : PySem.W.codeIn K cd23 "look_at_ends" = true) (k23 : PySem.W.keepIn K (.ref f23) = true)
    {od24 an24 : Option Addr} {sl24 : Array (Option Value)} {oc24 kV24 dc24 pm24 cd24 ct24 : Value} (a24 : PySem.W.nsIn K mainGlobals "best_of" = some (some (.ref f24))) (l24 : K.lookup f24 = some ⟨oc24, od24, .func (PySem.W.fnOf "best_of" "best_of" (defArgs s_best_of) (defBody s_best_of) (defScope s_best_of) .none kV24 dc24 pm24 an24 cd24 ct24), sl24⟩) (c24 : PySem.W.codeIn K cd24 "best_of" = true) (k24 : PySem.W.keepIn K (.ref f24) = true)
    {od25 an25 : Option Addr} {sl25 : Array (Option Value)} {oc25 kV25 dc25 pm25 cd25 ct25 : Value} (a25 : PySem.W.nsIn K mainGlobals "sure_at" = some (some (.ref f25))) (l25 : K.lookup f25 = some ⟨oc25, od25, .func (PySem.W.fnOf "sure_at" "sure_at" (defArgs s_sure_at) (defBody s_sure_at) (defScope s_sure_at) .none kV25 dc25 pm25 an25 cd25 ct25), sl25⟩) (c25 : PySem.W.codeIn K cd25 "sure_at" = true) (k25 : PySem.W.keepIn K (.ref f25) = true)
    {od26 an26 : Option Addr} {sl26 : Array (Option Value)} {oc26 kV26 dc26 pm26 cd26 ct26 : Value} (a26 : PySem.W.nsIn K mainGlobals "sure_of" = some (some (.ref f26))) (l26 : K.lookup f26 = some ⟨oc26, od26, .func (PySem.W.fnOf "sure_of" "sure_of" (defArgs s_sure_of) (defBody s_sure_of) (defScope s_sure_of) .none kV26 dc26 pm26 an26 cd26 ct26), sl26⟩) (c26 : PySem.W.codeIn K cd26 "sure_of" = true) (k26 : PySem.W.keepIn K (.ref f26) = true)
    {od27 an27 : Option Addr} {sl27 : Array (Option Value)} {oc27 kV27 dc27 pm27 cd27 ct27 : Value} (a27 : PySem.W.nsIn K mainGlobals "shown_by" = some (some (.ref f27))) (l27 : K.lookup f27 = some ⟨oc27, od27, .func (PySem.W.fnOf "shown_by" "shown_by" (defArgs s_shown_by) (defBody s_shown_by) (defScope s_shown_by) .none kV27 dc27 pm27 an27 cd27 ct27), sl27⟩) (c27 : PySem.W.codeIn K cd27 "shown_by" = true) (k27 : PySem.W.keepIn K (.ref f27) = true)
    {od28 an28 : Option Addr} {sl28 : Array (Option Value)} {oc28 kV28 dc28 pm28 cd28 ct28 : Value} (a28 : PySem.W.nsIn K mainGlobals "unlike" = some (some (.ref f28))) (l28 : K.lookup f28 = some ⟨oc28, od28, .func (PySem.W.fnOf "unlike" "unlike" (defArgs s_unlike) (defBody s_unlike) (defScope s_unlike) .none kV28 dc28 pm28 an28 cd28 ct28), sl28⟩) (c28 : PySem.W.codeIn K cd28 "unlike" = true) (k28 : PySem.W.keepIn K (.ref f28) = true)
    {od29 an29 : Option Addr} {sl29 : Array (Option Value)} {oc29 kV29 dc29 pm29 cd29 ct29 : Value} (a29 : PySem.W.nsIn K mainGlobals "searched" = some (some (.ref f29))) (l29 : K.lookup f29 = some ⟨oc29, od29, .func (PySem.W.fnOf "searched" "searched" (defArgs s_searched) (defBody s_searched) (defScope s_searched) .none kV29 dc29 pm29 an29 cd29 ct29), sl29⟩) (c29 : PySem.W.codeIn K cd29 "searched" = true) (k29 : PySem.W.keepIn K (.ref f29) = true)
    {od30 an30 : Option Addr} {sl30 : Array (Option Value)} {oc30 kV30 dc30 pm30 cd30 ct30 : Value} (a30 : PySem.W.nsIn K mainGlobals "_law_side" = some (some (.ref f30))) (l30 : K.lookup f30 = some ⟨oc30, od30, .func (PySem.W.fnOf "_law_side" "_law_side" (defArgs s_law_side) (defBody s_law_side) (defScope s_law_side) .none kV30 dc30 pm30 an30 cd30 ct30), sl30⟩) (c30 : PySem.W.codeIn K cd30 "_law_side" = true) (k30 : PySem.W.keepIn K (.ref f30) = true)
    {od31 an31 : Option Addr} {sl31 : Array (Option Value)} {oc31 kV31 dc31 pm31 cd31 ct31 : Value} (a31 : PySem.W.nsIn K mainGlobals "_law_within" = some (some (.ref f31))) (l31 : K.lookup f31 = some ⟨oc31, od31, .func (PySem.W.fnOf "_law_within" "_law_within" (defArgs s_law_within) (defBody s_law_within) (defScope s_law_within) .none kV31 dc31 pm31 an31 cd31 ct31), sl31⟩) (c31 : PySem.W.codeIn K cd31 "_law_within" = true) (k31 : PySem.W.keepIn K (.ref f31) = true)
    {od32 an32 : Option Addr} {sl32 : Array (Option Value)} {oc32 kV32 dc32 pm32 cd32 ct32 : Value} (a32 : PySem.W.nsIn K mainGlobals "law" = some (some (.ref f32))) (l32 : K.lookup f32 = some ⟨oc32, od32, .func (PySem.W.fnOf "law" "law" (defArgs s_law) (defBody s_law) (defScope s_law) .none kV32 dc32 pm32 an32 cd32 ct32), sl32⟩) (c32 : PySem.W.codeIn K cd32 "law" = true) (k32 : PySem.W.keepIn K (.ref f32) = true)
    (z0 : PySem.W.nsIn K mainGlobals "len" = some none)
    (z1 : PySem.W.nsIn K mainGlobals "int" = some none)
    (z2 : PySem.W.nsIn K mainGlobals "range" = some none)
    (z3 : PySem.W.nsIn K mainGlobals "max" = some none)
    (z4 : PySem.W.nsIn K mainGlobals "min" = some none)
    (z5 : PySem.W.nsIn K mainGlobals "tuple" = some none)
    (z6 : PySem.W.nsIn K mainGlobals "sum" = some none)
    (z7 : PySem.W.nsIn K mainGlobals "list" = some none)
    (z8 : PySem.W.nsIn K mainGlobals "isinstance" = some none)
    (z9 : PySem.W.nsIn K mainGlobals "bool" = some none)
    (z10 : PySem.W.nsIn K mainGlobals "all" = some none)
    (z11 : PySem.W.nsIn K mainGlobals "sorted" = some none)
    (z12 : PySem.W.nsIn K mainGlobals "enumerate" = some none)
    (z13 : PySem.W.nsIn K mainGlobals "reversed" = some none)
    {t0 : Nat} (glo0 : PySem.W.nsIn K mainGlobals "MOST_WAYS" = some (some (.int 2000 t0))) :
    ∃ fd : FuncData, (∀ (s : Shared) (v : Value), BindsTo s fd ⟨[v], []⟩ [("_law_script", v)]) ∧ ∀ base : Heap, K.In base → base.Ns mainGlobals mg → FnG l.prog w K mg base CX0 44 fa fd ["_law_script"] (spV K [.bor] (FLaw 63)) := by
  have e := hfa.symm.trans (PySem.W.mg_of X G a32)
  cases e
  have F0 := fun_mk (st := s_law_pool) l0 c0 k0
  have b0 := F0.binds (ps := ["_law_script", "_law_k"]) fun _ _ _ _ _ _ us hl => match us, hl with | [_, _], _ => rfl
  have F1 := fun_mk (st := s_law_take) l1 c1 k1
  have b1 := F1.binds (ps := ["_law_pool_here", "_law_many"]) fun _ _ _ _ _ _ us hl => match us, hl with | [_, _], _ => rfl
  have F2 := fun_mk (st := s_law_kids) l2 c2 k2
  have b2 := F2.binds (ps := ["_law_script", "_law_head", "_law_most"]) fun _ _ _ _ _ _ us hl => match us, hl with | [_, _, _], _ => rfl
  have F3 := fun_mk (st := s_law_merged) l3 c3 k3
  have b3 := F3.binds (ps := ["_law_second", "_law_kids_here", "_law_far"]) fun _ _ _ _ _ _ us hl => match us, hl with | [_, _, _], _ => rfl
  have F4 := fun_mk (st := s_law_hand) l4 c4 k4
  have b4 := F4.binds (ps := ["_law_second", "_law_turns", "_law_far"]) fun _ _ _ _ _ _ us hl => match us, hl with | [_, _, _], _ => rfl
  have F5 := fun_mk (st := s_law_worth) l5 c5 k5
  have b5 := F5.binds (ps := ["_law_pool_here", "_law_style", "_law_k"]) fun _ _ _ _ _ _ us hl => match us, hl with | [_, _, _], _ => rfl
  have F6 := fun_mk (st := s_law_play) l6 c6 k6
  have b6 := F6.binds (ps := ["_law_script", "_law_most", "_law_merge"]) fun _ _ _ _ _ _ us hl => match us, hl with | [_, _, _], _ => rfl
  have F7 := fun_mk (st := s_law_ways_many) l7 c7 k7
  have b7 := F7.binds (ps := ["_law_play_here"]) fun _ _ _ _ _ _ us hl => match us, hl with | [_], _ => rfl
  have F8 := fun_mk (st := s_law_worths) l8 c8 k8
  have b8 := F8.binds (ps := ["_law_play_here"]) fun _ _ _ _ _ _ us hl => match us, hl with | [_], _ => rfl
  have F9 := fun_mk (st := s_law_shuffled) l9 c9 k9
  have b9 := F9.binds (ps := ["_law_pool_here", "_law_some"]) fun _ _ _ _ _ _ us hl => match us, hl with | [_, _], _ => rfl
  have F10 := fun_mk (st := s_law_order) l10 c10 k10
  have b10 := F10.binds (ps := ["_law_pool_here", "_law_play_here"]) fun _ _ _ _ _ _ us hl => match us, hl with | [_, _], _ => rfl
  have F11 := fun_mk (st := s_is_whole) l11 c11 k11
  have b11 := F11.binds (ps := ["thing"]) fun _ _ _ _ _ _ us hl => match us, hl with | [_], _ => rfl
  have F12 := fun_mk (st := s_are_places) l12 c12 k12
  have b12 := F12.binds (ps := ["thing", "many"]) fun _ _ _ _ _ _ us hl => match us, hl with | [_, _], _ => rfl
  have F13 := fun_mk (st := s_steps_of) l13 c13 k13
  have b13 := F13.binds (ps := ["play", "number"]) fun _ _ _ _ _ _ us hl => match us, hl with | [_, _], _ => rfl
  have F14 := fun_mk (st := s_is_order) l14 c14 k14
  have b14 := F14.binds (ps := ["play", "thing"]) fun _ _ _ _ _ _ us hl => match us, hl with | [_, _], _ => rfl
  have F15 := fun_mk (st := s_look_at_order) l15 c15 k15
  have b15 := F15.binds (ps := ["play", "thing"]) fun _ _ _ _ _ _ us hl => match us, hl with | [_, _], _ => rfl
  have F16 := fun_mk (st := s_is_window) l16 c16 k16
  have b16 := F16.binds (ps := ["thing"]) fun _ _ _ _ _ _ us hl => match us, hl with | [_], _ => rfl
  have F17 := fun_mk (st := s_ways_many) l17 c17 k17
  have b17 := F17.binds (ps := ["play"]) fun _ _ _ _ _ _ us hl => match us, hl with | [_], _ => rfl
  have F18 := fun_mk (st := s_look_at_ways) l18 c18 k18
  have b18 := F18.binds (ps := ["play"]) fun _ _ _ _ _ _ us hl => match us, hl with | [_], _ => rfl
  have F19 := fun_mk (st := s_Search___init__) l19 c19 k19
  have b19 := F19.binds (ps := ["self", "play", "order"]) fun _ _ _ _ _ _ us hl => match us, hl with | [_, _, _], _ => rfl
  have F20 := fun_mk (st := s_is_shut) l20 c20 k20
  have b20 := F20.binds (ps := ["low", "high"]) fun _ _ _ _ _ _ us hl => match us, hl with | [_, _], _ => rfl
  have F21 := fun_mk (st := s_Search_worth_from) l21 c21 k21
  have b21 := F21.binds (ps := ["self", "number", "low", "high"]) fun _ _ _ _ _ _ us hl => match us, hl with | [_, _, _, _], _ => rfl
  have F22 := fun_mk (st := s_are_ends) l22 c22 k22
  have b22 := F22.binds (ps := ["play", "thing"]) fun _ _ _ _ _ _ us hl => match us, hl with | [_, _], _ => rfl
  have F23 := fun_mk (st := s_look_at_ends) l23 c23 k23
  have b23 := F23.binds (ps := ["play", "thing"]) fun _ _ _ _ _ _ us hl => match us, hl with | [_, _], _ => rfl
  have F24 := fun_mk (st := s_best_of) l24 c24 k24
  have b24 := F24.binds (ps := ["hand", "some"]) fun _ _ _ _ _ _ us hl => match us, hl with | [_, _], _ => rfl
  have F25 := fun_mk (st := s_sure_at) l25 c25 k25
  have b25 := F25.binds (ps := ["hand", "owner", "some"]) fun _ _ _ _ _ _ us hl => match us, hl with | [_, _, _], _ => rfl
  have F26 := fun_mk (st := s_sure_of) l26 c26 k26
  have b26 := F26.binds (ps := ["play", "ends", "hand"]) fun _ _ _ _ _ _ us hl => match us, hl with | [_, _, _], _ => rfl
  have F27 := fun_mk (st := s_shown_by) l27 c27 k27
  have b27 := F27.binds (ps := ["play", "ends"]) fun _ _ _ _ _ _ us hl => match us, hl with | [_, _], _ => rfl
  have F28 := fun_mk (st := s_unlike) l28 c28 k28
  have b28 := F28.binds (ps := ["some"]) fun _ _ _ _ _ _ us hl => match us, hl with | [_], _ => rfl
  have F29 := fun_mk (st := s_searched) l29 c29 k29
  have b29 := F29.binds (ps := ["play", "order", "window"]) fun _ _ _ _ _ _ us hl => match us, hl with | [_, _, _], _ => rfl
  have F30 := fun_mk (st := s_law_side) l30 c30 k30
  have b30 := F30.binds (ps := ["_law_worth_here", "_law_window"]) fun _ _ _ _ _ _ us hl => match us, hl with | [_, _], _ => rfl
  have F31 := fun_mk (st := s_law_within) l31 c31 k31
  have b31 := F31.binds (ps := ["_law_few", "_law_many"]) fun _ _ _ _ _ _ us hl => match us, hl with | [_, _], _ => rfl
  have F32 := fun_mk (st := s_law) l32 c32 k32
  have b32 := F32.binds (ps := ["_law_script"]) fun _ _ _ _ _ _ us hl => match us, hl with | [_], _ => rfl
  refine ⟨PySem.W.fnOf "law" "law" (defArgs s_law) (defBody s_law) (defScope s_law) .none kV32 dc32 pm32 an32 cd32 ct32, fun s v => .of_eq rfl, fun base _ _ => ?_⟩
  have KCSearch : Cls K CSearch := ⟨pgCSearch, hdCSearch, poCSearch, saCSearch⟩
  have LCSearch : FldOk K CSearch ["stands", "places", "seen"] := (fld_cons nCSearch_stands (fld_cons nCSearch_places (fld_cons nCSearch_seen fld_nil)))
  have I0 : FnI l.prog w K mg base 1 "_law_pool" ⟨[.bor, .bor], F_pool⟩ := fn_in F0 (PySem.W.mg_of X G a0) b0 sc_law_pool rfl (show GOk l.prog w K mg base (Gm_pool) 0 from ⟨gl_nil, (bi_cons (PySem.W.mg_none_of X G z0) (bi_cons (PySem.W.mg_none_of X G z1) bi_nil)), fns_nil, cl_nil⟩) rfl ch_law_pool w_pool
  have I1 : FnI l.prog w K mg base 1 "_law_take" ⟨[.own, .bor], F_take⟩ := fn_in F1 (PySem.W.mg_of X G a1) b1 sc_law_take rfl (show GOk l.prog w K mg base (Gm_take) 0 from ⟨gl_nil, bi_nil, fns_nil, cl_nil⟩) rfl ch_law_take w_take
  have I2 : FnI l.prog w K mg base 2 "_law_kids" ⟨[.bor, .own, .bor], F_kids⟩ := fn_in F2 (PySem.W.mg_of X G a2) b2 sc_law_kids rfl (show GOk l.prog w K mg base (Gm_kids) 1 from ⟨gl_nil, (bi_cons (PySem.W.mg_none_of X G z2) (bi_cons (PySem.W.mg_none_of X G z3) (bi_cons (PySem.W.mg_none_of X G z4) (bi_cons (PySem.W.mg_none_of X G z0) bi_nil)))), (fns_cons (I1.mono (by decide)) (fns_cons (I0.mono (by decide)) fns_nil)), cl_nil⟩) rfl ch_law_kids w_kids
  have I3 : FnI l.prog w K mg base 2 "_law_merged" ⟨[.own, .own, .bor], F_merged⟩ := fn_in F3 (PySem.W.mg_of X G a3) b3 sc_law_merged rfl (show GOk l.prog w K mg base (Gm_merged) 1 from ⟨gl_nil, (bi_cons (PySem.W.mg_none_of X G z2) (bi_cons (PySem.W.mg_none_of X G z0) bi_nil)), (fns_cons (I1.mono (by decide)) fns_nil), cl_nil⟩) rfl ch_law_merged w_merged
  have I4 : FnI l.prog w K mg base 2 "_law_hand" ⟨[.own, .bor, .bor], F_hand⟩ := fn_in F4 (PySem.W.mg_of X G a4) b4 sc_law_hand rfl (show GOk l.prog w K mg base (Gm_hand) 1 from ⟨gl_nil, bi_nil, (fns_cons (I1.mono (by decide)) fns_nil), cl_nil⟩) rfl ch_law_hand w_hand
  have I5 : FnI l.prog w K mg base 2 "_law_worth" ⟨[.own, .bor, .bor], F_worth⟩ := fn_in F5 (PySem.W.mg_of X G a5) b5 sc_law_worth rfl (show GOk l.prog w K mg base (Gm_worth) 1 from ⟨gl_nil, bi_nil, (fns_cons (I1.mono (by decide)) fns_nil), cl_nil⟩) rfl ch_law_worth w_worth
  have I6 : FnI l.prog w K mg base 3 "_law_play" ⟨[.bor, .bor, .bor], F_play⟩ := fn_in F6 (PySem.W.mg_of X G a6) b6 sc_law_play rfl (show GOk l.prog w K mg base (Gm_play) 2 from ⟨gl_nil, (bi_cons (PySem.W.mg_none_of X G z2) (bi_cons (PySem.W.mg_none_of X G z0) (bi_cons (PySem.W.mg_none_of X G z5) (bi_cons (PySem.W.mg_none_of X G z1) bi_nil)))), (fns_cons (I0.mono (by decide)) (fns_cons (I2.mono (by decide)) (fns_cons (I1.mono (by decide)) (fns_cons (I3.mono (by decide)) (fns_cons (I4.mono (by decide)) (fns_cons (I5.mono (by decide)) fns_nil)))))), cl_nil⟩) rfl ch_law_play w_play
  have I7 : FnI l.prog w K mg base 1 "_law_ways_many" ⟨[.bor], F_law_ways_many⟩ := fn_in F7 (PySem.W.mg_of X G a7) b7 sc_law_ways_many rfl (show GOk l.prog w K mg base (Gm_law_ways_many) 0 from ⟨gl_nil, (bi_cons (PySem.W.mg_none_of X G z0) (bi_cons (PySem.W.mg_none_of X G z2) (bi_cons (PySem.W.mg_none_of X G z6) bi_nil))), fns_nil, cl_nil⟩) rfl ch_law_ways_many w_law_ways_many
  have I8 : FnI l.prog w K mg base 1 "_law_worths" ⟨[.bor], F_law_worths2⟩ := fn_in F8 (PySem.W.mg_of X G a8) b8 sc_law_worths rfl (show GOk l.prog w K mg base (Gm_law_worths2) 0 from ⟨gl_nil, (bi_cons (PySem.W.mg_none_of X G z0) (bi_cons (PySem.W.mg_none_of X G z2) (bi_cons (PySem.W.mg_none_of X G z4) (bi_cons (PySem.W.mg_none_of X G z3) (bi_cons (PySem.W.mg_none_of X G z1) bi_nil))))), fns_nil, cl_nil⟩) rfl ch_law_worths w_law_worths2
  have I9 : FnI l.prog w K mg base 2 "_law_shuffled" ⟨[.own, .bor], F_law_shuffled⟩ := fn_in F9 (PySem.W.mg_of X G a9) b9 sc_law_shuffled rfl (show GOk l.prog w K mg base (Gm_law_shuffled) 1 from ⟨gl_nil, (bi_cons (PySem.W.mg_none_of X G z0) bi_nil), (fns_cons (I1.mono (by decide)) fns_nil), cl_nil⟩) rfl ch_law_shuffled w_law_shuffled
  have I10 : FnI l.prog w K mg base 3 "_law_order" ⟨[.own, .bor], F_law_order⟩ := fn_in F10 (PySem.W.mg_of X G a10) b10 sc_law_order rfl (show GOk l.prog w K mg base (Gm_law_order) 2 from ⟨gl_nil, (bi_cons (PySem.W.mg_none_of X G z7) (bi_cons (PySem.W.mg_none_of X G z2) (bi_cons (PySem.W.mg_none_of X G z0) bi_nil))), (fns_cons (I1.mono (by decide)) (fns_cons (I9.mono (by decide)) fns_nil)), cl_nil⟩) rfl ch_law_order w_law_order
  have I11 : FnI l.prog w K mg base 1 "is_whole" ⟨[.bor], F_is_whole⟩ := fn_in F11 (PySem.W.mg_of X G a11) b11 sc_is_whole rfl (show GOk l.prog w K mg base (Gm_is_whole) 0 from ⟨gl_nil, (bi_cons (PySem.W.mg_none_of X G z8) (bi_cons (PySem.W.mg_none_of X G z9) (bi_cons (PySem.W.mg_none_of X G z1) bi_nil))), fns_nil, cl_nil⟩) rfl ch_is_whole w_is_whole
  have I12 : FnI l.prog w K mg base 2 "are_places" ⟨[.bor, .bor], F_are_places⟩ := fn_in F12 (PySem.W.mg_of X G a12) b12 sc_are_places rfl (show GOk l.prog w K mg base (Gm_are_places) 1 from ⟨gl_nil, (bi_cons (PySem.W.mg_none_of X G z10) (bi_cons (PySem.W.mg_none_of X G z8) (bi_cons (PySem.W.mg_none_of X G z7) (bi_cons (PySem.W.mg_none_of X G z11) (bi_cons (PySem.W.mg_none_of X G z2) bi_nil))))), (fns_cons (I11.mono (by decide)) fns_nil), cl_nil⟩) rfl ch_are_places w_are_places
  have I13 : FnI l.prog w K mg base 1 "steps_of" ⟨[.bor, .bor], F_steps_of⟩ := fn_in F13 (PySem.W.mg_of X G a13) b13 sc_steps_of rfl (show GOk l.prog w K mg base (Gm_steps_of) 0 from ⟨gl_nil, bi_nil, fns_nil, cl_nil⟩) rfl ch_steps_of w_steps_of
  have I14 : FnI l.prog w K mg base 3 "is_order" ⟨[.bor, .bor], F_is_order⟩ := fn_in F14 (PySem.W.mg_of X G a14) b14 sc_is_order rfl (show GOk l.prog w K mg base (Gm_is_order) 2 from ⟨gl_nil, (bi_cons (PySem.W.mg_none_of X G z0) (bi_cons (PySem.W.mg_none_of X G z8) (bi_cons (PySem.W.mg_none_of X G z7) (bi_cons (PySem.W.mg_none_of X G z10) (bi_cons (PySem.W.mg_none_of X G z12) bi_nil))))), (fns_cons (I12.mono (by decide)) (fns_cons (I13.mono (by decide)) fns_nil)), cl_nil⟩) rfl ch_is_order w_is_order
  have I15 : FnI l.prog w K mg base 4 "look_at_order" ⟨[.bor, .bor], F_look_at_order⟩ := fn_in F15 (PySem.W.mg_of X G a15) b15 sc_look_at_order rfl (show GOk l.prog w K mg base (Gm_look_at_order) 3 from ⟨gl_nil, bi_nil, (fns_cons (I14.mono (by decide)) fns_nil), cl_nil⟩) rfl ch_look_at_order w_look_at_order
  have I16 : FnI l.prog w K mg base 2 "is_window" ⟨[.bor], F_is_window⟩ := fn_in F16 (PySem.W.mg_of X G a16) b16 sc_is_window rfl (show GOk l.prog w K mg base (Gm_is_window) 1 from ⟨gl_nil, (bi_cons (PySem.W.mg_none_of X G z0) (bi_cons (PySem.W.mg_none_of X G z8) (bi_cons (PySem.W.mg_none_of X G z5) bi_nil))), (fns_cons (I11.mono (by decide)) fns_nil), cl_nil⟩) rfl ch_is_window w_is_window
  have I17 : FnI l.prog w K mg base 2 "ways_many" ⟨[.bor], F_ways_many⟩ := fn_in F17 (PySem.W.mg_of X G a17) b17 sc_ways_many rfl (show GOk l.prog w K mg base (Gm_ways_many) 1 from ⟨gl_nil, (bi_cons (PySem.W.mg_none_of X G z0) (bi_cons (PySem.W.mg_none_of X G z13) (bi_cons (PySem.W.mg_none_of X G z2) (bi_cons (PySem.W.mg_none_of X G z6) bi_nil)))), (fns_cons (I13.mono (by decide)) fns_nil), cl_nil⟩) rfl ch_ways_many w_ways_many
  have I18 : FnI l.prog w K mg base 3 "look_at_ways" ⟨[.bor], F_look_at_ways⟩ := fn_in F18 (PySem.W.mg_of X G a18) b18 sc_look_at_ways rfl (show GOk l.prog w K mg base (Gm_look_at_ways) 2 from ⟨(gl_int (PySem.W.mg_of X G glo0) gl_nil), bi_nil, (fns_cons (I17.mono (by decide)) fns_nil), cl_nil⟩) rfl ch_look_at_ways w_look_at_ways
  have I19 : MkI l.prog w K mg base 1 CSearch ⟨[.own, .bor, .bor], F_Search___init__ CSearch⟩ := mk_in F19 mkCSearch kcCSearch a19 i19 b19 sc_Search___init__ rfl (show GOk l.prog w K mg base (Gm_Search___init__ CSearch) 0 from ⟨gl_nil, bi_nil, fns_nil, (cl_cons (cls_of KCSearch LCSearch mts_nil (ini_not (by show List.contains ([] : List Str) (Str.ofString "__init__") = false; decide +kernel))) cl_nil)⟩) rfl ch_Search___init__ (w_Search___init__ CSearch)
  have I20 : FnI l.prog w K mg base 1 "is_shut" ⟨[.bor, .bor], F_is_shut⟩ := fn_in F20 (PySem.W.mg_of X G a20) b20 sc_is_shut rfl (show GOk l.prog w K mg base (Gm_is_shut) 0 from ⟨gl_nil, bi_nil, fns_nil, cl_nil⟩) rfl ch_is_shut w_is_shut
  have I21 : ∀ n, MthI l.prog w K mg base (1 + n) CSearch "worth_from" ⟨[.own, .bor, .bor, .bor], F_Search_worth_from CSearch n⟩ := by
    intro n
    induction n with
    | zero => exact mth_never F21 a21 i21 b21 rfl (fun _ _ z => F_Search_worth_from_zero z)
    | succ n ih => exact mth_in F21 a21 i21 b21 sc_Search_worth_from rfl (show GOk l.prog w K mg base (Gm_Search_worth_from CSearch n) (1 + n) from ⟨gl_nil, (bi_cons (PySem.W.mg_none_of X G z3) (bi_cons (PySem.W.mg_none_of X G z4) bi_nil)), (fns_cons (I20.mono (by omega)) fns_nil), (cl_cons (cls_of KCSearch LCSearch (mts_cons (MthI.mono ih (by omega)) mts_nil) (ini_not (by show List.contains (["worth_from"] : List Str) (Str.ofString "__init__") = false; decide +kernel))) cl_nil)⟩) rfl ch_Search_worth_from (w_Search_worth_from CSearch n)
  have I22 : FnI l.prog w K mg base 2 "are_ends" ⟨[.bor, .bor], F_are_ends⟩ := fn_in F22 (PySem.W.mg_of X G a22) b22 sc_are_ends rfl (show GOk l.prog w K mg base (Gm_are_ends) 1 from ⟨gl_nil, (bi_cons (PySem.W.mg_none_of X G z8) (bi_cons (PySem.W.mg_none_of X G z7) (bi_cons (PySem.W.mg_none_of X G z12) (bi_cons (PySem.W.mg_none_of X G z0) bi_nil)))), (fns_cons (I11.mono (by decide)) fns_nil), cl_nil⟩) rfl ch_are_ends w_are_ends
  have I23 : FnI l.prog w K mg base 3 "look_at_ends" ⟨[.bor, .bor], F_look_at_ends⟩ := fn_in F23 (PySem.W.mg_of X G a23) b23 sc_look_at_ends rfl (show GOk l.prog w K mg base (Gm_look_at_ends) 2 from ⟨gl_nil, bi_nil, (fns_cons (I22.mono (by decide)) fns_nil), cl_nil⟩) rfl ch_look_at_ends w_look_at_ends
  have I24 : FnI l.prog w K mg base 1 "best_of" ⟨[.bor, .bor], F_best_of⟩ := fn_in F24 (PySem.W.mg_of X G a24) b24 sc_best_of rfl (show GOk l.prog w K mg base (Gm_best_of) 0 from ⟨gl_nil, (bi_cons (PySem.W.mg_none_of X G z3) (bi_cons (PySem.W.mg_none_of X G z4) bi_nil)), fns_nil, cl_nil⟩) rfl ch_best_of w_best_of
  have I25 : FnI l.prog w K mg base 2 "sure_at" ⟨[.bor, .bor, .bor], F_sure_at⟩ := fn_in F25 (PySem.W.mg_of X G a25) b25 sc_sure_at rfl (show GOk l.prog w K mg base (Gm_sure_at) 1 from ⟨gl_nil, (bi_cons (PySem.W.mg_none_of X G z0) bi_nil), (fns_cons (I24.mono (by decide)) fns_nil), cl_nil⟩) rfl ch_sure_at w_sure_at
  have I26 : FnI l.prog w K mg base 3 "sure_of" ⟨[.bor, .bor, .bor], F_sure_of⟩ := fn_in F26 (PySem.W.mg_of X G a26) b26 sc_sure_of rfl (show GOk l.prog w K mg base (Gm_sure_of) 2 from ⟨gl_nil, (bi_cons (PySem.W.mg_none_of X G z0) (bi_cons (PySem.W.mg_none_of X G z13) (bi_cons (PySem.W.mg_none_of X G z2) bi_nil))), (fns_cons (I25.mono (by decide)) fns_nil), cl_nil⟩) rfl ch_sure_of w_sure_of
  have I27 : FnI l.prog w K mg base 4 "shown_by" ⟨[.bor, .bor], F_shown_by⟩ := fn_in F27 (PySem.W.mg_of X G a27) b27 sc_shown_by rfl (show GOk l.prog w K mg base (Gm_shown_by) 3 from ⟨gl_nil, bi_nil, (fns_cons (I23.mono (by decide)) (fns_cons (I26.mono (by decide)) fns_nil)), cl_nil⟩) rfl ch_shown_by w_shown_by
  have I28 : FnI l.prog w K mg base 1 "unlike" ⟨[.bor], F_unlike⟩ := fn_in F28 (PySem.W.mg_of X G a28) b28 sc_unlike rfl (show GOk l.prog w K mg base (Gm_unlike) 0 from ⟨gl_nil, (bi_cons (PySem.W.mg_none_of X G z7) bi_nil), fns_nil, cl_nil⟩) rfl ch_unlike w_unlike
  have I29 : FnI l.prog w K mg base 43 "searched" ⟨[.bor, .bor, .bor], F_searched⟩ := fn_in F29 (PySem.W.mg_of X G a29) b29 sc_searched rfl (show GOk l.prog w K mg base (Gm_searched CSearch) 42 from ⟨gl_nil, bi_nil, (fns_cons (I15.mono (by decide)) (fns_cons (I16.mono (by decide)) (fns_cons (I18.mono (by decide)) (fns_cons (I27.mono (by decide)) (fns_cons (I28.mono (by decide)) fns_nil))))), (cl_cons (cls_of KCSearch LCSearch (mts_init (mts_cons (MthI.mono (I21 41) (by decide)) mts_nil)) (ini_head (PySem.W.mg_of X G aCSearch) (by decide) I19)) cl_nil)⟩) rfl ch_searched (w_searched CSearch)
  have I30 : FnI l.prog w K mg base 1 "_law_side" ⟨[.bor, .bor], F_law_side⟩ := fn_in F30 (PySem.W.mg_of X G a30) b30 sc_law_side rfl (show GOk l.prog w K mg base (Gm_law_side) 0 from ⟨gl_nil, (bi_cons (PySem.W.mg_none_of X G z1) bi_nil), fns_nil, cl_nil⟩) rfl ch_law_side w_law_side
  have I31 : FnI l.prog w K mg base 1 "_law_within" ⟨[.bor, .bor], F_law_within⟩ := fn_in F31 (PySem.W.mg_of X G a31) b31 sc_law_within rfl (show GOk l.prog w K mg base (Gm_law_within) 0 from ⟨gl_nil, (bi_cons (PySem.W.mg_none_of X G z0) bi_nil), fns_nil, cl_nil⟩) rfl ch_law_within w_law_within
  exact fn_ok F32 sc_law rfl (show GOk l.prog w K mg base (Gm_law CSearch) 43 from ⟨gl_nil, (bi_cons (PySem.W.mg_none_of X G z0) (bi_cons (PySem.W.mg_none_of X G z2) bi_nil)), (fns_cons (I6.mono (by decide)) (fns_cons (I7.mono (by decide)) (fns_cons (I8.mono (by decide)) (fns_cons (I0.mono (by decide)) (fns_cons (I10.mono (by decide)) (fns_cons (I1.mono (by decide)) (fns_cons (I29.mono (by decide)) (fns_cons (I30.mono (by decide)) (fns_cons (I31.mono (by decide)) fns_nil))))))))), cl_nil⟩) rfl ch_law (w_law CSearch)
end VL
open PySem PySem.W PyProof.Rows
set_option maxHeartbeats 0 in
theorem PySem.Challenge.cw_cutboughs_k37_whole_windows_within_windo_holds : PySem.Challenge.rw_cutboughs_k37_whole_windows_within_windo.Holds := by
  w_on; o_law; k_head; (case hw => w_witness2)
  k_fill
  refine VL.walkG (l := PySem.Challenge.rw_cutboughs_k37_whole_windows_within_windo) (n := 63) (k := 44) (x := "_law_script") (CX := fun _ => L2.CX0) (sp := fun w => VL.spV _ [.bor] (VL.FLaw 63)) rfl (by decide) rfl ⟨rfl, by decide, by decide⟩ (fun w h Y => PySem.W.kIn_of Y) ?F (fun _ _ a ns hl _ _ hS => VL.law_sp hl hS) (fun _ _ _ _ _ h => h)
  case F =>
    intro w mg fa h KX G hmg
    refine' VL.all_mk KX G hmg ?aCSearch ?pgCSearch ?hdCSearch ?poCSearch ?saCSearch ?mkCSearch ?kcCSearch ?nCSearch_stands ?nCSearch_places ?nCSearch_seen ?a0 ?l0 ?c0 ?k0 ?a1 ?l1 ?c1 ?k1 ?a2 ?l2 ?c2 ?k2 ?a3 ?l3 ?c3 ?k3 ?a4 ?l4 ?c4 ?k4 ?a5 ?l5 ?c5 ?k5 ?a6 ?l6 ?c6 ?k6 ?a7 ?l7 ?c7 ?k7 ?a8 ?l8 ?c8 ?k8 ?a9 ?l9 ?c9 ?k9 ?a10 ?l10 ?c10 ?k10 ?a11 ?l11 ?c11 ?k11 ?a12 ?l12 ?c12 ?k12 ?a13 ?l13 ?c13 ?k13 ?a14 ?l14 ?c14 ?k14 ?a15 ?l15 ?c15 ?k15 ?a16 ?l16 ?c16 ?k16 ?a17 ?l17 ?c17 ?k17 ?a18 ?l18 ?c18 ?k18 ?a19 ?i19 ?l19 ?c19 ?k19 ?a20 ?l20 ?c20 ?k20 ?a21 ?i21 ?l21 ?c21 ?k21 ?a22 ?l22 ?c22 ?k22 ?a23 ?l23 ?c23 ?k23 ?a24 ?l24 ?c24 ?k24 ?a25 ?l25 ?c25 ?k25 ?a26 ?l26 ?c26 ?k26 ?a27 ?l27 ?c27 ?k27 ?a28 ?l28 ?c28 ?k28 ?a29 ?l29 ?c29 ?k29 ?a30 ?l30 ?c30 ?k30 ?a31 ?l31 ?c31 ?k31 ?a32 ?l32 ?c32 ?k32 ?z0 ?z1 ?z2 ?z3 ?z4 ?z5 ?z6 ?z7 ?z8 ?z9 ?z10 ?z11 ?z12 ?z13 ?glo0
    (case aCSearch => k_is); (case pgCSearch => k_is); (case hdCSearch => k_is); (case poCSearch => k_is); (case saCSearch => k_is); (case mkCSearch => k_is); (case kcCSearch => k_is); (case nCSearch_stands => k_is); (case nCSearch_places => k_is); (case nCSearch_seen => k_is); (case a0 => k_is); (case l0 => k_is); (case c0 => k_is); (case k0 => k_is); (case a1 => k_is); (case l1 => k_is); (case c1 => k_is); (case k1 => k_is); (case a2 => k_is); (case l2 => k_is); (case c2 => k_is); (case k2 => k_is); (case a3 => k_is); (case l3 => k_is); (case c3 => k_is); (case k3 => k_is); (case a4 => k_is); (case l4 => k_is); (case c4 => k_is); (case k4 => k_is); (case a5 => k_is); (case l5 => k_is); (case c5 => k_is); (case k5 => k_is); (case a6 => k_is); (case l6 => k_is); (case c6 => k_is); (case k6 => k_is); (case a7 => k_is); (case l7 => k_is); (case c7 => k_is); (case k7 => k_is); (case a8 => k_is); (case l8 => k_is); (case c8 => k_is); (case k8 => k_is); (case a9 => k_is); (case l9 => k_is); (case c9 => k_is); (case k9 => k_is); (case a10 => k_is); (case l10 => k_is); (case c10 => k_is); (case k10 => k_is); (case a11 => k_is); (case l11 => k_is); (case c11 => k_is); (case k11 => k_is); (case a12 => k_is); (case l12 => k_is); (case c12 => k_is); (case k12 => k_is); (case a13 => k_is); (case l13 => k_is); (case c13 => k_is); (case k13 => k_is); (case a14 => k_is); (case l14 => k_is); (case c14 => k_is); (case k14 => k_is); (case a15 => k_is); (case l15 => k_is); (case c15 => k_is); (case k15 => k_is); (case a16 => k_is); (case l16 => k_is); (case c16 => k_is); (case k16 => k_is); (case a17 => k_is); (case l17 => k_is); (case c17 => k_is); (case k17 => k_is); (case a18 => k_is); (case l18 => k_is); (case c18 => k_is); (case k18 => k_is); (case a19 => k_is); (case i19 => k_is); (case l19 => k_is); (case c19 => k_is); (case k19 => k_is); (case a20 => k_is); (case l20 => k_is); (case c20 => k_is); (case k20 => k_is); (case a21 => k_is); (case i21 => k_is); (case l21 => k_is); (case c21 => k_is); (case k21 => k_is); (case a22 => k_is); (case l22 => k_is); (case c22 => k_is); (case k22 => k_is); (case a23 => k_is); (case l23 => k_is); (case c23 => k_is); (case k23 => k_is); (case a24 => k_is); (case l24 => k_is); (case c24 => k_is); (case k24 => k_is); (case a25 => k_is); (case l25 => k_is); (case c25 => k_is); (case k25 => k_is); (case a26 => k_is); (case l26 => k_is); (case c26 => k_is); (case k26 => k_is); (case a27 => k_is); (case l27 => k_is); (case c27 => k_is); (case k27 => k_is); (case a28 => k_is); (case l28 => k_is); (case c28 => k_is); (case k28 => k_is); (case a29 => k_is); (case l29 => k_is); (case c29 => k_is); (case k29 => k_is); (case a30 => k_is); (case l30 => k_is); (case c30 => k_is); (case k30 => k_is); (case a31 => k_is); (case l31 => k_is); (case c31 => k_is); (case k31 => k_is); (case a32 => k_is); (case l32 => k_is); (case c32 => k_is); (case k32 => k_is); (case z0 => k_is); (case z1 => k_is); (case z2 => k_is); (case z3 => k_is); (case z4 => k_is); (case z5 => k_is); (case z6 => k_is); (case z7 => k_is); (case z8 => k_is); (case z9 => k_is); (case z10 => k_is); (case z11 => k_is); (case z12 => k_is); (case z13 => k_is); (case glo0 => k_is)
