import PyProof.Rows.All
import Wide.All
import OpenK.AllK
import Wide.FinOn
import HandS.ForMost
import HandS.Star
import HandS.Zip
import HandS.TupAny
import HandS.IsInst
import HandS.Style
import HandS.WordsExc
import HandS.TryMany
import HandS.Lambda
import HandS.Dict
import HandS.ExcInit
import HandS.ExcValue
import HandS.EndBits
import KE.SortKeyHeap
import KE.DataCmp
import HandS.Keys
import HandS.SortKw
import HandS.EndTab
import HandS.Deep
import HandS.Iter
import HandS.TupMul
import KE.GoesEnum
import KE.GoesMore
import HandS.Strs
import HandS.SetFor
import HandS.ExcSuper
import HandS.Nested
import KE.KExcSuper
import HandS.ExcField
import KE.KRevSl
import HandS.ExcIs
import KE.KExcIs
import HandS.MakeKwOnly
import PyProof.RowDictHeap
import HandS.HeadHook1
import HandS.Head0
import HandS.Head1
import HandS.Head2
import HandS.HeadHook2
import PySem.Challenge.RW_plantdue_k01_errors_each_of_its_own
set_option Elab.async false
set_option linter.all false
set_option maxRecDepth 100000
set_option maxHeartbeats 4000000
set_option autoImplicit false
namespace PL
open PySem PySem.Spec L2

/-! # The pure layer: data without a heap -/
/-- other things: a dict of such keys; an error of the class c that keeps such fields; one that keeps nothing; what c stands for in the written part (a class, a def) -/
inductive Kd where
  | dct (ks : List Key)
  | err (c : Str) (fs : List Str)
  | err0 (c : Str)
  | sta (c : Str)
/-- the name c of the written part: what it stands for -/
def clsAt (K : PySem.W.Frag) (c : Str) : Addr := match PySem.W.nsIn K mainGlobals c with
  | some (some (.ref C)) => C
  | _ => 0
/-- where it stands: one of the written part stands there -/
def Kd.ok (K : PySem.W.Frag) : Kd → Addr → Prop
  | .sta c, a => a = clsAt K c
  | _, _ => True
/-- the objects of such a thing at a (b: where its fields lie) -/
def Kd.objs (K : PySem.W.Frag) : Kd → Addr → Addr → List V → List (Addr × HO)
  | .dct ks, a, _, vs => [(a, .dK (ks.zip vs))]
  | .err c fs, a, b, vs => [(a, exo a (clsAt K c) (some b)), (b, exd b (fs.zip vs))]
  | .err0 c, a, _, _ => [(a, ExO (.ref (clsAt K c)) a)]
  | .sta _, _, _, _ => []
/-- a datum; `well`: the one list of three numbers that draws come from; `ty`: a built-in class; `scr`: the law's script -/
inductive D where
  | oth (k : Kd) (ds : List D)
  | non
  | bl (b : Bool)
  | int (i : Int)
  | str (x : Str)
  | tup (xs : List D)
  | lst (xs : List D)
  | well
  | ty (n : String)
  | scr (ns : List Int)

def LIM : Nat := 1000000
theorem lim_line {n : Nat} (h : n ≤ LIM) : n ≤ sizeLine := Nat.le_trans h (by decide)
theorem lim_lt {n : Nat} (h : n ≤ LIM) : n < sizeLine := Nat.lt_of_le_of_lt h (by decide)

/-! ### the well, growing heaps -/
def WellAt (H : Hp) (p : Addr) : Prop := ∃ i j k : Int, H p = some (.lst [.int i, .int j, .int k]) ∧ 0 ≤ i ∧ 0 ≤ j ∧ j < 2147483648
/-- what stands apart: the well (it may change), lists that are being made (kept, but nothing points to them) -/
structure Wd where
  wl : Option Addr
  hid : Addr → Prop
  /-- the def's own lists, that it changes -/
  ow : Addr → Prop
  /-- the tables of code objects -/
  tabs : List (Addr × Str)
/-- a is none of those that stand apart -/
def Wd.fr (w : Wd) (a : Addr) : Prop := w.wl ≠ some a ∧ ¬ w.hid a ∧ ¬ w.ow a
def Wd.hide (w : Wd) (ex : List Addr) : Wd := ⟨w.wl, fun a => a ∈ ex ∨ w.hid a, w.ow, w.tabs⟩
/-- a thing that a def may change -/
def Mut : HO → Prop
  | .lst _ => True
  | .dK _ => True
  | .dT _ => True
  | .set _ _ => True
  | .ins _ _ _ => True
  | .own _ => True
  | .xd _ => True
  | _ => False
def NT (o : HO) : Prop := ∀ ps, o ≠ .tbl ps
theorem Mut.nt {o : HO} (h : Mut o) : NT o := fun ps e => by subst e; exact h
structure Wk (w : Wd) (H : Hp) : Prop where
  well : ∀ p, w.wl = some p → WellAt H p
  hid : ∀ a, w.hid a → ∃ o, H a = some o ∧ Mut o
  ow : ∀ a, w.ow a → ∃ o, H a = some o ∧ Mut o
  tabs : LamX.Tabs w.tabs H
theorem Wk.new {w : Wd} {H : Hp} {a : Addr} (h : Wk w H) (n : H a = none) : w.fr a := by
  refine ⟨fun z => ?_, fun z => ?_, fun z => ?_⟩
  · obtain ⟨i, j, k, e, _⟩ := h.well a z
    rw [n] at e; cases e
  · obtain ⟨vs, e, _⟩ := h.hid a z
    rw [n] at e; cases e
  · obtain ⟨vs, e, _⟩ := h.ow a z
    rw [n] at e; cases e
/-- what an expression may do to the heap -/
structure Ext (w : Wd) (H H' : Hp) : Prop where
  keep : ∀ a o, w.wl ≠ some a → H a = some o → NT o → H' a = some o
  wk : Wk w H'
theorem Ext.refl {w : Wd} {H : Hp} (h : Wk w H) : Ext w H H := ⟨fun _ _ _ e _ => e, h⟩
theorem Ext.trans {w : Wd} {H H1 H2 : Hp} (x : Ext w H H1) (y : Ext w H1 H2) : Ext w H H2 := ⟨fun a o n e t => y.keep a o n (x.keep a o n e t) t, y.wk⟩
theorem tabs_upd {T : List (Addr × Str)} {H : Hp} {p : Addr} {o : HO} (h : LamX.Tabs T H) (n : H p = none) : LamX.Tabs T (upd H p o) := h.ext fun b u e => by rw [upd_ne (ne_of_none e n)]; exact e
theorem Wk.newAt {w : Wd} {H : Hp} {p : Addr} {o : HO} (h : Wk w H) (n : H p = none) : Wk w (upd H p o) := by
  refine ⟨fun q hq => ?_, fun q hq => ?_, fun q hq => ?_, tabs_upd h.tabs n⟩
  · obtain ⟨i, j, k, e, r⟩ := h.well q hq
    exact ⟨i, j, k, by rw [upd_ne (ne_of_none e n)]; exact e, r⟩
  · obtain ⟨u, e, m⟩ := h.hid q hq
    exact ⟨u, by rw [upd_ne (ne_of_none e n)]; exact e, m⟩
  · obtain ⟨u, e, m⟩ := h.ow q hq
    exact ⟨u, by rw [upd_ne (ne_of_none e n)]; exact e, m⟩
theorem Ext.new {w : Wd} {H : Hp} {p : Addr} {o : HO} (h : Wk w H) (n : H p = none) : Ext w H (upd H p o) :=
  ⟨fun a u _ e _ => by rw [upd_ne (ne_of_none e n)]; exact e, h.newAt n⟩
theorem tabs_write {T : List (Addr × Str)} {H : Hp} {p : Addr} {u o : HO} (h : LamX.Tabs T H) (n : H p = some u) (m : Mut u) : LamX.Tabs T (upd H p o) := fun q hq => by
  obtain ⟨ps, e1, e2, e3⟩ := h q hq
  refine ⟨ps, by rw [upd_ne (ne_of e1 n (by intro z; subst z; exact m))]; exact e1, e2, fun pos cv hc => ?_⟩
  obtain ⟨c, e4, e5⟩ := e3 pos cv hc
  exact ⟨c, e4, by rw [upd_ne (ne_of e5 n (by intro z; subst z; exact m))]; exact e5⟩
/-- a thing that may change is written: it stays one -/
theorem Wk.write {w : Wd} {H : Hp} {p : Addr} {u o : HO} (h : Wk w H) (n : H p = some u) (m : Mut u) (m' : Mut o) (hw : w.wl = some p → ∃ i j k : Int, o = .lst [.int i, .int j, .int k] ∧ 0 ≤ i ∧ 0 ≤ j ∧ j < 2147483648) : Wk w (upd H p o) := by
  refine ⟨fun q hq => ?_, fun q hq => ?_, fun q hq => ?_, tabs_write h.tabs n m⟩
  · by_cases z : q = p
    · subst z
      obtain ⟨i, j, k, e, r⟩ := hw hq
      subst e
      exact ⟨i, j, k, upd_same, r⟩
    · obtain ⟨i, j, k, e, r⟩ := h.well q hq
      exact ⟨i, j, k, by rw [upd_ne z]; exact e, r⟩
  · by_cases z : q = p
    · exact ⟨o, by rw [z]; exact upd_same, m'⟩
    · obtain ⟨v, e, r⟩ := h.hid q hq
      exact ⟨v, by rw [upd_ne z]; exact e, r⟩
  · by_cases z : q = p
    · exact ⟨o, by rw [z]; exact upd_same, m'⟩
    · obtain ⟨v, e, r⟩ := h.ow q hq
      exact ⟨v, by rw [upd_ne z]; exact e, r⟩
theorem Wk.notTup {w : Wd} {H : Hp} {a : Addr} {xs : List V} (h : Wk w H) (r : Rd H a (.tup xs)) : w.wl ≠ some a := fun e => by
  obtain ⟨i, j, k, q, _⟩ := h.well a e
  rcases r with r | ⟨o, r⟩
  · rw [q] at r; cases r
  · rw [q] at r; cases r
theorem sqT_ext {K : PySem.W.Frag} {w : Wd} {H H' : Hp} {a : Addr} {xs : List V} (s : SqT K H a xs) (h : Wk w H) (x : Ext w H H') : SqT K H' a xs := by
  rcases s with s | s
  · have n := h.notTup s
    rcases s with s | ⟨o, s⟩
    · exact .inl (.inl (x.keep _ _ n s (fun _ z => nomatch z)))
    · exact .inl (.inr ⟨o, x.keep _ _ n s (fun _ z => nomatch z)⟩)
  · exact .inr s

/-- the script: known to the object, or one of the module's -/
def ScrAt (K : PySem.W.Frag) (H : Hp) (a : Addr) (ns : List Int) : Prop := (∃ o, H a = some (.frz o (.lst (ns.map V.int)))) ∨
  ∃ (o : Obj) (its : Array Value) (n : Nat), K.lookup a = some o ∧ o.cls = .type "list" ∧ o.dict = none ∧ o.data = .seq its n ∧ its.size ≤ sizeLine ∧ Vals (ns.map V.int) its.toList
theorem ScrAt.sq {K : PySem.W.Frag} {H : Hp} {a : Addr} {ns : List Int} (s : ScrAt K H a ns) : SqL K H a (ns.map V.int) := by
  rcases s with ⟨o, s⟩ | s
  · exact .inl (.inr ⟨o, s⟩)
  · exact .inr s
theorem ScrAt.ext {K : PySem.W.Frag} {w : Wd} {H H' : Hp} {a : Addr} {ns : List Int} (s : ScrAt K H a ns) (h : Wk w H) (x : Ext w H H') : ScrAt K H' a ns := by
  rcases s with ⟨o, s⟩ | s
  · refine .inl ⟨o, x.keep _ _ (fun z => ?_) s (fun _ z => nomatch z)⟩
    obtain ⟨i, j, k, e, _⟩ := h.well a z
    rw [s] at e; cases e
  · exact .inr s
theorem ScrAt.upd_ne {K : PySem.W.Frag} {H : Hp} {a p : Addr} {ns : List Int} {o : HO} (s : ScrAt K H a ns) (n : ∀ u, H a = some (.frz u (.lst (ns.map V.int))) → a ≠ p) : ScrAt K (upd H p o) a ns := by
  rcases s with ⟨u, s⟩ | s
  · exact .inl ⟨u, by rw [L2.upd_ne (n u s)]; exact s⟩
  · exact .inr s

/-! ### a value stands for a datum -/
theorem Kd.nt {K : PySem.W.Frag} {k : Kd} {a b : Addr} {vs : List V} {p : Addr × HO} (h : p ∈ k.objs K a b vs) : NT p.2 := by
  intro ps e
  cases k with
  | dct ks =>
    obtain rfl := List.mem_singleton.mp h
    cases e
  | err C fs =>
    simp only [Kd.objs, List.mem_cons, List.not_mem_nil, or_false] at h
    rcases h with rfl | rfl <;> cases e
  | err0 C =>
    obtain rfl := List.mem_singleton.mp h
    cases e
  | sta C => cases h
mutual
def Rp (K : PySem.W.Frag) (wl : Wd) (H : Hp) : D → V → Prop
  | .non, v => v = .non
  | .bl b, v => v = .bl b
  | .int i, v => v = .int i
  | .str x, v => v = .str x
  | .tup ds, v => ∃ a vs, v = .ref a ∧ SqT K H a vs ∧ RpL K wl H ds vs
  | .lst ds, v => ∃ a vs, v = .ref a ∧ wl.fr a ∧ H a = some (.lst vs) ∧ RpL K wl H ds vs
  | .well, v => ∃ a, wl.wl = some a ∧ v = .ref a
  | .ty n, v => v = .ty n
  | .scr ns, v => ∃ a, v = .ref a ∧ ScrAt K H a ns
  | .oth k ds, v => ∃ a b vs, v = .ref a ∧ (k.ok K a ∧ ∀ p ∈ k.objs K a b vs, wl.fr p.1 ∧ H p.1 = some p.2) ∧ RpL K wl H ds vs
def RpL (K : PySem.W.Frag) (wl : Wd) (H : Hp) : List D → List V → Prop
  | [], vs => vs = []
  | d :: ds, vs => ∃ v r, vs = v :: r ∧ Rp K wl H d v ∧ RpL K wl H ds r
end
section
variable {K : PySem.W.Frag} {wl : Wd} {H H' : Hp}
mutual
theorem Rp.ext (h : Wk wl H) (x : Ext wl H H') : ∀ (d : D) (v : V), Rp K wl H d v → Rp K wl H' d v
  | .non, _, r => r
  | .bl _, _, r => r
  | .int _, _, r => r
  | .str _, _, r => r
  | .tup ds, _, ⟨a, vs, e, s, q⟩ => ⟨a, vs, e, sqT_ext s h x, RpL.ext h x ds vs q⟩
  | .lst ds, _, ⟨a, vs, e, n, s, q⟩ => ⟨a, vs, e, n, x.keep _ _ n.1 s (fun _ z => nomatch z), RpL.ext h x ds vs q⟩
  | .well, _, r => r
  | .ty _, _, r => r
  | .scr ns, _, ⟨a, e, s⟩ => ⟨a, e, s.ext h x⟩
  | .oth k ds, _, ⟨a, b, vs, e, ⟨so, s⟩, q⟩ => ⟨a, b, vs, e, ⟨so, fun p hp => ⟨(s p hp).1, x.keep _ _ (s p hp).1.1 (s p hp).2 (Kd.nt hp)⟩⟩, RpL.ext h x ds vs q⟩
theorem RpL.ext (h : Wk wl H) (x : Ext wl H H') : ∀ (ds : List D) (vs : List V), RpL K wl H ds vs → RpL K wl H' ds vs
  | [], _, r => r
  | d :: ds, _, ⟨v, r, e, p, q⟩ => ⟨v, r, e, Rp.ext h x d v p, RpL.ext h x ds r q⟩
end
theorem RpL.length : ∀ {ds : List D} {vs : List V}, RpL K wl H ds vs → vs.length = ds.length
  | [], _, r => by cases r; rfl
  | d :: ds, _, ⟨v, r, e, p, q⟩ => by subst e; rw [List.length_cons, List.length_cons, RpL.length q]
theorem RpL.get : ∀ {ds : List D} {vs : List V} {i : Nat} {d : D}, RpL K wl H ds vs → ds[i]? = some d → ∃ v, vs[i]? = some v ∧ Rp K wl H d v
  | [], _, i, d, _, e => by simp at e
  | d :: ds, _, 0, d', ⟨v, r, e, p, q⟩, h => by
    subst e
    obtain rfl : d = d' := by simpa using h
    exact ⟨v, rfl, p⟩
  | d :: ds, _, i + 1, d', ⟨v, r, e, p, q⟩, h => by
    subst e
    obtain ⟨u, h1, h2⟩ := RpL.get (i := i) (d := d') q (by simpa using h)
    exact ⟨u, by simpa using h1, h2⟩
theorem RpL.getV : ∀ {ds : List D} {vs : List V} {i : Nat} {v : V}, RpL K wl H ds vs → vs[i]? = some v → ∃ d, ds[i]? = some d ∧ Rp K wl H d v
  | [], _, i, v, r, e => by cases r; simp at e
  | d :: ds, _, 0, v', ⟨v, r, e, p, q⟩, h => by
    subst e
    obtain rfl : v = v' := by simpa using h
    exact ⟨d, rfl, p⟩
  | d :: ds, _, i + 1, v', ⟨v, r, e, p, q⟩, h => by
    subst e
    obtain ⟨u, h1, h2⟩ := RpL.getV (i := i) (v := v') q (by simpa using h)
    exact ⟨u, by simpa using h1, h2⟩
theorem RpL.append : ∀ {ds es : List D} {vs us : List V}, RpL K wl H ds vs → RpL K wl H es us → RpL K wl H (ds ++ es) (vs ++ us)
  | [], _, _, _, r, s => by cases r; exact s
  | d :: ds, _, _, _, ⟨v, r, e, p, q⟩, s => by subst e; exact ⟨v, _, rfl, p, RpL.append q s⟩
theorem RpL.drop : ∀ {ds : List D} {vs : List V} (n : Nat), RpL K wl H ds vs → RpL K wl H (ds.drop n) (vs.drop n)
  | _, _, 0, r => by simpa using r
  | [], _, n + 1, r => by cases r; rfl
  | d :: ds, _, n + 1, ⟨v, r, e, p, q⟩ => by subst e; simpa using RpL.drop n q
theorem RpL.take : ∀ {ds : List D} {vs : List V} (n : Nat), RpL K wl H ds vs → RpL K wl H (ds.take n) (vs.take n)
  | _, _, 0, r => by simp; rfl
  | [], _, n + 1, r => by cases r; rfl
  | d :: ds, _, n + 1, ⟨v, r, e, p, q⟩ => by subst e; simpa using ⟨v, _, rfl, p, RpL.take n q⟩
mutual
/-- as more is hidden that was not there -/
theorem Rp.into {ex : List Addr} (h : Wk wl H) (n : ∀ a, a ∈ ex → H a = none) (x : Ext wl H H') : ∀ (d : D) (v : V), Rp K wl H d v → Rp K (wl.hide ex) H' d v
  | .non, _, r => r
  | .bl _, _, r => r
  | .int _, _, r => r
  | .str _, _, r => r
  | .tup ds, _, ⟨a, vs, e, s, q⟩ => ⟨a, vs, e, sqT_ext s h x, RpL.into h n x ds vs q⟩
  | .lst ds, _, ⟨a, vs, e, f, s, q⟩ => ⟨a, vs, e, ⟨f.1, fun z => by
      rcases z with z | z
      · rw [n a z] at s; cases s
      · exact f.2.1 z, f.2.2⟩, x.keep _ _ f.1 s (fun _ z => nomatch z), RpL.into h n x ds vs q⟩
  | .well, _, r => r
  | .ty _, _, r => r
  | .scr ns, _, ⟨a, e, s⟩ => ⟨a, e, s.ext h x⟩
  | .oth k ds, _, ⟨a, b, vs, e, ⟨so, s⟩, q⟩ => ⟨a, b, vs, e, ⟨so, fun p hp => ⟨⟨(s p hp).1.1, fun z => by
      rcases z with z | z
      · have := (s p hp).2
        rw [n _ z] at this; cases this
      · exact (s p hp).1.2.1 z, (s p hp).1.2.2⟩, x.keep _ _ (s p hp).1.1 (s p hp).2 (Kd.nt hp)⟩⟩, RpL.into h n x ds vs q⟩
theorem RpL.into {ex : List Addr} (h : Wk wl H) (n : ∀ a, a ∈ ex → H a = none) (x : Ext wl H H') : ∀ (ds : List D) (vs : List V), RpL K wl H ds vs → RpL K (wl.hide ex) H' ds vs
  | [], _, r => r
  | d :: ds, _, ⟨v, r, e, p, q⟩ => ⟨v, r, e, Rp.into h n x d v p, RpL.into h n x ds r q⟩
end
mutual
theorem Rp.out {ex : List Addr} : ∀ (d : D) (v : V), Rp K (wl.hide ex) H d v → Rp K wl H d v
  | .non, _, r => r
  | .bl _, _, r => r
  | .int _, _, r => r
  | .str _, _, r => r
  | .tup ds, _, ⟨a, vs, e, s, q⟩ => ⟨a, vs, e, s, RpL.out ds vs q⟩
  | .lst ds, _, ⟨a, vs, e, f, s, q⟩ => ⟨a, vs, e, ⟨f.1, fun z => f.2.1 (.inr z), f.2.2⟩, s, RpL.out ds vs q⟩
  | .well, _, r => r
  | .ty _, _, r => r
  | .scr _, _, r => r
  | .oth k ds, _, ⟨a, b, vs, e, ⟨so, s⟩, q⟩ => ⟨a, b, vs, e, ⟨so, fun p hp => ⟨⟨(s p hp).1.1, fun z => (s p hp).1.2.1 (.inr z), (s p hp).1.2.2⟩, (s p hp).2⟩⟩, RpL.out ds vs q⟩
theorem RpL.out {ex : List Addr} : ∀ (ds : List D) (vs : List V), RpL K (wl.hide ex) H ds vs → RpL K wl H ds vs
  | [], _, r => r
  | d :: ds, _, ⟨v, r, e, p, q⟩ => ⟨v, r, e, Rp.out d v p, RpL.out ds r q⟩
end
theorem sqT_upd {a p : Addr} {xs : List V} {u o : HO} (s : SqT K H a xs) (hp : H p = some u) (hm : Mut u) : SqT K (upd H p o) a xs := by
  rcases s with (s | ⟨o, s⟩) | s
  · exact .inl (.inl (by rw [upd_ne (ne_of s hp (by intro z; subst z; exact hm))]; exact s))
  · exact .inl (.inr ⟨o, by rw [upd_ne (ne_of s hp (by intro z; subst z; exact hm))]; exact s⟩)
  · exact .inr s
mutual
/-- what stands apart is written -/
theorem Rp.write {p : Addr} {u o : HO} (hh : ¬ wl.fr p) (hp : H p = some u) (hm : Mut u) : ∀ (d : D) (v : V), Rp K wl H d v → Rp K wl (upd H p o) d v
  | .non, _, r => r
  | .bl _, _, r => r
  | .int _, _, r => r
  | .str _, _, r => r
  | .tup ds, _, ⟨a, vs, e, s, q⟩ => ⟨a, vs, e, sqT_upd s hp hm, RpL.write hh hp hm ds vs q⟩
  | .lst ds, _, ⟨a, vs, e, f, s, q⟩ => ⟨a, vs, e, f, by rw [upd_ne (fun z => hh (by rw [← z]; exact f))]; exact s, RpL.write hh hp hm ds vs q⟩
  | .well, _, r => r
  | .ty _, _, r => r
  | .scr ns, _, ⟨a, e, s⟩ => ⟨a, e, s.upd_ne fun w z => ne_of z hp (by intro y; subst y; exact hm)⟩
  | .oth k ds, _, ⟨a, b, vs, e, ⟨so, s⟩, q⟩ => ⟨a, b, vs, e, ⟨so, fun y hy => ⟨(s y hy).1, by rw [upd_ne (fun z => hh (by rw [← z]; exact (s y hy).1))]; exact (s y hy).2⟩⟩, RpL.write hh hp hm ds vs q⟩
theorem RpL.write {p : Addr} {u o : HO} (hh : ¬ wl.fr p) (hp : H p = some u) (hm : Mut u) : ∀ (ds : List D) (vs : List V), RpL K wl H ds vs → RpL K wl (upd H p o) ds vs
  | [], _, r => r
  | d :: ds, _, ⟨v, r, e, p', q⟩ => ⟨v, r, e, Rp.write hh hp hm d v p', RpL.write hh hp hm ds r q⟩
end
mutual
theorem Rp.grow {p : Addr} {o : HO} (hp : H p = none) : ∀ (d : D) (v : V), Rp K wl H d v → Rp K wl (upd H p o) d v
  | .non, _, r => r
  | .bl _, _, r => r
  | .int _, _, r => r
  | .str _, _, r => r
  | .tup ds, _, ⟨a, vs, e, s, q⟩ => ⟨a, vs, e, by
      rcases s with (s | ⟨u, s⟩) | s
      · exact .inl (.inl (by rw [upd_ne (ne_of_none s hp)]; exact s))
      · exact .inl (.inr ⟨u, by rw [upd_ne (ne_of_none s hp)]; exact s⟩)
      · exact .inr s, RpL.grow hp ds vs q⟩
  | .lst ds, _, ⟨a, vs, e, f, s, q⟩ => ⟨a, vs, e, f, by rw [upd_ne (ne_of_none s hp)]; exact s, RpL.grow hp ds vs q⟩
  | .well, _, r => r
  | .ty _, _, r => r
  | .scr ns, _, ⟨a, e, s⟩ => ⟨a, e, s.upd_ne fun u z => ne_of_none z hp⟩
  | .oth k ds, _, ⟨a, b, vs, e, ⟨so, s⟩, q⟩ => ⟨a, b, vs, e, ⟨so, fun y hy => ⟨(s y hy).1, by rw [upd_ne (ne_of_none (s y hy).2 hp)]; exact (s y hy).2⟩⟩, RpL.grow hp ds vs q⟩
theorem RpL.grow {p : Addr} {o : HO} (hp : H p = none) : ∀ (ds : List D) (vs : List V), RpL K wl H ds vs → RpL K wl (upd H p o) ds vs
  | [], _, r => r
  | d :: ds, _, ⟨v, r, e, p', q⟩ => ⟨v, r, e, Rp.grow hp d v p', RpL.grow hp ds r q⟩
end
theorem RpL.one {d : D} {v : V} (r : Rp K wl H d v) : RpL K wl H [d] [v] := ⟨v, [], rfl, r, rfl⟩
end

/-! ### steps of a def: it may change its own things, make new ones -/
/-- nothing that is known stands at a (a table of code objects may) -/
def Fresh (H : Hp) (a : Addr) : Prop := ∀ o, H a = some o → ¬ NT o
theorem Fresh.of {H : Hp} {a : Addr} (h : H a = none) : Fresh H a := fun o e => by rw [h] at e; cases e
structure Step (w : Wd) (H : Hp) (w' : Wd) (H' : Hp) : Prop where
  wl : w'.wl = w.wl
  tabs : w'.tabs = w.tabs
  keep : ∀ a o, w.wl ≠ some a → ¬ w.ow a → H a = some o → NT o → H' a = some o
  hid : ∀ a, w.hid a → w'.hid a
  old : ∀ a, w'.hid a → w.hid a ∨ w.ow a ∨ Fresh H a
  ow : ∀ a, w'.ow a → w.ow a ∨ Fresh H a
  wk : Wk w' H'
theorem Ext.step {w : Wd} {H H' : Hp} (x : Ext w H H') : Step w H w H' :=
  ⟨rfl, rfl, fun a o n _ e t => x.keep a o n e t, fun _ z => z, fun _ z => .inl z, fun _ z => .inl z, x.wk⟩
theorem Step.trans {w w1 w2 : Wd} {H H1 H2 : Hp} (x : Step w H w1 H1) (y : Step w1 H1 w2 H2) : Step w H w2 H2 := by
  have nn : ∀ a, Fresh H1 a → w.ow a ∨ Fresh H a := fun a z => Classical.byContradiction fun h => h (.inr fun o e t => by
    by_cases hw : w.wl = some a
    · obtain ⟨i, j, k, q, _⟩ := x.wk.well a (x.wl.trans hw)
      exact z _ q (fun _ y => nomatch y)
    · exact z o (x.keep a o hw (fun m => h (.inl m)) e t) t)
  refine ⟨y.wl.trans x.wl, y.tabs.trans x.tabs, fun a o n m e t => y.keep a o (by rw [x.wl]; exact n) (fun z => (x.ow a z).elim m fun z => z o e t) (x.keep a o n m e t) t, fun a z => y.hid a (x.hid a z), fun a z => ?_, fun a z => ?_, y.wk⟩
  · rcases y.old a z with z | z | z
    · exact x.old a z
    · exact .inr (x.ow a z)
    · exact .inr (nn a z)
  · rcases y.ow a z with z | z
    · exact x.ow a z
    · exact nn a z
section
variable {K : PySem.W.Frag} {w w' : Wd} {H H' : Hp}
theorem Step.fr (x : Step w H w' H') {a : Addr} {o : HO} (f : w.fr a) (h : H a = some o) (t : NT o) : w'.fr a := by
  refine ⟨by rw [x.wl]; exact f.1, fun z => ?_, fun z => ?_⟩
  · rcases x.old a z with z | z | z
    · exact f.2.1 z
    · exact f.2.2 z
    · exact z o h t
  · rcases x.ow a z with z | z
    · exact f.2.2 z
    · exact z o h t
theorem Wk.notOw {a : Addr} {u : HO} (h : Wk w H) (e : H a = some u) (m : ¬ Mut u) : ¬ w.ow a := fun z => by
  obtain ⟨o, q, r⟩ := h.ow a z
  rw [e] at q; cases q
  exact m r
theorem sqT_step {a : Addr} {xs : List V} (s : SqT K H a xs) (h : Wk w H) (x : Step w H w' H') : SqT K H' a xs := by
  rcases s with s | s
  · have n := h.notTup s
    rcases s with s | ⟨o, s⟩
    · exact .inl (.inl (x.keep _ _ n (h.notOw s (fun z => z)) s (fun _ z => nomatch z)))
    · exact .inl (.inr ⟨o, x.keep _ _ n (h.notOw s (fun z => z)) s (fun _ z => nomatch z)⟩)
  · exact .inr s
theorem ScrAt.step {a : Addr} {ns : List Int} (s : ScrAt K H a ns) (h : Wk w H) (x : Step w H w' H') : ScrAt K H' a ns := by
  rcases s with ⟨o, s⟩ | s
  · refine .inl ⟨o, x.keep _ _ (fun z => ?_) (h.notOw s (fun z => z)) s (fun _ z => nomatch z)⟩
    obtain ⟨i, j, k, e, _⟩ := h.well a z
    rw [s] at e; cases e
  · exact .inr s
mutual
theorem Rp.step (h : Wk w H) (x : Step w H w' H') : ∀ (d : D) (v : V), Rp K w H d v → Rp K w' H' d v
  | .non, _, r => r
  | .bl _, _, r => r
  | .int _, _, r => r
  | .str _, _, r => r
  | .tup ds, _, ⟨a, vs, e, s, q⟩ => ⟨a, vs, e, sqT_step s h x, RpL.step h x ds vs q⟩
  | .lst ds, _, ⟨a, vs, e, n, s, q⟩ => ⟨a, vs, e, x.fr n s (fun _ z => nomatch z), x.keep _ _ n.1 n.2.2 s (fun _ z => nomatch z), RpL.step h x ds vs q⟩
  | .well, _, ⟨a, e, r⟩ => ⟨a, x.wl.trans e, r⟩
  | .ty _, _, r => r
  | .scr ns, _, ⟨a, e, s⟩ => ⟨a, e, s.step h x⟩
  | .oth k ds, _, ⟨a, b, vs, e, ⟨so, s⟩, q⟩ => ⟨a, b, vs, e, ⟨so, fun p hp => ⟨x.fr (s p hp).1 (s p hp).2 (Kd.nt hp), x.keep _ _ (s p hp).1.1 (s p hp).1.2.2 (s p hp).2 (Kd.nt hp)⟩⟩, RpL.step h x ds vs q⟩
theorem RpL.step (h : Wk w H) (x : Step w H w' H') : ∀ (ds : List D) (vs : List V), RpL K w H ds vs → RpL K w' H' ds vs
  | [], _, r => r
  | d :: ds, _, ⟨v, r, e, p, q⟩ => ⟨v, r, e, Rp.step h x d v p, RpL.step h x ds r q⟩
end
mutual
/-- from a world in which more stands apart -/
theorem Rp.less (hw : w.wl = w'.wl) (hf : ∀ a, w.fr a → w'.fr a) : ∀ (d : D) (v : V), Rp K w H d v → Rp K w' H d v
  | .non, _, r => r
  | .bl _, _, r => r
  | .int _, _, r => r
  | .str _, _, r => r
  | .tup ds, _, ⟨a, vs, e, s, q⟩ => ⟨a, vs, e, s, RpL.less hw hf ds vs q⟩
  | .lst ds, _, ⟨a, vs, e, n, s, q⟩ => ⟨a, vs, e, hf a n, s, RpL.less hw hf ds vs q⟩
  | .well, _, ⟨a, e, r⟩ => ⟨a, hw ▸ e, r⟩
  | .ty _, _, r => r
  | .scr ns, _, r => r
  | .oth k ds, _, ⟨a, b, vs, e, ⟨so, s⟩, q⟩ => ⟨a, b, vs, e, ⟨so, fun p hp => ⟨hf _ (s p hp).1, (s p hp).2⟩⟩, RpL.less hw hf ds vs q⟩
theorem RpL.less (hw : w.wl = w'.wl) (hf : ∀ a, w.fr a → w'.fr a) : ∀ (ds : List D) (vs : List V), RpL K w H ds vs → RpL K w' H ds vs
  | [], _, r => r
  | d :: ds, _, ⟨v, r, e, p, q⟩ => ⟨v, r, e, Rp.less hw hf d v p, RpL.less hw hf ds r q⟩
end
end

/-! ### environments: a name holds nothing, a datum, a list of the def's own -/
inductive Sl where
  | no
  | dt (d : D)
  | ow (xs : List D)
abbrev Ev := List Sl
structure EvR (K : PySem.W.Frag) (wl : Wd) (H : Hp) (ρ : Ev) (σ : St) : Prop where
  len : ρ.length = σ.length
  at_ : ∀ (i : Nat) (d : D), ρ[i]? = some (.dt d) → ∃ v, σ[i]? = some (some v) ∧ Rp K wl H d v
  ow : ∀ (i : Nat) (xs : List D), ρ[i]? = some (.ow xs) → ∃ a vs, σ[i]? = some (some (.ref a)) ∧ (wl.wl ≠ some a ∧ ¬ wl.hid a) ∧ wl.ow a ∧ H a = some (.lst vs) ∧ RpL K wl H xs vs
  uni : ∀ (i j : Nat) (xs ys : List D) (a : Addr), ρ[i]? = some (.ow xs) → ρ[j]? = some (.ow ys) → σ[i]? = some (some (.ref a)) → σ[j]? = some (some (.ref a)) → i = j
section
variable {K : PySem.W.Frag} {wl : Wd} {H H' : Hp} {ρ : Ev} {σ : St}
theorem EvR.ext (r : EvR K wl H ρ σ) (h : Wk wl H) (x : Ext wl H H') : EvR K wl H' ρ σ :=
  ⟨r.len, fun i d e => let ⟨v, a, b⟩ := r.at_ i d e; ⟨v, a, Rp.ext h x d v b⟩, fun i xs e => let ⟨a, vs, b, c, d, f, g⟩ := r.ow i xs e; ⟨a, vs, b, c, d, x.keep _ _ c.1 f (fun _ z => nomatch z), RpL.ext h x xs vs g⟩, r.uni⟩
theorem sl_get {ρ : Ev} {i j : Nat} {s t : Sl} (e : (ρ.set i s)[j]? = some t) : (i = j ∧ s = t) ∨ (i ≠ j ∧ ρ[j]? = some t) := by
  by_cases hj : i = j
  · subst hj
    by_cases hl : i < ρ.length
    · rw [List.getElem?_set_self hl] at e
      exact .inl ⟨rfl, Option.some.inj e⟩
    · rw [List.getElem?_eq_none (by rw [List.length_set]; omega)] at e
      cases e
  · rw [List.getElem?_set_ne hj] at e
    exact .inr ⟨hj, e⟩
theorem set_lt {α : Type} {ρ : List α} {i : Nat} {s t : α} (e : (ρ.set i s)[i]? = some t) : i < ρ.length := by
  have := (List.getElem?_eq_some_iff.mp e).1
  rwa [List.length_set] at this
theorem EvR.put (r : EvR K wl H ρ σ) {s : Sl} {o : Option V} (i : Nat) (hd : ∀ d, s = .dt d → ∃ v, o = some v ∧ Rp K wl H d v) (ho : ∀ xs, s ≠ .ow xs) : EvR K wl H (ρ.set i s) (σ.set i o) := by
  refine ⟨by rw [List.length_set, List.length_set]; exact r.len, fun j c e => ?_, fun j c e => ?_, fun j k xs ys a e1 e2 e3 e4 => ?_⟩
  · have hl := e
    rcases sl_get e with ⟨rfl, z⟩ | ⟨n, z⟩
    · obtain ⟨v, q, p⟩ := hd c z
      exact ⟨v, by rw [List.getElem?_set_self (by rw [← r.len]; exact set_lt hl), q], p⟩
    · rw [List.getElem?_set_ne n]
      exact r.at_ j c z
  · rcases sl_get e with ⟨rfl, z⟩ | ⟨n, z⟩
    · exact (ho c z).elim
    · rw [List.getElem?_set_ne n]
      exact r.ow j c z
  · rcases sl_get e1 with ⟨rfl, z⟩ | ⟨n1, z1⟩
    · exact (ho xs z).elim
    · rcases sl_get e2 with ⟨rfl, z⟩ | ⟨n2, z2⟩
      · exact (ho ys z).elim
      · rw [List.getElem?_set_ne n1] at e3
        rw [List.getElem?_set_ne n2] at e4
        exact r.uni j k xs ys a z1 z2 e3 e4
theorem EvR.set (r : EvR K wl H ρ σ) {d : D} {v : V} (p : Rp K wl H d v) (i : Nat) : EvR K wl H (ρ.set i (.dt d)) (σ.set i (some v)) :=
  r.put i (fun c e => by cases e; exact ⟨v, rfl, p⟩) fun _ z => nomatch z
theorem EvR.into {ex : List Addr} (r : EvR K wl H ρ σ) (h : Wk wl H) (n : ∀ a, a ∈ ex → H a = none) (x : Ext wl H H') : EvR K (wl.hide ex) H' ρ σ :=
  ⟨r.len, fun i d e => let ⟨v, a, b⟩ := r.at_ i d e; ⟨v, a, Rp.into h n x d v b⟩, fun i xs e => let ⟨a, vs, b, c, d, f, g⟩ := r.ow i xs e; ⟨a, vs, b, ⟨c.1, fun z => z.elim (fun z => by rw [n a z] at f; cases f) c.2⟩, d, x.keep _ _ c.1 f (fun _ z => nomatch z), RpL.into h n x xs vs g⟩, r.uni⟩
def wipeE (ρ : Ev) : List Nat → Ev
  | [] => ρ
  | v :: vs => (wipeE ρ vs).set v .no
theorem wipeE_length (ρ : Ev) : ∀ vs, (wipeE ρ vs).length = ρ.length
  | [] => rfl
  | v :: vs => by unfold wipeE; rw [List.length_set, wipeE_length ρ vs]
theorem EvR.unset (r : EvR K wl H ρ σ) (i : Nat) : EvR K wl H (ρ.set i .no) (σ.set i none) :=
  r.put i (fun c e => nomatch e) fun _ z => nomatch z
theorem EvR.wiped (r : EvR K wl H ρ σ) : ∀ vs : List Nat, EvR K wl H (wipeE ρ vs) (wipe σ vs)
  | [] => r
  | v :: vs => (EvR.wiped r vs).unset v
end

/-! ### exceptions -/
/-- a class of errors by its name, and the field that it was made with -/
structure Xn where
  cls : Str
  arg : Option (Str × D)
def XnR (K : PySem.W.Frag) (mg : Str → Option Value) (wl : Wd) (H : Hp) (e : Xn) (c : Value) (dd : Option Addr) : Prop :=
  mg e.cls = some c ∧ match e.arg with
    | none => True
    | some (f, d) => ∃ a v, dd = some a ∧ wl.fr a ∧ H a = some (.xd [(f, v)]) ∧ Rp K wl H d v

/-! ### readings of the pure layer, put into the hand layer's -/
abbrev PX := Ev → (D → Prop) → (Xn → Prop) → Prop
abbrev PB := Ev → (Bool → Prop) → (Xn → Prop) → Prop
abbrev PAx := Ev → (List D → Prop) → (Xn → Prop) → Prop
structure Pn where
  nx : Ev → Prop
  rt : D → Prop
  bk : Ev → Prop
  ct : Ev → Prop
  ex : Ev → Xn → Prop
abbrev PSt := Pn → Ev → Prop

/-- what may be let out, and the tables that all worlds know -/
structure WY where
  x : WX
  T : List (Addr × Str)
def Out (X : Cx) (W : WY) (wl : Wd) (H : Hp) (σ : St) (x : Xn → Prop) : Prop := wl.tabs = W.T ∧ ∀ e c dd H', Ext wl H H' → XnR X.K X.mg wl H' e c dd → x e → W.x c dd σ H'
theorem Out.ext {X : Cx} {W : WY} {wl : Wd} {H H' : Hp} {σ : St} {x : Xn → Prop} (o : Out X W wl H σ x) (e : Ext wl H H') : Out X W wl H' σ x := ⟨o.1, fun en c dd H2 e2 r q => o.2 en c dd H2 (e.trans e2) r q⟩

def eE (X : Cx) (W : WY) (f : PX) : TE := fun σ H Q => ∃ (wl : Wd) (ρ : Ev) (q : D → Prop) (x : Xn → Prop), Wk wl H ∧ EvR X.K wl H ρ σ ∧ f ρ q x ∧ (∀ d v H', Ext wl H H' → Rp X.K wl H' d v → q d → Q v H') ∧ Out X W wl H σ x
def eB (X : Cx) (W : WY) (f : PB) : TT := fun σ H Q => ∃ (wl : Wd) (ρ : Ev) (q : Bool → Prop) (x : Xn → Prop), Wk wl H ∧ EvR X.K wl H ρ σ ∧ f ρ q x ∧ (∀ b H', Ext wl H H' → q b → Q b H') ∧ Out X W wl H σ x
def eA (X : Cx) (W : WY) (f : PAx) : TA := fun σ H Q => ∃ (wl : Wd) (ρ : Ev) (q : List D → Prop) (x : Xn → Prop), Wk wl H ∧ EvR X.K wl H ρ σ ∧ f ρ q x ∧ (∀ ds vs H', Ext wl H H' → RpL X.K wl H' ds vs → q ds → Q vs H') ∧ Out X W wl H σ x
structure EndsR (X : Cx) (W : WY) (wl : Wd) (H : Hp) (P : Pn) (En : Ends) : Prop where
  T : wl.tabs = W.T
  nx : ∀ wl' ρ σ H', Step wl H wl' H' → EvR X.K wl' H' ρ σ → P.nx ρ → En.nx σ H'
  rt : ∀ wl' d v H', Step wl H wl' H' → Rp X.K wl' H' d v → P.rt d → En.rt v H'
  bk : ∀ wl' ρ σ H', Step wl H wl' H' → EvR X.K wl' H' ρ σ → P.bk ρ → En.bk σ H'
  ct : ∀ wl' ρ σ H', Step wl H wl' H' → EvR X.K wl' H' ρ σ → P.ct ρ → En.ct σ H'
  ex : ∀ wl' ρ σ H' e c dd, Step wl H wl' H' → EvR X.K wl' H' ρ σ → XnR X.K X.mg wl' H' e c dd → P.ex ρ e → W.x c dd σ H'
theorem EndsR.step {X : Cx} {W : WY} {wl wl1 : Wd} {H H' : Hp} {P : Pn} {En : Ends} (r : EndsR X W wl H P En) (e : Step wl H wl1 H') : EndsR X W wl1 H' P En :=
  ⟨e.tabs.trans r.T, fun w ρ σ H2 e2 => r.nx w ρ σ H2 (e.trans e2), fun w d v H2 e2 => r.rt w d v H2 (e.trans e2), fun w ρ σ H2 e2 => r.bk w ρ σ H2 (e.trans e2), fun w ρ σ H2 e2 => r.ct w ρ σ H2 (e.trans e2), fun w ρ σ H2 en c dd e2 => r.ex w ρ σ H2 en c dd (e.trans e2)⟩
theorem EndsR.ext {X : Cx} {W : WY} {wl : Wd} {H H' : Hp} {P : Pn} {En : Ends} (r : EndsR X W wl H P En) (e : Ext wl H H') : EndsR X W wl H' P En := r.step e.step
theorem EndsR.out {X : Cx} {W : WY} {wl : Wd} {H : Hp} {P : Pn} {En : Ends} {ρ : Ev} {σ : St} (r : EndsR X W wl H P En) (hk : Wk wl H) (he : EvR X.K wl H ρ σ) : Out X W wl H σ (P.ex ρ) :=
  ⟨r.T, fun e c dd H' x q p => r.ex wl ρ σ H' e c dd x.step (he.ext hk x) q p⟩
def eS (X : Cx) (W : WY) (f : PSt) : TS := fun En σ H => ∃ (wl : Wd) (ρ : Ev) (P : Pn), Wk wl H ∧ EvR X.K wl H ρ σ ∧ f P ρ ∧ EndsR X W wl H P En

/-! ### weakening -/
theorem PE.weak {X : Cx} {e : Expr} {t t' : TE} (h : PE X e t) (w : ∀ σ H Q, t' σ H Q → t σ H Q) : PE X e t' := ⟨fun pins s σ H Q I q => h.run pins s σ H Q I (w _ _ _ q)⟩
theorem PT.weak {X : Cx} {e : Expr} {t t' : TT} (h : PT X e t) (w : ∀ σ H Q, t' σ H Q → t σ H Q) : PT X e t' := ⟨fun pins s σ H Q I q => h.run pins s σ H Q I (w _ _ _ q)⟩
theorem PW.weak {X : Cx} {e : Expr} {t t' : TT} (h : PW X e t) (w : ∀ σ H Q, t' σ H Q → t σ H Q) : PW X e t' := ⟨fun wh pins s σ H Q I q => h.run wh pins s σ H Q I (w _ _ _ q)⟩
theorem PA.weak {X : Cx} {es : List Expr} {t t' : TA} (h : PA X es t) (w : ∀ σ H Q, t' σ H Q → t σ H Q) : PA X es t' := ⟨fun pos pins s σ H Q I q => h.run pos pins s σ H Q I (w _ _ _ q)⟩
theorem PS.weak {X : Cx} {e : Stmt} {t t' : TS} (h : PS X e t) (w : ∀ En σ H, t' En σ H → t En σ H) : PS X e t' := ⟨fun pins s σ H En I q => h.run pins s σ H En I (w _ _ _ q)⟩
theorem PSs.weak {X : Cx} {e : List Stmt} {t t' : TS} (h : PSs X e t) (w : ∀ En σ H, t' En σ H → t En σ H) : PSs X e t' := ⟨fun pins s σ H En I q => h.run pins s σ H En I (w _ _ _ q)⟩

/-! ### names, constants -/
section
variable {X : Cx} {W : WY}
def fVar (i : Nat) : PX := fun ρ q _ => ∃ d, ρ[i]? = some (.dt d) ∧ q d
def fC (d : D) : PX := fun _ q _ => q d
theorem d_var (i : Nat) {x : Str} {pos : Pos} (hN : X.N[i]? = some x := by rfl) (hv : Vis X.env.scope x := by first | exact Or.inl rfl | exact Or.inr (Or.inl rfl) | exact Or.inr (Or.inr rfl)) (hd : (x == ("__debug__" : Str)) = false := by decide)
    (hcd : (x == ("__classdict__" : Str)) = false := by decide) : PE X (.Name x pos) (eE X W (fVar i)) := by
  refine PE.weak (pe_var hN hv hd hcd) fun σ H Q ⟨wl, ρ, q, x, hk, he, ⟨d, e, h⟩, hq, _⟩ => ?_
  obtain ⟨v, e1, r⟩ := he.at_ i d e
  exact ⟨v, e1, hq d v H (.refl hk) r h⟩
/-- what is flat and stands for itself -/
def flatOf : D → Option V
  | .non => some .non
  | .bl b => some (.bl b)
  | .int i => some (.int i)
  | .str x => some (.str x)
  | .ty n => some (.ty n)
  | _ => none
theorem rp_flat {K : PySem.W.Frag} {wl : Wd} {H : Hp} : ∀ {d : D} {v : V}, flatOf d = some v → Rp K wl H d v
  | .non, _, h => by cases h; rfl
  | .bl _, _, h => by cases h; rfl
  | .int _, _, h => by cases h; rfl
  | .str _, _, h => by cases h; rfl
  | .ty _, _, h => by cases h; rfl
theorem eE_c {d : D} {v : V} (hf : flatOf d = some v) {σ : St} {H : Hp} {Q : VK} (h : eE X W (fC d) σ H Q) : Q v H := by
  obtain ⟨wl, ρ, q, x, hk, he, h, hq, _⟩ := h
  exact hq d v H (.refl hk) (rp_flat hf) h
theorem d_int {i j pos} : PE X (.Constant (.int i) j pos) (eE X W (fC (.int i))) := PE.weak pe_int fun _ _ _ h => eE_c rfl h
theorem d_bl {b j pos} : PE X (.Constant (.bool b) j pos) (eE X W (fC (.bl b))) := PE.weak pe_bl fun _ _ _ h => eE_c rfl h
theorem d_non {j pos} : PE X (.Constant .none j pos) (eE X W (fC .non)) := PE.weak pe_non fun _ _ _ h => eE_c rfl h
theorem d_str {x j pos} : PE X (.Constant (.str x) j pos) (eE X W (fC (.str x))) := PE.weak pe_str fun _ _ _ h => eE_c rfl h
/-- a built-in class as a value -/
theorem d_ty {x : Str} {n : String} {pos : Pos} (hg : Gl X x) (hm : X.mg x = none) (hv : bootBuiltins x = some (.type n)) (hn : x ≠ "__name__" := by decide) (hd : (x == ("__debug__" : Str)) = false := by decide) : PE X (.Name x pos) (eE X W (fC (.ty n))) :=
  PE.weak (pe_bltn (v := .ty n) hg hm hv rfl hn hd) fun _ _ _ h => eE_c rfl h
/-- a module's constant: what is the same in every heap -/
def Kst (K : PySem.W.Frag) (mg : Str → Option Value) (x : Str) (d : D) : Prop := ∃ (u : Value) (v : V), mg x = some u ∧ RelV v u ∧ ∀ wl H, Rp K wl H d v
theorem d_glob {x : Str} {d : D} {pos : Pos} (hg : Gl X x) (k : Kst X.K X.mg x d) (hd : (x == ("__debug__" : Str)) = false := by decide) : PE X (.Name x pos) (eE X W (fC d)) := by
  obtain ⟨u, v, hm, r, a⟩ := k
  refine PE.weak (pe_glob hg hm r hd) fun σ H Q ⟨wl, ρ, q, x, hk, he, h, hq, _⟩ => ?_
  exact hq d v H (.refl hk) (a wl H) h

/-! ### two operands -/
abbrev PG2 := D → D → (D → Prop) → Prop
def Cmp2 (K : PySem.W.Frag) (r : R2) (g : PG2) : Prop := ∀ wl H d1 d2 v1 v2 q Q, Wk wl H → Rp K wl H d1 v1 → Rp K wl H d2 v2 → g d1 d2 q → (∀ d v H', Ext wl H H' → Rp K wl H' d v → q d → Q v H') → r v1 v2 H Q
def fBin (g : PG2) (fa fb : PX) : PX := fun ρ q x => fa ρ (fun d1 => fb ρ (fun d2 => g d1 d2 q) x) x
theorem bin_weak {r : R2} {g : PG2} (c : Cmp2 X.K r g) {fa fb : PX} {σ : St} {H : Hp} {Q : VK} (h : eE X W (fBin g fa fb) σ H Q) : tOp r (eE X W fa) (eE X W fb) σ H Q := by
  obtain ⟨wl, ρ, q, x, hk, he, hf, hq, hx⟩ := h
  refine ⟨wl, ρ, _, x, hk, he, hf, fun d1 v1 H1 e1 r1 h1 => ⟨wl, ρ, _, x, e1.wk, he.ext hk e1, h1, fun d2 v2 H2 e2 r2 h2 => ?_, hx.ext e1⟩, hx⟩
  exact c wl H2 d1 d2 v1 v2 q Q e2.wk (Rp.ext e1.wk e2 _ _ r1) r2 h2 fun d v H' e3 r3 => hq d v H' ((e1.trans e2).trans e3) r3
theorem d_op {op : Operator} {r : R2} {g : PG2} {a b : Expr} {fa fb : PX} {pos : Pos} (ho : OpR X (binaryOp op) r) (c : Cmp2 X.K r g) (ha : PE X a (eE X W fa)) (hb : PE X b (eE X W fb)) : PE X (.BinOp a op b pos) (eE X W (fBin g fa fb)) :=
  PE.weak (pe_op ho ha hb) fun _ _ _ h => bin_weak c h
theorem d_cmp {op : CmpOp} {r : R2} {g : PG2} {a b : Expr} {fa fb : PX} {pos : Pos} (ho : OpR X (compareOp op) r) (c : Cmp2 X.K r g) (ha : PE X a (eE X W fa)) (hb : PE X b (eE X W fb)) (hm : behindInMarks op b = false) : PE X (.Compare a [op] [b] pos) (eE X W (fBin g fa fb)) :=
  PE.weak (pe_cmpR ho ha hb hm) fun _ _ _ h => bin_weak c h
theorem d_ix {r : R2} {g : PG2} {a b : Expr} {fa fb : PX} {pos : Pos} (hr : IxR X r) (c : Cmp2 X.K r g) (ha : PE X a (eE X W fa)) (hb : PE X b (eE X W fb)) (hs : PlainIx b) : PE X (.Subscript a b pos) (eE X W (fBin g fa fb)) :=
  PE.weak (pe_ix hr ha hb hs) fun _ _ _ h => bin_weak c h
/-- a < b < c -/
def fChain (g g' : PG2) (fa fb fc : PX) : PX := fun ρ q x => fa ρ (fun d1 => fb ρ (fun d2 => g d1 d2 fun z => ∃ k, z = .bl k ∧ (k = true → fc ρ (fun d3 => g' d2 d3 q) x) ∧ (k = false → q (.bl false))) x) x
def fNot (fa : PX) : PX := fun ρ q x => fa ρ (fun d => ∃ k, d = .bl k ∧ q (.bl (!k))) x
def fAnd (fa fb : PX) : PX := fun ρ q x => fa ρ (fun d => ∃ k, d = .bl k ∧ (k = true → fb ρ q x) ∧ (k = false → q (.bl false))) x
def fOr (fa fb : PX) : PX := fun ρ q x => fa ρ (fun d => ∃ k, d = .bl k ∧ (k = true → q (.bl true)) ∧ (k = false → fb ρ q x)) x
def fNeg (fa : PX) : PX := fun ρ q x => fa ρ (fun d => ∃ i, d = .int i ∧ q (.int (-i))) x
theorem d_neg {a : Expr} {fa : PX} {pos : Pos} (ha : PE X a (eE X W fa)) : PE X (.UnaryOp .USub a pos) (eE X W (fNeg fa)) := by
  refine PE.weak (pe_un un_neg ha) fun σ H Q ⟨wl, ρ, q, x, hk, he, hf, hq, hx⟩ => ?_
  refine ⟨wl, ρ, _, x, hk, he, hf, fun d v H1 e1 r1 ⟨i, ed, h1⟩ => ?_, hx⟩
  subst ed
  exact ⟨i, r1, hq (.int (-i)) _ H1 e1 rfl h1⟩
theorem d_not {a : Expr} {fa : PX} {pos : Pos} (ha : PE X a (eE X W fa)) : PE X (.UnaryOp .Not a pos) (eE X W (fNot fa)) := by
  refine PE.weak (pe_not ha) fun σ H Q ⟨wl, ρ, q, x, hk, he, hf, hq, hx⟩ => ?_
  refine ⟨wl, ρ, _, x, hk, he, hf, fun d v H1 e1 r1 ⟨k, ed, h1⟩ => ?_, hx⟩
  subst ed
  exact ⟨k, r1, hq (.bl (!k)) _ H1 e1 rfl h1⟩
theorem d_one {op} {a : Expr} {fa : PX} {pos : Pos} (ha : PE X a (eE X W fa)) : PE X (.BoolOp op [a] pos) (eE X W fa) := pe_one ha
theorem d_and {a b : Expr} {rest : List Expr} {fa fb : PX} {pos : Pos} (ha : PE X a (eE X W fa)) (hb : PE X (.BoolOp .And (b :: rest) pos) (eE X W fb)) : PE X (.BoolOp .And (a :: b :: rest) pos) (eE X W (fAnd fa fb)) := by
  refine PE.weak (pe_and ha hb) fun σ H Q ⟨wl, ρ, q, x, hk, he, hf, hq, hx⟩ => ?_
  refine ⟨wl, ρ, _, x, hk, he, hf, fun d v H1 e1 r1 ⟨k, ed, h1, h2⟩ => ?_, hx⟩
  subst ed
  refine ⟨k, r1, ?_⟩
  cases k with
  | true => exact iteT ⟨wl, ρ, q, x, e1.wk, he.ext hk e1, h1 rfl, fun d v H2 e2 r2 => hq d v H2 (e1.trans e2) r2, hx.ext e1⟩
  | false => exact iteF (hq (.bl false) _ H1 e1 rfl (h2 rfl))
theorem d_or {a b : Expr} {rest : List Expr} {fa fb : PX} {pos : Pos} (ha : PE X a (eE X W fa)) (hb : PE X (.BoolOp .Or (b :: rest) pos) (eE X W fb)) : PE X (.BoolOp .Or (a :: b :: rest) pos) (eE X W (fOr fa fb)) := by
  refine PE.weak (pe_or ha hb) fun σ H Q ⟨wl, ρ, q, x, hk, he, hf, hq, hx⟩ => ?_
  refine ⟨wl, ρ, _, x, hk, he, hf, fun d v H1 e1 r1 ⟨k, ed, h1, h2⟩ => ?_, hx⟩
  subst ed
  refine ⟨k, r1, ?_⟩
  cases k with
  | true => exact iteT (hq (.bl true) _ H1 e1 rfl (h1 rfl))
  | false => exact iteF ⟨wl, ρ, q, x, e1.wk, he.ext hk e1, h2 rfl, fun d v H2 e2 r2 => hq d v H2 (e1.trans e2) r2, hx.ext e1⟩
theorem chain_weak {r r' : R2} {g g' : PG2} (k1 : Cmp2 X.K r g) (k2 : Cmp2 X.K r' g') {fa fb fc : PX} {σ : St} {H : Hp} {Q : VK} (h : eE X W (fChain g g' fa fb fc) σ H Q) : tChain r r' (eE X W fa) (eE X W fb) (eE X W fc) σ H Q := by
  obtain ⟨wl, ρ, q, x, hk, he, hf, hq, hx⟩ := h
  refine ⟨wl, ρ, _, x, hk, he, hf, fun d1 v1 H1 e1 r1 h1 => ⟨wl, ρ, _, x, e1.wk, he.ext hk e1, h1, fun d2 v2 H2 e2 r2 h2 => ?_, hx.ext e1⟩, hx⟩
  refine k1 wl H2 d1 d2 v1 v2 _ _ e2.wk (Rp.ext e1.wk e2 _ _ r1) r2 h2 fun d v H3 e3 r3 ⟨k, ed, h3, h4⟩ => ?_
  subst ed
  refine ⟨k, r3, ?_⟩
  have e23 := (e1.trans e2).trans e3
  cases k with
  | true =>
    refine iteT ⟨wl, ρ, _, x, e3.wk, he.ext hk e23, h3 rfl, fun d3 v3 H4 e4 r4 h5 => ?_, hx.ext e23⟩
    exact k2 wl H4 d2 d3 v2 v3 q Q e4.wk (Rp.ext e3.wk e4 _ _ (Rp.ext e2.wk e3 _ _ r2)) r4 h5 fun d v H5 e5 r5 => hq d v H5 (e23.trans e4 |>.trans e5) r5
  | false => exact iteF (hq (.bl false) _ H3 e23 rfl (h4 rfl))
theorem d_chain {op op' : CmpOp} {r r' : R2} {g g' : PG2} {a b c : Expr} {fa fb fc : PX} {pos : Pos} (ho : OpR X (compareOp op) r) (ho' : OpR X (compareOp op') r') (k1 : Cmp2 X.K r g) (k2 : Cmp2 X.K r' g')
    (ha : PE X a (eE X W fa)) (hb : PE X b (eE X W fb)) (hc : PE X c (eE X W fc)) (hm : lastMarks [op, op'] [b, c] = false := by with_unfolding_all rfl) : PE X (.Compare a [op, op'] [b, c] pos) (eE X W (fChain g g' fa fb fc)) :=
  PE.weak (pe_chain ho ho' ha hb hc hm) fun _ _ _ h => chain_weak k1 k2 h
end
end PL

namespace PL
open PySem PySem.Spec L2

/-! # operations by data -/
section
variable {X : Cx} {K : PySem.W.Frag}
/-! ### + -/
def addG : PG2
  | .int i, .int j, q => q (.int (i + j))
  | .str a, .str b, q => a.length + b.length ≤ LIM ∧ q (.str (a ++ b))
  | .tup xs, .tup ys, q => xs.length + ys.length ≤ LIM ∧ q (.tup (xs ++ ys))
  | .lst xs, .lst ys, q => xs.length + ys.length ≤ LIM ∧ q (.lst (xs ++ ys))
  | _, _, _ => False
def rAddA (K : PySem.W.Frag) : R2 := fun x y H Q => (rI0 fun i j => .int (i + j)) x y H Q ∨ (fun (x y : V) H (Q : VK) => ∃ i j, x = .str i ∧ y = .str j ∧ i.length + j.length ≤ sizeLine ∧ Q (.str (i ++ j)) H) x y H Q ∨ rCatA K x y H Q ∨ rCat x y H Q
theorem op_addA : OpR X (binaryOp .Add) (rAddA X.K) := op_add.or (op_add_str.or (op_catA.or op_cat))
theorem add_ok : Cmp2 K (rAddA K) addG := by
  intro wl H d1 d2 v1 v2 q Q hk r1 r2 g hq
  cases d1 <;> cases d2 <;> try exact g.elim
  case int.int i j =>
    cases r1; cases r2
    exact .inl ⟨i, j, rfl, rfl, hq (.int (i + j)) _ H (.refl hk) rfl g⟩
  case str.str a b =>
    cases r1; cases r2
    exact .inr (.inl ⟨a, b, rfl, rfl, lim_line g.1, hq (.str (a ++ b)) _ H (.refl hk) rfl g.2⟩)
  case tup.tup xs ys =>
    obtain ⟨a, vs, rfl, s1, q1⟩ := r1
    obtain ⟨b, us, rfl, s2, q2⟩ := r2
    have l1 := q1.length
    have l2 := q2.length
    refine .inr (.inr (.inl ⟨a, b, vs, us, rfl, rfl, s1, s2, lim_line (by rw [l1, l2]; exact g.1), fun e => ?_, fun _ e => ?_, fun _ _ p hp => ?_⟩))
    · subst e
      obtain rfl : xs = [] := List.length_eq_zero_iff.mp l1.symm
      exact hq (.tup ys) _ H (.refl hk) ⟨b, us, rfl, s2, q2⟩ g.2
    · subst e
      obtain rfl : ys = [] := List.length_eq_zero_iff.mp l2.symm
      have g2 := g.2
      rw [List.append_nil] at g2
      exact hq (.tup xs) _ H (.refl hk) ⟨a, vs, rfl, s1, q1⟩ g2
    · have e := Ext.new (o := .tup (vs ++ us)) hk hp
      exact hq (.tup (xs ++ ys)) _ _ e ⟨p, _, rfl, SqT.of upd_same, (RpL.ext hk e _ _ q1).append (RpL.ext hk e _ _ q2)⟩ g.2
  case lst.lst xs ys =>
    obtain ⟨a, vs, rfl, n1, s1, q1⟩ := r1
    obtain ⟨b, us, rfl, n2, s2, q2⟩ := r2
    refine .inr (.inr (.inr ⟨a, b, vs, us, rfl, rfl, s1, s2, lim_line (by rw [q1.length, q2.length]; exact g.1), fun p hp => ?_⟩))
    have e := Ext.new (o := .lst (vs ++ us)) hk hp
    refine hq (.lst (xs ++ ys)) _ _ e ⟨p, _, rfl, hk.new hp, upd_same, (RpL.ext hk e _ _ q1).append (RpL.ext hk e _ _ q2)⟩ g.2
/-! ### -, *, %, //, ** -/
def subG : PG2
  | .int i, .int j, q => q (.int (i - j))
  | _, _, _ => False
theorem sub_ok : Cmp2 K (rI0 fun i j => .int (i - j)) subG := by
  intro wl H d1 d2 v1 v2 q Q hk r1 r2 g hq
  cases d1 <;> cases d2 <;> try exact g.elim
  case int.int i j => cases r1; cases r2; exact ⟨i, j, rfl, rfl, hq (.int (i - j)) _ H (.refl hk) rfl g⟩
/-- by a written condition and function of two numbers -/
def intG (C : Int → Int → Prop) (f : Int → Int → D) : PG2
  | .int i, .int j, q => C i j ∧ q (f i j)
  | _, _, _ => False
theorem int_ok {C : Int → Int → Prop} {f : Int → Int → Int} : Cmp2 K (rI C fun i j => .int (f i j)) (intG C fun i j => .int (f i j)) := by
  intro wl H d1 d2 v1 v2 q Q hk r1 r2 g hq
  cases d1 <;> cases d2 <;> try exact g.elim
  case int.int i j => cases r1; cases r2; exact ⟨i, j, rfl, rfl, g.1, hq (.int (f i j)) _ H (.refl hk) rfl g.2⟩
theorem intB_ok {f : Int → Int → Bool} : Cmp2 K (rI0 fun i j => .bl (f i j)) (intG (fun _ _ => True) fun i j => .bl (f i j)) := by
  intro wl H d1 d2 v1 v2 q Q hk r1 r2 g hq
  cases d1 <;> cases d2 <;> try exact g.elim
  case int.int i j => cases r1; cases r2; exact ⟨i, j, rfl, rfl, hq (.bl (f i j)) _ H (.refl hk) rfl g.2⟩
def mulG : PG2 := intG CMul fun i j => .int (i * j)
def modG : PG2 := intG (fun _ j => 0 < j) fun i j => .int (i % j)
def fdivG : PG2 := intG CDiv fun i j => .int (i / j)
def powG : PG2 := intG CPow fun i j => .int (i ^ j.toNat)
def ltG : PG2 := intG (fun _ _ => True) fun i j => .bl (decide (i < j))
def leG : PG2 := intG (fun _ _ => True) fun i j => .bl (decide (i ≤ j))
def gtG : PG2 := intG (fun _ _ => True) fun i j => .bl (decide (j < i))
def geG : PG2 := intG (fun _ _ => True) fun i j => .bl (decide (j ≤ i))

theorem mul_ok : Cmp2 K (rI CMul fun i j => .int (i * j)) mulG := int_ok
theorem mod_ok : Cmp2 K (rI (fun _ j => 0 < j) fun i j => .int (i % j)) modG := int_ok
theorem fdiv_ok : Cmp2 K (rI CDiv fun i j => .int (i / j)) fdivG := int_ok
theorem pow_ok : Cmp2 K (rI CPow fun i j => .int (i ^ j.toNat)) powG := int_ok
theorem lt_ok : Cmp2 K (rI0 fun i j => .bl (decide (i < j))) ltG := intB_ok
theorem le_ok : Cmp2 K (rI0 fun i j => .bl (decide (i ≤ j))) leG := intB_ok
theorem gt_ok : Cmp2 K (rI0 fun i j => .bl (decide (j < i))) gtG := intB_ok
theorem ge_ok : Cmp2 K (rI0 fun i j => .bl (decide (j ≤ i))) geG := intB_ok
theorem u200 {k : Nat} {A : Around} (r : Room k A) : A.units + 200 < cLine := by have := r.un; omega

/-! ### == -/
mutual
def toPy : D → PyData
  | .non => .none
  | .bl b => .bool b
  | .int i => .int i
  | .str x => .str x
  | .tup xs => .tuple (toPyL xs)
  | .lst xs => .list (toPyL xs)
  | .well => .none
  | .ty _ => .none
  | .scr _ => .none
  | .oth _ _ => .none
def toPyL : List D → List PyData
  | [] => []
  | d :: ds => toPy d :: toPyL ds
end
mutual
def good : D → Bool
  | .non => true
  | .bl _ => true
  | .int _ => true
  | .str _ => true
  | .tup xs => goodL xs
  | .lst xs => goodL xs
  | .well => false
  | .ty _ => false
  | .scr _ => false
  | .oth _ _ => false
def goodL : List D → Bool
  | [] => true
  | d :: ds => good d && goodL ds
end
section
variable {wl : Wd} {H : Hp}
mutual
theorem Rp.dp : ∀ (d : D) (v : V), good d = true → Rp K wl H d v → Dp K H v (toPy d)
  | .non, _, _, r => by cases r; exact .non
  | .bl b, _, _, r => by cases r; exact .bl b
  | .int i, _, _, r => by cases r; exact .int i
  | .str x, _, _, r => by cases r; exact .str x
  | .tup ds, _, g, ⟨a, vs, e, s, q⟩ => by subst e; exact .tup s (RpL.dp ds vs g q)
  | .lst ds, _, g, ⟨a, vs, e, n, s, q⟩ => by subst e; exact .lst (SqL.of s) (RpL.dp ds vs g q)
  | .well, _, g, _ => absurd g (by simp [good])
  | .ty _, _, g, _ => absurd g (by simp [good])
  | .scr _, _, g, _ => absurd g (by simp [good])
  | .oth _ _, _, g, _ => absurd g (by simp [good])
theorem RpL.dp : ∀ (ds : List D) (vs : List V), goodL ds = true → RpL K wl H ds vs → DpAll K H vs (toPyL ds)
  | [], _, _, r => by cases r; exact .nil
  | d :: ds, _, g, ⟨v, r, e, p, q⟩ => by
    subst e
    have g2 : (good d && goodL ds) = true := g
    rw [Bool.and_eq_true] at g2
    exact .cons (Rp.dp d v g2.1 p) (RpL.dp ds r g2.2 q)
end
end
/-! what a datum costs: a bound of its text, of its weight -/
mutual
def cost : D → Nat
  | .non => 1
  | .bl _ => 1
  | .int i => if i.natAbs < 1000000000000 then 1 else 1000000000
  | .str x => if PyData.strOk x then x.length + 1 else 1000000000
  | .tup xs => costL xs + 1
  | .lst xs => costL xs + 1
  | .well => 1000000000
  | .ty _ => 1000000000
  | .scr _ => 1000000000
  | .oth _ _ => 1000000000
def costL : List D → Nat
  | [] => 0
  | d :: ds => cost d + costL ds
end
mutual
def dep : D → Nat
  | .non => 0
  | .bl _ => 0
  | .int _ => 0
  | .str _ => 0
  | .tup xs => depL xs + 1
  | .lst xs => depL xs + 1
  | .well => 0
  | .ty _ => 0
  | .scr _ => 0
  | .oth _ _ => 0
def depL : List D → Nat
  | [] => 0
  | d :: ds => max (dep d) (depL ds)
end
mutual
theorem dep_eq : ∀ d : D, (toPy d).depth = dep d
  | .non => rfl
  | .bl _ => rfl
  | .int _ => rfl
  | .str _ => rfl
  | .tup xs => by show PyData.depthAll (toPyL xs) + 1 = depL xs + 1; rw [depL_eq xs]
  | .lst xs => by show PyData.depthAll (toPyL xs) + 1 = depL xs + 1; rw [depL_eq xs]
  | .well => rfl
  | .ty _ => rfl
  | .scr _ => rfl
  | .oth _ _ => rfl
theorem depL_eq : ∀ ds : List D, PyData.depthAll (toPyL ds) = depL ds
  | [] => rfl
  | d :: ds => by show max (toPy d).depth (PyData.depthAll (toPyL ds)) = max (dep d) (depL ds); rw [dep_eq d, depL_eq ds]
end
structure Nice (d : D) : Prop where
  good : good d = true
  lay : (toPy d).canLay0 = true
  short : (toPy d).intsShort 13 = true
  show_ : (toPy d).showable = true
  wt : (toPy d).weight + 1 ≤ 42 * cost d
structure NiceL (ds : List D) : Prop where
  good : goodL ds = true
  lay : PyData.canLayAll0 (toPyL ds) = true
  short : PyData.intsShortAll 13 (toPyL ds) = true
  show_ : PyData.showableAll (toPyL ds) = true
  wt : PyData.weightAll (toPyL ds) ≤ 42 * costL ds
theorem nice_int {i : Int} (h : cost (.int i) < 1000000000) : Nice (.int i) := by
  have h1 : i.natAbs < 1000000000000 := by
    by_cases z : i.natAbs < 1000000000000
    · exact z
    · simp [cost, z] at h
  have h2 : i.natAbs.log2 < 40 := by
    by_cases z : i.natAbs = 0
    · rw [z]; decide
    · exact (Nat.log2_lt z).mpr (Nat.lt_of_lt_of_le h1 (by decide))
  refine ⟨rfl, rfl, ?_, ?_, ?_⟩
  · have := int_text_length_le10 (a := i) (k := 12) (by decide) (by simpa using h1)
    have e : (PyData.int i).shown.length = (toString i).length := ofString_length _
    exact decide_eq_true (show (PyData.int i).shown.length ≤ 13 by rw [e]; exact this)
  · simp only [toPy, PyData.showable, decide_eq_true_eq]; omega
  · have e : cost (.int i) = 1 := by simp [cost, h1]
    rw [e]
    simp only [toPy, PyData.weight]
    split <;> omega
mutual
theorem nice_of : ∀ d : D, cost d < 1000000000 → Nice d
  | .non, _ => ⟨rfl, rfl, rfl, rfl, by decide⟩
  | .bl _, _ => ⟨rfl, rfl, rfl, rfl, by show 0 + 1 ≤ 42 * 1; decide⟩
  | .int _, h => nice_int h
  | .str x, h => by
    have h1 : PyData.strOk x = true := by
      cases z : PyData.strOk x with
      | true => rfl
      | false => simp [cost, z] at h
    have e : cost (.str x) = x.length + 1 := by simp [cost, h1]
    refine ⟨rfl, h1, rfl, rfl, ?_⟩
    rw [e]
    show x.cps.size + 1 ≤ 42 * (x.length + 1)
    have : x.length = x.cps.size := rfl
    omega
  | .tup xs, h => by
    have n := niceL_of xs (by have : cost (.tup xs) = costL xs + 1 := rfl; omega)
    refine ⟨n.good, n.lay, n.short, n.show_, ?_⟩
    have := n.wt
    have e : cost (.tup xs) = costL xs + 1 := rfl
    show PyData.weightAll (toPyL xs) + 1 ≤ _
    omega
  | .lst xs, h => by
    have n := niceL_of xs (by have : cost (.lst xs) = costL xs + 1 := rfl; omega)
    refine ⟨n.good, n.lay, n.short, n.show_, ?_⟩
    have := n.wt
    have e : cost (.lst xs) = costL xs + 1 := rfl
    show PyData.weightAll (toPyL xs) + 1 ≤ _
    omega
  | .well, h => by simp [cost] at h
  | .ty _, h => by simp [cost] at h
  | .scr _, h => by simp [cost] at h
  | .oth _ _, h => by simp [cost] at h
theorem niceL_of : ∀ ds : List D, costL ds < 1000000000 → NiceL ds
  | [], _ => ⟨rfl, rfl, rfl, rfl, by decide⟩
  | d :: ds, h => by
    have e : costL (d :: ds) = cost d + costL ds := rfl
    have n := nice_of d (by omega)
    have m := niceL_of ds (by omega)
    refine ⟨?_, ?_, ?_, ?_, ?_⟩
    · show (good d && goodL ds) = true; rw [n.good, m.good]; rfl
    · show ((toPy d).canLay0 && PyData.canLayAll0 (toPyL ds)) = true; rw [n.lay, m.lay]; rfl
    · show ((toPy d).intsShort 13 && PyData.intsShortAll 13 (toPyL ds)) = true; rw [n.short, m.short]; rfl
    · show ((toPy d).showable && PyData.showableAll (toPyL ds)) = true; rw [n.show_, m.show_]; rfl
    · have := n.wt
      have := m.wt
      show (toPy d).weight + 1 + PyData.weightAll (toPyL ds) ≤ _
      omega
end
/-- what may be compared, what may be shown -/
def tame (d : D) : Prop := cost d ≤ 20000 ∧ dep d ≤ 60
theorem tame.nice {d : D} (t : tame d) : Nice d := nice_of d (by have := t.1; omega)
theorem tame.shaped {d : D} (t : tame d) : SeqAt.shaped (toPy d) = true := by
  unfold SeqAt.shaped
  rw [t.nice.lay, dep_eq]
  have := t.2
  simp; omega
theorem tame.layable {d : D} (t : tame d) : PyData.layable0 (toPy d) = true := by
  unfold PyData.layable0
  rw [t.nice.lay, dep_eq]
  have := t.2
  have := t.nice.wt
  have := t.1
  have e : (2 : Nat) ^ 20 = 1048576 := by decide
  simp; omega
def eqvD (a b : D) : Bool := PyData.eqv (toPy a) (toPy b)
/-- numbers, strings: of any size -/
def okEq (a b : D) : Prop := (∃ i j, a = .int i ∧ b = .int j) ∨ (∃ i j, a = .str i ∧ b = .str j) ∨ tame a ∧ tame b
theorem okEq.i {i j : Int} : okEq (.int i) (.int j) := .inl ⟨i, j, rfl, rfl⟩
theorem okEq.s {i j : Str} : okEq (.str i) (.str j) := .inr (.inl ⟨i, j, rfl, rfl⟩)
theorem okEq.t {a b : D} (h1 : tame a) (h2 : tame b) : okEq a b := .inr (.inr ⟨h1, h2⟩)
def eqG : PG2 := fun a b q => okEq a b ∧ q (.bl (eqvD a b))
def neG : PG2 := fun a b q => okEq a b ∧ q (.bl (!eqvD a b))
def rEqS (K : PySem.W.Frag) : R2 := fun x y H Q => rEq x y H Q ∨ rEqD K x y H Q
def rNeS (K : PySem.W.Frag) : R2 := fun x y H Q => rNe x y H Q ∨ rNeD K x y H Q
theorem op_eqS (hu : X.A.units + 64 < cLine) : OpR X (compareOp .Eq) (rEqS X.K) := op_eq.or (op_eqD hu)
theorem op_neS (hu : X.A.units + 64 < cLine) : OpR X (compareOp .NotEq) (rNeS X.K) := op_ne.or (op_neD hu)
theorem eqv_int {a b : Int} : eqvD (.int a) (.int b) = decide (a = b) := by simp [eqvD, toPy, PyData.eqv, Bool.beq_eq_decide_eq]
theorem eqv_str {a b : Str} : eqvD (.str a) (.str b) = decide (a = b) := by simp [eqvD, toPy, PyData.eqv, Bool.beq_eq_decide_eq]
theorem dec_int {a b : Int} : decide (V.int a = V.int b) = decide (a = b) := by
  by_cases h : a = b
  · subst h; simp
  · rw [decide_eq_false h, decide_eq_false fun e => h (V.int.inj e)]
theorem dec_str {a b : Str} : decide (V.str a = V.str b) = decide (a = b) := by
  by_cases h : a = b
  · subst h; simp
  · rw [decide_eq_false h, decide_eq_false fun e => h (V.str.inj e)]
theorem eq_ok : Cmp2 K (rEqS K) eqG := by
  intro wl H d1 d2 v1 v2 q Q hk r1 r2 ⟨h, g⟩ hq
  rcases h with ⟨i, j, rfl, rfl⟩ | ⟨i, j, rfl, rfl⟩ | ⟨h1, h2⟩
  · cases r1; cases r2
    refine .inl ⟨rfl, ?_⟩
    rw [dec_int, ← eqv_int]
    exact hq (.bl _) _ H (.refl hk) rfl g
  · cases r1; cases r2
    refine .inl ⟨rfl, ?_⟩
    rw [dec_str, ← eqv_str]
    exact hq (.bl _) _ H (.refl hk) rfl g
  · exact .inr ⟨_, _, Rp.dp d1 v1 h1.nice.good r1, Rp.dp d2 v2 h2.nice.good r2, h1.shaped, h2.shaped, hq (.bl (eqvD d1 d2)) _ H (.refl hk) rfl g⟩
theorem ne_ok : Cmp2 K (rNeS K) neG := by
  intro wl H d1 d2 v1 v2 q Q hk r1 r2 ⟨h, g⟩ hq
  rcases h with ⟨i, j, rfl, rfl⟩ | ⟨i, j, rfl, rfl⟩ | ⟨h1, h2⟩
  · cases r1; cases r2
    refine .inl ⟨rfl, ?_⟩
    rw [dec_int, ← eqv_int]
    exact hq (.bl _) _ H (.refl hk) rfl g
  · cases r1; cases r2
    refine .inl ⟨rfl, ?_⟩
    rw [dec_str, ← eqv_str]
    exact hq (.bl _) _ H (.refl hk) rfl g
  · exact .inr ⟨_, _, Rp.dp d1 v1 h1.nice.good r1, Rp.dp d2 v2 h2.nice.good r2, h1.shaped, h2.shaped, hq (.bl (!eqvD d1 d2)) _ H (.refl hk) rfl g⟩

/-! ### in -/
def flat : D → Bool
  | .non => true
  | .bl _ => true
  | .int _ => true
  | .str _ => true
  | _ => false
def feq : D → D → Bool
  | .non, .non => true
  | .bl a, .bl b => a == b
  | .bl a, .int b => (if a then 1 else 0) == b
  | .int a, .bl b => a == (if b then 1 else 0)
  | .int a, .int b => a == b
  | .str a, .str b => a == b
  | _, _ => false
theorem flat_V {wl : Wd} {H : Hp} : ∀ {d : D} {v : V}, flat d = true → Rp K wl H d v → flatV v = true
  | .non, _, _, r => by cases r; rfl
  | .bl _, _, _, r => by cases r; rfl
  | .int _, _, _, r => by cases r; rfl
  | .str _, _, _, r => by cases r; rfl
  | .tup _, _, g, _ => absurd g (by simp [flat])
  | .lst _, _, g, _ => absurd g (by simp [flat])
  | .well, _, g, _ => absurd g (by simp [flat])
  | .ty _, _, g, _ => absurd g (by simp [flat])
  | .scr _, _, g, _ => absurd g (by simp [flat])
  | .oth _ _, _, g, _ => absurd g (by simp [flat])
theorem feq_V {wl : Wd} {H : Hp} {d e : D} {v u : V} (g : flat d = true) (g' : flat e = true) (r : Rp K wl H d v) (r' : Rp K wl H e u) : eqV v u = feq d e := by
  cases d <;> cases e <;> first | (simp [flat] at g; done) | (simp [flat] at g'; done) | (cases r; cases r'; rfl)
theorem flat_all {wl : Wd} {H : Hp} : ∀ {ds : List D} {vs : List V}, ds.all flat = true → RpL K wl H ds vs → vs.all flatV = true
  | [], _, _, r => by cases r; rfl
  | d :: ds, _, g, ⟨v, r, e, p, q⟩ => by
    subst e
    rw [List.all_cons, Bool.and_eq_true] at g ⊢
    exact ⟨flat_V g.1 p, flat_all g.2 q⟩
theorem inV_eq {wl : Wd} {H : Hp} {d : D} {v : V} (g : flat d = true) (r : Rp K wl H d v) : ∀ {ds : List D} {vs : List V}, ds.all flat = true → RpL K wl H ds vs → inV v vs = ds.any fun y => feq y d
  | [], _, _, q => by cases q; rfl
  | c :: ds, _, f, ⟨u, t, e, p, q⟩ => by
    subst e
    rw [List.all_cons, Bool.and_eq_true] at f
    have ih := inV_eq g r f.2 q
    unfold inV at ih ⊢
    rw [List.any_cons, List.any_cons, ih, feq_V f.1 g p r]
def inG (neg : Bool) : PG2
  | .str a, .str b, q => ∃ c : Nat, a = ⟨#[c]⟩ ∧ q (.bl (if neg then !decide (c ∈ b.cps.toList) else decide (c ∈ b.cps.toList)))
  | d, .tup xs, q => flat d = true ∧ xs.all flat = true ∧ q (.bl (if neg then !(xs.any fun y => feq y d) else xs.any fun y => feq y d))
  | d, .lst xs, q => flat d = true ∧ xs.all flat = true ∧ q (.bl (if neg then !(xs.any fun y => feq y d) else xs.any fun y => feq y d))
  | _, _, _ => False
def rInA (K : PySem.W.Frag) : R2 := fun x y H Q => (fun (x y : V) H (Q : VK) => ∃ (c : Nat) (z : Str), x = .str ⟨#[c]⟩ ∧ y = .str z ∧ Q (.bl (decide (c ∈ z.cps.toList))) H) x y H Q ∨ rIn K false x y H Q
def rNiA (K : PySem.W.Frag) : R2 := fun x y H Q => (fun (x y : V) H (Q : VK) => ∃ (c : Nat) (z : Str), x = .str ⟨#[c]⟩ ∧ y = .str z ∧ Q (.bl (!decide (c ∈ z.cps.toList))) H) x y H Q ∨ rIn K true x y H Q
theorem op_inA : OpR X (compareOp .In) (rInA X.K) := op_in_sign.or op_in_seq
theorem op_niA : OpR X (compareOp .NotIn) (rNiA X.K) := op_notIn_sign.or op_notIn_seq
theorem in_seq {neg : Bool} {wl : Wd} {H : Hp} {d : D} {xs : List D} {v1 v2 : V} {q : D → Prop} {Q : VK} (hk : Wk wl H) (r1 : Rp K wl H d v1) (r2 : Rp K wl H (.tup xs) v2 ∨ Rp K wl H (.lst xs) v2) (f1 : flat d = true) (f2 : xs.all flat = true)
    (g : q (.bl (if neg then !(xs.any fun y => feq y d) else xs.any fun y => feq y d))) (hq : ∀ d v H', Ext wl H H' → Rp K wl H' d v → q d → Q v H') : rIn K neg v1 v2 H Q := by
  rcases r2 with ⟨a, vs, rfl, s, r⟩ | ⟨a, vs, rfl, n, s, r⟩
  · refine ⟨a, vs, rfl, .inr s, flat_V f1 r1, flat_all f2 r, ?_⟩
    rw [inV_eq f1 r1 f2 r]
    exact hq (.bl _) _ H (.refl hk) rfl g
  · refine ⟨a, vs, rfl, .inl (SqL.of s), flat_V f1 r1, flat_all f2 r, ?_⟩
    rw [inV_eq f1 r1 f2 r]
    exact hq (.bl _) _ H (.refl hk) rfl g
theorem in_ok : Cmp2 K (rInA K) (inG false) := by
  intro wl H d1 d2 v1 v2 q Q hk r1 r2 g hq
  cases d2 <;> (try (cases d1 <;> exact g.elim))
  case str b =>
    cases d1 <;> try exact g.elim
    case str a =>
      obtain ⟨c, rfl, g⟩ := g
      cases r1; cases r2
      exact .inl ⟨c, b, rfl, rfl, hq (.bl _) _ H (.refl hk) rfl g⟩
  case tup xs => cases d1 <;> exact .inr (in_seq hk r1 (.inl r2) g.1 g.2.1 g.2.2 hq)
  case lst xs => cases d1 <;> exact .inr (in_seq hk r1 (.inr r2) g.1 g.2.1 g.2.2 hq)
theorem ni_ok : Cmp2 K (rNiA K) (inG true) := by
  intro wl H d1 d2 v1 v2 q Q hk r1 r2 g hq
  cases d2 <;> (try (cases d1 <;> exact g.elim))
  case str b =>
    cases d1 <;> try exact g.elim
    case str a =>
      obtain ⟨c, rfl, g⟩ := g
      cases r1; cases r2
      exact .inl ⟨c, b, rfl, rfl, hq (.bl _) _ H (.refl hk) rfl g⟩
  case tup xs => cases d1 <;> exact .inr (in_seq hk r1 (.inl r2) g.1 g.2.1 g.2.2 hq)
  case lst xs => cases d1 <;> exact .inr (in_seq hk r1 (.inr r2) g.1 g.2.1 g.2.2 hq)

/-! ### is -/
def isNon : D → Bool
  | .non => true
  | _ => false
theorem isNon_V {wl : Wd} {H : Hp} : ∀ {d : D} {v : V}, Rp K wl H d v → decide (v = V.non) = isNon d
  | .non, _, r => by cases r; rfl
  | .bl _, _, r => by cases r; rfl
  | .int _, _, r => by cases r; rfl
  | .str _, _, r => by cases r; rfl
  | .tup _, _, ⟨a, vs, e, _⟩ => by subst e; rfl
  | .lst _, _, ⟨a, vs, e, _⟩ => by subst e; rfl
  | .well, _, ⟨a, _, e⟩ => by subst e; rfl
  | .ty _, _, r => by cases r; rfl
  | .scr _, _, ⟨a, e, _⟩ => by subst e; rfl
  | .oth _ _, _, ⟨a, _, _, e, _⟩ => by subst e; rfl
def isG (neg : Bool) : PG2
  | d, .non, q => q (.bl (if neg then !isNon d else isNon d))
  | .bl a, .bl b, q => q (.bl (if neg then !decide (a = b) else decide (a = b)))
  | _, _, _ => False
def rIsA : R2 := fun x y H Q => (fun (x y : V) H (Q : VK) => y = .non ∧ Q (.bl (decide (x = .non))) H) x y H Q ∨ rIsB x y H Q
def rIsNA : R2 := fun x y H Q => (fun (x y : V) H (Q : VK) => y = .non ∧ Q (.bl (!decide (x = .non))) H) x y H Q ∨ rNotB x y H Q
theorem op_isA : OpR X (compareOp .Is) rIsA := op_isN.or op_isBl
theorem op_isNA : OpR X (compareOp .IsNot) rIsNA := op_notN.or op_notBl
theorem is_ok : Cmp2 K rIsA (isG false) := by
  intro wl H d1 d2 v1 v2 q Q hk r1 r2 g hq
  cases d2 <;> (try (cases d1 <;> exact g.elim))
  case non =>
    cases r2
    refine .inl ⟨rfl, ?_⟩
    rw [isNon_V r1]
    refine hq (.bl (isNon d1)) _ H (.refl hk) rfl ?_
    cases d1 <;> exact g
  case bl b =>
    cases d1 <;> try exact g.elim
    case bl a => cases r1; cases r2; exact .inr ⟨a, b, rfl, rfl, hq (.bl _) _ H (.refl hk) rfl g⟩
theorem isN_ok : Cmp2 K rIsNA (isG true) := by
  intro wl H d1 d2 v1 v2 q Q hk r1 r2 g hq
  cases d2 <;> (try (cases d1 <;> exact g.elim))
  case non =>
    cases r2
    refine .inl ⟨rfl, ?_⟩
    rw [isNon_V r1]
    refine hq (.bl (!isNon d1)) _ H (.refl hk) rfl ?_
    cases d1 <;> exact g
  case bl b =>
    cases d1 <;> try exact g.elim
    case bl a => cases r1; cases r2; exact .inr ⟨a, b, rfl, rfl, hq (.bl _) _ H (.refl hk) rfl g⟩

/-! ### items, slices -/
theorem atI_rp {wl : Wd} {H : Hp} {ds : List D} {vs : List V} {i : Int} {d : D} (r : RpL K wl H ds vs) (h : atI ds i = some d) : ∃ v, atI vs i = some v ∧ Rp K wl H d v := by
  unfold atI at h ⊢
  rw [r.length]
  cases e : ixN ds.length i with
  | none => rw [e] at h; cases h
  | some j =>
    rw [e] at h
    exact r.get h
def ixG : PG2
  | .tup xs, .int i, q => ∃ d, atI xs i = some d ∧ q d
  | .lst xs, .int i, q => ∃ d, atI xs i = some d ∧ q d
  | .str z, .int i, q => z.length ≤ LIM ∧ ∃ c, atI z.cps.toList i = some c ∧ q (.str ⟨#[c]⟩)
  | .scr ns, .int i, q => ∃ n, atI ns i = some n ∧ q (.int n)
  | .well, .int i, q => (i = 0 ∧ ∀ n : Int, 0 ≤ n → q (.int n)) ∨ (i = 1 ∧ ∀ n : Int, 0 ≤ n → n < 2147483648 → q (.int n)) ∨ (i = 2 ∧ ∀ n : Int, q (.int n))
  | _, _, _ => False
theorem atI_map {α β : Type} {f : α → β} {xs : List α} {i : Int} {x : α} (h : atI xs i = some x) : atI (xs.map f) i = some (f x) := by
  unfold atI at h ⊢
  rw [List.length_map]
  cases e : ixN xs.length i with
  | none => rw [e] at h; cases h
  | some j =>
    rw [e] at h
    show (xs.map f)[j]? = some (f x)
    rw [List.getElem?_map, show xs[j]? = some x from h]
    rfl
theorem ix_ok : Cmp2 K (rIx K) ixG := by
  intro wl H d1 d2 v1 v2 q Q hk r1 r2 g hq
  cases d2 <;> (try (cases d1 <;> exact g.elim))
  case int i =>
    cases r2
    cases d1 <;> try exact g.elim
    case tup xs =>
      obtain ⟨a, vs, rfl, s, r⟩ := r1
      obtain ⟨d, e, g⟩ := g
      obtain ⟨v, e1, rv⟩ := atI_rp r e
      exact .inr (.inl ⟨a, vs, i, v, rfl, rfl, s, e1, hq d v H (.refl hk) rv g⟩)
    case lst xs =>
      obtain ⟨a, vs, rfl, n, s, r⟩ := r1
      obtain ⟨d, e, g⟩ := g
      obtain ⟨v, e1, rv⟩ := atI_rp r e
      exact .inl ⟨a, vs, i, v, rfl, rfl, SqL.of s, e1, hq d v H (.refl hk) rv g⟩
    case str z =>
      cases r1
      obtain ⟨hl, c, e, g⟩ := g
      exact .inr (.inr ⟨z, i, c, rfl, rfl, lim_line hl, e, hq (.str ⟨#[c]⟩) _ H (.refl hk) rfl g⟩)
    case scr ns =>
      obtain ⟨a, rfl, s⟩ := r1
      obtain ⟨n, e, g⟩ := g
      exact .inl ⟨a, _, i, .int n, rfl, rfl, s.sq, atI_map e, hq (.int n) _ H (.refl hk) rfl g⟩
    case well =>
      obtain ⟨a, hw, rfl⟩ := r1
      obtain ⟨n0, n1, n2, e, h0, h1, h2⟩ := hk.well a hw
      rcases g with ⟨rfl, g⟩ | ⟨rfl, g⟩ | ⟨rfl, g⟩
      · exact .inl ⟨a, _, 0, .int n0, rfl, rfl, SqL.of e, rfl, hq (.int n0) _ H (.refl hk) rfl (g n0 h0)⟩
      · exact .inl ⟨a, _, 1, .int n1, rfl, rfl, SqL.of e, rfl, hq (.int n1) _ H (.refl hk) rfl (g n1 h1 h2)⟩
      · exact .inl ⟨a, _, 2, .int n2, rfl, rfl, SqL.of e, rfl, hq (.int n2) _ H (.refl hk) rfl (g n2)⟩
def cutD (xs : List D) (lo hi : Option Int) : List D := (xs.drop (HT.sIx xs.length 0 lo)).take (HT.sIx xs.length xs.length hi - HT.sIx xs.length 0 lo)
theorem cut_rp {wl : Wd} {H : Hp} {ds : List D} {vs : List V} (r : RpL K wl H ds vs) (lo hi : Option Int) : RpL K wl H (cutD ds lo hi) (cutV vs lo hi) := by
  unfold cutD cutV
  rw [r.length]
  exact (r.drop _).take _
theorem cut_whole {ds : List D} {lo hi : Option Int} (h : HT.sIx ds.length 0 lo = 0 ∧ HT.sIx ds.length ds.length hi = ds.length) : cutD ds lo hi = ds := by
  unfold cutD
  rw [h.1, h.2]
  simp
def slG : D → Option Int → Option Int → (D → Prop) → Prop
  | .tup xs, lo, hi, q => q (.tup (cutD xs lo hi))
  | .lst xs, lo, hi, q => q (.lst (cutD xs lo hi))
  | .str z, lo, hi, q => z.length ≤ LIM ∧ q (.str (cutS z lo hi))
  | .scr ns, lo, hi, q => q (.lst (cutD (ns.map D.int) lo hi))
  | _, _, _, _ => False
theorem rp_of_ints {wl : Wd} {H : Hp} : ∀ ns : List Int, RpL K wl H (ns.map D.int) (ns.map V.int)
  | [] => rfl
  | n :: ns => ⟨.int n, _, rfl, rfl, rp_of_ints ns⟩
def rSlAll (K : PySem.W.Frag) : V → Option Int → Option Int → Hp → VK → Prop := fun x lo hi H Q => rSlA K x lo hi H Q ∨ rSlL K x lo hi H Q ∨ rSlS x lo hi H Q
theorem sl_all : SlR X (rSlAll X.K) := sl_tupA.or (sl_list.or sl_str)
theorem sl_ok {wl : Wd} {H : Hp} {d : D} {v : V} {lo hi : Option Int} {q : D → Prop} {Q : VK} (hk : Wk wl H) (r : Rp K wl H d v) (g : slG d lo hi q) (hq : ∀ d v H', Ext wl H H' → Rp K wl H' d v → q d → Q v H') : rSlAll K v lo hi H Q := by
  cases d <;> try exact g.elim
  case tup xs =>
    obtain ⟨a, vs, rfl, s, r⟩ := r
    refine .inl ⟨a, vs, rfl, s, fun h => ?_, fun _ p hp => ?_⟩
    · have g' : q (.tup (cutD xs lo hi)) := g
      rw [cut_whole (by rw [← r.length]; exact h)] at g'
      exact hq (.tup xs) _ H (.refl hk) ⟨a, vs, rfl, s, r⟩ g'
    · have e := Ext.new (o := .tup (cutV vs lo hi)) hk hp
      exact hq (.tup _) _ _ e ⟨p, _, rfl, SqT.of upd_same, cut_rp (RpL.ext hk e _ _ r) lo hi⟩ g
  case lst xs =>
    obtain ⟨a, vs, rfl, n, s, r⟩ := r
    refine .inr (.inl ⟨a, vs, rfl, SqL.of s, fun p hp => ?_⟩)
    have e := Ext.new (o := .lst (cutV vs lo hi)) hk hp
    refine hq (.lst _) _ _ e ⟨p, _, rfl, hk.new hp, upd_same, cut_rp (RpL.ext hk e _ _ r) lo hi⟩ g
  case str z =>
    cases r
    exact .inr (.inr ⟨z, rfl, lim_line g.1, hq (.str _) _ H (.refl hk) rfl g.2⟩)
  case scr ns =>
    obtain ⟨a, rfl, s⟩ := r
    refine .inr (.inl ⟨a, _, rfl, s.sq, fun p hp => ?_⟩)
    have e := Ext.new (o := .lst (cutV (ns.map V.int) lo hi)) hk hp
    exact hq (.lst _) _ _ e ⟨p, _, rfl, hk.new hp, upd_same, cut_rp (rp_of_ints ns) lo hi⟩ g
/-- a part of a slice -/
abbrev PO' := Ev → (Option Int → Prop) → (Xn → Prop) → Prop
def eO (X : Cx) (W : WY) (f : PO') : TO := fun σ H Q => ∃ (wl : Wd) (ρ : Ev) (q : Option Int → Prop) (x : Xn → Prop), Wk wl H ∧ EvR X.K wl H ρ σ ∧ f ρ q x ∧ (∀ o H', Ext wl H H' → q o → Q o H') ∧ Out X W wl H σ x
def fNo : PO' := fun _ q _ => q none
def fPart (f : PX) : PO' := fun ρ q x => f ρ (fun d => ∃ i, d = .int i ∧ q (some i)) x
variable {W : WY}
theorem dp_none : PO X none (eO X W fNo) := ⟨fun pins s σ H Q I ⟨wl, ρ, q, x, hk, he, hf, hq, hx⟩ => po_none.run pins s σ H Q I (hq none H (.refl hk) hf)⟩
theorem dp_some {e : Expr} {f : PX} (h : PE X e (eE X W f)) : PO X (some e) (eO X W (fPart f)) := ⟨fun pins s σ H Q I ⟨wl, ρ, q, x, hk, he, hf, hq, hx⟩ =>
  (po_some h).run pins s σ H Q I ⟨wl, ρ, _, x, hk, he, hf, fun d v H' e' r' ⟨i, ed, h'⟩ => by
    subst ed
    exact ⟨i, r', hq _ H' e' h'⟩, hx⟩⟩
def fSl (fe : PX) (fl fh : PO') : PX := fun ρ q x => fe ρ (fun d => fl ρ (fun l => fh ρ (fun h => slG d l h q) x) x) x
theorem d_slice {e : Expr} {lo hi : Option Expr} {p2 pos : Pos} {fe : PX} {fl fh : PO'} (he : PE X e (eE X W fe)) (hl : PO X lo (eO X W fl)) (hh : PO X hi (eO X W fh)) : PE X (.Subscript e (.Slice lo hi none p2) pos) (eE X W (fSl fe fl fh)) := by
  refine PE.weak (pe_slice sl_all he hl hh) fun σ H Q ⟨wl, ρ, q, x, hk, hr, hf, hq, hx⟩ => ?_
  refine ⟨wl, ρ, _, x, hk, hr, hf, fun d v H1 e1 r1 h1 => ⟨wl, ρ, _, x, e1.wk, hr.ext hk e1, h1, fun l H2 e2 h2 => ⟨wl, ρ, _, x, e2.wk, hr.ext hk (e1.trans e2), h2, fun h H3 e3 h3 => ?_, hx.ext (e1.trans e2)⟩, hx.ext e1⟩, hx⟩
  exact sl_ok e3.wk (Rp.ext e1.wk (e2.trans e3) _ _ r1) h3 fun d v H4 e4 r4 => hq d v H4 ((e1.trans e2).trans e3 |>.trans e4) r4

/-! ### argument lists, displays -/
def fNil : PAx := fun _ q _ => q []
def fCons (fa : PX) (fr : PAx) : PAx := fun ρ q x => fa ρ (fun d => fr ρ (fun ds => q (d :: ds)) x) x
def fStar (fa : PX) (fr : PAx) : PAx := fun ρ q x => fa ρ (fun d => ∃ xs, (d = .tup xs ∨ d = .lst xs) ∧ fr ρ (fun ds => q (xs ++ ds)) x) x
theorem da_nil : PA X [] (eA X W fNil) := PA.weak pa_nil fun σ H Q ⟨wl, ρ, q, x, hk, he, hf, hq, hx⟩ => hq [] [] H (.refl hk) rfl hf
theorem da_cons {e : Expr} {es : List Expr} {fa : PX} {fr : PAx} (ha : PE X e (eE X W fa)) (hr : PA X es (eA X W fr)) (hs : starEach (e :: es) X.env = (false, eval e X.env) :: starEach es X.env := by rfl) : PA X (e :: es) (eA X W (fCons fa fr)) := by
  refine PA.weak (pa_cons ha hr hs) fun σ H Q ⟨wl, ρ, q, x, hk, he, hf, hq, hx⟩ => ?_
  refine ⟨wl, ρ, _, x, hk, he, hf, fun d v H1 e1 r1 h1 => ⟨wl, ρ, _, x, e1.wk, he.ext hk e1, h1, fun ds vs H2 e2 r2 h2 => ?_, hx.ext e1⟩, hx⟩
  exact hq (d :: ds) _ H2 (e1.trans e2) ⟨v, vs, rfl, Rp.ext e1.wk e2 _ _ r1, r2⟩ h2
theorem da_star {e : Expr} {es : List Expr} {p : Pos} {fa : PX} {fr : PAx} (ha : PE X e (eE X W fa)) (hr : PA X es (eA X W fr)) (hs : starEach (.Starred e p :: es) X.env = (true, eval e X.env) :: starEach es X.env := by rfl) : PA X (.Starred e p :: es) (eA X W (fStar fa fr)) := by
  refine PA.weak (StX.pa_star ha hr hs) fun σ H Q ⟨wl, ρ, q, x, hk, he, hf, hq, hx⟩ => ?_
  refine ⟨wl, ρ, _, x, hk, he, hf, fun d v H1 e1 r1 ⟨xs, hd, h1⟩ => ?_, hx⟩
  have go : ∀ {vs : List V}, RpL X.K wl H1 xs vs → (eA X W fr) σ H1 (fun ys H2 => Q (vs ++ ys) H2) := fun {vs} rv =>
    ⟨wl, ρ, _, x, e1.wk, he.ext hk e1, h1, fun ds us H2 e2 r2 h2 => hq _ _ H2 (e1.trans e2) ((RpL.ext e1.wk e2 _ _ rv).append r2) h2, hx.ext e1⟩
  rcases hd with rfl | rfl
  · obtain ⟨a, vs, rfl, s, rv⟩ := r1
    exact ⟨a, vs, rfl, .inl s, go rv⟩
  · obtain ⟨a, vs, rfl, n, s, rv⟩ := r1
    exact ⟨a, vs, rfl, .inr (SqL.of s), go rv⟩
def fTup (fa : PAx) : PX := fun ρ q x => fa ρ (fun ds => ds.length ≤ LIM ∧ q (.tup ds)) x
def fLst (fa : PAx) : PX := fun ρ q x => fa ρ (fun ds => ds.length ≤ LIM ∧ q (.lst ds)) x
theorem new_lst {wl : Wd} {H : Hp} {p : Addr} {ds : List D} {vs : List V} (hk : Wk wl H) (hp : H p = none) (r : RpL K wl H ds vs) : Ext wl H (upd H p (.lst vs)) ∧ Rp K wl (upd H p (.lst vs)) (.lst ds) (.ref p) := by
  have e := Ext.new (o := .lst vs) hk hp
  exact ⟨e, p, vs, rfl, hk.new hp, upd_same, RpL.ext hk e _ _ r⟩
theorem new_tup {wl : Wd} {H : Hp} {p : Addr} {ds : List D} {vs : List V} (hk : Wk wl H) (hp : H p = none) (r : RpL K wl H ds vs) : Ext wl H (upd H p (.tup vs)) ∧ Rp K wl (upd H p (.tup vs)) (.tup ds) (.ref p) :=
  have e := Ext.new (o := .tup vs) hk hp
  ⟨e, p, vs, rfl, SqT.of upd_same, RpL.ext hk e _ _ r⟩
theorem d_tup {es : List Expr} {k : Nat} {pos : Pos} {fa : PAx} (ha : PA X es (eA X W fa)) : PE X (.Tuple es k pos) (eE X W (fTup fa)) := by
  refine PE.weak (pe_tup ha) fun σ H Q ⟨wl, ρ, q, x, hk, he, hf, hq, hx⟩ => ?_
  refine ⟨wl, ρ, _, x, hk, he, hf, fun ds vs H1 e1 r1 ⟨hl, h1⟩ => ⟨lim_line (by rw [r1.length]; exact hl), fun p hp => ?_⟩, hx⟩
  obtain ⟨e, r⟩ := new_tup e1.wk hp r1
  exact hq _ _ _ (e1.trans e) r h1
theorem d_lst {es : List Expr} {pos : Pos} {fa : PAx} (ha : PA X es (eA X W fa)) : PE X (.List es pos) (eE X W (fLst fa)) := by
  refine PE.weak (pe_lst ha) fun σ H Q ⟨wl, ρ, q, x, hk, he, hf, hq, hx⟩ => ?_
  refine ⟨wl, ρ, _, x, hk, he, hf, fun ds vs H1 e1 r1 ⟨hl, h1⟩ => ⟨lim_line (by rw [r1.length]; exact hl), fun p hp => ?_⟩, hx⟩
  obtain ⟨e, r⟩ := new_lst e1.wk hp r1
  exact hq _ _ _ (e1.trans e) r h1
end
end PL

namespace PL
open PySem PySem.Spec L2

section
variable {X : Cx} {K : PySem.W.Frag} {W : WY}
/-! # built-in functions -/
abbrev PGc := List D → (D → Prop) → Prop
def CmpC (K : PySem.W.Frag) (r : List V → Hp → VK → Prop) (g : PGc) : Prop := ∀ wl H ds vs q Q, Wk wl H → RpL K wl H ds vs → g ds q → (∀ d v H', Ext wl H H' → Rp K wl H' d v → q d → Q v H') → r vs H Q
def fCB (g : PGc) (fa : PAx) : PX := fun ρ q x => fa ρ (fun ds => g ds q) x
theorem cb_weak {r : List V → Hp → VK → Prop} {g : PGc} (c : CmpC X.K r g) {fa : PAx} {σ : St} {H : Hp} {Q : VK} (h : eE X W (fCB g fa) σ H Q) : tCB r (eA X W fa) σ H Q := by
  obtain ⟨wl, ρ, q, x, hk, he, hf, hq, hx⟩ := h
  exact ⟨wl, ρ, _, x, hk, he, hf, fun ds vs H1 e1 r1 h1 => c wl H1 ds vs q Q e1.wk r1 h1 fun d v H' e2 r2 => hq d v H' (e1.trans e2) r2, hx⟩
theorem d_callB {id : String} {r : List V → Hp → VK → Prop} {g : PGc} {x : Str} {e : Expr} {es : List Expr} {fa : PAx} {p pos : Pos} (hc : CallR X (.builtin id) r) (k : CmpC X.K r g) (hg : Gl X x) (hm : X.mg x = none) (hv : bootBuiltins x = some (.builtin id)) (ha : PA X (e :: es) (eA X W fa)) (hn : x ≠ "__name__" := by decide)
    (hdb : (x == ("__debug__" : Str)) = false := by decide) (he : starEach (e :: es) X.env = (false, eval e X.env) :: starEach es X.env := by rfl) (hpl : (backTo pos (starEach es X.env)).any (·.1) = false := by rfl) : PE X (.Call (.Name x p) (e :: es) [] pos) (eE X W (fCB g fa)) :=
  PE.weak (pe_callB hc hg hm hv ha hn hdb he hpl) fun _ _ _ h => cb_weak k h
theorem d_callT {T : String} {r : List V → Hp → VK → Prop} {g : PGc} {x : Str} {e : Expr} {es : List Expr} {fa : PAx} {p pos : Pos} (hc : CallR X (.type T) r) (k : CmpC X.K r g) (hg : Gl X x) (hm : X.mg x = none) (hv : bootBuiltins x = some (.type T)) (ha : PA X (e :: es) (eA X W fa)) (hn : x ≠ "__name__" := by decide)
    (hdb : (x == ("__debug__" : Str)) = false := by decide) (he : starEach (e :: es) X.env = (false, eval e X.env) :: starEach es X.env := by rfl) (hpl : (backTo pos (starEach es X.env)).any (·.1) = false := by rfl) : PE X (.Call (.Name x p) (e :: es) [] pos) (eE X W (fCB g fa)) :=
  PE.weak (pe_callTy hc hg hm hv ha hn hdb he hpl) fun _ _ _ h => cb_weak k h

/-! ### len, tuple, list -/
def lenG : PGc
  | [.tup xs], q => q (.int xs.length)
  | [.lst xs], q => q (.int xs.length)
  | [.str z], q => z.length ≤ LIM ∧ q (.int z.length)
  | [.scr ns], q => q (.int ns.length)
  | _, _ => False
def rLenA (K : PySem.W.Frag) : List V → Hp → VK → Prop := fun vs H Q => (fun (xs : List V) H (Q : VK) => ∃ p ys, xs = [.ref p] ∧ (SqL K H p ys ∨ SqT K H p ys) ∧ Q (.int ys.length) H) vs H Q ∨ (fun (xs : List V) H (Q : VK) => ∃ z, xs = [.str z] ∧ z.length ≤ sizeLine ∧ Q (.int z.length) H) vs H Q
theorem c_len : CallR X (.builtin "len") (rLenA X.K) := call_len_seq.or call_len_str
theorem len_ok : CmpC K (rLenA K) lenG := by
  intro wl H ds vs q Q hk r g hq
  rcases ds with _ | ⟨d, _ | ⟨d2, ds⟩⟩
  · exact g.elim
  · obtain ⟨v, t, rfl, r, r'⟩ := r
    cases r'
    cases d <;> try exact g.elim
    case str z => cases r; exact .inr ⟨z, rfl, lim_line g.1, hq (.int z.length) _ H (.refl hk) rfl g.2⟩
    case tup xs =>
      obtain ⟨a, us, rfl, s, r⟩ := r
      refine .inl ⟨a, us, rfl, .inr s, ?_⟩
      rw [r.length]
      exact hq (.int xs.length) _ H (.refl hk) rfl g
    case lst xs =>
      obtain ⟨a, us, rfl, n, s, r⟩ := r
      refine .inl ⟨a, us, rfl, .inl (SqL.of s), ?_⟩
      rw [r.length]
      exact hq (.int xs.length) _ H (.refl hk) rfl g
    case scr ns =>
      obtain ⟨a, rfl, s⟩ := r
      refine .inl ⟨a, _, rfl, .inl s.sq, ?_⟩
      rw [List.length_map]
      exact hq (.int ns.length) _ H (.refl hk) rfl g
  · cases d <;> exact g.elim
def tupleG : PGc
  | [.tup xs], q => q (.tup xs)
  | [.lst xs], q => q (.tup xs)
  | _, _ => False
def listG : PGc
  | [.tup xs], q => q (.lst xs)
  | [.lst xs], q => q (.lst xs)
  | _, _ => False
theorem tuple_ok : CmpC K (fun xs H Q => ∃ p ys, xs = [.ref p] ∧ ((SqL K H p ys ∧ ∀ l, H l = none → Q (.ref l) (upd H l (.tup ys))) ∨ (SqT K H p ys ∧ Q (.ref p) H))) tupleG := by
  intro wl H ds vs q Q hk r g hq
  rcases ds with _ | ⟨d, _ | ⟨d2, ds⟩⟩
  · exact g.elim
  · obtain ⟨v, t, rfl, r, r'⟩ := r
    cases r'
    cases d <;> try exact g.elim
    case tup xs =>
      obtain ⟨a, us, rfl, s, r⟩ := r
      exact ⟨a, us, rfl, .inr ⟨s, hq (.tup xs) _ H (.refl hk) ⟨a, us, rfl, s, r⟩ g⟩⟩
    case lst xs =>
      obtain ⟨a, us, rfl, n, s, r⟩ := r
      refine ⟨a, us, rfl, .inl ⟨SqL.of s, fun l hl => ?_⟩⟩
      obtain ⟨e, r2⟩ := new_tup hk hl r
      exact hq _ _ _ e r2 g
  · cases d <;> exact g.elim
theorem list_ok : CmpC K (fun xs H Q => ∃ p ys, xs = [.ref p] ∧ (SqL K H p ys ∨ SqT K H p ys) ∧ ∀ l, H l = none → Q (.ref l) (upd H l (.lst ys))) listG := by
  intro wl H ds vs q Q hk r g hq
  rcases ds with _ | ⟨d, _ | ⟨d2, ds⟩⟩
  · exact g.elim
  · obtain ⟨v, t, rfl, r, r'⟩ := r
    cases r'
    cases d <;> try exact g.elim
    case tup xs =>
      obtain ⟨a, us, rfl, s, r⟩ := r
      refine ⟨a, us, rfl, .inr s, fun l hl => ?_⟩
      obtain ⟨e, r2⟩ := new_lst hk hl r
      exact hq _ _ _ e r2 g
    case lst xs =>
      obtain ⟨a, us, rfl, n, s, r⟩ := r
      refine ⟨a, us, rfl, .inl (SqL.of s), fun l hl => ?_⟩
      obtain ⟨e, r2⟩ := new_lst hk hl r
      exact hq _ _ _ e r2 g
  · cases d <;> exact g.elim

/-! ### sum, all, any, min, max, abs, int -/
theorem rp_ints {wl : Wd} {H : Hp} : ∀ {ns : List Int} {vs : List V}, RpL K wl H (ns.map D.int) vs → vs = ns.map V.int
  | [], _, r => by cases r; rfl
  | n :: ns, _, ⟨v, t, e, r, q⟩ => by
    subst e
    cases r
    rw [rp_ints q]
    rfl
theorem rp_bls {wl : Wd} {H : Hp} : ∀ {ns : List Bool} {vs : List V}, RpL K wl H (ns.map D.bl) vs → vs = ns.map V.bl
  | [], _, r => by cases r; rfl
  | n :: ns, _, ⟨v, t, e, r, q⟩ => by
    subst e
    cases r
    rw [rp_bls q]
    rfl
def sumG : PGc
  | [.lst xs], q => ∃ ns : List Int, xs = ns.map D.int ∧ q (.int ns.sum)
  | _, _ => False
def allG : PGc
  | [.lst xs], q => ∃ bs : List Bool, xs = bs.map D.bl ∧ q (.bl (bs.all id))
  | _, _ => False
def anyG : PGc
  | [.lst xs], q => ∃ bs : List Bool, xs = bs.map D.bl ∧ q (.bl (bs.any id))
  | _, _ => False
theorem sum_ok : CmpC K (rSum K) sumG := by
  intro wl H ds vs q Q hk r g hq
  rcases ds with _ | ⟨d, _ | ⟨d2, ds⟩⟩
  · exact g.elim
  · obtain ⟨v, t, rfl, r, r'⟩ := r
    cases r'
    cases d <;> try exact g.elim
    case lst xs =>
      obtain ⟨a, us, rfl, n, s, r⟩ := r
      obtain ⟨ns, rfl, g⟩ := g
      have e := rp_ints r
      subst e
      exact ⟨a, ns, rfl, SqL.of s, hq (.int ns.sum) _ H (.refl hk) rfl g⟩
  · cases d <;> exact g.elim
theorem all_ok : CmpC K (rAll K) allG := by
  intro wl H ds vs q Q hk r g hq
  rcases ds with _ | ⟨d, _ | ⟨d2, ds⟩⟩
  · exact g.elim
  · obtain ⟨v, t, rfl, r, r'⟩ := r
    cases r'
    cases d <;> try exact g.elim
    case lst xs =>
      obtain ⟨a, us, rfl, n, s, r⟩ := r
      obtain ⟨ns, rfl, g⟩ := g
      have e := rp_bls r
      subst e
      exact ⟨a, ns, rfl, SqL.of s, hq (.bl (ns.all id)) _ H (.refl hk) rfl g⟩
  · cases d <;> exact g.elim
theorem any_ok : CmpC K (rAny K) anyG := by
  intro wl H ds vs q Q hk r g hq
  rcases ds with _ | ⟨d, _ | ⟨d2, ds⟩⟩
  · exact g.elim
  · obtain ⟨v, t, rfl, r, r'⟩ := r
    cases r'
    cases d <;> try exact g.elim
    case lst xs =>
      obtain ⟨a, us, rfl, n, s, r⟩ := r
      obtain ⟨ns, rfl, g⟩ := g
      have e := rp_bls r
      subst e
      exact ⟨a, ns, rfl, SqL.of s, hq (.bl (ns.any id)) _ H (.refl hk) rfl g⟩
  · cases d <;> exact g.elim
def int2G (f : Int → Int → Int) : PGc
  | [.int i, .int j], q => q (.int (f i j))
  | _, _ => False
theorem int2_ok {f : Int → Int → Int} : CmpC K (fun xs H Q => ∃ i j, xs = [.int i, .int j] ∧ Q (.int (f i j)) H) (int2G f) := by
  intro wl H ds vs q Q hk r g hq
  rcases ds with _ | ⟨d, _ | ⟨d2, _ | ⟨d3, ds⟩⟩⟩
  · exact g.elim
  · cases d <;> exact g.elim
  · obtain ⟨v, t, rfl, r, v2, t2, rfl, r2, r'⟩ := r
    cases r'
    cases d <;> cases d2 <;> try exact g.elim
    case int.int i j => cases r; cases r2; exact ⟨i, j, rfl, hq (.int (f i j)) _ H (.refl hk) rfl g⟩
  · cases d <;> cases d2 <;> exact g.elim
def minG : PGc := int2G fun i j => if j < i then j else i
def maxG : PGc := int2G fun i j => if j > i then j else i
def int1G (f : Int → Int) : PGc
  | [.int i], q => q (.int (f i))
  | _, _ => False
theorem int1_ok {f : Int → Int} : CmpC K (fun xs H Q => ∃ i, xs = [.int i] ∧ Q (.int (f i)) H) (int1G f) := by
  intro wl H ds vs q Q hk r g hq
  rcases ds with _ | ⟨d, _ | ⟨d2, ds⟩⟩
  · exact g.elim
  · obtain ⟨v, t, rfl, r, r'⟩ := r
    cases r'
    cases d <;> try exact g.elim
    case int i => cases r; exact ⟨i, rfl, hq (.int (f i)) _ H (.refl hk) rfl g⟩
  · cases d <;> exact g.elim
def absG : PGc := int1G fun i => if i < 0 then -i else i
def toIntG : PGc := int1G fun i => i
theorem toInt_ok : CmpC K (fun xs H Q => (∃ i, xs = [.int i] ∧ Q (.int i) H) ∨ ∃ k, xs = [.bl k] ∧ Q (.int (if k then 1 else 0)) H) toIntG := fun wl H ds vs q Q hk r g hq => .inl (int1_ok (f := fun i => i) wl H ds vs q Q hk r g hq)

/-- divmod, a positive divisor -/
def dmG : PGc
  | [.int i, .int j], q => CDiv i j ∧ q (.tup [.int (i / j), .int (i % j)])
  | _, _ => False
theorem dm_ok : CmpC K (fun xs H Q => ∃ i j, xs = [.int i, .int j] ∧ CDiv i j ∧ ∀ p, H p = none → Q (.ref p) (upd H p (.tup [.int (i / j), .int (i % j)]))) dmG := by
  intro wl H ds vs q Q hk r g hq
  rcases ds with _ | ⟨d, _ | ⟨d2, _ | ⟨d3, ds⟩⟩⟩
  · exact g.elim
  · cases d <;> exact g.elim
  · obtain ⟨v, t, rfl, r, v2, t2, rfl, r2, r'⟩ := r
    cases r'
    cases d <;> cases d2 <;> try exact g.elim
    case int.int i j =>
      cases r; cases r2
      refine ⟨i, j, rfl, g.1, fun p hp => ?_⟩
      obtain ⟨e, r3⟩ := new_tup (ds := [.int (i / j), .int (i % j)]) (vs := [.int (i / j), .int (i % j)]) hk hp ⟨_, _, rfl, rfl, _, _, rfl, rfl, rfl⟩
      exact hq _ _ _ e r3 g.2
  · cases d <;> cases d2 <;> exact g.elim
/-! ### isinstance -/
def tyOf : D → String
  | .non => "NoneType"
  | .bl _ => "bool"
  | .int _ => "int"
  | .str _ => "str"
  | .tup _ => "tuple"
  | .lst _ => "list"
  | .well => "list"
  | .ty _ => "type"
  | .scr _ => "script"
  | .oth _ _ => "other"
/-- the answers of isinstance for the kinds of data -/
def isiT (a T : String) : Bool := a == T || (a == "bool" && T == "int")
def kinds : List String := ["NoneType", "bool", "int", "str", "tuple", "list"]
theorem kit_tab : (kinds.all fun a => (["int", "bool", "str", "tuple", "list"] : List String).all fun T => decide (kitB a T = some (isiT a T))) = true := by decide +kernel
theorem kit_at {a T : String} (ha : a ∈ kinds) (hT : T ∈ (["int", "bool", "str", "tuple", "list"] : List String)) : kitB a T = some (isiT a T) := by
  have h := kit_tab
  rw [List.all_eq_true] at h
  have h2 := h a ha
  rw [List.all_eq_true] at h2
  exact of_decide_eq_true (h2 T hT)
def isiG : PGc
  | [d, .ty T], q => tyOf d ∈ kinds ∧ T ∈ (["int", "bool", "str", "tuple", "list"] : List String) ∧ q (.bl (isiT (tyOf d) T))
  | _, _ => False
theorem isi_ty {wl : Wd} {H : Hp} (hk : Wk wl H) : ∀ {d : D} {v : V}, tyOf d ∈ kinds → Rp K wl H d v → TyX K H v (.type (tyOf d))
  | .non, _, _, r => by cases r; exact .base .non
  | .bl b, _, _, r => by cases r; exact .base (.bl b)
  | .int i, _, _, r => by cases r; exact .base (.int i)
  | .str x, _, _, r => by cases r; exact .base (.str x)
  | .tup ds, _, _, ⟨a, vs, e, s, _⟩ => by
    subst e
    rcases s with (s | ⟨o, s⟩) | ⟨o, its, n, h1, h2, _⟩
    · exact .base (.tup s)
    · exact .fTuple s
    · exact .kTuple h1 h2
  | .lst ds, _, _, ⟨a, vs, e, n, s, _⟩ => by subst e; exact .base (.lst s)
  | .well, _, _, ⟨a, h, e⟩ => by
    subst e
    obtain ⟨i, j, k, s, _⟩ := hk.well a h
    exact .base (.lst s)
  | .ty n, _, g, _ => absurd g (by simp [tyOf, kinds])
  | .scr n, _, g, _ => absurd g (by simp [tyOf, kinds])
  | .oth _ _, _, g, _ => absurd g (by simp [tyOf, kinds])
theorem isi_ok : CmpC K (rIsi K) isiG := by
  intro wl H ds vs q Q hk r g hq
  rcases ds with _ | ⟨d, _ | ⟨d2, _ | ⟨d3, ds⟩⟩⟩
  · exact g.elim
  · exact g.elim
  · obtain ⟨v, t, rfl, r, v2, t2, rfl, r2, r'⟩ := r
    cases r'
    cases d2 <;> try exact g.elim
    case ty T =>
      obtain ⟨h1, h2, g⟩ := g
      cases r2
      exact ⟨v, .ty T, .type (tyOf d), .type T, isiT (tyOf d) T, rfl, .ty T, isi_ty hk h1 r, kit_ty (kit_at h1 h2), hq (.bl _) _ H (.refl hk) rfl g⟩
  · cases d2 <;> exact g.elim

/-! ### repr: where no repr is under way -/
def shownD (d : D) : Str := (toPy d).shown
def reprG : PGc
  | [.lst xs], q => tame (.lst xs) ∧ q (.str (shownD (.lst xs)))
  | _, _ => False
def rRepr (K : PySem.W.Frag) : List V → Hp → VK → Prop := fun vs H Q => ∃ (a : Addr) (d : PyData), vs = [.ref a] ∧ Dp K H (.ref a) d ∧ d.showable = true ∧ d.hasDict = false ∧ d.depth ≤ 64 ∧ d.shown.length ≤ sizeLine ∧ Q (.str d.shown) H
theorem c_repr (hg : X.A.guards = some []) (hu : X.A.units + 200 < cLine) : CallR X (.builtin "repr") (rRepr X.K) := by
  intro pins s σ H vs us Q I r ⟨a, d, e, hd, h1, h2, h3, h4, q⟩
  subst e
  obtain ⟨u, rfl, ru⟩ := vals1 r
  obtain ⟨as, rd⟩ := Dp.reads I d _ u hd ru
  cases (show u = Value.ref a from ru)
  refine repr_of_reads' rd h1 (PyData.noDict_hsm h2) hg (by omega) (fun _ _ e => e) (fun h' u tk hk => ?_) h4
  exact ⟨.str d.shown, H, I.kept hk, ⟨u, rfl⟩, q⟩
theorem repr_ok : CmpC K (rRepr K) reprG := by
  intro wl H ds vs q Q hk r g hq
  rcases ds with _ | ⟨d, _ | ⟨d2, ds⟩⟩
  · exact g.elim
  · obtain ⟨v, t, rfl, r, r'⟩ := r
    cases r'
    cases d <;> try exact g.elim
    case lst xs =>
      obtain ⟨t, g⟩ := g
      have dp := Rp.dp (.lst xs) v t.nice.good r
      obtain ⟨a, us, rfl, n, s, r⟩ := r
      refine ⟨a, _, rfl, dp, t.nice.show_, PyData.hasDict_of_layable t.layable, by rw [dep_eq]; have := t.2; omega, ?_, hq (.str _) _ H (.refl hk) rfl g⟩
      have := PyProof.Rows.shown_le13 t.layable t.nice.short
      have e : (sizeLine : Nat) = 16777216 := sizeLine_eq
      omega
  · cases d <;> exact g.elim

/-! # tests -/
def tB' (fa : PX) : PB := fun ρ q x => fa ρ (fun d => ∃ b, d = .bl b ∧ q b) x
theorem test_weak {fa : PX} {σ : St} {H : Hp} {Q : Bool → Hp → Prop} (h : eB X W (tB' fa) σ H Q) : eE X W fa σ H (fun x H1 => ∃ c, x = .bl c ∧ Q c H1) := by
  obtain ⟨wl, ρ, q, x, hk, he, hf, hq, hx⟩ := h
  exact ⟨wl, ρ, _, x, hk, he, hf, fun d v H1 e1 r1 ⟨b, ed, h1⟩ => by
    subst ed
    exact ⟨b, r1, hq b H1 e1 h1⟩, hx⟩
theorem dt_val {e : Expr} {fa : PX} (h : PE X e (eE X W fa)) (he : ∀ whole, isTrue e X.env whole = (do let v ← whole; standAt e.pos; holding [v] (truthy v)) := by intro _; rfl) : PT X e (eB X W (tB' fa)) :=
  PT.weak (pt_val h he) fun _ _ _ h => test_weak h
theorem dt_cmp {op : CmpOp} {r : R2} {g : PG2} {a b : Expr} {fa fb : PX} {pos : Pos} (ho : OpR X (compareOp op) r) (c : Cmp2 X.K r g) (ha : PE X a (eE X W fa)) (hb : PE X b (eE X W fb)) (hm : behindInMarks op b = false) : PT X (.Compare a [op] [b] pos) (eB X W (tB' (fBin g fa fb))) := by
  refine PT.weak (pt_cmpR ho ha hb hm) fun σ H Q h => ?_
  exact bin_weak c (test_weak h)
theorem dt_chain {op op' : CmpOp} {r r' : R2} {g g' : PG2} {a b c : Expr} {fa fb fc : PX} {pos : Pos} (ho : OpR X (compareOp op) r) (ho' : OpR X (compareOp op') r') (k1 : Cmp2 X.K r g) (k2 : Cmp2 X.K r' g')
    (ha : PE X a (eE X W fa)) (hb : PE X b (eE X W fb)) (hc : PE X c (eE X W fc)) (hm : lastMarks [op, op'] [b, c] = false := by with_unfolding_all rfl) : PT X (.Compare a [op, op'] [b, c] pos) (eB X W (tB' (fChain g g' fa fb fc))) := by
  refine PT.weak (pt_chain ho ho' ha hb hc hm) fun σ H Q h => ?_
  exact chain_weak k1 k2 (test_weak h)
def tNot' (t : PB) : PB := fun ρ q x => t ρ (fun b => q (!b)) x
def tAnd' (t u : PB) : PB := fun ρ q x => t ρ (fun b => (b = true → u ρ q x) ∧ (b = false → q false)) x
def tOr' (t u : PB) : PB := fun ρ q x => t ρ (fun b => (b = true → q true) ∧ (b = false → u ρ q x)) x
theorem dt_not {a : Expr} {t : PB} {pos : Pos} (h : PT X a (eB X W t)) : PT X (.UnaryOp .Not a pos) (eB X W (tNot' t)) := by
  refine PT.weak (pt_not h) fun σ H Q ⟨wl, ρ, q, x, hk, he, hf, hq, hx⟩ => ?_
  exact ⟨wl, ρ, _, x, hk, he, hf, fun b H1 e1 h1 => hq _ H1 e1 h1, hx⟩
theorem dw_and1 {a : Expr} {t : PB} {pos : Pos} (h : PT X a (eB X W t)) : PW X (.BoolOp .And [a] pos) (eB X W t) := pw_and1 h
theorem dw_or1 {a : Expr} {t : PB} {pos : Pos} (h : PT X a (eB X W t)) : PW X (.BoolOp .Or [a] pos) (eB X W t) := pw_or1 h
theorem dw_and {a b : Expr} {rest : List Expr} {t u : PB} {pos : Pos} (h : PT X a (eB X W t)) (h2 : PW X (.BoolOp .And (b :: rest) pos) (eB X W u)) : PW X (.BoolOp .And (a :: b :: rest) pos) (eB X W (tAnd' t u)) := by
  refine PW.weak (pw_and h h2) fun σ H Q ⟨wl, ρ, q, x, hk, he, hf, hq, hx⟩ => ?_
  refine ⟨wl, ρ, _, x, hk, he, hf, fun b H1 e1 h1 => ?_, hx⟩
  cases b with
  | true => exact iteT ⟨wl, ρ, q, x, e1.wk, he.ext hk e1, h1.1 rfl, fun b H2 e2 => hq b H2 (e1.trans e2), hx.ext e1⟩
  | false => exact iteF (hq _ H1 e1 (h1.2 rfl))
theorem dw_or {a b : Expr} {rest : List Expr} {t u : PB} {pos : Pos} (h : PT X a (eB X W t)) (h2 : PW X (.BoolOp .Or (b :: rest) pos) (eB X W u)) : PW X (.BoolOp .Or (a :: b :: rest) pos) (eB X W (tOr' t u)) := by
  refine PW.weak (pw_or h h2) fun σ H Q ⟨wl, ρ, q, x, hk, he, hf, hq, hx⟩ => ?_
  refine ⟨wl, ρ, _, x, hk, he, hf, fun b H1 e1 h1 => ?_, hx⟩
  cases b with
  | true => exact iteT (hq _ H1 e1 (h1.1 rfl))
  | false => exact iteF ⟨wl, ρ, q, x, e1.wk, he.ext hk e1, h1.2 rfl, fun b H2 e2 => hq b H2 (e1.trans e2), hx.ext e1⟩
theorem dw_pt {a : Expr} {t : PB} (h : PW X a (eB X W t)) : PT X a (eB X W t) := h.pt
def fIf (t : PB) (fa fb : PX) : PX := fun ρ q x => t ρ (fun b => (b = true → fa ρ q x) ∧ (b = false → fb ρ q x)) x
theorem d_if {c a b : Expr} {t : PB} {fa fb : PX} {pos : Pos} (hc : PT X c (eB X W t)) (ha : PE X a (eE X W fa)) (hb : PE X b (eE X W fb)) : PE X (.IfExp c a b pos) (eE X W (fIf t fa fb)) := by
  refine PE.weak (pe_ifExp hc ha hb) fun σ H Q ⟨wl, ρ, q, x, hk, he, hf, hq, hx⟩ => ?_
  refine ⟨wl, ρ, _, x, hk, he, hf, fun b H1 e1 h1 => ?_, hx⟩
  cases b with
  | true => exact iteT ⟨wl, ρ, q, x, e1.wk, he.ext hk e1, h1.1 rfl, fun d v H2 e2 r2 => hq d v H2 (e1.trans e2) r2, hx.ext e1⟩
  | false => exact iteF ⟨wl, ρ, q, x, e1.wk, he.ext hk e1, h1.2 rfl, fun d v H2 e2 r2 => hq d v H2 (e1.trans e2) r2, hx.ext e1⟩

/-! # targets -/
inductive Tg where
  | nm (i : Nat)
  | tp (l : List Tg)
  | wl (o : Nat) (i : Nat)
mutual
def tgV (K : PySem.W.Frag) : Tg → TG
  | .nm i => gName i
  | .tp l => gTup K l.length (tgsV K l)
  | .wl o i => gSub (tVar o) (tC (.int i)) rSetL
def tgsV (K : PySem.W.Frag) : List Tg → TGs
  | [] => gNil
  | t :: l => gCons (tgV K t) (tgsV K l)
end
mutual
def tgE : Tg → D → Ev → (Ev → Prop) → Prop
  | .nm i, d, ρ, q => q (ρ.set i (.dt d))
  | .tp l, d, ρ, q => ∃ ds, d = .tup ds ∧ ds.length = l.length ∧ tgsE l ds ρ q
  | .wl o i, d, ρ, q => ρ[o]? = some (.dt .well) ∧ ∃ n : Int, d = .int n ∧ ((i = 0 ∧ 0 ≤ n) ∨ (i = 1 ∧ 0 ≤ n ∧ n < 2147483648) ∨ i = 2) ∧ q ρ
def tgsE : List Tg → List D → Ev → (Ev → Prop) → Prop
  | [], ds, ρ, q => ds = [] ∧ q ρ
  | t :: l, ds, ρ, q => ∃ d r, ds = d :: r ∧ tgE t d ρ fun ρ' => tgsE l r ρ' q
end
mutual
def slots : Tg → List Nat
  | .nm i => [i]
  | .tp l => slotsL l
  | .wl _ _ => []
def slotsL : List Tg → List Nat
  | [] => []
  | t :: l => slots t ++ slotsL l
end
theorem wipe_set {σ : St} {i : Nat} {y : Option V} : ∀ {vs : List Nat}, i ∈ vs → wipe (σ.set i y) vs = wipe σ vs
  | v :: vs, h => by
    unfold wipe
    by_cases hv : i ∈ vs
    · rw [wipe_set hv]
    · have e : v = i := by
        rcases List.mem_cons.mp h with q | q
        · exact q.symm
        · exact absurd q hv
      subst e
      have com : ∀ (us : List Nat) (τ : St), v ∉ us → wipe (τ.set v y) us = (wipe τ us).set v y := by
        intro us
        induction us with
        | nil => intro τ _; rfl
        | cons u us ih =>
          intro τ hn
          have h1 : v ≠ u := fun q => hn (by rw [q]; exact List.mem_cons_self ..)
          have h2 : v ∉ us := fun q => hn (List.mem_cons_of_mem _ q)
          show (wipe (τ.set v y) us).set u none = ((wipe τ us).set u none).set v y
          rw [ih τ h2, List.set_comm _ _ h1]
      rw [com vs σ hv, List.set_set]
mutual
theorem tgV_mono : ∀ (t : Tg) (v : V) (σ : St) (H : Hp) (Q Q' : St → Hp → Prop), (∀ σ2 H2, Q σ2 H2 → Q' σ2 H2) → tgV K t v σ H Q → tgV K t v σ H Q'
  | .nm i, v, σ, H, Q, Q', m, h => m _ _ h
  | .tp l, v, σ, H, Q, Q', m, ⟨a, xs, e, s, hl, h⟩ => ⟨a, xs, e, s, hl, tgsV_mono l xs σ H Q Q' m h⟩
  | .wl o i, v, σ, H, Q, Q', m, ⟨u, hu, p, xs, k, j, e1, e2, e3, e4, h⟩ => ⟨u, hu, p, xs, k, j, e1, e2, e3, e4, m _ _ h⟩
theorem tgsV_mono : ∀ (l : List Tg) (vs : List V) (σ : St) (H : Hp) (Q Q' : St → Hp → Prop), (∀ σ2 H2, Q σ2 H2 → Q' σ2 H2) → tgsV K l vs σ H Q → tgsV K l vs σ H Q'
  | [], vs, σ, H, Q, Q', m, ⟨e, h⟩ => ⟨e, m _ _ h⟩
  | t :: l, vs, σ, H, Q, Q', m, ⟨v, r, e, h⟩ => ⟨v, r, e, tgV_mono t v σ H _ _ (fun σ2 H2 h2 => tgsV_mono l r σ2 H2 Q Q' m h2) h⟩
end
/-- the well is written -/
theorem well_set {wl : Wd} {H : Hp} {a : Addr} {n0 n1 n2 : Int} (hk : Wk wl H) (hw : wl.wl = some a) (h0 : 0 ≤ n0) (h1 : 0 ≤ n1) (h2 : n1 < 2147483648) : Ext wl H (upd H a (.lst [.int n0, .int n1, .int n2])) := by
  obtain ⟨i, j, k, ea, _⟩ := hk.well a hw
  refine ⟨fun b o nb e _ => ?_, hk.write ea True.intro True.intro fun _ => ⟨n0, n1, n2, rfl, h0, h1, h2⟩⟩
  · rw [upd_ne (fun z => nb (by rw [hw, z]))]; exact e
mutual
theorem tg_ok {wl : Wd} {own : List Nat} : ∀ (t : Tg) (d : D) (v : V) (ρ : Ev) (σ : St) (H : Hp) (q : Ev → Prop), (∀ i ∈ slots t, i ∈ own) → Wk wl H → EvR K wl H ρ σ → Rp K wl H d v → tgE t d ρ q → tgV K t v σ H fun σ2 H2 => Ext wl H H2 ∧ wipe σ2 own = wipe σ own ∧ ∃ ρ2, EvR K wl H2 ρ2 σ2 ∧ q ρ2
  | .nm i, d, v, ρ, σ, H, q, hs, hk, he, r, g => ⟨.refl hk, wipe_set (hs i (List.mem_cons_self ..)), _, he.set r i, g⟩
  | .tp l, d, v, ρ, σ, H, q, hs, hk, he, r, ⟨ds, e, hl, g⟩ => by
    subst e
    obtain ⟨a, vs, rfl, s, r⟩ := r
    exact ⟨a, vs, rfl, s, r.length.trans hl, tgs_ok l ds vs ρ σ H q hs hk he r g⟩
  | .wl o i, d, v, ρ, σ, H, q, hs, hk, he, r, ⟨ho, n, e, hn, g⟩ => by
    subst e
    cases r
    obtain ⟨u, hu, a, hw, rfl⟩ := he.at_ o .well ho
    obtain ⟨n0, n1, n2, ea, h0, h1, h2⟩ := hk.well a hw
    rcases hn with ⟨rfl, hn⟩ | ⟨rfl, hn, hn2⟩ | rfl
    · have x := well_set (n0 := n) (n1 := n1) (n2 := n2) hk hw hn h1 h2
      exact ⟨.ref a, hu, a, _, 0, 0, rfl, rfl, ea, rfl, x, rfl, ρ, he.ext hk x, g⟩
    · have x := well_set (n0 := n0) (n1 := n) (n2 := n2) hk hw h0 hn hn2
      exact ⟨.ref a, hu, a, _, 1, 1, rfl, rfl, ea, rfl, x, rfl, ρ, he.ext hk x, g⟩
    · have x := well_set (n0 := n0) (n1 := n1) (n2 := n) hk hw h0 h1 h2
      exact ⟨.ref a, hu, a, _, 2, 2, rfl, rfl, ea, rfl, x, rfl, ρ, he.ext hk x, g⟩
theorem tgs_ok {wl : Wd} {own : List Nat} : ∀ (l : List Tg) (ds : List D) (vs : List V) (ρ : Ev) (σ : St) (H : Hp) (q : Ev → Prop), (∀ i ∈ slotsL l, i ∈ own) → Wk wl H → EvR K wl H ρ σ → RpL K wl H ds vs → tgsE l ds ρ q → tgsV K l vs σ H fun σ2 H2 => Ext wl H H2 ∧ wipe σ2 own = wipe σ own ∧ ∃ ρ2, EvR K wl H2 ρ2 σ2 ∧ q ρ2
  | [], ds, vs, ρ, σ, H, q, hs, hk, he, r, ⟨e, g⟩ => by subst e; cases r; exact ⟨rfl, .refl hk, rfl, ρ, he, g⟩
  | t :: l, ds, vs, ρ, σ, H, q, hs, hk, he, r, ⟨d, dr, e, g⟩ => by
    subst e
    obtain ⟨v, vr, rfl, r1, r2⟩ := r
    refine ⟨v, vr, rfl, ?_⟩
    have h1 := tg_ok (own := own) t d v ρ σ H _ (fun i hi => hs i (by show i ∈ slots t ++ slotsL l; exact List.mem_append_left _ hi)) hk he r1 g
    refine tgV_mono t v σ H _ _ (fun σ2 H2 ⟨eH, ew, ρ2, he2, g2⟩ => ?_) h1
    refine tgsV_mono l vr σ2 H2 _ _ (fun σ3 H3 ⟨eH3, ew3, r3⟩ => ⟨eH.trans eH3, ew3.trans ew, r3⟩) (tgs_ok (own := own) l dr vr ρ2 σ2 H2 q (fun i hi => hs i (by show i ∈ slots t ++ slotsL l; exact List.mem_append_right _ hi)) eH.wk he2 (RpL.ext hk eH _ _ r2) g2)
end
theorem g_wl (o i : Nat) {x : Str} {j : Nat} {px pi pos : Pos} (hN : X.N[o]? = some x := by rfl) (hv : Vis X.env.scope x := by first | exact Or.inl rfl | exact Or.inr (Or.inl rfl) | exact Or.inr (Or.inr rfl)) (hd : (x == ("__debug__" : Str)) = false := by decide)
    (hcd : (x == ("__classdict__" : Str)) = false := by decide)
    (ha : ∀ v, assign (.Subscript (.Name x px) (.Constant (.int i) j pi) pos) X.env v = (do
      let ov ← holding [v] (eval (.Name x px) X.env)
      let iv ← holding [v, ov] (eval (.Constant (.int i) j pi) X.env)
      standAt pos
      holding [v, ov, iv] (setItem ov iv v)
      release [v, ov, iv] []) := by intro _; rfl) : PG X (.Subscript (.Name x px) (.Constant (.int i) j pi) pos) (tgV X.K (.wl o i)) := pg_sub (pe_var hN hv hd hcd) pe_int set_list ha
theorem g_nm (i : Nat) {x : Str} {pos : Pos} (hN : X.N.Nodup) (hi : X.N[i]? = some x) (hx : Loc X.env.scope x) (hf : X.fn x = true ∨ X.env.scope.names.lookup x = some .local := by first | exact .inl rfl | exact .inr rfl) : PG X (.Name x pos) (tgV X.K (.nm i)) := pg_name hN hi hx hf
theorem gs_nil : PGs X [] (tgsV X.K []) := pgs_nil
theorem gs_cons {e : Expr} {es : List Expr} {t : Tg} {l : List Tg} (h1 : PG X e (tgV X.K t)) (h2 : PGs X es (tgsV X.K l)) (hs : (assignEach (e :: es) X.env).map (·.2) = assign e X.env :: (assignEach es X.env).map (·.2) := by rfl) : PGs X (e :: es) (tgsV X.K (t :: l)) := pgs_cons h1 h2 hs
theorem g_tp {es : List Expr} {k : Nat} {l : List Tg} {pos : Pos} (hc : X.calm = true) (h : PGs X es (tgsV X.K l)) (hn : (assignEach es X.env).length = l.length := by rfl) (hst : (assignEach es X.env).findIdx? (·.1) = none := by rfl) : PG X (.Tuple es k pos) (tgV X.K (.tp l)) := pg_tup hc h hn hst
end
end PL

namespace PL
open PySem PySem.Spec L2

section
variable {X : Cx} {K : PySem.W.Frag} {W : WY}
/-! # statements -/
def sNil : PSt := fun P ρ => P.nx ρ
def sSeq (f g : PSt) : PSt := fun P ρ => f { P with nx := g P } ρ
theorem dss_nil : PSs X [] (eS X W sNil) := PSs.weak pss_nil fun En σ H ⟨wl, ρ, P, hk, he, h, r⟩ => r.nx wl ρ σ H (Ext.refl hk).step he h
theorem seq_weak {f g : PSt} {En : Ends} {σ : St} {H : Hp} (h : eS X W (sSeq f g) En σ H) : eS X W f { En with nx := eS X W g En } σ H := by
  obtain ⟨wl, ρ, P, hk, he, h, r⟩ := h
  exact ⟨wl, ρ, { P with nx := g P }, hk, he, h, ⟨r.T, fun w2 ρ2 σ2 H2 e2 r2 h2 => ⟨w2, ρ2, P, e2.wk, r2, h2, r.step e2⟩, r.rt, r.bk, r.ct, r.ex⟩⟩
theorem dss_cons {st : Stmt} {rest : List Stmt} {f g : PSt} (h1 : PS X st (eS X W f)) (h2 : PSs X rest (eS X W g)) : PSs X (st :: rest) (eS X W (sSeq f g)) := PSs.weak (pss_cons h1 h2) fun _ _ _ h => seq_weak h
theorem dss_one {st : Stmt} {f : PSt} (h1 : PS X st (eS X W f)) : PSs X [st] (eS X W f) := pss_one h1
def sBrk : PSt := fun P ρ => P.bk ρ
def sCnt : PSt := fun P ρ => P.ct ρ
theorem ds_brk {pos : Pos} : PS X (.Break pos) (eS X W sBrk) := PS.weak ps_break fun En σ H ⟨wl, ρ, P, hk, he, h, r⟩ => r.bk wl ρ σ H (Ext.refl hk).step he h
theorem ds_cnt {pos : Pos} : PS X (.Continue pos) (eS X W sCnt) := PS.weak ps_continue fun En σ H ⟨wl, ρ, P, hk, he, h, r⟩ => r.ct wl ρ σ H (Ext.refl hk).step he h
theorem ds_pass {pos : Pos} : PS X (.Pass pos) (eS X W sNil) := PS.weak ps_pass fun En σ H ⟨wl, ρ, P, hk, he, h, r⟩ => r.nx wl ρ σ H (Ext.refl hk).step he h
def sRet (f : PX) : PSt := fun P ρ => f ρ P.rt (P.ex ρ)
theorem ds_ret {e : Expr} {f : PX} {pos : Pos} (h : PE X e (eE X W f)) : PS X (.Return (some e) pos) (eS X W (sRet f)) :=
  PS.weak (ps_ret h) fun En σ H ⟨wl, ρ, P, hk, he, h, r⟩ => ⟨wl, ρ, P.rt, P.ex ρ, hk, he, h, fun d v H1 e1 => r.rt wl d v H1 e1.step, r.out hk he⟩
def sDrop (f : PX) : PSt := fun P ρ => f ρ (fun _ => P.nx ρ) (P.ex ρ)
theorem ds_expr {e : Expr} {f : PX} {pos : Pos} (h : PE X e (eE X W f)) (hs : swapsWith e none pos.line X.env = pure false := by rfl) : PS X (.Expr e pos) (eS X W (sDrop f)) :=
  PS.weak (ps_expr h hs) fun En σ H ⟨wl, ρ, P, hk, he, h, r⟩ => ⟨wl, ρ, _, P.ex ρ, hk, he, h, fun d v H1 e1 r1 h1 => r.nx wl ρ σ H1 e1.step (he.ext hk e1) h1, r.out hk he⟩
def sIf (t : PB) (f g : PSt) : PSt := fun P ρ => t ρ (fun b => (b = true → f P ρ) ∧ (b = false → g P ρ)) (P.ex ρ)
theorem ds_if {c : Expr} {a b : List Stmt} {t : PB} {f g : PSt} {pos : Pos} (hc : PT X c (eB X W t)) (ha : PSs X a (eS X W f)) (hb : PSs X b (eS X W g)) : PS X (.If c a b pos) (eS X W (sIf t f g)) := by
  refine PS.weak (ps_if hc ha hb) fun En σ H ⟨wl, ρ, P, hk, he, h, r⟩ => ?_
  refine ⟨wl, ρ, _, P.ex ρ, hk, he, h, fun b H1 e1 h1 => ?_, r.out hk he⟩
  cases b with
  | true => exact iteT ⟨wl, ρ, P, e1.wk, he.ext hk e1, h1.1 rfl, r.ext e1⟩
  | false => exact iteF ⟨wl, ρ, P, e1.wk, he.ext hk e1, h1.2 rfl, r.ext e1⟩
/-- a way that is never gone -/
def sNever : PSt := fun _ _ => False
theorem ds_never {st : Stmt} : PS X st (eS X W sNever) := PS.weak ps_never fun _ _ _ ⟨_, _, _, _, _, h, _⟩ => h
def sSet (i : Nat) (f : PX) : PSt := fun P ρ => f ρ (fun d => P.nx (ρ.set i (.dt d))) (P.ex ρ)
theorem ds_set (i : Nat) {x : Str} {e : Expr} {f : PX} {pos pos' : Pos} (hN : X.N.Nodup) (hi : X.N[i]? = some x) (hx : Loc X.env.scope x) (he : PE X e (eE X W f)) (hs : swapsWith e (some (.Name x pos')) pos.line X.env = pure false := by rfl) (hf : X.fn x = true ∨ X.env.scope.names.lookup x = some .local := by first | exact .inl rfl | exact .inr rfl) :
    PS X (.Assign [.Name x pos'] e pos) (eS X W (sSet i f)) := by
  refine PS.weak (ps_set hN hi hx he hs hf) fun En σ H ⟨wl, ρ, P, hk, he, h, r⟩ => ?_
  exact ⟨wl, ρ, _, P.ex ρ, hk, he, h, fun d v H1 e1 r1 h1 => r.nx wl _ _ H1 e1.step ((he.ext hk e1).set r1 i) h1, r.out hk he⟩
/-- a target of any form -/
def sAsg (t : Tg) (f : PX) : PSt := fun P ρ => f ρ (fun d => tgE t d ρ P.nx) (P.ex ρ)
theorem ds_asg {tg e : Expr} {t : Tg} {f : PX} {pos : Pos} (he : PE X e (eE X W f)) (hg : PG X tg (tgV X.K t)) (hs : swapsWithSole [tg] e pos.line X.env = pure false := by rfl) (hw : swappedStores [tg] e X.env = pure none := by rfl)
    (h1 : (assignEach [tg] X.env).map (·.2) = [assign tg X.env] := by rfl) : PS X (.Assign [tg] e pos) (eS X W (sAsg t f)) := by
  refine PS.weak (ps_asg he hg hs hw h1) fun En σ H ⟨wl, ρ, P, hk, he, h, r⟩ => ?_
  refine ⟨wl, ρ, _, P.ex ρ, hk, he, h, fun d v H1 e1 r1 h1 => ?_, r.out hk he⟩
  refine tgV_mono t v σ H1 _ _ (fun σ2 H2 ⟨eH, _, ρ2, he2, h2⟩ => ?_) (tg_ok (own := slots t) t d v ρ σ H1 P.nx (fun _ z => z) e1.wk (he.ext hk e1) r1 h1)
  exact r.nx wl ρ2 σ2 H2 (e1.trans eH).step he2 h2
def sPar (i j : Nat) (f : PAx) : PSt := fun P ρ => f ρ (fun ds => ∃ a b, ds = [a, b] ∧ P.nx ((ρ.set i (.dt a)).set j (.dt b))) (P.ex ρ)
theorem ds_par {i j : Nat} {x y : Str} {a b : Expr} {f : PAx} {px py pt pos : Pos} {kt k2 pt2} (hc : X.calm = true) (hN : X.N.Nodup) (hi : X.N[i]? = some x) (hj : X.N[j]? = some y) (hij : i ≠ j)
    (hx : X.env.scope.names.lookup x = some .local) (hy : X.env.scope.names.lookup y = some .local) (ha : PA X [a, b] (eA X W f))
    (hw : swappedStores [.Tuple [.Name x px, .Name y py] kt pt] (.Tuple [a, b] k2 pt2) X.env = pure (some [x, y]) := by rfl)
    (hs : swapsWithSole [.Tuple [.Name x px, .Name y py] kt pt] (.Tuple [a, b] k2 pt2) pos.line X.env = pure false := by rfl) :
    PS X (.Assign [.Tuple [.Name x px, .Name y py] kt pt] (.Tuple [a, b] k2 pt2) pos) (eS X W (sPar i j f)) := by
  refine PS.weak (ps_par hc hN hi hj hij hx hy ha hw hs) fun En σ H ⟨wl, ρ, P, hk, he, h, r⟩ => ?_
  refine ⟨wl, ρ, _, P.ex ρ, hk, he, h, fun ds vs H1 e1 r1 ⟨a, b, ed, h1⟩ => ?_, r.out hk he⟩
  subst ed
  obtain ⟨v, t, rfl, ra, v2, t2, rfl, rb, e2⟩ := r1
  cases e2
  exact ⟨v, v2, rfl, r.nx wl _ _ H1 e1.step (((he.ext hk e1).set ra i).set rb j) h1⟩

/-! # what is walked -/
def Feeds (K : PySem.W.Frag) (wl : Wd) (H0 : Hp) (J : It) (ds : List D) : Prop :=
  ∀ (wl' : Wd) (i : Nat) (H : Hp), Step wl H0 wl' H → (i < ds.length → J.go i H) ∧ (i = ds.length → J.stop i H) ∧ (i < ds.length → ∀ x H', J.yld i H x H' → Ext wl' H H' ∧ ∃ d, ds[i]? = some d ∧ Rp K wl' H' d x)
def eI (X : Cx) (W : WY) (f : PAx) : TI := fun σ H R => ∃ (wl : Wd) (ρ : Ev) (q : List D → Prop) (x : Xn → Prop), Wk wl H ∧ EvR X.K wl H ρ σ ∧ f ρ q x ∧ (∀ ds J H', Ext wl H H' → Feeds X.K wl H' J ds → q ds → R J H') ∧ Out X W wl H σ x
theorem PI.weak {tg e : Expr} {t t' : TI} (h : PI X tg e t) (w : ∀ σ H R, t' σ H R → t σ H R) : PI X tg e t' := ⟨fun pins s σ H R I q => h.run pins s σ H R I (w _ _ _ q)⟩
/-- a list, a tuple or a text, whichever it is -/
def iSeq (K : PySem.W.Frag) (tl : TE) : TI := fun σ H R => tl σ H fun x H1 => (∃ a, x = .ref a ∧ (∃ xs, SqL K H1 a xs) ∧ R (Itl K a) H1) ∨ (∃ a, x = .ref a ∧ (∃ xs, SqT K H1 a xs) ∧ R (Itt K a) H1) ∨ ∃ z, x = .str z ∧ R (Its z) H1
theorem pi_seq {tg l : Expr} {tl : TE} (hl : PE X l tl) : PI X tg l (iSeq X.K tl) := by
  refine ⟨fun pins s σ H R I h => thn (hl.run pins s σ H _ I h) fun v s1 ⟨x, H1, I1, r1, q1⟩ => ?_⟩
  rcases q1 with ⟨a, e, ⟨xs, hq⟩, q⟩ | ⟨a, e, ⟨xs, hq⟩, q⟩ | ⟨z, e, q⟩
  · subst e; cases r1
    obtain ⟨its, rv, p, hz⟩ := I1.list hq
    exact wpAny_pyIter_list p.isList (pi_one (tk := s1.toks) I1 _ (turn_list a _) ⟨_, Heap.get?_push_size _ rfl, rfl, rfl⟩ q)
  · subst e; cases r1
    obtain ⟨its, rv, p, hz⟩ := I1.tuple hq
    exact wpAny_pyIter_tuple (show s1.heap.IsTuple a its.toArray from p) (pi_one (tk := s1.toks) I1 _ (turn_tuple a _) ⟨_, Heap.get?_push_size _ rfl, rfl, rfl⟩ q)
  · subst e
    obtain ⟨t, rfl⟩ := r1
    cases ha : z.cps.all (· < 128)
    · exact PySem.wpAny_pyIter_wide ha (pi_one (tk := s1.toks) I1 _ (turn_str _ z t "str_iterator" (.inr rfl)) ⟨_, Heap.get?_push_size _ rfl, rfl, rfl⟩ q)
    · exact PySem.wpAny_pyIter_ascii ha (pi_one (tk := s1.toks) I1 _ (turn_str _ z t "str_ascii_iterator" (.inl rfl)) ⟨_, Heap.get?_push_size _ rfl, rfl, rfl⟩ q)
/-- the items of a datum -/
def signs (z : Str) : List D := z.cps.toList.map fun c => .str ⟨#[c]⟩
def itemsOf : D → Option (List D)
  | .tup xs => some xs
  | .lst xs => some xs
  | .str z => some (signs z)
  | .scr ns => some (ns.map D.int)
  | _ => none
def fItems (f : PX) : PAx := fun ρ q x => f ρ (fun d => ∃ ds, itemsOf d = some ds ∧ q ds) x
theorem feeds_lst {wl : Wd} {H : Hp} {a : Addr} {vs : List V} {ds : List D} (hk : Wk wl H) (n : wl.fr a) (s : H a = some (.lst vs)) (r : RpL K wl H ds vs) : Feeds K wl H (Itl K a) ds := by
  intro w1 i H1 e
  have s1 : H1 a = some (.lst vs) := e.keep _ _ n.1 n.2.2 s (fun _ z => nomatch z)
  have r1 := RpL.step hk e _ _ r
  refine ⟨fun hi => ?_, fun hi => ⟨vs, SqL.of s1, by rw [r.length]; exact Nat.le_of_eq hi.symm⟩, fun _ x H' ⟨eH, y⟩ => ?_⟩
  · have hv : i < vs.length := by rw [r.length]; exact hi
    exact ⟨vs, vs[i], SqL.of s1, List.getElem?_eq_getElem hv⟩
  · subst eH
    obtain ⟨d, hd, rd⟩ := r1.getV (y vs (SqL.of s1))
    exact ⟨.refl e.wk, d, hd, rd⟩
theorem feeds_tup {wl : Wd} {H : Hp} {a : Addr} {vs : List V} {ds : List D} (hk : Wk wl H) (s : SqT K H a vs) (r : RpL K wl H ds vs) : Feeds K wl H (Itt K a) ds := by
  intro w1 i H1 e
  have s1 := sqT_step s hk e
  have r1 := RpL.step hk e _ _ r
  refine ⟨fun hi => ?_, fun hi => ⟨vs, s1, by rw [r.length]; exact Nat.le_of_eq hi.symm⟩, fun _ x H' ⟨eH, y⟩ => ?_⟩
  · have hv : i < vs.length := by rw [r.length]; exact hi
    exact ⟨vs, vs[i], s1, List.getElem?_eq_getElem hv⟩
  · subst eH
    obtain ⟨d, hd, rd⟩ := r1.getV (y vs s1)
    exact ⟨.refl e.wk, d, hd, rd⟩
theorem feeds_scr {wl : Wd} {H : Hp} {a : Addr} {ns : List Int} (hk : Wk wl H) (s : ScrAt K H a ns) : Feeds K wl H (Itl K a) (ns.map D.int) := by
  intro w1 i H1 e
  have s1 := s.step hk e
  rw [List.length_map]
  refine ⟨fun hi => ⟨ns.map V.int, .int ns[i], s1.sq, ?_⟩, fun hi => ⟨ns.map V.int, s1.sq, by rw [List.length_map]; exact Nat.le_of_eq hi.symm⟩, fun hi x H' ⟨eH, y⟩ => ?_⟩
  · rw [List.getElem?_map, List.getElem?_eq_getElem hi]; rfl
  · subst eH
    have z := y _ s1.sq
    rw [List.getElem?_map, List.getElem?_eq_getElem hi] at z
    cases z
    refine ⟨.refl e.wk, .int ns[i], ?_, rfl⟩
    rw [List.getElem?_map, List.getElem?_eq_getElem hi]
    rfl
theorem feeds_str {wl : Wd} {H : Hp} {z : Str} : Feeds K wl H (Its z) (signs z) := by
  intro w1 i H1 e
  have hl : (signs z).length = z.cps.size := by unfold signs; rw [List.length_map, Array.length_toList]
  refine ⟨fun hi => by rw [hl] at hi; exact hi, fun hi => by rw [hl] at hi; exact Nat.le_of_eq hi.symm, fun _ x H' ⟨eH, c, hc, ex⟩ => ?_⟩
  subst eH
  subst ex
  refine ⟨.refl e.wk, .str ⟨#[c]⟩, ?_, rfl⟩
  unfold signs
  rw [List.getElem?_map, Array.getElem?_toList, hc]
  rfl
theorem di_seq {tg l : Expr} {f : PX} (h : PE X l (eE X W f)) : PI X tg l (eI X W (fItems f)) := by
  refine PI.weak (pi_seq h) fun σ H R ⟨wl, ρ, q, x, hk, he, hf, hq, hx⟩ => ?_
  refine ⟨wl, ρ, _, x, hk, he, hf, fun d v H1 e1 r1 hd => ?_, hx⟩
  obtain ⟨ds, hd, h1⟩ := hd
  cases d <;> try (simp [itemsOf] at hd; done)
  case tup xs =>
    cases hd
    obtain ⟨a, vs, rfl, s, r⟩ := r1
    exact .inr (.inl ⟨a, rfl, ⟨vs, s⟩, hq _ _ H1 e1 (feeds_tup e1.wk s r) h1⟩)
  case lst xs =>
    cases hd
    obtain ⟨a, vs, rfl, n, s, r⟩ := r1
    exact .inl ⟨a, rfl, ⟨vs, SqL.of s⟩, hq _ _ H1 e1 (feeds_lst e1.wk n s r) h1⟩
  case str z =>
    cases hd
    cases r1
    exact .inr (.inr ⟨z, rfl, hq _ _ H1 e1 feeds_str h1⟩)
  case scr ns =>
    cases hd
    obtain ⟨a, rfl, s⟩ := r1
    exact .inl ⟨a, rfl, ⟨_, s.sq⟩, hq _ _ H1 e1 (feeds_scr e1.wk s) h1⟩
/-- range(n), range(a, b) -/
def rng (lo : Int) (n : Nat) : List D := (List.range n).map fun (i : Nat) => D.int (lo + (i : Int))
theorem rng_length {lo : Int} {n : Nat} : (rng lo n).length = n := by unfold rng; rw [List.length_map, List.length_range]
theorem feeds_rng {wl : Wd} {H : Hp} {lo : Int} {n : Nat} : Feeds K wl H (Itr lo n) (rng lo n) := by
  intro w1 i H1 e
  refine ⟨fun hi => by rw [rng_length] at hi; exact hi, fun hi => by rw [rng_length] at hi; exact Nat.le_of_eq hi.symm, fun hi x H' ⟨eH, ex⟩ => ?_⟩
  subst eH
  subst ex
  rw [rng_length] at hi
  refine ⟨.refl e.wk, .int (lo + i), ?_, rfl⟩
  unfold rng
  rw [List.getElem?_map, List.getElem?_range hi]
  rfl
def fRng1 (f : PAx) : PAx := fun ρ q x => f ρ (fun ds => ∃ j : Int, ds = [.int j] ∧ -(2 ^ 62) ≤ j ∧ j < 2 ^ 62 ∧ q (rng 0 j.toNat)) x
def fRng2 (f : PAx) : PAx := fun ρ q x => f ρ (fun ds => ∃ i j : Int, ds = [.int i, .int j] ∧ (-(2 ^ 62) ≤ i ∧ i < 2 ^ 62 ∧ -(2 ^ 62) ≤ j ∧ j < 2 ^ 62) ∧ q (rng i (j - i).toNat)) x
theorem di_rng1 {tg a : Expr} {f : PAx} {p pos : Pos} (hg : Gl X "range") (hm : X.mg "range" = none) (ha : PA X [a] (eA X W f)) (hs : starEach [a] X.env = [(false, eval a X.env)] := by rfl) : PI X tg (.Call (.Name "range" p) [a] [] pos) (eI X W (fRng1 f)) := by
  refine PI.weak (pi_range1 hg hm ha hs) fun σ H R ⟨wl, ρ, q, x, hk, he, hf, hq, hx⟩ => ?_
  refine ⟨wl, ρ, _, x, hk, he, hf, fun ds vs H1 e1 r1 ⟨j, ed, h1, h2, h3⟩ => ?_, hx⟩
  subst ed
  obtain ⟨v, t, rfl, rv, rt⟩ := r1
  cases rv; cases rt
  exact ⟨j, rfl, h1, h2, hq _ _ H1 e1 feeds_rng h3⟩
theorem di_rng2 {tg a b : Expr} {f : PAx} {p pos : Pos} (hg : Gl X "range") (hm : X.mg "range" = none) (ha : PA X [a, b] (eA X W f)) (hs : starEach [a, b] X.env = [(false, eval a X.env), (false, eval b X.env)] := by rfl) (hs2 : starEach [b] X.env = [(false, eval b X.env)] := by rfl) : PI X tg (.Call (.Name "range" p) [a, b] [] pos) (eI X W (fRng2 f)) := by
  refine PI.weak (pi_range2 hg hm ha hs hs2) fun σ H R ⟨wl, ρ, q, x, hk, he, hf, hq, hx⟩ => ?_
  refine ⟨wl, ρ, _, x, hk, he, hf, fun ds vs H1 e1 r1 ⟨i, j, ed, h1, h3⟩ => ?_, hx⟩
  subst ed
  obtain ⟨v, t, rfl, rv, v2, t2, rfl, rv2, rt⟩ := r1
  cases rv; cases rv2; cases rt
  exact ⟨i, j, rfl, h1, hq _ _ H1 e1 feeds_rng h3⟩
/-- zip of two lists, of two tuples; the target is written as a tuple -/
def pairs (xs ys : List D) : List D := (xs.zip ys).map fun p => .tup [p.1, p.2]
theorem pairs_length {xs ys : List D} : (pairs xs ys).length = min xs.length ys.length := by unfold pairs; rw [List.length_map, List.length_zip]
theorem pairs_get {xs ys : List D} {i : Nat} {a b : D} (h : xs[i]? = some a) (h2 : ys[i]? = some b) : (pairs xs ys)[i]? = some (.tup [a, b]) := by
  unfold pairs
  have e : (xs.zip ys)[i]? = some (a, b) := List.getElem?_zip_eq_some.mpr ⟨h, h2⟩
  rw [List.getElem?_map, e]
  rfl
theorem feeds_zipL {wl : Wd} {H : Hp} {a b : Addr} {vs us : List V} {xs ys : List D} (hk : Wk wl H) (n : wl.fr a) (n2 : wl.fr b) (s : H a = some (.lst vs)) (s2 : H b = some (.lst us)) (r : RpL K wl H xs vs) (r2 : RpL K wl H ys us) : Feeds K wl H (Itz K a b) (pairs xs ys) := by
  intro w1 i H1 e
  have s' : H1 a = some (.lst vs) := e.keep _ _ n.1 n.2.2 s (fun _ z => nomatch z)
  have s2' : H1 b = some (.lst us) := e.keep _ _ n2.1 n2.2.2 s2 (fun _ z => nomatch z)
  have r' := RpL.step hk e _ _ r
  have r2' := RpL.step hk e _ _ r2
  have l1 := r.length
  have l2 := r2.length
  rw [pairs_length]
  refine ⟨fun hi => ?_, fun hi => ⟨vs, us, SqL.of s', SqL.of s2', by omega⟩, fun hi x H' y => ?_⟩
  · have h1 : i < vs.length := by omega
    have h2 : i < us.length := by omega
    exact ⟨vs, us, vs[i], us[i], SqL.of s', SqL.of s2', List.getElem?_eq_getElem h1, List.getElem?_eq_getElem h2⟩
  · obtain ⟨T, x1, x2, ex, nT, eH, f1, f2⟩ := y
    subst ex
    subst eH
    obtain ⟨d1, hd1, q1⟩ := r'.getV (f1 vs (SqL.of s'))
    obtain ⟨d2, hd2, q2⟩ := r2'.getV (f2 us (SqL.of s2'))
    refine ⟨Ext.new e.wk nT, .tup [d1, d2], pairs_get hd1 hd2, T, [x1, x2], rfl, SqT.of upd_same, ?_⟩
    exact RpL.grow nT [d1, d2] [x1, x2] ⟨x1, [x2], rfl, q1, x2, [], rfl, q2, rfl⟩
theorem feeds_zipT {wl : Wd} {H : Hp} {a b : Addr} {vs us : List V} {xs ys : List D} (hk : Wk wl H) (s : SqT K H a vs) (s2 : SqT K H b us) (r : RpL K wl H xs vs) (r2 : RpL K wl H ys us) : Feeds K wl H (RZ.ItzT K a b) (pairs xs ys) := by
  intro w1 i H1 e
  have s' := sqT_step s hk e
  have s2' := sqT_step s2 hk e
  have r' := RpL.step hk e _ _ r
  have r2' := RpL.step hk e _ _ r2
  have l1 := r.length
  have l2 := r2.length
  rw [pairs_length]
  refine ⟨fun hi => ?_, fun hi => ⟨vs, us, s', s2', by omega⟩, fun hi x H' y => ?_⟩
  · have h1 : i < vs.length := by omega
    have h2 : i < us.length := by omega
    exact ⟨vs, us, vs[i], us[i], s', s2', List.getElem?_eq_getElem h1, List.getElem?_eq_getElem h2⟩
  · obtain ⟨T, x1, x2, ex, nT, eH, f1, f2⟩ := y
    subst ex
    subst eH
    obtain ⟨d1, hd1, q1⟩ := r'.getV (f1 vs s')
    obtain ⟨d2, hd2, q2⟩ := r2'.getV (f2 us s2')
    refine ⟨Ext.new e.wk nT, .tup [d1, d2], pairs_get hd1 hd2, T, [x1, x2], rfl, SqT.of upd_same, ?_⟩
    exact RpL.grow nT [d1, d2] [x1, x2] ⟨x1, [x2], rfl, q1, x2, [], rfl, q2, rfl⟩
def fZip (f : PAx) : PAx := fun ρ q x => f ρ (fun ds => ∃ xs ys, (ds = [.tup xs, .tup ys] ∨ ds = [.lst xs, .lst ys]) ∧ q (pairs xs ys)) x
theorem di_zip {e e2 : Expr} {f : PAx} {p pos tpos : Pos} {elts : List Expr} {kk : Nat} (hg : Gl X "zip") (hm : X.mg "zip" = none) (ha : PA X [e, e2] (eA X W f)) (hs : starEach [e, e2] X.env = (false, eval e X.env) :: starEach [e2] X.env := by rfl)
    (hpl : (backTo pos (starEach [e2] X.env)).any (·.1) = false := by rfl) : PI X (.Tuple elts kk tpos) (.Call (.Name "zip" p) [e, e2] [] pos) (eI X W (fZip f)) := by
  refine PI.weak (RZ.pi_zipA hg hm ha hs hpl) fun σ H R ⟨wl, ρ, q, x, hk, he, hf, hq, hx⟩ => ?_
  refine ⟨wl, ρ, _, x, hk, he, hf, fun ds vs H1 e1 r1 ⟨xs, ys, hd, h1⟩ => ?_, hx⟩
  rcases hd with rfl | rfl
  · obtain ⟨v, t, rfl, ⟨a, us, rfl, s, r⟩, v2, t2, rfl, ⟨b, us2, rfl, s2, r2⟩, rt⟩ := r1
    cases rt
    exact ⟨a, b, us, us2, rfl, .inr ⟨s, s2, hq _ _ H1 e1 (feeds_zipT e1.wk s s2 r r2) h1⟩⟩
  · obtain ⟨v, t, rfl, ⟨a, us, rfl, n, s, r⟩, v2, t2, rfl, ⟨b, us2, rfl, n2, s2, r2⟩, rt⟩ := r1
    cases rt
    exact ⟨a, b, us, us2, rfl, .inl ⟨SqL.of s, SqL.of s2, hq _ _ H1 e1 (feeds_zipL e1.wk n n2 s s2 r r2) h1⟩⟩

/-! # for -/
def fLoop (t : Tg) (b : PSt) (P : Pn) : List D → Ev → Prop
  | [], ρ => P.nx ρ
  | d :: ds, ρ => tgE t d ρ fun ρ' => b { P with nx := fLoop t b P ds, ct := fLoop t b P ds, bk := P.nx } ρ'
def sFor (f : PAx) (t : Tg) (b : PSt) : PSt := fun P ρ => f ρ (fun ds => fLoop t b P ds ρ) (P.ex ρ)
theorem ds_for {tg iter : Expr} {body : List Stmt} {f : PAx} {t : Tg} {b : PSt} {pos : Pos} (hp : PassesOwn (model X.prog X.w) X.A X.env X.xe) (hc : X.calm = true) (hi : PI X tg iter (eI X W f)) (hg : PG X tg (tgV X.K t)) (hb : PSs X body (eS X W b))
    (hs : ∀ x, foldedSetIterable iter X.env x = pure x := by intro _; rfl) : PS X (.For tg iter body [] pos) (eS X W (sFor f t b)) := by
  refine PS.weak (ps_for hp hc hi hg hb hs) fun En σ H ⟨wl, ρ, P, hk, he, h, r⟩ => ?_
  refine ⟨wl, ρ, _, P.ex ρ, hk, he, h, fun ds J H1 e1 F h1 => ?_, r.out hk he⟩
  refine ⟨fun i m σ' H' => m = ds.length - i ∧ i ≤ ds.length ∧ ∃ wl', Step wl H1 wl' H' ∧ ∃ ρ', EvR X.K wl' H' ρ' σ' ∧ fLoop t b P (ds.drop i) ρ', ⟨_, rfl, Nat.zero_le _, wl, (Ext.refl e1.wk).step, ρ, he.ext hk e1, h1⟩, fun i m σ2 H2 hw => ?_⟩
  obtain ⟨em, hi2, w2, e2, ρ2, he2, h2⟩ := hw
  obtain ⟨F1, F2, F3⟩ := F w2 i H2 e2
  by_cases hlt : i < ds.length
  · refine .inr ⟨F1 hlt, fun σ3 H3 => ∃ wl', Step wl H1 wl' H3 ∧ ∃ ρ3, EvR X.K wl' H3 ρ3 σ3 ∧ fLoop t b P (ds.drop (i + 1)) ρ3, fun σ3 H3 ⟨w3, e3, ρ3, he3, h3⟩ => ⟨ds.length - (i + 1), by omega, rfl, hlt, w3, e3, ρ3, he3, h3⟩, fun x H3 hy => ?_⟩
    obtain ⟨e3, d, hd, rd⟩ := F3 hlt x H3 hy
    rw [List.drop_eq_getElem_cons hlt] at h2
    obtain rfl : ds[i] = d := by rw [List.getElem?_eq_getElem hlt] at hd; exact Option.some.inj hd
    refine tgV_mono t x σ2 H3 _ _ (fun σ4 H4 ⟨eH, _, ρ4, he4, h4⟩ => ?_) (tg_ok (own := slots t) t ds[i] x ρ2 σ2 H3 _ (fun _ z => z) e3.wk (he2.ext e2.wk e3) rd h2)
    have e13 := e2.trans (e3.trans eH).step
    have r1 := r.step (e1.step.trans e13)
    refine ⟨w2, ρ4, _, e13.wk, he4, h4, ⟨r1.T, fun w5 ρ5 σ5 H5 e5 r5 h5 => ⟨w5, e13.trans e5, ρ5, r5, h5⟩, fun w5 d v H5 e5 => r1.rt w5 d v H5 e5, fun w5 ρ5 σ5 H5 e5 => r1.nx w5 ρ5 σ5 H5 e5, fun w5 ρ5 σ5 H5 e5 r5 h5 => ⟨w5, e13.trans e5, ρ5, r5, h5⟩, fun w5 ρ5 σ5 H5 en c dd e5 => r1.ex w5 ρ5 σ5 H5 en c dd e5⟩⟩
  · have ei : i = ds.length := by omega
    subst ei
    rw [List.drop_length] at h2
    exact .inl ⟨F2 rfl, r.nx w2 ρ2 σ2 H2 (e1.step.trans e2) he2 h2⟩

/-! # while -/
def sWhile (c : PB) (b : PSt) : PSt := fun P ρ => ∃ I : Nat → Ev → Prop, (∃ m, I m ρ) ∧ ∀ m ρ, I m ρ → c ρ (fun t => (t = true → b { P with nx := fun ρ' => ∃ m', m' < m ∧ I m' ρ', ct := fun ρ' => ∃ m', m' < m ∧ I m' ρ', bk := P.nx } ρ) ∧ (t = false → P.nx ρ)) (P.ex ρ)
theorem ds_while {c : Expr} {body : List Stmt} {t : PB} {b : PSt} {pos : Pos} (hp : PassesOwn (model X.prog X.w) X.A X.env X.xe) (hc : PT X c (eB X W t)) (hb : PSs X body (eS X W b)) : PS X (.While c body [] pos) (eS X W (sWhile t b)) := by
  refine PS.weak (ps_while hp hc hb) fun En σ H ⟨wl, ρ, P, hk, he, ⟨I, ⟨m0, i0⟩, turn⟩, r⟩ => ?_
  refine ⟨fun m σ' H' => ∃ wl', Step wl H wl' H' ∧ ∃ ρ', EvR X.K wl' H' ρ' σ' ∧ I m ρ', ⟨m0, wl, (Ext.refl hk).step, ρ, he, i0⟩, fun m σ1 H1 ⟨w1, e1, ρ1, he1, i1⟩ => ?_⟩
  refine ⟨w1, ρ1, _, P.ex ρ1, e1.wk, he1, turn m ρ1 i1, fun tt H2 e2 h2 => ?_, (r.step e1).out e1.wk he1⟩
  have e12 := e1.trans e2.step
  have r1 := r.step e12
  cases tt with
  | true =>
    refine iteT ⟨fun σ' H' => ∃ m', m' < m ∧ ∃ wl', Step wl H wl' H' ∧ ∃ ρ', EvR X.K wl' H' ρ' σ' ∧ I m' ρ', fun σ' H' z => z, ?_⟩
    refine ⟨w1, ρ1, _, e2.wk, he1.ext e1.wk e2, h2.1 rfl, ⟨r1.T, fun w5 ρ5 σ5 H5 e5 r5 ⟨m', hm, h5⟩ => ⟨m', hm, w5, e12.trans e5, ρ5, r5, h5⟩, fun w5 d v H5 e5 => r1.rt w5 d v H5 e5, fun w5 ρ5 σ5 H5 e5 => r1.nx w5 ρ5 σ5 H5 e5, fun w5 ρ5 σ5 H5 e5 r5 ⟨m', hm, h5⟩ => ⟨m', hm, w5, e12.trans e5, ρ5, r5, h5⟩, fun w5 ρ5 σ5 H5 en c dd e5 => r1.ex w5 ρ5 σ5 H5 en c dd e5⟩⟩
  | false => exact iteF (r.nx w1 ρ1 σ1 H2 e12 (he1.ext e1.wk e2) (h2.2 rfl))

/-! # list comprehensions -/
def tYes' : PB := fun _ q _ => q true
def fLcLoop (t : Tg) (c : PB) (f : PX) (own : List Nat) (ρ : Ev) (q : D → Prop) : List D → List D → Prop
  | [], acc => q (.lst acc)
  | d :: ds, acc => tgE t d (wipeE ρ own) fun ρ2 => c ρ2 (fun b => (b = true → f ρ2 (fun y => acc.length < LIM ∧ fLcLoop t c f own ρ q ds (acc ++ [y])) fun _ => False) ∧ (b = false → fLcLoop t c f own ρ q ds acc)) fun _ => False
def fLc (fi : PAx) (t : Tg) (c : PB) (f : PX) (own : List Nat) : PX := fun ρ q x => fi ρ (fun ds => fLcLoop t c f own ρ q ds []) x
/-- where nothing is let out -/
def W0 (T : List (Addr × Str)) : WY := ⟨fun _ _ _ _ => False, T⟩
theorem out0 {T : List (Addr × Str)} {wl : Wd} {H : Hp} {σ : St} (h : wl.tabs = T) : Out X (W0 T) wl H σ fun _ => False := ⟨h, fun _ _ _ _ _ _ h => h⟩
theorem wipe_wipe {σ : St} {own : List Nat} : ∀ us : List Nat, (∀ i ∈ us, i ∈ own) → wipe (wipe σ us) own = wipe σ own
  | [], _ => rfl
  | v :: us, h => by
    show wipe ((wipe σ us).set v none) own = wipe σ own
    rw [wipe_set (h v (List.mem_cons_self ..)), wipe_wipe us fun i hi => h i (List.mem_cons_of_mem _ hi)]
theorem lc_weak {fi : PAx} {t : Tg} {c : PB} {f : PX} {own : List Nat} (hsl : ∀ i ∈ slots t, i ∈ own) {σ : St} {H : Hp} {Q : VK} (h : eE X W (fLc fi t c f own) σ H Q) : tLc (eI X W fi) (tgV X.K t) (eB X (W0 W.T) c) (eE X (W0 W.T) f) own σ H Q := by
  obtain ⟨wl, ρ, q, x, hk, he, hfi, hq, hx⟩ := h
  refine ⟨wl, ρ, _, x, hk, he, hfi, fun ds J H1 e1 F h1 Dl hD => ?_, hx⟩
  have fD : wl.fr Dl := e1.wk.new hD
  have hex : ∀ a, a ∈ [Dl] → H1 a = none := fun a ha => by
    have e : a = Dl := by simpa using ha
    rw [e]; exact hD
  have mD : (wl.hide [Dl]).hid Dl := .inl (List.mem_cons_self ..)
  -- where Dl holds a list, what stands apart stands
  have wkD : ∀ {H' : Hp} {vs : List V}, Wk wl H' → H' Dl = some (.lst vs) → Wk (wl.hide [Dl]) H' := fun {H' vs} k hv => ⟨k.well, fun a ha => by
    rcases ha with z | z
    · have e : a = Dl := by simpa using z
      rw [e]; exact ⟨_, hv, True.intro⟩
    · exact k.hid a z, k.ow, k.tabs⟩
  have un : ∀ {Ha Hb : Hp}, Ext (wl.hide [Dl]) Ha Hb → Ext wl Ha Hb := fun {Ha Hb} e => ⟨e.keep, e.wk.well, fun a ha => e.wk.hid a (.inr ha), e.wk.ow, e.wk.tabs⟩
  have st : ∀ {H' : Hp} {vs : List V}, Ext wl H1 H' → H' Dl = some (.lst vs) → Step wl H1 (wl.hide [Dl]) H' := fun {H' vs} e hv => ⟨rfl, rfl, fun a o n _ z t => e.keep a o n z t, fun a z => .inr z, fun a z => by
    rcases z with z | z
    · exact .inr (.inr (Fresh.of (hex a z)))
    · exact .inl z, fun a z => .inl z, wkD e.wk hv⟩
  refine ⟨fun i m H' => m = ds.length - i ∧ i ≤ ds.length ∧ Ext wl H1 H' ∧ ∃ acc vs, H' Dl = some (.lst vs) ∧ RpL X.K (wl.hide [Dl]) H' acc vs ∧ fLcLoop t c f own ρ q (ds.drop i) acc, ⟨_, rfl, Nat.zero_le _, Ext.new e1.wk hD, [], [], upd_same, rfl, h1⟩, fun i m H2 hw => ?_⟩
  obtain ⟨em, hi2, e2, acc, vs, hv2, ra, h2⟩ := hw
  obtain ⟨F1, F2, F3⟩ := F (wl.hide [Dl]) i H2 (st e2 hv2)
  by_cases hlt : i < ds.length
  · refine .inr ⟨F1 hlt, fun H3 => Ext wl H1 H3 ∧ ∃ acc vs, H3 Dl = some (.lst vs) ∧ RpL X.K (wl.hide [Dl]) H3 acc vs ∧ fLcLoop t c f own ρ q (ds.drop (i + 1)) acc, fun H3 ⟨e3, acc3, vs3, a3, b3, c3⟩ => ⟨ds.length - (i + 1), by omega, rfl, hlt, e3, acc3, vs3, a3, b3, c3⟩, fun x3 H3 hy => ?_⟩
    obtain ⟨e3', d, hd, rd⟩ := F3 hlt x3 H3 hy
    have e3 := un e3'
    rw [List.drop_eq_getElem_cons hlt] at h2
    obtain rfl : ds[i] = d := by rw [List.getElem?_eq_getElem hlt] at hd; exact Option.some.inj hd
    have hv3 : H3 Dl = some (.lst vs) := e3.keep _ _ fD.1 hv2 (fun _ z => nomatch z)
    have k3 := wkD e3.wk hv3
    have he3 := ((he.ext hk e1).into e1.wk hex (e2.trans e3)).wiped own
    have ra3 := RpL.ext (wkD e2.wk hv2) e3' _ _ ra
    refine tgV_mono t x3 (wipe σ own) H3 _ _ (fun σ4 H4 ⟨eH, ew, ρ4, he4, h4⟩ => ?_) (tg_ok (own := own) t ds[i] x3 (wipeE ρ own) (wipe σ own) H3 _ hsl k3 he3 rd h2)
    refine ⟨ew.trans (wipe_wipe own fun _ z => z), wl.hide [Dl], ρ4, _, _, eH.wk, he4, h4, fun b H5 e45 h5 => ?_, out0 hx.1⟩
    have e5 := eH.trans e45
    have e35 : Ext wl H3 H5 := un e5
    have hv5 : H5 Dl = some (.lst vs) := e5.keep _ _ fD.1 hv3 (fun _ z => nomatch z)
    have ra5 := RpL.ext k3 e5 _ _ ra3
    cases b with
    | true =>
      refine iteT ⟨wl.hide [Dl], ρ4, _, _, e5.wk, he4.ext eH.wk e45, h5.1 rfl, fun y vy H6 e6 r6 ⟨hl, h6⟩ => ?_, out0 hx.1⟩
      have hv6 : H6 Dl = some (.lst vs) := e6.keep _ _ fD.1 hv5 (fun _ z => nomatch z)
      have ra6 := RpL.ext e5.wk e6 _ _ ra5
      refine ⟨vs, hv6, lim_lt (by rw [ra6.length]; exact Nat.le_of_lt hl), ?_, acc ++ [y], vs ++ [vy], upd_same, RpL.write (fun z => z.2.1 mD) hv6 True.intro _ _ (ra6.append (RpL.one r6)), h6⟩
      have e16 : Ext wl H1 H6 := (e2.trans e3).trans (e35.trans (un e6))
      have n1 : ∀ a o, H1 a = some o → a ≠ Dl := fun a o e z => by rw [z, hD] at e; cases e
      refine ⟨fun a o w' e t => ?_, e16.wk.write hv6 True.intro True.intro fun z => (fD.1 z).elim⟩
      · rw [upd_ne (n1 a o e)]
        exact e16.keep a o w' e t
    | false => exact iteF ⟨(e2.trans e3).trans e35, acc, vs, hv5, ra5, h5.2 rfl⟩
  · have ei : i = ds.length := by omega
    subst ei
    rw [List.drop_length] at h2
    exact .inl ⟨F2 rfl, hq (.lst acc) (.ref Dl) H2 (e1.trans e2) ⟨Dl, vs, rfl, fD, hv2, RpL.out _ _ ra⟩ h2⟩
theorem d_lc {elt tg iter : Expr} {ifs : List Expr} {scope : Scope} {own : List (Str × Nat)} {pos : Pos} {fi : PAx} {t : Tg} {c : PB} {f : PX} (hc : X.calm = true) (hN : X.N.Nodup) (hi : PI X tg iter (eI X W fi)) (ok : BlkOk X.N X.env.scope scope own)
    (hg : ∀ (s : Shared) (H : Hp) (C : Addr) (cl : List (Str × Addr)) (fp : List Addr), PG (X.blk s H scope (compEnvC scope cl C X.env) fp) tg (tgV (X.blk s H scope (compEnvC scope cl C X.env) fp).K t))
    (ht : ∀ (s : Shared) (H : Hp) (C : Addr) (cl : List (Str × Addr)) (fp : List Addr), PTs (X.blk s H scope (compEnvC scope cl C X.env) fp) ifs (eB (X.blk s H scope (compEnvC scope cl C X.env) fp) (W0 W.T) c))
    (he : ∀ (s : Shared) (H : Hp) (C : Addr) (cl : List (Str × Addr)) (fp : List Addr), PE (X.blk s H scope (compEnvC scope cl C X.env) fp) elt (eE (X.blk s H scope (compEnvC scope cl C X.env) fp) (W0 W.T) f)) (hsl : ∀ i ∈ slots t, i ∈ own.map (·.2) := by decide)
    (hs : ∀ x, foldedSetIterable iter X.env x = pure x := by intro _; rfl) : PE X (.ListComp elt [⟨tg, iter, ifs, 0⟩] scope pos) (eE X W (fLc fi t c f (own.map (·.2)))) :=
  PE.weak (pe_lc (g := tgV X.K t) (tt := eB X (W0 W.T) c) (te := eE X (W0 W.T) f) hc hN hi ok hg ht he hs) fun _ _ _ h => lc_weak hsl h
theorem ds_setLc {i : Nat} {y : Str} {py : Pos} {elt tg iter : Expr} {ifs : List Expr} {scope : Scope} {own : List (Str × Nat)} {pos spos : Pos} {fi : PAx} {t : Tg} {c : PB} {f : PX} (hc : X.calm = true) (hN : X.N.Nodup) (hy : X.N[i]? = some y) (hyl : X.env.scope.names.lookup y = some .local)
    (hsw : swapsWith (.ListComp elt [⟨tg, iter, ifs, 0⟩] scope pos) (some (.Name y py)) spos.line X.env = pure true) (hi : PI X tg iter (eI X W fi)) (ok : BlkOk X.N X.env.scope scope own)
    (hg : ∀ (s : Shared) (H : Hp) (C : Addr) (cl : List (Str × Addr)) (fp : List Addr), PG (X.blk s H scope (compEnvC scope cl C X.env) fp) tg (tgV (X.blk s H scope (compEnvC scope cl C X.env) fp).K t))
    (ht : ∀ (s : Shared) (H : Hp) (C : Addr) (cl : List (Str × Addr)) (fp : List Addr), PTs (X.blk s H scope (compEnvC scope cl C X.env) fp) ifs (eB (X.blk s H scope (compEnvC scope cl C X.env) fp) (W0 W.T) c))
    (he : ∀ (s : Shared) (H : Hp) (C : Addr) (cl : List (Str × Addr)) (fp : List Addr), PE (X.blk s H scope (compEnvC scope cl C X.env) fp) elt (eE (X.blk s H scope (compEnvC scope cl C X.env) fp) (W0 W.T) f)) (hsl : ∀ i ∈ slots t, i ∈ own.map (·.2) := by decide)
    (hs : ∀ x, foldedSetIterable iter X.env x = pure x := by intro _; rfl) : PS X (.Assign [.Name y py] (.ListComp elt [⟨tg, iter, ifs, 0⟩] scope pos) spos) (eS X W (sSet i (fLc fi t c f (own.map (·.2))))) := by
  refine PS.weak (ps_setLc (g := tgV X.K t) (tt := eB X (W0 W.T) c) (te := eE X (W0 W.T) f) hc hN hy hyl hsw hi ok hg ht he hs) fun En σ H ⟨wl, ρ, P, hk, he', h, r⟩ => ?_
  exact lc_weak hsl ⟨wl, ρ, _, P.ex ρ, hk, he', h, fun d v H1 e1 r1 h1 => r.nx wl _ _ H1 e1.step ((he'.ext hk e1).set r1 i) h1, r.out hk he'⟩
theorem dts_nil : PTs X [] (eB X W tYes') := ⟨fun pins s σ H Q I ⟨wl, ρ, q, x, hk, he, hf, hq, hx⟩ => pts_nil.run pins s σ H Q I (hq true H (.refl hk) hf)⟩
theorem dts_one {c : Expr} {t : PB} (h : PT X c (eB X W t)) : PTs X [c] (eB X W t) := pts_one h
end
end PL

namespace PL
open PySem PySem.Spec L2
open PyProof.Rows (envOfC)

/-! # defs: a promise that knows that no repr is under way -/
structure FnOkG (P : Program) (w : World) (K : PySem.W.Frag) (mg : Str → Option Value) (base : Heap) (CX : CXT) (k : Nat) (f : Addr) (fd : FuncData) (ps : List Str) (sp : Sp) : Prop where
  len : ∀ vs H Q E, sp vs H Q E → vs.length = ps.length
  go : ∀ (A : Around) (outer : List Env) (s : Shared) (H : Hp) (args : Args) (us : List Value) (vs : List V) (Q : VK) (E : XK), A.guards = some [] → Room k A → Env0 P w K mg base A outer s H → BindsTo s fd args (ps.zip us) → Vals vs us → sp vs H Q E →
    codeAny (model P w) A (.call (.ref f) args) (CR CX outer P w H s Q E) s
section
variable {P : Program} {w : World} {K : PySem.W.Frag} {mg : Str → Option Value} {base : Heap} {CX : CXT} {k : Nat} {f : Addr} {fd : FuncData} {ps : List Str} {sp sp' : Sp}
theorem FnOkG.up {j : Nat} (F : FnOkG P w K mg base CX j f fd ps sp) (h : j ≤ k) : FnOkG P w K mg base CX k f fd ps sp := ⟨F.len, fun A o s H a us vs Q E hg hr => F.go A o s H a us vs Q E hg (hr.mono h)⟩
theorem FnOkG.weak (F : FnOkG P w K mg base CX k f fd ps sp) (h : ∀ vs H Q E, sp' vs H Q E → sp vs H Q E) : FnOkG P w K mg base CX k f fd ps sp' :=
  ⟨fun vs H Q E q => F.len vs H Q E (h _ _ _ _ q), fun A o s H a us vs Q E hg hr he hb hv hs => F.go A o s H a us vs Q E hg hr he hb hv (h _ _ _ _ hs)⟩
/-- a def of the text by its body -/
theorem fn_ofG {name qual : Str} {params : Arguments} {body : List Stmt} {scope : Scope} {dV kV doc pm cdv ct oc : Value} {an od : Option Addr} {osl : Array (Option Value)} {N : List Str}
    (lk : K.lookup f = some ⟨oc, od, .func (PySem.W.fnOf name qual params body scope dV kV doc pm an cdv ct), osl⟩) (hcd : PySem.W.codeIn K cdv qual = true) (S : FnScope N ps scope) (len : ∀ vs H Q E, sp vs H Q E → vs.length = ps.length)
    (hbody : ∀ (A : Around) (outer : List Env) (s : Shared) (H : Hp) (vs : List V) (Q : VK) (E : XK), A.guards = some [] → Room k (A.deeper (envOfC qual scope s.heap.objs.size f cdv)) → sp vs H Q E →
      ∃ t, PSs (cxOf CX P w K mg base N qual scope f cdv A outer s H E) body t ∧ t { nx := fun _ H' => Q .non H', rt := Q } (L2.start N vs) H) :
    FnOkG P w K mg base CX (k + 1) f (PySem.W.fnOf name qual params body scope dV kV doc pm an cdv ct) ps sp where
  len := len
  go A outer s H args us vs Q E hgd room env0 bnd rel hsp := by
    have lenV := len vs H Q E hsp
    have atS : ∀ b o, base.get? b = some o → s.heap.get? b = some o := fun b o e => (env0.bs b o e).1
    have inS : K.In s.heap := env0.mod.kin.keeps atS
    have nolim : s.heap.NoLimit := env0.mod.nolimit.keeps atS
    have kinds : ∀ y ∈ ps.zip us, scope.names.lookup y.1 = some .local ∨ (scope.names.lookup y.1 = some .cell ∧ ((cellsFrom (s.heap.objs.size + 1) scope.names []).lookup y.1).isSome = true) := by
      rintro ⟨nm, u⟩ hy
      cases S.par nm (List.of_mem_zip hy).1 with
      | inl q => exact .inl q
      | inr q => exact .inr ⟨q, PySem.W.cellsFrom_some _ _ _ (.inl q)⟩
    refine codeAny_call_function room.depth (inS _ _ lk) rfl S.co S.gen rfl (PySem.W.codeRec_of inS hcd) (bnd _ _ _ _ ?_)
    refine wpAny_newFunctionEnv_cells S.kind kinds fun env he s1 ic => ?_
    subst he
    refine ⟨nolim.keeps ic.toInCall.keep, codeAny_func ?_⟩
    obtain ⟨t, ht, hq⟩ := hbody A outer s H vs Q E hgd (room.deeper _) hsp
    have J : Inv (cxOf CX P w K mg base N qual scope f cdv A outer s H E) [] (L2.start N vs) H s1 := inv_start S room.hd env0 lenV rel ic
    refine wpAny_mono (ht.run [] s1 (L2.start N vs) H _ J hq) (fun fl s2 hs => ?_) fun _ _ hs => hs
    match fl, hs with
    | .ret u, ⟨v, _, H2, J2, rv, q⟩ => exact ⟨v, H2, J2.os, J2.bare, J2.base, J2.hok, rv, q⟩
    | .next, ⟨_, H2, J2, q⟩ => exact ⟨V.non, H2, J2.os, J2.bare, J2.base, J2.hok, rfl, q⟩
    | .brk, ⟨_, _, _, q⟩ => exact q.elim
    | .cont, ⟨_, _, _, q⟩ => exact q.elim
end

/-! ### the call of one, at the hand layer's level -/
section
variable {X : Cx} {W : WX} {k : Nat} {f : Addr} {fd : FuncData} {ps : List Str} {sp : Sp} {pins : List (Addr × Obj)} {σ : St} {H : Hp} {s : Shared} {Q : VK}
theorem run_G {us ws : List Value} {ks : List Str} {vs : List V} {as : List Value} (F : FnOkG X.prog X.w X.K X.mg X.base (L2.CX X.prog X.w) k f fd ps sp) (hgd : X.A.guards = some []) (hr : Room k X.A) (tk : Takes X W) (I : Inv X pins σ H s)
    (hb : BindsTo s fd ⟨us, ks.zip ws⟩ (ps.zip as)) (r : Vals vs as) (h : sp vs H Q fun c d H' => W c d σ H') : wpAny (model X.prog X.w) X.A (call (.ref f) us (ks.zip ws)) (EP X pins σ Q) X.xe s := by
  refine wpAny_call (codeAny_mono (F.go X.A X.stack s H ⟨us, ks.zip ws⟩ as vs Q _ hgd hr I.env0 hb r h) fun res s2 hres => ?_)
  match res, hres with
  | .error e, hx => exact tk e s2 (XE.of_call I (fun _ _ _ z => z) hx)
  | .ok (.ret u), hx => exact I.after hx
  | .ok .next, hx => exact hx.elim
  | .ok .brk, hx => exact hx.elim
  | .ok .cont, hx => exact hx.elim
/-- where a def of the top stands -/
def DefAt (K : PySem.W.Frag) (mg : Str → Option Value) (name : Str) (st : Stmt) (ps : List Str) (f : Addr) (fd : FuncData) : Prop := Fun K name name st f fd ∧ mg name = some (.ref f) ∧ Binds K fd ps []
/-- a def with its promise -/
def FnQ (P : Program) (w : World) (K : PySem.W.Frag) (mg : Str → Option Value) (base : Heap) (k : Nat) (name : Str) (st : Stmt) (ps : List Str) (sp : Sp) : Prop := ∃ f fd, DefAt K mg name st ps f fd ∧ FnOkG P w K mg base (L2.CX P w) k f fd ps sp
def tCallG (W : WX) (sp : Sp) (t : TA) : TE := fun σ H Q => t σ H fun vs H1 => sp vs H1 Q fun c d H' => W c d σ H'
theorem pe_callG {x : Str} {st : Stmt} {e : Expr} {es : List Expr} {t : TA} {p pos : Pos} (F : FnQ X.prog X.w X.K X.mg X.base k x st ps sp) (hgd : X.A.guards = some []) (hr : Room k X.A) (tk : Takes X W) (hg : Gl X x) (ha : PA X (e :: es) t) (hdb : (x == ("__debug__" : Str)) = false := by decide)
    (he : starEach (e :: es) X.env = (false, eval e X.env) :: starEach es X.env := by rfl) (hpl : (backTo pos (starEach es X.env)).any (·.1) = false := by rfl) : PE X (.Call (.Name x p) (e :: es) [] pos) (tCallG W sp t) := by
  obtain ⟨f, fd, ⟨FF, hm, hb⟩, F⟩ := F
  refine ⟨fun pins s σ H Q I h => wpAny_Call_Name_kw (ld_glob I hg hm ?_ hdb)⟩
  refine PySem.W.callWith_K (h₀ := X.base) I.ok.mod.kin FF.kp (thn (ha.run pos pins s σ H _ I h) fun us s1 ⟨vs, H1, I1, r, q⟩ => ⟨I1.kIn, ?_⟩) he hpl
  have hl : (us ++ []).length = ps.length := by rw [List.append_nil, ← r.length]; exact F.len _ _ _ _ q
  have b := hb s1 us I1.kIn hl
  rw [List.append_nil] at b
  exact run_G (ks := []) (ws := []) F hgd hr tk I1 b r q
theorem pe_callG0 {x : Str} {st : Stmt} {p pos : Pos} (F : FnQ X.prog X.w X.K X.mg X.base k x st ps sp) (hgd : X.A.guards = some []) (hr : Room k X.A) (tk : Takes X W) (hg : Gl X x) (hdb : (x == ("__debug__" : Str)) = false := by decide) : PE X (.Call (.Name x p) [] [] pos) (tCallG W sp tNil) := by
  obtain ⟨f, fd, ⟨FF, hm, hb⟩, F⟩ := F
  refine ⟨fun pins s σ H Q I h => wpAny_Call_Name_kw (ld_glob I hg hm ?_ hdb)⟩
  have hl : (([] : List Value) ++ []).length = ps.length := by have := F.len _ _ _ _ h; simpa using this
  have b := hb s [] I.kIn hl
  exact PySem.W.callWith_K0 I.kIn FF.kp (run_G (us := []) (ks := []) (ws := []) (as := []) F hgd hr tk I b .nil h)
/-- which of the written values goes to which parameter -/
def pick {α : Type} (perm : List Nat) (l : List α) : List α := perm.filterMap fun i => l[i]?
theorem vals_pick {vs : List V} {us : List Value} (r : Vals vs us) : ∀ perm : List Nat, Vals (pick perm vs) (pick perm us)
  | [] => .nil
  | i :: perm => by
    have ih := vals_pick r perm
    unfold pick at ih ⊢
    rw [List.filterMap_cons, List.filterMap_cons]
    cases e : vs[i]? with
    | none => rw [r.none_of e]; exact ih
    | some v =>
      obtain ⟨u, e2, rv⟩ := r.get e
      rw [e2]
      exact .cons rv ih
/-- how the n positional and the keywords' values are bound -/
def KwOk (name : Str) (st : Stmt) (ps : List Str) (n : Nat) (ks : List Str) (perm : List Nat) : Prop := ∀ (kV doc pm : Value) (an : Option Addr) (cdv ct : Value) (us ws : List Value), us.length = n → ws.length = ks.length →
  bindArgs (PySem.W.fnOf name name (defArgs st) (defBody st) (defScope st) .none kV doc pm an cdv ct) ⟨us, ks.zip ws⟩ = pure (ps.zip (pick perm (us ++ ws)))
def tCallKG (W : WX) (n m : Nat) (perm : List Nat) (sp : Sp) (t tk : TA) : TE := fun σ H Q => t σ H fun vs H1 => tk σ H1 fun zs H2 => vs.length = n ∧ zs.length = m ∧ sp (pick perm (vs ++ zs)) H2 Q fun c d H' => W c d σ H'
theorem pe_callKG {x : Str} {st : Stmt} {e : Expr} {es : List Expr} {kws : List Keyword} {ks : List Str} {n : Nat} {perm : List Nat} {t tw : TA} {p pos : Pos} (F : FnQ X.prog X.w X.K X.mg X.base k x st ps sp) (kb : KwOk x st ps n ks perm) (hgd : X.A.guards = some []) (hr : Room k X.A) (tk : Takes X W) (hg : Gl X x)
    (ha : PA X (e :: es) t) (hkw : PK X kws tw) (hall : (backToKw pos (keywordEach kws X.env)).all (·.1.isSome) = true := by rfl) (hks : (backToKw pos (keywordEach kws X.env)).filterMap (·.1) = ks := by rfl) (hdb : (x == ("__debug__" : Str)) = false := by decide)
    (he : starEach (e :: es) X.env = (false, eval e X.env) :: starEach es X.env := by rfl) (hpl : ((backTo pos (starEach (e :: es) X.env)).any (·.1) || (backToKw pos (keywordEach kws X.env)).any (·.1.isNone)) = false := by rfl) :
    PE X (.Call (.Name x p) (e :: es) kws pos) (tCallKG W n ks.length perm sp t tw) := by
  obtain ⟨f, fd, ⟨FF, hm, hb⟩, F⟩ := F
  refine ⟨fun pins s σ H Q I h => wpAny_Call_Name_kw (ld_glob I hg hm ?_ hdb)⟩
  refine PySem.W.callWith_KW (h₀ := X.base) I.ok.mod.kin FF.kp hall (thn (ha.run pos pins s σ H _ I h) fun us s1 ⟨vs, H1, I1, r, q⟩ => ?_) hpl he
  refine thn (hkw.run pos pins s1 σ H1 _ I1 q) fun ws s2 ⟨zs, H2, I2, rz, l1, l2, q2⟩ => ⟨I2.kIn, ?_⟩
  rw [hks]
  obtain ⟨oc, od, kV, doc, pm, an, cdv, ct, osl, efd, lk, hcd⟩ := FF.ex
  have b : BindsTo s2 fd ⟨us, ks.zip ws⟩ (ps.zip (pick perm (us ++ ws))) := by
    rw [efd]
    exact .of_eq (kb kV doc pm an cdv ct us ws (r.length.symm.trans l1) (rz.length.symm.trans l2))
  exact run_G F hgd hr tk I2 b (vals_pick (r.append rz) perm) q2
theorem pe_callKG0 {x : Str} {st : Stmt} {kws : List Keyword} {ks : List Str} {perm : List Nat} {tw : TA} {p pos : Pos} (F : FnQ X.prog X.w X.K X.mg X.base k x st ps sp) (kb : KwOk x st ps 0 ks perm) (hgd : X.A.guards = some []) (hr : Room k X.A) (tk : Takes X W) (hg : Gl X x)
    (hkw : PK X kws tw) (hall : (backToKw pos (keywordEach kws X.env)).all (·.1.isSome) = true := by rfl) (hks : (backToKw pos (keywordEach kws X.env)).filterMap (·.1) = ks := by rfl) (hdb : (x == ("__debug__" : Str)) = false := by decide)
    (hpl : (backToKw pos (keywordEach kws X.env)).any (·.1.isNone) = false := by rfl) :
    PE X (.Call (.Name x p) [] kws pos) (tCallKG W 0 ks.length perm sp tNil tw) := by
  obtain ⟨f, fd, ⟨FF, hm, hb⟩, F⟩ := F
  refine ⟨fun pins s σ H Q I h => wpAny_Call_Name_kw (ld_glob I hg hm ?_ hdb)⟩
  refine PySem.W.callWith_KW0 (h₀ := X.base) I.ok.mod.kin FF.kp hall (thn (hkw.run pos pins s σ H _ I h) fun ws s2 ⟨zs, H2, I2, rz, l1, l2, q2⟩ => ⟨I2.kIn, ?_⟩) hpl
  rw [hks]
  obtain ⟨oc, od, kV, doc, pm, an, cdv, ct, osl, efd, lk, hcd⟩ := FF.ex
  have b : BindsTo s2 fd ⟨[], ks.zip ws⟩ (ps.zip (pick perm ([] ++ ws))) := by
    rw [efd]
    exact .of_eq (kb kV doc pm an cdv ct [] ws rfl (rz.length.symm.trans l2))
  exact run_G (us := []) F hgd hr tk I2 b (vals_pick (Vals.append .nil rz) perm) q2
end

/-! # promises by data -/
abbrev PSp := List D → (D → Prop) → (Xn → Prop) → Prop
def spOf (K : PySem.W.Frag) (mg : Str → Option Value) (T : List (Addr × Str)) (s : PSp) : Sp := fun vs H Q E => ∃ (wl : Wd) (ds : List D) (q : D → Prop) (x : Xn → Prop), wl.tabs = T ∧ Wk wl H ∧ RpL K wl H ds vs ∧ s ds q x ∧ (∀ d v H', Ext wl H H' → Rp K wl H' d v → q d → Q v H') ∧ (∀ e c dd H', Ext wl H H' → XnR K mg wl H' e c dd → x e → E c dd H')
abbrev FnD (P : Program) (w : World) (K : PySem.W.Frag) (mg : Str → Option Value) (base : Heap) (T : List (Addr × Str)) (k : Nat) (name : Str) (st : Stmt) (ps : List Str) (s : PSp) : Prop := FnQ P w K mg base k name st ps (spOf K mg T s)
def startD (N : List Str) (ds : List D) : Ev := ds.map .dt ++ List.replicate (N.length - ds.length) .no
theorem evr_start {K : PySem.W.Frag} {wl : Wd} {H : Hp} {N : List Str} {ds : List D} {vs : List V} (r : RpL K wl H ds vs) : EvR K wl H (startD N ds) (L2.start N vs) := by
  have hl := r.length
  have no : ∀ (i : Nat) (xs : List D), (startD N ds)[i]? ≠ some (.ow xs) := fun i xs e => by
    unfold startD at e
    by_cases hi : i < ds.length
    · rw [List.getElem?_append_left (by simpa using hi), List.getElem?_map] at e
      cases q : ds[i]? with
      | none => rw [q] at e; cases e
      | some d' => rw [q] at e; cases e
    · rw [List.getElem?_append_right (by simpa using Nat.le_of_not_lt hi), List.getElem?_replicate] at e
      split at e <;> cases e
  refine ⟨by unfold startD L2.start; simp [hl], fun i d e => ?_, fun i xs e => (no i xs e).elim, fun i j xs ys a e => (no i xs e).elim⟩
  unfold startD at e
  by_cases hi : i < ds.length
  · rw [List.getElem?_append_left (by simpa using hi), List.getElem?_map] at e
    cases q : ds[i]? with
    | none => rw [q] at e; cases e
    | some d' =>
      rw [q] at e
      cases e
      obtain ⟨v, hv, rv⟩ := r.get q
      refine ⟨v, ?_, rv⟩
      unfold L2.start
      rw [List.getElem?_append_left (by simpa [hl] using hi), List.getElem?_map, hv]
      rfl
  · rw [List.getElem?_append_right (by simpa using Nat.le_of_not_lt hi), List.getElem?_replicate] at e
    split at e <;> cases e
/-- the world of a def that is called: what its caller may change stands apart -/
def Wd.call (w : Wd) : Wd := ⟨w.wl, fun a => w.hid a ∨ w.ow a, fun _ => False, w.tabs⟩
theorem Wk.call {w : Wd} {H : Hp} (h : Wk w H) : Wk w.call H := ⟨h.well, fun a z => z.elim (h.hid a) (h.ow a), fun _ z => z.elim, h.tabs⟩
theorem Wd.call_fr {w : Wd} {a : Addr} : w.fr a ↔ w.call.fr a := ⟨fun f => ⟨f.1, fun z => z.elim f.2.1 f.2.2, fun z => z⟩, fun f => ⟨f.1, fun z => f.2.1 (.inl z), fun z => f.2.1 (.inr z)⟩⟩
section
variable {K : PySem.W.Frag} {w w' : Wd} {H H' : Hp}
theorem Step.back (x : Step w.call H w' H') : Ext w H H' :=
  ⟨fun a o n e t => x.keep a o n (fun z => z) e t, fun a z => x.wk.well a (x.wl.trans z), fun a z => x.wk.hid a (x.hid a (.inl z)), fun a z => x.wk.hid a (x.hid a (.inr z)), by have := x.wk.tabs; rw [x.tabs] at this; exact this⟩
theorem Step.back_fr (x : Step w.call H w' H') {a : Addr} (f : w'.fr a) : w.fr a :=
  ⟨by have := f.1; rw [x.wl] at this; exact this, fun z => f.2.1 (x.hid a (.inl z)), fun z => f.2.1 (x.hid a (.inr z))⟩
theorem Step.back_rp (x : Step w.call H w' H') {d : D} {v : V} (r : Rp K w' H' d v) : Rp K w H' d v := Rp.less (by rw [x.wl]; rfl) (fun _ f => x.back_fr f) d v r
theorem Step.back_xn {mg : Str → Option Value} (x : Step w.call H w' H') {e : Xn} {c : Value} {dd : Option Addr} (r : XnR K mg w' H' e c dd) : XnR K mg w H' e c dd := by
  obtain ⟨h1, h2⟩ := r
  refine ⟨h1, ?_⟩
  cases ea : e.arg with
  | none => trivial
  | some p =>
    obtain ⟨f, d⟩ := p
    rw [ea] at h2
    obtain ⟨a, v, h3, h4, h5, h6⟩ := h2
    exact ⟨a, v, h3, x.back_fr h4, h5, x.back_rp h6⟩
end
/-- a body's derivation -/
abbrev Bdy (P : Program) (w : World) (K : PySem.W.Frag) (mg : Str → Option Value) (base : Heap) (T : List (Addr × Str)) (k : Nat) (name : Str) (st : Stmt) (N : List Str) (f : Addr) (g : PSt) : Prop :=
  ∀ (cdv : Value) (A : Around) (outer : List Env) (s0 : Shared) (H : Hp) (E : XK), Room k (A.deeper (envOfC name (defScope st) s0.heap.objs.size f cdv)) → A.guards = some [] →
      Takes (cxOf (L2.CX P w) P w K mg base N name (defScope st) f cdv A outer s0 H E) (fun c d _ H' => E c d H') →
      PassesOwn (model P w) (A.deeper (envOfC name (defScope st) s0.heap.objs.size f cdv)) (envOfC name (defScope st) s0.heap.objs.size f cdv) (cxOf (L2.CX P w) P w K mg base N name (defScope st) f cdv A outer s0 H E).xe →
      PSs (cxOf (L2.CX P w) P w K mg base N name (defScope st) f cdv A outer s0 H E) (defBody st) (eS (cxOf (L2.CX P w) P w K mg base N name (defScope st) f cdv A outer s0 H E) ⟨fun c d _ H' => E c d H', T⟩ g)
/-- a def by data: its body's derivation, its promise from the body's reading -/
theorem fn_ok {P : Program} {w : World} {K : PySem.W.Frag} {mg : Str → Option Value} {base : Heap} {T : List (Addr × Str)} {k : Nat} {name : Str} {st : Stmt} {ps N : List Str} {s : PSp} {g : PSt} {f : Addr} {fd : FuncData} (F : DefAt K mg name st ps f fd) (S : FnScope N ps (defScope st))
    (body : Bdy P w K mg base T k name st N f g)
    (hs : ∀ ds q x, s ds q x → ds.length = ps.length ∧ g ⟨fun _ => q .non, q, fun _ => False, fun _ => False, fun _ e => x e⟩ (startD N ds)) : FnOkG P w K mg base (L2.CX P w) (k + 1) f fd ps (spOf K mg T s) := by
  obtain ⟨FF, hm, hb⟩ := F
  obtain ⟨oc, od, kV, doc, pm, an, cdv, ct, osl, rfl, lk, hcd⟩ := FF.ex
  refine fn_ofG lk hcd S (fun vs H Q E ⟨wl, ds, q, x, _, _, r, h, _⟩ => r.length.trans (hs ds q x h).1) fun A outer s0 H vs Q E hgd hr hsp => ?_
  obtain ⟨wl, ds, q, x, ht, hk, r, h, hq, hx⟩ := hsp
  refine ⟨_, body cdv A outer s0 H E hr hgd (takes_of rfl rfl rfl rfl) (passes_of rfl), wl.call, _, _, hk.call, evr_start (RpL.less (w := wl) (w' := wl.call) rfl (fun _ f => Wd.call_fr.mp f) ds vs r), (hs ds q x h).2, ?_⟩
  exact ⟨ht, fun w ρ σ H' e _ z => hq .non .non H' e.back rfl z, fun w d v H' e r' z => hq d v H' e.back (e.back_rp r') z, fun _ _ _ _ _ _ z => z.elim, fun _ _ _ _ _ _ z => z.elim, fun w ρ σ H' en c dd e _ r' z => hx en c dd H' e.back (e.back_xn r') z⟩
/-- a def of the top, as it stands -/
def DefE (K : PySem.W.Frag) (mg : Str → Option Value) (name : Str) (st : Stmt) (ps : List Str) : Prop := ∃ f fd, DefAt K mg name st ps f fd
theorem fn_mk {P : Program} {w : World} {K : PySem.W.Frag} {mg : Str → Option Value} {base : Heap} {T : List (Addr × Str)} {k : Nat} {name : Str} {st : Stmt} {ps N : List Str} {s : PSp} {g : PSt} (F : DefE K mg name st ps) (S : FnScope N ps (defScope st))
    (body : ∀ f, Bdy P w K mg base T k name st N f g)
    (hs : ∀ ds q x, s ds q x → ds.length = ps.length ∧ g ⟨fun _ => q .non, q, fun _ => False, fun _ => False, fun _ e => x e⟩ (startD N ds)) : FnD P w K mg base T (k + 1) name st ps s := by
  obtain ⟨f, fd, F⟩ := F
  exact ⟨f, fd, F, fn_ok F S (body f) hs⟩
section
variable {X : Cx} {W : WY} {k : Nat} {ps : List Str} {s : PSp}
def fCall (s : PSp) (fa : PAx) : PX := fun ρ q x => fa ρ (fun ds => s ds q x) x
theorem call_weak {fa : PAx} {σ : St} {H : Hp} {Q : VK} (h : eE X W (fCall s fa) σ H Q) : tCallG W.x (spOf X.K X.mg W.T s) (eA X W fa) σ H Q := by
  obtain ⟨wl, ρ, q, x, hk, he, hf, hq, hx⟩ := h
  exact ⟨wl, ρ, _, x, hk, he, hf, fun ds vs H1 e1 r1 h1 => ⟨wl, ds, q, x, hx.1, e1.wk, r1, h1, fun d v H2 e2 r2 => hq d v H2 (e1.trans e2) r2, (hx.ext e1).2⟩, hx⟩
theorem d_call {x : Str} {st : Stmt} {e : Expr} {es : List Expr} {fa : PAx} {p pos : Pos} (F : FnD X.prog X.w X.K X.mg X.base W.T k x st ps s) (hgd : X.A.guards = some []) (hr : Room k X.A) (tk : Takes X W.x) (hg : Gl X x) (ha : PA X (e :: es) (eA X W fa)) (hdb : (x == ("__debug__" : Str)) = false := by decide)
    (he : starEach (e :: es) X.env = (false, eval e X.env) :: starEach es X.env := by rfl) (hpl : (backTo pos (starEach es X.env)).any (·.1) = false := by rfl) : PE X (.Call (.Name x p) (e :: es) [] pos) (eE X W (fCall s fa)) :=
  PE.weak (pe_callG F hgd hr tk hg ha hdb he hpl) fun _ _ _ h => call_weak h
theorem d_call0 {x : Str} {st : Stmt} {p pos : Pos} (F : FnD X.prog X.w X.K X.mg X.base W.T k x st ps s) (hgd : X.A.guards = some []) (hr : Room k X.A) (tk : Takes X W.x) (hg : Gl X x) (hdb : (x == ("__debug__" : Str)) = false := by decide) : PE X (.Call (.Name x p) [] [] pos) (eE X W (fCall s fNil)) :=
  PE.weak (pe_callG0 F hgd hr tk hg hdb) fun σ H Q ⟨wl, ρ, q, x, hk, he, hf, hq, hx⟩ => ⟨wl, [], q, x, hx.1, hk, rfl, hf, hq, hx.2⟩
theorem rp_pick {K : PySem.W.Frag} {wl : Wd} {H : Hp} {ds : List D} {vs : List V} (r : RpL K wl H ds vs) : ∀ perm : List Nat, RpL K wl H (pick perm ds) (pick perm vs)
  | [] => rfl
  | i :: perm => by
    have ih := rp_pick r perm
    unfold pick at ih ⊢
    rw [List.filterMap_cons, List.filterMap_cons]
    cases e : ds[i]? with
    | none =>
      have : vs[i]? = none := by
        rw [List.getElem?_eq_none_iff] at e ⊢
        rw [r.length]; exact e
      rw [this]; exact ih
    | some d =>
      obtain ⟨v, e2, rv⟩ := r.get e
      rw [e2]
      exact ⟨v, _, rfl, rv, ih⟩
def ekK (X : Cx) (W : WY) (kws : List Keyword) (f : PAx) : Prop := PK X kws (eA X W f)
theorem dk_nil : PK X [] (eA X W fNil) := ⟨fun pos pins s σ H Q I ⟨wl, ρ, q, x, hk, he, hf, hq, hx⟩ => pk_nil.run pos pins s σ H Q I (hq [] [] H (.refl hk) rfl hf)⟩
theorem dk_cons {nm : Option Str} {e : Expr} {kpos : Pos} {kws : List Keyword} {fa : PX} {fr : PAx} (ha : PE X e (eE X W fa)) (hr : PK X kws (eA X W fr)) : PK X (⟨nm, e, kpos⟩ :: kws) (eA X W (fCons fa fr)) :=
  ⟨fun pos pins s σ H Q I ⟨wl, ρ, q, x, hk, he, hf, hq, hx⟩ => (pk_cons ha hr).run pos pins s σ H Q I
    ⟨wl, ρ, _, x, hk, he, hf, fun d v H1 e1 r1 h1 => ⟨wl, ρ, _, x, e1.wk, he.ext hk e1, h1, fun ds vs H2 e2 r2 h2 => hq (d :: ds) _ H2 (e1.trans e2) ⟨v, vs, rfl, Rp.ext e1.wk e2 _ _ r1, r2⟩ h2, hx.ext e1⟩, hx⟩⟩
def fCallK (n m : Nat) (perm : List Nat) (s : PSp) (fa fk : PAx) : PX := fun ρ q x => fa ρ (fun ds => fk ρ (fun es => ds.length = n ∧ es.length = m ∧ s (pick perm (ds ++ es)) q x) x) x
theorem callK_weak {n m : Nat} {perm : List Nat} {fa fk : PAx} {σ : St} {H : Hp} {Q : VK} (h : eE X W (fCallK n m perm s fa fk) σ H Q) : tCallKG W.x n m perm (spOf X.K X.mg W.T s) (eA X W fa) (eA X W fk) σ H Q := by
  obtain ⟨wl, ρ, q, x, hk, he, hf, hq, hx⟩ := h
  refine ⟨wl, ρ, _, x, hk, he, hf, fun ds vs H1 e1 r1 h1 => ⟨wl, ρ, _, x, e1.wk, he.ext hk e1, h1, fun es us H2 e2 r2 ⟨l1, l2, h2⟩ => ?_, hx.ext e1⟩, hx⟩
  have e12 := e1.trans e2
  exact ⟨r1.length.trans l1, r2.length.trans l2, wl, _, q, x, hx.1, e2.wk, rp_pick ((RpL.ext e1.wk e2 _ _ r1).append r2) perm, h2, fun d v H3 e3 r3 => hq d v H3 (e12.trans e3) r3, (hx.ext e12).2⟩
theorem d_callK {x : Str} {st : Stmt} {e : Expr} {es : List Expr} {kws : List Keyword} {ks : List Str} {n : Nat} {perm : List Nat} {fa fk : PAx} {p pos : Pos} (F : FnD X.prog X.w X.K X.mg X.base W.T k x st ps s) (kb : KwOk x st ps n ks perm) (hgd : X.A.guards = some []) (hr : Room k X.A) (tk : Takes X W.x) (hg : Gl X x)
    (ha : PA X (e :: es) (eA X W fa)) (hkw : PK X kws (eA X W fk)) (hall : (backToKw pos (keywordEach kws X.env)).all (·.1.isSome) = true := by rfl) (hks : (backToKw pos (keywordEach kws X.env)).filterMap (·.1) = ks := by rfl) (hdb : (x == ("__debug__" : Str)) = false := by decide)
    (he : starEach (e :: es) X.env = (false, eval e X.env) :: starEach es X.env := by rfl) (hpl : ((backTo pos (starEach (e :: es) X.env)).any (·.1) || (backToKw pos (keywordEach kws X.env)).any (·.1.isNone)) = false := by rfl) :
    PE X (.Call (.Name x p) (e :: es) kws pos) (eE X W (fCallK n ks.length perm s fa fk)) :=
  PE.weak (pe_callKG F kb hgd hr tk hg ha hkw hall hks hdb he hpl) fun _ _ _ h => callK_weak h
theorem d_callK0 {x : Str} {st : Stmt} {kws : List Keyword} {ks : List Str} {perm : List Nat} {fk : PAx} {p pos : Pos} (F : FnD X.prog X.w X.K X.mg X.base W.T k x st ps s) (kb : KwOk x st ps 0 ks perm) (hgd : X.A.guards = some []) (hr : Room k X.A) (tk : Takes X W.x) (hg : Gl X x)
    (hkw : PK X kws (eA X W fk)) (hall : (backToKw pos (keywordEach kws X.env)).all (·.1.isSome) = true := by rfl) (hks : (backToKw pos (keywordEach kws X.env)).filterMap (·.1) = ks := by rfl) (hdb : (x == ("__debug__" : Str)) = false := by decide)
    (hpl : (backToKw pos (keywordEach kws X.env)).any (·.1.isNone) = false := by rfl) :
    PE X (.Call (.Name x p) [] kws pos) (eE X W (fCallK 0 ks.length perm s fNil fk)) := by
  refine PE.weak (pe_callKG0 F kb hgd hr tk hg hkw hall hks hdb hpl) fun σ H Q ⟨wl, ρ, q, x, hk, he, hf, hq, hx⟩ => ?_
  refine ⟨wl, ρ, _, x, hk, he, hf, fun es us H2 e2 r2 ⟨l1, l2, h2⟩ => ?_, hx⟩
  exact ⟨rfl, r2.length.trans l2, wl, _, q, x, hx.1, e2.wk, rp_pick (RpL.append (show RpL X.K wl H2 [] [] from rfl) r2) perm, h2, fun d v H3 e3 r3 => hq d v H3 (e2.trans e3) r3, (hx.ext e2).2⟩
/-! ### f(g(..)), g's list of three numbers being f's well -/
def okArg : D → Bool
  | .non => true
  | .bl _ => true
  | .int _ => true
  | .str _ => true
  | .ty _ => true
  | .scr _ => true
  | _ => false
theorem okArg_rp {K : PySem.W.Frag} {wl wl' : Wd} {H : Hp} : ∀ {ds : List D} {vs : List V}, ds.all okArg = true → RpL K wl H ds vs → RpL K wl' H ds vs
  | [], _, _, r => r
  | d :: ds, _, g, ⟨v, t, e, r, q⟩ => by
    rw [List.all_cons, Bool.and_eq_true] at g
    refine ⟨v, t, e, ?_, okArg_rp g.2 q⟩
    have g1 := g.1
    cases d <;> first | exact r | (simp [okArg] at g1)
def fWell (sf sg : PSp) (fa : PAx) : PX := fun ρ q x => fa ρ (fun ds => ds.all okArg = true ∧ sg ds (fun r => ∃ i j k : Int, r = .lst [.int i, .int j, .int k] ∧ 0 ≤ i ∧ 0 ≤ j ∧ j < 2147483648 ∧ sf [.well] (fun d => flat d = true ∧ q d) fun _ => False) fun _ => False) x
theorem well_weak {sf sg : PSp} {fa : PAx} {σ : St} {H : Hp} {Q : VK} (h : eE X W (fWell sf sg fa) σ H Q) : tCallG W.x (spOf X.K X.mg W.T sf) (tCons (tCallG W.x (spOf X.K X.mg W.T sg) (eA X W fa)) tNil) σ H Q := by
  obtain ⟨wl, ρ, q, x, hk, he, hf, hq, hx⟩ := h
  refine ⟨wl, ρ, _, x, hk, he, hf, fun ds vs H1 e1 r1 ⟨ok, h1⟩ => ?_, hx⟩
  refine ⟨⟨none, fun a => ∃ o, H1 a = some o ∧ Mut o, fun _ => False, wl.tabs⟩, ds, _, fun _ => False, hx.1, ⟨(fun _ z => nomatch z), (fun _ z => z), (fun _ z => z.elim), e1.wk.tabs⟩, okArg_rp ok r1, h1, fun d v H2 e2 r2 ⟨i, j, k, ed, b1, b2, b3, h2⟩ => ?_, fun _ _ _ _ _ _ z => z.elim⟩
  subst ed
  obtain ⟨p, us, rfl, f2, s2, v1, t1, rfl, c1, v2, t2, rfl, c2, v3, t3, rfl, c3, c4⟩ := r2
  cases c1; cases c2; cases c3; cases c4
  have np : ∀ a o, H1 a = some o → NT o → a ≠ p := fun a o z t y => by
    subst y
    have z2 := e2.keep a o (fun y => nomatch y) z t
    rw [s2] at z2
    cases z2
    exact (f2.2.1 ⟨_, z, True.intro⟩).elim
  have back2 : ∀ a o, H1 a = some o → NT o → H2 a = some o := fun a o z t => e2.keep a o (fun y => nomatch y) z t
  have k2 : Wk ⟨some p, fun a => wl.hid a ∨ wl.ow a, fun _ => False, wl.tabs⟩ H2 := by
    refine ⟨fun a z => ?_, fun a z => ?_, fun _ z => z.elim, e2.wk.tabs⟩
    · cases z
      exact ⟨i, j, k, s2, b1, b2, b3⟩
    · rcases z with z | z
      · obtain ⟨o, z2, m⟩ := e1.wk.hid a z
        exact ⟨o, back2 a o z2 m.nt, m⟩
      · obtain ⟨o, z2, m⟩ := e1.wk.ow a z
        exact ⟨o, back2 a o z2 m.nt, m⟩
  refine ⟨⟨some p, fun a => wl.hid a ∨ wl.ow a, fun _ => False, wl.tabs⟩, [.well], _, fun _ => False, hx.1, k2, ⟨.ref p, [], rfl, ⟨p, rfl, rfl⟩, rfl⟩, h2, fun d v H3 e3 r3 ⟨fd, hd⟩ => ?_, fun _ _ _ _ _ _ z => z.elim⟩
  have back : ∀ a o, H1 a = some o → NT o → H3 a = some o := fun a o z t => e3.keep a o (fun y => np a o z t (Option.some.inj y).symm) (back2 a o z t) t
  have e13 : Ext wl H1 H3 := by
    refine ⟨fun a o _ z t => back a o z t, fun a z => ?_, fun a z => ?_, fun a z => ?_, e3.wk.tabs⟩
    · obtain ⟨i', j', k', z1, z2⟩ := e1.wk.well a z
      exact ⟨i', j', k', back _ _ z1 (fun _ y => nomatch y), z2⟩
    · obtain ⟨o, z1, m⟩ := e1.wk.hid a z
      exact ⟨o, back _ _ z1 m.nt, m⟩
    · obtain ⟨o, z1, m⟩ := e1.wk.ow a z
      exact ⟨o, back _ _ z1 m.nt, m⟩
  refine hq d v H3 (e1.trans e13) ?_ hd
  cases d <;> first | exact r3 | (simp [flat] at fd)
theorem d_well {k' : Nat} {ps' : List Str} {sg : PSp} {x y : Str} {st st' : Stmt} {e : Expr} {es : List Expr} {fa : PAx} {p pos p' pos' : Pos} (F : FnD X.prog X.w X.K X.mg X.base W.T k x st ps s) (G : FnD X.prog X.w X.K X.mg X.base W.T k' y st' ps' sg) (hgd : X.A.guards = some []) (hr : Room k X.A) (hr' : Room k' X.A) (tk : Takes X W.x) (hg : Gl X x) (hg' : Gl X y) (ha : PA X (e :: es) (eA X W fa))
    (hdb : (x == ("__debug__" : Str)) = false := by decide) (hdb' : (y == ("__debug__" : Str)) = false := by decide)
    (he : starEach (e :: es) X.env = (false, eval e X.env) :: starEach es X.env := by rfl) (hpl : (backTo pos' (starEach es X.env)).any (·.1) = false := by rfl) (hpl2 : (backTo pos (starEach [] X.env)).any (·.1) = false := by rfl)
    (he2 : starEach [.Call (.Name y p') (e :: es) [] pos'] X.env = (false, eval (.Call (.Name y p') (e :: es) [] pos') X.env) :: starEach [] X.env := by rfl) : PE X (.Call (.Name x p) [.Call (.Name y p') (e :: es) [] pos'] [] pos) (eE X W (fWell s sg fa)) :=
  PE.weak (pe_callG F hgd hr tk hg (pa_cons (pe_callG G hgd hr' tk hg' ha hdb' he hpl) pa_nil he2) hdb he2 hpl2) fun _ _ _ h => well_weak h
end
end PL

namespace PL
open PySem PySem.Spec L2
open PyProof.Rows (envOfC AllBare IntsAre)

/-! # the end of a law's row: the script, the tables of code objects -/
/-- a code object at .1, its table at .2, the name of what it makes -/
structure Tb where
  co : Addr
  tb : Addr
  nm : Str
def tbsOf (cs : List Tb) : List (Addr × Str) := cs.map fun c => (c.tb, c.nm)
/-- what the head leaves of them -/
structure TbAt (K : PySem.W.Frag) (h : Heap) (c : Tb) : Prop where
  tab : h.get? c.tb = some (PySem.W.tabObj #[])
  out : K.lookup c.tb = none
  head : PySem.W.CodeHd h c.co c.tb
/-- the law's promise: the script's list in, empty tables, True out -/
def spLaw (n : Nat) (cs : List Tb) (K : PySem.W.Frag) : Sp := fun vs H Q _ => ∃ (a : Addr) (ns : List Int), vs = [.ref a] ∧ ScrAt K H a ns ∧ ns.length ≤ n ∧ (∀ c ∈ cs, H c.tb = some (.tbl #[])) ∧ ∀ H', Q (.bl true) H'
section
variable {P : Program} {w : World} {K : PySem.W.Frag} {mg mb : Str → Option Value} {k : Nat} {fa a : Addr} {fd : FuncData} {x : Str} {n : Nat} {s1 : Shared} {vs : List Value} {ns : List Int} {cs : List Tb} {H : Hp}
/-- what is tracked at the law's start -/
structure Start (K : PySem.W.Frag) (H : Hp) (a : Addr) (ns : List Int) (cs : List Tb) : Prop where
  only : ∀ b, H b ≠ none → b = a ∧ K.lookup a = none ∧ (∃ o, H b = some (.frz o (.lst (ns.map V.int)))) ∨ ∃ c ∈ cs, b = c.tb
  tabs : ∀ c ∈ cs, H c.tb = some (.tbl #[])
  scr : ScrAt K H a ns
theorem base_tb {c : Tb} {h : Heap} (S : Start K H a ns cs) (hc : c ∈ cs) (T : ∀ c ∈ cs, TbAt K h c) (ha : h.get? a = some { cls := .type "list", data := .seq vs.toArray }) (hns : h.Ns mainGlobals mg)
    (hbm : ∃ (bm : Addr) (ob : Obj), mg "__builtins__" = some (.ref bm) ∧ bm ≠ builtinsNs ∧ h.get? bm = some ob ∧ ob.cls = .type "module" ∧ ob.dict = some builtinsNs ∧ ob.data = .plain) : LamX.TabB (hidT h H) mg c.co c.tb := by
  -- an object of another kind is not tracked
  have free : ∀ {b : Addr} {o : Obj}, h.get? b = some o → o.cls ≠ .none → o.cls ≠ .type "list" → H b = none := fun {b o} e h1 h2 => by
    refine Decidable.byContradiction fun z => ?_
    rcases S.only b z with ⟨rfl, _⟩ | ⟨c', hc', rfl⟩
    · rw [ha] at e; cases e; exact h2 rfl
    · rw [(T c' hc').tab] at e; cases e; exact h1 rfl
  have tc := T c hc
  obtain ⟨go, ges, gep, ge, gd, _⟩ := hns
  refine ⟨?_, ?_, fun z => ?_⟩
  · obtain ⟨o, us, file, tf, flags, tg, inF, text, tt, e1, r1, rest⟩ := tc.head
    exact ⟨o, us, file, tf, flags, tg, inF, text, tt, hidT_get e1 (free e1 (by rw [r1]; exact fun y => nomatch y) (by rw [r1]; exact fun y => absurd y (by decide))), r1, rest⟩
  · obtain ⟨bm, ob, b1, b2, b3, b4, b5, b6⟩ := hbm
    refine ⟨bm, ob, b1, b2, fun q => ?_, fun q => ?_, hidT_get b3 (free b3 (by rw [b4]; exact fun y => nomatch y) (by rw [b4]; exact fun y => absurd y (by decide))), b4, b5, b6⟩
    · rw [q, ge] at b3; cases b3; rw [gd] at b6; cases b6
    · rw [q, tc.tab] at b3; cases b3; cases b6
  · rw [z, tc.tab] at ge; cases ge; cases gd
theorem law_run (S : Start K H a ns cs) (inK : K.In s1.heap) (hns : s1.heap.Ns mainGlobals mg) (hb : s1.heap.Ns builtinsNs mb) (hbb : ∀ y : Str, y ≠ "__name__" → mb y = bootBuiltins y) (hlim : s1.heap.NoLimit) (hg : s1.gens = #[])
    (hbm : ∃ (bm : Addr) (ob : Obj), mg "__builtins__" = some (.ref bm) ∧ bm ≠ builtinsNs ∧ s1.heap.get? bm = some ob ∧ ob.cls = .type "module" ∧ ob.dict = some builtinsNs ∧ ob.data = .plain)
    (T : ∀ c ∈ cs, TbAt K s1.heap c) (ha : s1.heap.get? a = some { cls := .type "list", data := .seq vs.toArray }) (hr : Room k callerA) (ok : HOk P w H s1.heap)
    (F : ∀ base : Heap, K.In base → base.Ns mainGlobals mg → (∀ c ∈ cs, LamX.TabB base mg c.co c.tb) → FnOkG P w K mg base (L2.CX P w) k fa fd [x] (spLaw n cs K)) (hbind : ∀ (s : Shared) (u : Value), BindsTo s fd ⟨[u], []⟩ [(x, u)]) (hl : ns.length ≤ n) :
    codeAny (model P w) callerA (.call (.ref fa) ⟨[.ref a], []⟩) (fun r s' => r = .ok (.ret (.bool true)) ∧ OldK s1.heap s'.heap ∧ s'.os = s1.os ∧ AllBare s'.gens) s1 := by
  have notDict : ∀ {b : Addr} {o : Obj} {es : Array DictEntry} {ep : Nat}, s1.heap.get? b = some o → o.data = .dict es ep → H b = none := fun {b o es ep} e dd => by
    refine Decidable.byContradiction fun z => ?_
    rcases S.only b z with ⟨rfl, _⟩ | ⟨c, hc, rfl⟩
    · rw [ha] at e; cases e; cases dd
    · rw [(T c hc).tab] at e; cases e; cases dd
  have nsOf : ∀ {b : Addr} {m : Str → Option Value}, s1.heap.Ns b m → (hidT s1.heap H).Ns b m := fun ⟨o, es, ep, e, dd, r⟩ => ⟨o, es, ep, hidT_get e (notDict e dd), dd, r⟩
  have inB : K.In (hidT s1.heap H) := fun b o e => hidT_get (inK b o e) (Decidable.byContradiction fun z => by
    rcases S.only b z with ⟨rfl, q, _⟩ | ⟨c, hc, rfl⟩
    · rw [q] at e; cases e
    · rw [(T c hc).out] at e; cases e)
  have noLim : (hidT s1.heap H).NoLimit := by
    obtain ⟨mc, h1, h2⟩ := hlim
    exact ⟨mc, nsOf h1, h2⟩
  have md : Mod K mg (hidT s1.heap H) := ⟨inB, nsOf hns, ⟨mb, nsOf hb, hbb⟩, noLim⟩
  have env0 : Env0 P w K mg (hidT s1.heap H) callerA [] s1 H := ⟨rfl, md, fun _ _ e => of_hidT e, Nat.le_of_eq (hidT_size _ _), trivial, fun b z => absurd (show b ∈ ([] : List Addr) from z) (by simp), ok, .of_eq hg⟩
  refine codeAny_mono ((F _ inB (nsOf hns) fun c hc => base_tb S hc T ha hns hbm).go callerA [] s1 H ⟨[.ref a], []⟩ [.ref a] [.ref a] (fun v _ => v = .bl true) (fun _ _ _ => False) rfl hr env0 (hbind s1 (.ref a)) (.cons rfl .nil) ⟨a, ns, rfl, S.scr, hl, S.tabs, fun _ => rfl⟩) fun res s2 hres => ?_
  match res, hres with
  | .error e, ⟨_, _, _, _, _, _, _, _, _, _, _, _, z⟩ => exact z.elim
  | .ok .next, z => exact z.elim
  | .ok .brk, z => exact z.elim
  | .ok .cont, z => exact z.elim
  | .ok (.ret u), ⟨v, H2, os, bare, un, ok2, ru, q⟩ =>
    obtain rfl : v = .bl true := q
    obtain rfl : u = Value.bool true := ru
    -- what is no table stays as it is
    have stays : ∀ b o, s1.heap.get? b = some o → (∀ c ∈ cs, b ≠ c.tb) → s2.heap.get? b = some o := fun b o e nc => by
      cases hb' : H b with
      | none => exact un.keep b o e hb' (fun z => absurd (show b ∈ ([] : List Addr) from z) (by simp)) (fun z => absurd (show b ∈ ([] : List Addr) from z) (by simp))
      | some u =>
        rcases S.only b (by rw [hb']; exact fun z => nomatch z) with ⟨_, _, ob, z⟩ | ⟨c, hc, z⟩
        · obtain ⟨e1, _⟩ := ok b _ z
          obtain ⟨e2, _⟩ := ok2 b _ (un.frzs b ob _ z)
          rw [e] at e1
          cases e1
          exact e2
        · exact (nc c hc z).elim
    have grows : ∀ c ∈ cs, ∃ more : Array Value, s2.heap.get? c.tb = some (PySem.W.tabObj (#[] ++ more)) := fun c hc => by
      obtain ⟨more, z⟩ := un.tbls c.tb #[] (S.tabs c hc)
      exact ⟨more, ok2 c.tb _ z⟩
    refine ⟨rfl, ⟨fun b o e => ?_, fun b o e => ?_⟩, os, bare⟩
    · by_cases hb : ∃ c ∈ cs, b = c.tb
      · obtain ⟨c, hc, rfl⟩ := hb
        obtain ⟨more, hm⟩ := grows c hc
        rw [(T c hc).tab] at e
        cases e
        exact .inr (.inl ⟨((T c hc).head.tab (T c hc).tab).isCodeTable, rfl, #[], more, rfl, hm⟩)
      · exact .inl (stays b o e fun c hc z => hb ⟨c, hc, z⟩)
    · by_cases hb : ∃ c ∈ cs, b = c.tb
      · obtain ⟨c, hc, rfl⟩ := hb
        obtain ⟨more, hm⟩ := grows c hc
        exact ⟨_, hm⟩
      · exact ⟨o, stays b o e fun c hc z => hb ⟨c, hc, z⟩⟩
open Classical in
/-- the tracked heap of the start -/
theorem start_at (T : ∀ c ∈ cs, TbAt K s1.heap c) (inK : K.In s1.heap) (ha : s1.heap.get? a = some { cls := .type "list", data := .seq vs.toArray }) (hi : IntsAre vs ns) (hz : ns.length ≤ sizeLine) : ∃ H : Hp, Start K H a ns cs ∧ HOk P w H s1.heap := by
  have rv : Vals (ns.map V.int) vs := vals_ints hi
  let o : Obj := { cls := .type "list", data := .seq vs.toArray }
  let H : Hp := fun b => if ∃ c ∈ cs, b = c.tb then some (.tbl #[]) else if b = a ∧ K.lookup a = none then some (.frz o (.lst (ns.map V.int))) else none
  have at_tab : ∀ {b : Addr}, (∃ c ∈ cs, b = c.tb) → H b = some (.tbl #[]) := fun z => if_pos z
  have na : ¬ ∃ c ∈ cs, a = c.tb := fun ⟨c, hc, e⟩ => by
    have q := (T c hc).tab
    rw [← e, ha] at q
    cases q
  have at_a : K.lookup a = none → H a = some (.frz o (.lst (ns.map V.int))) := fun z => (if_neg na).trans (if_pos ⟨rfl, z⟩)
  refine ⟨H, ⟨fun b z => ?_, fun c hc => at_tab ⟨c, hc, rfl⟩, ?_⟩, fun b u z => ?_⟩
  · by_cases hb : ∃ c ∈ cs, b = c.tb
    · exact .inr hb
    · by_cases h2 : b = a ∧ K.lookup a = none
      · obtain ⟨rfl, h3⟩ := h2
        exact .inl ⟨rfl, h3, o, at_a h3⟩
      · exact (z ((if_neg hb).trans (if_neg h2))).elim
  · cases hk : K.lookup a with
    | none => exact .inl ⟨o, at_a hk⟩
    | some u =>
      have e := inK a u hk
      rw [ha] at e
      cases e
      refine .inr ⟨_, vs.toArray, _, hk, rfl, rfl, rfl, ?_, by simpa using rv⟩
      rw [List.size_toArray, ← hi.length.symm]; exact hz
  · by_cases hb : ∃ c ∈ cs, b = c.tb
    · rw [at_tab hb] at z
      cases z
      obtain ⟨c, hc, rfl⟩ := hb
      exact (T c hc).tab
    · by_cases h2 : b = a ∧ K.lookup a = none
      · obtain ⟨rfl, h3⟩ := h2
        rw [at_a h3] at z
        cases z
        exact ⟨ha, by rw [List.length_map]; exact hz, vs, _, rv, ha⟩
      · rw [show H b = none from (if_neg hb).trans (if_neg h2)] at z
        cases z
end
theorem walk_T {l : PySem.W.OpenLaw} {n k : Nat} {q : Program} {loose : List Str} {XP : (Str → Option Value) → Heap → Prop} {YP : World → Heap → Prop} {d : DefRec} {K : Params → PySem.W.Frag} {x : Str} {cs : World → List Tb}
    (hn : l.most = some n) (hn2 : n ≤ sizeLine) (hdf : d.params.defaults = []) (hr : Room k callerA) (hY : ∀ (w : World) (h : Heap), YP w h → (K w.params).In h)
    (hT : ∀ (w : World) (c : Tb), c ∈ cs w → (∃ (d : DefRec) (x : Str), (PyProof.Rows.recsOf q).find? (fun e => e.name == x) = some d ∧ PySem.W.tabIn (K w.params) x = some (c.co, c.tb)) ∧ (K w.params).lookup c.tb = none)
    (F : ∀ (w : World) (mg : Str → Option Value) (fa : Addr) (h : Heap), (K w.params).In h → h.Ns mainGlobals mg → mg d.name = some (.ref fa) →
      ∃ fd : FuncData, (∀ (s : Shared) (u : Value), BindsTo s fd ⟨[u], []⟩ [(x, u)]) ∧ ∀ base : Heap, (K w.params).In base → base.Ns mainGlobals mg → (∀ c ∈ cs w, LamX.TabB base mg c.co c.tb) → FnOkG l.prog w (K w.params) mg base (L2.CX l.prog w) k fa fd [x] (spLaw n (cs w) (K w.params))) :
    PySem.W.WalkO q loose XP YP l.row.toRowW d [] (fun f vs => PySem.call f vs) := by
  refine Att.attach_call hn hdf fun w s0 s1 mg mb fa o pm cd doc a vs ns G Y ho hd hcd hmg hobj hints hlen hg => ?_
  have KX := hY w _ Y
  have T : ∀ c ∈ cs w, TbAt (K w.params) s1.heap c := fun c hc => by
    obtain ⟨⟨d', y, h1, h2⟩, h3⟩ := hT w c hc
    obtain ⟨h4, h5⟩ := PySem.W.tab_of G.T KX h1 h2
    exact ⟨h5, h3, h4⟩
  obtain ⟨fd, hb, hF⟩ := F w mg fa _ KX G.T.g hmg
  obtain ⟨H, S, ok⟩ := start_at (P := l.prog) (w := w) T KX hobj hints (Nat.le_trans hlen hn2)
  exact law_run S KX G.T.g G.T.b G.T.builtins G.T.nolimit hg G.T.bmain T hobj hr ok hF hb hlen
/-- the law by data: at every script of at most n numbers True -/
def sLaw (n : Nat) : PSp := fun ds q _ => ∃ ns : List Int, ds = [.scr ns] ∧ ns.length ≤ n ∧ q (.bl true)
theorem tabs_nil {cs : List Tb} {H : Hp} (h : ∀ c ∈ cs, H c.tb = some (.tbl #[])) : LamX.Tabs (tbsOf cs) H := fun p hp => by
  obtain ⟨c, hc, rfl⟩ := List.mem_map.mp hp
  exact LamX.TabS.nil (h c hc)
theorem law_ok {P : Program} {w : World} {K : PySem.W.Frag} {mg : Str → Option Value} {base : Heap} {k n : Nat} {f : Addr} {fd : FuncData} {ps : List Str} {cs : List Tb} (F : FnOkG P w K mg base (L2.CX P w) k f fd ps (spOf K mg (tbsOf cs) (sLaw n))) : FnOkG P w K mg base (L2.CX P w) k f fd ps (spLaw n cs K) :=
  F.weak fun vs H Q E ⟨a, ns, ev, hs, hl, ht, hq⟩ => ⟨⟨none, fun _ => False, fun _ => False, tbsOf cs⟩, [.scr ns], fun d => d = .bl true, fun _ => False, rfl, ⟨(fun _ z => nomatch z), (fun _ z => z.elim), (fun _ z => z.elim), tabs_nil ht⟩, by subst ev; exact ⟨_, _, rfl, ⟨a, rfl, hs⟩, rfl⟩, ⟨ns, rfl, hl, rfl⟩, fun d v H' _ r e => by
    subst e
    cases r
    exact hq H', fun _ _ _ _ _ _ z => z.elim⟩
/-! ### facts of the top -/
theorem def_at {K : PySem.W.Frag} {mg : Str → Option Value} {h : Heap} {x : Str} {st : Stmt} {ps : List Str} {f : Addr} {oc : Value} {od an : Option Addr} {osl : Array (Option Value)} {kV doc pm cdv ct : Value} (X : K.In h) (G : h.Ns mainGlobals mg)
    (a : PySem.W.nsIn K mainGlobals x = some (some (.ref f))) (l : K.lookup f = some ⟨oc, od, .func (PySem.W.fnOf x x (defArgs st) (defBody st) (defScope st) .none kV doc pm an cdv ct), osl⟩) (c : PySem.W.codeIn K cdv x = true) (k : PySem.W.keepIn K (.ref f) = true)
    (b : ∀ (kV doc pm : Value) (an : Option Addr) (cdv ct : Value) (us : List Value), us.length = ps.length → bindArgs (PySem.W.fnOf x x (defArgs st) (defBody st) (defScope st) .none kV doc pm an cdv ct) ⟨us, []⟩ = pure (ps.zip us)) :
    DefAt K mg x st ps f (PySem.W.fnOf x x (defArgs st) (defBody st) (defScope st) .none kV doc pm an cdv ct) :=
  have F := fun_mk l c k
  ⟨F, PySem.W.mg_of X G a, F.binds b⟩
theorem def_e {K : PySem.W.Frag} {mg : Str → Option Value} {h : Heap} {x : Str} {st : Stmt} {ps : List Str} {f : Addr} {oc : Value} {od an : Option Addr} {osl : Array (Option Value)} {kV doc pm cdv ct : Value} (X : K.In h) (G : h.Ns mainGlobals mg)
    (a : PySem.W.nsIn K mainGlobals x = some (some (.ref f))) (l : K.lookup f = some ⟨oc, od, .func (PySem.W.fnOf x x (defArgs st) (defBody st) (defScope st) .none kV doc pm an cdv ct), osl⟩) (c : PySem.W.codeIn K cdv x = true) (k : PySem.W.keepIn K (.ref f) = true)
    (b : ∀ (kV doc pm : Value) (an : Option Addr) (cdv ct : Value) (us : List Value), us.length = ps.length → bindArgs (PySem.W.fnOf x x (defArgs st) (defBody st) (defScope st) .none kV doc pm an cdv ct) ⟨us, []⟩ = pure (ps.zip us)) : DefE K mg x st ps := ⟨f, _, def_at X G a l c k b⟩
theorem kst_int {K : PySem.W.Frag} {mg : Str → Option Value} {h : Heap} {x : Str} {i : Int} {t : Tok} (X : K.In h) (G : h.Ns mainGlobals mg) (a : PySem.W.nsIn K mainGlobals x = some (some (.int i t))) : Kst K mg x (.int i) := ⟨_, .int i, PySem.W.mg_of X G a, ⟨t, rfl⟩, fun _ _ => rfl⟩
theorem kst_str {K : PySem.W.Frag} {mg : Str → Option Value} {h : Heap} {x z : Str} {t : Tok} (X : K.In h) (G : h.Ns mainGlobals mg) (a : PySem.W.nsIn K mainGlobals x = some (some (.str z t))) : Kst K mg x (.str z) := ⟨_, .str z, PySem.W.mg_of X G a, ⟨t, rfl⟩, fun _ _ => rfl⟩
/-- a tuple of flat values in the written part -/
def flatK : D → Value → Bool
  | .non, .none => true
  | .bl b, .bool c => b == c
  | .int i, .int j _ => i == j
  | .str x, .str y _ => decide (x = y)
  | _, _ => false
theorem flatK_rp {K : PySem.W.Frag} : ∀ {d : D} {u : Value}, flatK d u = true → ∃ v, RelV v u ∧ ∀ wl H, Rp K wl H d v := fun {d u} h => by
  cases d <;> cases u <;> first | (simp [flatK] at h; done) | skip
  case non.none => exact ⟨.non, rfl, fun _ _ => rfl⟩
  case bl.bool b c =>
    obtain rfl : b = c := by simpa [flatK] using h
    exact ⟨.bl b, rfl, fun _ _ => rfl⟩
  case int.int i j t =>
    obtain rfl : i = j := by simpa [flatK] using h
    exact ⟨.int i, ⟨t, rfl⟩, fun _ _ => rfl⟩
  case str.str x y t =>
    obtain rfl : x = y := by simpa [flatK] using h
    exact ⟨.str x, ⟨t, rfl⟩, fun _ _ => rfl⟩
def flatsK : List D → List Value → Bool
  | [], [] => true
  | d :: ds, u :: us => flatK d u && flatsK ds us
  | _, _ => false
theorem flatsK_rp {K : PySem.W.Frag} : ∀ {ds : List D} {us : List Value}, flatsK ds us = true → ∃ vs, Vals vs us ∧ ∀ wl H, RpL K wl H ds vs
  | [], [], _ => ⟨[], .nil, fun _ _ => rfl⟩
  | d :: ds, u :: us, h => by
    have h2 : (flatK d u && flatsK ds us) = true := h
    rw [Bool.and_eq_true] at h2
    obtain ⟨v, r, a⟩ := flatK_rp (K := K) h2.1
    obtain ⟨vs, r2, a2⟩ := flatsK_rp (K := K) h2.2
    exact ⟨v :: vs, .cons r r2, fun wl H => ⟨v, vs, rfl, a wl H, a2 wl H⟩⟩
  | [], _ :: _, h => by simp [flatsK] at h
  | _ :: _, [], h => by simp [flatsK] at h
theorem kst_tup {K : PySem.W.Frag} {mg : Str → Option Value} {h : Heap} {x : Str} {f : Addr} {o : Obj} {its : Array Value} {n : Nat} {ds : List D} (X : K.In h) (G : h.Ns mainGlobals mg) (a : PySem.W.nsIn K mainGlobals x = some (some (.ref f)))
    (l : K.lookup f = some o) (c : o.cls = .type "tuple") (d : o.data = .seq its n) (z : its.size ≤ 1000) (e : flatsK ds its.toList = true) : Kst K mg x (.tup ds) := by
  obtain ⟨vs, r, a2⟩ := flatsK_rp (K := K) e
  exact ⟨_, .ref f, PySem.W.mg_of X G a, rfl, fun wl H => ⟨f, vs, rfl, .inr ⟨o, its, n, l, c, d, Nat.le_trans z (by decide), r⟩, a2 wl H⟩⟩
theorem blt_none {K : PySem.W.Frag} {mg : Str → Option Value} {h : Heap} {x : Str} (X : K.In h) (G : h.Ns mainGlobals mg) (a : PySem.W.nsIn K mainGlobals x = some none) : mg x = none := PySem.W.mg_none_of X G a
end PL

namespace PL
open PySem PySem.Spec L2

/-! # laws of the readings -/
mutual
theorem tgE_mono : ∀ (t : Tg) (d : D) (ρ : Ev) (q q' : Ev → Prop), (∀ ρ, q ρ → q' ρ) → tgE t d ρ q → tgE t d ρ q'
  | .nm i, d, ρ, q, q', m, h => m _ h
  | .tp l, d, ρ, q, q', m, ⟨ds, e, hl, h⟩ => ⟨ds, e, hl, tgsE_mono l ds ρ q q' m h⟩
  | .wl o i, d, ρ, q, q', m, ⟨ho, n, e, hn, h⟩ => ⟨ho, n, e, hn, m _ h⟩
theorem tgsE_mono : ∀ (l : List Tg) (ds : List D) (ρ : Ev) (q q' : Ev → Prop), (∀ ρ, q ρ → q' ρ) → tgsE l ds ρ q → tgsE l ds ρ q'
  | [], ds, ρ, q, q', m, ⟨e, h⟩ => ⟨e, m _ h⟩
  | t :: l, ds, ρ, q, q', m, ⟨d, r, e, h⟩ => ⟨d, r, e, tgE_mono t d ρ _ _ (fun ρ2 h2 => tgsE_mono l r ρ2 q q' m h2) h⟩
end
/-- a comprehension whose elements are told by a function; none: left out -/
theorem lc_fm {α : Type} {t : Tg} {c : PB} {f : PX} {own : List Nat} {ρ : Ev} {q : D → Prop} {e : α → D} (F : α → Option D) : ∀ (l : List α) (acc : List D),
    (∀ a ∈ l, ∀ (Q : D → Prop) (n : Prop), (∀ y, F a = some y → Q y) → (F a = none → n) → tgE t (e a) (wipeE ρ own) fun ρ2 => c ρ2 (fun b => (b = true → f ρ2 Q fun _ => False) ∧ (b = false → n)) fun _ => False) →
    acc.length + l.length ≤ LIM → q (.lst (acc ++ l.filterMap F)) → fLcLoop t c f own ρ q (l.map e) acc
  | [], acc, _, _, h => by
    show q (.lst acc)
    simpa using h
  | a :: l, acc, hs, hl, h => by
    rw [List.length_cons] at hl
    show tgE t (e a) (wipeE ρ own) fun ρ2 => c ρ2 (fun b => (b = true → f ρ2 (fun y => acc.length < LIM ∧ fLcLoop t c f own ρ q (l.map e) (acc ++ [y])) fun _ => False) ∧ (b = false → fLcLoop t c f own ρ q (l.map e) acc)) fun _ => False
    refine hs a (List.mem_cons_self ..) _ _ (fun y hy => ⟨by omega, ?_⟩) fun hy => ?_
    · refine lc_fm F l (acc ++ [y]) (fun b hb => hs b (List.mem_cons_of_mem _ hb)) (by rw [List.length_append, List.length_singleton]; omega) ?_
      rw [List.filterMap_cons, hy] at h
      rw [List.append_assoc]
      exact h
    · refine lc_fm F l acc (fun b hb => hs b (List.mem_cons_of_mem _ hb)) (by omega) ?_
      rw [List.filterMap_cons, hy] at h
      exact h
theorem lc_map {α : Type} {t : Tg} {f : PX} {own : List Nat} {ρ : Ev} {q : D → Prop} {e : α → D} (F : α → D) (l : List α)
    (hs : ∀ a ∈ l, ∀ (Q : D → Prop), Q (F a) → tgE t (e a) (wipeE ρ own) fun ρ2 => f ρ2 Q fun _ => False)
    (hl : l.length ≤ LIM) (h : q (.lst (l.map F))) : fLcLoop t tYes' f own ρ q (l.map e) [] := by
  refine lc_fm (fun a => some (F a)) l [] (fun a ha Q n h1 h2 => ?_) (by simpa using hl) (by simpa using h)
  exact tgE_mono t _ _ _ _ (fun ρ2 h3 => ⟨fun _ => h3, fun z => by cases z⟩) (hs a ha Q (h1 _ rfl))
/-- .. whose elements are told by a relation -/
theorem lc_rel {α : Type} {t : Tg} {f : PX} {own : List Nat} {ρ : Ev} {q : D → Prop} {e : α → D} (R : α → D → Prop) : ∀ (l : List α) (acc : List D),
    (∀ a ∈ l, ∀ (Q : D → Prop), (∀ y, R a y → Q y) → tgE t (e a) (wipeE ρ own) fun ρ2 => f ρ2 Q fun _ => False) →
    acc.length + l.length ≤ LIM → (∀ ys : List D, ys.length = l.length → (∀ (i : Nat) a y, l[i]? = some a → ys[i]? = some y → R a y) → q (.lst (acc ++ ys))) → fLcLoop t tYes' f own ρ q (l.map e) acc
  | [], acc, _, _, h => by
    show q (.lst acc)
    have := h [] rfl (fun i a y z => by simp at z)
    simpa using this
  | a :: l, acc, hs, hl, h => by
    rw [List.length_cons] at hl
    show tgE t (e a) (wipeE ρ own) fun ρ2 => tYes' ρ2 (fun b => (b = true → f ρ2 (fun y => acc.length < LIM ∧ fLcLoop t tYes' f own ρ q (l.map e) (acc ++ [y])) fun _ => False) ∧ (b = false → fLcLoop t tYes' f own ρ q (l.map e) acc)) fun _ => False
    refine tgE_mono t _ _ _ _ (fun ρ2 h3 => ⟨fun _ => h3, fun z => by cases z⟩) (hs a (List.mem_cons_self ..) _ fun y hy => ⟨by omega, ?_⟩)
    refine lc_rel R l (acc ++ [y]) (fun b hb => hs b (List.mem_cons_of_mem _ hb)) (by rw [List.length_append, List.length_singleton]; omega) fun ys hl2 hr => ?_
    rw [List.append_assoc]
    refine h (y :: ys) (by rw [List.length_cons, List.length_cons, hl2]) fun i b z h1 h2 => ?_
    cases i with
    | zero =>
      have e1 : a = b := by simpa using h1
      have e2 : y = z := by simpa using h2
      subst e1; subst e2
      exact hy
    | succ i => exact hr i b z (by simpa using h1) (by simpa using h2)
/-- a for whose turns keep a word -/
theorem loop_inv {t : Tg} {b : PSt} {P : Pn} (I : Nat → Ev → Prop) : ∀ (ds : List D) (n : Nat) (ρ : Ev), I n ρ →
    (∀ (i : Nat) d ρ, ds[i]? = some d → I (n + i) ρ → ∀ N : Ev → Prop, (∀ ρ', I (n + i + 1) ρ' → N ρ') → tgE t d ρ fun ρ' => b { P with nx := N, ct := N, bk := P.nx } ρ') →
    (∀ ρ, I (n + ds.length) ρ → P.nx ρ) → fLoop t b P ds ρ
  | [], n, ρ, h, _, hd => hd ρ h
  | d :: ds, n, ρ, h, hs, hd => by
    show tgE t d ρ fun ρ' => b { P with nx := fLoop t b P ds, ct := fLoop t b P ds, bk := P.nx } ρ'
    refine hs 0 d ρ rfl h _ fun ρ' h' => ?_
    refine loop_inv I ds (n + 1) ρ' h' (fun i d' ρ2 e hi N hN => ?_) fun ρ2 h2 => hd ρ2 ?_
    · have := hs (i + 1) d' ρ2 (by simpa using e) (by rw [show n + (i + 1) = n + 1 + i by omega]; exact hi) N (fun ρ3 h3 => hN ρ3 (by rw [show n + 1 + i + 1 = n + (i + 1) + 1 by omega]; exact h3))
      exact this
    · rw [List.length_cons, show n + (ds.length + 1) = n + 1 + ds.length by omega]; exact h2
theorem tame_int {n : Int} (h : n.natAbs < 1000000000000) : tame (.int n) := ⟨by simp [cost, h], by simp [dep]⟩
theorem cost_int {n : Int} (h : n.natAbs < 1000000000000) : cost (.int n) = 1 := by simp [cost, h]
theorem cost_str {x : Str} (h : PyData.strOk x = true) : cost (.str x) = x.length + 1 := by simp [cost, h]
theorem tame_str {x : Str} (h : PyData.strOk x = true) (hl : x.length ≤ 10000) : tame (.str x) := ⟨by rw [cost_str h]; omega, by simp [dep]⟩
theorem costL_le {c : Nat} : ∀ ds : List D, (∀ d ∈ ds, cost d ≤ c) → costL ds ≤ ds.length * c
  | [], _ => by simp [costL]
  | d :: ds, h => by
    have := h d (List.mem_cons_self ..)
    have := costL_le ds fun e he => h e (List.mem_cons_of_mem _ he)
    show cost d + costL ds ≤ (ds.length + 1) * c
    rw [Nat.add_mul]
    omega
theorem depL_le {c : Nat} : ∀ ds : List D, (∀ d ∈ ds, dep d ≤ c) → depL ds ≤ c
  | [], _ => by simp [depL]
  | d :: ds, h => by
    have := h d (List.mem_cons_self ..)
    have := depL_le ds fun e he => h e (List.mem_cons_of_mem _ he)
    show max (dep d) (depL ds) ≤ c
    omega
end PL

namespace PL
open PySem PySem.Spec L2

theorem mul_i {i j : Int} {q : D → Prop} (h : CMul i j) (hq : q (.int (i * j))) : mulG (.int i) (.int j) q := ⟨h, hq⟩
theorem mod_i {i j : Int} {q : D → Prop} (h : 0 < j) (hq : q (.int (i % j))) : modG (.int i) (.int j) q := ⟨h, hq⟩
theorem div_i {i j : Int} {q : D → Prop} (h : CDiv i j) (hq : q (.int (i / j))) : fdivG (.int i) (.int j) q := ⟨h, hq⟩
theorem toI {i : Int} {q : D → Prop} (hq : q (.int i)) : toIntG [.int i] q := hq
theorem well0 {q : D → Prop} (h : ∀ n : Int, 0 ≤ n → q (.int n)) : ixG .well (.int 0) q := .inl ⟨rfl, h⟩
theorem well1 {q : D → Prop} (h : ∀ n : Int, 0 ≤ n → n < 2147483648 → q (.int n)) : ixG .well (.int 1) q := .inr (.inl ⟨rfl, h⟩)
theorem well2 {q : D → Prop} (h : ∀ n : Int, q (.int n)) : ixG .well (.int 2) q := .inr (.inr ⟨rfl, h⟩)
theorem wq {b : Bool} {A B : Prop} (h1 : b = true → A) (h2 : b = false → B) : (b = true → A) ∧ (b = false → B) := ⟨h1, h2⟩
theorem eqv_same {a : D} (h : PyData.eqv (toPy a) (toPy a) = true) : eqvD a a = true := h
theorem ne_str {s t : Str} {q : D → Prop} (e : s = t) (h : q (.bl false)) : neG (.str s) (.str t) q := by
  subst e
  exact ⟨.s, by rw [eqv_str, decide_eq_true rfl]; exact h⟩
theorem repr_l {xs : List D} {q : D → Prop} (t : tame (.lst xs)) (h : q (.str (shownD (.lst xs)))) : reprG [.lst xs] q := ⟨t, h⟩
theorem for_i {f : PAx} {t : Tg} {b : PSt} {P : Pn} {ρ : Ev} (h : f ρ (fun ds => fLoop t b P ds ρ) (P.ex ρ)) : sFor f t b P ρ := h
theorem min_i {i j : Int} {q : D → Prop} (h : ∀ m : Int, m ≤ i → m ≤ j → (m = i ∨ m = j) → q (.int m)) : minG [.int i, .int j] q := by
  show q (.int (if j < i then j else i))
  split <;> exact h _ (by omega) (by omega) (by omega)
theorem max_i {i j : Int} {q : D → Prop} (h : ∀ m : Int, i ≤ m → j ≤ m → (m = i ∨ m = j) → q (.int m)) : maxG [.int i, .int j] q := by
  show q (.int (if j > i then j else i))
  split <;> exact h _ (by omega) (by omega) (by omega)
theorem list_t {xs : List D} {q : D → Prop} (h : q (.lst xs)) : listG [.tup xs] q := h
theorem list_l {xs : List D} {q : D → Prop} (h : q (.lst xs)) : listG [.lst xs] q := h
theorem limN {n : Nat} (h : n ≤ 1000) : n ≤ LIM := Nat.le_trans h (by decide)
theorem wT {A B : Prop} (h : A) : (True → A) ∧ (true = false → B) := ⟨fun _ => h, (fun z => by cases z)⟩
theorem wt {A B : Prop} (h : A) : (true = true → A) ∧ (true = false → B) := ⟨fun _ => h, (fun z => by cases z)⟩
theorem wf {A B : Prop} (h : B) : (false = true → A) ∧ (false = false → B) := ⟨(fun z => by cases z), fun _ => h⟩
theorem wF {A B : Prop} (h : B) : (false = true → A) ∧ (True → B) := ⟨(fun z => by cases z), fun _ => h⟩
theorem ix_t {xs : List D} {j : Nat} {d : D} {q : D → Prop} (h : xs[j]? = some d) (hq : q d) : ixG (.tup xs) (.int (j : Int)) q := ⟨d, atI_nat h, hq⟩
theorem ix_l {xs : List D} {j : Nat} {d : D} {q : D → Prop} (h : xs[j]? = some d) (hq : q d) : ixG (.lst xs) (.int (j : Int)) q := ⟨d, atI_nat h, hq⟩
theorem ix_end {xs : List D} {d : D} {q : D → Prop} (h : xs.getLast? = some d) (hq : q d) : ixG (.tup xs) (.int (-1)) q := by
  obtain ⟨ys, rfl⟩ := List.getLast?_eq_some_iff.mp h
  exact ⟨d, atI_last ys d, hq⟩
theorem ix_endL {xs : List D} {d : D} {q : D → Prop} (h : xs.getLast? = some d) (hq : q d) : ixG (.lst xs) (.int (-1)) q := by
  obtain ⟨ys, rfl⟩ := List.getLast?_eq_some_iff.mp h
  exact ⟨d, atI_last ys d, hq⟩
theorem cut_from (xs : List D) (k : Nat) : cutD xs (some (k : Int)) none = xs.drop k := by
  unfold cutD
  rw [HT.sIx_nat, HT.sIx_none]
  by_cases h : k ≤ xs.length
  · rw [Nat.min_eq_left h, List.take_of_length_le (by rw [List.length_drop]; omega)]
  · rw [Nat.min_eq_right (by omega), Nat.sub_self, List.take_zero, List.drop_eq_nil_of_le (by omega)]
theorem cut_to (xs : List D) (k : Nat) : cutD xs none (some (k : Int)) = xs.take k := by
  unfold cutD
  rw [HT.sIx_nat, HT.sIx_none, List.drop_zero, Nat.sub_zero]
  by_cases h : k ≤ xs.length
  · rw [Nat.min_eq_left h]
  · rw [Nat.min_eq_right (by omega), List.take_of_length_le (Nat.le_refl _), List.take_of_length_le (by omega)]
theorem sl_from {xs : List D} {k : Nat} {q : D → Prop} (h : q (.tup (xs.drop k))) : slG (.tup xs) (some (k : Int)) none q := by
  show q (.tup (cutD xs (some (k : Int)) none))
  rw [cut_from]; exact h
theorem sl_to {xs : List D} {k : Nat} {q : D → Prop} (h : q (.tup (xs.take k))) : slG (.tup xs) none (some (k : Int)) q := by
  show q (.tup (cutD xs none (some (k : Int))))
  rw [cut_to]; exact h
theorem sIx_neg (n d : Nat) : HT.sIx n d (some (-1)) = n - 1 := by
  show (if (-1 : Int) < 0 then ((-1 : Int) + (n : Int)).toNat else min (-1 : Int).toNat n) = _
  rw [if_pos (by decide)]; omega
theorem cut_init (xs : List D) : cutD xs none (some (-1)) = xs.dropLast := by
  unfold cutD
  rw [sIx_neg, HT.sIx_none, List.drop_zero, Nat.sub_zero, List.dropLast_eq_take]
theorem cut_end (xs : List D) : cutD xs (some (-1)) none = xs.drop (xs.length - 1) := by
  unfold cutD
  rw [sIx_neg, HT.sIx_none, List.take_of_length_le (by rw [List.length_drop]; omega)]
theorem sl_init {xs : List D} {q : D → Prop} (h : q (.tup xs.dropLast)) : slG (.tup xs) none (some (-1)) q := by
  show q (.tup (cutD xs none (some (-1))))
  rw [cut_init]; exact h
theorem sl_end {xs : List D} {q : D → Prop} (h : q (.tup (xs.drop (xs.length - 1)))) : slG (.tup xs) (some (-1)) none q := by
  show q (.tup (cutD xs (some (-1)) none))
  rw [cut_end]; exact h
theorem add_int {i j : Int} {q : D → Prop} (h : q (.int (i + j))) : addG (.int i) (.int j) q := h
theorem eqv_nn {a b : D} : eqvD a b = PyData.eqv (toPy a) (toPy b) := rfl
theorem law_end {P : Program} {w : World} {K : PySem.W.Frag} {mg : Str → Option Value} {k n : Nat} {x p : Str} {st : Stmt} {fa : Addr} {cs : List Tb} (D : DefE K mg x st [p]) (hmg : mg x = some (.ref fa))
    (hb : ∀ (kV doc pm : Value) (an : Option Addr) (cdv ct u : Value), bindArgs (PySem.W.fnOf x x (defArgs st) (defBody st) (defScope st) .none kV doc pm an cdv ct) ⟨[u], []⟩ = pure [(p, u)])
    (F : ∀ base f fd, (∀ c ∈ cs, LamX.TabB base mg c.co c.tb) → DefAt K mg x st [p] f fd → FnOkG P w K mg base (L2.CX P w) k f fd [p] (spOf K mg (tbsOf cs) (sLaw n))) :
    ∃ fd : FuncData, (∀ (s : Shared) (u : Value), BindsTo s fd ⟨[u], []⟩ [(p, u)]) ∧ ∀ base : Heap, K.In base → base.Ns mainGlobals mg → (∀ c ∈ cs, LamX.TabB base mg c.co c.tb) → FnOkG P w K mg base (L2.CX P w) k fa fd [p] (spLaw n cs K) := by
  obtain ⟨f, fd, D⟩ := D
  have e := D.2.1
  rw [hmg] at e
  cases e
  refine ⟨fd, fun s u => ?_, fun base _ _ hT => law_ok (F base fa fd hT D)⟩
  obtain ⟨oc, od, kV, doc, pm, an, cdv, ct, osl, rfl, _, _⟩ := D.1.ex
  exact .of_eq (hb kV doc pm an cdv ct u)
end PL

namespace PL
open PySem PySem.Spec L2

/-! # lists of the def's own: made, appended to, given away -/
def Wd.take (w : Wd) (p : Addr) : Wd := ⟨w.wl, w.hid, fun a => a = p ∨ w.ow a, w.tabs⟩
def Wd.drop (w : Wd) (p : Addr) : Wd := ⟨w.wl, w.hid, fun a => a ≠ p ∧ w.ow a, w.tabs⟩
section
variable {K : PySem.W.Frag} {wl : Wd} {H : Hp} {ρ : Ev} {σ : St} {p : Addr}
theorem take_step {vs : List V} (hk : Wk wl H) (n : H p = none) : Step wl H (wl.take p) (upd H p (.lst vs)) := by
  have x : Ext wl H (upd H p (.lst vs)) := Ext.new hk n
  refine ⟨rfl, rfl, fun a o w _ e t => x.keep a o w e t, fun _ z => z, fun _ z => .inl z, fun a z => z.elim (fun z => .inr (Fresh.of (by rw [z]; exact n))) .inl, ⟨x.wk.well, x.wk.hid, fun a z => ?_, x.wk.tabs⟩⟩
  rcases z with rfl | z
  · exact ⟨_, upd_same, True.intro⟩
  · exact x.wk.ow a z
theorem take_ev {vs : List V} (hk : Wk wl H) (n : H p = none) (he : EvR K wl H ρ σ) : EvR K (wl.take p) (upd H p (.lst vs)) ρ σ := by
  have x := take_step (vs := vs) hk n
  refine ⟨he.len, fun i d e => let ⟨v, a, b⟩ := he.at_ i d e; ⟨v, a, Rp.step hk x d v b⟩, fun i xs e => ?_, he.uni⟩
  obtain ⟨a, us, h1, h2, h3, h4, h5⟩ := he.ow i xs e
  exact ⟨a, us, h1, h2, .inr h3, by rw [upd_ne (ne_of_none h4 n)]; exact h4, RpL.step hk x xs us h5⟩
theorem put_ow {xs : List D} {vs : List V} {i : Nat} (he : EvR K wl H ρ σ) (h1 : wl.wl ≠ some p ∧ ¬ wl.hid p) (h2 : wl.ow p) (h3 : H p = some (.lst vs)) (h4 : RpL K wl H xs vs)
    (no : ∀ (j : Nat) (ys : List D), j ≠ i → ρ[j]? = some (.ow ys) → σ[j]? ≠ some (some (.ref p))) : EvR K wl H (ρ.set i (.ow xs)) (σ.set i (some (.ref p))) := by
  refine ⟨by rw [List.length_set, List.length_set]; exact he.len, fun j c e => ?_, fun j c e => ?_, fun j k ys zs a e1 e2 e3 e4 => ?_⟩
  · rcases sl_get e with ⟨rfl, z⟩ | ⟨n, z⟩
    · cases z
    · rw [List.getElem?_set_ne n]; exact he.at_ j c z
  · have hl := e
    rcases sl_get e with ⟨rfl, z⟩ | ⟨n, z⟩
    · cases z
      exact ⟨p, vs, by rw [List.getElem?_set_self (by rw [← he.len]; exact set_lt hl)], h1, h2, h3, h4⟩
    · rw [List.getElem?_set_ne n]; exact he.ow j c z
  · rcases sl_get e1 with ⟨rfl, z1⟩ | ⟨n1, z1⟩
    · rcases sl_get e2 with ⟨rfl, z2⟩ | ⟨n2, z2⟩
      · rfl
      · rw [List.getElem?_set_ne n2] at e4
        rw [List.getElem?_set_self (by rw [← he.len]; exact set_lt e1)] at e3
        cases e3
        exact (no k zs (Ne.symm n2) z2 e4).elim
    · rcases sl_get e2 with ⟨rfl, z2⟩ | ⟨n2, z2⟩
      · rw [List.getElem?_set_ne n1] at e3
        rw [List.getElem?_set_self (by rw [← he.len]; exact set_lt e2)] at e4
        cases e4
        exact (no j ys (Ne.symm n1) z1 e3).elim
      · rw [List.getElem?_set_ne n1] at e3
        rw [List.getElem?_set_ne n2] at e4
        exact he.uni j k ys zs a z1 z2 e3 e4
/-- a new list, the def's own -/
theorem new_ow {xs : List D} {vs : List V} {i : Nat} (hk : Wk wl H) (n : H p = none) (he : EvR K wl H ρ σ) (r : RpL K wl H xs vs) : EvR K (wl.take p) (upd H p (.lst vs)) (ρ.set i (.ow xs)) (σ.set i (some (.ref p))) := by
  have f := hk.new n
  refine put_ow (take_ev hk n he) ⟨f.1, f.2.1⟩ (.inl rfl) upd_same (RpL.step hk (take_step hk n) _ _ r) fun j ys _ e z => ?_
  obtain ⟨a, us, h1, _, _, h4, _⟩ := he.ow j ys e
  rw [h1] at z
  cases z
  rw [n] at h4; cases h4
/-- .. appended to -/
theorem app_step {vs us : List V} (hk : Wk wl H) (h1 : wl.wl ≠ some p) (h2 : wl.ow p) (h3 : H p = some (.lst vs)) : Step wl H wl (upd H p (.lst us)) := by
  have k := hk.write (o := .lst us) h3 True.intro True.intro fun z => (h1 z).elim
  refine ⟨rfl, rfl, fun a o _ m e _ => ?_, fun _ z => z, fun _ z => .inl z, fun _ z => .inl z, k⟩
  · rw [upd_ne (fun z => m (by rw [z]; exact h2))]; exact e
theorem app_ev {xs : List D} {vs : List V} {i : Nat} {d : D} {v : V} (hk : Wk wl H) (he : EvR K wl H ρ σ) (hi : ρ[i]? = some (.ow xs)) (hs : σ[i]? = some (some (.ref p))) (h1 : wl.wl ≠ some p ∧ ¬ wl.hid p) (h2 : wl.ow p) (h3 : H p = some (.lst vs)) (h4 : RpL K wl H xs vs) (r : Rp K wl H d v) :
    EvR K wl (upd H p (.lst (vs ++ [v]))) (ρ.set i (.ow (xs ++ [d]))) σ := by
  have nf : ¬ wl.fr p := fun z => z.2.2 h2
  have e1 : EvR K wl (upd H p (.lst (vs ++ [v]))) (ρ.set i .no) (σ.set i (some (.ref p))) := by
    refine ⟨by rw [List.length_set, List.length_set]; exact he.len, fun j c e => ?_, fun j c e => ?_, fun j k ys zs a e1 e2 e3 e4 => ?_⟩
    · rcases sl_get e with ⟨rfl, z⟩ | ⟨n, z⟩
      · cases z
      · obtain ⟨u, a, b⟩ := he.at_ j c z
        exact ⟨u, by rw [List.getElem?_set_ne n]; exact a, Rp.write nf h3 True.intro c u b⟩
    · rcases sl_get e with ⟨rfl, z⟩ | ⟨n, z⟩
      · cases z
      · obtain ⟨a, us, g1, g2, g3, g4, g5⟩ := he.ow j c z
        have na : a ≠ p := fun q => n (he.uni i j xs c p hi z hs (by rw [← q]; exact g1))
        exact ⟨a, us, by rw [List.getElem?_set_ne n]; exact g1, g2, g3, by rw [upd_ne na]; exact g4, RpL.write nf h3 True.intro c us g5⟩
    · rcases sl_get e1 with ⟨rfl, z1⟩ | ⟨n1, z1⟩
      · cases z1
      · rcases sl_get e2 with ⟨rfl, z2⟩ | ⟨n2, z2⟩
        · cases z2
        · rw [List.getElem?_set_ne n1] at e3
          rw [List.getElem?_set_ne n2] at e4
          exact he.uni j k ys zs a z1 z2 e3 e4
  have es : σ.set i (some (.ref p)) = σ := by
    obtain ⟨hl, q⟩ := List.getElem?_eq_some_iff.mp hs
    rw [← q]; exact List.set_getElem_self hl
  have e2 := put_ow (i := i) (p := p) (xs := xs ++ [d]) e1 h1 h2 upd_same (RpL.write nf h3 True.intro _ _ (h4.append (RpL.one r))) fun j ys n e z => by
    rcases sl_get e with ⟨rfl, q⟩ | ⟨m, q⟩
    · cases q
    · rw [List.getElem?_set_ne m] at z
      exact m (he.uni i j xs ys p hi q hs z)
  rw [List.set_set, List.set_set, es] at e2
  exact e2
/-- .. given away: from now on it stays -/
theorem drop_step (hk : Wk wl H) : Step wl H (wl.drop p) H :=
  ⟨rfl, rfl, fun _ _ _ _ e _ => e, fun _ z => z, fun _ z => .inl z, fun _ z => .inl z.2, ⟨hk.well, hk.hid, fun a z => hk.ow a z.2, hk.tabs⟩⟩
theorem drop_ev {xs : List D} {i : Nat} (hk : Wk wl H) (he : EvR K wl H ρ σ) (hi : ρ[i]? = some (.ow xs)) : ∃ p, EvR K (wl.drop p) H (ρ.set i (.dt (.lst xs))) σ := by
  obtain ⟨p, vs, hs, h1, h2, h3, h4⟩ := he.ow i xs hi
  have x := drop_step (p := p) hk
  refine ⟨p, by rw [List.length_set]; exact he.len, fun j c e => ?_, fun j c e => ?_, fun j k ys zs a e1 e2 e3 e4 => ?_⟩
  · rcases sl_get e with ⟨rfl, z⟩ | ⟨n, z⟩
    · cases z
      exact ⟨.ref p, hs, p, vs, rfl, ⟨h1.1, h1.2, fun z => z.1 rfl⟩, h3, RpL.step hk x _ _ h4⟩
    · obtain ⟨u, a, b⟩ := he.at_ j c z
      exact ⟨u, a, Rp.step hk x c u b⟩
  · rcases sl_get e with ⟨rfl, z⟩ | ⟨n, z⟩
    · cases z
    · obtain ⟨a, us, g1, g2, g3, g4, g5⟩ := he.ow j c z
      have na : a ≠ p := fun q => n (he.uni i j xs c p hi z hs (by rw [← q]; exact g1))
      exact ⟨a, us, g1, g2, ⟨na, g3⟩, g4, RpL.step hk x _ _ g5⟩
  · rcases sl_get e1 with ⟨rfl, z1⟩ | ⟨n1, z1⟩
    · cases z1
    · rcases sl_get e2 with ⟨rfl, z2⟩ | ⟨n2, z2⟩
      · cases z2
      · exact he.uni j k ys zs a z1 z2 e3 e4
end
section
variable {X : Cx} {W : WY}
/-- x = [..], x the def's own from now on -/
def sOw (i : Nat) (f : PAx) : PSt := fun P ρ => f ρ (fun ds => ds.length ≤ LIM ∧ P.nx (ρ.set i (.ow ds))) (P.ex ρ)
theorem ds_ow (i : Nat) {x : Str} {es : List Expr} {f : PAx} {pos pos' lpos : Pos} (hN : X.N.Nodup) (hi : X.N[i]? = some x) (hx : Loc X.env.scope x) (ha : PA X es (eA X W f)) (hs : swapsWith (.List es lpos) (some (.Name x pos')) pos.line X.env = pure false := by rfl) (hf : X.fn x = true ∨ X.env.scope.names.lookup x = some .local := by first | exact .inl rfl | exact .inr rfl) :
    PS X (.Assign [.Name x pos'] (.List es lpos) pos) (eS X W (sOw i f)) := by
  refine PS.weak (ps_set hN hi hx (pe_lst ha) hs hf) fun En σ H ⟨wl, ρ, P, hk, he, h, r⟩ => ?_
  refine ⟨wl, ρ, _, P.ex ρ, hk, he, h, fun ds vs H1 e1 r1 ⟨hl, h1⟩ => ⟨lim_line (by rw [r1.length]; exact hl), fun p hp => ?_⟩, r.out hk he⟩
  exact r.nx (wl.take p) _ _ _ (e1.step.trans (take_step e1.wk hp)) (new_ow e1.wk hp (he.ext hk e1) r1) h1
/-- x.append(e) -/
def sApp (i : Nat) (f : PX) : PSt := fun P ρ => ∃ xs, ρ[i]? = some (.ow xs) ∧ f ρ (fun d => xs.length < LIM ∧ P.nx (ρ.set i (.ow (xs ++ [d])))) (P.ex ρ)
theorem ds_app (i : Nat) {x : Str} {e : Expr} {f : PX} {p1 p2 p3 pos : Pos} (hN : X.N[i]? = some x) (hv : Vis X.env.scope x) (he : PE X e (eE X W f)) (hd : (x == ("__debug__" : Str)) = false := by decide) (hcd : (x == ("__classdict__" : Str)) = false := by decide)
    (hbase : attributeBase (.Name x p1) "append" X.env (eval (.Name x p1) X.env) = eval (.Name x p1) X.env := by rfl)
    (hfew : ((backTo p3 (starEach [e] X.env)).all (fun x => !x.1) && (backToKw p3 (keywordEach [] X.env)).all (fun x => x.1.isSome) && decide (([e] : List Expr).length + ([] : List Keyword).length + (if ([] : List Keyword).isEmpty then 0 else 1) < 30)) = true := by rfl)
    (hl : (p2.endLine == p3.line) = true := by rfl) (hst : starEach [e] X.env = (false, eval e X.env) :: starEach [] X.env := by rfl)
    (hsw : swapsWith (.Call (.Attribute (.Name x p1) "append" p2) [e] [] p3) none pos.line X.env = pure false := by rfl) :
    PS X (.Expr (.Call (.Attribute (.Name x p1) "append" p2) [e] [] p3) pos) (eS X W (sApp i f)) := by
  refine PS.weak (ps_expr (pe_bm PySem.F.plainAttrs_list PySem.F.slot_list_append PySem.F.type_list_append mt_append (pe_var hN hv hd hcd) (pa_cons he pa_nil hst) (hbase := hbase) (hfew := hfew) (hline := hl) (hs := hst)) hsw) fun En σ H ⟨wl, ρ, P, hk, hev, ⟨xs, hi, h⟩, r⟩ => ?_
  obtain ⟨p, vs, hs, h1, h2, h3, h4⟩ := hev.ow i xs hi
  refine ⟨.ref p, hs, .inl ⟨rfl, vs, SqL.of h3⟩, wl, ρ, _, P.ex ρ, hk, hev, h, fun d v H1 e1 r1 ⟨hlen, hn⟩ => ?_, r.out hk hev⟩
  have h3' : H1 p = some (.lst vs) := e1.keep _ _ h1.1 h3 (fun _ z => nomatch z)
  have h4' := RpL.ext hk e1 _ _ h4
  refine ⟨p, vs, v, rfl, rfl, h3', lim_lt (by rw [h4'.length]; exact Nat.le_of_lt hlen), ?_⟩
  exact r.nx wl _ σ _ (e1.step.trans (app_step e1.wk h1.1 h2 h3')) (app_ev e1.wk (hev.ext hk e1) hi hs h1 h2 h3' h4' r1) hn
/-- the own list of a name is given away ahead of a statement -/
def sFrz (i : Nat) (f : PSt) : PSt := fun P ρ => ∃ xs, ρ[i]? = some (.ow xs) ∧ f P (ρ.set i (.dt (.lst xs)))
theorem ds_frz (i : Nat) {st : Stmt} {f : PSt} (h : PS X st (eS X W f)) : PS X st (eS X W (sFrz i f)) :=
  PS.weak h fun En σ H ⟨wl, ρ, P, hk, he, ⟨xs, hi, hf⟩, r⟩ => by
    obtain ⟨p, he2⟩ := drop_ev hk he hi
    exact ⟨wl.drop p, _, P, (drop_step hk).wk, he2, hf, r.step (drop_step hk)⟩
end
end PL

namespace PL
open PySem PySem.Spec L2
open PyProof.Rows PySem.W

/-! # sorted by a key: any key whose calls keep the data -/
def pyk (key : D → D) : D → PyData := fun d => toPy (key d)
/-- one call of the key: whatever stands apart stays, the answer stands for the key of the datum -/
def KeyCall (X : Cx) (pins : List (Addr × Obj)) (σ : L2.St) (H0 : Hp) (wl : Wd) (f : Value) (P : D → Prop) (key : D → D) : Prop :=
  ∀ (H : Hp) (s : Shared) (d : D) (v : V) (u : Value), Inv X pins σ H s → Ext wl H0 H → P d → Rp X.K wl H d v → RelV v u →
    wpAny (model X.prog X.w) X.A.in1.in1 (PySem.call f [u]) (fun u' s' => ∃ (v' : V) (H' : Hp), Inv X pins σ H' s' ∧ Ext wl H H' ∧ RelV v' u' ∧ Rp X.K wl H' (key d) v' ∧
      (∀ b, H b = none → (∃ o, s.heap.get? b = some o) → H' b = none) ∧ ∀ b o, H b = none → b ∉ frs X.stack → s.heap.get? b = some o → s'.heap.get? b = some o) (fun _ _ => False) s
theorem fp_of {X : Cx} {pins : List (Addr × Obj)} {H H' : Hp} {b : Addr} (h : FpOk X pins H b) (n : H' b = none) : FpOk X pins H' b := ⟨n, h.2⟩
theorem each_of {K : PySem.W.Frag} {wl : Wd} {H : Hp} : ∀ {ds : List D} {vs : List V} {us : List Value}, RpL K wl H ds vs → Vals vs us → EachIs (fun u d => ∃ v, RelV v u ∧ Rp K wl H d v) us ds
  | [], _, _, r, q => by cases r; cases q; exact .nil
  | d :: ds, _, _, ⟨v, t, e, r, r2⟩, q => by
    subst e
    cases q with
    | cons a b => exact .cons ⟨v, a, r⟩ (each_of r2 b)
theorem of_each {K : PySem.W.Frag} {wl : Wd} {H : Hp} : ∀ {ds : List D} {us : List Value}, EachIs (fun u d => ∃ v, RelV v u ∧ Rp K wl H d v) us ds → ∃ vs, Vals vs us ∧ RpL K wl H ds vs
  | _, _, .nil => ⟨[], .nil, rfl⟩
  | _, _, .cons ⟨v, a, r⟩ t =>
    let ⟨vs, b, r2⟩ := of_each t
    ⟨v :: vs, .cons a b, v, vs, rfl, r, r2⟩
theorem dp_list {K : PySem.W.Frag} {wl : Wd} {H : Hp} {ds : List D} {vs : List V} (h : ∀ d ∈ ds, tame d) (r : RpL K wl H ds vs) : DpAll K H vs (toPyL ds) := by
  refine RpL.dp ds vs ?_ r
  clear r
  induction ds with
  | nil => rfl
  | cons d ds ih =>
    show (good d && goodL ds) = true
    rw [(h d (List.mem_cons_self ..)).nice.good, ih fun e he => h e (List.mem_cons_of_mem _ he)]
    rfl
theorem toPyL_map : ∀ ds : List D, toPyL ds = ds.map toPy
  | [] => rfl
  | d :: ds => by show toPy d :: toPyL ds = _; rw [toPyL_map ds]; rfl
theorem reads_each {h : Heap} : ∀ {us : List Value} {ds : List PyData} {as : List Addr}, ReadsAll h us ds as → EachIs (fun u d => ∃ as, Reads h u d as) us ds
  | us, ds, as, r => by
    have := readsAll_each (β := PyData) (fun d => d) (vs := us) (bs := ds) (as := as) (h := h) (by rw [List.map_id'] <;> exact r)
    exact this
section
variable {X : Cx} {pins : List (Addr × Obj)} {σ : L2.St} {H : Hp} {s : Shared} {wl : Wd} {a kS : Addr} {f : Value} {key : D → D} {ds : List D} {us : List Value}
/-- as the keys are asked for: the list stands empty at a, the keys so far at kS -/
structure Asked (X : Cx) (pins : List (Addr × Obj)) (σ : L2.St) (H : Hp) (wl : Wd) (a kS : Addr) (e1 : Nat) (key : D → D) (ds : List D) (i : Nat) (s : Shared) : Prop where
  ex : ∃ (H1 : Hp) (kA : Array Value) (e : Nat) (kvs : List V), Inv X pins σ H1 s ∧ Ext wl H H1 ∧ s.heap.get? kS = some (seqObj "list" kA e) ∧ s.heap.get? a = some (seqObj "list" #[] e1) ∧
    FpOk X pins H1 a ∧ FpOk X pins H1 kS ∧ a ∉ frs X.stack ∧ kS ∉ frs X.stack ∧ Vals kvs kA.toList ∧ RpL X.K wl H1 ((ds.take i).map key) kvs
theorem asked_step {P : D → Prop} {e1 i : Nat} {u : Value} {d : D} {v : V} {s : Shared} (kc : KeyCall X pins σ H wl f P key) (hkS : kS ≠ a) (hd : ds[i]? = some d) (hP : P d) (hwk : Wk wl H) (rd : Rp X.K wl H d v) (ru : RelV v u) (h : Asked X pins σ H wl a kS e1 key ds i s) :
    wpAny (model X.prog X.w) X.A.in1.in1 (PySem.call f [u]) (fun u' s' => ∃ (kA : Array Value) (e : Nat), s'.heap.get? kS = some (seqObj "list" kA e) ∧ kA.size ≤ i ∧ Asked X pins σ H wl a kS e1 key ds (i + 1) { s' with heap := s'.heap.update kS (Obj.mapSeq (·.push u')) }) (fun _ _ => False) s := by
  obtain ⟨H1, kA, e, kvs, I, x, hk1, ha1, fa, fk, na, nk, rk, rk2⟩ := h.ex
  refine wpAny_mono (kc H1 s d v u I x hP (Rp.ext hwk x d v rd) ru) (fun u' s' hq => ?_) fun _ _ z => z
  obtain ⟨v', H2, I2, x2, ru', rd', free, keep⟩ := hq
  have hk2 := keep kS _ fk.1 nk hk1
  have ha2 := keep a _ fa.1 na ha1
  have fk2 := fp_of fk (free kS fk.1 ⟨_, hk1⟩)
  have fa2 := fp_of fa (free a fa.1 ⟨_, ha1⟩)
  have hlen : kA.size ≤ i := by
    have l1 := rk.length
    have l2 := rk2.length
    rw [List.length_map, List.length_take] at l2
    have l3 : kA.toList.length = kA.size := Array.length_toList
    have l4 : min i ds.length ≤ i := Nat.min_le_left _ _
    omega
  refine ⟨kA, e, hk2, hlen, ⟨H2, kA.push u', _, kvs ++ [v'], ?_, x.trans x2, get?_update_seq hk2 (·.push u'), ?_, fa2, fk2, na, nk, ?_, ?_⟩⟩
  · refine I2.turned (t' := s'.toks) (it := kS) (fun b o hb e => ?_) fk2.1 fk2.2.1 fk2.2.2.2.1 fk2.2.2.2.2.1 fk2.2.2.2.2.2
    exact ((Heap.SameBut.update s'.heap kS (Obj.mapSeq (·.push u'))).2 b hb).trans e
  · exact ((Heap.SameBut.update s'.heap kS (Obj.mapSeq (·.push u'))).2 a hkS.symm).trans ha2
  · rw [Array.toList_push]
    exact rk.append (.cons ru' .nil)
  · have et : (ds.take (i + 1)).map key = (ds.take i).map key ++ [key d] := by rw [List.take_add_one, hd]; simp
    rw [et]
    exact (RpL.ext x.wk x2 _ _ rk2).append (RpL.one rd')
/-- all keys are there: the sort itself -/
theorem asked_done {e1 : Nat} {s : Shared} {E : Value → Shared → Prop} {R : PySem.Fin → Shared → Prop} (hkS : kS ≠ a) (hl : us.length = ds.length) (hL : ds.length ≤ LIM) (ht : ∀ d ∈ ds, tame (key d)) (hal : AllAlike (ds.map (pyk key))) (hsk : Sortable (ds.map (pyk key)))
    (hu : X.A.units + 100 < cLine) (h : Asked X pins σ H wl a kS e1 key ds ds.length s)
    (q : ∀ (H1 : Hp) (h' : Heap) (tk : Nat) (out : List Value) (c : Nat), Inv X pins σ H1 { s with heap := h', toks := tk } → Ext wl H H1 → FpOk X pins H1 a → h'.get? a = some (seqObj "list" out.toArray c) → out.length ≤ LIM → KeyedOut false (ds.map (pyk key)) us out → R (.done (.ret .none)) { s with heap := h', toks := tk }) (kA : Array Value) (e : Nat)
    (hkA : s.heap.get? kS = some (seqObj "list" kA e)) : wpAny (model X.prog X.w) X.A.in1.in1 (ksk_end a false us.toArray e1 (.ref kS) kA) R E s := by
  obtain ⟨H1, kA', e', kvs, I, x, hk1, ha1, fa, fk, na, nk, rk, rk2⟩ := h.ex
  rw [hkA] at hk1
  cases hk1
  rw [List.take_length] at rk2
  have len : kA.size = us.length := by
    have l1 := rk.length
    have l2 := rk2.length
    rw [List.length_map] at l2
    have l3 : kA.toList.length = kA.size := Array.length_toList
    omega
  have ek : (ds.map key).map toPy = ds.map (pyk key) := by rw [List.map_map]; rfl
  obtain ⟨as, rr⟩ := Dp.readsAll I (toPyL (ds.map key)) kvs kA.toList (dp_list (fun k hk => by
    obtain ⟨d, hd, rfl⟩ := List.mem_map.mp hk
    exact ht d hd) rk2) rk
  have each := reads_each rr
  rw [toPyL_map, ek] at each
  -- the heap without the keys' list
  obtain ⟨G, g1, g2⟩ := restrict s.heap fun b => decide (b ≠ kS)
  have gk : ∀ b, b ≠ kS → G.get? b = s.heap.get? b := fun b hb => g1 b (decide_eq_true hb)
  have gn : G.get? kS = none := g2 kS (by simp)
  have kp : KeepsBut a G s.heap := fun b o _ z => by
    by_cases hb : b = kS
    · rw [hb, gn] at z; cases z
    · rw [gk b hb] at z; exact z
  refine keyH_end (κ := dataKind s.heap (ds.map (pyk key))) (h₁ := G) (vs := us) kp gn hkA ha1 hkS (SortsAt.data each hal hsk fun d hd => ?_) len (by rw [hl]; exact lim_line hL) fun h' tk c kp2 ha2 => ?_
  · obtain ⟨d0, hd0, rfl⟩ := List.mem_map.mp hd
    have := (ht d0 hd0).2
    show X.A.units + 1 + 1 + (toPy (key d0)).depth < cLine
    rw [dep_eq]; omega
  · have J : Inv X pins σ H1 { s with heap := h', toks := tk } := I.turnedL (ch := [a, kS]) (fun b o hb z => by
      have h1 : b ≠ a := fun y => hb (by simp [y])
      have h2 : b ≠ kS := fun y => hb (by simp [y])
      exact kp2 b o h1 ((gk b h2).trans z)) (fun b hb => by
      rcases List.mem_cons.mp hb with rfl | hb
      · exact fa
      · obtain rfl := List.mem_singleton.mp hb
        exact fk)
    have hkl : kA.toList.length = us.length := by rw [Array.length_toList]; exact len
    exact q H1 h' tk _ c J x fa ha2 (by rw [sortVals_length false hkl, hl]; exact hL) ⟨s.heap, kA.toList, hal, rfl, each⟩
/-- the keys, one after another -/
theorem asked_all {P : D → Prop} {vs : List V} {e1 : Nat} {R : PySem.Fin → Shared → Prop} {E : Value → Shared → Prop} (kc : KeyCall X pins σ H wl f P key) (hP : ∀ d ∈ ds, P d) (hwk : Wk wl H) (rv : RpL X.K wl H ds vs) (ru : Vals vs us) (hkS : kS ≠ a) (hL : ds.length ≤ LIM)
    (h : Asked X pins σ H wl a kS e1 key ds 0 s) (done : ∀ (s' : Shared) (kA : Array Value) (e : Nat), Asked X pins σ H wl a kS e1 key ds ds.length s' → s'.heap.get? kS = some (seqObj "list" kA e) → wpAny (model X.prog X.w) X.A.in1.in1 (ksk_end a false us.toArray e1 (.ref kS) kA) R E s') :
    wpAny (model X.prog X.w) X.A.in1.in1 (ksk_rest a f false us.toArray e1 (.ref kS)) R E s := by
  have hlen : us.length = ds.length := by rw [← ru.length, rv.length]
  unfold ksk_rest
  refine wpAny_bind (wpAny_rule ?_)
  rw [List.forIn_toArray]
  refine wpAny_bind (ksk_fold (fun i s' => Asked X pins σ H wl a kS e1 key ds i s') us 0 s h (fun j u s' hu ha => ?_) fun s' ha => ?_)
  · rw [Nat.zero_add] at ha ⊢
    have hj : j < ds.length := by
      have := (List.getElem?_eq_some_iff.mp hu).1
      omega
    have hd : ds[j]? = some ds[j] := List.getElem?_eq_getElem hj
    obtain ⟨v, hv, rd⟩ := rv.get hd
    obtain ⟨u2, hu2, r2⟩ := ru.get hv
    rw [hu] at hu2
    cases hu2
    refine wpAny_bind (wpAny_attempt (wpAny_mono (asked_step kc hkS hd (hP _ (List.getElem_mem hj)) hwk rd r2 ha) (fun u' s2 hq => ?_) fun _ _ z => z.elim))
    obtain ⟨kA, e, hk, hle, next⟩ := hq
    have big : kA.size ≤ sizeLine := Nat.le_trans hle (Nat.le_trans (Nat.le_of_lt hj) (lim_line hL))
    exact wpAny_bind (listUpdate_at (n := e) hk rfl (wpAny_pure ⟨rfl, next⟩) big (by rw [Array.size_push]; exact Nat.succ_le_succ big))
  · rw [Nat.zero_add, hlen] at ha
    obtain ⟨_, kA, e, _, _, _, hk, _⟩ := ha.ex
    exact wpAny_bind (listItems_at (xs := kA) hk rfl (done s' kA e ha hk))
/-- sorted(l, key=f) -/
theorem sortKey_run {P : D → Prop} {l : Addr} {vs : List V} {Q : VK} (I : Inv X pins σ H s) (hwk : Wk wl H) (hl : SqL X.K H l vs) (rv : RpL X.K wl H ds vs) (fq : ∃ g, f = .ref g) (kc : KeyCall X pins σ H wl f P key) (hP : ∀ d ∈ ds, P d) (hL : ds.length ≤ LIM) (ht : ∀ d ∈ ds, tame (key d))
    (hal : AllAlike (ds.map (pyk key))) (hsk : Sortable (ds.map (pyk key))) (hu : X.A.units + 100 < cLine)
    (q : ∀ (p : Addr) (H1 : Hp) (ws : List V), Ext wl H H1 → H1 p = none → RpL X.K wl H1 (ds.mergeSort (dataLe false (pyk key))) ws → Q (.ref p) (upd H1 p (.lst ws))) :
    wpAny (model X.prog X.w) X.A (PySem.call (.builtin "sorted") [.ref l] [(Str.ofString "key", f)]) (EP X pins σ Q) X.xe s := by
  obtain ⟨g, rfl⟩ := fq
  obtain ⟨us, ru, pl, hz⟩ := I.list hl
  have hlen : us.length = ds.length := by rw [← ru.length, rv.length]
  have hus : us.length ≤ sizeLine := by rw [hlen]; exact lim_line hL
  refine sorted_of_sort pl.isList hus (PyProof.Rows.ksk_s1 _ _) (fun _ => PyProof.Rows.ksk_l1 _ _) fun E' => ?_
  rw [ksk_t1]
  -- the copy stands at p, the list of the keys at kS
  let p := s.heap.objs.size + 1
  have ho : (copyHeap s.heap us).get? p = some (seqObj "list" us.toArray 0) := copyHeap_at s.heap us
  have I0 : Inv X pins σ H { s with heap := copyHeap s.heap us } := I.kept (t' := s.toks) fun b o e => copyHeap_old e
  have hsz : s.heap.objs.size ≤ p := Nat.le_succ _
  have fp0 : FpOk X pins H p := I.fpOk hsz (I.hok.fresh hsz)
  have np : p ∉ frs X.stack := fun z => by
    rcases List.mem_cons.mp (I.stkSub p z) with e | e
    · exact fp0.2.1 e
    · exact fp0.2.2.1 e
  obtain ⟨e1, ho1⟩ : ∃ e1, ((copyHeap s.heap us).update p (Obj.mapSeq fun _ => (#[] : Array Value))).get? p = some (seqObj "list" #[] e1) := ⟨_, get?_update_seq ho fun _ => #[]⟩
  let h1 := (copyHeap s.heap us).update p (Obj.mapSeq fun _ => (#[] : Array Value))
  let h2 := h1.push (seqObj "tuple" us.toArray 0)
  let kS := h2.objs.size
  let h3 := h2.push (seqObj "list" #[] 0)
  have upA : ∀ b o, b ≠ p → (copyHeap s.heap us).get? b = some o → h3.get? b = some o := fun b o hb e =>
    Heap.get?_push_of_some _ (Heap.get?_push_of_some _ (((Heap.SameBut.update (copyHeap s.heap us) p (Obj.mapSeq fun _ => (#[] : Array Value))).2 b hb).trans e))
  have big : s.heap.objs.size ≤ kS := by
    have z1 : p < (copyHeap s.heap us).objs.size := Heap.lt_size ho
    have z2 : h1.objs.size = (copyHeap s.heap us).objs.size := Heap.size_update ..
    have z3 : h2.objs.size = h1.objs.size + 1 := size_push' ..
    show s.heap.objs.size ≤ h2.objs.size
    omega
  have hkp : kS ≠ p := by
    have z1 : p < (copyHeap s.heap us).objs.size := Heap.lt_size ho
    have z2 : h1.objs.size = (copyHeap s.heap us).objs.size := Heap.size_update ..
    have z3 : h2.objs.size = h1.objs.size + 1 := size_push' ..
    show h2.objs.size ≠ p
    omega
  have fpk : FpOk X pins H kS := I.fpOk big (I.hok.fresh big)
  have nk : kS ∉ frs X.stack := fun z => by
    rcases List.mem_cons.mp (I.stkSub kS z) with e | e
    · exact fpk.2.1 e
    · exact fpk.2.2.1 e
  have I3 : Inv X pins σ H { s with heap := h3 } := Inv.turned (s := { s with heap := copyHeap s.heap us }) I0 (t' := s.toks) (it := p) upA fp0.1 fp0.2.1 fp0.2.2.2.1 fp0.2.2.2.2.1 fp0.2.2.2.2.2
  unfold ksk_tree
  refine wpAny_bind (listItems_at (xs := us.toArray) ho rfl (wpAny_bind (listUpdate_at (n := 0) ho rfl ?_ (by rw [List.size_toArray]; exact hus) (Nat.zero_le _))))
  refine wpAny_bind (seqEpoch_at (n := e1) ho1 rfl (wpAny_bind (wpAny_newTuple ?_ (by show us.length ≤ _; exact hus))))
  refine wpAny_bind (wpAny_newList (wpAny_holding ?_) (Nat.zero_le _))
  refine asked_all (s := { s with heap := h3 }) kc hP hwk rv ru hkp hL ⟨H, #[], 0, [], I3, .refl hwk, Heap.get?_push_size _ rfl, Heap.get?_push_of_some _ (Heap.get?_push_of_some _ ho1), fp0, fpk, np, nk, .nil, rfl⟩ fun s' kA e ha hk => ?_
  refine asked_done hkp hlen hL ht hal hsk hu ha (fun H1 h' tk out c J x fa hp hol ko => ⟨rfl, ?_⟩) kA e hk
  have ee := keyedOut_each (pyk key) ko (each_of (RpL.ext hwk x _ _ rv) ru)
  obtain ⟨ws, r1, r2⟩ := of_each ee
  refine ⟨.ref p, upd H1 p (.lst ws), J.take (t' := tk) (it := p) (o := .lst ws) (fun _ _ _ z => z) fa ⟨by rw [r1.length]; exact lim_line hol, _, c, r1, ?_⟩, rfl, q p H1 ws x fa.1 r2⟩
  exact hp
end

/-! ### the key is a def of the program -/
theorem keyCall_def {X : Cx} {W : WY} {pins : List (Addr × Obj)} {σ : L2.St} {H0 : Hp} {wl : Wd} {k : Nat} {x p : Str} {st : Stmt} {sp : PSp} {P : D → Prop} {key : D → D} (F : FnD X.prog X.w X.K X.mg X.base W.T k x st [p] sp) (ht : wl.tabs = W.T) (hgd : X.A.guards = some []) (hr : Room (k + 2) X.A)
    (hs : ∀ (d : D) (q : D → Prop), P d → q (key d) → sp [d] q fun _ => False) : ∃ f, X.mg x = some (.ref f) ∧ KeyCall X pins σ H0 wl (.ref f) P key := by
  obtain ⟨f, fd, ⟨FF, hm, hb⟩, F⟩ := F
  refine ⟨f, hm, fun H s d v u I x hd rd ru => ?_⟩
  have sp' : spOf X.K X.mg W.T sp [v] H (fun v' H' => Rp X.K wl H' (key d) v' ∧ Ext wl H H') (fun _ _ _ => False) :=
    ⟨wl, [d], fun e => e = key d, fun _ => False, ht, x.wk, RpL.one rd, hs d _ hd rfl, fun e v' H' ex r he => by subst he; exact ⟨r, ex⟩, fun _ _ _ _ _ _ z => z⟩
  refine wpAny_call (codeAny_mono (F.go X.A.in1.in1 X.stack s H ⟨[u], []⟩ [u] [v] _ _ hgd hr.in1.in1 I.env0.in1.in1 (hb s [u] I.kIn rfl) (.cons ru .nil) sp') fun res s2 hres => ?_)
  match res, hres with
  | .error e, ⟨_, _, _, _, _, _, _, _, _, _, _, _, z⟩ => exact z.elim
  | .ok .next, z => exact z.elim
  | .ok .brk, z => exact z.elim
  | .ok .cont, z => exact z.elim
  | .ok (.ret u'), hx =>
    obtain ⟨v1, H1, J, r1, q1, e1⟩ := I.after hx
    obtain ⟨v2, H2, os, bare, un, ok2, r2, q2, e2⟩ := hx
    exact ⟨v2, H2, I.call' os un ok2 bare (fun b z => absurd z (by simp)), e2, r2, q2, fun b n ⟨o, e⟩ => un.free b o e n (by simp), fun b o n nf e => un.keep b o e n nf (by simp)⟩

end PL

namespace PL
open PySem PySem.Spec L2
open PyProof.Rows PySem.W

/-! # a lambda is made: an object that is known from then on -/
def LamO (f : Addr) (o : Obj) : HO := .ext fun h => h.get? f = some o
theorem lamO_ok {P : Program} {w : World} {H : Hp} {h : Heap} {f : Addr} {o : Obj} (e : h.get? f = some o) : ObjOk P w H h f (LamO f o) := ⟨e, ⟨o, e⟩, fun _ _ z k => k _ z⟩
theorem lamO_nt {f : Addr} {o : Obj} : NT (LamO f o) := fun ps z => by
  unfold LamO at z
  cases z
theorem codeO_nt {c : Addr} {q : Str} : NT (LamX.CodeO c q) := fun ps z => LamX.codeO_ne ps z
/-- the function object of a lambda -/
abbrev lamF (q : Str) (params : Arguments) (body : Expr) (scope : Scope) (cl : List (Str × Addr)) (pm : Value) (c' : Addr) (ctv : Value) : Obj := kla_obj "<lambda>" q params body scope cl pm c' ctv
section
variable {X : Cx} {pins : List (Addr × Obj)} {σ : L2.St} {H : Hp} {s : Shared} {T : List (Addr × Str)} {c P : Addr} {params : Arguments} {body : Expr} {scope : Scope} {lpos : Pos}
/-- what is asked of the maker -/
structure LamMk (X : Cx) (T : List (Addr × Str)) (c P : Addr) (params : Arguments) (scope : Scope) : Prop where
  tb : LamX.TabB X.base X.mg c P
  code : X.env.code = .ref c
  mem : (P, X.env.qual ++ "<lambda>") ∈ T
  one : ∀ p ∈ T, p.1 = P → p.2 = X.env.qual ++ "<lambda>"
  dflt : defaultsOf params X.env = ([], [])
  free : ∀ y ∈ scope.names, y.2 = .free → ∃ c, X.env.cells.lookup y.1 = some c
theorem lam_mk {E : Value → Shared → Prop} {Q : Value → Shared → Prop} (I : Inv X pins σ H s) (M : LamMk X T c P params scope) (hT : LamX.Tabs T H)
    (q : ∀ (f c' : Addr) (pm ctv : Value) (H1 : Hp) (s' : Shared), Inv X pins σ H1 s' → LamX.ExtN H H1 → LamX.Tabs T H1 → H1 f = some (LamO f (lamF (X.env.qual ++ "<lambda>") params body scope (cloFrom X.env.cells scope.names []) pm c' ctv)) → H f = none → H1 c' = some (LamX.CodeO c' (X.env.qual ++ "<lambda>")) → Q (.ref f) s') :
    wpAny (model X.prog X.w) X.A (eval (.Lambda params body scope lpos) X.env) Q E s := by
  obtain ⟨ps, hP, triples, among⟩ := hT _ M.mem
  have bP : s.heap.BuiltinsAt X.mg P := M.tb.bm.keeps I.bk
  have atP : s.heap.get? P = some { cls := .none, data := .fields ps } := I.hok P _ hP
  -- the function object, new at f, is tracked
  have fin : ∀ (f c' : Addr) (pm ctv : Value) (H1 : Hp) (h' : Heap) (tk : Nat), Inv X pins σ H1 { s with heap := h', toks := tk } → LamX.ExtN H H1 → LamX.Tabs T H1 → s.heap.objs.size ≤ f → H1 f = none →
      h'.get? f = some (lamF (X.env.qual ++ "<lambda>") params body scope (cloFrom X.env.cells scope.names []) pm c' ctv) → H1 c' = some (LamX.CodeO c' (X.env.qual ++ "<lambda>")) → Q (.ref f) { s with heap := h', toks := tk } := by
    intro f c' pm ctv H1 h' tk I1 x1 t1 hf nf of hc
    have fp : FpOk X pins H1 f := fp_of (I.fpOk hf (I.hok.fresh hf)) nf
    have up : ∀ b o, H1 b = some o → upd H1 f (LamO f (lamF (X.env.qual ++ "<lambda>") params body scope (cloFrom X.env.cells scope.names []) pm c' ctv)) b = some o := fun b o e => by rw [upd_ne (ne_of_none e nf)]; exact e
    refine q f c' pm ctv _ _ (Inv.take (s := { s with heap := h', toks := tk }) I1 (t' := tk) (it := f) (fun _ _ _ z => z) fp (lamO_ok of)) (fun b o e n => up b o (x1 b o e n)) (t1.ext up) upd_same (I.hok.fresh hf) (up c' _ hc)
  refine kla_eval M.dflt ?_
  cases hcode : codeAmong lpos ps.toList with
  | some cv =>
    obtain ⟨c', e, hco⟩ := among lpos cv hcode
    subst e
    refine kla_makeFunctionHit (mg := X.mg) (c := c) (P := P) (ps := ps) (closure_ok M.free) I.ok.glob (I.mod.glob.keeps I.bk) M.code (M.tb.code.keeps I.bk) atP triples hcode bP fun ctv h' tk hx hsz => ?_
    exact fin _ c' _ ctv H _ tk (I.kept fun b o e => Heap.get?_push_of_some _ (hx b o e)) (LamX.ExtN.refl H) hT hsz (I.hok.fresh hsz) (Heap.get?_push_size _ rfl) hco
  | none =>
    refine kla_makeFunction (mg := X.mg) (c := c) (P := P) (ps := ps) (closure_ok M.free) I.ok.glob (I.mod.glob.keeps I.bk) M.code (M.tb.code.keeps I.bk) atP triples hcode M.tb.gP bP fun c' ctv h' tk hx hge hlt hrec htb => ?_
    obtain ⟨c2, oc, vs, t, e2, hoc, hd, hv⟩ := hrec
    cases e2
    have hsz : s.heap.objs.size ≤ h'.objs.size := Nat.le_trans hge (Nat.le_of_lt hlt)
    have nC : H c' = none := I.hok.fresh hge
    let row : Array Value := #[rawInt lpos.line, rawInt lpos.col, .ref c']
    let H1 : Hp := upd (upd H P (.tbl (ps ++ row))) c' (LamX.CodeO c' (X.env.qual ++ "<lambda>"))
    have x1 : LamX.ExtN H H1 := fun b o e n => by
      have h1 : b ≠ c' := ne_of_none e nC
      have h2 : b ≠ P := fun z => n ps (by rw [z, hP] at e; exact (Option.some.inj e).symm)
      show upd (upd H P _) c' _ b = some o
      rw [upd_ne h1, upd_ne h2]; exact e
    have I1 := LamX.inv_table (q := X.env.qual ++ "<lambda>") (t' := tk) (more := row) (h' := h'.push (lamF (X.env.qual ++ "<lambda>") params body scope (cloFrom X.env.cells scope.names []) ((X.mg "__name__").getD .none) c' ctv)) I hP
      (fun b o hb e => Heap.get?_push_of_some _ (hx b o hb e)) (Heap.get?_push_of_some _ htb) hge ⟨oc, vs, t, Heap.get?_push_of_some _ hoc, hd, hv⟩
    have rows : (ps ++ row).toList = ps.toList ++ [rawInt lpos.line, rawInt lpos.col, .ref c'] := by simp [row]
    have t1 : LamX.Tabs T H1 := fun p hp => by
      by_cases hb : p.1 = P
      · rw [M.one p hp hb, hb]
        refine ⟨ps ++ row, ?_, by rw [rows]; exact PySem.TriplesOk_snoc _ _ _ _ triples, fun p' cv hcv => ?_⟩
        · show upd (upd H P _) c' _ P = _
          rw [upd_ne (ne_of_none hP nC), upd_same]
        · rw [rows] at hcv
          rcases LamX.among_app _ triples hcv with z | z
          · obtain ⟨c0, e1, e2⟩ := among p' cv z
            exact ⟨c0, e1, x1 _ _ e2 codeO_nt⟩
          · exact ⟨c', z, upd_same⟩
      · obtain ⟨ps', a1, a2, a3⟩ := hT p hp
        refine ⟨ps', ?_, a2, fun p' cv hcv => ?_⟩
        · show upd (upd H P _) c' _ p.1 = _
          rw [upd_ne (ne_of_none a1 nC), upd_ne hb]; exact a1
        · obtain ⟨c0, e1, e2⟩ := a3 p' cv hcv
          exact ⟨c0, e1, x1 _ _ e2 codeO_nt⟩
    have nf : H1 h'.objs.size = none := by
      have n1 : h'.objs.size ≠ c' := Nat.ne_of_gt hlt
      have n2 : h'.objs.size ≠ P := Nat.ne_of_gt (Nat.lt_of_lt_of_le (Heap.lt_size atP) hsz)
      show upd (upd H P _) c' _ _ = none
      rw [upd_ne n1, upd_ne n2]
      exact I.hok.fresh hsz
    exact fin _ c' _ ctv H1 _ tk I1 x1 t1 hsz nf (Heap.get?_push_size _ rfl) upd_same
/-- a lambda as a value -/
def tLm (T : List (Addr × Str)) (qn : Str) (params : Arguments) (body : Expr) (scope : Scope) (cl : List (Str × Addr)) : TE := fun _ H Q => LamX.Tabs T H ∧ ∀ (f c' : Addr) (pm ctv : Value) (H1 : Hp), LamX.ExtN H H1 → LamX.Tabs T H1 → H f = none →
  H1 f = some (LamO f (lamF qn params body scope cl pm c' ctv)) → H1 c' = some (LamX.CodeO c' qn) → Q (.ref f) H1
theorem pe_lm (M : LamMk X T c P params scope) : PE X (.Lambda params body scope lpos) (tLm T (X.env.qual ++ "<lambda>") params body scope (cloFrom X.env.cells scope.names [])) :=
  ⟨fun pins s σ H Q I ⟨ht, h⟩ => lam_mk I M ht fun f c' pm ctv H1 s' I1 x1 t1 hf nf hc => ⟨.ref f, H1, I1, rfl, h f c' pm ctv H1 x1 t1 nf hf hc⟩⟩
end
/-- the heap with a lambda more, by worlds -/
theorem lam_ext {wl : Wd} {H H1 : Hp} (hk : Wk wl H) (x : LamX.ExtN H H1) (t : LamX.Tabs wl.tabs H1) : Ext wl H H1 := by
  refine ⟨fun a o _ e n => x a o e n, fun p hp => ?_, fun a ha => ?_, fun a ha => ?_, t⟩
  · obtain ⟨i, j, k, e, r⟩ := hk.well p hp
    exact ⟨i, j, k, x _ _ e (fun _ z => nomatch z), r⟩
  · obtain ⟨o, e, m⟩ := hk.hid a ha
    exact ⟨o, x _ _ e m.nt, m⟩
  · obtain ⟨o, e, m⟩ := hk.ow a ha
    exact ⟨o, x _ _ e m.nt, m⟩
/-! ### the key is a lambda of one parameter that captures nothing -/
theorem keyCall_lam {X : Cx} {T : List (Addr × Str)} {pins : List (Addr × Obj)} {σ : L2.St} {H0 : Hp} {wl : Wd} {k : Nat} {f c' : Addr} {qn p : Str} {params : Arguments} {body : Expr} {scope : Scope} {pm ctv : Value} {N : List Str} {g : PX} {P : D → Prop} {key : D → D}
    (ht : wl.tabs = T) (hfo : H0 f = some (LamO f (lamF qn params body scope [] pm c' ctv))) (hwf : wl.wl ≠ some f) (hc : H0 c' = some (LamX.CodeO c' qn)) (hw : wl.wl ≠ some c') (hgd : X.A.guards = some []) (hr : Room (k + 3) X.A) (S : FnScope N [p] scope)
    (hbind : ∀ u : Value, bindArgs (kla_fn "<lambda>" qn params body scope [] pm (.ref c') ctv) ⟨[u], []⟩ = pure [(p, u)])
    (hbody : ∀ (A : Around) (outer : List Env) (s : Shared) (H : Hp) (E : XK), A.guards = some [] → Room k (A.deeper (envOfC qn scope s.heap.objs.size f (.ref c'))) → Takes (cxOf (L2.CX X.prog X.w) X.prog X.w X.K X.mg X.base N qn scope f (.ref c') A outer s H E) (fun c d _ H' => E c d H') →
      PE (cxOf (L2.CX X.prog X.w) X.prog X.w X.K X.mg X.base N qn scope f (.ref c') A outer s H E) body (eE (cxOf (L2.CX X.prog X.w) X.prog X.w X.K X.mg X.base N qn scope f (.ref c') A outer s H E) ⟨fun c d _ H' => E c d H', T⟩ g))
    (hs : ∀ (d : D) (q : D → Prop), P d → q (key d) → g (startD N [d]) q fun _ => False) : KeyCall X pins σ H0 wl (.ref f) P key := by
  intro H s d v u I x hd rd ru
  have hf : s.heap.get? f = some (lamF qn params body scope [] pm c' ctv) := (I.hok f _ (x.keep f _ hwf hfo lamO_nt)).1
  have hc1 : H c' = some (LamX.CodeO c' qn) := x.keep c' _ hw hc fun ps z => LamX.codeO_ne ps z
  obtain ⟨⟨oc, vs, t, hoc, hdc, hvc⟩, _, _⟩ := I.hok c' _ hc1
  let Q : VK := fun v' H' => Rp X.K wl H' (key d) v' ∧ Ext wl H H'
  let E : XK := fun _ _ _ => False
  have r2 := hr.in1.in1
  have e0 := I.env0.in1.in1
  have run : codeAny (model X.prog X.w) X.A.in1.in1 (.call (.ref f) ⟨[u], []⟩) (CR (L2.CX X.prog X.w) X.stack X.prog X.w H s Q E) s := by
    refine kla_callFunE r2.depth hf rfl S.co S.gen rfl ⟨c', oc, vs, t, rfl, hoc, hdc, hvc⟩ ?_
    rw [hbind u]
    have kinds : ∀ y ∈ [(p, u)], scope.names.lookup y.1 = some .local ∨ (scope.names.lookup y.1 = some .cell ∧ ((cellsFrom (s.heap.objs.size + 1) scope.names []).lookup y.1).isSome = true) := by
      intro y hy
      obtain rfl := List.mem_singleton.mp hy
      cases S.par p (List.mem_cons_self ..) with
      | inl z => exact .inl z
      | inr z => exact .inr ⟨z, PySem.W.cellsFrom_some _ _ _ (.inl z)⟩
    refine wpAny_pure (wpAny_newFunctionEnv_cells S.kind kinds fun env he s1 ic => ?_)
    subst he
    refine ⟨I.nolimit.keeps ic.toInCall.keep, ?_⟩
    have J : Inv (cxOf (L2.CX X.prog X.w) X.prog X.w X.K X.mg X.base N qn scope f (.ref c') X.A.in1.in1 X.stack s H E) [] (L2.start N [v]) H s1 := inv_start S r2.hd e0 rfl (.cons ru .nil) ic
    refine kla_codeExpr (wpAny_mono ((hbody X.A.in1.in1 X.stack s H E hgd (r2.deeper _) (takes_of rfl rfl rfl rfl)).run [] s1 (L2.start N [v]) H Q J ?_) (fun u' s2 hq => ?_) fun _ _ z => z)
    · refine ⟨wl.call, _, fun e => e = key d, fun _ => False, x.wk.call, evr_start (RpL.less (w := wl) (w' := wl.call) rfl (fun _ z => Wd.call_fr.mp z) [d] [v] (RpL.one rd)), hs d _ hd rfl, fun e v' H' ex r he => ?_, ⟨ht, fun _ _ _ _ _ _ z => z.elim⟩⟩
      subst he
      exact ⟨ex.step.back_rp r, ex.step.back⟩
    · obtain ⟨v', H', J', rv, q⟩ := hq
      exact ⟨v', H', J'.os, J'.bare, J'.base, J'.hok, rv, q⟩
  refine wpAny_call (codeAny_mono run fun res s2 hres => ?_)
  match res, hres with
  | .error e, ⟨_, _, _, _, _, _, _, _, _, _, _, _, z⟩ => exact z.elim
  | .ok .next, z => exact z.elim
  | .ok .brk, z => exact z.elim
  | .ok .cont, z => exact z.elim
  | .ok (.ret u'), ⟨v2, H2, os, bare, un, ok2, r3, q2, e2⟩ =>
    exact ⟨v2, H2, I.call' os un ok2 bare (fun b z => absurd z (by simp)), e2, r3, q2, fun b n ⟨o, e⟩ => un.free b o e n (by simp), fun b o n nf e => un.keep b o e n nf (by simp)⟩

/-! ### the rules -/
def sortK (key : D → D) (xs : List D) : List D := xs.mergeSort (dataLe false (pyk key))
structure CanSort (P : D → Prop) (key : D → D) (xs : List D) : Prop where
  len : xs.length ≤ LIM
  ok : ∀ y ∈ xs, P y ∧ tame (key y)
  like : AllAlike (xs.map (pyk key))
  can : Sortable (xs.map (pyk key))
section
variable {X : Cx} {W : WY}
def rSrt (X : Cx) : List V → List V → Hp → VK → Prop := fun vs zs H Q => ∃ (l f : Addr) (wl : Wd) (ds : List D) (us : List V) (P : D → Prop) (key : D → D), vs = [.ref l] ∧ zs = [.ref f] ∧ Wk wl H ∧ SqL X.K H l us ∧ RpL X.K wl H ds us ∧ (∀ pins σ, KeyCall X pins σ H wl (.ref f) P key) ∧ CanSort P key ds ∧
  ∀ (p : Addr) (H1 : Hp) (ws : List V), Ext wl H H1 → H1 p = none → RpL X.K wl H1 (sortK key ds) ws → Q (.ref p) (upd H1 p (.lst ws))
theorem cr_srt (hu : X.A.units + 200 < cLine) : CallRK X (.builtin "sorted") [Str.ofString "key"] (rSrt X) := by
  intro pins s σ H vs zs us ws Q I r rz ⟨l, f, wl, ds, xs, P, key, e1, e2, hk, hl, rl, kc, cs, q⟩
  subst e1; subst e2
  obtain rfl := Vals.ref1 r
  obtain ⟨w1, rfl, e1⟩ := vals1 rz
  obtain rfl : w1 = Value.ref f := e1
  exact sortKey_run I hk hl rl ⟨f, rfl⟩ (kc pins σ) (fun d hd => (cs.ok d hd).1) cs.len (fun d hd => (cs.ok d hd).2) cs.like cs.can (by omega) q
theorem clo_nil {cells : List (Str × Addr)} : ∀ {names : List (Str × NameKind)}, (∀ y ∈ names, y.2 ≠ .free) → cloFrom cells names [] = []
  | [], _ => rfl
  | y :: r, h => by
    have h1 := h y (List.mem_cons_self ..)
    have ih := clo_nil (cells := cells) (names := r) fun z hz => h z (List.mem_cons_of_mem _ hz)
    obtain ⟨n, k⟩ := y
    cases k <;> first | exact (h1 rfl).elim | exact ih
/-- sorted(e, key=lambda p: body), the lambda capturing nothing; N: its names -/
def fSortL (N : List Str) (g fe : PX) : PX := fun ρ q x => fe ρ (fun d => ∃ (xs : List D) (P : D → Prop) (key : D → D), d = .lst xs ∧ (∀ (y : D) (q : D → Prop), P y → q (key y) → g (startD N [y]) q fun _ => False) ∧ CanSort P key xs ∧ q (.lst (sortK key xs))) x
theorem sort_end {wl : Wd} {H H1 : Hp} {p : Addr} {ds : List D} {ws : List V} {q : D → Prop} {Q : VK} (hk : Wk wl H) (x : Ext wl H H1) (n : H1 p = none) (r : RpL X.K wl H1 ds ws) (hq : ∀ d v H', Ext wl H H' → Rp X.K wl H' d v → q d → Q v H') (h : q (.lst ds)) : Q (.ref p) (upd H1 p (.lst ws)) := by
  obtain ⟨e, r2⟩ := new_lst x.wk n r
  exact hq _ _ _ (x.trans e) r2 h
theorem d_sortL {c P : Addr} {k : Nat} {e : Expr} {fe g : PX} {pn : Str} {N : List Str} {params : Arguments} {body : Expr} {scope : Scope} {p pos kpos lpos : Pos} (hg : Gl X "sorted") (hm : X.mg "sorted" = none) (he : PE X e (eE X W fe)) (M : LamMk X W.T c P params scope) (S : FnScope N [pn] scope) (hgd : X.A.guards = some []) (hr : Room (k + 3) X.A)
    (hbind : ∀ (pm cv ctv u : Value), bindArgs (kla_fn "<lambda>" (X.env.qual ++ "<lambda>") params body scope [] pm cv ctv) ⟨[u], []⟩ = pure [(pn, u)])
    (hbody : ∀ (f c' : Addr) (A : Around) (outer : List Env) (s : Shared) (H : Hp) (E : XK), A.guards = some [] → Room k (A.deeper (envOfC (X.env.qual ++ "<lambda>") scope s.heap.objs.size f (.ref c'))) → Takes (cxOf (L2.CX X.prog X.w) X.prog X.w X.K X.mg X.base N (X.env.qual ++ "<lambda>") scope f (.ref c') A outer s H E) (fun c d _ H' => E c d H') →
      PE (cxOf (L2.CX X.prog X.w) X.prog X.w X.K X.mg X.base N (X.env.qual ++ "<lambda>") scope f (.ref c') A outer s H E) body (eE (cxOf (L2.CX X.prog X.w) X.prog X.w X.K X.mg X.base N (X.env.qual ++ "<lambda>") scope f (.ref c') A outer s H E) ⟨fun c d _ H' => E c d H', W.T⟩ g))
    (hs1 : backTo pos (starEach [e] X.env) = (false, eval e X.env) :: backTo pos (starEach [] X.env) := by rfl) (hpl : (backTo pos (starEach [e] X.env)).any (·.1) = false := by rfl) (hst : starEach [e] X.env = (false, eval e X.env) :: starEach [] X.env := by rfl)
    (hall : (backToKw pos (keywordEach [⟨some (Str.ofString "key"), .Lambda params body scope lpos, kpos⟩] X.env)).all (·.1.isSome) = true := by rfl) (hnone : (backToKw pos (keywordEach [⟨some (Str.ofString "key"), .Lambda params body scope lpos, kpos⟩] X.env)).any (·.1.isNone) = false := by rfl)
    (hks : (backToKw pos (keywordEach [⟨some (Str.ofString "key"), .Lambda params body scope lpos, kpos⟩] X.env)).filterMap (·.1) = [Str.ofString "key"] := by rfl) :
    PE X (.Call (.Name "sorted" p) [e] [⟨some (Str.ofString "key"), .Lambda params body scope lpos, kpos⟩] pos) (eE X W (fSortL N g fe)) := by
  refine PE.weak (pe_callBK (cr_srt (u200 hr)) hg hm (by rfl) (pa_cons he pa_nil hst) (pk_cons (pe_lm M) pk_nil) (by decide) (by decide) hs1 hpl hall hnone hks) fun σ H Q ⟨wl, ρ, q, x, hk, hev, hf, hq, hx⟩ => ?_
  refine ⟨wl, ρ, _, x, hk, hev, hf, fun d v H1 e1 r1 ⟨xs, Pd, key, ed, hgk, cs, h1⟩ => ?_, hx⟩
  subst ed
  obtain ⟨a, us, rfl, fa, sa, ra⟩ := r1
  have ht : wl.tabs = W.T := hx.1
  refine ⟨by have := e1.wk.tabs; rw [ht] at this; exact this, fun f c' pm ctv H2 xn t2 nf hfo hco => ?_⟩
  have x2 : Ext wl H1 H2 := lam_ext e1.wk xn (by rw [ht]; exact t2)
  have sa2 := x2.keep a _ fa.1 sa (fun _ z => nomatch z)
  have nwell : ∀ b, H2 b ≠ none → (∀ vs, H2 b ≠ some (.lst vs)) → wl.wl ≠ some b := fun b _ z y => by
    obtain ⟨i, j, k, e, _⟩ := x2.wk.well b y
    exact z _ e
  have nil := clo_nil (cells := X.env.cells) (names := scope.names) S.nofree
  rw [nil] at hfo
  refine ⟨a, f, wl, xs, us, Pd, key, rfl, rfl, x2.wk, SqL.of sa2, RpL.ext e1.wk x2 _ _ ra, fun pins σ => keyCall_lam ht hfo ?_ hco ?_ hgd hr S (fun u => hbind pm (.ref c') ctv u) (fun A outer s H E => hbody f c' A outer s H E) hgk, cs, fun p H3 ws x3 np r3 => sort_end (e1.trans x2).wk x3 np r3 (fun d v H' x' => hq d v H' ((e1.trans x2).trans x')) h1⟩
  · exact nwell f (by rw [hfo]; exact fun z => nomatch z) (fun vs z => by rw [hfo] at z; unfold LamO at z; cases z)
  · exact nwell c' (by rw [hco]; exact fun z => nomatch z) (fun vs z => by rw [hco] at z; unfold LamX.CodeO at z; cases z)
/-- sorted(e, key=F), F a def -/
def fSortF (sp : PSp) (fe : PX) : PX := fun ρ q x => fe ρ (fun d => ∃ (xs : List D) (P : D → Prop) (key : D → D), d = .lst xs ∧ (∀ (y : D) (q : D → Prop), P y → q (key y) → sp [y] q fun _ => False) ∧ CanSort P key xs ∧ q (.lst (sortK key xs))) x
end
end PL

namespace PL
open PySem PySem.Spec L2
open PyProof.Rows PySem.W

/-! # enumerate of a tuple -/
def IteT (K : PySem.W.Frag) (a : Addr) : It :=
  ⟨fun i H => ∃ (xs : List V) (x : V), SqT K H a xs ∧ xs[i]? = some x, fun i H v H' => ∃ T x, v = .ref T ∧ H T = none ∧ H' = upd H T (.tup [.int (i : Nat), x]) ∧ ∀ xs, SqT K H a xs → xs[i]? = some x, fun i H => ∃ xs : List V, SqT K H a xs ∧ i = xs.length⟩
theorem new_enumB {v : Value} {o : Obj} {B : Heap → Prop} (b : Begins v o B) :
    Meets (Builtin.«enumerate.__new__» ⟨[.type "enumerate", v], []⟩) (fun _ R s => B s.heap ∧ R (.ok (.ret (.ref (s.heap.push o).objs.size))) { s with heap := (s.heap.push o).push { cls := .type "enumerate", data := .fields #[.none, .bool false, .ref s.heap.objs.size, rawInt 0, .none, .none] } }) :=
  .of_wp fun prog w A R s h => by
    obtain ⟨hp, g, d, tk, os⟩ := s
    obtain ⟨h1, h⟩ := h
    have sub := sub_enumerate
    have it : ∀ {A' : Around} {E Q : Value → Shared → Prop}, Q (.ref hp.objs.size) ⟨hp.push o, g, d, tk, os⟩ → wpAny (model prog w) A' (pyIter v) Q E ⟨hp, g, d, tk, os⟩ := fun q => b.iter prog w _ _ _ _ h1 q
    wp_walk using it
    refine wpAny_stack_any fun st => wpAny_pure ?_
    split
    · rename_i c _ _ _ _ _
      cases (c == Value.type "enumerate") <;> (wp_walk using it; exact ⟨_, rfl, h⟩)
    · wp_walk using it
      exact ⟨_, rfl, h⟩
section
variable {prog : Program} {w : World} {A : Around} {E : Value → Shared → Prop} {s : Shared}
theorem call_enumT {t : Addr} {items : Array Value} {Q : Value → Shared → Prop} (ht : s.heap.IsTuple t items)
    (h : ∀ h', IsEnum h' (s.heap.objs.size + 1) s.heap.objs.size 0 .none → h'.IsTupleIter s.heap.objs.size t 0 → (∀ b o, s.heap.get? b = some o → h'.get? b = some o) → Q (.ref (s.heap.objs.size + 1)) { s with heap := h' }) :
    wpAny (model prog w) A (call (.type "enumerate") [.ref t]) Q E s := by
  let o : Obj := { cls := .type "tuple_iterator", data := .fields #[.ref t, .int 0 0] }
  let en : Obj := { cls := .type "enumerate", data := .fields #[.none, .bool false, .ref s.heap.objs.size, rawInt 0, .none, .none] }
  refine callType_new F.called_enumerate (by decide) (F.typeCall_enumerate_1 _) (F.newCall_enumerate_1 _) (fun obj => F.args_object_init_2 obj _) F.entry_enumerate_new (new_enumB (begins_tuple t items)) ⟨ht, ?_⟩
  have hz : (s.heap.push o).objs.size = s.heap.objs.size + 1 := Heap.size_push ..
  have he : IsEnum ((s.heap.push o).push en) (s.heap.objs.size + 1) s.heap.objs.size 0 .none := by
    have q := Heap.get?_push_size (s.heap.push o) (o := en) rfl
    rw [hz] at q; exact q
  show _ ∧ _
  rw [hz]
  exact ⟨⟨_, he, rfl⟩, h _ he ⟨o, Heap.get?_push_of_some _ (Heap.get?_push_size _ rfl), rfl, rfl⟩ fun b u x => Heap.get?_push_of_some _ (Heap.get?_push_of_some _ x)⟩
end
theorem turn_enumT {P : Program} {w : World} {K : PySem.W.Frag} {elts : List Expr} {kk : Nat} {tpos : Pos} (a e it : Addr) :
    Turn P w K (.Tuple elts kk tpos) (IteT K a) [e, it] e (fun i h => (∃ old, IsEnum h e it ((i : Nat) : Int) old) ∧ h.IsTupleIter it a i ∧ e ≠ it) where
  mem := List.mem_cons_self ..
  obj := fun i h st b hb => by
    obtain ⟨⟨old, he⟩, ⟨o, ho, hc, hd⟩, _⟩ := st
    rcases List.mem_cons.mp hb with z | z
    · rw [z]; exact ⟨_, he, fun v q => nomatch q⟩
    · rw [List.mem_singleton.mp z]; exact ⟨o, ho, fun v q => by rw [hd] at q; cases q⟩
  keep := fun i h h' st k => let ⟨⟨old, he⟩, hi, hne⟩ := st; ⟨⟨old, k e (by simp) _ he⟩, hi.at fun o q => k it (by simp) o q, hne⟩
  item := by
    intro X hP hw hK hc i pins s σ H E I hf st hg
    subst hP hw hK
    obtain ⟨⟨old, he⟩, hit, hne⟩ := st
    obtain ⟨xs, x, hq, hx⟩ := hg
    obtain ⟨its, rv, p, hz⟩ := I.tuple hq
    have pT : s.heap.IsTuple a its.toArray := p
    obtain ⟨u, hu, ru⟩ := rv.get hx
    have hel : e < s.heap.objs.size := Heap.lt_size he
    have nat : a ≠ it := fun z => by
      obtain ⟨o1, h1, h2, _⟩ := hit
      obtain ⟨o2, h3, h4, _⟩ := pT
      rw [z, h1] at h3
      cases h3
      rw [h2] at h4
      exact absurd h4 (by decide)
    have nea : e ≠ a := fun z => by
      obtain ⟨o2, h3, h4, _⟩ := pT
      rw [← z] at h3
      have q := he.symm.trans h3
      rw [← Option.some.inj q] at h4
      have h5 : Value.type "enumerate" = Value.type "tuple" := h4
      exact absurd h5 (by decide)
    have hlt : i < its.toArray.size := by
      have := (List.getElem?_eq_some_iff.mp hu).1
      rw [List.size_toArray]; exact this
    refine wpAny_pyNext_enum_itemD (Draws.tuple (A := X.A.in1) (I.ok.hd hc) it a nat its.toArray) he ⟨hit, pT⟩ hlt hne (fun z => by
      rcases List.mem_cons.mp z with z | z
      · exact hne z
      · exact nea (List.mem_singleton.mp z)) fun y h' tk hy ho st' hT hsz hk => ?_
    have ey : y = u := by
      have hy : its.toArray[i]? = some y := hy
      rw [List.getElem?_toArray, hu] at hy
      exact (Option.some.inj hy).symm
    subst ey
    refine ⟨_, rfl, wpAny_letOwnedTupleGo_enum (s := { s with heap := h', toks := tk + 1 }) ho fun h'' he' sb => ?_⟩
    have hT2 : h''.get? s.heap.objs.size = some { cls := .type "tuple", data := .seq #[.int i tk, y] } := (sb.2 _ (Nat.ne_of_gt hel)).trans hT
    have new : ObjOk X.prog X.w (upd H s.heap.objs.size (.tup [.int (i : Nat), x])) h'' s.heap.objs.size (.tup [.int (i : Nat), x]) :=
      ⟨by show 2 ≤ sizeLine; decide, [.int i tk, y], .cons ⟨_, rfl⟩ (.cons ru .nil), ⟨_, hT2, rfl, _, rfl⟩⟩
    have I1 : Inv X pins σ (upd H s.heap.objs.size (.tup [.int (i : Nat), x])) { s with heap := h'', toks := tk + 1 } :=
      I.turnedNew (ch := [e, it]) (fun b ob hb q => (sb.2 b (fun z => hb (by simp [z]))).trans (hk b ob (fun z => hb (by simp [z])) (fun z => hb (by simp [z])) q)) hf (Nat.le_refl _) new
    refine ⟨.ref s.heap.objs.size, _, I1, rfl, ⟨_, x, rfl, I.hok.fresh (Nat.le_refl _), rfl, fun ys hy => by rw [I.tuple_inj hy hq]; exact hx⟩, ⟨⟨y, ?_⟩, st'.1.at fun o q => (sb.2 it (Ne.symm hne)).trans q, hne⟩, fun b hb => ?_⟩
    · have e1 : ((i + 1 : Nat) : Int) = (i : Int) + 1 := by omega
      rw [e1]; exact he'
    · have hb' : b < s.heap.objs.size := by
        rcases List.mem_cons.mp hb with z | z
        · rw [z]; exact hel
        · rw [List.mem_singleton.mp z]
          obtain ⟨_, q, _⟩ := hit
          exact Heap.lt_size q
      rw [upd_ne (Nat.ne_of_lt hb')]
      exact (hf b hb).1
  done := by
    intro X hP hw hK hc i pins s σ H E I hf st hg
    subst hP hw hK
    obtain ⟨⟨old, he⟩, hit, hne⟩ := st
    obtain ⟨xs, hq, hi⟩ := hg
    obtain ⟨its, rv, p, hz⟩ := I.tuple hq
    have pT : s.heap.IsTuple a its.toArray := p
    have nat : a ≠ it := fun z => by
      obtain ⟨o1, h1, h2, _⟩ := hit
      obtain ⟨o2, h3, h4, _⟩ := pT
      rw [z, h1] at h3
      cases h3
      rw [h2] at h4
      exact absurd h4 (by decide)
    obtain ⟨f0, f1, f2, f3, f4, f5⟩ := hf it (by simp)
    have hl : its.toArray.size = i := by rw [List.size_toArray, ← rv.length]; exact hi.symm
    refine wpAny_pyNext_enum_endD (Draws.tuple (A := X.A.in1) (I.ok.hd hc) it a nat its.toArray) he (by rw [hl]; exact ⟨hit, pT⟩) fun h' eb => ⟨rfl, I.turned (t' := s.toks) (fun b o hb e => eb b o hb e) f0 f1 f3 f4 f5⟩
  self := fun A i s Q E st h => let ⟨⟨_, he⟩, _⟩ := st; wpAny_pyIter_enum he h
def iEnumA (K : PySem.W.Frag) (ta : TA) : TI := fun σ H R => ta σ H fun vs H1 => ∃ a, vs = [.ref a] ∧ ((∃ xs, SqL K H1 a xs) ∧ R (Ite K a) H1 ∨ (∃ xs, SqT K H1 a xs) ∧ R (IteT K a) H1)
section
variable {X : Cx} {W : WY} {K : PySem.W.Frag}
theorem pi_enumA {e : Expr} {ta : TA} {p pos tpos : Pos} {elts : List Expr} {kk : Nat} (hg : Gl X "enumerate") (hm : X.mg "enumerate" = none) (ha : PA X [e] ta) (hs : starEach [e] X.env = [(false, eval e X.env)] := by rfl) :
    PI X (.Tuple elts kk tpos) (.Call (.Name "enumerate" p) [e] [] pos) (iEnumA X.K ta) := by
  refine ⟨fun pins s σ H R I h => ?_⟩
  refine Call_ (ld_blt I hg hm boot_enumerate (PyProof.Rows.callWith_type1 (thn (ha.run pos pins s σ H _ I h) fun us s1 ⟨vs, H1, I1, r1, q1⟩ => ?_) hs rfl))
  obtain ⟨a, ex, q⟩ := q1
  subst ex
  obtain rfl := Vals.ref1 r1
  have fp : ∀ b ∈ [s1.heap.objs.size + 1, s1.heap.objs.size], FpOk X pins H1 b := fun b hb => by
    have hle : s1.heap.objs.size ≤ b := by
      rcases List.mem_cons.mp hb with z | z
      · rw [z]; exact Nat.le_add_right _ _
      · rw [List.mem_singleton.mp z]; exact Nat.le_refl _
    exact I1.fpOk hle (I1.hok.fresh hle)
  rcases q with ⟨⟨xs, hq⟩, q⟩ | ⟨⟨xs, hq⟩, q⟩
  · obtain ⟨its, rv, p', hz⟩ := I1.list hq
    refine call_enumerate_list p'.isList fun h' he hit hsz hk => wpAny_pyIter_enum he ?_
    exact ⟨s1.heap.objs.size + 1, [s1.heap.objs.size + 1, s1.heap.objs.size], _, _, H1, rfl, I1.kept (t' := s1.toks) hk, turn_enum a (s1.heap.objs.size + 1) s1.heap.objs.size, ⟨⟨.none, he⟩, hit, Nat.succ_ne_self _⟩, fp, q⟩
  · obtain ⟨its, rv, p', hz⟩ := I1.tuple hq
    refine call_enumT (show s1.heap.IsTuple a its.toArray from p') fun h' he hit hk => wpAny_pyIter_enum he ?_
    exact ⟨s1.heap.objs.size + 1, [s1.heap.objs.size + 1, s1.heap.objs.size], _, _, H1, rfl, I1.kept (t' := s1.toks) hk, turn_enumT a (s1.heap.objs.size + 1) s1.heap.objs.size, ⟨⟨.none, he⟩, hit, Nat.succ_ne_self _⟩, fp, q⟩
/-- the items with their places -/
def enums (ds : List D) : List D := (List.range ds.length).map fun i => .tup [.int (i : Nat), ds.getD i .non]
theorem enums_get {ds : List D} {i : Nat} : (enums ds)[i]? = ds[i]?.map fun d => .tup [.int (i : Nat), d] := by
  unfold enums
  rw [List.getElem?_map]
  by_cases h : i < ds.length
  · simp [List.getElem?_range h, List.getElem?_eq_getElem h, List.getD]
  · simp [List.getElem?_eq_none (Nat.le_of_not_lt h), List.getElem?_eq_none (show (List.range ds.length).length ≤ i by rw [List.length_range]; omega)]
theorem enums_length {ds : List D} : (enums ds).length = ds.length := by unfold enums; rw [List.length_map, List.length_range]
theorem enum_step {wl : Wd} {H : Hp} {T : Addr} {i : Nat} {d : D} {x : V} (hk : Wk wl H) (n : H T = none) (r : Rp K wl H d x) : Ext wl H (upd H T (.tup [.int (i : Nat), x])) ∧ Rp K wl (upd H T (.tup [.int (i : Nat), x])) (.tup [.int (i : Nat), d]) (.ref T) :=
  ⟨Ext.new hk n, T, [.int (i : Nat), x], rfl, SqT.of upd_same, RpL.grow n [.int (i : Nat), d] [.int (i : Nat), x] ⟨.int (i : Nat), [x], rfl, rfl, x, [], rfl, r, rfl⟩⟩
theorem feeds_enumL {wl : Wd} {H : Hp} {a : Addr} {vs : List V} {ds : List D} (hk : Wk wl H) (n : wl.fr a) (s : H a = some (.lst vs)) (r : RpL K wl H ds vs) : Feeds K wl H (Ite K a) (enums ds) := by
  intro w1 i H1 e
  have s1 : H1 a = some (.lst vs) := e.keep _ _ n.1 n.2.2 s (fun _ z => nomatch z)
  have r1 := RpL.step hk e _ _ r
  have hl := r.length
  rw [enums_length]
  refine ⟨fun hi => ?_, fun hi => ⟨vs, SqL.of s1, by omega⟩, fun hi x H' ⟨T, y, ex, nT, eH, f⟩ => ?_⟩
  · have hv : i < vs.length := by omega
    exact ⟨vs, vs[i], SqL.of s1, List.getElem?_eq_getElem hv⟩
  · subst ex; subst eH
    obtain ⟨d, hd, rd⟩ := r1.getV (f vs (SqL.of s1))
    obtain ⟨x1, x2⟩ := enum_step (i := i) e.wk nT rd
    exact ⟨x1, _, by rw [enums_get, hd]; rfl, x2⟩
theorem feeds_enumT {wl : Wd} {H : Hp} {a : Addr} {vs : List V} {ds : List D} (hk : Wk wl H) (s : SqT K H a vs) (r : RpL K wl H ds vs) : Feeds K wl H (IteT K a) (enums ds) := by
  intro w1 i H1 e
  have s1 := sqT_step s hk e
  have r1 := RpL.step hk e _ _ r
  have hl := r.length
  rw [enums_length]
  refine ⟨fun hi => ?_, fun hi => ⟨vs, s1, by omega⟩, fun hi x H' ⟨T, y, ex, nT, eH, f⟩ => ?_⟩
  · have hv : i < vs.length := by omega
    exact ⟨vs, vs[i], s1, List.getElem?_eq_getElem hv⟩
  · subst ex; subst eH
    obtain ⟨d, hd, rd⟩ := r1.getV (f vs s1)
    obtain ⟨x1, x2⟩ := enum_step (i := i) e.wk nT rd
    exact ⟨x1, _, by rw [enums_get, hd]; rfl, x2⟩
def fEnum (f : PAx) : PAx := fun ρ q x => f ρ (fun ds => ∃ xs, (ds = [.tup xs] ∨ ds = [.lst xs]) ∧ q (enums xs)) x
theorem di_enum {e : Expr} {f : PAx} {p pos tpos : Pos} {elts : List Expr} {kk : Nat} (hg : Gl X "enumerate") (hm : X.mg "enumerate" = none) (ha : PA X [e] (eA X W f)) (hs : starEach [e] X.env = [(false, eval e X.env)] := by rfl) :
    PI X (.Tuple elts kk tpos) (.Call (.Name "enumerate" p) [e] [] pos) (eI X W (fEnum f)) := by
  refine PI.weak (pi_enumA hg hm ha hs) fun σ H R ⟨wl, ρ, q, x, hk, he, hf, hq, hx⟩ => ?_
  refine ⟨wl, ρ, _, x, hk, he, hf, fun ds vs H1 e1 r1 ⟨xs, hd, h1⟩ => ?_, hx⟩
  rcases hd with rfl | rfl
  · obtain ⟨v, t, rfl, ⟨a, us, rfl, s, r⟩, rt⟩ := r1
    cases rt
    exact ⟨a, rfl, .inr ⟨⟨us, s⟩, hq _ _ H1 e1 (feeds_enumT e1.wk s r) h1⟩⟩
  · obtain ⟨v, t, rfl, ⟨a, us, rfl, n, s, r⟩, rt⟩ := r1
    cases rt
    exact ⟨a, rfl, .inl ⟨⟨us, SqL.of s⟩, hq _ _ H1 e1 (feeds_enumL e1.wk n s r) h1⟩⟩

/-! # < of data, in a list of data, sequences times a number -/
def ltD (a b : D) : Bool := dataLt (toPy a) (toPy b)
def isTupD : D → Bool
  | .tup _ => true
  | _ => false
/-- two tuples that are alike -/
def ltDG : PG2 := fun a b q => (tame a ∧ tame b) ∧ isTupD a = true ∧ alike (toPy a) (toPy b) = true ∧ q (.bl (ltD a b))
def rLtD (K : PySem.W.Frag) : R2 := fun x y H Q => ∃ d e, Dp K H x d ∧ Dp K H y e ∧ alike d e = true ∧ d ≠ .none ∧ d.depth ≤ 60 ∧ Q (.bl (dataLt d e)) H
theorem op_ltDt (hu : X.A.units + 64 < cLine) : OpR X (compareOp .Lt) (rLtD X.K) := by
  intro pins s σ H x y v u Q I rx ry ⟨d, e, hd, he, al, hn, dp, q⟩
  obtain ⟨as, r1⟩ := Dp.reads I d x v hd rx
  obtain ⟨bs, r2⟩ := Dp.reads I e y u he ry
  have hm : min d.depth e.depth ≤ d.depth := Nat.min_le_left _ _
  exact lt_data r1 r2 al hn (by omega) ⟨.bl _, H, I, rfl, q⟩
theorem ltD_ok : Cmp2 K (rLtD K) ltDG := by
  intro wl H d1 d2 v1 v2 q Q hk r1 r2 ⟨⟨t1, t2⟩, it, al, g⟩ hq
  refine ⟨_, _, Rp.dp d1 v1 t1.nice.good r1, Rp.dp d2 v2 t2.nice.good r2, al, fun z => ?_, by rw [dep_eq]; exact t1.2, hq (.bl (ltD d1 d2)) _ H (.refl hk) rfl g⟩
  cases d1 <;> first | (simp [isTupD] at it; done) | cases z
/-- in a list of data -/
def inDG (neg : Bool) : PG2 := fun d e q => ∃ xs, e = .lst xs ∧ tame d ∧ tame (.lst xs) ∧ q (.bl (if neg then !(xs.any fun z => eqvD z d) else xs.any fun z => eqvD z d))
theorem any_py : ∀ (xs : List D) (d : D), ((toPyL xs).any fun z => PyData.eqv z (toPy d)) = xs.any fun z => eqvD z d
  | [], _ => rfl
  | x :: xs, d => by show (PyData.eqv (toPy x) (toPy d) || _) = (eqvD x d || _); rw [any_py xs d]; rfl
theorem inD_ok : Cmp2 K (rInD K) (inDG false) := by
  intro wl H d1 d2 v1 v2 q Q hk r1 r2 ⟨xs, e, t1, t2, g⟩ hq
  subst e
  refine ⟨_, toPyL xs, Rp.dp d1 v1 t1.nice.good r1, Rp.dp (.lst xs) v2 t2.nice.good r2, t1.shaped, t2.shaped, ?_⟩
  rw [any_py]
  exact hq (.bl _) _ H (.refl hk) rfl g
theorem niD_ok : Cmp2 K (rNotInD K) (inDG true) := by
  intro wl H d1 d2 v1 v2 q Q hk r1 r2 ⟨xs, e, t1, t2, g⟩ hq
  subst e
  refine ⟨_, toPyL xs, Rp.dp d1 v1 t1.nice.good r1, Rp.dp (.lst xs) v2 t2.nice.good r2, t1.shaped, t2.shaped, ?_⟩
  rw [any_py]
  exact hq (.bl _) _ H (.refl hk) rfl g
end
end PL

namespace PL
open PySem PySem.Spec L2
open PyProof.Rows PySem.W

/-! # [e for t in it if c for t1 in it1 if c1] -/
def fLcIn (t : Tg) (c : PB) (f : PX) (own : List Nat) (ρ : Ev) (k : List D → Prop) : List D → List D → Prop
  | [], acc => k acc
  | d :: ds, acc => tgE t d (wipeE ρ own) fun ρ2 => c ρ2 (fun b => (b = true → f ρ2 (fun y => acc.length < LIM ∧ fLcIn t c f own ρ k ds (acc ++ [y])) fun _ => False) ∧ (b = false → fLcIn t c f own ρ k ds acc)) fun _ => False
def fLc2Loop (t : Tg) (c : PB) (fi1 : PAx) (t1 : Tg) (c1 : PB) (f : PX) (own own1 : List Nat) (ρ : Ev) (q : D → Prop) : List D → List D → Prop
  | [], acc => q (.lst acc)
  | d :: ds, acc => tgE t d (wipeE ρ own) fun ρ2 => c ρ2 (fun b => (b = true → fi1 ρ2 (fun ds1 => fLcIn t1 c1 f own1 ρ2 (fun acc2 => fLc2Loop t c fi1 t1 c1 f own own1 ρ q ds acc2) ds1 acc) fun _ => False) ∧ (b = false → fLc2Loop t c fi1 t1 c1 f own own1 ρ q ds acc)) fun _ => False
def fLc2 (fi : PAx) (t : Tg) (c : PB) (fi1 : PAx) (t1 : Tg) (c1 : PB) (f : PX) (own own1 : List Nat) : PX := fun ρ q x => fi ρ (fun ds => fLc2Loop t c fi1 t1 c1 f own own1 ρ q ds []) x
section
variable {K : PySem.W.Frag} {w : Wd} {H H' : Hp} {p : Addr}
/-- all but p stays -/
def KB (w : Wd) (p : Addr) (H H' : Hp) : Prop := ∀ a o, w.wl ≠ some a → a ≠ p → H a = some o → NT o → H' a = some o
mutual
theorem Rp.kb (h : Wk w H) (hp : w.hid p) (k : KB w p H H') : ∀ (d : D) (v : V), Rp K w H d v → Rp K w H' d v
  | .non, _, r => r
  | .bl _, _, r => r
  | .int _, _, r => r
  | .str _, _, r => r
  | .tup ds, _, ⟨a, vs, e, s, q⟩ => by
    refine ⟨a, vs, e, ?_, RpL.kb h hp k ds vs q⟩
    obtain ⟨o, ho, m⟩ := h.hid p hp
    rcases s with s | s
    · have n := h.notTup s
      rcases s with s | ⟨u, s⟩
      · exact .inl (.inl (k _ _ n (ne_of s ho (fun z => by subst z; exact m)) s (fun _ z => nomatch z)))
      · exact .inl (.inr ⟨u, k _ _ n (ne_of s ho (fun z => by subst z; exact m)) s (fun _ z => nomatch z)⟩)
    · exact .inr s
  | .lst ds, _, ⟨a, vs, e, n, s, q⟩ => ⟨a, vs, e, n, k _ _ n.1 (fun z => n.2.1 (by rw [z]; exact hp)) s (fun _ z => nomatch z), RpL.kb h hp k ds vs q⟩
  | .oth k' ds, _, ⟨a, b, vs, e, ⟨so, s⟩, q⟩ => ⟨a, b, vs, e, ⟨so, fun y hy => ⟨(s y hy).1, k _ _ (s y hy).1.1 (fun z => (s y hy).1.2.1 (by rw [z]; exact hp)) (s y hy).2 (Kd.nt hy)⟩⟩, RpL.kb h hp k ds vs q⟩
  | .well, _, r => r
  | .ty _, _, r => r
  | .scr ns, _, ⟨a, e, s⟩ => by
    refine ⟨a, e, ?_⟩
    obtain ⟨o, ho, m⟩ := h.hid p hp
    rcases s with ⟨u, s⟩ | s
    · refine .inl ⟨u, k _ _ (fun z => ?_) (ne_of s ho (fun z => by subst z; exact m)) s (fun _ z => nomatch z)⟩
      obtain ⟨i, j, l, e, _⟩ := h.well a z
      rw [s] at e; cases e
    · exact .inr s
theorem RpL.kb (h : Wk w H) (hp : w.hid p) (k : KB w p H H') : ∀ (ds : List D) (vs : List V), RpL K w H ds vs → RpL K w H' ds vs
  | [], _, r => r
  | d :: ds, _, ⟨v, r, e, q1, q⟩ => ⟨v, r, e, Rp.kb h hp k d v q1, RpL.kb h hp k ds r q⟩
end
theorem EvR.kb {ρ : Ev} {σ : L2.St} (r : EvR K w H ρ σ) (h : Wk w H) (hp : w.hid p) (k : KB w p H H') : EvR K w H' ρ σ :=
  ⟨r.len, fun i d e => let ⟨v, a, b⟩ := r.at_ i d e; ⟨v, a, Rp.kb h hp k d v b⟩, fun i xs e => let ⟨a, vs, b, c, d, f, g⟩ := r.ow i xs e; ⟨a, vs, b, c, d, k _ _ c.1 (fun z => c.2 (by rw [z]; exact hp)) f (fun _ z => nomatch z), RpL.kb h hp k xs vs g⟩, r.uni⟩
theorem Ext.kb (x : Ext w H H') : KB w p H H' := fun a o n _ e t => x.keep a o n e t
end
section
variable {X : Cx} {W : WY}
theorem lc2_weak {fi : PAx} {t : Tg} {c : PB} {fi1 : PAx} {t1 : Tg} {c1 : PB} {f : PX} {own own1 : List Nat} (hsl : ∀ i ∈ slots t, i ∈ own) (hsl1 : ∀ i ∈ slots t1, i ∈ own1) {σ : L2.St} {H : Hp} {Q : VK} (h : eE X W (fLc2 fi t c fi1 t1 c1 f own own1) σ H Q) :
    tLc2 (eI X W fi) (tgV X.K t) (eB X (W0 W.T) c) (eI X (W0 W.T) fi1) (tgV X.K t1) (eB X (W0 W.T) c1) (eE X (W0 W.T) f) own own1 σ H Q := by
  obtain ⟨wl, ρ, q, x, hk, he, hfi, hq, hx⟩ := h
  refine ⟨wl, ρ, _, x, hk, he, hfi, fun ds J H1 e1 F h1 Dl hD => ?_, hx⟩
  have fD : wl.fr Dl := e1.wk.new hD
  let wh := wl.hide [Dl]
  have hex : ∀ a, a ∈ [Dl] → H1 a = none := fun a ha => by rw [List.mem_singleton.mp ha]; exact hD
  have mD : wh.hid Dl := .inl (List.mem_cons_self ..)
  have wkD : ∀ {H' : Hp} {vs : List V}, Wk wl H' → H' Dl = some (.lst vs) → Wk wh H' := fun {H' vs} k hv => ⟨k.well, fun a ha => by
    rcases ha with z | z
    · rw [List.mem_singleton.mp z]; exact ⟨_, hv, True.intro⟩
    · exact k.hid a z, k.ow, k.tabs⟩
  have un : ∀ {Ha Hb : Hp}, Ext wh Ha Hb → Ext wl Ha Hb := fun {Ha Hb} e => ⟨e.keep, e.wk.well, fun a ha => e.wk.hid a (.inr ha), e.wk.ow, e.wk.tabs⟩
  have st : ∀ {H' : Hp} {vs : List V}, Ext wl H1 H' → H' Dl = some (.lst vs) → Step wl H1 wh H' := fun {H' vs} e hv => ⟨rfl, rfl, fun a o n _ z t => e.keep a o n z t, fun a z => .inr z, fun a z => by
    rcases z with z | z
    · exact .inr (.inr (Fresh.of (hex a z)))
    · exact .inl z, fun a z => .inl z, wkD e.wk hv⟩
  have n1 : ∀ a o, H1 a = some o → a ≠ Dl := fun a o e z => by rw [z, hD] at e; cases e
  -- an item is put down
  have put : ∀ {Ha : Hp} {vs us : List V}, Ext wl H1 Ha → Ha Dl = some (.lst vs) → Ext wl H1 (upd Ha Dl (.lst us)) := fun {Ha vs us} e hv =>
    ⟨fun a o w' z t => by rw [upd_ne (n1 a o z)]; exact e.keep a o w' z t, e.wk.write hv True.intro True.intro fun z => (fD.1 z).elim⟩
  -- the same world, the list that is made being the def's own
  let wt : Wd := ⟨wl.wl, wl.hid, fun a => a = Dl ∨ wl.ow a, wl.tabs⟩
  have wkT : ∀ {H' : Hp}, Wk wh H' → Wk wt H' := fun {H'} k => ⟨k.well, fun a z => k.hid a (.inr z), fun a z => z.elim (fun z => k.hid a (.inl (by simp [z]))) (k.ow a), k.tabs⟩
  have wkH : ∀ {H' : Hp}, Wk wt H' → Wk wh H' := fun {H'} k => ⟨k.well, fun a z => z.elim (fun z => k.ow a (.inl (List.mem_singleton.mp z))) (k.hid a), fun a z => k.ow a (.inr z), k.tabs⟩
  have fHT : ∀ a, wh.fr a → wt.fr a := fun a z => ⟨z.1, fun y => z.2.1 (.inr y), fun y => y.elim (fun y => z.2.1 (.inl (by simp [y]))) z.2.2⟩
  have fTH : ∀ a, wt.fr a → wh.fr a := fun a z => ⟨z.1, fun y => y.elim (fun y => z.2.2 (.inl (List.mem_singleton.mp y))) z.2.1, fun y => z.2.2 (.inr y)⟩
  have evT : ∀ {H' : Hp} {ρ' : Ev} {σ' : L2.St}, EvR X.K wh H' ρ' σ' → EvR X.K wt H' ρ' σ' := fun {H' ρ' σ'} r =>
    ⟨r.len, fun i d e => let ⟨v, a, b⟩ := r.at_ i d e; ⟨v, a, Rp.less (w := wh) (w' := wt) rfl fHT d v b⟩, fun i xs e => let ⟨a, vs, b, c, d, f, g⟩ := r.ow i xs e; ⟨a, vs, b, ⟨c.1, fun z => c.2 (.inr z)⟩, .inr d, f, RpL.less (w := wh) (w' := wt) rfl fHT xs vs g⟩, r.uni⟩
  have exH : ∀ {Ha Hb : Hp}, Ext wt Ha Hb → Ext wh Ha Hb := fun {Ha Hb} e => ⟨e.keep, wkH e.wk⟩
  refine ⟨fun i m H' => m = ds.length - i ∧ i ≤ ds.length ∧ Ext wl H1 H' ∧ ∃ acc vs, H' Dl = some (.lst vs) ∧ RpL X.K wh H' acc vs ∧ fLc2Loop t c fi1 t1 c1 f own own1 ρ q (ds.drop i) acc, ⟨_, rfl, Nat.zero_le _, Ext.new e1.wk hD, [], [], upd_same, rfl, h1⟩, fun i m H2 hw => ?_⟩
  obtain ⟨em, hi2, e2, acc, vs, hv2, ra, h2⟩ := hw
  obtain ⟨F1, F2, F3⟩ := F wh i H2 (st e2 hv2)
  by_cases hlt : i < ds.length
  · refine .inr ⟨F1 hlt, fun H3 => Ext wl H1 H3 ∧ ∃ acc vs, H3 Dl = some (.lst vs) ∧ RpL X.K wh H3 acc vs ∧ fLc2Loop t c fi1 t1 c1 f own own1 ρ q (ds.drop (i + 1)) acc, fun H3 ⟨e3, acc3, vs3, a3, b3, c3⟩ => ⟨ds.length - (i + 1), by omega, rfl, hlt, e3, acc3, vs3, a3, b3, c3⟩, fun x3 H3 hy => ?_⟩
    obtain ⟨e3', d, hd, rd⟩ := F3 hlt x3 H3 hy
    have e3 := un e3'
    rw [List.drop_eq_getElem_cons hlt] at h2
    obtain rfl : ds[i] = d := by rw [List.getElem?_eq_getElem hlt] at hd; exact Option.some.inj hd
    have hv3 : H3 Dl = some (.lst vs) := e3.keep _ _ fD.1 hv2 (fun _ z => nomatch z)
    have k3 := wkD e3.wk hv3
    have he3 := ((he.ext hk e1).into e1.wk hex (e2.trans e3)).wiped own
    have ra3 := RpL.ext (wkD e2.wk hv2) e3' _ _ ra
    refine tgV_mono t x3 (wipe σ own) H3 _ _ (fun σ4 H4 ⟨eH, ew, ρ4, he4, h4⟩ => ?_) (tg_ok (own := own) t ds[i] x3 (wipeE ρ own) (wipe σ own) H3 _ hsl k3 he3 rd h2)
    refine ⟨ew.trans (wipe_wipe own fun _ z => z), wh, ρ4, _, _, eH.wk, he4, h4, fun b H5 e45 h5 => ?_, out0 hx.1⟩
    have e5 := eH.trans e45
    have e35 : Ext wl H3 H5 := un e5
    have hv5 : H5 Dl = some (.lst vs) := e5.keep _ _ fD.1 hv3 (fun _ z => nomatch z)
    have ra5 := RpL.ext k3 e5 _ _ ra3
    have e15 : Ext wl H1 H5 := (e2.trans e3).trans e35
    cases b with
    | false => exact iteF ⟨e15, acc, vs, hv5, ra5, h5.2 rfl⟩
    | true =>
      have he5 := he4.ext eH.wk e45
      refine iteT ⟨wt, ρ4, _, _, wkT e5.wk, evT he5, h5.1 rfl, fun ds1 J1 H6 e6' G g1 => ?_, out0 hx.1⟩
      have e6 := exH e6'
      have hv6 : H6 Dl = some (.lst vs) := e6.keep _ _ fD.1 hv5 (fun _ z => nomatch z)
      have he6 := he5.ext e5.wk e6
      refine ⟨fun j k H' => k = ds1.length - j ∧ j ≤ ds1.length ∧ Ext wl H1 H' ∧ KB wh Dl H6 H' ∧ ∃ acc vs, H' Dl = some (.lst vs) ∧ RpL X.K wh H' acc vs ∧ fLcIn t1 c1 f own1 ρ4 (fun acc2 => fLc2Loop t c fi1 t1 c1 f own own1 ρ q (ds.drop (i + 1)) acc2) (ds1.drop j) acc,
        ⟨_, rfl, Nat.zero_le _, e15.trans (un e6), fun _ _ _ _ z _ => z, acc, vs, hv6, RpL.ext e5.wk e6 _ _ ra5, g1⟩, fun j k H7 hw1 => ?_⟩
      obtain ⟨ek, hj2, e17, kb7, acc7, vs7, hv7, ra7, h7⟩ := hw1
      have k7 : Wk wh H7 := wkD e17.wk hv7
      have he7 := he6.kb e6.wk mD kb7
      have s7 : Step wt H6 wt H7 := ⟨rfl, rfl, fun a o n m z t => kb7 a o n (fun y => m (.inl y)) z t, fun _ z => z, fun _ z => .inl z, fun _ z => .inl z, wkT k7⟩
      obtain ⟨G1, G2, G3⟩ := G wt j H7 s7
      by_cases hj : j < ds1.length
      · refine .inr ⟨G1 hj, fun H8 => Ext wl H1 H8 ∧ KB wh Dl H6 H8 ∧ ∃ acc vs, H8 Dl = some (.lst vs) ∧ RpL X.K wh H8 acc vs ∧ fLcIn t1 c1 f own1 ρ4 (fun acc2 => fLc2Loop t c fi1 t1 c1 f own own1 ρ q (ds.drop (i + 1)) acc2) (ds1.drop (j + 1)) acc,
          fun H8 ⟨e8, kb8, a8, v8, b8, c8, d8⟩ => ⟨ds1.length - (j + 1), by omega, rfl, hj, e8, kb8, a8, v8, b8, c8, d8⟩, fun x8 H8 hy8 => ?_⟩
        obtain ⟨e8', d8, hd8, rd8⟩ := G3 hj x8 H8 hy8
        have e8 := exH e8'
        rw [List.drop_eq_getElem_cons hj] at h7
        obtain rfl : ds1[j] = d8 := by rw [List.getElem?_eq_getElem hj] at hd8; exact Option.some.inj hd8
        have hv8 : H8 Dl = some (.lst vs7) := e8.keep _ _ fD.1 hv7 (fun _ z => nomatch z)
        have ra8 := RpL.ext k7 e8 _ _ ra7
        have he8 := (he7.ext k7 e8).wiped own1
        refine tgV_mono t1 x8 (wipe σ4 own1) H8 _ _ (fun σ9 H9 ⟨eH9, ew9, ρ9, he9, h9⟩ => ?_) (tg_ok (own := own1) t1 ds1[j] x8 (wipeE ρ4 own1) (wipe σ4 own1) H8 _ hsl1 e8.wk he8 (Rp.less (w := wt) (w' := wh) rfl fTH _ _ rd8) h7)
        refine ⟨ew9.trans (wipe_wipe own1 fun _ z => z), wh, ρ9, _, _, eH9.wk, he9, h9, fun b1 H10 e10 h10 => ?_, out0 hx.1⟩
        have e810 := e8.trans (eH9.trans e10)
        have e710 : Ext wl H1 H10 := e17.trans (un e810)
        have hv10 : H10 Dl = some (.lst vs7) := (eH9.trans e10).keep _ _ fD.1 hv8 (fun _ z => nomatch z)
        have ra10 := RpL.ext e8.wk (eH9.trans e10) _ _ ra8
        have kb10 : KB wh Dl H6 H10 := fun a o n m z t => e810.keep a o n (kb7 a o n m z t) t
        cases b1 with
        | false => exact iteF ⟨e710, kb10, acc7, vs7, hv10, ra10, h10.2 rfl⟩
        | true =>
          refine iteT ⟨wh, ρ9, _, _, e10.wk, he9.ext eH9.wk e10, h10.1 rfl, fun y vy H11 e11 r11 ⟨hl, h11⟩ => ?_, out0 hx.1⟩
          have hv11 : H11 Dl = some (.lst vs7) := e11.keep _ _ fD.1 hv10 (fun _ z => nomatch z)
          have ra11 := RpL.ext e10.wk e11 _ _ ra10
          refine ⟨vs7, hv11, lim_lt (by rw [ra11.length]; exact Nat.le_of_lt hl), put (e710.trans (un e11)) hv11, fun a o n m z t => ?_, acc7 ++ [y], vs7 ++ [vy], upd_same, RpL.write (fun z => z.2.1 mD) hv11 True.intro _ _ (ra11.append (RpL.one r11)), h11⟩
          rw [upd_ne m]
          exact e11.keep a o n (kb10 a o n m z t) t
      · have ej : j = ds1.length := by omega
        subst ej
        rw [List.drop_length] at h7
        exact .inl ⟨G2 rfl, e17, acc7, vs7, hv7, ra7, h7⟩
  · have ei : i = ds.length := by omega
    subst ei
    rw [List.drop_length] at h2
    exact .inl ⟨F2 rfl, hq (.lst acc) (.ref Dl) H2 (e1.trans e2) ⟨Dl, vs, rfl, fD, hv2, RpL.out _ _ ra⟩ h2⟩
theorem d_lc2 {elt tg iter tg1 iter1 : Expr} {ifs ifs1 : List Expr} {scope : Scope} {own : List (Str × Nat)} {own1 : List Nat} {pos : Pos} {fi fi1 : PAx} {t t1 : Tg} {c c1 : PB} {f : PX} (hc : X.calm = true) (hN : X.N.Nodup) (hi : PI X tg iter (eI X W fi)) (ok : BlkOk X.N X.env.scope scope own)
    (hg : ∀ (s : Shared) (H : Hp) (C : Addr) (cl : List (Str × Addr)) (fp : List Addr), PG (X.blk s H scope (compEnvC scope cl C X.env) fp) tg (tgV (X.blk s H scope (compEnvC scope cl C X.env) fp).K t))
    (ht : ∀ (s : Shared) (H : Hp) (C : Addr) (cl : List (Str × Addr)) (fp : List Addr), PTs (X.blk s H scope (compEnvC scope cl C X.env) fp) ifs (eB (X.blk s H scope (compEnvC scope cl C X.env) fp) (W0 W.T) c))
    (hi1 : ∀ (s : Shared) (H : Hp) (C : Addr) (cl : List (Str × Addr)) (fp : List Addr), PI (X.blk s H scope (compEnvC scope cl C X.env) fp) tg1 iter1 (eI (X.blk s H scope (compEnvC scope cl C X.env) fp) (W0 W.T) fi1))
    (hg1 : ∀ (s : Shared) (H : Hp) (C : Addr) (cl : List (Str × Addr)) (fp : List Addr), PG (X.blk s H scope (compEnvC scope cl C X.env) fp) tg1 (tgV (X.blk s H scope (compEnvC scope cl C X.env) fp).K t1))
    (ht1 : ∀ (s : Shared) (H : Hp) (C : Addr) (cl : List (Str × Addr)) (fp : List Addr), PTs (X.blk s H scope (compEnvC scope cl C X.env) fp) ifs1 (eB (X.blk s H scope (compEnvC scope cl C X.env) fp) (W0 W.T) c1))
    (he : ∀ (s : Shared) (H : Hp) (C : Addr) (cl : List (Str × Addr)) (fp : List Addr), PE (X.blk s H scope (compEnvC scope cl C X.env) fp) elt (eE (X.blk s H scope (compEnvC scope cl C X.env) fp) (W0 W.T) f)) (hsl : ∀ i ∈ slots t, i ∈ own.map (·.2) := by decide) (hsl1 : ∀ i ∈ slots t1, i ∈ own1 := by decide) (hv : ∀ i ∈ own1, i ∈ own.map (·.2) := by decide)
    (hs : ∀ x, foldedSetIterable iter X.env x = pure x := by intro _; rfl) (hs1 : ∀ env x, foldedSetIterable iter1 env x = pure x := by intro _ _; rfl) : PE X (.ListComp elt [⟨tg, iter, ifs, 0⟩, ⟨tg1, iter1, ifs1, 0⟩] scope pos) (eE X W (fLc2 fi t c fi1 t1 c1 f (own.map (·.2)) own1)) :=
  PE.weak (pe_lc2 (g := tgV X.K t) (g1 := tgV X.K t1) (tt := eB X (W0 W.T) c) (tt1 := eB X (W0 W.T) c1) (wi1 := eI X (W0 W.T) fi1) (te := eE X (W0 W.T) f) hc hN hi ok hv hg ht hi1 hg1 ht1 he hs hs1) fun _ _ _ h => lc2_weak hsl hsl1 h
end
end PL

namespace PL
open PySem PySem.Spec L2

/-! # a sequence times a number -/
def timesD (xs : List D) (k : Int) : List D := (List.replicate k.toNat xs).flatten
def mulAG : PG2
  | .int i, .int j, q => CMul i j ∧ q (.int (i * j))
  | .lst xs, .int k, q => (-1000 ≤ k ∧ k ≤ 1000 ∧ xs.length ≤ 1000) ∧ q (.lst (timesD xs k))
  | .tup xs, .int k, q => (xs ≠ [] ∧ 2 ≤ k ∧ k ≤ 1000 ∧ xs.length ≤ 1000) ∧ q (.tup (timesD xs k))
  | _, _, _ => False
def rMulA (K : PySem.W.Frag) : R2 := fun x y H Q => rI CMul (fun i j => .int (i * j)) x y H Q ∨ rRep x y H Q ∨ rRepT K x y H Q
section
variable {X : Cx} {W : WY} {K : PySem.W.Frag}
theorem op_mulA : OpR X (binaryOp .Mult) (rMulA X.K) := op_mul.or (op_rep.or op_repT)
theorem flat_rp {wl : Wd} {H : Hp} {ds : List D} {vs : List V} (r : RpL K wl H ds vs) : ∀ n : Nat, RpL K wl H (List.replicate n ds).flatten (List.replicate n vs).flatten
  | 0 => rfl
  | n + 1 => by rw [List.replicate_succ, List.replicate_succ, List.flatten_cons, List.flatten_cons]; exact r.append (flat_rp r n)
theorem mulA_ok : Cmp2 K (rMulA K) mulAG := by
  intro wl H d1 d2 v1 v2 q Q hk r1 r2 g hq
  cases d2 <;> (try (cases d1 <;> exact g.elim))
  case int k =>
    cases r2
    cases d1 <;> try exact g.elim
    case int i =>
      cases r1
      exact .inl ⟨i, k, rfl, rfl, g.1, hq (.int (i * k)) _ H (.refl hk) rfl g.2⟩
    case lst xs =>
      obtain ⟨⟨h1, h2, h3⟩, g⟩ := g
      obtain ⟨a, vs, rfl, f, s, r⟩ := r1
      refine .inr (.inl ⟨a, k, vs, rfl, rfl, s, by omega, by omega, ?_, fun p hp => ?_⟩)
      · rw [r.length]
        have h4 : xs.length * k.toNat ≤ 1000 * 1000 := Nat.mul_le_mul h3 (by omega)
        exact Nat.le_trans h4 (by decide)
      · obtain ⟨e, r2⟩ := new_lst hk hp (flat_rp r k.toNat)
        exact hq _ _ _ e r2 g
    case tup xs =>
      obtain ⟨⟨h0, h1, h2, h3⟩, g⟩ := g
      obtain ⟨a, vs, rfl, s, r⟩ := r1
      have hl := r.length
      refine .inr (.inr ⟨a, k, vs, rfl, rfl, s, fun z => h0 ?_, h1, h2, by omega, fun p hp => ?_⟩)
      · subst z
        exact List.eq_nil_of_length_eq_zero hl.symm
      · obtain ⟨e, r2⟩ := new_tup hk hp (flat_rp r k.toNat)
        exact hq _ _ _ e r2 g
def sPar3 (i j l : Nat) (f : PAx) : PSt := fun P ρ => f ρ (fun ds => ∃ a b c, ds = [a, b, c] ∧ P.nx (((ρ.set i (.dt a)).set j (.dt b)).set l (.dt c))) (P.ex ρ)
theorem ds_par3 {i j l : Nat} {x y z : Str} {a b c : Expr} {f : PAx} {px py pz pt pos : Pos} {kt k2 pt2} (hc : X.calm = true) (hN : X.N.Nodup) (hi : X.N[i]? = some x) (hj : X.N[j]? = some y) (hl : X.N[l]? = some z) (hij : i ≠ j) (hil : i ≠ l) (hjl : j ≠ l)
    (hx : X.env.scope.names.lookup x = some .local) (hy : X.env.scope.names.lookup y = some .local) (hz : X.env.scope.names.lookup z = some .local) (ha : PA X [a, b, c] (eA X W f))
    (hw : swappedStores [.Tuple [.Name x px, .Name y py, .Name z pz] kt pt] (.Tuple [a, b, c] k2 pt2) X.env = pure (some [x, y, z]) := by rfl)
    (hs : swapsWithSole [.Tuple [.Name x px, .Name y py, .Name z pz] kt pt] (.Tuple [a, b, c] k2 pt2) pos.line X.env = pure false := by rfl) :
    PS X (.Assign [.Tuple [.Name x px, .Name y py, .Name z pz] kt pt] (.Tuple [a, b, c] k2 pt2) pos) (eS X W (sPar3 i j l f)) := by
  refine PS.weak (ps_par3 hc hN hi hj hl hij hil hjl hx hy hz ha hw hs) fun En σ H ⟨wl, ρ, P, hk, he, h, r⟩ => ?_
  refine ⟨wl, ρ, _, P.ex ρ, hk, he, h, fun ds vs H1 e1 r1 ⟨a, b, c, ed, h1⟩ => ?_, r.out hk he⟩
  subst ed
  obtain ⟨v, t, rfl, ra, v2, t2, rfl, rb, v3, t3, rfl, rc, e2⟩ := r1
  cases e2
  exact ⟨v, v2, v3, rfl, r.nx wl _ _ H1 e1.step ((((he.ext hk e1).set ra i).set rb j).set rc l) h1⟩
/-- x, y = e, [..]: y the def's own from now on -/
def sParOw (i j : Nat) (f : PX) (g : PAx) : PSt := fun P ρ => f ρ (fun d => g ρ (fun ds => ds.length ≤ LIM ∧ P.nx ((ρ.set i (.dt d)).set j (.ow ds))) (P.ex ρ)) (P.ex ρ)
theorem ds_parOw {i j : Nat} {x y : Str} {a : Expr} {bs : List Expr} {f : PX} {g : PAx} {px py pt pos lpos : Pos} {kt k2 pt2} (hc : X.calm = true) (hN : X.N.Nodup) (hi : X.N[i]? = some x) (hj : X.N[j]? = some y) (hij : i ≠ j)
    (hx : X.env.scope.names.lookup x = some .local) (hy : X.env.scope.names.lookup y = some .local) (ha : PE X a (eE X W f)) (hb : PA X bs (eA X W g))
    (hst : starEach [a, .List bs lpos] X.env = (false, eval a X.env) :: starEach [.List bs lpos] X.env := by rfl) (hst2 : starEach [.List bs lpos] X.env = (false, eval (.List bs lpos) X.env) :: starEach [] X.env := by rfl)
    (hw : swappedStores [.Tuple [.Name x px, .Name y py] kt pt] (.Tuple [a, .List bs lpos] k2 pt2) X.env = pure (some [x, y]) := by rfl)
    (hs : swapsWithSole [.Tuple [.Name x px, .Name y py] kt pt] (.Tuple [a, .List bs lpos] k2 pt2) pos.line X.env = pure false := by rfl) :
    PS X (.Assign [.Tuple [.Name x px, .Name y py] kt pt] (.Tuple [a, .List bs lpos] k2 pt2) pos) (eS X W (sParOw i j f g)) := by
  refine PS.weak (ps_par hc hN hi hj hij hx hy (pa_cons ha (pa_cons (pe_lst hb) pa_nil hst2) hst) hw hs) fun En σ H ⟨wl, ρ, P, hk, he, h, r⟩ => ?_
  refine ⟨wl, ρ, _, P.ex ρ, hk, he, h, fun d v H1 e1 r1 h1 => ?_, r.out hk he⟩
  have he1 := he.ext hk e1
  refine ⟨wl, ρ, _, P.ex ρ, e1.wk, he1, h1, fun ds vs H2 e2 r2 ⟨hl, h2⟩ => ⟨lim_line (by rw [r2.length]; exact hl), fun p hp => ?_⟩, (r.ext e1).out e1.wk he1⟩
  refine ⟨v, .ref p, rfl, ?_⟩
  have he2 := (he1.ext e1.wk e2).set (Rp.ext e1.wk e2 _ _ r1) i
  exact r.nx (wl.take p) _ _ _ ((e1.trans e2).step.trans (take_step e2.wk hp)) (new_ow e2.wk hp he2 r2) h2
end
end PL

namespace PL
open PySem PySem.Spec L2
open PyProof.Rows PySem.W

/-! # set(l) of a list of numbers -/
abbrev set0 (w : World) : Obj := { cls := .type "set", dict := none, data := .set #[] 0 (.fresh 0 0 (!w.params.followText "set-order")) }
section
variable {P : Program} {w : World} {A : Around} {E : Value → Shared → Prop} {s : Shared}
set_option maxHeartbeats 8000000 in
theorem call_setL {l : Addr} {items : Array Value} (ns : List Int) {Q : Value → Shared → Prop} (hh : A.handled = none) (hl : s.heap.IsList l items) (hit : IntsAre items.toList ns) (hb : ns.length + 1 < scanBound)
    (q : ∀ (h' : Heap) (tk c : Nat), SetR w h' s.heap.objs.size (fun j => decide (j ∈ ns)) c → c ≤ ns.length → (∀ b o, s.heap.get? b = some o → h'.get? b = some o) → Q (.ref s.heap.objs.size) { s with heap := h', toks := tk }) :
    wpAny (model P w) A (call (.type "set") [.ref l]) Q E s := by
  have size : items.size = ns.length := by rw [← hit.length, Array.length_toList]
  obtain ⟨ct, tl, mro⟩ := F.called_set.mro
  have made := F.called_set.made
  have sub := F.called_set.sub
  let p := s.heap.objs.size
  let h1 := s.heap.push (set0 w)
  let s1 : Shared := { s with heap := h1 }
  refine wpAny_call (codeAny_of_tree ?_)
  show wpAny _ _ (callAny (.type "set") _) _ _ _
  refine wpAny_pure ⟨Code.quiet_builtin _ (by decide +kernel), codeAny_builtin F.entry_type_call ?_⟩
  rw [Around.under_plain (weight_type_call_type "set" [.ref l] []) rfl]
  have f1 := F.called_set.notType
  have f2 := F.called_set.canCreate
  have f3 := F.typeCall_set_1 (.ref l)
  repeat (any_goals (first | assumption | wp_step))
  refine codeAny_mono (code_set_led1 (.ref l) (E := E) (Q₁ := fun obj s2 => obj = .ref p ∧ s2 = s1) ⟨rfl, rfl⟩) fun r s2 hr => ?_
  match r, hr with
  | .error e, z => exact z
  | .ok (.ret obj), z =>
    obtain ⟨rfl, rfl⟩ := z
    have at1 : h1.get? p = some (set0 w) := Heap.get?_push_size _ rfl
    have ty1 : s1.TypeIs (.ref p) "set" := ⟨_, at1, rfl⟩
    have li := F.called_set.init.lookup
    have bi := F.called_set.init.bind (.ref p)
    repeat (any_goals (first | assumption | wp_step))
    have big : p < h1.objs.size := Heap.lt_size at1
    refine codeAny_mono (codeAny_call_builtin (R := wants (fun r s3 => r = .none ∧ ∃ h' tk c, s3 = { s with heap := h', toks := tk } ∧ SetR w h' p (fun j => decide (j ∈ ns)) c ∧ c ≤ ns.length ∧ ∀ b o, s.heap.get? b = some o → h'.get? b = some o) E)
      F.called_set.init.plain F.entry_set_init (check_set_init_1 ty1 ?_)) fun r2 s3 hr2 => ?_
    · obtain ⟨⟨ocls, odict, odata, osl⟩, hol, hcl, nl, hdl⟩ := hl
      simp only at hcl hdl
      subst hcl; subst hdl
      have atl : h1.get? l = some { cls := .type "list", dict := odict, data := .seq items nl, slots := osl } := Heap.get?_push_of_some _ hol
      have g1 := F.sub_list_set
      have g2 := F.sub_list_frozenset
      have g3 : (Value.type "list" == Value.type "dict") = false := by decide
      have isl : h1.IsList l items := ⟨_, atl, rfl, nl, rfl⟩
      have lp : l < p := Heap.lt_size hol
      have sz : h1.objs.size = p + 1 := Heap.size_push ..
      unfold Builtin.«set.__init__» noKeywords Builtin.Frozenset.updateFrom
      generalize hPI : pyIter = PI
      wp_walk
      subst hPI
      refine wpAny_pyIter_list isl (wpAny_bind (wpAny_runValue ?_))
      have h3 : A.in1.in1.in1.handled = none := by simp [hh]
      have nI : l ≠ h1.objs.size := by rw [sz]; exact Nat.ne_of_lt (Nat.lt_succ_of_lt lp)
      have nS : p ∉ [h1.objs.size, l] := by
        rw [sz]; simp only [List.mem_cons, List.not_mem_nil, or_false, not_or]
        exact ⟨Nat.ne_of_lt (Nat.lt_succ_self _), Nat.ne_of_gt lp⟩
      have num : ∀ (i : Nat) (v : Value), items[i]? = some v → ∃ k t, ns[i]? = some k ∧ v = .int k t := fun i v hv => by
        have hi : i < ns.length := by rw [← size]; exact (Array.getElem?_eq_some_iff.mp hv).1
        obtain ⟨t, e⟩ := IntsAre.int_at hit i v (by rw [Array.getElem?_toList]; exact hv)
        refine ⟨ns[i], t, List.getElem?_eq_getElem hi, ?_⟩
        rw [e, List.getD_eq_getElem?_getD, List.getElem?_eq_getElem hi] <;> rfl
      refine set_update_ints ((Walks.list h3 _ l nI items).toS) p nS ns size hb num (items.size - 0) 0 _ (by omega) (Nat.zero_le _) ⟨⟨_, Heap.get?_push_size _ rfl, rfl, rfl⟩, isl.push _⟩ ⟨0, Nat.le_refl 0, setR_new_at (Heap.get?_push_of_some _ at1)⟩ fun s4 c4 mv hc4 hS4 => ?_
      obtain ⟨h4, g4, d4, tk4, os4⟩ := s4
      have eg : g4 = s.gens := mv.gens
      have ed : d4 = s.drawn := mv.drawn
      have eo : os4 = s.os := mv.os
      subst eg; subst ed; subst eo
      show wpAny _ _ _ _ _ _
      refine wpAny_pure ?_
      show wpAny _ _ (ret Value.none) _ _ _
      rw [size] at hc4
      refine wpAny_pure ⟨rfl, h4, tk4, c4, rfl, hS4, hc4, fun b o e => ?_⟩
      have hb0 : b < p := Heap.lt_size e
      refine mv.heap b o ?_ (Heap.get?_push_of_some _ (Heap.get?_push_of_some _ e))
      simp only [List.mem_cons, List.not_mem_nil, or_false, not_or]
      exact ⟨Nat.ne_of_lt hb0, by rw [sz]; exact Nat.ne_of_lt (Nat.lt_succ_of_lt hb0)⟩
    · match r2, hr2 with
      | .error e, z => exact z
      | .ok (.ret r), z =>
        obtain ⟨rfl, h', tk, c', rfl, hS', hc', hk'⟩ := z
        repeat (any_goals (first | assumption | wp_step))
        exact q _ _ _ hS' hc' hk'
      | .ok .next, z => exact z.elim
      | .ok .brk, z => exact z.elim
      | .ok .cont, z => exact z.elim
  | .ok .next, z => exact z
  | .ok .brk, z => exact z
  | .ok .cont, z => exact z
end
theorem setR_list {w : World} {h : Heap} {a : Addr} {S : Int → Bool} {n : Nat} (R : SetR w h a S n) : ∃ l : List Int, l.Nodup ∧ l.length = n ∧ ∀ k, k ∈ l ↔ S k = true := by
  obtain ⟨o, es, ep, t, ho, hx, hd, g, nd, hm, hb, hf, hn, _⟩ := R
  exact ⟨es.toList.map keyOf, nd, by rw [List.length_map, Array.length_toList, hn], fun k => (hm k).symm⟩
def rSetL (K : PySem.W.Frag) (w : World) : List V → Hp → VK → Prop := fun vs H Q => ∃ (l : Addr) (ns : List Int), vs = [.ref l] ∧ SqL K H l (ns.map V.int) ∧ ns.length ≤ 1000 ∧
  ∀ (p : Addr) (c : Nat), H p = none → (∃ ms : List Int, ms.Nodup ∧ ms.length = c ∧ ∀ k, k ∈ ms ↔ k ∈ ns) → Q (.ref p) (upd H p (SetO w p (fun j => decide (j ∈ ns)) c))
section
variable {X : Cx} {W : WY}
theorem cr_setL (hc : X.calm = true) : CallR X (.type "set") (rSetL X.K X.w) := by
  intro pins s σ H vs us Q I r ⟨l, ns, e, hl, hz, q⟩
  subst e
  obtain rfl := Vals.ref1 r
  obtain ⟨its, rv, pl, _⟩ := I.list hl
  refine call_setL ns (I.ok.hd hc) pl.isList (by simpa using rv.ints) (Nat.lt_of_le_of_lt (Nat.succ_le_succ hz) (by decide)) fun h' tk c R hle k => ?_
  obtain ⟨ms, m1, m2, m3⟩ := setR_list R
  exact ⟨.ref _, _, I.laid (t' := tk) k (Nat.le_refl _) (setO_new R), rfl, q _ c (I.hok.fresh (Nat.le_refl _)) ⟨ms, m1, m2, fun j => (m3 j).trans decide_eq_true_iff⟩⟩
/-- sorted(set(e)), e's numbers being fewer than 64 unlike ones -/
def fSortSet (fe : PAx) : PX := fun ρ q x => fe ρ (fun ds => ∃ ns : List Int, ds = [.lst (ns.map D.int)] ∧ ns.length ≤ 1000 ∧ (∀ ms : List Int, ms.Nodup → (∀ k, k ∈ ms ↔ k ∈ ns) → ms.length < 64) ∧
  ∀ os : List Int, os.Pairwise (· < ·) → (∀ k, k ∈ os ↔ k ∈ ns) → q (.lst (os.map D.int))) x
theorem d_sortSet {e : Expr} {fe : PAx} {p p2 pos pos2 : Pos} (hcm : X.calm = true) (hg : Gl X "sorted") (hm : X.mg "sorted" = none) (hg2 : Gl X "set") (hm2 : X.mg "set" = none) (ha : PA X [e] (eA X W fe))
    (hs2 : starEach [e] X.env = (false, eval e X.env) :: starEach [] X.env := by rfl) (hs1 : starEach [.Call (.Name "set" p2) [e] [] pos2] X.env = (false, eval (.Call (.Name "set" p2) [e] [] pos2) X.env) :: starEach [] X.env := by rfl)
    (hp2 : (backTo pos2 (starEach [] X.env)).any (·.1) = false := by rfl) (hp1 : (backTo pos (starEach [] X.env)).any (·.1) = false := by rfl) :
    PE X (.Call (.Name "sorted" p) [.Call (.Name "set" p2) [e] [] pos2] [] pos) (eE X W (fSortSet fe)) := by
  refine PE.weak (pe_callB (cr_sortedSet hcm) hg hm (by rfl) (pa_cons (pe_callTy (cr_setL hcm) hg2 hm2 (by rfl) ha (he := hs2) (hpl := hp2)) pa_nil hs1) (he := hs1) (hpl := hp1)) fun σ H Q ⟨wl, ρ, q, x, hk, hev, hf, hq, hx⟩ => ?_
  refine ⟨wl, ρ, _, x, hk, hev, hf, fun ds vs H1 e1 r1 ⟨ns, ed, hz, few, h1⟩ => ?_, hx⟩
  subst ed
  obtain ⟨v, t, rfl, ⟨a, us, rfl, fa, sa, ra⟩, rt⟩ := r1
  cases rt
  obtain rfl := rp_ints ra
  refine ⟨a, ns, rfl, SqL.of sa, hz, fun p c np ⟨ms, m1, m2, m3⟩ => ?_⟩
  have x2 : Ext wl H1 (upd H1 p (SetO X.w p (fun j => decide (j ∈ ns)) c)) := Ext.new e1.wk np
  refine ⟨p, _, c, rfl, upd_same, by rw [← m2]; exact few ms m1 m3, fun os p2 o1 o2 _ np2 => ?_⟩
  obtain ⟨x3, r3⟩ := new_lst (ds := os.map D.int) (vs := os.map V.int) x2.wk np2 (rp_of_ints os)
  exact hq _ _ _ ((e1.trans x2).trans x3) r3 (h1 os o1 fun k => (o2 k).trans decide_eq_true_iff)
end
end PL

namespace PL
open PySem PySem.Spec L2
open PyProof.Rows (envOfC)
open PySem.W (kla_fn)

/-! # defs that make lambdas -/
/-- the def's code object and its table are known: q, the name of what it makes -/
def LamAt (base : Heap) (mg : Str → Option Value) (tt : List (Addr × Str)) (cdv : Value) (q : Str) : Prop := ∃ c P : Addr, LamX.TabB base mg c P ∧ cdv = .ref c ∧ (P, q) ∈ tt ∧ ∀ p ∈ tt, p.1 = P → p.2 = q
abbrev BdyL (P : Program) (w : World) (K : PySem.W.Frag) (mg : Str → Option Value) (base : Heap) (T : List (Addr × Str)) (k : Nat) (name : Str) (st : Stmt) (N : List Str) (f : Addr) (q : Str) (g : PSt) : Prop :=
  ∀ (cdv : Value) (A : Around) (outer : List Env) (s0 : Shared) (H : Hp) (E : XK), Room k (A.deeper (envOfC name (defScope st) s0.heap.objs.size f cdv)) → A.guards = some [] →
      Takes (cxOf (L2.CX P w) P w K mg base N name (defScope st) f cdv A outer s0 H E) (fun c d _ H' => E c d H') →
      PassesOwn (model P w) (A.deeper (envOfC name (defScope st) s0.heap.objs.size f cdv)) (envOfC name (defScope st) s0.heap.objs.size f cdv) (cxOf (L2.CX P w) P w K mg base N name (defScope st) f cdv A outer s0 H E).xe →
      LamAt base mg T cdv q →
      PSs (cxOf (L2.CX P w) P w K mg base N name (defScope st) f cdv A outer s0 H E) (defBody st) (eS (cxOf (L2.CX P w) P w K mg base N name (defScope st) f cdv A outer s0 H E) ⟨fun c d _ H' => E c d H', T⟩ g)
/-- a def of the top that makes lambdas -/
def DefL (K : PySem.W.Frag) (mg : Str → Option Value) (name : Str) (st : Stmt) (ps : List Str) (c : Addr) : Prop := ∃ f fd, DefAt K mg name st ps f fd ∧ fd.code = .ref c
theorem fn_mkL {P : Program} {w : World} {K : PySem.W.Frag} {mg : Str → Option Value} {base : Heap} {T : List (Addr × Str)} {k : Nat} {name : Str} {st : Stmt} {ps N : List Str} {s : PSp} {g : PSt} {c : Addr} {q : Str} (F : DefL K mg name st ps c) (S : FnScope N ps (defScope st)) (L : LamAt base mg T (.ref c) q)
    (body : ∀ f, BdyL P w K mg base T k name st N f q g)
    (hs : ∀ ds q x, s ds q x → ds.length = ps.length ∧ g ⟨fun _ => q .non, q, fun _ => False, fun _ => False, fun _ e => x e⟩ (startD N ds)) : FnD P w K mg base T (k + 1) name st ps s := by
  obtain ⟨f, fd, DA, hc⟩ := F
  refine ⟨f, fd, DA, ?_⟩
  obtain ⟨FF, hm, hb⟩ := DA
  obtain ⟨oc, od, kV, doc, pm, an, cdv, ct, osl, rfl, lk, hcd⟩ := FF.ex
  have hc : cdv = .ref c := hc
  subst hc
  refine fn_ofG lk hcd S (fun vs H Q E ⟨wl, ds, q, x, _, _, r, h, _⟩ => r.length.trans (hs ds q x h).1) fun A outer s0 H vs Q E hgd hr hsp => ?_
  obtain ⟨wl, ds, q', x, ht, hk, r, h, hq, hx⟩ := hsp
  refine ⟨_, body f (.ref c) A outer s0 H E hr hgd (takes_of rfl rfl rfl rfl) (passes_of rfl) L, wl.call, _, _, hk.call, evr_start (RpL.less (w := wl) (w' := wl.call) rfl (fun _ z => Wd.call_fr.mp z) ds vs r), (hs ds q' x h).2, ?_⟩
  exact ⟨ht, fun w ρ σ H' e _ z => hq .non .non H' e.back rfl z, fun w d v H' e r' z => hq d v H' e.back (e.back_rp r') z, fun _ _ _ _ _ _ z => z.elim, fun _ _ _ _ _ _ z => z.elim, fun w ρ σ H' en c dd e _ r' z => hx en c dd H' e.back (e.back_xn r') z⟩
theorem u64 {k : Nat} {A : Around} (r : Room k A) : A.units + 64 < cLine := by have := u200 r; omega
theorem u65 {k : Nat} {A : Around} (r : Room k A) : A.units + 65 < cLine := by have := u200 r; omega
/-- parts of a text -/
def anyE : Expr := .Constant .none 0 ⟨0, 0, 0, 0⟩
def callArg (i : Nat) : Expr → Expr
  | .Call _ as _ _ => as.getD i anyE
  | e => e
def callKw (i : Nat) : Expr → Expr
  | .Call _ _ ks _ => match ks[i]? with
    | some k => k.value
    | none => anyE
  | e => e
def retVal : Stmt → Expr
  | .Return (some e) _ => e
  | .Assign _ e _ => e
  | .Expr e _ => e
  | _ => anyE
def lamScope : Expr → Scope
  | .Lambda _ _ sc _ => sc
  | _ => default
def lastOf (st : Stmt) (i : Nat) : Stmt := (defBody st).getD i (.Pass ⟨0, 0, 0, 0⟩)
theorem lm_mk {X : Cx} {T : List (Addr × Str)} {c P : Addr} {params : Arguments} {scope : Scope} {q : Str} (h1 : LamX.TabB X.base X.mg c P) (h2 : X.env.code = .ref c) (h3 : (P, q) ∈ T) (h4 : ∀ p ∈ T, p.1 = P → p.2 = q) (hd : defaultsOf params X.env = ([], [])) (hf : ∀ y ∈ scope.names, y.2 = .free → ∃ c, X.env.cells.lookup y.1 = some c) (hq : X.env.qual ++ "<lambda>" = q := by rfl) : LamMk X T c P params scope := by
  subst hq
  exact ⟨h1, h2, h3, h4, hd, hf⟩
end PL

namespace PL
open PySem PySem.Spec L2
open PyProof.Rows (envOfC)

/-! # the end of a law with one def that makes a lambda -/
theorem tab_mk {K : PySem.W.Frag} {x : Str} {f c P : Addr} {oc oc2 : Value} {od od2 : Option Addr} {fd : FuncData} {sl sl2 : Array (Option Value)} {vs : Array Value} (a : PySem.W.nsIn K mainGlobals x = some (some (.ref f))) (l : K.lookup f = some ⟨oc, od, .func fd, sl⟩) (e : fd.code = .ref c)
    (l2 : K.lookup c = some ⟨oc2, od2, .fields vs, sl2⟩) (v : (vs[11]? : Option Value) = some (.ref P)) : PySem.W.tabIn K x = some (c, P) := by
  unfold PySem.W.tabIn
  rw [a]
  dsimp only
  rw [l]
  dsimp only
  rw [e]
  dsimp only
  rw [l2]
  dsimp only
  rw [v]
theorem tab_code {K : PySem.W.Frag} {x : Str} {f c P : Addr} {oc : Value} {od : Option Addr} {fd : FuncData} {sl : Array (Option Value)} (a : PySem.W.nsIn K mainGlobals x = some (some (.ref f))) (l : K.lookup f = some ⟨oc, od, .func fd, sl⟩) (t : PySem.W.tabIn K x = some (c, P)) : fd.code = .ref c := by
  unfold PySem.W.tabIn at t
  rw [a] at t
  dsimp only at t
  rw [l] at t
  dsimp only at t
  split at t
  · rename_i c2 hc
    split at t
    · split at t
      · cases t; exact hc
      · cases t
    · cases t
  · cases t
theorem defl_e {K : PySem.W.Frag} {mg : Str → Option Value} {h : Heap} {x : Str} {st : Stmt} {ps : List Str} {f cc P : Addr} {oc : Value} {od an : Option Addr} {osl : Array (Option Value)} {kV doc pm cdv ct : Value} (X : K.In h) (G : h.Ns mainGlobals mg)
    (a : PySem.W.nsIn K mainGlobals x = some (some (.ref f))) (l : K.lookup f = some ⟨oc, od, .func (PySem.W.fnOf x x (defArgs st) (defBody st) (defScope st) .none kV doc pm an cdv ct), osl⟩) (c : PySem.W.codeIn K cdv x = true) (k : PySem.W.keepIn K (.ref f) = true) (t : PySem.W.tabIn K x = some (cc, P))
    (b : ∀ (kV doc pm : Value) (an : Option Addr) (cdv ct : Value) (us : List Value), us.length = ps.length → bindArgs (PySem.W.fnOf x x (defArgs st) (defBody st) (defScope st) .none kV doc pm an cdv ct) ⟨us, []⟩ = pure (ps.zip us)) :
    ∃ c P, PySem.W.tabIn K x = some (c, P) ∧ DefL K mg x st ps c := ⟨cc, P, t, f, _, def_at X G a l c k b, tab_code a l t⟩
/-- the one table -/
def oneTb (K : PySem.W.Frag) (x nm : Str) : List Tb := match PySem.W.tabIn K x with
  | some (c, P) => [⟨c, P, nm⟩]
  | none => []
theorem oneTb_eq {K : PySem.W.Frag} {x nm : Str} {c P : Addr} (t : PySem.W.tabIn K x = some (c, P)) : oneTb K x nm = [⟨c, P, nm⟩] := by
  unfold oneTb; rw [t]
theorem walk_T1 {l : PySem.W.OpenLaw} {n k : Nat} {q : Program} {loose : List Str} {XP : (Str → Option Value) → Heap → Prop} {YP : World → Heap → Prop} {d : DefRec} {K : Params → PySem.W.Frag} {x y nm : Str}
    (hn : l.most = some n) (hn2 : n ≤ sizeLine) (hdf : d.params.defaults = []) (hr : Room k callerA) (hY : ∀ (w : World) (h : Heap), YP w h → (K w.params).In h)
    (hT : ∀ w : World, ∃ (d : DefRec) (c P : Addr), (PyProof.Rows.recsOf q).find? (fun e => e.name == y) = some d ∧ PySem.W.tabIn (K w.params) y = some (c, P) ∧ (K w.params).lookup P = none)
    (F : ∀ (w : World) (mg : Str → Option Value) (fa : Addr) (h : Heap) (c P : Addr), PySem.W.tabIn (K w.params) y = some (c, P) → (K w.params).In h → h.Ns mainGlobals mg → mg d.name = some (.ref fa) →
      ∃ fd : FuncData, (∀ (s : Shared) (u : Value), BindsTo s fd ⟨[u], []⟩ [(x, u)]) ∧ ∀ base : Heap, (K w.params).In base → base.Ns mainGlobals mg → (∀ e ∈ ([⟨c, P, nm⟩] : List Tb), LamX.TabB base mg e.co e.tb) → FnOkG l.prog w (K w.params) mg base (L2.CX l.prog w) k fa fd [x] (spLaw n [⟨c, P, nm⟩] (K w.params))) :
    PySem.W.WalkO q loose XP YP l.row.toRowW d [] (fun f vs => PySem.call f vs) := by
  refine walk_T (x := x) (cs := fun w => oneTb (K w.params) y nm) hn hn2 hdf hr hY (fun w e he => ?_) fun w mg fa h X G hm => ?_
  · obtain ⟨d2, c, P, h1, h2, h3⟩ := hT w
    rw [oneTb_eq h2] at he
    obtain rfl := List.mem_singleton.mp he
    exact ⟨⟨d2, y, h1, h2⟩, h3⟩
  · obtain ⟨d2, c, P, h1, h2, h3⟩ := hT w
    obtain ⟨fd, hb, hF⟩ := F w mg fa h c P h2 X G hm
    refine ⟨fd, hb, fun base a1 a2 a3 => ?_⟩
    rw [oneTb_eq h2] at a3 ⊢
    exact hF base a1 a2 a3
theorem lam_at {base : Heap} {mg : Str → Option Value} {cc pp : Addr} {q : Str} (hB : ∀ e ∈ ([⟨cc, pp, q⟩] : List Tb), LamX.TabB base mg e.co e.tb) : LamAt base mg (tbsOf [⟨cc, pp, q⟩]) (.ref cc) q :=
  ⟨cc, pp, hB ⟨cc, pp, q⟩ (List.mem_singleton.mpr rfl), rfl, List.mem_singleton.mpr rfl, fun p hp _ => by
    obtain rfl := List.mem_singleton.mp hp
    rfl⟩
end PL

namespace PL
open PySem PySem.Spec L2
open PySem.W (kxs_mw KxsAt ks_superIn ksFn)

/-! # an own error class under ValueError, its __init__ : super().__init__(x); self.f = x -/
section
variable {M : Model} {A : Around} {E : Value → Shared → Prop} {s : Shared}
theorem callWith_mw {i : String} {pos : Pos} {u x : Addr} {first : List Value} {env : Env} {e : Expr} {rest : List Expr} {Q : Value → Shared → Prop}
    (h : wpAny M A (spliced (backTo pos (starEach (e :: rest) env))) (fun vs s₁ => KxsAt i u x s₁.heap ∧ wpAny M A (call (.ref u) (first ++ vs)) Q E s₁) E s)
    (he : starEach (e :: rest) env = (false, eval e env) :: starEach rest env := by rfl) (hplain : (backTo pos (starEach rest env)).any (·.1) = false := by rfl) :
    wpAny M A (callWith pos (.ref u) first (backTo pos (starEach (e :: rest) env)) []) Q E s := by
  rw [he] at h ⊢
  refine PySem.W.kxs_callWith (i := i) (x := x) (by show (false || (backTo pos (starEach rest env)).any (·.1)) = false; rw [hplain]; rfl) ?_
  exact Calls.evalArgs_plain h
end
section
variable {prog : Program} {w : World} {A : Around} {E : Value → Shared → Prop} {h : Heap} {g : Array GenState} {d : Drawn} {t : Nat} {os : OsState}
variable {nm q : Str} {C N : Addr} {bs bm : List Value} {hdct : Bool} {sn : List Str} {sub : List Value} {ab : Bool} {col : Option Bool} {dd : Option Addr} {k0 k1 k2 k3 k5 : Option Value}
theorem call_mw {u e t0 : Addr} {rest : List Value} {Q : Value → Shared → Prop}
    (hC : h.get? C = some (excClassObj nm q C N bs bm hdct sn sub ab col dd k0 k1 k2 k3 k5 "ValueError.__new__")) (he : h.get? e = some (HandSPX.excO C t0)) (hu : h.get? u = some (kxs_mw "ValueError.__init__" e)) (hrest : rest.length ≤ sizeLine)
    (hq : ∀ h' t1, (∀ b o, b ≠ e → h.get? b = some o → h'.get? b = some o) → h'.get? e = some (HandSPX.excO C t1) → Q .none ⟨h', g, d, t, os⟩) :
    wpAny (model prog w) A (call (.ref u) rest) Q E ⟨h, g, d, t, os⟩ := by
  refine wpAny_call (codeAny_of_tree ?_)
  show wpAny _ A.in1 (callAny (.ref u) ⟨rest, []⟩) _ _ _
  simp only [callAny]
  refine wpAny_bind (wpAny_load hu ?_)
  simp only [kxs_mw, show (Value.type "method-wrapper" == Value.type "method" || Value.type "method-wrapper" == Value.type "builtin_function_or_method" || Value.type "method-wrapper" == Value.type "method-wrapper") = true by decide, if_true]
  refine PySem.W.KFB.if_so (by decide) ?_
  refine wpAny_bind (ESX.check_bound F.excBase_ValueError hC he rfl ?_)
  refine wpAny_bind (wpAny_pure (wpAny_pure ?_))
  refine ⟨Code.quiet_builtin _ (by decide +kernel), codeAny_builtin F.excBase_ValueError.initEntry ?_⟩
  rw [Around.under_plainId F.excBase_ValueError.init.plain _]
  wp_walk
  refine hq _ h.objs.size (fun b o hb ho => ?_) ?_
  · rw [Heap.get?_update_other _ _ (Ne.symm hb)]
    exact Heap.get?_push_of_some _ ho
  · rw [Heap.get?_update_self _ (Heap.get?_push_of_some _ he) rfl]
    rfl
end
/-- the text of such an __init__ -/
abbrev initB (p f : Str) (p1 p2 p3 p4 p5 p6 p7 p8 p9 p10 : Pos) : List Stmt :=
  [.Expr (.Call (.Attribute (.Call (.Name "super" p1) [] [] p2) "__init__" p3) [.Name p p4] [] p5) p6, .Assign [.Attribute (.Name "self" p7) f p8] (.Name p p9) p10]
/-- the promise: the field is written into the dict that is laid for it -/
def spInit (C : Addr) (f : Str) : Sp := fun vs H Q _ => ∃ (a : Addr) (y : V), vs = [.ref a, y] ∧ H a = some (exo a C none) ∧ ∀ dx, H dx = none → dx ≠ a → Q .non (upd (upd H dx (exd dx [(f, y)])) a (exo a C (some dx)))
theorem init_ok {P : Program} {w : World} {K : PySem.W.Frag} {mg : Str → Option Value} {base : Heap} {CX : CXT} {k : Nat} {fI C cc cda : Addr} {qual p f file : Str} {tf : Tok} {params : Arguments} {scope : Scope} {p1 p2 p3 p4 p5 p6 p7 p8 p9 p10 : Pos} {dV kV doc pm ct oc ccl cl : Value} {an od cdd cld : Option Addr} {osl ccs csl : Array (Option Value)} {vs0 : Array Value} {ar : Arg}
    (lk : K.lookup fI = some ⟨oc, od, .func (ksFn "__init__" qual params (initB p f p1 p2 p3 p4 p5 p6 p7 p8 p9 p10) scope dV kV doc pm an (.ref cda) ct cc), osl⟩) (hcd : PySem.W.codeIn K (.ref cda) qual = true)
    (lcode : K.lookup cda = some ⟨ccl, cdd, .fields vs0, ccs⟩) (hvs : vs0[2]? = some (.str file tf)) (hfile : ((P.main.file : Str) == file) = true) (lcell : K.lookup cc = some ⟨cl, cld, .cell (some (.ref C)), csl⟩)
    (T : OexC K C) (hsup : ks_superIn K C C "__init__" = some (some (.builtin "ValueError.__init__"))) (hB : PySem.W.subIn K (.ref C) (.type "ValueError") = some true) (hself : PySem.W.mroIn K C (.ref C) = some true)
    (hop : PySem.W.nsIn K cStatics "thirdparty.any" = some none) (hms : mg "super" = none) (hno : PySem.W.findIn K (.ref C) f = some none)
    (S : NdefX.NScope ["self", p, "__class__"] ["self", p] ["__class__"] scope) (hks : scope.names.lookup ("super" : Str) = some .globalImplicit) (hp : (params.posonlyargs ++ params.args).head? = some ar) (har : ar.arg = "self")
    (htop : (P.main.scope.names.lookup ("super" : Str)).isSome = false) (hpos : (p3.endLine == p5.line) = true) (hpd : (p == ("__debug__" : Str)) = false) (hpc : (p == ("__classdict__" : Str)) = false) :
    FnOk P w K mg base CX (k + 1) fI (ksFn "__init__" qual params (initB p f p1 p2 p3 p4 p5 p6 p7 p8 p9 p10) scope dV kV doc pm an (.ref cda) ct cc) ["self", p] (spInit C f) := by
  refine ⟨fun vs H Q E ⟨a, y, e, _⟩ => by subst e; rfl, fun A outer s H args us vs Q E hr e0 hb r hsp => ?_⟩
  obtain ⟨a, y, ev, ea, hq⟩ := hsp
  have KX : K.In s.heap := e0.mod.kin.keeps fun b o e => (e0.bs b o e).1
  have lim : s.heap.NoLimit := e0.mod.nolimit.keeps fun b o e => (e0.bs b o e).1
  have hl : vs.length = (["self", p] : List Str).length := by subst ev; rfl
  have C0 : NdefX.CellsAt [(("__class__" : Str), cc)] ["__class__"] [none] s.heap H := by
    have look : ∀ y c, ([(("__class__" : Str), cc)] : List (Str × Addr)).lookup y = some c → y = "__class__" ∧ c = cc := fun y c e => by
      have := PySem.mem_of_lookup e
      simp only [List.mem_singleton, Prod.mk.injEq] at this
      exact this
    refine ⟨rfl, fun y c e => ?_, fun x y c e1 e2 => (look x c e1).1.trans (look y c e2).1.symm, fun i y e => ?_⟩
    · obtain ⟨_, rfl⟩ := look y c e
      have z := e0.mod.kin _ _ lcell
      exact ⟨(e0.bs _ _ z).2, _, _, (e0.bs _ _ z).1, rfl⟩
    · cases i with
      | zero =>
        obtain rfl : "__class__" = y := by simpa using e
        exact ⟨cc, rfl, fun v z => by simp at z⟩
      | succ i => simp at e
  refine ks_codeAny_call_defAt hr.depth (KX _ _ lk) rfl lim (PySem.W.codeRec_of KX hcd) rfl hb (fun x hx => S.nocell x hx) (fun x hx => S.par x.1 (List.of_mem_zip hx).1) (fun h1 hns kp => ?_) S.co S.gen S.kind
  have J := NdefX.inv_startN (CX := CX) (N := ["self", p, "__class__"]) (F := ⟨"__init__", qual, params, initB p f p1 p2 p3 p4 p5 p6 p7 p8 p9 p10, scope, [("__class__", cc)], cda⟩) (f := fI) (E := E) (tk := s.toks + ((["self", p] : List Str).zip us).length) S hr.hd e0 hl r C0 hns kp
  have KX1 : K.In h1 := KX.keeps kp
  obtain ⟨nm, q, N, bs, bm, sn, sub, ab, col, dd, k0, k1, k2, k3, k5, hC, hbm⟩ := T.cls
  have hcl : PySem.W.clsIn K C = some { name := nm, bases := bs, mro := .ref C :: bm, ns := N, qualname := q, hasDict := true, slotNames := sn, subclasses := sub, abstract := ab, collection := col, hasDel := false } := by unfold PySem.W.clsIn; rw [hC] <;> rfl
  obtain ⟨t1, ho⟩ := exo_at J.hok ea
  have ho : h1.get? a = some (HandSPX.excO C t1) := ho
  obtain ⟨u0, us1, rfl, ru0, rus⟩ : ∃ u0 us1, us = u0 :: us1 ∧ RelV (.ref a) u0 ∧ Vals [y] us1 := by
    subst ev
    cases r with
    | cons r1 r2 => exact ⟨_, _, rfl, r1, r2⟩
  obtain ⟨ug, rfl, ry⟩ : ∃ ug, us1 = [ug] ∧ RelV y ug := by
    cases rus with
    | cons r1 r2 =>
      cases r2
      exact ⟨_, rfl, r1⟩
  obtain rfl : u0 = Value.ref a := ru0
  have np : ("self" : Str) ≠ p := fun z => by
    have := S.nd
    rw [← z] at this
    simp at this
  have ma : ((["self", p] : List Str).zip [Value.ref a, ug]).reverse.lookup ("self" : Str) = some (.ref a) := by
    have e : (("self" : Str) == p) = false := by simpa using np
    simp [List.lookup, e]
  have mp : ((["self", p] : List Str).zip [Value.ref a, ug]).reverse.lookup p = some ug := by
    simp [List.lookup]
  have hkc : scope.names.lookup ("__class__" : Str) = some .free := S.frk "__class__" (List.mem_singleton.mpr rfl)
  have hka : scope.names.lookup ("self" : Str) = some .local := S.par "self" (List.mem_cons_self ..)
  have hkp : scope.names.lookup p = some .local := S.par p (List.mem_cons_of_mem _ (List.mem_singleton.mpr rfl))
  obtain ⟨mb, b1, b2⟩ := J.mod.blt
  have hsub : ∀ {M : Model} {h : Heap}, K.In h → PySem.W.Looks M h (isSubtype (.ref C) (.ref C)) true := fun X => PySem.W.looks_mroIn X hself
  obtain ⟨hs, g, d, t, os⟩ := s
  have hcall : ∀ env : Env, eval (.Call (.Attribute (.Call (.Name "super" p1) [] [] p2) "__init__" p3) [.Name p p4] [] p5) env = (do
      let ov ← attributeBase (.Call (.Name "super" p1) [] [] p2) "__init__" env (eval (.Call (.Name "super" p1) [] [] p2) env)
      standAt p3.atName
      let (f, first) ← holding [ov] (getMethod ov "__init__" (do return (← importBound (.Call (.Name "super" p1) [] [] p2) env).getD true))
      callWith p5 f first (backTo p5 (starEach [.Name p p4] env)) []) := fun env => by
    show (do let ov ← attributeBase (.Call (.Name "super" p1) [] [] p2) "__init__" env (eval (.Call (.Name "super" p1) [] [] p2) env); standAt p3.atName; methodCall (.Call (.Name "super" p1) [] [] p2) "__init__" p3 p5 env ov 1 (backTo p5 (starEach [.Name p p4] env)) []) = _
    unfold methodCall methodCallPos
    rw [hpos]
    rfl
  refine ks_wpAt_execs_cons (ks_wpAt_Expr_any (ks_wpAt_MethodCall ?_ (hcall _)) (by show (scope.kind == .module && _) = false; rw [S.kind]; rfl))
  refine ks_wpAt_super_base (f := fI) (cc := cda) hks hkc (by decide) rfl (KX1 _ _ lk) rfl hp rfl (KX1 _ _ lcode) rfl hvs hfile htop ?_
  refine PySem.W.ks_loadName_global S.kind hks (Calls.loadGlobal_builtin (J.mod.glob.keeps J.bk) hms (b1.keeps J.bk) ((b2 "super" (by decide)).trans (by first | rfl | kernel_rfl)) ⟨rfl, ?_⟩)
  refine wpAny_loadName_free S.kind hkc rfl ⟨_, KX1 _ _ lcell, rfl⟩ ?_
  rw [har]
  refine wpAny_loadName_local S.kind hka hns ma ?_
  refine ks_wpAny_isType_cls (KX1 _ _ hC) rfl ⟨rfl, ?_⟩
  refine ks_wpAny_call_super (KX1 _ _ hC) rfl ho rfl (fun c e => by cases e) (hsub KX1) (fun h2 e2 k2 => ?_)
  have KX2 : K.In h2 := KX1.keeps k2
  have I2 : PySem.W.InstAt h2 a (HandSPX.excO C t1) C none := ⟨k2 _ _ ho, rfl, rfl, trivial⟩
  have hm : PySem.W.alongIn K "__init__" (((Value.ref C :: bm).dropWhile (· != .ref C)).drop 1) = some (some (.builtin "ValueError.__init__")) := by
    unfold ks_superIn at hsup
    rw [hcl] at hsup
    exact hsup
  refine PySem.W.kxs_getMethod PySem.W.kxs_ValueError e2 (PySem.W.looks_opaque KX2 hop) (l₀ := .ref C :: bm) (fun A Q E s k q => wpAny_bind ((PySem.W.looks_clsIn KX2 hcl) A _ E s k (wpAny_pure q))) rfl KX2 hm (I2.type.andThen (PySem.W.looks_subIn KX2 hB)) (PySem.W.ks_ne KX2 I2 hcl) (by decide) ?_
  have k3 : ∀ b o, h1.get? b = some o → (h2.push (kxs_mw "ValueError.__init__" a)).get? b = some o := fun b o e => Heap.get?_push_of_some _ (k2 b o e)
  have hmw : (h2.push (kxs_mw "ValueError.__init__" a)).get? h2.objs.size = some (kxs_mw "ValueError.__init__" a) := Heap.get?_push_at rfl rfl
  refine callWith_mw (i := "ValueError.__init__") (x := a) (Calls.spliced_cons (ESX.ldL (hns.keeps k3) mp (Calls.spliced_nil ⟨hmw, ?_⟩) S.kind hkp hpd))
  refine call_mw ((KX1.keeps k3) _ _ hC) (k3 _ _ ho) hmw (by rw [sizeLine_eq]; show 1 ≤ _; omega) (fun h4 t4 k4 hx => ?_)
  have J4 := (J.kept (t' := t + (([("self" : Str), p] : List Str).zip [Value.ref a, ug]).length + 1) k3).write (t' := t + (([("self" : Str), p] : List Str).zip [Value.ref a, ug]).length + 1) (x := a) (e := a) (o := exo a C none) (by rw [ea]; exact True.intro) (.inl rfl) k4 ⟨_, hx⟩ (exo_ok hx)
  have eu : upd H a (exo a C none) = H := by
    funext b
    by_cases hb : b = a
    · rw [hb, upd_same, ea]
    · rw [upd_ne hb]
  rw [eu] at J4
  subst ev
  refine wpAt_of_wpAny (wpAny_mono ((pss_one (ps_ost (pe_var (i := 0) rfl (.inl hka)) (pe_var (i := 1) rfl (.inl hkp) hpd hpc))).run [] _ _ H { nx := fun _ H' => Q .non H', rt := Q } J4 ⟨y, rfl, .ref a, rfl, a, C, rfl, T, hno, .inl ⟨ea, fun dx n ne => hq dx n ne⟩⟩) (fun fl s' hz => ?_) fun e s' hz => hz)
  cases fl with
  | ret u =>
    obtain ⟨v, σ', H', J', rv, q⟩ := hz
    exact ⟨v, H', J'.os, J'.bare, J'.base, J'.hok, rv, q⟩
  | next =>
    obtain ⟨σ', H', J', q⟩ := hz
    exact ⟨.non, H', J'.os, J'.bare, J'.base, J'.hok, rfl, q⟩
  | brk => exact hz.elim fun _ z => z.elim fun _ z => z.2.elim
  | cont => exact hz.elim fun _ z => z.elim fun _ z => z.2.elim
end PL

namespace PL
open PySem PySem.Spec L2

/-! # raise C(e), C an own error class that keeps e as its field f -/
structure ErrC (P : Program) (w : World) (K : PySem.W.Frag) (mg : Str → Option Value) (base : Heap) (c f : Str) (C : Addr) : Prop where
  oex : OexC K C
  at_ : mg c = some (.ref C)
  xf : XfC K C
  noF : PySem.W.findIn K (.ref C) f = some none
  ini : ∃ (fI : Addr) (fd : FuncData) (p : Str), PySem.W.findIn K (.ref C) "__init__" = some (some (.ref fI)) ∧ PySem.W.typeIn K (.ref fI) = some (.type "function") ∧ FnOk P w K mg base C8.CX0 1 fI fd ["self", p] (spInit C f) ∧ Binds K fd ["self", p] []
def sRaise (c f : Str) (fe : PX) : PSt := fun P ρ => fe ρ (fun d => P.ex ρ ⟨c, some (f, d)⟩) (P.ex ρ)
section
variable {X : Cx} {W : WY}
theorem d_raise {c f : Str} {C : Addr} {e : Expr} {fe : PX} {p pos pos' : Pos} (E : ErrC X.prog X.w X.K X.mg X.base c f C) (hg : Gl X c) (he : PE X e (eE X W fe)) (hc : X.calm = true) (tk : Takes X W.x) (hr : Room 2 X.A)
    (hdb : (c == ("__debug__" : Str)) = false := by decide) (hst : starEach [e] X.env = (false, eval e X.env) :: starEach [] X.env := by rfl) (hpl : (backTo pos (starEach [] X.env)).any (·.1) = false := by rfl) :
    PS X (.Raise (some (.Call (.Name c p) [e] [] pos)) none pos') (eS X W (sRaise c f fe)) := by
  obtain ⟨oex, hm, xf, noF, fI, fd, p0, iC, tI, F1, hb⟩ := E
  refine PS.weak (ps_raise hc tk (pmk_oex (x := c) oex iC tI F1 hr hb .nil C8.pass0 hg hm (da_cons he da_nil hst) hdb hst hpl)) fun En σ H ⟨wl, ρ, P, hk, hev, hf, r⟩ => ?_
  refine ⟨wl, ρ, (fun ds => match ds with | [d] => P.ex ρ ⟨c, some (f, d)⟩ | _ => False), P.ex ρ, hk, hev, hf, fun ds vs H1 e1 r1 h1 => ?_, r.out hk hev⟩
  rcases ds with _ | ⟨d, _ | ⟨d2, ds⟩⟩
  · exact h1.elim
  · obtain ⟨v, vs', rfl, rv, rfl⟩ := r1
    refine ⟨by simp, fun a na => ⟨a, v, rfl, upd_same, fun dx n ne => ?_⟩⟩
    have hd : H1 dx = none := by
      rw [upd_ne ne] at n
      exact n
    refine ⟨rfl, dx, [(f, v)], upd_same, by rw [upd_ne ne, upd_same], hd, ?_⟩
    have e2 : upd (L2.del (upd (upd (upd H1 a (exo a C none)) dx (exd dx [(f, v)])) a (exo a C (some dx))) a) dx (.xd [(f, v)]) = upd H1 dx (.xd [(f, v)]) := by
      funext b
      by_cases hb1 : b = dx
      · rw [hb1, upd_same, upd_same]
      · rw [upd_ne hb1, upd_ne hb1]
        by_cases hb2 : b = a
        · rw [hb2, L2.del_same]; exact na.symm
        · rw [L2.del_ne hb2, upd_ne hb2, upd_ne hb1, upd_ne hb2]
    rw [e2]
    have x := Ext.new (o := .xd [(f, v)]) e1.wk hd
    exact r.ex wl ρ σ _ ⟨c, some (f, d)⟩ (.ref C) (some dx) (e1.trans x).step (hev.ext hk (e1.trans x)) ⟨hm, dx, v, rfl, e1.wk.new hd, upd_same, Rp.ext e1.wk x _ _ rv⟩ h1
  · exact h1.elim
end
end PL

namespace PL
open PySem PySem.Spec L2
open PyProof.Rows

/-! # try: .. except C as e: .. except D as e: .. , one name for all clauses -/
abbrev Cls := List (Value × (Addr → Value → Option Addr → TS))
/-- the ends of a suite: the name at i is gone -/
def goneE (i : Nat) (D : Ends) : Ends := { nx := fun σ H => D.nx (σ.set i none) H, rt := D.rt, bk := fun σ H => D.bk (σ.set i none) H, ct := fun σ H => D.ct (σ.set i none) H }
def wManyA (K : PySem.W.Frag) (m i : Nat) (Wo : WX) (D : Ends) : Cls → WX
  | [] => Wo
  | (c, ts) :: r => fun cls d σ H => ∃ b, PySem.W.exmOne K cls c = some b ∧ (b = true → σ.length = m → ∀ a, H a = none → ts a cls d (goneE i D) (σ.set i (some (.ref a))) H) ∧ (b = false → wManyA K m i Wo D r cls d σ H)
inductive HdA (X : Cx) (n : Str) : List ExceptHandler → Cls → Prop
  | nil : HdA X n [] []
  | cons {x : Str} {c : Value} {ts : Addr → Value → Option Addr → TS} {b₀ : Stmt} {suite : List Stmt} {np pos' : Pos} {hds : List ExceptHandler} {l : Cls} (hc : Names X x c)
      (hsu : ∀ (a : Addr) (oe : Obj) (cls : Value) (d : Option Addr) (pn : List (Addr × Obj)), Zc cls d oe → (∃ vs, oe.data = .fields vs) → PSs (X.suite a ((a, oe) :: pn)) (b₀ :: suite) (ts a cls d)) (r : HdA X n hds l) :
      HdA X n (.ExceptHandler (some (.Name x np)) (some n) (b₀ :: suite) pos' :: hds) ((c, ts) :: l)
section
variable {X : Cx} {body : List Stmt} {h₀ : ExceptHandler} {hds : List ExceptHandler} {l : Cls} {pos : Pos} {tb : WX → TS} {Wo : WX} {n : Str} {i : Nat}
theorem ps_try_manyA (hst : X.stack = X.env :: X.outer) (hf : X.env.frame = some X.env.locals) (hN : X.N.Nodup) (hi : X.N[i]? = some n) (hln : X.env.kindOf n = some .local) (tk : Takes X Wo)
    (hb : ∀ (W : WX) (pn : List (Addr × Obj)) (xe : Value → Shared → Prop), Takes (X.tr pn xe) W → PassesOwn (model X.prog X.w) X.A X.env xe → PSs (X.tr pn xe) body (tb W))
    (hh : HdA X n (h₀ :: hds) l) : PS X (.Try body (h₀ :: hds) [] [] pos) (fun D σ H => tb (wManyA X.K X.N.length i Wo D l) D σ H) := by
  refine ⟨fun pins s σ H D I hw => ?_⟩
  have ok := I.ok
  have hfm : X.A.frames = some (X.env :: X.outer) := by rw [ok.frames, hst]
  have hloc : Loc X.env.scope n := .inl hln
  refine wpAny_Try_except ?_
  refine wpAny_mono ((hb (wManyA X.K X.N.length i Wo D l) (X.pn ++ pins) (fun e s₁ => wpAny (model X.prog X.w) X.A (noteFrame e X.env) (fun _ s₂ => wpAny (model X.prog X.w) X.A (setFlight e none) (fun _ s₃ =>
    wpAny (model X.prog X.w) X.A (handleBy e X.env (h₀ :: hds)) (SP X pins D) X.xe s₃) X.xe s₂) X.xe s₁) (fun u s' xx => ?_) PassesOwn.looking).run [] s σ H D (I.toTry _) hw) (fun fl s1 hsp => ?_) (fun e s1 he => he)
  · -- what came is caught
    obtain ⟨a, B, sI, pins', σ', H', cls, d, rfl, U', nb, ul, sky, na, os, ag, wm⟩ := xx
    have U : Inv X pins σ' H' sI := U'.ofTry ok
    have sky' : Sky B (X.env :: X.outer) a (Zc cls d) X.env.locals s'.heap := by rw [← hst]; exact sky
    show wpAny (model X.prog X.w) X.A (noteFrame (.ref a) X.env) _ _ _
    refine Sky.land Zc.steady hfm hf sky' fun z3 m3 ul3 => ?_
    have U3 : Inv X pins σ' H' { s' with heap := z3 } := U.landed nb m3.1 (ul.trans ul3) os ag
    obtain ⟨oe3, vs3, ge3, hz3, hd3⟩ := m3.there
    have apart : ∀ {h : Heap} {o : Obj} {vs : Array Value}, h.FunFrames B (X.env :: X.outer) → h.get? a = some o → o.data = .fields vs → a ∉ frs (X.env :: X.outer) := fun {h o vs} ff e dd hm => by
      obtain ⟨_, o', e', hnf⟩ := ff.mem hm
      rw [e] at e'; cases e'
      exact hnf _ dd
    have nfr := apart m3.2.2.1 ge3 hd3
    have nL : a ≠ X.env.locals := fun z => nfr (List.mem_filterMap.mpr ⟨X.env, List.mem_cons_self, by rw [hf, z]⟩)
    have nF : a ∉ X.fs := fun hm => by
      obtain ⟨e, he, q⟩ := List.mem_filterMap.mp hm
      exact nfr (List.mem_filterMap.mpr ⟨e, List.mem_cons_of_mem _ he, q⟩)
    have R3 := U3.suite ge3 hd3 na nL nF
    have go : ∀ {hs' : List ExceptHandler} {l' : Cls}, HdA X n hs' l' → wManyA X.K X.N.length i Wo D l' cls d σ' H' → wpAny (model X.prog X.w) X.A (handleBy (.ref a) X.env hs') (SP X pins D) X.xe { s' with heap := z3 } := by
      intro hs' l' hk
      induction hk with
      | nil =>
        intro wm
        refine wpAny_handleBy_nil ?_
        obtain ⟨k1, k2, k3, oe, vs, T, oT, ts', he, hz, hd, h1, hr⟩ := id m3
        unfold PySem.passOn
        refine wpAny_bind (wpAny_field he hd h1 ?_)
        rw [if_neg (show ¬ ((Value.ref T == Value.none) = true) from by simp)]
        have out : wpAny (model X.prog X.w) X.A (setFlight (.ref a) X.env.frame) (fun _ s4 => wpAny (model X.prog X.w) X.A (throw (.ref a) : Sem Flow) (SP X pins D) X.xe s4) X.xe { s' with heap := z3 } := by
          rw [hf]
          refine HandSPX.setFlight_upZ m3 fun z4 hh4 ul4 => wpAny_throw (tk _ _ ?_)
          exact ⟨a, B, sI, pins, σ', H', cls, d, rfl, U, nb, (ul.trans ul3).trans ul4, .inr (.inr (by rw [hst]; exact hh4)), na, os, ag, wm⟩
        first
          | exact wpAny_bind (wpAny_pure (wpAny_bind out))
          | exact wpAny_bind out
      | @cons x c ts b₀ suite np pos' hds2 l2 hc hsu r ih =>
        intro wm
        obtain ⟨b, hb1, hyes, hno⟩ := wm
        refine wpAny_handleBy_cons (codeAny_handlers_test ?_) (by intro q; cases q)
        have LT : PySem.W.Looks (model X.prog X.w) z3 (typeOf (.ref a)) cls := fun A Q E s k q => wpAny_typeOf_ref (k _ _ ge3) (by rw [hz3.1]; exact q)
        have LM := PySem.W.exm_one (M := model X.prog X.w) (U3.kIn) LT hb1
        have test : ∀ {Q : Value → Shared → Prop} {E : Value → Shared → Prop}, Q c { s' with heap := z3 } → wpAny (model X.prog X.w) (X.A.mark (some (.ref a))) (eval (.Name x np) X.env) Q E { s' with heap := z3 } := fun {Q E} q => by
          obtain ⟨hg, hdbg, hm | ⟨hm, hv, hnn⟩⟩ := hc
          · exact ld_glob (X := X.suite a ((a, oe3) :: (X.pn ++ pins))) R3 hg hm q hdbg
          · exact ld_blt (X := X.suite a ((a, oe3) :: (X.pn ++ pins))) R3 hg hm hv q hnn hdbg
        refine test (LM.here ?_)
        cases b with
        | true =>
          refine codeAny_handlers_suite_as ?_
          refine HandSPX.lands_againZ m3 fun z4 m4 ul4 => ?_
          have U4 : Inv X pins σ' H' { s' with heap := z4 } := U.landed nb m4.1 ((ul.trans ul3).trans ul4) os ag
          obtain ⟨oe4, vs4, ge4, hz4, hd4⟩ := m4.there
          have R4 := U4.suite ge4 hd4 na nL nF
          refine store_ok (X := X.suite a ((a, oe4) :: (X.pn ++ pins))) (v := .ref a) R4 hN hi hloc rfl (fun s5 R5 => ?_) (.inr hln)
          refine wpAny_mono ((hsu a oe4 cls d (X.pn ++ pins) hz4 ⟨_, hd4⟩).run [] s5 _ H' _ R5 (hyes rfl U.len a na)) (fun fl s6 hsp => ?_) (fun _ _ z => False.elim z)
          have close : ∀ {σ6 : L2.St} {H6 : Hp} {Q : Shared → Prop}, Inv (X.suite a ((a, oe4) :: (X.pn ++ pins))) [] σ6 H6 s6 → (∀ s7, Inv X pins (σ6.set i none) H6 s7 → Q s7) →
              wpAny (model X.prog X.w) X.A (do bindName X.env n .none; unbindBehindTheSuite X.env n pos') (fun _ s7 => Q s7) X.xe s6 := fun {σ6 H6 Q} R6 hq => gone_ok (R6.unsuite ok) hN hi hln hq
          cases fl with
          | next =>
            obtain ⟨σ6, H6, R6, q6⟩ := hsp
            exact close R6 fun s7 J7 => ⟨_, _, J7, q6⟩
          | brk =>
            obtain ⟨σ6, H6, R6, q6⟩ := hsp
            exact close R6 fun s7 J7 => ⟨_, _, J7, q6⟩
          | cont =>
            obtain ⟨σ6, H6, R6, q6⟩ := hsp
            exact close R6 fun s7 J7 => ⟨_, _, J7, q6⟩
          | ret u =>
            obtain ⟨v6, σ6, H6, R6, r6, q6⟩ := hsp
            exact close R6 fun s7 J7 => ⟨_, _, _, J7, r6, q6⟩
        | false =>
          show wpAny _ X.A (handleBy (.ref a) X.env hds2) _ _ _
          exact ih (hno rfl)
    exact go hh wm
  · cases fl with
    | next =>
      obtain ⟨σ', H', U', q⟩ := hsp
      exact wpAny_execs_nil ⟨σ', H', U'.ofTry ok, q⟩
    | brk =>
      obtain ⟨σ', H', U', q⟩ := hsp
      exact ⟨σ', H', U'.ofTry ok, q⟩
    | cont =>
      obtain ⟨σ', H', U', q⟩ := hsp
      exact ⟨σ', H', U'.ofTry ok, q⟩
    | ret u =>
      obtain ⟨v, σ', H', U', r, q⟩ := hsp
      exact ⟨v, σ', H', U'.ofTry ok, r, q⟩
end
end PL

namespace PL
open PySem PySem.Spec L2 LamX
open PyProof.Rows (envOfC)

/-! # x(lambda: e), x calling it in a try: as LamX.pe_lamcall, the lambda's body knowing that no repr is under way -/
section
variable {X : Cx} {pins : List (Addr × Obj)} {σ : L2.St} {H HZ : Hp} {s s1 : Shared}
theorem pe_actG {CXg : CXT} {Eg : XK} {Ng : List Str} {qg : Str} {sg : Scope} {g f c' : Addr} {cdg pm ctv : Value} {params : Arguments} {body : Expr} {scope : Scope} {k i : Nat} {a : Str} {pn : List (Addr × Obj)} {xe : Value → Shared → Prop} {W : WX} {E : XK} {tb : TE} {p1 p2 : Pos}
    (I : Inv X pins σ H s) (L : LamS X.env.scope scope) (hf : s.heap.get? f = some (PySem.W.kla_obj "<lambda>" (X.env.qual ++ "<lambda>") params body scope (cloFrom X.env.cells scope.names []) pm c' ctv)) (hfn : H f = none) (hfr : f ∉ frs X.stack)
    (hbind : bindArgs (PySem.W.kla_fn "<lambda>" (X.env.qual ++ "<lambda>") params body scope (cloFrom X.env.cells scope.names []) pm (.ref c') ctv) ⟨[], []⟩ = pure [])
    (tk : Takes ((cxOf CXg X.prog X.w X.K X.mg X.base Ng qg sg g cdg X.A X.stack s H Eg).tr pn xe) W) (hW : ∀ cls d σ' H', E cls d H' → W cls d σ' H') (hr : Room (k + 1) (X.A.deeper (envOfC qg sg s.heap.objs.size g cdg)))
    (hbody : ∀ (A : Around) (outer : List Env) (s : Shared) (H : Hp), A.guards = X.A.guards → Room k (A.deeper (lamEnv X scope s.heap.objs.size f c')) → PE (lamCx X A outer s H E scope f c') body tb)
    (hN : Ng[i]? = some a) (hv : Vis sg a) (hd : (a == ("__debug__" : Str)) = false := by decide) (hcd : (a == ("__classdict__" : Str)) = false := by decide) :
    PE ((cxOf CXg X.prog X.w X.K X.mg X.base Ng qg sg g cdg X.A X.stack s H Eg).tr pn xe) (.Call (.Name a p1) [] [] p2)
      (fun σZ HZ Q => σZ[i]? = some (some (.ref f)) ∧ HZ c' = some (CodeO c' (X.env.qual ++ "<lambda>")) ∧ tb σ HZ Q) := by
  refine ⟨fun pinsZ sZ σZ HZ Q IZ ⟨hs, hc, ht⟩ => ?_⟩
  refine wpAny_Call_Name_kw (thn ((pe_var (pos := p1) (i := i) hN hv hd hcd).run pinsZ sZ σZ HZ (fun v H1 => v = .ref f ∧ H1 = HZ) IZ ⟨.ref f, hs, rfl, rfl⟩) fun u s1 ⟨v, H1, I1, r1, ev, eH⟩ => ?_)
  subst ev; rw [eH] at I1
  obtain rfl : u = Value.ref f := r1
  have of1 := I1.base.keep f _ hf hfn hfr (fun z => nomatch (show f ∈ ([] : List Addr) from z))
  refine PySem.W.callWith_F0 ⟨_, _, _, _, of1⟩ ?_
  have un : Un (frs X.stack) [] H HZ s.heap s1.heap := I1.base
  obtain ⟨⟨oc, vs, t, hoc, hdc, hvc⟩, _, _⟩ := I1.hok c' _ hc
  have run : codeAny (model X.prog X.w) (X.A.deeper (envOfC qg sg s.heap.objs.size g cdg)) (.call (.ref f) ⟨[], []⟩) (CR (L2.CX X.prog X.w) (envOfC qg sg s.heap.objs.size g cdg :: X.stack) X.prog X.w HZ s1 Q E) s1 := by
    refine PySem.W.kla_callFunE hr.depth of1 rfl L.co L.gen rfl ⟨c', oc, vs, t, rfl, hoc, hdc, hvc⟩ ?_
    rw [hbind]
    refine wpAny_pure (wpAny_newFunctionEnv (fun y hy => (L.own y hy).2) (fun y hy => absurd hy (by simp)) (fun h₁ hns hsb => ⟨I1.nolimit.fresh _ hsb, ?_⟩) L.kind)
    show codeAny _ _ (.expr body (lamEnv X scope s1.heap.objs.size f c')) _ _
    have J := lam_start2 (tk := s1.toks + ([] : List (Str × Value)).length) I L I1.env0 (E := E) (f := f) (c' := c') hr.hd un hns fun b o e => hsb.extBut b o (Nat.ne_of_lt (Heap.lt_size e)) (Heap.get?_push_of_some _ e)
    refine PySem.W.kla_codeExpr (wpAny_mono ((hbody (X.A.deeper (envOfC qg sg s.heap.objs.size g cdg)) _ s1 HZ rfl (hr.deeper _)).run [] _ _ HZ Q J ht) (fun v s' hq => ?_) fun e s' hq => hq)
    obtain ⟨w', H', J', rv, q⟩ := hq
    exact ⟨w', H', J'.os, J'.bare, J'.base, J'.hok, rv, q⟩
  refine wpAny_call (codeAny_mono run fun r s' hq => ?_)
  match r, hq with
  | .error e, hq => exact (passes_call tk hW) pinsZ σZ HZ s1 e s' I1 hq
  | .ok (.ret u), hq => exact I1.after hq
  | .ok .next, hq => exact hq.elim
  | .ok .brk, hq => exact hq.elim
  | .ok .cont, hq => exact hq.elim
theorem pe_lamcallG {T : List (Addr × Str)} {TT : (XK → Hp → VK → Prop) → Hp → VK → Prop} {x a : Str} {g c P : Addr} {k : Nat} {pg : Arguments} {bg : List Stmt} {sg : Scope} {dV kV doc pm cdv ct oc : Value} {an od : Option Addr} {osl : Array (Option Value)} {Ng : List Str}
    {params : Arguments} {body : Expr} {scope : Scope} {t : XK → TE} {p lpos pos : Pos} (hg : Gl X x) (hm : X.mg x = some (.ref g)) (hk : PySem.W.keepIn X.K (.ref g) = true)
    (lk : X.K.lookup g = some ⟨oc, od, .func (PySem.W.fnOf x x pg bg sg dV kV doc pm an cdv ct), osl⟩) (hcg : PySem.W.codeIn X.K cdv x = true) (hb : L2.Binds X.K (PySem.W.fnOf x x pg bg sg dV kV doc pm an cdv ct) [a] []) (Sg : FnScope Ng [a] sg) (hNg : Ng[0]? = some a) (hva : Vis sg a)
    (hG : GivesTo X Ng x sg g cdv bg a (X.env.qual ++ "<lambda>") TT)
    (TB : TabB X.base X.mg c P) (hcode : X.env.code = .ref c) (hmT : (P, X.env.qual ++ "<lambda>") ∈ T) (hu : ∀ p ∈ T, p.1 = P → p.2 = X.env.qual ++ "<lambda>") (hr : Room (k + 2) X.A) (L : LamS X.env.scope scope) (hdef : defaultsOf params X.env = ([], []))
    (hbind : ∀ (q : Str) (cl : List (Str × Addr)) (pm cv ctv : Value), bindArgs (PySem.W.kla_fn "<lambda>" q params body scope cl pm cv ctv) ⟨[], []⟩ = pure [])
    (hbody : ∀ (A : Around) (outer : List Env) (s : Shared) (H : Hp) (E : XK) (f c' : Addr), A.guards = X.A.guards → Room k (A.deeper (lamEnv X scope s.heap.objs.size f c')) → PE (lamCx X A outer s H E scope f c') body (t E))
    (hdb : (x == ("__debug__" : Str)) = false := by decide) (hd : (a == ("__debug__" : Str)) = false := by decide) (hcd : (a == ("__classdict__" : Str)) = false := by decide) :
    PE X (.Call (.Name x p) [.Lambda params body scope lpos] [] pos) (tLam T TT t) := by
  refine ⟨fun pins s σ H Q I ⟨hT, h⟩ => ?_⟩
  refine wpAny_Call_Name_kw (ld_glob I hg hm (PySem.W.callWith_K (h₀ := X.base) I.ok.mod.kin hk ?_ (by rfl) (by rfl)) hdb)
  show wpAny _ _ (spliced ((false, eval (.Lambda params body scope lpos) X.env) :: backTo pos (starEach [] X.env))) _ _ s
  refine Calls.spliced_cons (lam_make2 I TB hcode hmT hu hT hdef (L.has I.ok) fun f c' pm' ctv H1 s' I1 eN T1 hf hfn hfr hco => Calls.spliced_nil ⟨I1.kIn, ?_⟩)
  have run : codeAny (model X.prog X.w) X.A (.call (.ref g) ⟨[.ref f], []⟩) (CR C8.CX0 X.stack X.prog X.w H1 s' Q C8.E0) s' := by
    refine run_ofS (N := Ng) (ps := [a]) (us := [.ref f]) (vs := [.ref f]) lk hcg Sg hr I1.env0 (hb s' [.ref f] I1.kIn rfl) (.cons rfl .nil) rfl fun hr' => ?_
    obtain ⟨t', ht', hq'⟩ := hG f c' s' H1 Q (fun E H' Q' => t E σ H' Q') (fun W pn xe E p1 p2 tk hW => pe_actG (i := 0) I1 L hf hfn hfr (hbind _ _ _ _ _) tk hW hr' (fun A outer s H eg hr2 => hbody A outer s H E f c' eg hr2) hNg hva hd hcd) hco (h H1 eN T1)
    exact ⟨t', ht'.nox, hq'⟩
  refine wpAny_call (codeAny_mono run fun r s2 hq => ?_)
  match r, hq with
  | .error e, hq => exact (show False from hq).elim
  | .ok (.ret u), hq => exact I1.after hq
  | .ok .next, hq => exact hq.elim
  | .ok .brk, hq => exact hq.elim
  | .ok .cont, hq => exact hq.elim
end
end PL

namespace PL
open PySem PySem.Spec L2 LamX
open PyProof.Rows (envOfC)

/-! # refused(lambda: e): None, or [word, e.given] of the error that came -/
/-- the clauses: class, its address, the word -/
abbrev RefL := List (Str × Addr × Str)
inductive RefHds : List ExceptHandler → RefL → Prop
  | nil : RefHds [] []
  | cons {cn w : Str} {C : Addr} {hds : List ExceptHandler} {l : RefL} {j : Nat} {q1 q2 q3 q4 q5 q6 q7 : Pos} (r : RefHds hds l) :
      RefHds (.ExceptHandler (some (.Name cn q1)) (some "e") [.Return (some (.List [.Constant (.str w) j q2, .Attribute (.Name "e" q3) "given" q4] q5)) q6] q7 :: hds) ((cn, C, w) :: l)
abbrev refBody (j : Nat) (q1 q2 q3 q4 q5 q6 : Pos) (hds : List ExceptHandler) : List Stmt := [.Try [.Expr (.Call (.Name "act" q1) [] [] q2) q3] hds [] [] q4, .Return (some (.Constant .none j q5)) q6]
def wRef (K : PySem.W.Frag) (Q : VK) : RefL → XK
  | [] => fun _ _ _ => False
  | (_, C, w) :: r => fun cls d H => ∃ b, PySem.W.exmOne K cls (.ref C) = some b ∧ (b = true → cls = .ref C ∧ ∃ dd v, d = some dd ∧ H dd = some (.xd [("given", v)]) ∧ ∀ p, H p = none → Q (.ref p) (upd H p (.lst [.str w, v]))) ∧ (b = false → wRef K Q r cls d H)
def TTref (K : PySem.W.Frag) (l : RefL) : (XK → Hp → VK → Prop) → Hp → VK → Prop := fun tl H Q => tl (wRef K Q l) H (fun _ H' => Q .non H')
/-- what the written part has of the clauses' classes -/
structure RefC (K : PySem.W.Frag) (mg : Str → Option Value) (l : RefL) : Prop where
  at_ : ∀ c ∈ l, mg c.1 = some (.ref c.2.1) ∧ XfC K c.2.1 ∧ PySem.W.findIn K (.ref c.2.1) "given" = some none ∧ (c.1 == ("__debug__" : Str)) = false
  uni : ∀ c ∈ l, ∀ c' ∈ l, c.2.1 = c'.2.1 → c = c'
  exm : ∀ c ∈ l, ∀ c' ∈ l, PySem.W.exmOne K (.ref c.2.1) (.ref c'.2.1) = some (decide (c.2.1 = c'.2.1))
/-- the suites' readings -/
def tsRef (C : Addr) (w : Str) : Addr → Value → Option Addr → TS := fun a cls d => tRet (tLst (tCons (tC (.str w)) (tCons (tXf a cls d C "given" (tVar 1)) tNil)))
def clsRef (l : RefL) : Cls := l.map fun c => (.ref c.2.1, tsRef c.2.1 c.2.2)
section
variable {X : Cx}
theorem hda_of {Y : Cx} {hds : List ExceptHandler} {l : RefL} (h : RefHds hds l) (hN : Y.N[1]? = some ("e" : Str)) (hv : Y.env.scope.names.lookup ("e" : Str) = some .local) (hE : ∀ c ∈ l, (Gl Y c.1 ∧ Y.mg c.1 = some (.ref c.2.1)) ∧ XfC Y.K c.2.1 ∧ PySem.W.findIn Y.K (.ref c.2.1) "given" = some none ∧ (c.1 == ("__debug__" : Str)) = false) :
    HdA Y "e" hds (clsRef l) := by
  induction h with
  | nil => exact .nil
  | @cons cn w C hds l j q1 q2 q3 q4 q5 q6 q7 r ih =>
    obtain ⟨⟨e1, e2⟩, e3, e4, e5⟩ := hE (cn, C, w) (List.mem_cons_self ..)
    refine .cons ⟨e1, e5, .inl e2⟩ (fun a oe cls d pn hz hf => ?_) (ih fun c hc => hE c (List.mem_cons_of_mem _ hc))
    exact pss_one (ps_ret (pe_lst (pa_cons pe_str (pa_cons (pe_xf e3 e4 hz hf (pe_var (X := Y.suite a ((a, oe) :: pn)) (i := 1) hN (.inl hv))) pa_nil))))
theorem many_of {K : PySem.W.Frag} {Q : VK} {D : Ends} (hQ : ∀ v H, Q v H → D.rt v H) {cls : Value} {d : Option Addr} {σ : L2.St} {H : Hp} (m : Nat) (hm : 1 < m) : ∀ l : RefL, wRef K Q l cls d H → wManyA K m 1 (fun _ _ _ _ => False) D (clsRef l) cls d σ H
  | [], h => h.elim
  | (cn, C, w) :: r, ⟨b, e, h1, h2⟩ => by
    refine ⟨b, e, fun hb hl a na => ?_, fun hb => many_of hQ m hm r (h2 hb)⟩
    obtain ⟨ec, dd, v, ed, ex, hp⟩ := h1 hb
    refine ⟨.ref a, by rw [List.getElem?_set_self (by omega)], rfl, ec, dd, [("given", v)], v, ed, ex, by simp [List.lookup], ?_⟩
    exact ⟨by rw [sizeLine_eq]; show 2 ≤ _; omega, fun p np => hQ _ _ (hp p np)⟩
theorem ref_gives {Ng : List Str} {x q : Str} {sg : Scope} {g : Addr} {cdg : Value} {j : Nat} {q1 q2 q3 q4 q5 q6 : Pos} {hds : List ExceptHandler} {l : RefL} (h : RefHds hds l) (hne : hds ≠ []) (hN : Ng.Nodup) (hm : 1 < Ng.length) (hi : Ng[1]? = some ("e" : Str)) (hle : sg.names.lookup ("e" : Str) = some .local)
    (hgl : ∀ c ∈ l, sg.names.lookup c.1 = some .globalImplicit) (R : RefC X.K X.mg l) (h0 : ∀ f : Addr, (L2.start Ng [V.ref f])[0]? = some (some (V.ref f))) : GivesTo X Ng x sg g cdg (refBody j q1 q2 q3 q4 q5 q6 hds) "act" q (TTref X.K l) := by
  intro f c' s H Q tl act hc hq
  obtain ⟨h1, hr, rfl⟩ : ∃ a r, hds = a :: r := by
    cases hds with
    | nil => exact (hne rfl).elim
    | cons a r => exact ⟨a, r, rfl⟩
  refine ⟨_, pss_cons (ps_try_manyA (X := (cxOf C8.CX0 X.prog X.w X.K X.mg X.base Ng x sg g cdg X.A X.stack s H C8.E0).nox) (n := "e") (i := 1) (l := clsRef l)
      (tb := fun W D σ H => ∃ Ech : XK, (∀ cls d σ' H', Ech cls d H' → W cls d σ' H') ∧ σ[0]? = some (some (.ref f)) ∧ H c' = some (CodeO c' q) ∧ tl Ech H (fun _ H' => D.nx σ H'))
      rfl rfl hN hi hle LamX.takes0 (fun W pn xe tk _ => ?_) (hda_of h hi hle fun c hc => ⟨⟨hgl c hc, (R.at_ c hc).1⟩, (R.at_ c hc).2⟩)) (pss_one (ps_ret pe_non)), ?_⟩
  · refine ⟨fun pins s' σ H' D I hh => ?_⟩
    obtain ⟨Ech, hW, h1, h2, h3⟩ := hh
    exact (pss_one (ps_expr (pos := q3) (act W pn xe Ech q1 q2 tk hW))).run pins s' σ H' D I ⟨h1, h2, h3⟩
  · exact ⟨wRef X.K Q l, fun cls d σ' H' z => many_of (fun _ _ z => z) _ hm l z, h0 f, hc, hq⟩
end
end PL

namespace PL
open PySem PySem.Spec L2 LamX
open PyProof.Rows (envOfC)

/-! # refused(lambda: e) by data -/
abbrev nw (l : RefL) : List (Str × Str) := l.map fun c => (c.1, c.2.2)
theorem RefHds.addr {hds : List ExceptHandler} {l : RefL} (h : RefHds hds l) : ∀ {l' : RefL}, nw l' = nw l → RefHds hds l' := by
  induction h with
  | nil =>
    intro l' e
    cases l' with
    | nil => exact .nil
    | cons a r => cases e
  | @cons cn w C hds l j q1 q2 q3 q4 q5 q6 q7 r ih =>
    intro l' e
    cases l' with
    | nil => cases e
    | cons a t =>
      obtain ⟨cn', C', w'⟩ := a
      simp only [nw, List.map_cons, List.cons.injEq, Prod.mk.injEq] at e
      obtain ⟨⟨rfl, rfl⟩, e⟩ := e
      exact .cons (ih e)
/-- the text of such a def -/
def RefTxt (st : Stmt) (ws : List (Str × Str)) : Prop := ∃ (j : Nat) (q1 q2 q3 q4 q5 q6 : Pos) (hds : List ExceptHandler), defBody st = refBody j q1 q2 q3 q4 q5 q6 hds ∧ hds ≠ [] ∧ RefHds hds (ws.map fun c => (c.1, 0, c.2))
def RefK (K : PySem.W.Frag) (mg : Str → Option Value) (ws : List (Str × Str)) : Prop := ∃ l : RefL, nw l = ws ∧ RefC K mg l
def fRef (ws : List (Str × Str)) (g : PX) : PX := fun ρ q _ => g ρ (fun _ => q .non) (fun e => ∃ w d, ws.lookup e.cls = some w ∧ e.arg = some (("given" : Str), d) ∧ q (.lst [.str w, d]))
theorem nw_mem : ∀ {l : RefL} {cn w : Str}, (nw l).lookup cn = some w → ∃ C, (cn, C, w) ∈ l
  | [], _, _, h => by simp [nw] at h
  | (c, C, w) :: r, cn, w', h => by
    simp only [nw, List.map_cons, List.lookup_cons] at h
    by_cases e : cn = c
    · subst e
      simp at h
      subst h
      exact ⟨C, List.mem_cons_self ..⟩
    · rw [show (cn == c) = false by simpa using e] at h
      obtain ⟨C', z⟩ := nw_mem (l := r) h
      exact ⟨C', List.mem_cons_of_mem _ z⟩
theorem wref_of {K : PySem.W.Frag} {mg : Str → Option Value} {Q : VK} {l : RefL} (R : RefC K mg l) {cn w : Str} {c : Value} (hl : (nw l).lookup cn = some w) (hc : mg cn = some c) {dd : Addr} {v : V} {H : Hp} (hx : H dd = some (.xd [("given", v)])) (hq : ∀ p, H p = none → Q (.ref p) (upd H p (.lst [.str w, v]))) : wRef K Q l c (some dd) H := by
  obtain ⟨C, hm⟩ := nw_mem hl
  have e := (R.at_ _ hm).1
  rw [hc] at e
  cases e
  have go : ∀ r : RefL, (∀ z ∈ r, z ∈ l) → (cn, C, w) ∈ r → wRef K Q r (.ref C) (some dd) H := by
    intro r
    induction r with
    | nil => intro _ z; cases z
    | cons b r ih =>
      intro hs hin
      obtain ⟨cb, Cb, wb⟩ := b
      have hbl := hs (cb, Cb, wb) (List.mem_cons_self ..)
      refine ⟨_, R.exm _ hm _ hbl, fun hb => ?_, fun hb => ?_⟩
      · have e : C = Cb := of_decide_eq_true hb
        have e2 := R.uni _ hm _ hbl e
        cases e2
        exact ⟨rfl, dd, v, rfl, hx, hq⟩
      · have ne : C ≠ Cb := of_decide_eq_false hb
        refine ih (fun z hz => hs z (List.mem_cons_of_mem _ hz)) ?_
        rcases List.mem_cons.mp hin with z | z
        · cases z; exact (ne rfl).elim
        · exact z
  exact go l (fun _ z => z) hm
section
variable {X : Cx} {W : WY}
theorem d_ref {k : Nat} {name q : Str} {st : Stmt} {Ng : List Str} {ws : List (Str × Str)} {c P : Addr} {params : Arguments} {body : Expr} {scope : Scope} {g : PX} {p lpos pos : Pos} (D : DefE X.K X.mg name st ["act"]) (Sg : FnScope Ng ["act"] (defScope st)) (hNg : Ng[0]? = some ("act" : Str)) (hi : Ng[1]? = some ("e" : Str)) (hva : Vis (defScope st) "act")
    (hle : (defScope st).names.lookup ("e" : Str) = some .local) (txt : RefTxt st ws) (hgl : ∀ c ∈ ws, (defScope st).names.lookup c.1 = some .globalImplicit) (R : RefK X.K X.mg ws) (hg : Gl X name)
    (h1 : TabB X.base X.mg c P) (h2 : X.env.code = .ref c) (h3 : (P, q) ∈ W.T) (h4 : ∀ p ∈ W.T, p.1 = P → p.2 = q) (hgd : X.A.guards = some []) (hr : Room (k + 2) X.A) (L : LamS X.env.scope scope)
    (hbody : ∀ (A : Around) (outer : List Env) (s : Shared) (H : Hp) (E : XK) (f c' : Addr), A.guards = some [] → Room k (A.deeper (lamEnv X scope s.heap.objs.size f c')) → PE (lamCx X A outer s H E scope f c') body (eE X ⟨fun c d _ H' => E c d H', W.T⟩ g))
    (hq : X.env.qual ++ "<lambda>" = q := by rfl) (hdef : defaultsOf params X.env = ([], []) := by rfl)
    (hbind : ∀ (q : Str) (cl : List (Str × Addr)) (pm cv ctv : Value), bindArgs (PySem.W.kla_fn "<lambda>" q params body scope cl pm cv ctv) ⟨[], []⟩ = pure [] := by intros; rfl) (hdb : (name == ("__debug__" : Str)) = false := by decide) :
    PE X (.Call (.Name name p) [.Lambda params body scope lpos] [] pos) (eE X W (fRef ws g)) := by
  obtain ⟨f, fd, ⟨⟨oc, od, kV, doc, pm, an, cdv, ct, osl, rfl, lk, hcd⟩, kp⟩, hm, hb⟩ := D
  obtain ⟨j, q1, q2, q3, q4, q5, q6, hds, hbd, hne, hh⟩ := txt
  obtain ⟨l, el, R⟩ := R
  subst hq
  have hh2 : RefHds hds l := hh.addr (by rw [el, nw, List.map_map]; exact (List.map_id _).symm)
  have hgl2 : ∀ c ∈ l, (defScope st).names.lookup c.1 = some .globalImplicit := fun c hc => hgl (c.1, c.2.2) (by rw [← el]; exact List.mem_map.mpr ⟨c, hc, rfl⟩)
  have hm1 : 1 < Ng.length := (List.getElem?_eq_some_iff.mp hi).1
  have G : GivesTo X Ng name (defScope st) f cdv (defBody st) "act" (X.env.qual ++ "<lambda>") (TTref X.K l) := by
    rw [hbd]
    refine ref_gives hh2 hne Sg.nd hm1 hi hle hgl2 R fun f => ?_
    rfl
  refine PE.weak (pe_lamcallG (T := W.T) (TT := TTref X.K l) (t := fun E => eE X ⟨fun c d _ H' => E c d H', W.T⟩ g) hg hm kp lk hcd hb Sg hNg hva G h1 h2 h3 h4 hr L hdef hbind (fun A outer s H E f c' eg hr => hbody A outer s H E f c' (eg.trans hgd) hr) hdb) fun σ H Q ⟨wl, ρ, q, x, hk, he, hf, hq, hx⟩ => ?_
  have ht : wl.tabs = W.T := hx.1
  refine ⟨by have := hk.tabs; rw [ht] at this; exact this, fun H1 xn t1 => ?_⟩
  have x1 : Ext wl H H1 := lam_ext hk xn (by rw [ht]; exact t1)
  refine ⟨wl, ρ, fun _ => q .non, _, x1.wk, he.ext hk x1, hf, fun d v H' e r z => hq .non .non H' (x1.trans e) rfl z, ht, fun e c dd H' e' xr hz => ?_⟩
  obtain ⟨w, d, z1, z2, z3⟩ := hz
  obtain ⟨hc, ha⟩ := xr
  rw [z2] at ha
  obtain ⟨a, v, rfl, hfr, hax, rv⟩ := ha
  rw [← el] at z1
  refine wref_of R z1 hc hax fun p np => ?_
  have r2 : RpL X.K wl H' [.str w, d] [.str w, v] := ⟨_, _, rfl, rfl, v, [], rfl, rv, rfl⟩
  obtain ⟨e3, r3⟩ := new_lst e'.wk np r2
  exact hq _ _ _ ((x1.trans e').trans e3) r3 z3
end
end PL

namespace PL
open PySem PySem.Spec L2
open PyProof.Rows

/-! # t[::-1], t a tuple -/
section
variable {prog : Program} {w : World} {A : Around} {E : Value → Shared → Prop} {s : Shared}
theorem applied_rev {sl : Addr} {u : Tok} {n : Nat} {Q : Int × Int × Nat → Shared → Prop} (hs : s.heap.IsSliceOf sl .none .none (.int (-1) u)) (h : Q ((n : Int) - 1, -1, n) s) : wpAny (model prog w) A (Builtin.Slice.sliceApplied (.ref sl) (pure (n : Int))) Q E s := by
  obtain ⟨os, hos, hcs, hds⟩ := id hs
  unfold Builtin.Slice.sliceApplied Builtin.Slice.sliceFields
  refine wpAny_bind (wpAny_bind (wpAny_field hos hds (x := .none) rfl (wpAny_bind (wpAny_field hos hds (x := .none) rfl (wpAny_bind (wpAny_field hos hds (x := .int (-1) u) rfl (wpAny_pure ?_)))))))
  refine wpAny_bind (slicePart_int ?_)
  show wpAny _ _ (if ((-1 : Int) == 0) = true then _ else _) _ _ s
  rw [if_neg (by decide)]
  refine wpAny_bind (slicePart_none (wpAny_bind (slicePart_none (wpAny_bind (wpAny_pure ?_)))))
  show wpAny _ _ (match Builtin.Slice.sliceAdjust none none (-1) (n : Int) with | (lo, hi) => pure (lo, (-1 : Int), Builtin.Slice.slicePlaces lo hi (-1))) _ _ s
  have e : Builtin.Slice.sliceAdjust none none (-1) (n : Int) = ((n : Int) - 1, -1) := by
    unfold Builtin.Slice.sliceAdjust
    simp
  have e2 : Builtin.Slice.slicePlaces ((n : Int) - 1) (-1) (-1) = n := by
    unfold Builtin.Slice.slicePlaces
    simp
    try omega
  rw [e]
  show wpAny _ _ (pure ((n : Int) - 1, (-1 : Int), Builtin.Slice.slicePlaces ((n : Int) - 1) (-1) (-1))) _ _ s
  rw [e2]
  exact wpAny_pure h
theorem pick_rev (xs : Array Value) : ((List.range xs.size).filterMap fun (m : Nat) => xs[(((xs.size : Int) - 1) + (m : Int) * (-1)).toNat]?) = xs.toList.reverse := by
  have e : ((List.range xs.size).filterMap fun (m : Nat) => xs[(((xs.size : Int) - 1) + (m : Int) * (-1)).toNat]?) = ((List.range xs.size).map fun k => xs.size - 1 - k).filterMap (xs[·]?) := by
    rw [List.filterMap_map]
    congr 1
    funext m
    have z : (((xs.size : Int) - 1) + (m : Int) * (-1)).toNat = xs.size - 1 - m := by omega
    rw [z]; rfl
  rw [e, PySem.W.krv_range, List.filterMap_reverse, PySem.W.krv_all]
theorem getItem_tuple_rev {t sl : Addr} {items : Array Value} {u : Tok} {Q : Value → Shared → Prop} (ht : IsTup s.heap t items) (hs : s.heap.IsSliceOf sl .none .none (.int (-1) u))
    (h : Q (.ref s.heap.objs.size) { s with heap := s.heap.push { cls := .type "tuple", data := .seq items.toList.reverse.toArray } }) (hsz : items.size ≤ sizeLine) : wpAny (model prog w) A (getItem (.ref t) (.ref sl)) Q E s := by
  have htake : sizeOk (.seq items.toList.reverse.toArray) := by
    show items.toList.reverse.toArray.size ≤ sizeLine
    rw [List.size_toArray, List.length_reverse, Array.length_toList]
    exact hsz
  obtain ⟨os, hos, hcs, hds⟩ := id hs
  have hTs : s.TypeIs (.ref sl) "slice" := ⟨os, hos, hcs⟩
  unfold getItem
  try with_reducible refine wpAny_holding ?_
  first | refine wpAny_bind (wpAny_pure ?_) | skip
  refine wpAny_bind (wpAny_sequenceKey ht.typeIs (by decide) ?_)
  refine wpAny_bind (wpAny_callSpecial?_slot (name := Str.ofString "__getitem__") ht.typeIs PyProof.Rows.slot_tuple_getitem
    (wpAny_call_entry PyProof.Rows.slot_tuple_getitem ht.typeIs entry_tuple_getitem ?_ (args_tuple_getitem _ _)))
  show wpAny _ _ (Builtin.Tuple.tupleItemsOf (.ref t) >>= _) _ _ s
  refine wpAny_bind (tupleItemsOf_ ht ?_)
  refine wpAny_bind (wpAny_typeOf hTs ?_)
  rw [if_pos (by decide)]
  refine wpAny_bind (applied_rev hs ?_)
  have hno : ¬ ((((items.size : Int) - 1) == 0 && (-1 : Int) == 1 && items.size == items.size) = true) := by
    rw [show ((-1 : Int) == 1) = false from rfl, Bool.and_false, Bool.false_and]
    decide
  show wpAny _ _ (if (((items.size : Int) - 1) == 0 && (-1 : Int) == 1 && items.size == items.size) = true then _ else _) _ _ s
  rw [if_neg hno, pick_rev]
  first
    | exact wpAny_bind (m := Builtin.Tuple.tupleExact _) (wpAny_newObj_type (wpAny_pure ⟨_, rfl, wpAny_pure h⟩) htake)
    | exact wpAny_bind (m := Builtin.Tuple.tupleExact _) (wpAny_newObj_type (wpAny_bind (wpAny_pure (wpAny_pure ⟨_, rfl, wpAny_pure h⟩))) htake)
    | exact wpAny_bind (wpAny_bind (m := Builtin.Tuple.tupleExact _) (wpAny_newObj_type (wpAny_pure (wpAny_pure ⟨_, rfl, wpAny_pure h⟩)) htake))
    | exact wpAny_bind (wpAny_bind (m := Builtin.Tuple.tupleExact _) (wpAny_newObj_type (wpAny_pure ⟨_, rfl, wpAny_pure h⟩) htake))
end
theorem vals_rev : ∀ {xs : List V} {us : List Value}, Vals xs us → Vals xs.reverse us.reverse := fun {xs us} r => by
  induction r with
  | nil => exact .nil
  | cons h t ih =>
    rw [List.reverse_cons, List.reverse_cons]
    exact ih.append (.cons h .nil)
def tRev (K : PySem.W.Frag) (te : TE) : TE := fun σ H Q => te σ H fun x H1 => ∃ a xs, x = .ref a ∧ SqT K H1 a xs ∧ ∀ p, H1 p = none → Q (.ref p) (upd H1 p (.tup xs.reverse))
theorem pe_rev {X : Cx} {e : Expr} {te : TE} {j : Nat} {p1 p2 p3 pos : Pos} (he : PE X e te) : PE X (.Subscript e (.Slice none none (some (.UnaryOp .USub (.Constant (.int 1) j p1) p2)) p3) pos) (tRev X.K te) := by
  refine ⟨fun pins s σ H Q I h => ?_⟩
  refine Subscript_ (thn (he.run pins s σ H _ I h) fun v s1 ⟨x, H1, I1, r1, a, xs, ex, hx, q⟩ => ?_)
  subst ex
  obtain rfl : v = Value.ref a := r1
  refine wpAny_Slice ?_
  rw [evalPart_none]
  refine wpAny_pure (wpAny_pure ?_)
  rw [evalPart_some]
  refine thn ((pe_un (pos := p2) un_neg (pe_int (i := 1) (j := j) (pos := p1))).run pins s1 σ H1 (fun v H2 => v = .int (-1) ∧ H2 = H1) I1 ⟨1, rfl, rfl, rfl⟩) fun u s2 ⟨v, H2, I2, r2, ev, eH⟩ => ?_
  subst ev; subst eH
  obtain ⟨t, rfl⟩ := r2
  have I3 : Inv X pins σ H2 { s2 with heap := s2.heap.push { cls := .type "slice", data := .fields #[.none, .none, .int (-1) t] } } := I2.kept (t' := s2.toks) fun b ob q => Heap.get?_push_of_some _ q
  obtain ⟨its, r, ht, hz⟩ := I3.tuple hx
  have hlen : its.toArray.size = xs.length := by rw [List.size_toArray]; exact r.length.symm
  show wpAny (model X.prog X.w) X.A (subscriptTail e _ (.ref a) (.ref s2.heap.objs.size)) (EP X pins σ Q) X.xe _
  refine tail_any (ops := [.ref a, .ref s2.heap.objs.size]) ht.typeIs PyProof.Rows.slot_tuple_getitem.lookup (getItem_tuple_rev ht (Heap.IsSliceOf.new ..) ?_ (by rw [hlen]; exact hz)) (by with_unfolding_all rfl)
  refine ⟨.ref _, _, I3.laid (t' := s2.toks) (o := .tup xs.reverse) (fun b ob q => Heap.get?_push_of_some _ q) (Nat.le_refl _) ?_, rfl, q _ (I3.hok.fresh (Nat.le_refl _))⟩
  exact ⟨by rw [List.length_reverse]; exact hz, _, vals_rev r, IsTup.new _ _⟩
def fRev (fe : PX) : PX := fun ρ q x => fe ρ (fun d => ∃ ds, d = .tup ds ∧ q (.tup ds.reverse)) x
theorem rpl_rev {K : PySem.W.Frag} {wl : Wd} {H : Hp} : ∀ {ds : List D} {vs : List V}, RpL K wl H ds vs → RpL K wl H ds.reverse vs.reverse
  | [], _, r => by cases r; rfl
  | d :: ds, _, ⟨v, r, e, p, q⟩ => by
    subst e
    rw [List.reverse_cons, List.reverse_cons]
    exact (rpl_rev q).append ⟨v, [], rfl, p, rfl⟩
theorem d_rev {X : Cx} {W : WY} {e : Expr} {fe : PX} {j : Nat} {p1 p2 p3 pos : Pos} (he : PE X e (eE X W fe)) : PE X (.Subscript e (.Slice none none (some (.UnaryOp .USub (.Constant (.int 1) j p1) p2)) p3) pos) (eE X W (fRev fe)) := by
  refine PE.weak (pe_rev he) fun σ H Q ⟨wl, ρ, q, x, hk, hev, hf, hq, hx⟩ => ?_
  refine ⟨wl, ρ, _, x, hk, hev, hf, fun d v H1 e1 r1 ⟨ds, ed, h1⟩ => ?_, hx⟩
  subst ed
  obtain ⟨a, vs, rfl, s, rv⟩ := r1
  refine ⟨a, vs, rfl, s, fun p np => ?_⟩
  obtain ⟨e2, r2⟩ := new_tup e1.wk np (rpl_rev rv)
  exact hq _ _ _ (e1.trans e2) r2 h1
end PL

namespace PL
open PySem PySem.Spec L2

/-! # x[k] = e, x a list of the def's own -/
section
variable {K : PySem.W.Frag} {wl : Wd} {H : Hp} {p : Addr} {ρ : Ev} {σ : L2.St}
/-- such a list is written -/
theorem wr_ev {xs ys : List D} {vs us : List V} {i : Nat} (hk : Wk wl H) (he : EvR K wl H ρ σ) (hi : ρ[i]? = some (.ow xs)) (hs : σ[i]? = some (some (.ref p))) (h1 : wl.wl ≠ some p ∧ ¬ wl.hid p) (h2 : wl.ow p) (h3 : H p = some (.lst vs)) (r : RpL K wl H ys us) :
    EvR K wl (upd H p (.lst us)) (ρ.set i (.ow ys)) σ := by
  have nf : ¬ wl.fr p := fun z => z.2.2 h2
  have e1 : EvR K wl (upd H p (.lst us)) (ρ.set i .no) (σ.set i (some (.ref p))) := by
    refine ⟨by rw [List.length_set, List.length_set]; exact he.len, fun j c e => ?_, fun j c e => ?_, fun j k ys zs a e1 e2 e3 e4 => ?_⟩
    · rcases sl_get e with ⟨rfl, z⟩ | ⟨n, z⟩
      · cases z
      · obtain ⟨u, a, b⟩ := he.at_ j c z
        exact ⟨u, by rw [List.getElem?_set_ne n]; exact a, Rp.write nf h3 True.intro c u b⟩
    · rcases sl_get e with ⟨rfl, z⟩ | ⟨n, z⟩
      · cases z
      · obtain ⟨a, us, g1, g2, g3, g4, g5⟩ := he.ow j c z
        have na : a ≠ p := fun q => n (he.uni i j xs c p hi z hs (by rw [← q]; exact g1))
        exact ⟨a, us, by rw [List.getElem?_set_ne n]; exact g1, g2, g3, by rw [upd_ne na]; exact g4, RpL.write nf h3 True.intro c us g5⟩
    · rcases sl_get e1 with ⟨rfl, z1⟩ | ⟨n1, z1⟩
      · cases z1
      · rcases sl_get e2 with ⟨rfl, z2⟩ | ⟨n2, z2⟩
        · cases z2
        · rw [List.getElem?_set_ne n1] at e3
          rw [List.getElem?_set_ne n2] at e4
          exact he.uni j k ys zs a z1 z2 e3 e4
  have es : σ.set i (some (.ref p)) = σ := by
    obtain ⟨hl, q⟩ := List.getElem?_eq_some_iff.mp hs
    rw [← q]; exact List.set_getElem_self hl
  have e2 := put_ow (i := i) (p := p) (xs := ys) e1 h1 h2 upd_same (RpL.write nf h3 True.intro _ _ r) fun j zs n e z => by
    rcases sl_get e with ⟨rfl, q⟩ | ⟨m, q⟩
    · cases q
    · rw [List.getElem?_set_ne m] at z
      exact m (he.uni i j xs zs p hi q hs z)
  rw [List.set_set, List.set_set, es] at e2
  exact e2
theorem rpl_set : ∀ {ds : List D} {vs : List V} (k : Nat) {d : D} {v : V}, RpL K wl H ds vs → Rp K wl H d v → RpL K wl H (ds.set k d) (vs.set k v)
  | [], _, k, d, v, r, _ => by cases r; cases k <;> rfl
  | c :: ds, _, 0, d, v, ⟨u, t, e, p, q⟩, h => by subst e; exact ⟨v, t, rfl, h, q⟩
  | c :: ds, _, k + 1, d, v, ⟨u, t, e, p, q⟩, h => by subst e; exact ⟨u, t.set k v, rfl, p, rpl_set k q h⟩
end
section
variable {X : Cx} {W : WY}
def sPut (i k : Nat) (f : PX) : PSt := fun P ρ => ∃ xs, ρ[i]? = some (.ow xs) ∧ f ρ (fun d => k < xs.length ∧ xs.length ≤ LIM ∧ P.nx (ρ.set i (.ow (xs.set k d)))) (P.ex ρ)
theorem ds_put (i k : Nat) {x : Str} {e : Expr} {f : PX} {j : Nat} {px pi ps pos : Pos} (hN : X.N[i]? = some x) (hv : Vis X.env.scope x) (he : PE X e (eE X W f)) (hd : (x == ("__debug__" : Str)) = false := by decide) (hcd : (x == ("__classdict__" : Str)) = false := by decide)
    (ha : ∀ v, assign (.Subscript (.Name x px) (.Constant (.int (k : Nat)) j pi) ps) X.env v = (do
      let ov ← holding [v] (eval (.Name x px) X.env)
      let iv ← holding [v, ov] (eval (.Constant (.int (k : Nat)) j pi) X.env)
      standAt ps
      holding [v, ov, iv] (setItem ov iv v)
      release [v, ov, iv] []) := by intro _; rfl)
    (hs : swapsWithSole [.Subscript (.Name x px) (.Constant (.int (k : Nat)) j pi) ps] e pos.line X.env = pure false := by rfl) (hw : swappedStores [.Subscript (.Name x px) (.Constant (.int (k : Nat)) j pi) ps] e X.env = pure none := by rfl)
    (h1 : (assignEach [.Subscript (.Name x px) (.Constant (.int (k : Nat)) j pi) ps] X.env).map (·.2) = [assign (.Subscript (.Name x px) (.Constant (.int (k : Nat)) j pi) ps) X.env] := by rfl) :
    PS X (.Assign [.Subscript (.Name x px) (.Constant (.int (k : Nat)) j pi) ps] e pos) (eS X W (sPut i k f)) := by
  refine PS.weak (ps_asg he (pg_sub (pe_var (i := i) hN hv hd hcd) pe_int set_list ha) hs hw h1) fun En σ H ⟨wl, ρ, P, hk, hev, ⟨xs, hi, h⟩, r⟩ => ?_
  obtain ⟨p, vs, hs, g1, g2, g3, g4⟩ := hev.ow i xs hi
  refine ⟨wl, ρ, _, P.ex ρ, hk, hev, h, fun d v H1 e1 r1 ⟨hlen, hm, hn⟩ => ?_, r.out hk hev⟩
  have h3' : H1 p = some (.lst vs) := e1.keep _ _ g1.1 g3 (fun _ z => nomatch z)
  have h4' := RpL.ext hk e1 _ _ g4
  refine ⟨.ref p, hs, p, vs, (k : Int), k, rfl, rfl, h3', ?_, ?_⟩
  · rw [h4'.length]
    unfold ixN
    simp
    try omega
  · exact r.nx wl _ σ _ (e1.step.trans (app_step e1.wk g1.1 g2 h3')) (wr_ev e1.wk (hev.ext hk e1) hi hs g1 g2 h3' (rpl_set k h4' r1)) hn
end
end PL

namespace PL
open PySem PySem.Spec L2
open PySem.W (ks_superIn ksFn)

/-! # errors of the top; the end of a law whose defs make lambdas -/
/-- the class c, with the field f, in the written part -/
def ErrE (P : Program) (K : PySem.W.Frag) (mg : Str → Option Value) (c f : Str) : Prop := ∃ C : Addr, (mg c = some (.ref C) ∧ XfC K C ∧ PySem.W.findIn K (.ref C) f = some none) ∧ ∀ (w : World) (base : Heap), ErrC P w K mg base c f C
theorem err_mk {P : Program} {K : PySem.W.Frag} {h : Heap} {mg : Str → Option Value} {c f : Str} {C fI cc cda N : Addr} {nm q qual p file : Str} {tf : Tok} {bs bm : List Value} {sn : List Str} {sub : List Value} {ab : Bool} {col : Option Bool} {dd : Option Addr} {k0 k1 k2 k3 k5 : Option Value}
    {params : Arguments} {scope : Scope} {p1 p2 p3 p4 p5 p6 p7 p8 p9 p10 : Pos} {dV kV doc pm ct oc ccl cl : Value} {an od cdd cld : Option Addr} {osl ccs csl : Array (Option Value)} {vs0 : Array Value} {ar : Arg}
    (X : K.In h) (G : h.Ns mainGlobals mg) (a : PySem.W.nsIn K mainGlobals c = some (some (.ref C)))
    (hc : K.lookup C = some (excClassObj nm q C N bs bm true sn sub ab col dd k0 k1 k2 k3 k5 "ValueError.__new__")) (hb : PySem.HandSPX.refsVE bm = true)
    (sa : PySem.W.findIn K (.ref C) "__setattr__" = some (some (.builtin "object.__setattr__"))) (ex : PySem.W.subIn K (.ref C) (.type "BaseException") = some true) (ty : PySem.W.typeIn K (.ref C) = some (.type "type")) (kc : PySem.W.keepIn K (.ref C) = true)
    (ga : PySem.W.findIn K (.ref C) "__getattribute__" = some (some (.builtin "BaseException.__getattribute__"))) (gg : PySem.W.findIn K (.ref C) "__getattr__" = some none) (hd : PySem.W.hasDictIn K C = true)
    (no : PySem.W.findIn K (.ref C) f = some none) (ii : PySem.W.findIn K (.ref C) "__init__" = some (some (.ref fI))) (ti : PySem.W.typeIn K (.ref fI) = some (.type "function"))
    (lk : K.lookup fI = some ⟨oc, od, .func (ksFn "__init__" qual params (initB p f p1 p2 p3 p4 p5 p6 p7 p8 p9 p10) scope dV kV doc pm an (.ref cda) ct cc), osl⟩) (cd : PySem.W.codeIn K (.ref cda) qual = true)
    (lc : K.lookup cda = some ⟨ccl, cdd, .fields vs0, ccs⟩) (hv : vs0[2]? = some (.str file tf)) (hf : ((P.main.file : Str) == file) = true) (ll : K.lookup cc = some ⟨cl, cld, .cell (some (.ref C)), csl⟩)
    (su : ks_superIn K C C "__init__" = some (some (.builtin "ValueError.__init__"))) (sv : PySem.W.subIn K (.ref C) (.type "ValueError") = some true) (ms : PySem.W.mroIn K C (.ref C) = some true)
    (op : PySem.W.nsIn K cStatics "thirdparty.any" = some none) (ns : PySem.W.nsIn K mainGlobals "super" = some none)
    (S : NdefX.NScope ["self", p, "__class__"] ["self", p] ["__class__"] scope) (ks : scope.names.lookup ("super" : Str) = some .globalImplicit) (hp : (params.posonlyargs ++ params.args).head? = some ar) (ha : ar.arg = "self")
    (tp : (P.main.scope.names.lookup ("super" : Str)).isSome = false) (po : (p3.endLine == p5.line) = true) (pd : (p == ("__debug__" : Str)) = false) (pc : (p == ("__classdict__" : Str)) = false)
    (bi : ∀ us : List Value, us.length = 2 → bindArgs (ksFn "__init__" qual params (initB p f p1 p2 p3 p4 p5 p6 p7 p8 p9 p10) scope dV kV doc pm an (.ref cda) ct cc) ⟨us, []⟩ = pure ((["self", p] : List Str).zip us)) : ErrE P K mg c f := by
  have T : OexC K C := ⟨⟨_, _, _, _, _, _, _, _, _, _, _, _, _, _, _, hc, hb⟩, sa, ex, ty, kc⟩
  refine ⟨C, ⟨PySem.W.mg_of X G a, ⟨ga, gg, ex, hd⟩, no⟩, fun w base => ⟨T, PySem.W.mg_of X G a, ⟨ga, gg, ex, hd⟩, no, fI, _, p, ii, ti, init_ok (k := 0) lk cd lc hv hf ll T su sv ms op (PySem.W.mg_none_of X G ns) no S ks hp ha tp po pd pc, ?_⟩⟩
  exact Binds.all bi
theorem d_raiseE {X : Cx} {W : WY} {c f : Str} {e : Expr} {fe : PX} {p pos pos' : Pos} (E : ErrE X.prog X.K X.mg c f) (hg : Gl X c) (he : PE X e (eE X W fe)) (hc : X.calm = true) (tk : Takes X W.x) (hr : Room 2 X.A)
    (hdb : (c == ("__debug__" : Str)) = false := by decide) (hst : starEach [e] X.env = (false, eval e X.env) :: starEach [] X.env := by rfl) (hpl : (backTo pos (starEach [] X.env)).any (·.1) = false := by rfl) :
    PS X (.Raise (some (.Call (.Name c p) [e] [] pos)) none pos') (eS X W (sRaise c f fe)) := by
  obtain ⟨C, _, E⟩ := E
  exact d_raise (E X.w X.base) hg he hc tk hr hdb hst hpl
/-- the clauses' classes, of the errors -/
theorem ref_k3 {P : Program} {K : PySem.W.Frag} {mg : Str → Option Value} {h : Heap} {c1 c2 c3 w1 w2 w3 : Str} {C1 C2 C3 : Addr} (X : K.In h) (G : h.Ns mainGlobals mg)
    (a1 : PySem.W.nsIn K mainGlobals c1 = some (some (.ref C1))) (a2 : PySem.W.nsIn K mainGlobals c2 = some (some (.ref C2))) (a3 : PySem.W.nsIn K mainGlobals c3 = some (some (.ref C3)))
    (E1 : ErrE P K mg c1 "given") (E2 : ErrE P K mg c2 "given") (E3 : ErrE P K mg c3 "given") (n12 : C1 ≠ C2) (n13 : C1 ≠ C3) (n23 : C2 ≠ C3)
    (m11 : PySem.W.exmOne K (.ref C1) (.ref C1) = some true) (m12 : PySem.W.exmOne K (.ref C1) (.ref C2) = some false) (m13 : PySem.W.exmOne K (.ref C1) (.ref C3) = some false)
    (m21 : PySem.W.exmOne K (.ref C2) (.ref C1) = some false) (m22 : PySem.W.exmOne K (.ref C2) (.ref C2) = some true) (m23 : PySem.W.exmOne K (.ref C2) (.ref C3) = some false)
    (m31 : PySem.W.exmOne K (.ref C3) (.ref C1) = some false) (m32 : PySem.W.exmOne K (.ref C3) (.ref C2) = some false) (m33 : PySem.W.exmOne K (.ref C3) (.ref C3) = some true)
    (d1 : (c1 == ("__debug__" : Str)) = false) (d2 : (c2 == ("__debug__" : Str)) = false) (d3 : (c3 == ("__debug__" : Str)) = false) : RefK K mg [(c1, w1), (c2, w2), (c3, w3)] := by
  have at_ : ∀ {c : Str} {C : Addr}, PySem.W.nsIn K mainGlobals c = some (some (.ref C)) → ErrE P K mg c "given" → (c == ("__debug__" : Str)) = false → mg c = some (.ref C) ∧ XfC K C ∧ PySem.W.findIn K (.ref C) "given" = some none ∧ (c == ("__debug__" : Str)) = false := fun {c C} a E d => by
    have m := PySem.W.mg_of X G a
    obtain ⟨C', ⟨e, xf, no⟩, _⟩ := E
    rw [m] at e
    cases e
    exact ⟨m, xf, no, d⟩
  refine ⟨[(c1, C1, w1), (c2, C2, w2), (c3, C3, w3)], rfl, ⟨fun c hc => ?_, fun c hc c' hc' e => ?_, fun c hc c' hc' => ?_⟩⟩
  · simp only [List.mem_cons, List.not_mem_nil, or_false] at hc
    rcases hc with rfl | rfl | rfl
    · exact at_ a1 E1 d1
    · exact at_ a2 E2 d2
    · exact at_ a3 E3 d3
  · simp only [List.mem_cons, List.not_mem_nil, or_false] at hc hc'
    rcases hc with rfl | rfl | rfl <;> rcases hc' with rfl | rfl | rfl <;> first | rfl | exact absurd e n12 | exact absurd e n13 | exact absurd e n23 | exact absurd e.symm n12 | exact absurd e.symm n13 | exact absurd e.symm n23
  · simp only [List.mem_cons, List.not_mem_nil, or_false] at hc hc'
    rcases hc with rfl | rfl | rfl <;> rcases hc' with rfl | rfl | rfl
    · rw [m11, decide_eq_true rfl]
    · rw [m12, decide_eq_false n12]
    · rw [m13, decide_eq_false n13]
    · rw [m21, decide_eq_false (Ne.symm n12)]
    · rw [m22, decide_eq_true rfl]
    · rw [m23, decide_eq_false n23]
    · rw [m31, decide_eq_false (Ne.symm n13)]
    · rw [m32, decide_eq_false (Ne.symm n23)]
    · rw [m33, decide_eq_true rfl]
/-! ### tables of several defs -/
def tbsL (K : PySem.W.Frag) (names : List (Str × Str)) : List Tb := names.filterMap fun p => (PySem.W.tabIn K p.1).map fun c => ⟨c.1, c.2, p.2⟩
theorem tbsL_mem {K : PySem.W.Frag} {names : List (Str × Str)} {e : Tb} : e ∈ tbsL K names ↔ ∃ p ∈ names, PySem.W.tabIn K p.1 = some (e.co, e.tb) ∧ e.nm = p.2 := by
  unfold tbsL
  rw [List.mem_filterMap]
  constructor
  · rintro ⟨p, hp, h⟩
    obtain ⟨c, hc, rfl⟩ := Option.map_eq_some_iff.mp h
    exact ⟨p, hp, hc, rfl⟩
  · rintro ⟨p, hp, h, e2⟩
    refine ⟨p, hp, ?_⟩
    rw [h, Option.map_some, ← e2]
theorem walk_TL {l : PySem.W.OpenLaw} {n k : Nat} {q : Program} {loose : List Str} {XP : (Str → Option Value) → Heap → Prop} {YP : World → Heap → Prop} {d : DefRec} {K : Params → PySem.W.Frag} {x : Str} (names : List (Str × Str))
    (hn : l.most = some n) (hn2 : n ≤ sizeLine) (hdf : d.params.defaults = []) (hr : Room k callerA) (hY : ∀ (w : World) (h : Heap), YP w h → (K w.params).In h)
    (hT : ∀ w : World, ∀ p ∈ names, ∃ (d : DefRec) (c P : Addr), (PyProof.Rows.recsOf q).find? (fun e => e.name == p.1) = some d ∧ PySem.W.tabIn (K w.params) p.1 = some (c, P) ∧ (K w.params).lookup P = none)
    (F : ∀ (w : World) (mg : Str → Option Value) (fa : Addr) (h : Heap), (K w.params).In h → h.Ns mainGlobals mg → mg d.name = some (.ref fa) →
      ∃ fd : FuncData, (∀ (s : Shared) (u : Value), BindsTo s fd ⟨[u], []⟩ [(x, u)]) ∧ ∀ base : Heap, (K w.params).In base → base.Ns mainGlobals mg → (∀ e ∈ tbsL (K w.params) names, LamX.TabB base mg e.co e.tb) → FnOkG l.prog w (K w.params) mg base (L2.CX l.prog w) k fa fd [x] (spLaw n (tbsL (K w.params) names) (K w.params))) :
    PySem.W.WalkO q loose XP YP l.row.toRowW d [] (fun f vs => PySem.call f vs) := by
  refine walk_T (x := x) (cs := fun w => tbsL (K w.params) names) hn hn2 hdf hr hY (fun w e he => ?_) F
  obtain ⟨p, hp, h1, h2⟩ := tbsL_mem.mp he
  obtain ⟨d2, c, P, g1, g2, g3⟩ := hT w p hp
  rw [h1] at g2
  cases g2
  exact ⟨⟨d2, p.1, g1, h1⟩, g3⟩
theorem lam_atL {K : PySem.W.Frag} {base : Heap} {mg : Str → Option Value} {names : List (Str × Str)} {y q : Str} {c P : Addr} (hB : ∀ e ∈ tbsL K names, LamX.TabB base mg e.co e.tb) (hp : (y, q) ∈ names) (ht : PySem.W.tabIn K y = some (c, P))
    (hD : ∀ p ∈ names, ∀ c', PySem.W.tabIn K p.1 = some (c', P) → p.2 = q) : LamAt base mg (tbsOf (tbsL K names)) (.ref c) q := by
  have hm : (⟨c, P, q⟩ : Tb) ∈ tbsL K names := tbsL_mem.mpr ⟨(y, q), hp, ht, rfl⟩
  refine ⟨c, P, hB _ hm, rfl, List.mem_map.mpr ⟨_, hm, rfl⟩, fun z hz e => ?_⟩
  obtain ⟨b, hb, rfl⟩ := List.mem_map.mp hz
  obtain ⟨p, hp2, h1, h2⟩ := tbsL_mem.mp hb
  have e : b.tb = P := e
  rw [e] at h1
  exact h2.trans (hD p hp2 _ h1)
end PL


/-! # an own error class called with keywords -/
namespace PL.Kw
open PySem PySem.HandSPX Builtin Builtin.ObjectAttr
section
variable {M : Model} {A : Around} {E : Value → Shared → Prop} {h : Heap} {g : Array GenState} {d : Drawn} {t : Nat} {os : OsState}
variable {nm q : Str} {C N : Addr} {bs bm bmB : List Value} {hdct : Bool} {sn : List Str} {sub : List Value} {ab : Bool} {col : Option Bool} {dd : Option Addr} {k0 k1 k2 k3 k5 : Option Value} {B newId initId : String} {fn : Str} {y : Value}
theorem check_new_kw (F : ExcBaseFacts B newId initId bmB) (hT : ∀ X : String, bm.contains (.type X) = bmB.contains (.type X)) {Q : Unit → Shared → Prop}
    (hC : h.get? C = some (excClassObj nm q C N bs bm hdct sn sub ab col dd k0 k1 k2 k3 k5 newId)) (hq : Q () ⟨h, g, d, t, os⟩) : wpAny M A (checkBuiltinCall newId ⟨[.ref C], [(fn, y)]⟩) Q E ⟨h, g, d, t, os⟩ := by
  have hcont : (Value.ref C :: bm).contains (.type B) = true := by rw [List.contains_cons, hT, F.hasB, Bool.or_true]
  have hstar := F.noStar
  simp only [checkBuiltinCall, F.newKind, F.newSplit, F.newRow]
  repeat (first | refine wpAny_loadPart_at hC ?_ | (refine wpAny_isSubtype_exc hC ?_; rw [hcont]) | refine wpAny_staticBase_exc hC ?_ | refine wpAny_madeBy_exc hC ?_ | simp only [bne_self_eq_false, Bool.false_eq_true, if_false] | wp_step)
  exact hq
end
section
variable {prog : Program} {w : World} {A : Around} {E : Value → Shared → Prop} {R : Result → Shared → Prop} {h : Heap} {g : Array GenState} {d : Drawn} {t : Nat} {os : OsState}
variable {nm q : Str} {C N : Addr} {bs bm bmB : List Value} {hdct : Bool} {sn : List Str} {sub : List Value} {ab : Bool} {col : Option Bool} {dd : Option Addr} {k0 k1 k2 k3 k5 : Option Value} {B newId initId : String} {fn : Str} {y : Value}
theorem new_kw (F : ExcBaseFacts B newId initId bmB) (hT : ∀ X : String, bm.contains (.type X) = bmB.contains (.type X))
    (hC : h.get? C = some (excClassObj nm q C N bs bm hdct sn sub ab col dd k0 k1 k2 k3 k5 newId))
    (hq : R (.ok (.ret (.ref (h.objs.size + 1)))) ⟨(h.push (W.kdv_tup [])).push (excO C h.objs.size), g, d, t, os⟩) :
    codeAny (model prog w) A (.builtin newId ⟨[.ref C], [(fn, y)]⟩) R ⟨h, g, d, t, os⟩ := by
  have hends := F.ends
  have hcB : (Value.ref C :: bm).contains (.type B) = true := by rw [List.contains_cons, hT, F.hasB, Bool.or_true]
  have hcA : (Value.ref C :: bm).contains (.type "AttributeError") = false := by rw [List.contains_cons, hT, F.noAttr]; rfl
  have hcN : (Value.ref C :: bm).contains (.type "NameError") = false := by rw [List.contains_cons, hT, F.noName]; rfl
  refine codeAny_builtinAt F.entry ?_
  unfold Builtin.«BaseException.__new__»
  refine wpAt_bind ?_
  show wpAt _ _ _ (stack >>= _) _ _ _
  refine wpAt_bind (wpAt_stack fun p below => wpAt_of_wpAny ?_)
  wp_walk
  refine wpAt_of_wpAny ?_
  rw [F.owner]
  repeat (first | with_reducible refine wpAny_madeHere_exc F.canon hC ?_ | with_reducible refine wpAny_loadPart_at hC ?_ | (with_reducible refine wpAny_isSubtype_exc hC ?_; first | rw [hcB] | rw [hcA] | rw [hcN]) | wp_step)
  show R _ _
  rw [Heap.size_push]
  exact hq
theorem type_call_kw (F : ExcBaseFacts B newId initId bmB) (hT : ∀ X : String, bm.contains (.type X) = bmB.contains (.type X)) {fI : Addr} {Q : Fin → Shared → Prop}
    (hC : h.get? C = some (excClassObj nm q C N bs bm hdct sn sub ab col dd k0 k1 k2 k3 k5 newId))
    (hi : W.Looks (model prog w) h (typeLookup (.ref C) "__init__") (some (.ref fI))) (hb : ∀ self, W.Looks (model prog w) h (bindSpecial (.ref fI) self) (.ref fI, [self]))
    (hq : codeAny (model prog w) A (.call (.ref fI) ⟨[.ref (h.objs.size + 1)], [(fn, y)]⟩)
      (fun r s' => match r with | .ok (.ret v) => v = .none ∧ Q (.done (.ret (.ref (h.objs.size + 1)))) s' | .ok _ => False | .error e => E e s')
      ⟨(h.push (W.kdv_tup [])).push (excO C h.objs.size), g, d, t, os⟩) :
    wpAny (model prog w) A (Builtin.«type.__call__» ⟨[.ref C], [(fn, y)]⟩) Q E ⟨h, g, d, t, os⟩ := by
  repeat (first | with_reducible refine wpAny_loadPart_at hC ?_ | with_reducible refine wpAny_madeBy_exc hC ?_ | wp_step)
  refine codeAny_call_builtin_code (Code.quiet_builtin _ F.quiet) (check_new_kw F hT hC ?_)
  refine new_kw F hT hC ?_
  show wpAny _ _ _ _ _ _
  have k : ∀ b o, h.get? b = some o → ((h.push (W.kdv_tup [])).push (excO C h.objs.size)).get? b = some o := fun b o e => Heap.get?_push_of_some _ (Heap.get?_push_of_some _ e)
  have hC₁ := k _ _ hC
  have hget : ((h.push (W.kdv_tup [])).push (excO C h.objs.size)).get? (h.objs.size + 1) = some (excO C h.objs.size) := by heap_get
  have hcC : (Value.ref C :: bm).contains (.ref C) = true := by simp
  have i1 := hi.keeps k
  have b1 := (hb (.ref (h.objs.size + 1))).keeps k
  unfold isInstance
  repeat (first | with_reducible refine wpAny_loadPart_at hget ?_ | (with_reducible refine wpAny_isSubtype_exc hC₁ ?_; rw [hcC]) | wp_step)
  show wpAny _ _ (typeLookup (.ref C) _) _ _ _
  refine i1.at ?_
  refine wpAny_holding (wpAny_bind (b1.at ?_))
  refine wpAny_bind (wpAny_call (codeAny_mono hq fun r s' z => ?_))
  rcases r with e | (v | _ | _ | _) <;> first | exact z | exact z.elim | skip
  obtain ⟨rfl, z⟩ := z
  first
    | exact wpAny_pure (wpAny_pure z)
    | (wp_walk; exact z)
theorem check_tc_kw {Q : Unit → Shared → Prop} (hC : h.get? C = some (excClassObj nm q C N bs bm hdct sn sub ab col dd k0 k1 k2 k3 k5 newId))
    (hq : Q () ⟨h, g, d, t, os⟩) : wpAny (model prog w) A (checkBuiltinCall "type.__call__" ⟨[.ref C], [(fn, y)]⟩) Q E ⟨h, g, d, t, os⟩ := by
  have f3 := tc_sub
  have hT : (⟨h, g, d, t, os⟩ : Shared).TypeIs (.ref C) "type" := ⟨_, hC, rfl⟩
  simp only [checkBuiltinCall, tc_kind, tc_split]
  repeat (any_goals (first | assumption | with_reducible refine wpAny_loadPart_at hC ?_ | with_reducible refine wpAny_onRaise ?_ | with_reducible refine wpAny_map ?_ | wp_step))
theorem call_kw (F : ExcBaseFacts B newId initId bmB) (hT : ∀ X : String, bm.contains (.type X) = bmB.contains (.type X)) {fI : Addr}
    (hC : h.get? C = some (excClassObj nm q C N bs bm hdct sn sub ab col dd k0 k1 k2 k3 k5 newId))
    (hi : W.Looks (model prog w) h (typeLookup (.ref C) "__init__") (some (.ref fI))) (hb : ∀ self, W.Looks (model prog w) h (bindSpecial (.ref fI) self) (.ref fI, [self]))
    (hq : codeAny (model prog w) (A.under (.builtin "type.__call__" ⟨[.ref C], [(fn, y)]⟩)) (.call (.ref fI) ⟨[.ref (h.objs.size + 1)], [(fn, y)]⟩) (W.InitBack (h.objs.size + 1) R)
      ⟨(h.push (W.kdv_tup [])).push (excO C h.objs.size), g, d, t, os⟩) :
    codeAny (model prog w) A (.call (.ref C) ⟨[], [(fn, y)]⟩) R ⟨h, g, d, t, os⟩ := by
  have f1 := tc_lookup
  have f2 := tc_bind (.ref C)
  have hTy : (⟨h, g, d, t, os⟩ : Shared).TypeIs (.ref C) "type" := ⟨_, hC, rfl⟩
  refine codeAny_of_tree ?_
  show wpAny _ _ (callAny (.ref C) _) _ _ _
  repeat (any_goals (first | assumption | with_reducible refine wpAny_loadPart_at hC ?_ | wp_step))
  refine ⟨rfl, ?_⟩
  refine codeAny_call_builtin_at (Code.quiet_builtin _ (by decide +kernel)) entry_typeCall (check_tc_kw hC (type_call_kw F hT hC hi hb ?_))
  refine codeAny_mono hq fun r s' z => ?_
  rcases r with e | (v | _ | _ | _) <;> exact z
end
end PL.Kw

namespace PL
open PySem PySem.Spec L2

/-! # an error as a value: C(e), C(f = e), its field, isinstance -/
/-- the class c of errors that keep f, as written at C: what is needed of it -/
structure ErrV (P : Program) (w : World) (K : PySem.W.Frag) (mg : Str → Option Value) (base : Heap) (c f : Str) (C : Addr) : Prop where
  oex : OexC K C
  at_ : mg c = some (.ref C)
  xf : XfC K C
  noF : PySem.W.findIn K (.ref C) f = some none
  ini : ∃ (fI : Addr) (fd : FuncData), PySem.W.findIn K (.ref C) "__init__" = some (some (.ref fI)) ∧ PySem.W.typeIn K (.ref fI) = some (.type "function") ∧ FnOk P w K mg base C8.CX0 1 fI fd ["self", f] (spInit C f) ∧ Binds K fd ["self", f] [] ∧
    ∀ v u : Value, bindArgs fd ⟨[v], [(f, u)]⟩ = pure (((["self", f] : List Str).zip [v, u]))
section
variable {X : Cx} {c f : Str} {C : Addr}
theorem run_oexV {pins : List (Addr × Obj)} {σ : St} {H1 : Hp} {hp : Heap} {g : Array GenState} {dr : Drawn} {tk : Nat} {os : OsState} {args tup : List Value} {kw : List (Str × Value)} {y : V} {u : Value} {Q : VK}
    (oex : OexC X.K C) {fI : Addr} {fd : FuncData} (F1 : FnOk X.prog X.w X.K X.mg X.base C8.CX0 1 fI fd ["self", f] (spInit C f)) (hr : Room 2 X.A)
    (I1 : Inv X pins σ H1 ⟨hp, g, dr, tk, os⟩) (ry : RelV y u) (q : ∀ a dx, H1 a = none → H1 dx = none → dx ≠ a → Q (.ref a) (upd (upd H1 dx (exd dx [(f, y)])) a (exo a C (some dx))))
    (hb : ∀ s : Shared, X.K.In s.heap → BindsTo s fd ⟨.ref (hp.objs.size + 1) :: args, kw⟩ ((["self", f] : List Str).zip [.ref (hp.objs.size + 1), u])) :
    codeAny (model X.prog X.w) (X.A.under (.builtin "type.__call__" ⟨.ref C :: args, kw⟩)) (.call (.ref fI) ⟨.ref (hp.objs.size + 1) :: args, kw⟩)
      (PySem.W.InitBack (hp.objs.size + 1) fun r s' => match r with | .ok (.ret v) => EP X pins σ Q v s' | .ok _ => False | .error e => X.xe e s') ⟨(hp.push (PySem.W.kdv_tup tup)).push (PySem.HandSPX.excO C hp.objs.size), g, dr, tk, os⟩ := by
  have hsz : hp.objs.size ≤ hp.objs.size + 1 := Nat.le_succ _
  have hn : H1 (hp.objs.size + 1) = none := I1.hok.fresh hsz
  have kk : ∀ b o, hp.get? b = some o → ((hp.push (PySem.W.kdv_tup tup)).push (PySem.HandSPX.excO C hp.objs.size)).get? b = some o := fun b o e => Heap.get?_push_of_some _ (Heap.get?_push_of_some _ e)
  have hget : ((hp.push (PySem.W.kdv_tup tup)).push (PySem.HandSPX.excO C hp.objs.size)).get? (hp.objs.size + 1) = some (PySem.HandSPX.excO C hp.objs.size) := by heap_get
  have I2 : Inv X pins σ (upd H1 (hp.objs.size + 1) (exo (hp.objs.size + 1) C none)) ⟨(hp.push (PySem.W.kdv_tup tup)).push (PySem.HandSPX.excO C hp.objs.size), g, dr, tk, os⟩ :=
    I1.laid (t' := tk) (a := hp.objs.size + 1) (o := exo (hp.objs.size + 1) C none) (h' := (hp.push (PySem.W.kdv_tup tup)).push (PySem.HandSPX.excO C hp.objs.size)) kk hsz (exo_ok hget)
  have r2 : Vals [V.ref (hp.objs.size + 1), y] [Value.ref (hp.objs.size + 1), u] := .cons rfl (.cons ry .nil)
  have hsp : spInit C f [V.ref (hp.objs.size + 1), y] (upd H1 (hp.objs.size + 1) (exo (hp.objs.size + 1) C none)) (fun v H2 => v = .non ∧ Q (.ref (hp.objs.size + 1)) H2) (fun _ _ _ => False) := by
    refine ⟨_, y, rfl, upd_same, fun dx n ne => ⟨rfl, ?_⟩⟩
    have hd : H1 dx = none := by
      rw [upd_ne ne] at n
      exact n
    have e : upd (upd (upd H1 (hp.objs.size + 1) (exo (hp.objs.size + 1) C none)) dx (exd dx [(f, y)])) (hp.objs.size + 1) (exo (hp.objs.size + 1) C (some dx)) = upd (upd H1 dx (exd dx [(f, y)])) (hp.objs.size + 1) (exo (hp.objs.size + 1) C (some dx)) := by
      funext b
      by_cases hb1 : b = hp.objs.size + 1
      · rw [hb1, upd_same, upd_same]
      · rw [upd_ne hb1, upd_ne hb1]
        by_cases hb2 : b = dx
        · rw [hb2, upd_same, upd_same]
        · rw [upd_ne hb2, upd_ne hb2, upd_ne hb1]
    rw [e]
    exact q _ _ hn hd ne
  refine codeAny_mono (F1.run _ X.stack _ _ ⟨Value.ref (hp.objs.size + 1) :: args, kw⟩ [Value.ref (hp.objs.size + 1), u] _ _ (fun _ _ _ => False) (hr.make C args kw) (I2.env0.make C args kw) (hb _ I2.kIn) r2 hsp) fun r s' hq' => ?_
  cases r with
  | error er => exact (C8.pass0 : Passes C8.CX0 X (fun _ _ _ => False)) pins σ _ _ er s' I2 hq'
  | ok fl =>
    cases fl with
    | ret u =>
      obtain ⟨v, H', I3, rv, ev, q3⟩ := I2.after hq'
      subst ev
      exact ⟨rv, ⟨V.ref (hp.objs.size + 1), H', I3, rfl, q3⟩⟩
    | next => exact False.elim hq'
    | brk => exact False.elim hq'
    | cont => exact False.elim hq'
/-- C(e): the error stands as a value -/
def tOexV (C : Addr) (f : Str) (te : TE) : TE := fun σ H Q => te σ H fun y H1 => ∀ a dx, H1 a = none → H1 dx = none → dx ≠ a → Q (.ref a) (upd (upd H1 dx (exd dx [(f, y)])) a (exo a C (some dx)))
theorem pe_oexV {e : Expr} {te : TE} {p pos : Pos} (T : ErrV X.prog X.w X.K X.mg X.base c f C) (hg : Gl X c) (he : PE X e te) (hr : Room 2 X.A)
    (hdb : (c == ("__debug__" : Str)) = false := by decide) (hst : starEach [e] X.env = (false, eval e X.env) :: starEach [] X.env := by rfl) (hpl : (backTo pos (starEach [] X.env)).any (·.1) = false := by rfl) :
    PE X (.Call (.Name c p) [e] [] pos) (tOexV C f te) := by
  obtain ⟨oex, hm, xf, noF, fI, fd, iC, tI, F1, hb, _⟩ := T
  refine ⟨fun pins s σ H Q I h => ?_⟩
  obtain ⟨nm, q, N, bs, bm, sn, sub, ab, col, dd, k0, k1, k2, k3, k5, hC, hbm⟩ := oex.cls
  refine wpAny_Call_Name_kw (ld_glob I hg hm ?_ hdb)
  refine PySem.W.callWith_K (h₀ := X.base) I.ok.mod.kin oex.kC (thn ((pa_cons he pa_nil hst).run pos pins s σ H (fun vs H1 => match vs with | [y] => ∀ a dx, H1 a = none → H1 dx = none → dx ≠ a → Q (.ref a) (upd (upd H1 dx (exd dx [(f, y)])) a (exo a C (some dx))) | _ => False) I h) fun us s1 ⟨vs, H1, I1, r1, q1⟩ => ⟨I1.kIn, ?_⟩) hst hpl
  show wpAny _ _ (call (.ref C) us) _ _ _
  rcases vs with _ | ⟨y, _ | ⟨y2, vs⟩⟩
  · exact q1.elim
  rotate_left
  · exact q1.elim
  obtain ⟨u, rfl, ru⟩ := vals1 r1
  obtain ⟨hp, g, dr, tk, os⟩ := s1
  exact wpAny_call (PySem.HandSPX.call_own F.excBase_ValueError (fun Y => PySem.HandSPX.refsVE_contains Y bm hbm) (I1.kIn _ _ hC) (PySem.W.looks_findIn I1.kIn iC) (fun self => PySem.W.bind_fn I1.kIn self tI) (by show 1 ≤ sizeLine; rw [sizeLine_eq]; omega)
    (run_oexV oex F1 hr I1 ru q1 fun s hs => hb s [_, _] hs rfl))
/-- C(f = e) -/
theorem pe_oexK {e : Expr} {te : TE} {p pos kp : Pos} (T : ErrV X.prog X.w X.K X.mg X.base c f C) (hg : Gl X c) (he : PE X e te) (hr : Room 2 X.A)
    (hdb : (c == ("__debug__" : Str)) = false := by decide) (hall : (backToKw pos (keywordEach [⟨some f, e, kp⟩] X.env)).all (·.1.isSome) = true := by rfl)
    (hpl : ((backTo pos (starEach [] X.env)).any (·.1) || (backToKw pos (keywordEach [⟨some f, e, kp⟩] X.env)).any (·.1.isNone)) = false := by rfl) :
    PE X (.Call (.Name c p) [] [⟨some f, e, kp⟩] pos) (tOexV C f te) := by
  obtain ⟨oex, hm, xf, noF, fI, fd, iC, tI, F1, _, hk⟩ := T
  refine ⟨fun pins s σ H Q I h => ?_⟩
  obtain ⟨nm, q, N, bs, bm, sn, sub, ab, col, dd, k0, k1, k2, k3, k5, hC, hbm⟩ := oex.cls
  refine wpAny_Call_Name_kw (ld_glob I hg hm ?_ hdb)
  refine PySem.W.callWith_KW0 (h₀ := X.base) I.ok.mod.kin oex.kC hall (thn ((pk_cons he pk_nil).run pos pins s σ H (fun vs H1 => match vs with | [y] => ∀ a dx, H1 a = none → H1 dx = none → dx ≠ a → Q (.ref a) (upd (upd H1 dx (exd dx [(f, y)])) a (exo a C (some dx))) | _ => False) I h) fun us s1 ⟨vs, H1, I1, r1, q1⟩ => ⟨I1.kIn, ?_⟩) hpl
  rcases vs with _ | ⟨y, _ | ⟨y2, vs⟩⟩
  · exact q1.elim
  rotate_left
  · exact q1.elim
  obtain ⟨u, rfl, ru⟩ := vals1 r1
  obtain ⟨hp, g, dr, tk, os⟩ := s1
  show wpAny _ _ (call (.ref C) [] [(f, u)]) _ _ _
  exact wpAny_call (Kw.call_kw F.excBase_ValueError (fun Y => PySem.HandSPX.refsVE_contains Y bm hbm) (I1.kIn _ _ hC) (PySem.W.looks_findIn I1.kIn iC) (fun self => PySem.W.bind_fn I1.kIn self tI)
    (run_oexV (args := []) (kw := [(f, u)]) oex F1 hr I1 ru q1 fun s hs => .of_eq (hk _ u)))
end
end PL

namespace PL
open PySem PySem.Spec L2

/-! # errors as data -/
def fErr (c f : Str) (fe : PX) : PX := fun ρ q x => fe ρ (fun d => q (.oth (.err c [f]) [d])) x
def fErr0 (c : Str) : PX := fun _ q _ => q (.oth (.err0 c) [])
def fSta (c : Str) : PX := fun _ q _ => q (.oth (.sta c) [])
def fFld (f : Str) (fe : PX) : PX := fun ρ q x => fe ρ (fun d => ∃ (c : Str) (d' : D), d = .oth (.err c [f]) [d'] ∧ q d') x
theorem new_err {K : PySem.W.Frag} {wl : Wd} {H : Hp} {a dx : Addr} {c f : Str} {d : D} {v : V} (hk : Wk wl H) (na : H a = none) (nd : H dx = none) (ne : dx ≠ a) (r : Rp K wl H d v) :
    Ext wl H (upd (upd H dx (exd dx [(f, v)])) a (exo a (clsAt K c) (some dx))) ∧ Rp K wl (upd (upd H dx (exd dx [(f, v)])) a (exo a (clsAt K c) (some dx))) (.oth (.err c [f]) [d]) (.ref a) := by
  have e1 := Ext.new (o := exd dx [(f, v)]) hk nd
  have na1 : upd H dx (exd dx [(f, v)]) a = none := by rw [upd_ne (Ne.symm ne)]; exact na
  have e2 := e1.trans (Ext.new (o := exo a (clsAt K c) (some dx)) e1.wk na1)
  refine ⟨e2, a, dx, [v], rfl, ⟨trivial, fun p hp => ?_⟩, RpL.one (Rp.ext hk e2 _ _ r)⟩
  simp only [Kd.objs, List.mem_cons, List.not_mem_nil, or_false] at hp
  rcases hp with rfl | rfl
  · exact ⟨hk.new na, upd_same⟩
  · exact ⟨hk.new nd, by rw [upd_ne ne]; exact upd_same⟩
section
variable {X : Cx} {W : WY} {c f : Str}
/-- the class c of errors that keep f -/
abbrev ErrN (X : Cx) (c f : Str) : Prop := ErrV X.prog X.w X.K X.mg X.base c f (clsAt X.K c)
theorem errV_weak {e : Expr} {fe : PX} {σ : St} {H : Hp} {Q : VK} (h : eE X W (fErr c f fe) σ H Q) : tOexV (clsAt X.K c) f (eE X W fe) σ H Q := by
  obtain ⟨wl, ρ, q, x, hk, he, hf, hq, hx⟩ := h
  refine ⟨wl, ρ, _, x, hk, he, hf, fun d v H1 e1 r1 h1 a dx na nd ne => ?_, hx⟩
  obtain ⟨e2, r2⟩ := new_err e1.wk na nd ne r1
  exact hq _ _ _ (e1.trans e2) r2 h1
theorem d_errV {e : Expr} {fe : PX} {p pos : Pos} (T : ErrN X c f) (hg : Gl X c) (he : PE X e (eE X W fe)) (hr : Room 2 X.A)
    (hdb : (c == ("__debug__" : Str)) = false := by decide) (hst : starEach [e] X.env = (false, eval e X.env) :: starEach [] X.env := by rfl) (hpl : (backTo pos (starEach [] X.env)).any (·.1) = false := by rfl) :
    PE X (.Call (.Name c p) [e] [] pos) (eE X W (fErr c f fe)) := PE.weak (pe_oexV T hg he hr hdb hst hpl) fun _ _ _ h => errV_weak (e := e) h
theorem d_errK {e : Expr} {fe : PX} {p pos kp : Pos} (T : ErrN X c f) (hg : Gl X c) (he : PE X e (eE X W fe)) (hr : Room 2 X.A)
    (hdb : (c == ("__debug__" : Str)) = false := by decide) (hall : (backToKw pos (keywordEach [⟨some f, e, kp⟩] X.env)).all (·.1.isSome) = true := by rfl)
    (hpl : ((backTo pos (starEach [] X.env)).any (·.1) || (backToKw pos (keywordEach [⟨some f, e, kp⟩] X.env)).any (·.1.isNone)) = false := by rfl) :
    PE X (.Call (.Name c p) [] [⟨some f, e, kp⟩] pos) (eE X W (fErr c f fe)) := PE.weak (pe_oexK T hg he hr hdb hall hpl) fun _ _ _ h => errV_weak (e := e) h
/-- the field of an error that stands as a value -/
def tXfv (K : PySem.W.Frag) (f : Str) (te : TE) : TE := fun σ H Q => te σ H fun x H1 => ∃ (a C dx : Addr) (fs : List (Str × V)) (v : V), x = .ref a ∧ XfC K C ∧ PySem.W.findIn K (.ref C) f = some none ∧ H1 a = some (exo a C (some dx)) ∧ H1 dx = some (exd dx fs) ∧ fs.lookup f = some v ∧ Q v H1
theorem pe_xfv {e : Expr} {te : TE} {pos : Pos} (he : PE X e te) (hb : attributeBase e f X.env (eval e X.env) = eval e X.env := by rfl) : PE X (.Attribute e f pos) (tXfv X.K f te) := by
  refine ⟨fun pins s σ H Q I h => ?_⟩
  refine attr_of hb (thn (he.run pins s σ H _ I h) fun u s1 hh => ?_)
  obtain ⟨x, H1, I1, rx, a, C, dx, fs, v, ex, T, hno, ea, ed, l, q⟩ := hh
  subst ex
  obtain rfl : u = Value.ref a := rx
  obtain ⟨t1, ho⟩ := exo_at I1.hok ea
  obtain ⟨mA, hns, hr⟩ := exd_at I1.hok ed
  obtain ⟨od, hod, hl⟩ := lookIn_ns hns
  obtain ⟨u, hu, ru⟩ := RelO.some_of (v := v) (o := mA f) (by rw [← l]; exact hr f)
  have J : PySem.W.InstAt s1.heap a _ C (some od) := ⟨ho, rfl, rfl, hod⟩
  exact HandSPX.exc_get I1.kIn J T.ga T.gg T.exC (PySem.W.findObj_own T.hdC hno rfl (by rw [hl, hu])) (handed_of ru) ⟨v, H1, I1.tok _, ru, q⟩
/-- the errors that the law tells: what is needed of each -/
structure ErrTab (K : PySem.W.Frag) (mg : Str → Option Value) (cs : List Str) : Prop where
  xf : ∀ c ∈ cs, XfC K (clsAt K c) ∧ ExcC K (clsAt K c)
  no : ∀ c ∈ cs, ∀ f ∈ (["given", "index", "time"] : List Str), PySem.W.findIn K (.ref (clsAt K c)) f = some none
  at_ : ∀ c ∈ ("DueError" : Str) :: cs, mg c = some (.ref (clsAt K c))
  one : ∀ c ∈ cs, ∀ c' ∈ ("DueError" : Str) :: cs, PySem.W.kitOne K (.ref (clsAt K c)) (.ref (clsAt K c')) = some (c == c' || c' == ("DueError" : Str))
  blt : ∀ c ∈ cs, ∀ t ∈ (["ValueError", "TypeError", "LookupError", "ArithmeticError", "AttributeError", "RuntimeError"] : List String), PySem.W.kitOne K (.ref (clsAt K c)) (.type t) = some (t == "ValueError")
theorem d_fld0 {cs : List Str} {e : Expr} {fe : PX} {pos : Pos} (T : ErrTab X.K X.mg cs) (hf : f ∈ (["given", "index", "time"] : List Str)) (he : PE X e (eE X W fe)) (hb : attributeBase e f X.env (eval e X.env) = eval e X.env := by rfl) :
    PE X (.Attribute e f pos) (eE X W fun ρ q x => fe ρ (fun d => ∃ (c : Str) (d' : D), c ∈ cs ∧ d = .oth (.err c [f]) [d'] ∧ q d') x) := by
  refine PE.weak (pe_xfv he hb) fun σ H Q ⟨wl, ρ, q, x, hk, hr, hf', hq, hx⟩ => ?_
  refine ⟨wl, ρ, _, x, hk, hr, hf', fun d v H1 e1 r1 ⟨c, d', hc, ed, h1⟩ => ?_, hx⟩
  subst ed
  obtain ⟨a, b, vs, ev, ⟨_, hs⟩, v', r', evs, rd, er⟩ := r1
  subst er evs
  exact ⟨a, clsAt X.K c, b, [(f, v')], v', ev, (T.xf c hc).1, T.no c hc f hf, (hs (a, exo a (clsAt X.K c) (some b)) (by simp [Kd.objs])).2, (hs (b, exd b ([f].zip [v'])) (by simp [Kd.objs])).2, by simp [List.lookup], hq d' v' H1 e1 rd h1⟩
theorem d_sta {x : Str} {pos : Pos} (hg : Gl X x) (hm : X.mg x = some (.ref (clsAt X.K x))) (hd : (x == ("__debug__" : Str)) = false := by decide) : PE X (.Name x pos) (eE X W (fSta x)) :=
  PE.weak (pe_glob hg hm (v := .ref (clsAt X.K x)) rfl hd) fun σ H Q ⟨wl, ρ, q, x', hk, hr, hf, hq, hx⟩ => hq (.oth (.sta x) []) _ H (.refl hk) ⟨clsAt X.K x, 0, [], rfl, ⟨rfl, fun p hp => by cases hp⟩, rfl⟩ hf
end
end PL

namespace PL
open PySem PySem.Spec L2

/-! # isinstance of errors that stand as values -/
def ErrAt (H : Hp) (a C : Addr) : Prop := (∃ dx fs, H a = some (exo a C (some dx)) ∧ H dx = some (exd dx fs)) ∨ H a = some (ExO (.ref C) a)
theorem errAt_kit {X : Cx} {pins : List (Addr × Obj)} {σ : St} {H : Hp} {s : Shared} {a C : Addr} (I : Inv X pins σ H s) (T : ExcC X.K C) (h : ErrAt H a C) : ∃ P : Heap → Prop, PySem.W.KitX X.K (.ref a) (.ref C) P ∧ P s.heap := by
  have hcl : (PySem.W.clsIn X.K C).isSome = true := by
    obtain ⟨cd, hc, _⟩ := PySem.W.any_some T.hd
    rw [hc] <;> rfl
  rcases h with ⟨dx, fs, ea, ed⟩ | ea
  · obtain ⟨t1, ho⟩ := exo_at I.hok ea
    obtain ⟨mA, hns, _⟩ := exd_at I.hok ed
    obtain ⟨od, es, ep, hod, _⟩ := hns
    exact ⟨_, PySem.W.kitx_exc (od := some od) hcl T.hg T.hk T.hs T.ha T.hn T.ht T.hm, ⟨ho, rfl, rfl, hod⟩⟩
  · obtain ⟨⟨oe, vs, ho, hz, hd, _⟩, _, _⟩ := I.hok a _ ea
    refine ⟨_, PySem.W.kitx_exc (ox := oe) (od := none) hcl T.hg T.hk T.hs T.ha T.hn T.ht T.hm, ⟨ho, hz.1, ?_, ?_⟩⟩
    · unfold PySem.W.notCls
      rw [hd] <;> rfl
    · rw [hz.2]
      trivial
def rIsV (K : PySem.W.Frag) : List V → Hp → VK → Prop := fun xs H Q => ∃ (a C : Addr) (b : Bool), ExcC K C ∧ ErrAt H a C ∧ Q (.bl b) H ∧ ((∃ c cv, xs = [.ref a, c] ∧ ClsV c cv ∧ PySem.W.kitOne K (.ref C) cv = some b) ∨
  ∃ tp cs us, xs = [.ref a, .ref tp] ∧ SqT K H tp cs ∧ Paired ClsV cs us ∧ PySem.W.kitAny K (.ref C) us = some b)
theorem call_isV {X : Cx} : CallR X (.builtin "isinstance") (rIsV X.K) := by
  intro pins s σ H xs us Q I r ⟨a, C, b, T, ha, q, h⟩
  obtain ⟨P, Z, p⟩ := errAt_kit I T ha
  rcases h with ⟨c, cv, rfl, k, e⟩ | ⟨tp, cs, ws, rfl, hT, k, e⟩
  · obtain ⟨u1, u2, rfl, r1, r2⟩ := vals2 r
    have e2 := k.eq r2
    subst e2
    cases (show u1 = Value.ref a from r1)
    exact PySem.W.kia_one Z I.kIn p e (fun z => nomatch z) fun tk => ⟨.bl b, H, I.tok tk, rfl, q⟩
  · obtain ⟨u1, u2, rfl, r1, r2⟩ := vals2 r
    cases (show u1 = Value.ref a from r1)
    cases (show u2 = Value.ref tp from r2)
    obtain ⟨its, rv, ⟨o, h1, h2, n, h3⟩, _⟩ := I.tuple hT
    have e3 := ClsV.all k rv
    subst e3
    obtain ⟨oc, od, dt, sl⟩ := o
    simp only at h2 h3
    subst h2 h3
    exact PySem.W.kia_tup Z I.kIn p h1 e (fun z => nomatch z) fun tk => ⟨.bl b, H, I.tok tk, rfl, q⟩
def errCls : D → Option Str
  | .oth (.err c [_]) [_] => some c
  | .oth (.err0 c) [] => some c
  | _ => none
def bltErrs : List String := ["ValueError", "TypeError", "LookupError", "ArithmeticError", "AttributeError", "RuntimeError"]
def isVG (cs : List Str) : PGc
  | [d, .oth (.sta c') _], q => ∃ c, errCls d = some c ∧ c ∈ cs ∧ c' ∈ ("DueError" : Str) :: cs ∧ q (.bl (c == c' || c' == ("DueError" : Str)))
  | [d, .ty t], q => ∃ c, errCls d = some c ∧ c ∈ cs ∧ t ∈ bltErrs ∧ q (.bl (t == "ValueError"))
  | [d, .tup ts], q => ∃ c, errCls d = some c ∧ c ∈ cs ∧ ∃ ns : List String, ts = ns.map .ty ∧ (∀ t ∈ ns, t ∈ bltErrs) ∧ q (.bl (ns.any fun t => t == "ValueError"))
  | _, _ => False
theorem errCls_at {K : PySem.W.Frag} {wl : Wd} {H : Hp} {d : D} {v : V} {c : Str} (h : errCls d = some c) (r : Rp K wl H d v) : ∃ a, v = .ref a ∧ ErrAt H a (clsAt K c) := by
  unfold errCls at h
  split at h
  · rename_i c0 f d0
    cases h
    obtain ⟨a, b, vs, ev, ⟨_, hs⟩, v', r', evs, rd, er⟩ := r
    subst er evs
    exact ⟨a, ev, .inl ⟨b, _, (hs (a, exo a (clsAt K c) (some b)) (by simp [Kd.objs])).2, (hs (b, exd b ([f].zip [v'])) (by simp [Kd.objs])).2⟩⟩
  · cases h
    obtain ⟨a, b, vs, ev, ⟨_, hs⟩, _⟩ := r
    exact ⟨a, ev, .inr (hs (a, ExO (.ref (clsAt K c)) a) (by simp [Kd.objs])).2⟩
  · cases h
theorem rp_tys {K : PySem.W.Frag} {wl : Wd} {H : Hp} : ∀ {ns : List String} {vs : List V}, RpL K wl H (ns.map D.ty) vs → Paired ClsV vs (ns.map Value.type)
  | [], _, r => by cases r; exact .nil
  | n :: ns, _, ⟨v, t, e, r, q⟩ => by
    subst e
    cases r
    exact .cons (.ty n) (rp_tys q)
theorem kitAny_of {K : PySem.W.Frag} {t : Value} {g : String → Bool} : ∀ {ns : List String}, (∀ n ∈ ns, PySem.W.kitOne K t (.type n) = some (g n)) → PySem.W.kitAny K t (ns.map Value.type) = some (ns.any g)
  | [], _ => rfl
  | n :: ns, h => by
    rw [List.map_cons]
    unfold PySem.W.kitAny
    rw [h n (List.mem_cons_self ..), List.any_cons]
    cases g n with
    | true => rfl
    | false => exact kitAny_of fun m hm => h m (List.mem_cons_of_mem _ hm)
theorem isV_ok {K : PySem.W.Frag} {mg : Str → Option Value} {cs : List Str} (T : ErrTab K mg cs) : CmpC K (rIsV K) (isVG cs) := by
  intro wl H ds vs q Q hk r g hq
  rcases ds with _ | ⟨d, _ | ⟨d2, _ | ⟨d3, ds⟩⟩⟩
  · exact g.elim
  · exact g.elim
  · obtain ⟨v, t, rfl, r, v2, t2, rfl, r2, r'⟩ := r
    cases r'
    cases d2 <;> try exact g.elim
    case oth k ds2 =>
      cases k <;> try exact g.elim
      case sta c' =>
        obtain ⟨c, hc, h1, h2, g⟩ := g
        obtain ⟨a, rfl, ha⟩ := errCls_at hc r
        obtain ⟨a2, _, _, e2, ⟨o2, _⟩, _⟩ := r2
        subst e2
        have o2 : a2 = clsAt K c' := o2
        subst o2
        exact ⟨a, _, _, (T.xf c h1).2, ha, hq (.bl _) _ H (.refl hk) rfl g, .inl ⟨_, _, rfl, .own _, T.one c h1 c' h2⟩⟩
    case ty t =>
      obtain ⟨c, hc, h1, h2, g⟩ := g
      obtain ⟨a, rfl, ha⟩ := errCls_at hc r
      cases r2
      exact ⟨a, _, _, (T.xf c h1).2, ha, hq (.bl _) _ H (.refl hk) rfl g, .inl ⟨_, _, rfl, .ty _, T.blt c h1 t h2⟩⟩
    case tup ts =>
      obtain ⟨c, hc, h1, ns, rfl, h2, g⟩ := g
      obtain ⟨a, rfl, ha⟩ := errCls_at hc r
      obtain ⟨tp, us, rfl, hs, rr⟩ := r2
      exact ⟨a, _, _, (T.xf c h1).2, ha, hq (.bl _) _ H (.refl hk) rfl g, .inr ⟨tp, us, _, rfl, hs, rp_tys rr, kitAny_of fun n hn => T.blt c h1 n (h2 n hn)⟩⟩
  · cases d2 <;> (try exact g.elim)
    rename_i k _
    cases k <;> exact g.elim
end PL

namespace PL
open PySem PySem.Spec L2

/-! # dicts of constants, repr of all that is shown, C() -/
def keyD : Key → PyData
  | .inl i => .int i
  | .inr x => .str x
/-- what repr tells of -/
def showPy : D → PyData
  | .oth (.dct ks) ds => .dict ((ks.map keyD).zip (toPyL ds))
  | d => toPy d
def shownA (d : D) : Str := (showPy d).shown
def showGood : D → Bool
  | .oth (.dct ks) ds => ds.all flat && decide (ks.length = ds.length)
  | d => good d
def showOk (d : D) : Bool := (showPy d).showable && decide ((showPy d).depth ≤ 64) && decide ((showPy d).shown.length ≤ 1000000) && showGood d
section
variable {X : Cx} {W : WY}
theorem flat_reads {K : PySem.W.Frag} {wl : Wd} {H : Hp} {h : Heap} : ∀ {d : D} {v : V} {u : Value}, flat d = true → Rp K wl H d v → RelV v u → Reads h u (toPy d) []
  | .non, _, _, _, r, q => by cases r; cases q; exact .none
  | .bl b, _, _, _, r, q => by cases r; cases q; exact .bool b
  | .int i, _, _, _, r, q => by cases r; obtain ⟨t, rfl⟩ := q; exact .int i t
  | .str x, _, _, _, r, q => by cases r; obtain ⟨t, rfl⟩ := q; exact .str x t
  | .tup _, _, _, g, _, _ => absurd g (by simp [flat])
  | .lst _, _, _, g, _, _ => absurd g (by simp [flat])
  | .well, _, _, g, _, _ => absurd g (by simp [flat])
  | .ty _, _, _, g, _, _ => absurd g (by simp [flat])
  | .scr _, _, _, g, _, _ => absurd g (by simp [flat])
  | .oth _ _, _, _, g, _, _ => absurd g (by simp [flat])
theorem key_reads {h : Heap} {P : Program} {w : World} {k : Key} {u : Value} (e : (mixKind P w).is k u = true) : Reads h u (keyD k) [] := by
  rcases keyIs_shape (show keyIs k u = true from e) with ⟨i, t, rfl, rfl⟩ | ⟨x, t, rfl, rfl⟩
  · exact .int i t
  · exact .str x t
theorem pairs_read {K : PySem.W.Frag} {wl : Wd} {H : Hp} {h : Heap} : ∀ {ks : List Key} {ds : List D} {vs : List V} {kvs : List (Key × Value)}, ks.length = ds.length → ds.all flat = true → RpL K wl H ds vs → KV (ks.zip vs) kvs →
    PyProof.V.PairsRead h keyD kvs ((ks.map keyD).zip (toPyL ds)) []
  | [], [], _, _, _, _, r, q => by cases r; cases q; exact .nil
  | [], _ :: _, _, _, e, _, _, _ => nomatch e
  | _ :: _, [], _, _, e, _, _, _ => nomatch e
  | k :: ks, d :: ds, _, _, e, f, ⟨v, t, ev, r, r'⟩, q => by
    subst ev
    rw [List.all_cons, Bool.and_eq_true] at f
    cases q with
    | @cons p p' ps ps' q1 q2 =>
      obtain ⟨k2, u⟩ := p'
      obtain ⟨rfl, ru⟩ := q1
      exact .cons (as := []) (flat_reads f.1 r ru) (pairs_read (Nat.succ.inj e) f.2 r' q2)
def rReprA (K : PySem.W.Frag) : List V → Hp → VK → Prop := fun vs H Q => ∃ (wl : Wd) (d : D) (v : V), vs = [v] ∧ Rp K wl H d v ∧ showOk d = true ∧ Q (.str (shownA d)) H
theorem showOk_parts {d : D} (h : showOk d = true) : (showPy d).showable = true ∧ (showPy d).depth ≤ 64 ∧ (showPy d).shown.length ≤ 1000000 ∧ showGood d = true := by
  unfold showOk at h
  rw [Bool.and_eq_true, Bool.and_eq_true, Bool.and_eq_true, decide_eq_true_eq, decide_eq_true_eq] at h
  exact ⟨h.1.1.1, h.1.1.2, h.1.2, h.2⟩
mutual
theorem good_noDict : ∀ d : D, good d = true → (toPy d).hasDict = false
  | .non, _ => rfl
  | .bl _, _ => rfl
  | .int _, _ => rfl
  | .str _, _ => rfl
  | .tup xs, h => goodL_noDict xs h
  | .lst xs, h => goodL_noDict xs h
  | .well, h => absurd h (by simp [good])
  | .ty _, h => absurd h (by simp [good])
  | .scr _, h => absurd h (by simp [good])
  | .oth _ _, h => absurd h (by simp [good])
theorem goodL_noDict : ∀ ds : List D, goodL ds = true → PyData.hasDictAll (toPyL ds) = false
  | [], _ => rfl
  | d :: ds, h => by
    have g2 : (good d && goodL ds) = true := h
    rw [Bool.and_eq_true] at g2
    show ((toPy d).hasDict || PyData.hasDictAll (toPyL ds)) = false
    rw [good_noDict d g2.1, goodL_noDict ds g2.2]
    rfl
end
theorem c_reprA (hg : X.A.guards = some []) (hu : X.A.units + 200 < cLine) : CallR X (.builtin "repr") (rReprA X.K) := by
  intro pins s σ H vs us Q I r ⟨wl, d, v, e, rd, ok, q⟩
  subst e
  obtain ⟨u, rfl, ru⟩ := vals1 r
  obtain ⟨h1, h2, h3, h4⟩ := showOk_parts ok
  have e16 : (sizeLine : Nat) = 16777216 := sizeLine_eq
  have seq : ∀ d0 : D, d = d0 → good d0 = true → (∃ a, v = .ref a) → showPy d0 = toPy d0 → wpAny (model X.prog X.w) X.A (call (.builtin "repr") [u]) (EP X pins σ Q) X.xe s := fun d0 e0 g ⟨a, ea⟩ e => by
    subst e0
    subst ea
    obtain ⟨as, rr⟩ := Dp.reads I (toPy d) _ u (Rp.dp d _ g rd) ru
    cases (show u = Value.ref a from ru)
    unfold shownA at q
    rw [e] at h1 h2 h3 q
    exact repr_of_reads' rr h1 (PyData.noDict_hsm (good_noDict d g)) hg (by omega) (fun _ _ e => e) (fun h' u tk hk => ⟨.str (toPy d).shown, H, I.kept hk, ⟨u, rfl⟩, q⟩) (by omega)
  cases d with
  | non =>
    cases rd
    cases (show u = Value.none from ru)
    exact PySem.P.repr_of_none ⟨.str (shownA .non), H, I.tok _, ⟨s.toks, rfl⟩, q⟩
  | bl b =>
    cases rd
    cases (show u = Value.bool b from ru)
    exact PySem.P.repr_of_bool ⟨.str (shownA (.bl b)), H, I.tok _, ⟨s.toks, by cases b <;> rfl⟩, q⟩
  | int i =>
    cases rd
    obtain ⟨t, rfl⟩ := (show ∃ t, u = Value.int i t from ru)
    exact PySem.P.repr_of_int (of_decide_eq_true h1) ⟨.str (shownA (.int i)), H, I.tok _, ⟨s.toks, rfl⟩, q⟩
  | str x =>
    cases rd
    obtain ⟨t, rfl⟩ := (show ∃ t, u = Value.str x t from ru)
    exact PySem.P.repr_of_str ⟨.str (shownA (.str x)), H, I.tok _, ⟨s.toks, rfl⟩, q⟩ (by have h3 : (reprText x).length ≤ 1000000 := h3; omega)
  | tup xs => exact seq _ rfl h4 (let ⟨a, _, e, _⟩ := rd; ⟨a, e⟩) rfl
  | lst xs => exact seq _ rfl h4 (let ⟨a, _, e, _⟩ := rd; ⟨a, e⟩) rfl
  | well => exact absurd h4 (by simp [showGood, good])
  | ty n => exact absurd h4 (by simp [showGood, good])
  | scr n => exact absurd h4 (by simp [showGood, good])
  | oth k ds =>
    cases k with
    | err c fs => exact absurd h4 (by simp [showGood, good])
    | err0 c => exact absurd h4 (by simp [showGood, good])
    | sta c => exact absurd h4 (by simp [showGood, good])
    | dct ks =>
      have h4 : (ds.all flat && decide (ks.length = ds.length)) = true := h4
      rw [Bool.and_eq_true, decide_eq_true_eq] at h4
      obtain ⟨a, b, vs, ev, ⟨_, hs⟩, rr⟩ := rd
      subst ev
      cases (show u = Value.ref a from ru)
      obtain ⟨_, hd, kvs, kv, dd⟩ := dk_of I.hok (hs (a, .dK (ks.zip vs)) (by simp [Kd.objs])).2
      have rr' := PyProof.V.reads_dictOf (enc := keyD) (fun k key e => key_reads e) dd (pairs_read h4.2 h4.1 rr kv)
      refine repr_of_reads' rr' h1 (fun _ z => ?_) hg (by have : (PyData.dict ((ks.map keyD).zip (toPyL ds))).depth ≤ 64 := h2; omega) (fun _ _ e => e) (fun h' u tk hk => ⟨.str (PyData.dict ((ks.map keyD).zip (toPyL ds))).shown, H, I.kept hk, ⟨u, rfl⟩, q⟩) (by have : (PyData.dict ((ks.map keyD).zip (toPyL ds))).shown.length ≤ 1000000 := h3; omega)
      obtain rfl := List.mem_singleton.mp z
      simp at hd
def reprA : PGc
  | [d], q => showOk d = true ∧ q (.str (shownA d))
  | _, _ => False
theorem reprA_ok {K : PySem.W.Frag} : CmpC K (rReprA K) reprA := by
  intro wl H ds vs q Q hk r g hq
  rcases ds with _ | ⟨d, _ | ⟨d2, ds⟩⟩
  · exact g.elim
  · obtain ⟨v, t, rfl, r, r'⟩ := r
    cases r'
    exact ⟨wl, d, v, rfl, r, g.1, hq (.str _) _ H (.refl hk) rfl g.2⟩
  · exact g.elim
/-! ### dicts -/
def fDct0 : PX := fun _ q _ => q (.oth (.dct []) [])
theorem d_dct0 {pos : Pos} : PE X (.Dict [] [] pos) (eE X W fDct0) := PE.weak pe_dnewK fun σ H Q ⟨wl, ρ, q, x, hk, hr, hf, hq, hx⟩ p hp => by
  have e := Ext.new (o := .dK []) hk hp
  exact hq (.oth (.dct []) []) _ _ e ⟨p, 0, [], rfl, ⟨trivial, fun y hy => by obtain rfl := List.mem_singleton.mp hy; exact ⟨hk.new hp, upd_same⟩⟩, rfl⟩ hf
def fDct1 (k : Str) (i : Int) : PX := fun _ q _ => q (.oth (.dct [.inr k]) [.int i])
theorem d_dct1 {ke ve : Expr} {k : Str} {i : Int} {pos : Pos} (hk : PE X ke (tC (.str k))) (hv : PE X ve (tC (.int i))) : PE X (.Dict [some ke] [ve] pos) (eE X W (fDct1 k i)) :=
  PE.weak (pe_disp (pps_cons hk hv pps_nil) rfl rfl (by simp) (by simp)) fun σ H Q ⟨wl, ρ, q, x, hk, hr, hf, hq, hx⟩ p hp => by
    refine ⟨upd_same, [(.inr k, .int i)], rfl, by simp, ?_⟩
    have e2 : upd (upd H p (.dK [])) p (.dK (mergeK [] [(.inr k, V.int i)])) = upd H p (.dK [(.inr k, V.int i)]) := by
      funext b
      by_cases hb : b = p
      · rw [hb, upd_same, upd_same]; rfl
      · rw [upd_ne hb, upd_ne hb, upd_ne hb]
    rw [e2]
    have e := Ext.new (o := .dK [(.inr k, V.int i)]) hk hp
    exact hq (.oth (.dct [.inr k]) [.int i]) _ _ e ⟨p, 0, [.int i], rfl, ⟨trivial, fun y hy => by obtain rfl := List.mem_singleton.mp hy; exact ⟨hk.new hp, upd_same⟩⟩, RpL.one rfl⟩ hf
/-! ### C() -/
theorem pe_exc0 {C : Addr} {bmB : List Value} {B newId initId : String} {x : Str} {p pos : Pos} (F : ExcBaseFacts B newId initId bmB) (q : PySem.W.excIn X.K C bmB newId = true) (gC : X.mg x = some (.ref C)) (kC : PySem.W.keepIn X.K (.ref C) = true) (hg : Gl X x)
    (hdb : (x == ("__debug__" : Str)) = false := by decide) : PE X (.Call (.Name x p) [] [] pos) (fun σ H Q => ∀ a, H a = none → Q (.ref a) (upd H a (ExO (.ref C) a))) := by
  refine ⟨fun pins s σ H Q I h => ?_⟩
  refine wpAny_Call_Name_kw (ld_glob I hg gC ?_ hdb)
  refine PySem.W.callWith_K0 (K := X.K) I.kIn kC ?_
  show wpAny _ _ (call (.ref C) []) _ _ _
  obtain ⟨bm, N, nm, qn, bs, hdct, sn, sub, ab, col, dd, k0, k1, k2, k3, k5, mN, hC, hN, hni, T⟩ := exc_obj I.kIn q
  refine wpAny_call_exc_subT F T hC hN hni (fun h' a hm => ?_) (by show 0 ≤ sizeLine; omega)
  have hn : H a = none := I.hok.gone hm.new
  obtain ⟨t, ht, _, _⟩ := hm.there
  exact ⟨.ref a, upd H a (ExO (.ref C) a), I.laidN hm.keeps hm.new hn (exO_ok ht ⟨rfl, rfl⟩ rfl rfl rfl (show 4 < 6 by decide)), rfl, h a hn⟩
theorem d_err0 {c : Str} {bmB : List Value} {B newId initId : String} {p pos : Pos} (F : ExcBaseFacts B newId initId bmB) (q : PySem.W.excIn X.K (clsAt X.K c) bmB newId = true) (gC : X.mg c = some (.ref (clsAt X.K c))) (kC : PySem.W.keepIn X.K (.ref (clsAt X.K c)) = true) (hg : Gl X c)
    (hdb : (c == ("__debug__" : Str)) = false := by decide) : PE X (.Call (.Name c p) [] [] pos) (eE X W (fErr0 c)) :=
  PE.weak (pe_exc0 F q gC kC hg hdb) fun σ H Q ⟨wl, ρ, q, x, hk, hr, hf, hq, hx⟩ a ha =>
    hq (.oth (.err0 c) []) _ _ (Ext.new (o := ExO (.ref (clsAt X.K c)) a) hk ha) ⟨a, 0, [], rfl, ⟨trivial, fun y hy => by obtain rfl := List.mem_singleton.mp hy; exact ⟨hk.new ha, upd_same⟩⟩, rfl⟩ hf
end
end PL

namespace PL
open PySem PySem.Spec L2
open PySem.W (ks_superIn ksFn)

/-! # the errors of the top, as values -/
def fFldT (cs : List Str) (f : Str) (fe : PX) : PX := fun ρ q x => fe ρ (fun d => ∃ (c : Str) (d' : D), c ∈ cs ∧ d = .oth (.err c [f]) [d'] ∧ q d') x
theorem d_fld {X : Cx} {W : WY} {f : Str} {cs : List Str} {e : Expr} {fe : PX} {pos : Pos} (T : ErrTab X.K X.mg cs) (hf : f ∈ (["given", "index", "time"] : List Str)) (he : PE X e (eE X W fe)) (hb : attributeBase e f X.env (eval e X.env) = eval e X.env := by rfl) :
    PE X (.Attribute e f pos) (eE X W (fFldT cs f fe)) := d_fld0 T hf he hb
def ErrW (P : Program) (K : PySem.W.Frag) (mg : Str → Option Value) (c f : Str) : Prop := ∀ (w : World) (base : Heap), ErrV P w K mg base c f (clsAt K c)
def ErrZ (K : PySem.W.Frag) (c : Str) : Prop := PySem.W.excIn K (clsAt K c) PySem.HandSPX.veTail "ValueError.__new__" = true ∧ PySem.W.keepIn K (.ref (clsAt K c)) = true
theorem clsAt_eq {K : PySem.W.Frag} {c : Str} {C : Addr} (a : PySem.W.nsIn K mainGlobals c = some (some (.ref C))) : clsAt K c = C := by
  unfold clsAt
  rw [a]
theorem errV_mk {P : Program} {K : PySem.W.Frag} {h : Heap} {mg : Str → Option Value} {c f : Str} {C fI cc cda N : Addr} {nm q qual file : Str} {tf : Tok} {bs bm : List Value} {sn : List Str} {sub : List Value} {ab : Bool} {col : Option Bool} {dd : Option Addr} {k0 k1 k2 k3 k5 : Option Value}
    {params : Arguments} {scope : Scope} {p1 p2 p3 p4 p5 p6 p7 p8 p9 p10 : Pos} {dV kV doc pm ct oc ccl cl : Value} {an od cdd cld : Option Addr} {osl ccs csl : Array (Option Value)} {vs0 : Array Value} {ar : Arg}
    (X : K.In h) (G : h.Ns mainGlobals mg) (a : PySem.W.nsIn K mainGlobals c = some (some (.ref C)))
    (hc : K.lookup C = some (excClassObj nm q C N bs bm true sn sub ab col dd k0 k1 k2 k3 k5 "ValueError.__new__")) (hb : PySem.HandSPX.refsVE bm = true)
    (sa : PySem.W.findIn K (.ref C) "__setattr__" = some (some (.builtin "object.__setattr__"))) (ex : PySem.W.subIn K (.ref C) (.type "BaseException") = some true) (ty : PySem.W.typeIn K (.ref C) = some (.type "type")) (kc : PySem.W.keepIn K (.ref C) = true)
    (ga : PySem.W.findIn K (.ref C) "__getattribute__" = some (some (.builtin "BaseException.__getattribute__"))) (gg : PySem.W.findIn K (.ref C) "__getattr__" = some none) (hd : PySem.W.hasDictIn K C = true)
    (no : PySem.W.findIn K (.ref C) f = some none) (ii : PySem.W.findIn K (.ref C) "__init__" = some (some (.ref fI))) (ti : PySem.W.typeIn K (.ref fI) = some (.type "function"))
    (lk : K.lookup fI = some ⟨oc, od, .func (ksFn "__init__" qual params (initB f f p1 p2 p3 p4 p5 p6 p7 p8 p9 p10) scope dV kV doc pm an (.ref cda) ct cc), osl⟩) (cd : PySem.W.codeIn K (.ref cda) qual = true)
    (lc : K.lookup cda = some ⟨ccl, cdd, .fields vs0, ccs⟩) (hv : vs0[2]? = some (.str file tf)) (hf : ((P.main.file : Str) == file) = true) (ll : K.lookup cc = some ⟨cl, cld, .cell (some (.ref C)), csl⟩)
    (su : ks_superIn K C C "__init__" = some (some (.builtin "ValueError.__init__"))) (sv : PySem.W.subIn K (.ref C) (.type "ValueError") = some true) (ms : PySem.W.mroIn K C (.ref C) = some true)
    (op : PySem.W.nsIn K cStatics "thirdparty.any" = some none) (ns : PySem.W.nsIn K mainGlobals "super" = some none)
    (S : NdefX.NScope ["self", f, "__class__"] ["self", f] ["__class__"] scope) (ks : scope.names.lookup ("super" : Str) = some .globalImplicit) (hp : (params.posonlyargs ++ params.args).head? = some ar) (ha : ar.arg = "self")
    (tp : (P.main.scope.names.lookup ("super" : Str)).isSome = false) (po : (p3.endLine == p5.line) = true) (pd : (f == ("__debug__" : Str)) = false) (pc : (f == ("__classdict__" : Str)) = false)
    (bi : ∀ us : List Value, us.length = 2 → bindArgs (ksFn "__init__" qual params (initB f f p1 p2 p3 p4 p5 p6 p7 p8 p9 p10) scope dV kV doc pm an (.ref cda) ct cc) ⟨us, []⟩ = pure ((["self", f] : List Str).zip us))
    (bk : ∀ v u : Value, bindArgs (ksFn "__init__" qual params (initB f f p1 p2 p3 p4 p5 p6 p7 p8 p9 p10) scope dV kV doc pm an (.ref cda) ct cc) ⟨[v], [(f, u)]⟩ = pure ((["self", f] : List Str).zip [v, u])) : ErrW P K mg c f := by
  have T : OexC K C := ⟨⟨_, _, _, _, _, _, _, _, _, _, _, _, _, _, _, hc, hb⟩, sa, ex, ty, kc⟩
  have e := clsAt_eq a
  intro w base
  rw [e]
  exact ⟨T, PySem.W.mg_of X G a, ⟨ga, gg, ex, hd⟩, no, fI, _, ii, ti, init_ok (k := 0) lk cd lc hv hf ll T su sv ms op (PySem.W.mg_none_of X G ns) no S ks hp ha tp po pd pc, Binds.all bi, bk⟩
/-- what ErrTab asks, as one test of the written part -/
def errB (K : PySem.W.Frag) (cs : List Str) : Bool :=
  (cs.all fun c => decide (PySem.W.findIn K (.ref (clsAt K c)) "__getattribute__" = some (some (.builtin "BaseException.__getattribute__"))) && decide (PySem.W.findIn K (.ref (clsAt K c)) "__getattr__" = some none) &&
    decide (PySem.W.subIn K (.ref (clsAt K c)) (.type "BaseException") = some true) && PySem.W.hasDictIn K (clsAt K c) && decide (PySem.W.findIn K (.ref (clsAt K c)) "__class__" = some (some (.builtin "object.__class__"))) &&
    decide (PySem.W.mroIn K (clsAt K c) (.type "object") = some true) && ((["given", "index", "time"] : List Str).all fun f => decide (PySem.W.findIn K (.ref (clsAt K c)) f = some none)) &&
    (((("DueError" : Str) :: cs).all fun c' => decide (PySem.W.kitOne K (.ref (clsAt K c)) (.ref (clsAt K c')) = some (c == c' || c' == ("DueError" : Str)))) &&
    (bltErrs.all fun t => decide (PySem.W.kitOne K (.ref (clsAt K c)) (.type t) = some (t == "ValueError"))))) &&
  ((("DueError" : Str) :: cs).all fun c => decide (PySem.W.nsIn K mainGlobals c = some (some (.ref (clsAt K c))))) &&
  decide (PySem.W.specialIn K (.builtin "object.__class__") "__get__" = some (some (.builtin "getset_descriptor.__get__"))) && decide (PySem.W.takesIn K (.builtin "object.__class__") = some true)
theorem errTab_mk {K : PySem.W.Frag} {h : Heap} {mg : Str → Option Value} {cs : List Str} (X : K.In h) (G : h.Ns mainGlobals mg) (b : errB K cs = true) : ErrTab K mg cs := by
  unfold errB at b
  simp only [Bool.and_eq_true, List.all_eq_true, decide_eq_true_eq] at b
  obtain ⟨⟨⟨b1, b2⟩, b3⟩, b4⟩ := b
  refine ⟨fun c hc => ?_, fun c hc f hf => ((b1 c hc).1.2 f hf), fun c hc => PySem.W.mg_of X G (b2 c hc), fun c hc c' hc' => (b1 c hc).2.1 c' hc', fun c hc t ht => (b1 c hc).2.2 t ht⟩
  obtain ⟨⟨⟨⟨⟨⟨⟨h1, h2⟩, h3⟩, h4⟩, h5⟩, h6⟩, _⟩, _⟩ := b1 c hc
  exact ⟨⟨h1, h2, h3, h4⟩, ⟨h1, h2, h3, h4, h5, b3, b4, h6⟩⟩
theorem errZ_mk {K : PySem.W.Frag} {c : Str} {C : Addr} (a : PySem.W.nsIn K mainGlobals c = some (some (.ref C))) (q : PySem.W.excIn K C PySem.HandSPX.veTail "ValueError.__new__" = true) (k : PySem.W.keepIn K (.ref C) = true) : ErrZ K c := by
  have e := clsAt_eq a
  unfold ErrZ
  rw [e]
  exact ⟨q, k⟩
end PL

namespace PL
open PySem PySem.Spec L2
open PySem.W (ks_superIn ksFn)

/-! # the end over a head that is read by facts; no def makes a lambda -/
theorem walk_E {l : PySem.W.OpenLaw} {n k : Nat} {q : Program} {loose : List Str} {XP : (Str → Option Value) → Heap → Prop} {YP : World → Heap → Prop} {d : DefRec} {x : Str}
    (hn : l.most = some n) (hn2 : n ≤ sizeLine) (hdf : d.params.defaults = []) (hr : Room k callerA)
    (F : ∀ (w : World) (mg : Str → Option Value) (fa : Addr) (h : Heap), YP w h → h.Ns mainGlobals mg → mg d.name = some (.ref fa) →
      ∃ K : PySem.W.Frag, K.In h ∧ ∃ fd : FuncData, (∀ (s : Shared) (u : Value), BindsTo s fd ⟨[u], []⟩ [(x, u)]) ∧ ∀ base : Heap, K.In base → base.Ns mainGlobals mg → FnOkG l.prog w K mg base (L2.CX l.prog w) k fa fd [x] (spLaw n [] K)) :
    PySem.W.WalkO q loose XP YP l.row.toRowW d [] (fun f vs => PySem.call f vs) := by
  refine Att.attach_call hn hdf fun w s0 s1 mg mb fa o pm cd doc a vs ns G Y ho hd hcd hmg hobj hints hlen hg => ?_
  obtain ⟨K, KX, fd, hb, hF⟩ := F w mg fa _ Y G.T.g hmg
  have T : ∀ c ∈ ([] : List Tb), TbAt K s1.heap c := fun c hc => nomatch hc
  obtain ⟨H, S, ok⟩ := start_at (P := l.prog) (w := w) T KX hobj hints (Nat.le_trans hlen hn2)
  exact law_run S KX G.T.g G.T.b G.T.builtins G.T.nolimit hg G.T.bmain T hobj hr ok (fun base B N _ => hF base B N) hb hlen
/-! ### the errors' facts, read -/
structure EvD where
  c : Str
  f : Str
  qual : Str
  params : Arguments
  body : List Stmt
  scope : Scope
abbrev EvV : Type := Option (Str × Str × Arguments × FuncBody × Scope × Addr × List Str × Value × Addr)
def evObs (K : PySem.W.Frag) (d : EvD) : EvV := match K.lookup (He.ma K (clsAt K d.c) "__init__") with
  | some ⟨_, _, .func fd, _⟩ => some (fd.name, fd.qualname, fd.params, fd.body, fd.scope, fd.globals, fd.closure.map (·.1), fd.defaults, fd.builtins)
  | _ => none
def EvD.val (d : EvD) : EvV := some ("__init__", d.qual, d.params, .stmts d.body, d.scope, mainGlobals, ["__class__"], .none, builtinsNs)
/-- an own class of errors over ValueError -/
def excB (K : PySem.W.Frag) (C : Addr) : Bool := match K.lookup C with
  | some ⟨.type "type", _, .cls cd, sl⟩ => (match cd.mro, sl.toList with
    | .ref C' :: bm, [_, _, _, _, some (.builtin n), _] => C' == C && cd.hasDict && !cd.hasDel && PySem.HandSPX.refsVE bm && n == "ValueError.__new__"
    | _, _ => false)
  | _ => false
theorem excB_ok {K : PySem.W.Frag} {C : Addr} (h : excB K C = true) : ∃ (nm q : Str) (N : Addr) (bs bm : List Value) (sn : List Str) (sub : List Value) (ab : Bool) (col : Option Bool) (dd : Option Addr) (k0 k1 k2 k3 k5 : Option Value),
    K.lookup C = some (excClassObj nm q C N bs bm true sn sub ab col dd k0 k1 k2 k3 k5 "ValueError.__new__") ∧ PySem.HandSPX.refsVE bm = true := by
  unfold excB at h
  split at h
  · rename_i dd cd sl ho
    split at h
    · rename_i C' bm k0 k1 k2 k3 n k5 hm hs
      simp only [Bool.and_eq_true, beq_iff_eq, Bool.not_eq_true'] at h
      obtain ⟨⟨⟨⟨rfl, hd⟩, hdel⟩, hr⟩, rfl⟩ := h
      obtain ⟨nm, bs, mro, ns, qn, hd', sn, sub, ab, col, del⟩ := cd
      dsimp only at hm hdel hd
      subst hm hdel hd
      have hsl : sl = #[k0, k1, k2, k3, some (.builtin "ValueError.__new__"), k5] := by
        obtain ⟨l⟩ := sl
        simp only at hs
        rw [hs]
      subst hsl
      exact ⟨nm, qn, ns, bs, bm, sn, sub, ab, col, dd, k0, k1, k2, k3, k5, ho, hr⟩
    · cases h
  · cases h
def cellB (K : PySem.W.Frag) (C : Addr) (cl : List (Str × Addr)) : Bool := match cl with
  | [(_, cc)] => (match K.lookup cc with
    | some ⟨_, _, .cell (some (.ref C')), _⟩ => C' == C
    | _ => false)
  | _ => false
def fileB (K : PySem.W.Frag) (file : Str) (cd : Value) : Bool := match cd with
  | .ref cda => (match K.lookup cda with
    | some ⟨_, _, .fields vs0, _⟩ => (match (vs0[2]? : Option Value) with
      | some (Value.str f _) => file == f
      | _ => false)
    | _ => false)
  | _ => false
def evFn (K : PySem.W.Frag) (file : Str) (d : EvD) : Bool := match K.lookup (He.ma K (clsAt K d.c) "__init__") with
  | some ⟨_, _, .func fd, _⟩ => cellB K (clsAt K d.c) fd.closure && (PySem.W.codeIn K fd.code d.qual && fileB K file fd.code)
  | _ => false
def evB (K : PySem.W.Frag) (file : Str) (d : EvD) : Bool :=
  He.eqO (PySem.W.nsIn K mainGlobals d.c) (some (some (.ref (clsAt K d.c)))) && (excB K (clsAt K d.c) && (He.eqO (PySem.W.findIn K (.ref (clsAt K d.c)) "__setattr__") (some (some (.builtin "object.__setattr__"))) &&
  (decide (PySem.W.subIn K (.ref (clsAt K d.c)) (.type "BaseException") = some true) && (decide (PySem.W.typeIn K (.ref (clsAt K d.c)) = some (.type "type")) && (PySem.W.keepIn K (.ref (clsAt K d.c)) &&
  (He.eqO (PySem.W.findIn K (.ref (clsAt K d.c)) "__getattribute__") (some (some (.builtin "BaseException.__getattribute__"))) && (He.eqO (PySem.W.findIn K (.ref (clsAt K d.c)) "__getattr__") (some none) && (PySem.W.hasDictIn K (clsAt K d.c) &&
  (He.eqO (PySem.W.findIn K (.ref (clsAt K d.c)) d.f) (some none) && (He.eqO (PySem.W.findIn K (.ref (clsAt K d.c)) "__init__") (some (some (.ref (He.ma K (clsAt K d.c) "__init__")))) &&
  (decide (PySem.W.typeIn K (.ref (He.ma K (clsAt K d.c) "__init__")) = some (.type "function")) && (He.eqO (ks_superIn K (clsAt K d.c) (clsAt K d.c) "__init__") (some (some (.builtin "ValueError.__init__"))) &&
  (decide (PySem.W.subIn K (.ref (clsAt K d.c)) (.type "ValueError") = some true) && (decide (PySem.W.mroIn K (clsAt K d.c) (.ref (clsAt K d.c)) = some true) && evFn K file d))))))))))))))
theorem evFn_ok {K : PySem.W.Frag} {file : Str} {d : EvD} (h : evFn K file d = true) (e : evObs K d = d.val) : ∃ (oc : Value) (od : Option Addr) (osl : Array (Option Value)) (kV doc pm ct : Value) (an : Option Addr) (cda cc : Addr) (cl ccl : Value) (cld cdd : Option Addr) (csl ccs : Array (Option Value)) (vs0 : Array Value) (tf : Tok),
    K.lookup (He.ma K (clsAt K d.c) "__init__") = some ⟨oc, od, .func (ksFn "__init__" d.qual d.params d.body d.scope .none kV doc pm an (.ref cda) ct cc), osl⟩ ∧ PySem.W.codeIn K (.ref cda) d.qual = true ∧ K.lookup cda = some ⟨ccl, cdd, .fields vs0, ccs⟩ ∧ vs0[2]? = some (.str file tf) ∧ K.lookup cc = some ⟨cl, cld, .cell (some (.ref (clsAt K d.c))), csl⟩ := by
  unfold evFn at h
  unfold evObs at e
  split at h
  · rename_i oc od fd osl q
    rw [q] at e
    obtain ⟨n1, n2, n3, n4, n5, n6, n7, n8, n9, n10, n11, n12, n13, n14, n15⟩ := fd
    simp only [Bool.and_eq_true] at h
    obtain ⟨h1, h2, h3⟩ := h
    have e2 : (some (n1, n2, n3, n4, n5, n6, n7.map (·.1), n8, n15) : EvV) = d.val := e
    unfold EvD.val at e2
    simp only [Option.some.injEq, Prod.mk.injEq] at e2
    obtain ⟨rfl, rfl, rfl, rfl, rfl, rfl, e7, rfl, rfl⟩ := e2
    unfold cellB at h1
    split at h1
    · rename_i y cc
      split at h1
      · rename_i cl cld C' csl q2
        obtain rfl := beq_iff_eq.mp h1
        have ey : y = "__class__" := by simpa using e7
        subst ey
        unfold fileB at h3
        split at h3
        · rename_i cda
          split at h3
          · rename_i ccl cdd vs0 ccs q3
            split at h3
            · rename_i f tf q4
              obtain rfl := beq_iff_eq.mp h3
              exact ⟨oc, od, osl, n9, n10, n11, n14, n12, cda, cc, cl, ccl, cld, cdd, csl, ccs, vs0, tf, q, h2, q3, q4, q2⟩
            · cases h3
          · cases h3
        · cases h3
      · cases h1
    · cases h1
  · cases h
theorem errW_of {P : Program} {K : PySem.W.Frag} {h : Heap} {mg : Str → Option Value} {d : EvD} {p1 p2 p3 p4 p5 p6 p7 p8 p9 p10 : Pos} {ar : Arg} (X : K.In h) (G : h.Ns mainGlobals mg) (b : evB K P.main.file d = true) (e : evObs K d = d.val)
    (op : PySem.W.nsIn K cStatics "thirdparty.any" = some none) (ns : PySem.W.nsIn K mainGlobals "super" = some none) (hbd : d.body = initB d.f d.f p1 p2 p3 p4 p5 p6 p7 p8 p9 p10)
    (S : NdefX.NScope ["self", d.f, "__class__"] ["self", d.f] ["__class__"] d.scope) (ks : d.scope.names.lookup ("super" : Str) = some .globalImplicit) (hp : (d.params.posonlyargs ++ d.params.args).head? = some ar) (ha : ar.arg = "self")
    (tp : (P.main.scope.names.lookup ("super" : Str)).isSome = false) (po : (p3.endLine == p5.line) = true) (pd : (d.f == ("__debug__" : Str)) = false) (pc : (d.f == ("__classdict__" : Str)) = false)
    (bi : ∀ (body : List Stmt) (kV doc pm ct cd : Value) (an : Option Addr) (cc : Addr) (us : List Value), us.length = 2 → bindArgs (ksFn "__init__" d.qual d.params body d.scope .none kV doc pm an cd ct cc) ⟨us, []⟩ = pure ((["self", d.f] : List Str).zip us))
    (bk : ∀ (body : List Stmt) (kV doc pm ct cd : Value) (an : Option Addr) (cc : Addr) (v u : Value), bindArgs (ksFn "__init__" d.qual d.params body d.scope .none kV doc pm an cd ct cc) ⟨[v], [(d.f, u)]⟩ = pure ((["self", d.f] : List Str).zip [v, u])) : ErrW P K mg d.c d.f := by
  unfold evB at b
  simp only [Bool.and_eq_true, decide_eq_true_eq] at b
  obtain ⟨b1, b2, b3, b4, b5, b6, b7, b8, b9, b10, b11, b12, b13, b14, b15, b16⟩ := b
  obtain ⟨nm, q, N, bs, bm, sn, sub, ab, col, dd, k0, k1, k2, k3, k5, hc, hb⟩ := excB_ok b2
  obtain ⟨oc, od, osl, kV, doc, pm, ct, an, cda, cc, cl, ccl, cld, cdd, csl, ccs, vs0, tf, lk, cd, lc, hv, ll⟩ := evFn_ok b16 e
  rw [hbd] at lk
  exact errV_mk X G (He.eqO_ok b1) hc hb (He.eqO_ok b3) b4 b5 b6 (He.eqO_ok b7) (He.eqO_ok b8) b9 (He.eqO_ok b10) (He.eqO_ok b11) b12 lk cd lc hv (by simp) ll (He.eqO_ok b13) b14 b15 op ns S ks hp ha tp po pd pc
    (fun us hl => bi _ _ _ _ _ _ _ _ us hl) (fun v u => bk _ _ _ _ _ _ _ _ v u)
end PL

namespace PL
open PySem PySem.Spec L2

/-! # a head's Hook: defs, names, errors -/
/-- what is read on from an object: a dict's values, a class's names, a def's code and cells -/
def refsV (o : Obj) : List Addr := match o.data with
  | .dict es _ => es.toList.flatMap fun e => He.refV e.val
  | .cls cd => [cd.ns]
  | .func fd => He.refV fd.code ++ fd.closure.map (·.2)
  | _ => []
def frV (g : Addr → Option Obj) : Nat → List Addr → List Addr
  | 0, fr => fr
  | n + 1, fr => fr ++ frV g n (fr.flatMap fun a => match g a with
    | some o => refsV o
    | none => [])
def asV (g : Addr → Option Obj) (n : Nat) : List Addr := cStatics :: frV g n [mainGlobals]
/-- what the head tells: He's facts and defs; the errors with a field, those without -/
structure HdV where
  n : Nat
  fa : List He.Fa
  fn : List He.FnD
  file : Str
  cs : List Str
  zs : List Str
  ev : List EvD
abbrev AlV : Type := He.Al × Bool × List EvV
def HdV.chk (v : HdV) (K : PySem.W.Frag) : Bool := errB K v.cs && ((v.zs.all fun c => He.eqO (PySem.W.nsIn K mainGlobals c) (some (some (.ref (clsAt K c)))) && (PySem.W.excIn K (clsAt K c) PySem.HandSPX.veTail "ValueError.__new__" && PySem.W.keepIn K (.ref (clsAt K c)))) &&
  ((v.ev.all fun d => evB K v.file d) && He.eqO (PySem.W.nsIn K cStatics "thirdparty.any") (some none)))
def HdV.obsK (v : HdV) (K : PySem.W.Frag) : AlV := (He.obsE v.fa v.fn K, v.chk K, v.ev.map (evObs K))
def HdV.val (v : HdV) : AlV := (He.valE v.fn, true, v.ev.map EvD.val)
def HdV.obsG (v : HdV) (g : Addr → Option Obj) : AlV := v.obsK (He.frG g (asV g v.n))
def HdV.hook (v : HdV) : PySem.W.Hook where
  α := AlV
  obs := fun s => v.obsG s.heap.get?
  val := fun _ => v.val
  says := fun _ h => ∃ K : PySem.W.Frag, K.In h ∧ v.obsK K = v.val
  of := fun _ _ e => ⟨_, He.frG_in, e⟩
  keeps := fun _ _ _ ⟨K, hK, c⟩ k => ⟨K, PySem.W.Frag.In.keeps hK k, c⟩
def HdV.ob (v : HdV) (s : PySem.W.SharedT) : AlV := v.obsG (HandSHeadRun.getT s)
theorem HdV.ob_eq (v : HdV) (s : PySem.W.SharedT) : v.ob s = v.hook.obs s.abs := by
  have e : HandSHeadRun.getT s = s.abs.heap.get? := funext (HandSHeadRun.getT_eq s)
  unfold HdV.ob
  rw [e] <;> rfl
section
variable {v : HdV} {K : PySem.W.Frag}
theorem HdV.says (c : v.obsK K = v.val) : He.SaysE v.fa v.fn K := congrArg (fun z : AlV => z.1) c
theorem HdV.chk_ok (c : v.obsK K = v.val) : v.chk K = true := congrArg (fun z : AlV => z.2.1) c
theorem HdV.parts (c : v.obsK K = v.val) : errB K v.cs = true ∧ (∀ c ∈ v.zs, ErrZ K c) ∧ (∀ d ∈ v.ev, evB K v.file d = true) ∧ PySem.W.nsIn K cStatics "thirdparty.any" = some none := by
  have h := HdV.chk_ok c
  unfold HdV.chk at h
  simp only [Bool.and_eq_true, List.all_eq_true] at h
  obtain ⟨h1, h2, h3, h4⟩ := h
  exact ⟨h1, fun c hc => ⟨(h2 c hc).2.1, (h2 c hc).2.2⟩, h3, He.eqO_ok h4⟩
theorem HdV.ev_ (c : v.obsK K = v.val) (i : Nat) {d : EvD} (h : v.ev[i]? = some d) : evB K v.file d = true ∧ evObs K d = d.val := by
  refine ⟨(HdV.parts c).2.2.1 d (List.mem_of_getElem? h), ?_⟩
  have e : v.ev.map (evObs K) = v.ev.map EvD.val := congrArg (fun z : AlV => z.2.2) c
  have e2 : (v.ev.map (evObs K))[i]? = (v.ev.map EvD.val)[i]? := by rw [e]
  rw [List.getElem?_map, List.getElem?_map, h] at e2
  exact Option.some.inj e2
end
end PL

namespace K01
open PySem PySem.Spec L2 PL
def topS (i : Nat) : Stmt := PySem.Challenge.pw_plantdue_k01_errors_each_of_its_own.main.body.getD i (.Pass ⟨0, 0, 0, 0⟩)
abbrev s__law_well : Stmt := topS 40
abbrev nm__law_well : List Str := ["script", "lap", "stirred", "cell", "own"]
abbrev pr__law_well : List Str := ["script", "lap"]
theorem sc__law_well : FnScope nm__law_well pr__law_well (defScope s__law_well) := ⟨rfl, rfl, rfl, by decide +kernel, rfl, by decide +kernel, by decide +kernel⟩
abbrev s__law_draw : Stmt := topS 41
abbrev nm__law_draw : List Str := ["well", "limit", "figure", "mixed"]
abbrev pr__law_draw : List Str := ["well", "limit"]
theorem sc__law_draw : FnScope nm__law_draw pr__law_draw (defScope s__law_draw) := ⟨rfl, rfl, rfl, by decide +kernel, rfl, by decide +kernel, by decide +kernel⟩
abbrev s__law_of : Stmt := topS 42
abbrev nm__law_of : List Str := ["well", "some"]
abbrev pr__law_of : List Str := ["well", "some"]
theorem sc__law_of : FnScope nm__law_of pr__law_of (defScope s__law_of) := ⟨rfl, rfl, rfl, by decide +kernel, rfl, by decide +kernel, by decide +kernel⟩
abbrev s__law_is : Stmt := topS 43
abbrev nm__law_is : List Str := ["told", "due"]
abbrev pr__law_is : List Str := ["told", "due"]
theorem sc__law_is : FnScope nm__law_is pr__law_is (defScope s__law_is) := ⟨rfl, rfl, rfl, by decide +kernel, rfl, by decide +kernel, by decide +kernel⟩
abbrev s__law_given : Stmt := topS 44
abbrev nm__law_given : List Str := []
abbrev pr__law_given : List Str := []
theorem sc__law_given : FnScope nm__law_given pr__law_given (defScope s__law_given) := ⟨rfl, rfl, rfl, by decide +kernel, rfl, by decide +kernel, by decide +kernel⟩
abbrev s__law_index : Stmt := topS 45
abbrev nm__law_index : List Str := []
abbrev pr__law_index : List Str := []
theorem sc__law_index : FnScope nm__law_index pr__law_index (defScope s__law_index) := ⟨rfl, rfl, rfl, by decide +kernel, rfl, by decide +kernel, by decide +kernel⟩
abbrev s__law_value : Stmt := topS 46
abbrev nm__law_value : List Str := ["well", "some"]
abbrev pr__law_value : List Str := ["well"]
theorem sc__law_value : FnScope nm__law_value pr__law_value (defScope s__law_value) := ⟨rfl, rfl, rfl, by decide +kernel, rfl, by decide +kernel, by decide +kernel⟩
abbrev s__law_made_a : Stmt := topS 47
abbrev nm__law_made_a : List Str := ["word", "value", "is_named"]
abbrev pr__law_made_a : List Str := ["word", "value", "is_named"]
theorem sc__law_made_a : FnScope nm__law_made_a pr__law_made_a (defScope s__law_made_a) := ⟨rfl, rfl, rfl, by decide +kernel, rfl, by decide +kernel, by decide +kernel⟩
abbrev s__law_made_b : Stmt := topS 48
abbrev nm__law_made_b : List Str := ["word", "value", "is_named"]
abbrev pr__law_made_b : List Str := ["word", "value", "is_named"]
theorem sc__law_made_b : FnScope nm__law_made_b pr__law_made_b (defScope s__law_made_b) := ⟨rfl, rfl, rfl, by decide +kernel, rfl, by decide +kernel, by decide +kernel⟩
abbrev s__law_made_c : Stmt := topS 49
abbrev nm__law_made_c : List Str := ["word", "value", "is_named"]
abbrev pr__law_made_c : List Str := ["word", "value", "is_named"]
theorem sc__law_made_c : FnScope nm__law_made_c pr__law_made_c (defScope s__law_made_c) := ⟨rfl, rfl, rfl, by decide +kernel, rfl, by decide +kernel, by decide +kernel⟩
abbrev s__law_made : Stmt := topS 50
abbrev nm__law_made : List Str := ["word", "value", "is_named", "found"]
abbrev pr__law_made : List Str := ["word", "value", "is_named"]
theorem sc__law_made : FnScope nm__law_made pr__law_made (defScope s__law_made) := ⟨rfl, rfl, rfl, by decide +kernel, rfl, by decide +kernel, by decide +kernel⟩
abbrev s__law_kinds_a : Stmt := topS 51
abbrev nm__law_kinds_a : List Str := ["e", "found"]
abbrev pr__law_kinds_a : List Str := ["e"]
theorem sc__law_kinds_a : FnScope nm__law_kinds_a pr__law_kinds_a (defScope s__law_kinds_a) := ⟨rfl, rfl, rfl, by decide +kernel, rfl, by decide +kernel, by decide +kernel⟩
abbrev s__law_kinds_b : Stmt := topS 52
abbrev nm__law_kinds_b : List Str := ["e", "found"]
abbrev pr__law_kinds_b : List Str := ["e"]
theorem sc__law_kinds_b : FnScope nm__law_kinds_b pr__law_kinds_b (defScope s__law_kinds_b) := ⟨rfl, rfl, rfl, by decide +kernel, rfl, by decide +kernel, by decide +kernel⟩
abbrev s__law_is_own : Stmt := topS 53
abbrev nm__law_is_own : List Str := ["e", "word", "others", "found"]
abbrev pr__law_is_own : List Str := ["e", "word"]
theorem sc__law_is_own : FnScope nm__law_is_own pr__law_is_own (defScope s__law_is_own) := ⟨rfl, rfl, rfl, by decide +kernel, rfl, by decide +kernel, by decide +kernel⟩
abbrev s__law_right : Stmt := topS 54
abbrev nm__law_right : List Str := ["well", "word", "is_named", "value", "e", "kept", "had"]
abbrev pr__law_right : List Str := ["well"]
theorem sc__law_right : FnScope nm__law_right pr__law_right (defScope s__law_right) := ⟨rfl, rfl, rfl, by decide +kernel, rfl, by decide +kernel, by decide +kernel⟩
abbrev s_law : Stmt := topS 55
abbrev nm_law : List Str := ["script", "lap"]
abbrev pr_law : List Str := ["script"]
theorem sc_law : FnScope nm_law pr_law (defScope s_law) := ⟨rfl, rfl, rfl, by decide +kernel, rfl, by decide +kernel, by decide +kernel⟩
structure Top (K : PySem.W.Frag) (mg : Str → Option Value) : Prop where
  f__law_well : DefE K mg "_law_well" s__law_well pr__law_well
  f__law_draw : DefE K mg "_law_draw" s__law_draw pr__law_draw
  f__law_of : DefE K mg "_law_of" s__law_of pr__law_of
  f__law_is : DefE K mg "_law_is" s__law_is pr__law_is
  f__law_given : DefE K mg "_law_given" s__law_given pr__law_given
  f__law_index : DefE K mg "_law_index" s__law_index pr__law_index
  f__law_value : DefE K mg "_law_value" s__law_value pr__law_value
  f__law_made_a : DefE K mg "_law_made_a" s__law_made_a pr__law_made_a
  f__law_made_b : DefE K mg "_law_made_b" s__law_made_b pr__law_made_b
  f__law_made_c : DefE K mg "_law_made_c" s__law_made_c pr__law_made_c
  f__law_made : DefE K mg "_law_made" s__law_made pr__law_made
  f__law_kinds_a : DefE K mg "_law_kinds_a" s__law_kinds_a pr__law_kinds_a
  f__law_kinds_b : DefE K mg "_law_kinds_b" s__law_kinds_b pr__law_kinds_b
  f__law_is_own : DefE K mg "_law_is_own" s__law_is_own pr__law_is_own
  f__law_right : DefE K mg "_law_right" s__law_right pr__law_right
  f_law : DefE K mg "law" s_law pr_law
  n_ArithmeticError : mg "ArithmeticError" = none
  n_AttributeError : mg "AttributeError" = none
  n_LookupError : mg "LookupError" = none
  n_RuntimeError : mg "RuntimeError" = none
  n_TypeError : mg "TypeError" = none
  n_ValueError : mg "ValueError" = none
  n_abs : mg "abs" = none
  n_all : mg "all" = none
  n_divmod : mg "divmod" = none
  n_int : mg "int" = none
  n_isinstance : mg "isinstance" = none
  n_len : mg "len" = none
  n_max : mg "max" = none
  n_min : mg "min" = none
  n_range : mg "range" = none
  n_repr : mg "repr" = none
abbrev ERRS : List Str := [("InvalidText" : Str), ("InvalidCode" : Str), ("InvalidMachine" : Str), ("InvalidImage" : Str), ("InvalidProfile" : Str), ("InvalidExpression" : Str), ("InvalidNumber" : Str), ("InvalidStand" : Str), ("InvalidFlag" : Str), ("InvalidPlan" : Str), ("InvalidStep" : Str), ("InvalidDeed" : Str), ("InvalidPlant" : Str), ("InvalidCourse" : Str), ("InvalidCommand" : Str), ("OutOfRange" : Str), ("UnknownName" : Str), ("TooLong" : Str), ("TooMany" : Str), ("DoesNotFit" : Str), ("NotADesk" : Str), ("InvalidLines" : Str), ("InvalidNumbers" : Str), ("InvalidPasses" : Str), ("InvalidOrder" : Str), ("InvalidRows" : Str), ("InvalidProfiles" : Str), ("InvalidChoices" : Str), ("InvalidLots" : Str), ("InvalidErrors" : Str), ("InvalidCommands" : Str), ("Refused" : Str), ("NotKept" : Str), ("Blind" : Str), ("Endless" : Str), ("NothingToUndo" : Str), ("CannotStrike" : Str)]
structure TopE (P : Program) (K : PySem.W.Frag) (mg : Str → Option Value) : Prop where
  tab : ErrTab K mg ERRS
  v_InvalidText : ErrW P K mg "InvalidText" "given"
  v_InvalidCode : ErrW P K mg "InvalidCode" "given"
  v_InvalidMachine : ErrW P K mg "InvalidMachine" "given"
  v_InvalidImage : ErrW P K mg "InvalidImage" "given"
  v_InvalidProfile : ErrW P K mg "InvalidProfile" "given"
  v_InvalidExpression : ErrW P K mg "InvalidExpression" "given"
  v_InvalidNumber : ErrW P K mg "InvalidNumber" "given"
  v_InvalidStand : ErrW P K mg "InvalidStand" "given"
  v_InvalidFlag : ErrW P K mg "InvalidFlag" "given"
  v_InvalidPlan : ErrW P K mg "InvalidPlan" "given"
  v_InvalidStep : ErrW P K mg "InvalidStep" "given"
  v_InvalidDeed : ErrW P K mg "InvalidDeed" "given"
  v_InvalidPlant : ErrW P K mg "InvalidPlant" "given"
  v_InvalidCourse : ErrW P K mg "InvalidCourse" "given"
  v_InvalidCommand : ErrW P K mg "InvalidCommand" "given"
  v_OutOfRange : ErrW P K mg "OutOfRange" "given"
  v_UnknownName : ErrW P K mg "UnknownName" "given"
  v_TooLong : ErrW P K mg "TooLong" "given"
  v_TooMany : ErrW P K mg "TooMany" "given"
  v_DoesNotFit : ErrW P K mg "DoesNotFit" "given"
  v_NotADesk : ErrW P K mg "NotADesk" "given"
  v_InvalidLines : ErrW P K mg "InvalidLines" "index"
  v_InvalidNumbers : ErrW P K mg "InvalidNumbers" "index"
  v_InvalidPasses : ErrW P K mg "InvalidPasses" "index"
  v_InvalidOrder : ErrW P K mg "InvalidOrder" "index"
  v_InvalidRows : ErrW P K mg "InvalidRows" "index"
  v_InvalidProfiles : ErrW P K mg "InvalidProfiles" "index"
  v_InvalidChoices : ErrW P K mg "InvalidChoices" "index"
  v_InvalidLots : ErrW P K mg "InvalidLots" "index"
  v_InvalidErrors : ErrW P K mg "InvalidErrors" "index"
  v_InvalidCommands : ErrW P K mg "InvalidCommands" "index"
  v_Refused : ErrW P K mg "Refused" "index"
  v_NotKept : ErrW P K mg "NotKept" "time"
  z_Blind : ErrZ K "Blind"
  z_Endless : ErrZ K "Endless"
  z_NothingToUndo : ErrZ K "NothingToUndo"
  z_CannotStrike : ErrZ K "CannotStrike"
end K01

namespace K01
open PySem PySem.Spec L2 PL
/-! # what each def does, by data -/
abbrev givenA : List Str := [("InvalidText" : Str), ("InvalidCode" : Str), ("InvalidMachine" : Str), ("InvalidImage" : Str), ("InvalidProfile" : Str), ("InvalidExpression" : Str), ("InvalidNumber" : Str), ("InvalidStand" : Str), ("InvalidFlag" : Str), ("InvalidPlan" : Str), ("InvalidStep" : Str), ("InvalidDeed" : Str),
  ("InvalidPlant" : Str), ("InvalidCourse" : Str), ("InvalidCommand" : Str), ("NotADesk" : Str), ("OutOfRange" : Str), ("UnknownName" : Str), ("TooLong" : Str), ("TooMany" : Str), ("DoesNotFit" : Str)]
abbrev indexA : List Str := [("InvalidLines" : Str), ("InvalidNumbers" : Str), ("InvalidPasses" : Str), ("InvalidOrder" : Str), ("InvalidRows" : Str), ("InvalidProfiles" : Str), ("InvalidChoices" : Str), ("InvalidLots" : Str), ("InvalidErrors" : Str), ("InvalidCommands" : Str), ("Refused" : Str)]
/-- the field that a class keeps -/
def fldOf (w : Str) : Str := if w ∈ givenA then "given" else if w ∈ indexA then "index" else "time"
abbrev allA : List Str := givenA ++ indexA ++ [("NotKept" : Str)]
abbrev madeA : List Str := [("InvalidText" : Str), ("InvalidCode" : Str), ("InvalidMachine" : Str), ("InvalidImage" : Str), ("InvalidProfile" : Str), ("InvalidExpression" : Str), ("InvalidNumber" : Str), ("InvalidStand" : Str), ("InvalidFlag" : Str), ("InvalidPlan" : Str), ("InvalidStep" : Str), ("InvalidDeed" : Str),
  ("InvalidPlant" : Str), ("InvalidCourse" : Str), ("OutOfRange" : Str), ("UnknownName" : Str), ("TooLong" : Str)]
abbrev madeB : List Str := [("TooMany" : Str), ("DoesNotFit" : Str), ("InvalidLines" : Str), ("InvalidNumbers" : Str), ("InvalidPasses" : Str), ("InvalidOrder" : Str), ("InvalidRows" : Str), ("InvalidProfiles" : Str), ("InvalidChoices" : Str), ("InvalidLots" : Str), ("InvalidErrors" : Str), ("NotKept" : Str)]
abbrev madeC : List Str := [("InvalidCommand" : Str), ("NotADesk" : Str), ("InvalidCommands" : Str), ("Refused" : Str)]
abbrev kindsA : List Str := [("InvalidText" : Str), ("InvalidCode" : Str), ("InvalidMachine" : Str), ("InvalidImage" : Str), ("InvalidProfile" : Str), ("InvalidExpression" : Str), ("InvalidNumber" : Str), ("InvalidStand" : Str), ("InvalidFlag" : Str), ("InvalidPlan" : Str), ("InvalidStep" : Str), ("InvalidDeed" : Str),
  ("InvalidPlant" : Str), ("InvalidCourse" : Str), ("OutOfRange" : Str), ("UnknownName" : Str), ("TooLong" : Str), ("TooMany" : Str), ("DoesNotFit" : Str), ("InvalidLines" : Str)]
abbrev kindsB : List Str := [("InvalidNumbers" : Str), ("InvalidPasses" : Str), ("InvalidOrder" : Str), ("InvalidRows" : Str), ("InvalidProfiles" : Str), ("InvalidChoices" : Str), ("InvalidLots" : Str), ("InvalidErrors" : Str), ("InvalidCommand" : Str), ("NotADesk" : Str), ("InvalidCommands" : Str), ("Refused" : Str), ("Blind" : Str), ("Endless" : Str), ("NothingToUndo" : Str), ("CannotStrike" : Str), ("NotKept" : Str)]
def sp__law_well : PSp := fun ds q _ => ∃ (ns : List Int) (t : Int), ds = [.scr ns, .int t] ∧ ns.length ≤ 63 ∧ 0 ≤ t ∧ ∀ i j k : Int, 0 ≤ i → 0 ≤ j → j < 2147483648 → q (.lst [.int i, .int j, .int k])
def sp__law_draw : PSp := fun ds q _ => ∃ top : Int, ds = [.well, .int top] ∧ 0 < top ∧ top < 1073741824 ∧ ∀ k : Int, 0 ≤ k → k < top → q (.int k)
def sp__law_of : PSp := fun ds q _ => ∃ xs : List D, ds = [.well, .tup xs] ∧ 0 < xs.length ∧ xs.length ≤ 1000 ∧ ∀ d, d ∈ xs → q d
def sp__law_is : PSp := fun ds q _ => ∃ a b : D, ds = [a, b] ∧ showOk a = true ∧ showOk b = true ∧ q (.bl (decide (shownA a = shownA b)))
def sp__law_given : PSp := fun ds q _ => ds = [] ∧ q (.lst (givenA.map .str))
def sp__law_index : PSp := fun ds q _ => ds = [] ∧ q (.lst (indexA.map .str))
def sp__law_value : PSp := fun ds q _ => ds = [.well] ∧ ∀ d, showOk d = true → q d
def spMade (l : List Str) : PSp := fun ds q _ => ∃ (c : Str) (d : D) (b : Bool), ds = [.str c, d, .bl b] ∧ q (if c ∈ l then .oth (.err c [fldOf c]) [d] else .non)
def sp__law_made_a : PSp := spMade madeA
def sp__law_made_b : PSp := spMade madeB
def sp__law_made_c : PSp := spMade madeC
def sp__law_made : PSp := fun ds q _ => ∃ (c : Str) (d : D) (b : Bool), ds = [.str c, d, .bl b] ∧ c ∈ allA ∧ q (.oth (.err c [fldOf c]) [d])
def spKinds (l : List Str) : PSp := fun ds q _ => ∃ (e : D) (c : Str), ds = [e] ∧ errCls e = some c ∧ c ∈ ERRS ∧ q (.lst ((l.filter fun n => c == n).map .str))
def sp__law_kinds_a : PSp := spKinds kindsA
def sp__law_kinds_b : PSp := spKinds kindsB
def sp__law_is_own : PSp := fun ds q _ => ∃ (e : D) (c : Str), ds = [e, .str c] ∧ errCls e = some c ∧ c ∈ ERRS ∧ q (.bl true)
def sp__law_right : PSp := fun ds q _ => ds = [.well] ∧ q (.bl true)
end K01

namespace K01
open PySem PySem.Spec L2 PL
section
variable {P : Program} {w : World} {K : PySem.W.Frag} {mg : Str → Option Value} {base : Heap} {tt : List (Addr × Str)}
def g__law_well : PSt := sSeq (sSet 2 (fBin addG (fC (.int 4960000)) (fBin mulG (fC (.int 5231)) (fVar 1)))) (sSeq (sFor (fItems (fSl (fVar 0) (fNo) (fPart (fC (.int 9))))) (.nm 3) (sSet 2 (fBin modG (fCB toIntG (fCons (fBin addG (fBin addG (fBin mulG (fVar 2) (fC (.int 47521))) (fBin modG (fCB toIntG (fCons (fVar 3) (fNil))) (fC (.int 2147483549)))) (fC (.int 41))) (fNil))) (fC (.int 2147483629))))) (sSeq (sSet 4 (fIf (tB' (fBin ltG (fVar 1) (fCB lenG (fCons (fVar 0) (fNil))))) (fCB toIntG (fCons (fBin ixG (fVar 0) (fVar 1)) (fNil))) (fC (.int 0)))) (sSeq (sSet 2 (fBin modG (fCB toIntG (fCons (fBin addG (fBin addG (fBin mulG (fVar 2) (fC (.int 61))) (fBin mulG (fBin modG (fCB toIntG (fCons (fVar 4) (fNil))) (fC (.int 2147483549))) (fC (.int 16007)))) (fC (.int 17))) (fNil))) (fC (.int 2147483629)))) (sRet (fLst (fCons (fIf (tOr' (tB' (fBin ltG (fVar 4) (fC (.int 0)))) (tB' (fBin geG (fVar 4) (fBin powG (fC (.int 10)) (fC (.int 15)))))) (fCB absG (fCons (fVar 4) (fNil))) (fC (.int 0))) (fCons (fVar 2) (fCons (fC (.int 0)) (fNil)))))))))
theorem body__law_well (T : Top K mg) : ∀ f, Bdy P w K mg base tt 0 "_law_well" s__law_well nm__law_well f g__law_well := fun f cdv A outer s0 H E hr hgd tk hp => (dss_cons (ds_set 2 sc__law_well.nd rfl (by first | exact Or.inl rfl | exact Or.inr rfl) (d_op op_addA add_ok d_int (d_op op_mul mul_ok d_int (d_var 1)))) (dss_cons (ds_for hp rfl (di_seq (d_slice (d_var 0) dp_none (dp_some d_int))) (g_nm 3 sc__law_well.nd rfl (by first | exact Or.inl rfl | exact Or.inr rfl)) (dss_one (ds_set 2 sc__law_well.nd rfl (by first | exact Or.inl rfl | exact Or.inr rfl) (d_op op_mod mod_ok (d_callT call_int1 toInt_ok (by rfl) T.n_int (by decide +kernel) (da_cons (d_op op_addA add_ok (d_op op_addA add_ok (d_op op_mul mul_ok (d_var 2) d_int) (d_op op_mod mod_ok (d_callT call_int1 toInt_ok (by rfl) T.n_int (by decide +kernel) (da_cons (d_var 3) da_nil)) d_int)) d_int) da_nil)) d_int)))) (dss_cons (ds_set 4 sc__law_well.nd rfl (by first | exact Or.inl rfl | exact Or.inr rfl) (d_if (dt_cmp op_lt lt_ok (d_var 1) (d_callB c_len len_ok (by rfl) T.n_len (by decide +kernel) (da_cons (d_var 0) da_nil)) (nomark _)) (d_callT call_int1 toInt_ok (by rfl) T.n_int (by decide +kernel) (da_cons (d_ix ix_seq ix_ok (d_var 0) (d_var 1) (fun _ _ => rfl)) da_nil)) d_int)) (dss_cons (ds_set 2 sc__law_well.nd rfl (by first | exact Or.inl rfl | exact Or.inr rfl) (d_op op_mod mod_ok (d_callT call_int1 toInt_ok (by rfl) T.n_int (by decide +kernel) (da_cons (d_op op_addA add_ok (d_op op_addA add_ok (d_op op_mul mul_ok (d_var 2) d_int) (d_op op_mul mul_ok (d_op op_mod mod_ok (d_callT call_int1 toInt_ok (by rfl) T.n_int (by decide +kernel) (da_cons (d_var 4) da_nil)) d_int) d_int)) d_int) da_nil)) d_int)) (dss_one (ds_ret (d_lst (da_cons (d_if (dw_pt (dw_or (dt_cmp op_lt lt_ok (d_var 4) d_int (nomark _)) (dw_or1 (dt_cmp op_ge ge_ok (d_var 4) (d_op op_pow pow_ok d_int d_int) (nomark _))))) (d_callB call_abs int1_ok (by rfl) T.n_abs (by decide +kernel) (da_cons (d_var 4) da_nil)) d_int) (da_cons (d_var 2) (da_cons d_int da_nil))))))))))
def g__law_draw : PSt := sSeq (sIf (tB' (fBin gtG (fBin ixG (fVar 0) (fC (.int 0))) (fC (.int 0)))) (sSeq (sAsg (.tp [.wl 0 0, .nm 2]) (fCB dmG (fCons (fBin ixG (fVar 0) (fC (.int 0))) (fCons (fVar 1) (fNil))))) (sRet (fVar 2))) (sNil)) (sSeq (sAsg (.wl 0 2) (fBin addG (fBin ixG (fVar 0) (fC (.int 2))) (fC (.int 1)))) (sSeq (sSet 3 (fBin modG (fCB toIntG (fCons (fBin addG (fBin mulG (fBin ixG (fVar 0) (fC (.int 1))) (fC (.int 40009))) (fBin mulG (fC (.int 15013)) (fBin ixG (fVar 0) (fC (.int 2))))) (fNil))) (fC (.int 2147483629)))) (sSeq (sAsg (.wl 0 1) (fBin modG (fCB toIntG (fCons (fBin addG (fBin mulG (fVar 3) (fBin addG (fBin modG (fCB toIntG (fCons (fVar 3) (fNil))) (fC (.int 5003))) (fC (.int 20011)))) (fBin ixG (fVar 0) (fC (.int 2)))) (fNil))) (fC (.int 2147483629)))) (sRet (fBin modG (fCB toIntG (fCons (fBin fdivG (fBin ixG (fVar 0) (fC (.int 1))) (fC (.int 1031))) (fNil))) (fVar 1))))))
theorem body__law_draw (T : Top K mg) : ∀ f, Bdy P w K mg base tt 0 "_law_draw" s__law_draw nm__law_draw f g__law_draw := fun f cdv A outer s0 H E hr hgd tk hp => (dss_cons (ds_if (dt_cmp op_gt gt_ok (d_ix ix_seq ix_ok (d_var 0) d_int (fun _ _ => rfl)) d_int (nomark _)) (dss_cons (ds_asg (d_callB call_divmod dm_ok (by rfl) T.n_divmod (by decide +kernel) (da_cons (d_ix ix_seq ix_ok (d_var 0) d_int (fun _ _ => rfl)) (da_cons (d_var 1) da_nil))) (g_tp rfl (gs_cons (g_wl 0 0) (gs_cons (g_nm 2 sc__law_draw.nd rfl (by first | exact Or.inl rfl | exact Or.inr rfl)) gs_nil)))) (dss_one (ds_ret (d_var 2)))) dss_nil) (dss_cons (ds_asg (d_op op_addA add_ok (d_ix ix_seq ix_ok (d_var 0) d_int (fun _ _ => rfl)) d_int) (g_wl 0 2)) (dss_cons (ds_set 3 sc__law_draw.nd rfl (by first | exact Or.inl rfl | exact Or.inr rfl) (d_op op_mod mod_ok (d_callT call_int1 toInt_ok (by rfl) T.n_int (by decide +kernel) (da_cons (d_op op_addA add_ok (d_op op_mul mul_ok (d_ix ix_seq ix_ok (d_var 0) d_int (fun _ _ => rfl)) d_int) (d_op op_mul mul_ok d_int (d_ix ix_seq ix_ok (d_var 0) d_int (fun _ _ => rfl)))) da_nil)) d_int)) (dss_cons (ds_asg (d_op op_mod mod_ok (d_callT call_int1 toInt_ok (by rfl) T.n_int (by decide +kernel) (da_cons (d_op op_addA add_ok (d_op op_mul mul_ok (d_var 3) (d_op op_addA add_ok (d_op op_mod mod_ok (d_callT call_int1 toInt_ok (by rfl) T.n_int (by decide +kernel) (da_cons (d_var 3) da_nil)) d_int) d_int)) (d_ix ix_seq ix_ok (d_var 0) d_int (fun _ _ => rfl))) da_nil)) d_int) (g_wl 0 1)) (dss_one (ds_ret (d_op op_mod mod_ok (d_callT call_int1 toInt_ok (by rfl) T.n_int (by decide +kernel) (da_cons (d_op op_fdiv fdiv_ok (d_ix ix_seq ix_ok (d_var 0) d_int (fun _ _ => rfl)) d_int) da_nil)) (d_var 1))))))))
def g__law_is : PSt := sRet (fBin eqG (fCB reprA (fCons (fVar 0) (fNil))) (fCB reprA (fCons (fVar 1) (fNil))))
theorem body__law_is (T : Top K mg) : ∀ f, Bdy P w K mg base tt 0 "_law_is" s__law_is nm__law_is f g__law_is := fun f cdv A outer s0 H E hr hgd tk hp => (dss_one (ds_ret (d_cmp (op_eqS hr.units) eq_ok (d_callB (c_reprA hgd (u200 hr)) reprA_ok (by rfl) T.n_repr (by decide +kernel) (da_cons (d_var 0) da_nil)) (d_callB (c_reprA hgd (u200 hr)) reprA_ok (by rfl) T.n_repr (by decide +kernel) (da_cons (d_var 1) da_nil)) (nomark _))))
def g__law_given : PSt := sRet (fLst (fCons (fC (.str "InvalidText")) (fCons (fC (.str "InvalidCode")) (fCons (fC (.str "InvalidMachine")) (fCons (fC (.str "InvalidImage")) (fCons (fC (.str "InvalidProfile")) (fCons (fC (.str "InvalidExpression")) (fCons (fC (.str "InvalidNumber")) (fCons (fC (.str "InvalidStand")) (fCons (fC (.str "InvalidFlag")) (fCons (fC (.str "InvalidPlan")) (fCons (fC (.str "InvalidStep")) (fCons (fC (.str "InvalidDeed")) (fCons (fC (.str "InvalidPlant")) (fCons (fC (.str "InvalidCourse")) (fCons (fC (.str "InvalidCommand")) (fCons (fC (.str "NotADesk")) (fCons (fC (.str "OutOfRange")) (fCons (fC (.str "UnknownName")) (fCons (fC (.str "TooLong")) (fCons (fC (.str "TooMany")) (fCons (fC (.str "DoesNotFit")) (fNil)))))))))))))))))))))))
theorem body__law_given (T : Top K mg) : ∀ f, Bdy P w K mg base tt 0 "_law_given" s__law_given nm__law_given f g__law_given := fun f cdv A outer s0 H E hr hgd tk hp => (dss_one (ds_ret (d_lst (da_cons d_str (da_cons d_str (da_cons d_str (da_cons d_str (da_cons d_str (da_cons d_str (da_cons d_str (da_cons d_str (da_cons d_str (da_cons d_str (da_cons d_str (da_cons d_str (da_cons d_str (da_cons d_str (da_cons d_str (da_cons d_str (da_cons d_str (da_cons d_str (da_cons d_str (da_cons d_str (da_cons d_str da_nil))))))))))))))))))))))))
def g__law_index : PSt := sRet (fLst (fCons (fC (.str "InvalidLines")) (fCons (fC (.str "InvalidNumbers")) (fCons (fC (.str "InvalidPasses")) (fCons (fC (.str "InvalidOrder")) (fCons (fC (.str "InvalidRows")) (fCons (fC (.str "InvalidProfiles")) (fCons (fC (.str "InvalidChoices")) (fCons (fC (.str "InvalidLots")) (fCons (fC (.str "InvalidErrors")) (fCons (fC (.str "InvalidCommands")) (fCons (fC (.str "Refused")) (fNil)))))))))))))
theorem body__law_index (T : Top K mg) : ∀ f, Bdy P w K mg base tt 0 "_law_index" s__law_index nm__law_index f g__law_index := fun f cdv A outer s0 H E hr hgd tk hp => (dss_one (ds_ret (d_lst (da_cons d_str (da_cons d_str (da_cons d_str (da_cons d_str (da_cons d_str (da_cons d_str (da_cons d_str (da_cons d_str (da_cons d_str (da_cons d_str (da_cons d_str da_nil))))))))))))))
def g__law_of : PSt := sRet (fBin ixG (fVar 1) (fCall sp__law_draw (fCons (fVar 0) (fCons (fCB lenG (fCons (fVar 1) (fNil))) (fNil)))))
theorem body__law_of (T : Top K mg) (F__law_draw : FnD P w K mg base tt 1 "_law_draw" s__law_draw pr__law_draw sp__law_draw) : ∀ f, Bdy P w K mg base tt 1 "_law_of" s__law_of nm__law_of f g__law_of := fun f cdv A outer s0 H E hr hgd tk hp => (dss_one (ds_ret (d_ix ix_seq ix_ok (d_var 1) (d_call F__law_draw hgd (hr.mono (by decide)) tk (by rfl) (da_cons (d_var 0) (da_cons (d_callB c_len len_ok (by rfl) T.n_len (by decide +kernel) (da_cons (d_var 1) da_nil)) da_nil))) (fun _ _ => rfl))))
def g__law_value : PSt := sSeq (sSet 1 (fTup (fCons (fC .non) (fCons (fC (.bl true)) (fCons (fC (.bl false)) (fCons (fC (.int 0)) (fCons (fNeg (fC (.int 1))) (fCons (fC (.int 7)) (fCons (fBin powG (fC (.int 10)) (fC (.int 50))) (fCons (fC (.str "")) (fCons (fC (.str "ann")) (fCons (fC (.str " ")) (fCons (fTup (fNil)) (fCons (fTup (fCons (fC (.int 1)) (fCons (fTup (fCons (fC (.str "a")) (fNil))) (fNil)))) (fCons (fLst (fNil)) (fCons (fDct0) (fCons (fLst (fCons (fC (.str "x")) (fNil))) (fCons (fDct1 "a" 1) (fNil))))))))))))))))))) (sRet (fCall sp__law_of (fCons (fVar 0) (fCons (fBin addG (fVar 1) (fTup (fCons (fTup (fCons (fC .non) (fCons (fC (.bl true)) (fNil)))) (fNil)))) (fNil)))))
theorem body__law_value (T : Top K mg) (F__law_of : FnD P w K mg base tt 2 "_law_of" s__law_of pr__law_of sp__law_of) : ∀ f, Bdy P w K mg base tt 2 "_law_value" s__law_value nm__law_value f g__law_value := fun f cdv A outer s0 H E hr hgd tk hp => (dss_cons (ds_set 1 sc__law_value.nd rfl (by first | exact Or.inl rfl | exact Or.inr rfl) (d_tup (da_cons d_non (da_cons d_bl (da_cons d_bl (da_cons d_int (da_cons (d_neg d_int) (da_cons d_int (da_cons (d_op op_pow pow_ok d_int d_int) (da_cons d_str (da_cons d_str (da_cons d_str (da_cons (d_tup da_nil) (da_cons (d_tup (da_cons d_int (da_cons (d_tup (da_cons d_str da_nil)) da_nil))) (da_cons (d_lst da_nil) (da_cons d_dct0 (da_cons (d_lst (da_cons d_str da_nil)) (da_cons (d_dct1 pe_str pe_int) da_nil)))))))))))))))))) (dss_one (ds_ret (d_call F__law_of hgd (hr.mono (by decide)) tk (by rfl) (da_cons (d_var 0) (da_cons (d_op op_addA add_ok (d_var 1) (d_tup (da_cons (d_tup (da_cons d_non (da_cons d_bl da_nil))) da_nil))) da_nil))))))
def g__law_made_a : PSt := sSeq (sIf (tB' (fBin eqG (fVar 0) (fC (.str "InvalidText")))) (sRet (fIf (tB' (fVar 2)) (fErr "InvalidText" "given" (fVar 1)) (fErr "InvalidText" "given" (fVar 1)))) (sNil)) (sSeq (sIf (tB' (fBin eqG (fVar 0) (fC (.str "InvalidCode")))) (sRet (fIf (tB' (fVar 2)) (fErr "InvalidCode" "given" (fVar 1)) (fErr "InvalidCode" "given" (fVar 1)))) (sNil)) (sSeq (sIf (tB' (fBin eqG (fVar 0) (fC (.str "InvalidMachine")))) (sRet (fIf (tB' (fVar 2)) (fErr "InvalidMachine" "given" (fVar 1)) (fErr "InvalidMachine" "given" (fVar 1)))) (sNil)) (sSeq (sIf (tB' (fBin eqG (fVar 0) (fC (.str "InvalidImage")))) (sRet (fIf (tB' (fVar 2)) (fErr "InvalidImage" "given" (fVar 1)) (fErr "InvalidImage" "given" (fVar 1)))) (sNil)) (sSeq (sIf (tB' (fBin eqG (fVar 0) (fC (.str "InvalidProfile")))) (sRet (fIf (tB' (fVar 2)) (fErr "InvalidProfile" "given" (fVar 1)) (fErr "InvalidProfile" "given" (fVar 1)))) (sNil)) (sSeq (sIf (tB' (fBin eqG (fVar 0) (fC (.str "InvalidExpression")))) (sRet (fIf (tB' (fVar 2)) (fErr "InvalidExpression" "given" (fVar 1)) (fErr "InvalidExpression" "given" (fVar 1)))) (sNil)) (sSeq (sIf (tB' (fBin eqG (fVar 0) (fC (.str "InvalidNumber")))) (sRet (fIf (tB' (fVar 2)) (fErr "InvalidNumber" "given" (fVar 1)) (fErr "InvalidNumber" "given" (fVar 1)))) (sNil)) (sSeq (sIf (tB' (fBin eqG (fVar 0) (fC (.str "InvalidStand")))) (sRet (fIf (tB' (fVar 2)) (fErr "InvalidStand" "given" (fVar 1)) (fErr "InvalidStand" "given" (fVar 1)))) (sNil)) (sSeq (sIf (tB' (fBin eqG (fVar 0) (fC (.str "InvalidFlag")))) (sRet (fIf (tB' (fVar 2)) (fErr "InvalidFlag" "given" (fVar 1)) (fErr "InvalidFlag" "given" (fVar 1)))) (sNil)) (sSeq (sIf (tB' (fBin eqG (fVar 0) (fC (.str "InvalidPlan")))) (sRet (fIf (tB' (fVar 2)) (fErr "InvalidPlan" "given" (fVar 1)) (fErr "InvalidPlan" "given" (fVar 1)))) (sNil)) (sSeq (sIf (tB' (fBin eqG (fVar 0) (fC (.str "InvalidStep")))) (sRet (fIf (tB' (fVar 2)) (fErr "InvalidStep" "given" (fVar 1)) (fErr "InvalidStep" "given" (fVar 1)))) (sNil)) (sSeq (sIf (tB' (fBin eqG (fVar 0) (fC (.str "InvalidDeed")))) (sRet (fIf (tB' (fVar 2)) (fErr "InvalidDeed" "given" (fVar 1)) (fErr "InvalidDeed" "given" (fVar 1)))) (sNil)) (sSeq (sIf (tB' (fBin eqG (fVar 0) (fC (.str "InvalidPlant")))) (sRet (fIf (tB' (fVar 2)) (fErr "InvalidPlant" "given" (fVar 1)) (fErr "InvalidPlant" "given" (fVar 1)))) (sNil)) (sSeq (sIf (tB' (fBin eqG (fVar 0) (fC (.str "InvalidCourse")))) (sRet (fIf (tB' (fVar 2)) (fErr "InvalidCourse" "given" (fVar 1)) (fErr "InvalidCourse" "given" (fVar 1)))) (sNil)) (sSeq (sIf (tB' (fBin eqG (fVar 0) (fC (.str "OutOfRange")))) (sRet (fIf (tB' (fVar 2)) (fErr "OutOfRange" "given" (fVar 1)) (fErr "OutOfRange" "given" (fVar 1)))) (sNil)) (sSeq (sIf (tB' (fBin eqG (fVar 0) (fC (.str "UnknownName")))) (sRet (fIf (tB' (fVar 2)) (fErr "UnknownName" "given" (fVar 1)) (fErr "UnknownName" "given" (fVar 1)))) (sNil)) (sSeq (sIf (tB' (fBin eqG (fVar 0) (fC (.str "TooLong")))) (sRet (fIf (tB' (fVar 2)) (fErr "TooLong" "given" (fVar 1)) (fErr "TooLong" "given" (fVar 1)))) (sNil)) (sRet (fC .non))))))))))))))))))
theorem body__law_made_a (T : Top K mg) (TE : TopE P K mg) : ∀ f, Bdy P w K mg base tt 2 "_law_made_a" s__law_made_a nm__law_made_a f g__law_made_a := fun f cdv A outer s0 H E hr hgd tk hp => (dss_cons (ds_if (dt_cmp (op_eqS hr.units) eq_ok (d_var 0) d_str (nomark _)) (dss_one (ds_ret (d_if (dt_val (d_var 2)) (d_errK (TE.v_InvalidText _ _) (by rfl) (d_var 1) (hr.mono (by decide))) (d_errV (TE.v_InvalidText _ _) (by rfl) (d_var 1) (hr.mono (by decide)))))) dss_nil) (dss_cons (ds_if (dt_cmp (op_eqS hr.units) eq_ok (d_var 0) d_str (nomark _)) (dss_one (ds_ret (d_if (dt_val (d_var 2)) (d_errK (TE.v_InvalidCode _ _) (by rfl) (d_var 1) (hr.mono (by decide))) (d_errV (TE.v_InvalidCode _ _) (by rfl) (d_var 1) (hr.mono (by decide)))))) dss_nil) (dss_cons (ds_if (dt_cmp (op_eqS hr.units) eq_ok (d_var 0) d_str (nomark _)) (dss_one (ds_ret (d_if (dt_val (d_var 2)) (d_errK (TE.v_InvalidMachine _ _) (by rfl) (d_var 1) (hr.mono (by decide))) (d_errV (TE.v_InvalidMachine _ _) (by rfl) (d_var 1) (hr.mono (by decide)))))) dss_nil) (dss_cons (ds_if (dt_cmp (op_eqS hr.units) eq_ok (d_var 0) d_str (nomark _)) (dss_one (ds_ret (d_if (dt_val (d_var 2)) (d_errK (TE.v_InvalidImage _ _) (by rfl) (d_var 1) (hr.mono (by decide))) (d_errV (TE.v_InvalidImage _ _) (by rfl) (d_var 1) (hr.mono (by decide)))))) dss_nil) (dss_cons (ds_if (dt_cmp (op_eqS hr.units) eq_ok (d_var 0) d_str (nomark _)) (dss_one (ds_ret (d_if (dt_val (d_var 2)) (d_errK (TE.v_InvalidProfile _ _) (by rfl) (d_var 1) (hr.mono (by decide))) (d_errV (TE.v_InvalidProfile _ _) (by rfl) (d_var 1) (hr.mono (by decide)))))) dss_nil) (dss_cons (ds_if (dt_cmp (op_eqS hr.units) eq_ok (d_var 0) d_str (nomark _)) (dss_one (ds_ret (d_if (dt_val (d_var 2)) (d_errK (TE.v_InvalidExpression _ _) (by rfl) (d_var 1) (hr.mono (by decide))) (d_errV (TE.v_InvalidExpression _ _) (by rfl) (d_var 1) (hr.mono (by decide)))))) dss_nil) (dss_cons (ds_if (dt_cmp (op_eqS hr.units) eq_ok (d_var 0) d_str (nomark _)) (dss_one (ds_ret (d_if (dt_val (d_var 2)) (d_errK (TE.v_InvalidNumber _ _) (by rfl) (d_var 1) (hr.mono (by decide))) (d_errV (TE.v_InvalidNumber _ _) (by rfl) (d_var 1) (hr.mono (by decide)))))) dss_nil) (dss_cons (ds_if (dt_cmp (op_eqS hr.units) eq_ok (d_var 0) d_str (nomark _)) (dss_one (ds_ret (d_if (dt_val (d_var 2)) (d_errK (TE.v_InvalidStand _ _) (by rfl) (d_var 1) (hr.mono (by decide))) (d_errV (TE.v_InvalidStand _ _) (by rfl) (d_var 1) (hr.mono (by decide)))))) dss_nil) (dss_cons (ds_if (dt_cmp (op_eqS hr.units) eq_ok (d_var 0) d_str (nomark _)) (dss_one (ds_ret (d_if (dt_val (d_var 2)) (d_errK (TE.v_InvalidFlag _ _) (by rfl) (d_var 1) (hr.mono (by decide))) (d_errV (TE.v_InvalidFlag _ _) (by rfl) (d_var 1) (hr.mono (by decide)))))) dss_nil) (dss_cons (ds_if (dt_cmp (op_eqS hr.units) eq_ok (d_var 0) d_str (nomark _)) (dss_one (ds_ret (d_if (dt_val (d_var 2)) (d_errK (TE.v_InvalidPlan _ _) (by rfl) (d_var 1) (hr.mono (by decide))) (d_errV (TE.v_InvalidPlan _ _) (by rfl) (d_var 1) (hr.mono (by decide)))))) dss_nil) (dss_cons (ds_if (dt_cmp (op_eqS hr.units) eq_ok (d_var 0) d_str (nomark _)) (dss_one (ds_ret (d_if (dt_val (d_var 2)) (d_errK (TE.v_InvalidStep _ _) (by rfl) (d_var 1) (hr.mono (by decide))) (d_errV (TE.v_InvalidStep _ _) (by rfl) (d_var 1) (hr.mono (by decide)))))) dss_nil) (dss_cons (ds_if (dt_cmp (op_eqS hr.units) eq_ok (d_var 0) d_str (nomark _)) (dss_one (ds_ret (d_if (dt_val (d_var 2)) (d_errK (TE.v_InvalidDeed _ _) (by rfl) (d_var 1) (hr.mono (by decide))) (d_errV (TE.v_InvalidDeed _ _) (by rfl) (d_var 1) (hr.mono (by decide)))))) dss_nil) (dss_cons (ds_if (dt_cmp (op_eqS hr.units) eq_ok (d_var 0) d_str (nomark _)) (dss_one (ds_ret (d_if (dt_val (d_var 2)) (d_errK (TE.v_InvalidPlant _ _) (by rfl) (d_var 1) (hr.mono (by decide))) (d_errV (TE.v_InvalidPlant _ _) (by rfl) (d_var 1) (hr.mono (by decide)))))) dss_nil) (dss_cons (ds_if (dt_cmp (op_eqS hr.units) eq_ok (d_var 0) d_str (nomark _)) (dss_one (ds_ret (d_if (dt_val (d_var 2)) (d_errK (TE.v_InvalidCourse _ _) (by rfl) (d_var 1) (hr.mono (by decide))) (d_errV (TE.v_InvalidCourse _ _) (by rfl) (d_var 1) (hr.mono (by decide)))))) dss_nil) (dss_cons (ds_if (dt_cmp (op_eqS hr.units) eq_ok (d_var 0) d_str (nomark _)) (dss_one (ds_ret (d_if (dt_val (d_var 2)) (d_errK (TE.v_OutOfRange _ _) (by rfl) (d_var 1) (hr.mono (by decide))) (d_errV (TE.v_OutOfRange _ _) (by rfl) (d_var 1) (hr.mono (by decide)))))) dss_nil) (dss_cons (ds_if (dt_cmp (op_eqS hr.units) eq_ok (d_var 0) d_str (nomark _)) (dss_one (ds_ret (d_if (dt_val (d_var 2)) (d_errK (TE.v_UnknownName _ _) (by rfl) (d_var 1) (hr.mono (by decide))) (d_errV (TE.v_UnknownName _ _) (by rfl) (d_var 1) (hr.mono (by decide)))))) dss_nil) (dss_cons (ds_if (dt_cmp (op_eqS hr.units) eq_ok (d_var 0) d_str (nomark _)) (dss_one (ds_ret (d_if (dt_val (d_var 2)) (d_errK (TE.v_TooLong _ _) (by rfl) (d_var 1) (hr.mono (by decide))) (d_errV (TE.v_TooLong _ _) (by rfl) (d_var 1) (hr.mono (by decide)))))) dss_nil) (dss_one (ds_ret d_non)))))))))))))))))))
def g__law_made_b : PSt := sSeq (sIf (tB' (fBin eqG (fVar 0) (fC (.str "TooMany")))) (sRet (fIf (tB' (fVar 2)) (fErr "TooMany" "given" (fVar 1)) (fErr "TooMany" "given" (fVar 1)))) (sNil)) (sSeq (sIf (tB' (fBin eqG (fVar 0) (fC (.str "DoesNotFit")))) (sRet (fIf (tB' (fVar 2)) (fErr "DoesNotFit" "given" (fVar 1)) (fErr "DoesNotFit" "given" (fVar 1)))) (sNil)) (sSeq (sIf (tB' (fBin eqG (fVar 0) (fC (.str "InvalidLines")))) (sRet (fIf (tB' (fVar 2)) (fErr "InvalidLines" "index" (fVar 1)) (fErr "InvalidLines" "index" (fVar 1)))) (sNil)) (sSeq (sIf (tB' (fBin eqG (fVar 0) (fC (.str "InvalidNumbers")))) (sRet (fIf (tB' (fVar 2)) (fErr "InvalidNumbers" "index" (fVar 1)) (fErr "InvalidNumbers" "index" (fVar 1)))) (sNil)) (sSeq (sIf (tB' (fBin eqG (fVar 0) (fC (.str "InvalidPasses")))) (sRet (fIf (tB' (fVar 2)) (fErr "InvalidPasses" "index" (fVar 1)) (fErr "InvalidPasses" "index" (fVar 1)))) (sNil)) (sSeq (sIf (tB' (fBin eqG (fVar 0) (fC (.str "InvalidOrder")))) (sRet (fIf (tB' (fVar 2)) (fErr "InvalidOrder" "index" (fVar 1)) (fErr "InvalidOrder" "index" (fVar 1)))) (sNil)) (sSeq (sIf (tB' (fBin eqG (fVar 0) (fC (.str "InvalidRows")))) (sRet (fIf (tB' (fVar 2)) (fErr "InvalidRows" "index" (fVar 1)) (fErr "InvalidRows" "index" (fVar 1)))) (sNil)) (sSeq (sIf (tB' (fBin eqG (fVar 0) (fC (.str "InvalidProfiles")))) (sRet (fIf (tB' (fVar 2)) (fErr "InvalidProfiles" "index" (fVar 1)) (fErr "InvalidProfiles" "index" (fVar 1)))) (sNil)) (sSeq (sIf (tB' (fBin eqG (fVar 0) (fC (.str "InvalidChoices")))) (sRet (fIf (tB' (fVar 2)) (fErr "InvalidChoices" "index" (fVar 1)) (fErr "InvalidChoices" "index" (fVar 1)))) (sNil)) (sSeq (sIf (tB' (fBin eqG (fVar 0) (fC (.str "InvalidLots")))) (sRet (fIf (tB' (fVar 2)) (fErr "InvalidLots" "index" (fVar 1)) (fErr "InvalidLots" "index" (fVar 1)))) (sNil)) (sSeq (sIf (tB' (fBin eqG (fVar 0) (fC (.str "InvalidErrors")))) (sRet (fIf (tB' (fVar 2)) (fErr "InvalidErrors" "index" (fVar 1)) (fErr "InvalidErrors" "index" (fVar 1)))) (sNil)) (sSeq (sIf (tB' (fBin eqG (fVar 0) (fC (.str "NotKept")))) (sRet (fIf (tB' (fVar 2)) (fErr "NotKept" "time" (fVar 1)) (fErr "NotKept" "time" (fVar 1)))) (sNil)) (sRet (fC .non)))))))))))))
theorem body__law_made_b (T : Top K mg) (TE : TopE P K mg) : ∀ f, Bdy P w K mg base tt 2 "_law_made_b" s__law_made_b nm__law_made_b f g__law_made_b := fun f cdv A outer s0 H E hr hgd tk hp => (dss_cons (ds_if (dt_cmp (op_eqS hr.units) eq_ok (d_var 0) d_str (nomark _)) (dss_one (ds_ret (d_if (dt_val (d_var 2)) (d_errK (TE.v_TooMany _ _) (by rfl) (d_var 1) (hr.mono (by decide))) (d_errV (TE.v_TooMany _ _) (by rfl) (d_var 1) (hr.mono (by decide)))))) dss_nil) (dss_cons (ds_if (dt_cmp (op_eqS hr.units) eq_ok (d_var 0) d_str (nomark _)) (dss_one (ds_ret (d_if (dt_val (d_var 2)) (d_errK (TE.v_DoesNotFit _ _) (by rfl) (d_var 1) (hr.mono (by decide))) (d_errV (TE.v_DoesNotFit _ _) (by rfl) (d_var 1) (hr.mono (by decide)))))) dss_nil) (dss_cons (ds_if (dt_cmp (op_eqS hr.units) eq_ok (d_var 0) d_str (nomark _)) (dss_one (ds_ret (d_if (dt_val (d_var 2)) (d_errK (TE.v_InvalidLines _ _) (by rfl) (d_var 1) (hr.mono (by decide))) (d_errV (TE.v_InvalidLines _ _) (by rfl) (d_var 1) (hr.mono (by decide)))))) dss_nil) (dss_cons (ds_if (dt_cmp (op_eqS hr.units) eq_ok (d_var 0) d_str (nomark _)) (dss_one (ds_ret (d_if (dt_val (d_var 2)) (d_errK (TE.v_InvalidNumbers _ _) (by rfl) (d_var 1) (hr.mono (by decide))) (d_errV (TE.v_InvalidNumbers _ _) (by rfl) (d_var 1) (hr.mono (by decide)))))) dss_nil) (dss_cons (ds_if (dt_cmp (op_eqS hr.units) eq_ok (d_var 0) d_str (nomark _)) (dss_one (ds_ret (d_if (dt_val (d_var 2)) (d_errK (TE.v_InvalidPasses _ _) (by rfl) (d_var 1) (hr.mono (by decide))) (d_errV (TE.v_InvalidPasses _ _) (by rfl) (d_var 1) (hr.mono (by decide)))))) dss_nil) (dss_cons (ds_if (dt_cmp (op_eqS hr.units) eq_ok (d_var 0) d_str (nomark _)) (dss_one (ds_ret (d_if (dt_val (d_var 2)) (d_errK (TE.v_InvalidOrder _ _) (by rfl) (d_var 1) (hr.mono (by decide))) (d_errV (TE.v_InvalidOrder _ _) (by rfl) (d_var 1) (hr.mono (by decide)))))) dss_nil) (dss_cons (ds_if (dt_cmp (op_eqS hr.units) eq_ok (d_var 0) d_str (nomark _)) (dss_one (ds_ret (d_if (dt_val (d_var 2)) (d_errK (TE.v_InvalidRows _ _) (by rfl) (d_var 1) (hr.mono (by decide))) (d_errV (TE.v_InvalidRows _ _) (by rfl) (d_var 1) (hr.mono (by decide)))))) dss_nil) (dss_cons (ds_if (dt_cmp (op_eqS hr.units) eq_ok (d_var 0) d_str (nomark _)) (dss_one (ds_ret (d_if (dt_val (d_var 2)) (d_errK (TE.v_InvalidProfiles _ _) (by rfl) (d_var 1) (hr.mono (by decide))) (d_errV (TE.v_InvalidProfiles _ _) (by rfl) (d_var 1) (hr.mono (by decide)))))) dss_nil) (dss_cons (ds_if (dt_cmp (op_eqS hr.units) eq_ok (d_var 0) d_str (nomark _)) (dss_one (ds_ret (d_if (dt_val (d_var 2)) (d_errK (TE.v_InvalidChoices _ _) (by rfl) (d_var 1) (hr.mono (by decide))) (d_errV (TE.v_InvalidChoices _ _) (by rfl) (d_var 1) (hr.mono (by decide)))))) dss_nil) (dss_cons (ds_if (dt_cmp (op_eqS hr.units) eq_ok (d_var 0) d_str (nomark _)) (dss_one (ds_ret (d_if (dt_val (d_var 2)) (d_errK (TE.v_InvalidLots _ _) (by rfl) (d_var 1) (hr.mono (by decide))) (d_errV (TE.v_InvalidLots _ _) (by rfl) (d_var 1) (hr.mono (by decide)))))) dss_nil) (dss_cons (ds_if (dt_cmp (op_eqS hr.units) eq_ok (d_var 0) d_str (nomark _)) (dss_one (ds_ret (d_if (dt_val (d_var 2)) (d_errK (TE.v_InvalidErrors _ _) (by rfl) (d_var 1) (hr.mono (by decide))) (d_errV (TE.v_InvalidErrors _ _) (by rfl) (d_var 1) (hr.mono (by decide)))))) dss_nil) (dss_cons (ds_if (dt_cmp (op_eqS hr.units) eq_ok (d_var 0) d_str (nomark _)) (dss_one (ds_ret (d_if (dt_val (d_var 2)) (d_errK (TE.v_NotKept _ _) (by rfl) (d_var 1) (hr.mono (by decide))) (d_errV (TE.v_NotKept _ _) (by rfl) (d_var 1) (hr.mono (by decide)))))) dss_nil) (dss_one (ds_ret d_non))))))))))))))
def g__law_made_c : PSt := sSeq (sIf (tB' (fBin eqG (fVar 0) (fC (.str "InvalidCommand")))) (sRet (fIf (tB' (fVar 2)) (fErr "InvalidCommand" "given" (fVar 1)) (fErr "InvalidCommand" "given" (fVar 1)))) (sNil)) (sSeq (sIf (tB' (fBin eqG (fVar 0) (fC (.str "NotADesk")))) (sRet (fIf (tB' (fVar 2)) (fErr "NotADesk" "given" (fVar 1)) (fErr "NotADesk" "given" (fVar 1)))) (sNil)) (sSeq (sIf (tB' (fBin eqG (fVar 0) (fC (.str "InvalidCommands")))) (sRet (fIf (tB' (fVar 2)) (fErr "InvalidCommands" "index" (fVar 1)) (fErr "InvalidCommands" "index" (fVar 1)))) (sNil)) (sSeq (sIf (tB' (fBin eqG (fVar 0) (fC (.str "Refused")))) (sRet (fIf (tB' (fVar 2)) (fErr "Refused" "index" (fVar 1)) (fErr "Refused" "index" (fVar 1)))) (sNil)) (sRet (fC .non)))))
theorem body__law_made_c (T : Top K mg) (TE : TopE P K mg) : ∀ f, Bdy P w K mg base tt 2 "_law_made_c" s__law_made_c nm__law_made_c f g__law_made_c := fun f cdv A outer s0 H E hr hgd tk hp => (dss_cons (ds_if (dt_cmp (op_eqS hr.units) eq_ok (d_var 0) d_str (nomark _)) (dss_one (ds_ret (d_if (dt_val (d_var 2)) (d_errK (TE.v_InvalidCommand _ _) (by rfl) (d_var 1) (hr.mono (by decide))) (d_errV (TE.v_InvalidCommand _ _) (by rfl) (d_var 1) (hr.mono (by decide)))))) dss_nil) (dss_cons (ds_if (dt_cmp (op_eqS hr.units) eq_ok (d_var 0) d_str (nomark _)) (dss_one (ds_ret (d_if (dt_val (d_var 2)) (d_errK (TE.v_NotADesk _ _) (by rfl) (d_var 1) (hr.mono (by decide))) (d_errV (TE.v_NotADesk _ _) (by rfl) (d_var 1) (hr.mono (by decide)))))) dss_nil) (dss_cons (ds_if (dt_cmp (op_eqS hr.units) eq_ok (d_var 0) d_str (nomark _)) (dss_one (ds_ret (d_if (dt_val (d_var 2)) (d_errK (TE.v_InvalidCommands _ _) (by rfl) (d_var 1) (hr.mono (by decide))) (d_errV (TE.v_InvalidCommands _ _) (by rfl) (d_var 1) (hr.mono (by decide)))))) dss_nil) (dss_cons (ds_if (dt_cmp (op_eqS hr.units) eq_ok (d_var 0) d_str (nomark _)) (dss_one (ds_ret (d_if (dt_val (d_var 2)) (d_errK (TE.v_Refused _ _) (by rfl) (d_var 1) (hr.mono (by decide))) (d_errV (TE.v_Refused _ _) (by rfl) (d_var 1) (hr.mono (by decide)))))) dss_nil) (dss_one (ds_ret d_non))))))
def g__law_kinds_a : PSt := sSeq (sSet 1 (fIf (tB' (fCB (isVG ERRS) (fCons (fVar 0) (fCons (fSta "InvalidText") (fNil))))) (fLst (fCons (fC (.str "InvalidText")) (fNil))) (fLst (fNil)))) (sSeq (sSet 1 (fBin addG (fVar 1) (fIf (tB' (fCB (isVG ERRS) (fCons (fVar 0) (fCons (fSta "InvalidCode") (fNil))))) (fLst (fCons (fC (.str "InvalidCode")) (fNil))) (fLst (fNil))))) (sSeq (sSet 1 (fBin addG (fVar 1) (fIf (tB' (fCB (isVG ERRS) (fCons (fVar 0) (fCons (fSta "InvalidMachine") (fNil))))) (fLst (fCons (fC (.str "InvalidMachine")) (fNil))) (fLst (fNil))))) (sSeq (sSet 1 (fBin addG (fVar 1) (fIf (tB' (fCB (isVG ERRS) (fCons (fVar 0) (fCons (fSta "InvalidImage") (fNil))))) (fLst (fCons (fC (.str "InvalidImage")) (fNil))) (fLst (fNil))))) (sSeq (sSet 1 (fBin addG (fVar 1) (fIf (tB' (fCB (isVG ERRS) (fCons (fVar 0) (fCons (fSta "InvalidProfile") (fNil))))) (fLst (fCons (fC (.str "InvalidProfile")) (fNil))) (fLst (fNil))))) (sSeq (sSet 1 (fBin addG (fVar 1) (fIf (tB' (fCB (isVG ERRS) (fCons (fVar 0) (fCons (fSta "InvalidExpression") (fNil))))) (fLst (fCons (fC (.str "InvalidExpression")) (fNil))) (fLst (fNil))))) (sSeq (sSet 1 (fBin addG (fVar 1) (fIf (tB' (fCB (isVG ERRS) (fCons (fVar 0) (fCons (fSta "InvalidNumber") (fNil))))) (fLst (fCons (fC (.str "InvalidNumber")) (fNil))) (fLst (fNil))))) (sSeq (sSet 1 (fBin addG (fVar 1) (fIf (tB' (fCB (isVG ERRS) (fCons (fVar 0) (fCons (fSta "InvalidStand") (fNil))))) (fLst (fCons (fC (.str "InvalidStand")) (fNil))) (fLst (fNil))))) (sSeq (sSet 1 (fBin addG (fVar 1) (fIf (tB' (fCB (isVG ERRS) (fCons (fVar 0) (fCons (fSta "InvalidFlag") (fNil))))) (fLst (fCons (fC (.str "InvalidFlag")) (fNil))) (fLst (fNil))))) (sSeq (sSet 1 (fBin addG (fVar 1) (fIf (tB' (fCB (isVG ERRS) (fCons (fVar 0) (fCons (fSta "InvalidPlan") (fNil))))) (fLst (fCons (fC (.str "InvalidPlan")) (fNil))) (fLst (fNil))))) (sSeq (sSet 1 (fBin addG (fVar 1) (fIf (tB' (fCB (isVG ERRS) (fCons (fVar 0) (fCons (fSta "InvalidStep") (fNil))))) (fLst (fCons (fC (.str "InvalidStep")) (fNil))) (fLst (fNil))))) (sSeq (sSet 1 (fBin addG (fVar 1) (fIf (tB' (fCB (isVG ERRS) (fCons (fVar 0) (fCons (fSta "InvalidDeed") (fNil))))) (fLst (fCons (fC (.str "InvalidDeed")) (fNil))) (fLst (fNil))))) (sSeq (sSet 1 (fBin addG (fVar 1) (fIf (tB' (fCB (isVG ERRS) (fCons (fVar 0) (fCons (fSta "InvalidPlant") (fNil))))) (fLst (fCons (fC (.str "InvalidPlant")) (fNil))) (fLst (fNil))))) (sSeq (sSet 1 (fBin addG (fVar 1) (fIf (tB' (fCB (isVG ERRS) (fCons (fVar 0) (fCons (fSta "InvalidCourse") (fNil))))) (fLst (fCons (fC (.str "InvalidCourse")) (fNil))) (fLst (fNil))))) (sSeq (sSet 1 (fBin addG (fVar 1) (fIf (tB' (fCB (isVG ERRS) (fCons (fVar 0) (fCons (fSta "OutOfRange") (fNil))))) (fLst (fCons (fC (.str "OutOfRange")) (fNil))) (fLst (fNil))))) (sSeq (sSet 1 (fBin addG (fVar 1) (fIf (tB' (fCB (isVG ERRS) (fCons (fVar 0) (fCons (fSta "UnknownName") (fNil))))) (fLst (fCons (fC (.str "UnknownName")) (fNil))) (fLst (fNil))))) (sSeq (sSet 1 (fBin addG (fVar 1) (fIf (tB' (fCB (isVG ERRS) (fCons (fVar 0) (fCons (fSta "TooLong") (fNil))))) (fLst (fCons (fC (.str "TooLong")) (fNil))) (fLst (fNil))))) (sSeq (sSet 1 (fBin addG (fVar 1) (fIf (tB' (fCB (isVG ERRS) (fCons (fVar 0) (fCons (fSta "TooMany") (fNil))))) (fLst (fCons (fC (.str "TooMany")) (fNil))) (fLst (fNil))))) (sSeq (sSet 1 (fBin addG (fVar 1) (fIf (tB' (fCB (isVG ERRS) (fCons (fVar 0) (fCons (fSta "DoesNotFit") (fNil))))) (fLst (fCons (fC (.str "DoesNotFit")) (fNil))) (fLst (fNil))))) (sSeq (sSet 1 (fBin addG (fVar 1) (fIf (tB' (fCB (isVG ERRS) (fCons (fVar 0) (fCons (fSta "InvalidLines") (fNil))))) (fLst (fCons (fC (.str "InvalidLines")) (fNil))) (fLst (fNil))))) (sRet (fVar 1)))))))))))))))))))))
theorem body__law_kinds_a (T : Top K mg) (TE : TopE P K mg) : ∀ f, Bdy P w K mg base tt 2 "_law_kinds_a" s__law_kinds_a nm__law_kinds_a f g__law_kinds_a := fun f cdv A outer s0 H E hr hgd tk hp => (dss_cons (ds_set 1 sc__law_kinds_a.nd rfl (by first | exact Or.inl rfl | exact Or.inr rfl) (d_if (dt_val (d_callB call_isV (isV_ok TE.tab) (by rfl) T.n_isinstance (by decide +kernel) (da_cons (d_var 0) (da_cons (d_sta (by rfl) (TE.tab.at_ _ (by decide))) da_nil)))) (d_lst (da_cons d_str da_nil)) (d_lst da_nil))) (dss_cons (ds_set 1 sc__law_kinds_a.nd rfl (by first | exact Or.inl rfl | exact Or.inr rfl) (d_op op_addA add_ok (d_var 1) (d_if (dt_val (d_callB call_isV (isV_ok TE.tab) (by rfl) T.n_isinstance (by decide +kernel) (da_cons (d_var 0) (da_cons (d_sta (by rfl) (TE.tab.at_ _ (by decide))) da_nil)))) (d_lst (da_cons d_str da_nil)) (d_lst da_nil)))) (dss_cons (ds_set 1 sc__law_kinds_a.nd rfl (by first | exact Or.inl rfl | exact Or.inr rfl) (d_op op_addA add_ok (d_var 1) (d_if (dt_val (d_callB call_isV (isV_ok TE.tab) (by rfl) T.n_isinstance (by decide +kernel) (da_cons (d_var 0) (da_cons (d_sta (by rfl) (TE.tab.at_ _ (by decide))) da_nil)))) (d_lst (da_cons d_str da_nil)) (d_lst da_nil)))) (dss_cons (ds_set 1 sc__law_kinds_a.nd rfl (by first | exact Or.inl rfl | exact Or.inr rfl) (d_op op_addA add_ok (d_var 1) (d_if (dt_val (d_callB call_isV (isV_ok TE.tab) (by rfl) T.n_isinstance (by decide +kernel) (da_cons (d_var 0) (da_cons (d_sta (by rfl) (TE.tab.at_ _ (by decide))) da_nil)))) (d_lst (da_cons d_str da_nil)) (d_lst da_nil)))) (dss_cons (ds_set 1 sc__law_kinds_a.nd rfl (by first | exact Or.inl rfl | exact Or.inr rfl) (d_op op_addA add_ok (d_var 1) (d_if (dt_val (d_callB call_isV (isV_ok TE.tab) (by rfl) T.n_isinstance (by decide +kernel) (da_cons (d_var 0) (da_cons (d_sta (by rfl) (TE.tab.at_ _ (by decide))) da_nil)))) (d_lst (da_cons d_str da_nil)) (d_lst da_nil)))) (dss_cons (ds_set 1 sc__law_kinds_a.nd rfl (by first | exact Or.inl rfl | exact Or.inr rfl) (d_op op_addA add_ok (d_var 1) (d_if (dt_val (d_callB call_isV (isV_ok TE.tab) (by rfl) T.n_isinstance (by decide +kernel) (da_cons (d_var 0) (da_cons (d_sta (by rfl) (TE.tab.at_ _ (by decide))) da_nil)))) (d_lst (da_cons d_str da_nil)) (d_lst da_nil)))) (dss_cons (ds_set 1 sc__law_kinds_a.nd rfl (by first | exact Or.inl rfl | exact Or.inr rfl) (d_op op_addA add_ok (d_var 1) (d_if (dt_val (d_callB call_isV (isV_ok TE.tab) (by rfl) T.n_isinstance (by decide +kernel) (da_cons (d_var 0) (da_cons (d_sta (by rfl) (TE.tab.at_ _ (by decide))) da_nil)))) (d_lst (da_cons d_str da_nil)) (d_lst da_nil)))) (dss_cons (ds_set 1 sc__law_kinds_a.nd rfl (by first | exact Or.inl rfl | exact Or.inr rfl) (d_op op_addA add_ok (d_var 1) (d_if (dt_val (d_callB call_isV (isV_ok TE.tab) (by rfl) T.n_isinstance (by decide +kernel) (da_cons (d_var 0) (da_cons (d_sta (by rfl) (TE.tab.at_ _ (by decide))) da_nil)))) (d_lst (da_cons d_str da_nil)) (d_lst da_nil)))) (dss_cons (ds_set 1 sc__law_kinds_a.nd rfl (by first | exact Or.inl rfl | exact Or.inr rfl) (d_op op_addA add_ok (d_var 1) (d_if (dt_val (d_callB call_isV (isV_ok TE.tab) (by rfl) T.n_isinstance (by decide +kernel) (da_cons (d_var 0) (da_cons (d_sta (by rfl) (TE.tab.at_ _ (by decide))) da_nil)))) (d_lst (da_cons d_str da_nil)) (d_lst da_nil)))) (dss_cons (ds_set 1 sc__law_kinds_a.nd rfl (by first | exact Or.inl rfl | exact Or.inr rfl) (d_op op_addA add_ok (d_var 1) (d_if (dt_val (d_callB call_isV (isV_ok TE.tab) (by rfl) T.n_isinstance (by decide +kernel) (da_cons (d_var 0) (da_cons (d_sta (by rfl) (TE.tab.at_ _ (by decide))) da_nil)))) (d_lst (da_cons d_str da_nil)) (d_lst da_nil)))) (dss_cons (ds_set 1 sc__law_kinds_a.nd rfl (by first | exact Or.inl rfl | exact Or.inr rfl) (d_op op_addA add_ok (d_var 1) (d_if (dt_val (d_callB call_isV (isV_ok TE.tab) (by rfl) T.n_isinstance (by decide +kernel) (da_cons (d_var 0) (da_cons (d_sta (by rfl) (TE.tab.at_ _ (by decide))) da_nil)))) (d_lst (da_cons d_str da_nil)) (d_lst da_nil)))) (dss_cons (ds_set 1 sc__law_kinds_a.nd rfl (by first | exact Or.inl rfl | exact Or.inr rfl) (d_op op_addA add_ok (d_var 1) (d_if (dt_val (d_callB call_isV (isV_ok TE.tab) (by rfl) T.n_isinstance (by decide +kernel) (da_cons (d_var 0) (da_cons (d_sta (by rfl) (TE.tab.at_ _ (by decide))) da_nil)))) (d_lst (da_cons d_str da_nil)) (d_lst da_nil)))) (dss_cons (ds_set 1 sc__law_kinds_a.nd rfl (by first | exact Or.inl rfl | exact Or.inr rfl) (d_op op_addA add_ok (d_var 1) (d_if (dt_val (d_callB call_isV (isV_ok TE.tab) (by rfl) T.n_isinstance (by decide +kernel) (da_cons (d_var 0) (da_cons (d_sta (by rfl) (TE.tab.at_ _ (by decide))) da_nil)))) (d_lst (da_cons d_str da_nil)) (d_lst da_nil)))) (dss_cons (ds_set 1 sc__law_kinds_a.nd rfl (by first | exact Or.inl rfl | exact Or.inr rfl) (d_op op_addA add_ok (d_var 1) (d_if (dt_val (d_callB call_isV (isV_ok TE.tab) (by rfl) T.n_isinstance (by decide +kernel) (da_cons (d_var 0) (da_cons (d_sta (by rfl) (TE.tab.at_ _ (by decide))) da_nil)))) (d_lst (da_cons d_str da_nil)) (d_lst da_nil)))) (dss_cons (ds_set 1 sc__law_kinds_a.nd rfl (by first | exact Or.inl rfl | exact Or.inr rfl) (d_op op_addA add_ok (d_var 1) (d_if (dt_val (d_callB call_isV (isV_ok TE.tab) (by rfl) T.n_isinstance (by decide +kernel) (da_cons (d_var 0) (da_cons (d_sta (by rfl) (TE.tab.at_ _ (by decide))) da_nil)))) (d_lst (da_cons d_str da_nil)) (d_lst da_nil)))) (dss_cons (ds_set 1 sc__law_kinds_a.nd rfl (by first | exact Or.inl rfl | exact Or.inr rfl) (d_op op_addA add_ok (d_var 1) (d_if (dt_val (d_callB call_isV (isV_ok TE.tab) (by rfl) T.n_isinstance (by decide +kernel) (da_cons (d_var 0) (da_cons (d_sta (by rfl) (TE.tab.at_ _ (by decide))) da_nil)))) (d_lst (da_cons d_str da_nil)) (d_lst da_nil)))) (dss_cons (ds_set 1 sc__law_kinds_a.nd rfl (by first | exact Or.inl rfl | exact Or.inr rfl) (d_op op_addA add_ok (d_var 1) (d_if (dt_val (d_callB call_isV (isV_ok TE.tab) (by rfl) T.n_isinstance (by decide +kernel) (da_cons (d_var 0) (da_cons (d_sta (by rfl) (TE.tab.at_ _ (by decide))) da_nil)))) (d_lst (da_cons d_str da_nil)) (d_lst da_nil)))) (dss_cons (ds_set 1 sc__law_kinds_a.nd rfl (by first | exact Or.inl rfl | exact Or.inr rfl) (d_op op_addA add_ok (d_var 1) (d_if (dt_val (d_callB call_isV (isV_ok TE.tab) (by rfl) T.n_isinstance (by decide +kernel) (da_cons (d_var 0) (da_cons (d_sta (by rfl) (TE.tab.at_ _ (by decide))) da_nil)))) (d_lst (da_cons d_str da_nil)) (d_lst da_nil)))) (dss_cons (ds_set 1 sc__law_kinds_a.nd rfl (by first | exact Or.inl rfl | exact Or.inr rfl) (d_op op_addA add_ok (d_var 1) (d_if (dt_val (d_callB call_isV (isV_ok TE.tab) (by rfl) T.n_isinstance (by decide +kernel) (da_cons (d_var 0) (da_cons (d_sta (by rfl) (TE.tab.at_ _ (by decide))) da_nil)))) (d_lst (da_cons d_str da_nil)) (d_lst da_nil)))) (dss_cons (ds_set 1 sc__law_kinds_a.nd rfl (by first | exact Or.inl rfl | exact Or.inr rfl) (d_op op_addA add_ok (d_var 1) (d_if (dt_val (d_callB call_isV (isV_ok TE.tab) (by rfl) T.n_isinstance (by decide +kernel) (da_cons (d_var 0) (da_cons (d_sta (by rfl) (TE.tab.at_ _ (by decide))) da_nil)))) (d_lst (da_cons d_str da_nil)) (d_lst da_nil)))) (dss_one (ds_ret (d_var 1)))))))))))))))))))))))
def g__law_kinds_b : PSt := sSeq (sSet 1 (fIf (tB' (fCB (isVG ERRS) (fCons (fVar 0) (fCons (fSta "InvalidNumbers") (fNil))))) (fLst (fCons (fC (.str "InvalidNumbers")) (fNil))) (fLst (fNil)))) (sSeq (sSet 1 (fBin addG (fVar 1) (fIf (tB' (fCB (isVG ERRS) (fCons (fVar 0) (fCons (fSta "InvalidPasses") (fNil))))) (fLst (fCons (fC (.str "InvalidPasses")) (fNil))) (fLst (fNil))))) (sSeq (sSet 1 (fBin addG (fVar 1) (fIf (tB' (fCB (isVG ERRS) (fCons (fVar 0) (fCons (fSta "InvalidOrder") (fNil))))) (fLst (fCons (fC (.str "InvalidOrder")) (fNil))) (fLst (fNil))))) (sSeq (sSet 1 (fBin addG (fVar 1) (fIf (tB' (fCB (isVG ERRS) (fCons (fVar 0) (fCons (fSta "InvalidRows") (fNil))))) (fLst (fCons (fC (.str "InvalidRows")) (fNil))) (fLst (fNil))))) (sSeq (sSet 1 (fBin addG (fVar 1) (fIf (tB' (fCB (isVG ERRS) (fCons (fVar 0) (fCons (fSta "InvalidProfiles") (fNil))))) (fLst (fCons (fC (.str "InvalidProfiles")) (fNil))) (fLst (fNil))))) (sSeq (sSet 1 (fBin addG (fVar 1) (fIf (tB' (fCB (isVG ERRS) (fCons (fVar 0) (fCons (fSta "InvalidChoices") (fNil))))) (fLst (fCons (fC (.str "InvalidChoices")) (fNil))) (fLst (fNil))))) (sSeq (sSet 1 (fBin addG (fVar 1) (fIf (tB' (fCB (isVG ERRS) (fCons (fVar 0) (fCons (fSta "InvalidLots") (fNil))))) (fLst (fCons (fC (.str "InvalidLots")) (fNil))) (fLst (fNil))))) (sSeq (sSet 1 (fBin addG (fVar 1) (fIf (tB' (fCB (isVG ERRS) (fCons (fVar 0) (fCons (fSta "InvalidErrors") (fNil))))) (fLst (fCons (fC (.str "InvalidErrors")) (fNil))) (fLst (fNil))))) (sSeq (sSet 1 (fBin addG (fVar 1) (fIf (tB' (fCB (isVG ERRS) (fCons (fVar 0) (fCons (fSta "InvalidCommand") (fNil))))) (fLst (fCons (fC (.str "InvalidCommand")) (fNil))) (fLst (fNil))))) (sSeq (sSet 1 (fBin addG (fVar 1) (fIf (tB' (fCB (isVG ERRS) (fCons (fVar 0) (fCons (fSta "NotADesk") (fNil))))) (fLst (fCons (fC (.str "NotADesk")) (fNil))) (fLst (fNil))))) (sSeq (sSet 1 (fBin addG (fVar 1) (fIf (tB' (fCB (isVG ERRS) (fCons (fVar 0) (fCons (fSta "InvalidCommands") (fNil))))) (fLst (fCons (fC (.str "InvalidCommands")) (fNil))) (fLst (fNil))))) (sSeq (sSet 1 (fBin addG (fVar 1) (fIf (tB' (fCB (isVG ERRS) (fCons (fVar 0) (fCons (fSta "Refused") (fNil))))) (fLst (fCons (fC (.str "Refused")) (fNil))) (fLst (fNil))))) (sSeq (sSet 1 (fBin addG (fVar 1) (fIf (tB' (fCB (isVG ERRS) (fCons (fVar 0) (fCons (fSta "Blind") (fNil))))) (fLst (fCons (fC (.str "Blind")) (fNil))) (fLst (fNil))))) (sSeq (sSet 1 (fBin addG (fVar 1) (fIf (tB' (fCB (isVG ERRS) (fCons (fVar 0) (fCons (fSta "Endless") (fNil))))) (fLst (fCons (fC (.str "Endless")) (fNil))) (fLst (fNil))))) (sSeq (sSet 1 (fBin addG (fVar 1) (fIf (tB' (fCB (isVG ERRS) (fCons (fVar 0) (fCons (fSta "NothingToUndo") (fNil))))) (fLst (fCons (fC (.str "NothingToUndo")) (fNil))) (fLst (fNil))))) (sSeq (sSet 1 (fBin addG (fVar 1) (fIf (tB' (fCB (isVG ERRS) (fCons (fVar 0) (fCons (fSta "CannotStrike") (fNil))))) (fLst (fCons (fC (.str "CannotStrike")) (fNil))) (fLst (fNil))))) (sSeq (sSet 1 (fBin addG (fVar 1) (fIf (tB' (fCB (isVG ERRS) (fCons (fVar 0) (fCons (fSta "NotKept") (fNil))))) (fLst (fCons (fC (.str "NotKept")) (fNil))) (fLst (fNil))))) (sRet (fVar 1))))))))))))))))))
theorem body__law_kinds_b (T : Top K mg) (TE : TopE P K mg) : ∀ f, Bdy P w K mg base tt 2 "_law_kinds_b" s__law_kinds_b nm__law_kinds_b f g__law_kinds_b := fun f cdv A outer s0 H E hr hgd tk hp => (dss_cons (ds_set 1 sc__law_kinds_b.nd rfl (by first | exact Or.inl rfl | exact Or.inr rfl) (d_if (dt_val (d_callB call_isV (isV_ok TE.tab) (by rfl) T.n_isinstance (by decide +kernel) (da_cons (d_var 0) (da_cons (d_sta (by rfl) (TE.tab.at_ _ (by decide))) da_nil)))) (d_lst (da_cons d_str da_nil)) (d_lst da_nil))) (dss_cons (ds_set 1 sc__law_kinds_b.nd rfl (by first | exact Or.inl rfl | exact Or.inr rfl) (d_op op_addA add_ok (d_var 1) (d_if (dt_val (d_callB call_isV (isV_ok TE.tab) (by rfl) T.n_isinstance (by decide +kernel) (da_cons (d_var 0) (da_cons (d_sta (by rfl) (TE.tab.at_ _ (by decide))) da_nil)))) (d_lst (da_cons d_str da_nil)) (d_lst da_nil)))) (dss_cons (ds_set 1 sc__law_kinds_b.nd rfl (by first | exact Or.inl rfl | exact Or.inr rfl) (d_op op_addA add_ok (d_var 1) (d_if (dt_val (d_callB call_isV (isV_ok TE.tab) (by rfl) T.n_isinstance (by decide +kernel) (da_cons (d_var 0) (da_cons (d_sta (by rfl) (TE.tab.at_ _ (by decide))) da_nil)))) (d_lst (da_cons d_str da_nil)) (d_lst da_nil)))) (dss_cons (ds_set 1 sc__law_kinds_b.nd rfl (by first | exact Or.inl rfl | exact Or.inr rfl) (d_op op_addA add_ok (d_var 1) (d_if (dt_val (d_callB call_isV (isV_ok TE.tab) (by rfl) T.n_isinstance (by decide +kernel) (da_cons (d_var 0) (da_cons (d_sta (by rfl) (TE.tab.at_ _ (by decide))) da_nil)))) (d_lst (da_cons d_str da_nil)) (d_lst da_nil)))) (dss_cons (ds_set 1 sc__law_kinds_b.nd rfl (by first | exact Or.inl rfl | exact Or.inr rfl) (d_op op_addA add_ok (d_var 1) (d_if (dt_val (d_callB call_isV (isV_ok TE.tab) (by rfl) T.n_isinstance (by decide +kernel) (da_cons (d_var 0) (da_cons (d_sta (by rfl) (TE.tab.at_ _ (by decide))) da_nil)))) (d_lst (da_cons d_str da_nil)) (d_lst da_nil)))) (dss_cons (ds_set 1 sc__law_kinds_b.nd rfl (by first | exact Or.inl rfl | exact Or.inr rfl) (d_op op_addA add_ok (d_var 1) (d_if (dt_val (d_callB call_isV (isV_ok TE.tab) (by rfl) T.n_isinstance (by decide +kernel) (da_cons (d_var 0) (da_cons (d_sta (by rfl) (TE.tab.at_ _ (by decide))) da_nil)))) (d_lst (da_cons d_str da_nil)) (d_lst da_nil)))) (dss_cons (ds_set 1 sc__law_kinds_b.nd rfl (by first | exact Or.inl rfl | exact Or.inr rfl) (d_op op_addA add_ok (d_var 1) (d_if (dt_val (d_callB call_isV (isV_ok TE.tab) (by rfl) T.n_isinstance (by decide +kernel) (da_cons (d_var 0) (da_cons (d_sta (by rfl) (TE.tab.at_ _ (by decide))) da_nil)))) (d_lst (da_cons d_str da_nil)) (d_lst da_nil)))) (dss_cons (ds_set 1 sc__law_kinds_b.nd rfl (by first | exact Or.inl rfl | exact Or.inr rfl) (d_op op_addA add_ok (d_var 1) (d_if (dt_val (d_callB call_isV (isV_ok TE.tab) (by rfl) T.n_isinstance (by decide +kernel) (da_cons (d_var 0) (da_cons (d_sta (by rfl) (TE.tab.at_ _ (by decide))) da_nil)))) (d_lst (da_cons d_str da_nil)) (d_lst da_nil)))) (dss_cons (ds_set 1 sc__law_kinds_b.nd rfl (by first | exact Or.inl rfl | exact Or.inr rfl) (d_op op_addA add_ok (d_var 1) (d_if (dt_val (d_callB call_isV (isV_ok TE.tab) (by rfl) T.n_isinstance (by decide +kernel) (da_cons (d_var 0) (da_cons (d_sta (by rfl) (TE.tab.at_ _ (by decide))) da_nil)))) (d_lst (da_cons d_str da_nil)) (d_lst da_nil)))) (dss_cons (ds_set 1 sc__law_kinds_b.nd rfl (by first | exact Or.inl rfl | exact Or.inr rfl) (d_op op_addA add_ok (d_var 1) (d_if (dt_val (d_callB call_isV (isV_ok TE.tab) (by rfl) T.n_isinstance (by decide +kernel) (da_cons (d_var 0) (da_cons (d_sta (by rfl) (TE.tab.at_ _ (by decide))) da_nil)))) (d_lst (da_cons d_str da_nil)) (d_lst da_nil)))) (dss_cons (ds_set 1 sc__law_kinds_b.nd rfl (by first | exact Or.inl rfl | exact Or.inr rfl) (d_op op_addA add_ok (d_var 1) (d_if (dt_val (d_callB call_isV (isV_ok TE.tab) (by rfl) T.n_isinstance (by decide +kernel) (da_cons (d_var 0) (da_cons (d_sta (by rfl) (TE.tab.at_ _ (by decide))) da_nil)))) (d_lst (da_cons d_str da_nil)) (d_lst da_nil)))) (dss_cons (ds_set 1 sc__law_kinds_b.nd rfl (by first | exact Or.inl rfl | exact Or.inr rfl) (d_op op_addA add_ok (d_var 1) (d_if (dt_val (d_callB call_isV (isV_ok TE.tab) (by rfl) T.n_isinstance (by decide +kernel) (da_cons (d_var 0) (da_cons (d_sta (by rfl) (TE.tab.at_ _ (by decide))) da_nil)))) (d_lst (da_cons d_str da_nil)) (d_lst da_nil)))) (dss_cons (ds_set 1 sc__law_kinds_b.nd rfl (by first | exact Or.inl rfl | exact Or.inr rfl) (d_op op_addA add_ok (d_var 1) (d_if (dt_val (d_callB call_isV (isV_ok TE.tab) (by rfl) T.n_isinstance (by decide +kernel) (da_cons (d_var 0) (da_cons (d_sta (by rfl) (TE.tab.at_ _ (by decide))) da_nil)))) (d_lst (da_cons d_str da_nil)) (d_lst da_nil)))) (dss_cons (ds_set 1 sc__law_kinds_b.nd rfl (by first | exact Or.inl rfl | exact Or.inr rfl) (d_op op_addA add_ok (d_var 1) (d_if (dt_val (d_callB call_isV (isV_ok TE.tab) (by rfl) T.n_isinstance (by decide +kernel) (da_cons (d_var 0) (da_cons (d_sta (by rfl) (TE.tab.at_ _ (by decide))) da_nil)))) (d_lst (da_cons d_str da_nil)) (d_lst da_nil)))) (dss_cons (ds_set 1 sc__law_kinds_b.nd rfl (by first | exact Or.inl rfl | exact Or.inr rfl) (d_op op_addA add_ok (d_var 1) (d_if (dt_val (d_callB call_isV (isV_ok TE.tab) (by rfl) T.n_isinstance (by decide +kernel) (da_cons (d_var 0) (da_cons (d_sta (by rfl) (TE.tab.at_ _ (by decide))) da_nil)))) (d_lst (da_cons d_str da_nil)) (d_lst da_nil)))) (dss_cons (ds_set 1 sc__law_kinds_b.nd rfl (by first | exact Or.inl rfl | exact Or.inr rfl) (d_op op_addA add_ok (d_var 1) (d_if (dt_val (d_callB call_isV (isV_ok TE.tab) (by rfl) T.n_isinstance (by decide +kernel) (da_cons (d_var 0) (da_cons (d_sta (by rfl) (TE.tab.at_ _ (by decide))) da_nil)))) (d_lst (da_cons d_str da_nil)) (d_lst da_nil)))) (dss_cons (ds_set 1 sc__law_kinds_b.nd rfl (by first | exact Or.inl rfl | exact Or.inr rfl) (d_op op_addA add_ok (d_var 1) (d_if (dt_val (d_callB call_isV (isV_ok TE.tab) (by rfl) T.n_isinstance (by decide +kernel) (da_cons (d_var 0) (da_cons (d_sta (by rfl) (TE.tab.at_ _ (by decide))) da_nil)))) (d_lst (da_cons d_str da_nil)) (d_lst da_nil)))) (dss_one (ds_ret (d_var 1))))))))))))))))))))
def g__law_made : PSt := sSeq (sSet 3 (fCall sp__law_made_a (fCons (fVar 0) (fCons (fVar 1) (fCons (fVar 2) (fNil)))))) (sSeq (sSet 3 (fIf (tB' (fBin (isG false) (fVar 3) (fC .non))) (fCall sp__law_made_b (fCons (fVar 0) (fCons (fVar 1) (fCons (fVar 2) (fNil))))) (fVar 3))) (sRet (fIf (tB' (fBin (isG false) (fVar 3) (fC .non))) (fCall sp__law_made_c (fCons (fVar 0) (fCons (fVar 1) (fCons (fVar 2) (fNil))))) (fVar 3))))
theorem body__law_made (T : Top K mg) (F__law_made_a : FnD P w K mg base tt 3 "_law_made_a" s__law_made_a pr__law_made_a sp__law_made_a) (F__law_made_b : FnD P w K mg base tt 3 "_law_made_b" s__law_made_b pr__law_made_b sp__law_made_b) (F__law_made_c : FnD P w K mg base tt 3 "_law_made_c" s__law_made_c pr__law_made_c sp__law_made_c) : ∀ f, Bdy P w K mg base tt 3 "_law_made" s__law_made nm__law_made f g__law_made := fun f cdv A outer s0 H E hr hgd tk hp => (dss_cons (ds_set 3 sc__law_made.nd rfl (by first | exact Or.inl rfl | exact Or.inr rfl) (d_call F__law_made_a hgd (hr.mono (by decide)) tk (by rfl) (da_cons (d_var 0) (da_cons (d_var 1) (da_cons (d_var 2) da_nil))))) (dss_cons (ds_set 3 sc__law_made.nd rfl (by first | exact Or.inl rfl | exact Or.inr rfl) (d_if (dt_cmp op_isA is_ok (d_var 3) d_non (nomark _)) (d_call F__law_made_b hgd (hr.mono (by decide)) tk (by rfl) (da_cons (d_var 0) (da_cons (d_var 1) (da_cons (d_var 2) da_nil)))) (d_var 3))) (dss_one (ds_ret (d_if (dt_cmp op_isA is_ok (d_var 3) d_non (nomark _)) (d_call F__law_made_c hgd (hr.mono (by decide)) tk (by rfl) (da_cons (d_var 0) (da_cons (d_var 1) (da_cons (d_var 2) da_nil)))) (d_var 3))))))
def g__law_is_own : PSt := sSeq (sSet 2 (fCB (isVG ERRS) (fCons (fVar 0) (fCons (fTup (fCons (fC (.ty "TypeError")) (fCons (fC (.ty "LookupError")) (fCons (fC (.ty "ArithmeticError")) (fCons (fC (.ty "AttributeError")) (fCons (fC (.ty "RuntimeError")) (fNil))))))) (fNil))))) (sSeq (sSet 3 (fBin addG (fCall sp__law_kinds_a (fCons (fVar 0) (fNil))) (fCall sp__law_kinds_b (fCons (fVar 0) (fNil))))) (sRet (fCall sp__law_is (fCons (fLst (fCons (fVar 3) (fCons (fCB (isVG ERRS) (fCons (fVar 0) (fCons (fSta "DueError") (fNil)))) (fCons (fCB (isVG ERRS) (fCons (fVar 0) (fCons (fC (.ty "ValueError")) (fNil)))) (fCons (fVar 2) (fNil)))))) (fCons (fLst (fCons (fLst (fCons (fVar 1) (fNil))) (fCons (fC (.bl true)) (fCons (fC (.bl true)) (fCons (fC (.bl false)) (fNil)))))) (fNil))))))
theorem body__law_is_own (T : Top K mg) (TE : TopE P K mg) (F__law_kinds_a : FnD P w K mg base tt 3 "_law_kinds_a" s__law_kinds_a pr__law_kinds_a sp__law_kinds_a) (F__law_kinds_b : FnD P w K mg base tt 3 "_law_kinds_b" s__law_kinds_b pr__law_kinds_b sp__law_kinds_b) (F__law_is : FnD P w K mg base tt 1 "_law_is" s__law_is pr__law_is sp__law_is) : ∀ f, Bdy P w K mg base tt 3 "_law_is_own" s__law_is_own nm__law_is_own f g__law_is_own := fun f cdv A outer s0 H E hr hgd tk hp => (dss_cons (ds_set 2 sc__law_is_own.nd rfl (by first | exact Or.inl rfl | exact Or.inr rfl) (d_callB call_isV (isV_ok TE.tab) (by rfl) T.n_isinstance (by decide +kernel) (da_cons (d_var 0) (da_cons (d_tup (da_cons (d_ty (n := "TypeError") (by rfl) T.n_TypeError (by decide +kernel)) (da_cons (d_ty (n := "LookupError") (by rfl) T.n_LookupError (by decide +kernel)) (da_cons (d_ty (n := "ArithmeticError") (by rfl) T.n_ArithmeticError (by decide +kernel)) (da_cons (d_ty (n := "AttributeError") (by rfl) T.n_AttributeError (by decide +kernel)) (da_cons (d_ty (n := "RuntimeError") (by rfl) T.n_RuntimeError (by decide +kernel)) da_nil)))))) da_nil)))) (dss_cons (ds_set 3 sc__law_is_own.nd rfl (by first | exact Or.inl rfl | exact Or.inr rfl) (d_op op_addA add_ok (d_call F__law_kinds_a hgd (hr.mono (by decide)) tk (by rfl) (da_cons (d_var 0) da_nil)) (d_call F__law_kinds_b hgd (hr.mono (by decide)) tk (by rfl) (da_cons (d_var 0) da_nil)))) (dss_one (ds_ret (d_call F__law_is hgd (hr.mono (by decide)) tk (by rfl) (da_cons (d_lst (da_cons (d_var 3) (da_cons (d_callB call_isV (isV_ok TE.tab) (by rfl) T.n_isinstance (by decide +kernel) (da_cons (d_var 0) (da_cons (d_sta (by rfl) (TE.tab.at_ _ (by decide))) da_nil))) (da_cons (d_callB call_isV (isV_ok TE.tab) (by rfl) T.n_isinstance (by decide +kernel) (da_cons (d_var 0) (da_cons (d_ty (n := "ValueError") (by rfl) T.n_ValueError (by decide +kernel)) da_nil))) (da_cons (d_var 2) da_nil))))) (da_cons (d_lst (da_cons (d_lst (da_cons (d_var 1) da_nil)) (da_cons d_bl (da_cons d_bl (da_cons d_bl da_nil))))) da_nil)))))))
def g__law_right : PSt := sSeq (sFor (fItems (fBin addG (fBin addG (fCall sp__law_given fNil) (fCall sp__law_index fNil)) (fLst (fCons (fC (.str "NotKept")) (fNil))))) (.nm 1) (sFor (fItems (fTup (fCons (fC (.bl false)) (fCons (fC (.bl true)) (fNil))))) (.nm 2) (sSeq (sSet 3 (fCall sp__law_value (fCons (fVar 0) (fNil)))) (sSeq (sSet 4 (fCall sp__law_made (fCons (fVar 1) (fCons (fVar 3) (fCons (fVar 2) (fNil)))))) (sSeq (sSet 5 (fIf (tB' (fBin (inG false) (fVar 1) (fCall sp__law_given fNil))) (fFldT ERRS "given" (fVar 4)) (fIf (tB' (fBin eqG (fVar 1) (fC (.str "NotKept")))) (fFldT ERRS "time" (fVar 4)) (fFldT ERRS "index" (fVar 4))))) (sIf (tOr' (tNot' (tB' (fCall sp__law_is (fCons (fVar 5) (fCons (fVar 3) (fNil)))))) (tNot' (tB' (fCall sp__law_is_own (fCons (fVar 4) (fCons (fVar 1) (fNil))))))) (sRet (fC (.bl false))) (sNil))))))) (sSeq (sSet 6 (fLst (fCons (fCall sp__law_is_own (fCons (fErr0 "Blind") (fCons (fC (.str "Blind")) (fNil)))) (fCons (fCall sp__law_is_own (fCons (fErr0 "Endless") (fCons (fC (.str "Endless")) (fNil)))) (fNil))))) (sSeq (sSet 6 (fBin addG (fVar 6) (fLst (fCons (fCall sp__law_is_own (fCons (fErr0 "NothingToUndo") (fCons (fC (.str "NothingToUndo")) (fNil)))) (fCons (fCall sp__law_is_own (fCons (fErr0 "CannotStrike") (fCons (fC (.str "CannotStrike")) (fNil)))) (fNil)))))) (sRet (fBin eqG (fVar 6) (fBin mulAG (fLst (fCons (fC (.bl true)) (fNil))) (fC (.int 4)))))))
theorem body__law_right (T : Top K mg) (TE : TopE P K mg) (F__law_given : FnD P w K mg base tt 1 "_law_given" s__law_given pr__law_given sp__law_given) (F__law_index : FnD P w K mg base tt 1 "_law_index" s__law_index pr__law_index sp__law_index) (F__law_value : FnD P w K mg base tt 3 "_law_value" s__law_value pr__law_value sp__law_value) (F__law_made : FnD P w K mg base tt 4 "_law_made" s__law_made pr__law_made sp__law_made) (F__law_is : FnD P w K mg base tt 1 "_law_is" s__law_is pr__law_is sp__law_is) (F__law_is_own : FnD P w K mg base tt 4 "_law_is_own" s__law_is_own pr__law_is_own sp__law_is_own) : ∀ f, Bdy P w K mg base tt 4 "_law_right" s__law_right nm__law_right f g__law_right := fun f cdv A outer s0 H E hr hgd tk hp => (dss_cons (ds_for hp rfl (di_seq (d_op op_addA add_ok (d_op op_addA add_ok (d_call0 F__law_given hgd (hr.mono (by decide)) tk (by rfl)) (d_call0 F__law_index hgd (hr.mono (by decide)) tk (by rfl))) (d_lst (da_cons d_str da_nil)))) (g_nm 1 sc__law_right.nd rfl (by first | exact Or.inl rfl | exact Or.inr rfl)) (dss_one (ds_for hp rfl (di_seq (d_tup (da_cons d_bl (da_cons d_bl da_nil)))) (g_nm 2 sc__law_right.nd rfl (by first | exact Or.inl rfl | exact Or.inr rfl)) (dss_cons (ds_set 3 sc__law_right.nd rfl (by first | exact Or.inl rfl | exact Or.inr rfl) (d_call F__law_value hgd (hr.mono (by decide)) tk (by rfl) (da_cons (d_var 0) da_nil))) (dss_cons (ds_set 4 sc__law_right.nd rfl (by first | exact Or.inl rfl | exact Or.inr rfl) (d_call F__law_made hgd (hr.mono (by decide)) tk (by rfl) (da_cons (d_var 1) (da_cons (d_var 3) (da_cons (d_var 2) da_nil))))) (dss_cons (ds_set 5 sc__law_right.nd rfl (by first | exact Or.inl rfl | exact Or.inr rfl) (d_if (dt_cmp op_inA in_ok (d_var 1) (d_call0 F__law_given hgd (hr.mono (by decide)) tk (by rfl)) rfl) (d_fld TE.tab (by decide) (d_var 4)) (d_if (dt_cmp (op_eqS hr.units) eq_ok (d_var 1) d_str (nomark _)) (d_fld TE.tab (by decide) (d_var 4)) (d_fld TE.tab (by decide) (d_var 4))))) (dss_one (ds_if (dw_pt (dw_or (dt_not (dt_val (d_call F__law_is hgd (hr.mono (by decide)) tk (by rfl) (da_cons (d_var 5) (da_cons (d_var 3) da_nil))))) (dw_or1 (dt_not (dt_val (d_call F__law_is_own hgd (hr.mono (by decide)) tk (by rfl) (da_cons (d_var 4) (da_cons (d_var 1) da_nil)))))))) (dss_one (ds_ret d_bl)) dss_nil)))))))) (dss_cons (ds_set 6 sc__law_right.nd rfl (by first | exact Or.inl rfl | exact Or.inr rfl) (d_lst (da_cons (d_call F__law_is_own hgd (hr.mono (by decide)) tk (by rfl) (da_cons (d_err0 F.excBase_ValueError (TE.z_Blind).1 (TE.tab.at_ _ (by decide)) (TE.z_Blind).2 (by rfl)) (da_cons d_str da_nil))) (da_cons (d_call F__law_is_own hgd (hr.mono (by decide)) tk (by rfl) (da_cons (d_err0 F.excBase_ValueError (TE.z_Endless).1 (TE.tab.at_ _ (by decide)) (TE.z_Endless).2 (by rfl)) (da_cons d_str da_nil))) da_nil)))) (dss_cons (ds_set 6 sc__law_right.nd rfl (by first | exact Or.inl rfl | exact Or.inr rfl) (d_op op_addA add_ok (d_var 6) (d_lst (da_cons (d_call F__law_is_own hgd (hr.mono (by decide)) tk (by rfl) (da_cons (d_err0 F.excBase_ValueError (TE.z_NothingToUndo).1 (TE.tab.at_ _ (by decide)) (TE.z_NothingToUndo).2 (by rfl)) (da_cons d_str da_nil))) (da_cons (d_call F__law_is_own hgd (hr.mono (by decide)) tk (by rfl) (da_cons (d_err0 F.excBase_ValueError (TE.z_CannotStrike).1 (TE.tab.at_ _ (by decide)) (TE.z_CannotStrike).2 (by rfl)) (da_cons d_str da_nil))) da_nil))))) (dss_one (ds_ret (d_cmp (op_eqS hr.units) eq_ok (d_var 6) (d_op op_mulA mulA_ok (d_lst (da_cons d_bl da_nil)) d_int) (nomark _)))))))
def g_law : PSt := sRet (fCB allG (fCons (fLc (fRng1 (fCons (fCB maxG (fCons (fC (.int 1)) (fCons (fCB minG (fCons (fCB lenG (fCons (fVar 0) (fNil))) (fCons (fC (.int 2)) (fNil)))) (fNil)))) (fNil))) (.nm 1) (tYes') (fWell sp__law_right sp__law_well (fCons (fVar 0) (fCons (fVar 1) (fNil)))) [1]) (fNil)))
theorem body_law (T : Top K mg) (F__law_right : FnD P w K mg base tt 5 "_law_right" s__law_right pr__law_right sp__law_right) (F__law_well : FnD P w K mg base tt 1 "_law_well" s__law_well pr__law_well sp__law_well) : ∀ f, Bdy P w K mg base tt 5 "law" s_law nm_law f g_law := fun f cdv A outer s0 H E hr hgd tk hp => (dss_one (ds_ret (d_callB (cr_all rfl) all_ok (by rfl) T.n_all (by decide +kernel) (da_cons (d_lc (own := [("lap", 1)]) (t := .nm 1) rfl sc_law.nd (di_rng1 (by rfl) T.n_range (da_cons (d_callB (call_max2 rfl) int2_ok (by rfl) T.n_max (by decide +kernel) (da_cons d_int (da_cons (d_callB (call_min2 rfl) int2_ok (by rfl) T.n_min (by decide +kernel) (da_cons (d_callB c_len len_ok (by rfl) T.n_len (by decide +kernel) (da_cons (d_var 0) da_nil)) (da_cons d_int da_nil))) da_nil))) da_nil)) (blkOk_by (N := nm_law) (sc := defScope s_law) (by decide +kernel)) (fun _ _ _ _ _ => (g_nm 1 sc_law.nd rfl (by first | exact Or.inl rfl | exact Or.inr rfl))) (fun _ _ _ _ _ => dts_nil) (fun _ _ _ _ _ => (d_well F__law_right F__law_well hgd (hr.mono (by decide)) (hr.mono (by decide)) takes0 (by rfl) (by rfl) (da_cons (d_var 0) (da_cons (d_var 1) da_nil))))) da_nil))))
end
end K01

namespace K01
open PySem PySem.Spec L2 PL
local macro_rules | `(tactic| walk_at "pl") => `(tactic| simp only [sNil, sSeq, sRet, sDrop, sIf, sSet, sAsg, sNever, fVar, fC, fBin, fChain, fNot, fAnd, fOr, fNeg, fCB, fCall, fCallK, fNil, fCons, fStar, fTup, fLst, fIf, fSl, fPart, fNo, tB', tNot', tAnd', tOr', tYes', fLc, fItems, fRng1, fRng2, fZip, fErr, fErr0, fSta, fFldT, fDct0, fDct1,
  List.getElem?_cons_zero, List.getElem?_cons_succ, Option.some.injEq, Sl.dt.injEq, Sl.ow.injEq, exists_eq_left', exists_eq_left, List.set_cons_zero, List.set_cons_succ])

theorem sat__law_draw : ∀ ds q x, sp__law_draw ds q x → ds.length = pr__law_draw.length ∧ g__law_draw ⟨fun _ => q .non, q, fun _ => False, fun _ => False, fun _ e => x e⟩ (startD nm__law_draw ds) := by
  rintro ds q x ⟨top, rfl, h0, h1, hq⟩
  refine ⟨rfl, ?_⟩
  show g__law_draw _ [.dt .well, .dt (.int top), .no, .no]
  unfold g__law_draw
  walk_at "pl"
  have htop : 0 < top := h0
  have q1 : ∀ n : Int, q (.int (n % top)) := fun n => hq _ (Int.emod_nonneg _ (by omega)) (Int.emod_lt_of_pos _ htop)
  refine .inl ⟨rfl, fun n0 hn0 => ⟨trivial, _, rfl, fun _ => .inl ⟨rfl, fun n0 hn0 => ⟨⟨htop, h1⟩, ?_⟩⟩, fun _ => ?_⟩⟩
  · exact ⟨_, rfl, rfl, _, _, rfl, rfl, n0 / top, rfl, .inl ⟨rfl, Int.ediv_nonneg hn0 (by omega)⟩, _, _, rfl, rfl, _, rfl, q1 _⟩
  refine well2 fun n2 => ⟨rfl, _, rfl, .inr (.inr rfl), ?_⟩
  walk_at "pl"
  refine well1 fun n1 h10 h11 => mul_i (.inr (by decide)) (well2 fun n2 => mul_i (.inl (by decide)) (toI (mod_i (by decide) ?_)))
  generalize hm : (n1 * 40009 + 15013 * n2) % 2147483629 = m
  have hm0 : 0 ≤ m ∧ m < 2147483629 := by subst hm; exact ⟨Int.emod_nonneg _ (by decide), Int.emod_lt_of_pos _ (by decide)⟩
  refine toI (mod_i (by decide) (mul_i (.inl ⟨by omega, by omega⟩) (well2 fun n2 => toI (mod_i (by decide) ?_))))
  refine ⟨rfl, _, rfl, .inr (.inl ⟨rfl, Int.emod_nonneg _ (by decide), Int.lt_trans (Int.emod_lt_of_pos _ (by decide)) (by decide)⟩), ?_⟩
  walk_at "pl"
  exact well1 fun n1 h10 h11 => div_i ⟨by decide, by decide⟩ (toI (mod_i htop (q1 _)))
theorem ix_t {xs : List D} {j : Nat} {d : D} {q : D → Prop} (h : xs[j]? = some d) (hq : q d) : ixG (.tup xs) (.int (j : Int)) q := ⟨d, atI_nat h, hq⟩
theorem sat__law_of : ∀ ds q x, sp__law_of ds q x → ds.length = pr__law_of.length ∧ g__law_of ⟨fun _ => q .non, q, fun _ => False, fun _ => False, fun _ e => x e⟩ (startD nm__law_of ds) := by
  rintro ds q x ⟨xs, rfl, h0, h1, hq⟩
  refine ⟨rfl, ?_⟩
  show g__law_of _ [.dt .well, .dt (.tup xs)]
  unfold g__law_of
  walk_at "pl"
  refine ⟨_, rfl, by omega, by omega, fun k hk0 hk1 => ?_⟩
  obtain ⟨j, rfl⟩ : ∃ j : Nat, k = j := ⟨k.toNat, by omega⟩
  have hj : j < xs.length := by omega
  exact ix_t (j := j) (List.getElem?_eq_getElem hj) (hq _ (List.getElem_mem hj))
theorem sat__law_well : ∀ ds q x, sp__law_well ds q x → ds.length = pr__law_well.length ∧ g__law_well ⟨fun _ => q .non, q, fun _ => False, fun _ => False, fun _ e => x e⟩ (startD nm__law_well ds) := by
  rintro ds q x ⟨ns, t, rfl, hl, h0, hq⟩
  refine ⟨rfl, ?_⟩
  show g__law_well _ [.dt (.scr ns), .dt (.int t), .no, .no, .no]
  unfold g__law_well
  walk_at "pl"
  refine mul_i (.inl (by decide)) (add_int ?_)
  unfold sFor
  walk_at "pl"
  refine ⟨9, rfl, _, rfl, ?_⟩
  have e12 : cutD (ns.map D.int) none (some 9) = (ns.take 9).map D.int := by rw [List.map_take]; exact cut_to _ 9
  rw [e12]
  refine loop_inv (fun i ρ => ∃ (m : Int) (c : Sl), ρ = [.dt (.scr ns), .dt (.int t), .dt (.int m), c, .no]) _ 0 _ ⟨_, _, rfl⟩ ?_ ?_
  · rintro i d ρ hd ⟨m, c, rfl⟩ N hN
    rw [List.getElem?_map] at hd
    obtain ⟨n, hn, rfl⟩ := Option.map_eq_some_iff.mp hd
    simp only [tgE]
    walk_at "pl"
    refine mul_i (.inr (by decide)) (toI (mod_i (by decide) (add_int (add_int (toI (mod_i (by decide) (hN _ ⟨_, _, rfl⟩)))))))
  · rintro ρ ⟨m, c, rfl⟩
    walk_at "pl"
    have ab : ∀ n : Int, 0 ≤ (if n < 0 then -n else n) := fun n => by split <;> omega
    have b0 : ∀ n : Int, 0 ≤ n % 2147483629 := fun n => Int.emod_nonneg _ (by decide)
    have b1 : ∀ n : Int, n % 2147483629 < 2147483648 := fun n => Int.lt_trans (Int.emod_lt_of_pos _ (by decide)) (by decide)
    have fin : ∀ n : Int, mulG (.int m) (.int 61) fun d => toIntG [.int n] fun d2 => True := fun n => mul_i (.inr (by decide)) trivial
    refine ⟨trivial, _, rfl, wq (fun h => ?_) (fun h => ?_)⟩
    · have ht : t < (ns.length : Int) := of_decide_eq_true h
      obtain ⟨j, rfl⟩ : ∃ j : Nat, t = j := ⟨t.toNat, by omega⟩
      have hj : j < ns.length := by omega
      refine ⟨ns[j], atI_nat (List.getElem?_eq_getElem hj), toI ?_⟩
      refine mul_i (.inr (by decide)) (toI (mod_i (by decide) (mul_i (.inr (by decide)) (add_int (add_int (toI (mod_i (by decide) ⟨trivial, _, rfl, wq (fun _ => wT ⟨limN (by simp), hq _ _ _ (ab _) (b0 _) (b1 _)⟩) (fun _ => ⟨⟨by decide, by decide, by decide⟩, trivial, _, rfl, wq (fun _ => ⟨limN (by simp), hq _ _ _ (ab _) (b0 _) (b1 _)⟩) (fun _ => ⟨limN (by simp), hq _ _ _ (by decide) (b0 _) (b1 _)⟩)⟩)⟩)))))))
    · refine mul_i (.inr (by decide)) (toI (mod_i (by decide) (mul_i (.inr (by decide)) (add_int (add_int (toI (mod_i (by decide) ⟨trivial, _, rfl, wq (fun _ => wT ⟨limN (by simp), hq _ _ _ (ab _) (b0 _) (b1 _)⟩) (fun _ => ⟨⟨by decide, by decide, by decide⟩, trivial, _, rfl, wq (fun _ => ⟨limN (by simp), hq _ _ _ (ab _) (b0 _) (b1 _)⟩) (fun _ => ⟨limN (by simp), hq _ _ _ (by decide) (b0 _) (b1 _)⟩)⟩)⟩)))))))
theorem sat__law_is : ∀ ds q x, sp__law_is ds q x → ds.length = pr__law_is.length ∧ g__law_is ⟨fun _ => q .non, q, fun _ => False, fun _ => False, fun _ e => x e⟩ (startD nm__law_is ds) := by
  rintro ds q x ⟨a, b, rfl, ha, hb, hq⟩
  refine ⟨rfl, ?_⟩
  show g__law_is _ [.dt a, .dt b]
  unfold g__law_is
  walk_at "pl"
  refine ⟨ha, hb, .s, ?_⟩
  rw [eqv_str]
  exact hq
theorem sat__law_given : ∀ ds q x, sp__law_given ds q x → ds.length = pr__law_given.length ∧ g__law_given ⟨fun _ => q .non, q, fun _ => False, fun _ => False, fun _ e => x e⟩ (startD nm__law_given ds) := by
  rintro ds q x ⟨rfl, hq⟩
  refine ⟨rfl, ?_⟩
  unfold g__law_given
  walk_at "pl"
  exact ⟨limN (by simp), hq⟩
theorem sat__law_index : ∀ ds q x, sp__law_index ds q x → ds.length = pr__law_index.length ∧ g__law_index ⟨fun _ => q .non, q, fun _ => False, fun _ => False, fun _ e => x e⟩ (startD nm__law_index ds) := by
  rintro ds q x ⟨rfl, hq⟩
  refine ⟨rfl, ?_⟩
  unfold g__law_index
  walk_at "pl"
  exact ⟨limN (by simp), hq⟩
end K01

namespace K01
open PySem PySem.Spec L2 PL
local macro_rules | `(tactic| walk_at "pl") => `(tactic| simp only [sNil, sSeq, sRet, sDrop, sIf, sSet, sAsg, sNever, fVar, fC, fBin, fChain, fNot, fAnd, fOr, fNeg, fCB, fCall, fCallK, fNil, fCons, fStar, fTup, fLst, fIf, fSl, fPart, fNo, tB', tNot', tAnd', tOr', tYes', fLc, fItems, fRng1, fRng2, fZip, fErr, fErr0, fSta, fFldT, fDct0, fDct1,
  List.getElem?_cons_zero, List.getElem?_cons_succ, Option.some.injEq, Sl.dt.injEq, Sl.ow.injEq, exists_eq_left', exists_eq_left, List.set_cons_zero, List.set_cons_succ])

/-! # the making of an error, by its word -/
def madeG : List (Str × Str) → PSt
  | [] => sRet (fC .non)
  | (w, f) :: r => sSeq (sIf (tB' (fBin eqG (fVar 0) (fC (.str w)))) (sRet (fIf (tB' (fVar 2)) (fErr w f (fVar 1)) (fErr w f (fVar 1)))) sNil) (madeG r)
theorem made_ok {c : Str} {d : D} {b : Bool} {P : Pn} : ∀ l : List (Str × Str), P.rt (match l.lookup c with | some f => .oth (.err c [f]) [d] | none => .non) → madeG l P [.dt (.str c), .dt d, .dt (.bl b)]
  | [], h => by
    unfold madeG
    walk_at "pl"
    exact h
  | (w, f) :: r, h => by
    unfold madeG
    walk_at "pl"
    refine ⟨.s, ?_⟩
    rw [eqv_str]
    refine ⟨_, rfl, fun e => ?_, fun e => ?_⟩
    · have e := of_decide_eq_true e
      subst e
      have h2 : P.rt (.oth (.err c [f]) [d]) := by simpa [List.lookup] using h
      exact ⟨b, rfl, fun _ => h2, fun _ => h2⟩
    · have e := of_decide_eq_false e
      have e2 : (c == w) = false := beq_eq_false_iff_ne.mpr e
      refine made_ok r ?_
      rw [show List.lookup c ((w, f) :: r) = List.lookup c r by simp [List.lookup, e2]] at h
      exact h
def fl (l : List Str) : List (Str × Str) := l.map fun w => (w, fldOf w)
theorem fl_look (c : Str) : ∀ l : List Str, (fl l).lookup c = if c ∈ l then some (fldOf c) else none
  | [] => by simp [fl]
  | w :: r => by
    have ih := fl_look c r
    show List.lookup c ((w, fldOf w) :: fl r) = _
    by_cases e : c = w
    · subst e; simp [List.lookup]
    · have e2 : (c == w) = false := beq_eq_false_iff_ne.mpr e
      rw [show List.lookup c ((w, fldOf w) :: fl r) = List.lookup c (fl r) by simp [List.lookup, e2], ih]
      simp [e]
theorem made_all {l : List Str} {g : PSt} (hg : g = madeG (fl l)) : ∀ ds q x, spMade l ds q x → ds.length = 3 ∧ g ⟨fun _ => q .non, q, fun _ => False, fun _ => False, fun _ e => x e⟩ (ds.map .dt) := by
  rintro ds q x ⟨c, d, b, rfl, hq⟩
  refine ⟨rfl, ?_⟩
  rw [hg]
  refine made_ok (fl l) ?_
  rw [fl_look]
  by_cases h : c ∈ l
  · rw [if_pos h] at hq ⊢; exact hq
  · rw [if_neg h] at hq ⊢; exact hq
theorem sat__law_made_a : ∀ ds q x, sp__law_made_a ds q x → ds.length = pr__law_made_a.length ∧ g__law_made_a ⟨fun _ => q .non, q, fun _ => False, fun _ => False, fun _ e => x e⟩ (startD nm__law_made_a ds) := fun ds q x h => by
  obtain ⟨h1, h2⟩ := made_all (l := madeA) (g := g__law_made_a) (by rfl) ds q x h
  obtain ⟨c, d, b, rfl, _⟩ := h
  exact ⟨h1, h2⟩
theorem sat__law_made_b : ∀ ds q x, sp__law_made_b ds q x → ds.length = pr__law_made_b.length ∧ g__law_made_b ⟨fun _ => q .non, q, fun _ => False, fun _ => False, fun _ e => x e⟩ (startD nm__law_made_b ds) := fun ds q x h => by
  obtain ⟨h1, h2⟩ := made_all (l := madeB) (g := g__law_made_b) (by rfl) ds q x h
  obtain ⟨c, d, b, rfl, _⟩ := h
  exact ⟨h1, h2⟩
theorem sat__law_made_c : ∀ ds q x, sp__law_made_c ds q x → ds.length = pr__law_made_c.length ∧ g__law_made_c ⟨fun _ => q .non, q, fun _ => False, fun _ => False, fun _ e => x e⟩ (startD nm__law_made_c ds) := fun ds q x h => by
  obtain ⟨h1, h2⟩ := made_all (l := madeC) (g := g__law_made_c) (by rfl) ds q x h
  obtain ⟨c, d, b, rfl, _⟩ := h
  exact ⟨h1, h2⟩
/-! # the words of the classes of an error -/
def kOne (w : Str) : PX := fIf (tB' (fCB (isVG ERRS) (fCons (fVar 0) (fCons (fSta w) fNil)))) (fLst (fCons (fC (.str w)) fNil)) (fLst fNil)
def kindsG : List Str → PSt
  | [] => sRet (fVar 1)
  | w :: r => sSeq (sSet 1 (fBin addG (fVar 1) (kOne w))) (kindsG r)
theorem kOne_ok {e : D} {s : Sl} {c w : Str} {q : D → Prop} {x : Xn → Prop} (he : errCls e = some c) (hc : c ∈ ERRS) (hw : w ∈ ERRS) (h : q (.lst (([w].filter fun n => c == n).map .str))) : kOne w [.dt e, s] q x := by
  unfold kOne
  walk_at "pl"
  refine ⟨c, he, hc, List.mem_cons_of_mem _ hw, ?_⟩
  have hd : (w == ("DueError" : Str)) = false := by
    have : ∀ w ∈ ERRS, (w == ("DueError" : Str)) = false := by decide +kernel
    exact this w hw
  rw [hd, Bool.or_false]
  refine ⟨_, rfl, fun e => ?_, fun e => ?_⟩
  · refine ⟨limN (by simp), ?_⟩
    simp only [List.filter, e] at h
    exact h
  · refine ⟨limN (by simp), ?_⟩
    simp only [List.filter, e] at h
    exact h
theorem kinds_ok {e : D} {c : Str} {P : Pn} (he : errCls e = some c) (hc : c ∈ ERRS) : ∀ (l : List Str) (acc : List D), (∀ w ∈ l, w ∈ ERRS) → acc.length + l.length ≤ 1000 → P.rt (.lst (acc ++ (l.filter fun n => c == n).map .str)) → kindsG l P [.dt e, .dt (.lst acc)]
  | [], acc, _, _, h => by
    unfold kindsG
    walk_at "pl"
    simpa using h
  | w :: r, acc, hl, hn, h => by
    unfold kindsG
    simp only [sSeq, sSet, fBin, fVar, List.getElem?_cons_succ, List.getElem?_cons_zero, Option.some.injEq, Sl.dt.injEq, exists_eq_left']
    refine kOne_ok he hc (hl w (List.mem_cons_self ..)) ?_
    have hf : ([w].filter fun n => c == n).length ≤ 1 := List.length_filter_le _ _
    refine ⟨?_, ?_⟩
    · rw [List.length_map]
      have : (w :: r).length = r.length + 1 := rfl
      exact limN (by omega)
    refine kinds_ok he hc r _ (fun y hy => hl y (List.mem_cons_of_mem _ hy)) ?_ ?_
    · rw [List.length_append, List.length_map]
      have : (w :: r).length = r.length + 1 := rfl
      omega
    · have e3 : (w :: r).filter (fun n => c == n) = [w].filter (fun n => c == n) ++ r.filter (fun n => c == n) := by
        rw [← List.filter_append]; rfl
      rw [e3, List.map_append, ← List.append_assoc] at h
      exact h
theorem kinds_all {w : Str} {l : List Str} {g : PSt} (hg : g = sSeq (sSet 1 (kOne w)) (kindsG l)) (hm : ∀ y ∈ w :: l, y ∈ ERRS) (hn : l.length ≤ 100) : ∀ ds q x, spKinds (w :: l) ds q x → ds.length = 1 ∧ g ⟨fun _ => q .non, q, fun _ => False, fun _ => False, fun _ e => x e⟩ (ds.map .dt ++ [.no]) := by
  rintro ds q x ⟨e, c, rfl, he, hc, hq⟩
  refine ⟨rfl, ?_⟩
  rw [hg]
  simp only [sSeq, sSet]
  refine kOne_ok he hc (hm w (List.mem_cons_self ..)) ?_
  have hf : ([w].filter fun n => c == n).length ≤ 1 := List.length_filter_le _ _
  refine kinds_ok he hc l _ (fun y hy => hm y (List.mem_cons_of_mem _ hy)) (by rw [List.length_map]; omega) ?_
  have e3 : (w :: l).filter (fun n => c == n) = [w].filter (fun n => c == n) ++ l.filter (fun n => c == n) := by
    rw [← List.filter_append]; rfl
  rw [e3, List.map_append] at hq
  exact hq
theorem sat__law_kinds_a : ∀ ds q x, sp__law_kinds_a ds q x → ds.length = pr__law_kinds_a.length ∧ g__law_kinds_a ⟨fun _ => q .non, q, fun _ => False, fun _ => False, fun _ e => x e⟩ (startD nm__law_kinds_a ds) := fun ds q x h => by
  obtain ⟨h1, h2⟩ := kinds_all (g := g__law_kinds_a) (by rfl) (by decide +kernel) (by decide) ds q x h
  obtain ⟨e, c, rfl, _⟩ := h
  exact ⟨h1, h2⟩
theorem sat__law_kinds_b : ∀ ds q x, sp__law_kinds_b ds q x → ds.length = pr__law_kinds_b.length ∧ g__law_kinds_b ⟨fun _ => q .non, q, fun _ => False, fun _ => False, fun _ e => x e⟩ (startD nm__law_kinds_b ds) := fun ds q x h => by
  obtain ⟨h1, h2⟩ := kinds_all (g := g__law_kinds_b) (by rfl) (by decide +kernel) (by decide) ds q x h
  obtain ⟨e, c, rfl, _⟩ := h
  exact ⟨h1, h2⟩
end K01

namespace K01
open PySem PySem.Spec L2 PL
local macro_rules | `(tactic| walk_at "pl") => `(tactic| simp only [sNil, sSeq, sRet, sDrop, sIf, sSet, sAsg, sNever, fVar, fC, fBin, fChain, fNot, fAnd, fOr, fNeg, fCB, fCall, fCallK, fNil, fCons, fStar, fTup, fLst, fIf, fSl, fPart, fNo, tB', tNot', tAnd', tOr', tYes', fLc, fItems, fRng1, fRng2, fZip, fErr, fErr0, fSta, fFldT, fDct0, fDct1,
  List.getElem?_cons_zero, List.getElem?_cons_succ, Option.some.injEq, Sl.dt.injEq, Sl.ow.injEq, exists_eq_left', exists_eq_left, List.set_cons_zero, List.set_cons_succ])

abbrev values : List D := [.non, .bl true, .bl false, .int 0, .int (-1), .int 7, .int (10 ^ (50 : Int).toNat), .str "", .str "ann", .str " ", .tup [], .tup [.int 1, .tup [.str "a"]], .lst [], .oth (.dct []) [], .lst [.str "x"], .oth (.dct [.inr "a"]) [.int 1], .tup [.non, .bl true]]
theorem values_show : ∀ d ∈ values, showOk d = true := by
  have h : values.all showOk = true := by decide +kernel
  exact fun d hd => List.all_eq_true.mp h d hd
theorem sat__law_value : ∀ ds q x, sp__law_value ds q x → ds.length = pr__law_value.length ∧ g__law_value ⟨fun _ => q .non, q, fun _ => False, fun _ => False, fun _ e => x e⟩ (startD nm__law_value ds) := by
  rintro ds q x ⟨rfl, hq⟩
  refine ⟨rfl, ?_⟩
  show g__law_value _ [.dt .well, .no]
  unfold g__law_value
  walk_at "pl"
  refine ⟨1, rfl, ⟨by decide, by decide, by decide⟩, ?_⟩
  repeat' refine ⟨limN (by simp), ?_⟩
  exact ⟨values, rfl, by decide, by decide, fun d hd => hq d (values_show d hd)⟩
theorem sat__law_made : ∀ ds q x, sp__law_made ds q x → ds.length = pr__law_made.length ∧ g__law_made ⟨fun _ => q .non, q, fun _ => False, fun _ => False, fun _ e => x e⟩ (startD nm__law_made ds) := by
  rintro ds q x ⟨c, d, b, rfl, hc, hq⟩
  refine ⟨rfl, ?_⟩
  show g__law_made _ [.dt (.str c), .dt d, .dt (.bl b), .no]
  unfold g__law_made
  walk_at "pl"
  refine ⟨c, d, b, rfl, ?_⟩
  by_cases ha : c ∈ madeA
  · rw [if_pos ha]
    refine ⟨false, rfl, (fun z => by cases z), fun _ => ?_⟩
    exact ⟨false, rfl, (fun z => by cases z), fun _ => hq⟩
  · rw [if_neg ha]
    refine ⟨true, rfl, fun _ => ⟨c, d, b, rfl, ?_⟩, fun z => by cases z⟩
    by_cases hb : c ∈ madeB
    · rw [if_pos hb]
      exact ⟨false, rfl, (fun z => by cases z), fun _ => hq⟩
    · rw [if_neg hb]
      refine ⟨true, rfl, fun _ => ⟨c, d, b, rfl, ?_⟩, fun z => by cases z⟩
      have h : ∀ c ∈ allA, c ∉ madeA → c ∉ madeB → c ∈ madeC := by decide +kernel
      rw [if_pos (h c hc ha hb)]
      exact hq
theorem kinds_one : ∀ c ∈ ERRS, (kindsA.filter fun n => c == n) ++ (kindsB.filter fun n => c == n) = [c] := by decide +kernel
theorem own_show : ∀ c ∈ ERRS, showOk (.lst [.lst [.str c], .bl true, .bl true, .bl false]) = true := by decide +kernel
theorem sat__law_is_own : ∀ ds q x, sp__law_is_own ds q x → ds.length = pr__law_is_own.length ∧ g__law_is_own ⟨fun _ => q .non, q, fun _ => False, fun _ => False, fun _ e => x e⟩ (startD nm__law_is_own ds) := by
  rintro ds q x ⟨e, c, rfl, he, hc, hq⟩
  refine ⟨rfl, ?_⟩
  show g__law_is_own _ [.dt e, .dt (.str c), .no, .no]
  unfold g__law_is_own
  walk_at "pl"
  refine ⟨limN (by simp), c, he, hc, ["TypeError", "LookupError", "ArithmeticError", "AttributeError", "RuntimeError"], rfl, by decide, ?_⟩
  walk_at "pl"
  refine ⟨e, c, rfl, he, hc, e, c, rfl, he, hc, ?_⟩
  have fl : ∀ l : List Str, l.length ≤ 100 → (((l.filter fun n => c == n).map D.str).length ≤ 100) := fun l h => by
    rw [List.length_map]
    exact Nat.le_trans (List.length_filter_le _ _) h
  refine ⟨?_, ?_⟩
  · have h1 := fl kindsA (by decide)
    have h2 := fl kindsB (by decide)
    exact limN (by omega)
  rw [← List.map_append, kinds_one c hc]
  walk_at "pl"
  refine ⟨c, he, hc, by decide, ?_⟩
  refine ⟨c, he, hc, by decide, ?_⟩
  refine ⟨limN (by simp), limN (by simp), limN (by simp), _, _, rfl, ?_, own_show c hc, ?_⟩
  · rw [show (c == ("DueError" : Str) || ("DueError" : Str) == ("DueError" : Str)) = true by simp]
    exact own_show c hc
  · rw [show (c == ("DueError" : Str) || ("DueError" : Str) == ("DueError" : Str)) = true by simp]
    have e1 : ("ValueError" == "ValueError") = true := by decide
    have e2 : (["TypeError", "LookupError", "ArithmeticError", "AttributeError", "RuntimeError"].any fun t => t == "ValueError") = false := by decide
    rw [e1, e2, show List.map D.str [c] = [D.str c] from rfl, decide_eq_true (rfl : shownA (.lst [.lst [.str c], .bl true, .bl true, .bl false]) = _)]
    exact hq
end K01

namespace K01
open PySem PySem.Spec L2 PL
local macro_rules | `(tactic| walk_at "pl") => `(tactic| simp only [sNil, sSeq, sRet, sDrop, sIf, sSet, sAsg, sNever, fVar, fC, fBin, fChain, fNot, fAnd, fOr, fNeg, fCB, fCall, fCallK, fNil, fCons, fStar, fTup, fLst, fIf, fSl, fPart, fNo, tB', tNot', tAnd', tOr', tYes', fLc, fItems, fRng1, fRng2, fZip, fErr, fErr0, fSta, fFldT, fDct0, fDct1,
  List.getElem?_cons_zero, List.getElem?_cons_succ, Option.some.injEq, Sl.dt.injEq, Sl.ow.injEq, exists_eq_left', exists_eq_left, List.set_cons_zero, List.set_cons_succ])

theorem all_errs : ∀ w ∈ allA, w ∈ ERRS := by decide +kernel
theorem in_given : ∀ w ∈ allA, ((givenA.map D.str).any fun y => feq y (.str w)) = decide (w ∈ givenA) := by decide +kernel
theorem fld_given : ∀ w ∈ allA, w ∈ givenA → fldOf w = "given" := by decide +kernel
theorem fld_time : fldOf "NotKept" = "time" := by decide +kernel
theorem fld_index : ∀ w ∈ allA, w ∉ givenA → w ≠ ("NotKept" : Str) → fldOf w = "index" := by decide +kernel
theorem given_flat : (givenA.map D.str).all flat = true := by decide
theorem sat__law_right : ∀ ds q x, sp__law_right ds q x → ds.length = pr__law_right.length ∧ g__law_right ⟨fun _ => q .non, q, fun _ => False, fun _ => False, fun _ e => x e⟩ (startD nm__law_right ds) := by
  rintro ds q x ⟨rfl, hq⟩
  refine ⟨rfl, ?_⟩
  show g__law_right _ [.dt .well, .no, .no, .no, .no, .no, .no]
  unfold g__law_right
  simp only [sSeq]
  unfold sFor
  simp only [fItems, fBin, fCall, fNil, fLst, fCons, fC]
  refine ⟨rfl, rfl, ?_⟩
  refine ⟨limN (by decide), limN (by decide), ?_⟩
  refine ⟨limN (by decide), _, rfl, ?_⟩
  rw [show givenA.map D.str ++ indexA.map D.str ++ [D.str "NotKept"] = allA.map D.str by rw [List.map_append, List.map_append]; rfl]
  refine loop_inv (fun i ρ => ∃ s1 s2 s3 s4 s5 : Sl, ρ = [.dt .well, s1, s2, s3, s4, s5, .no]) _ 0 _ ⟨_, _, _, _, _, rfl⟩ ?_ ?_
  · rintro i d ρ hd ⟨s1, s2, s3, s4, s5, rfl⟩ N hN
    rw [List.getElem?_map] at hd
    obtain ⟨w, hw0, rfl⟩ := Option.map_eq_some_iff.mp hd
    have hw : w ∈ allA := List.mem_of_getElem? hw0
    simp only [tgE]
    simp only [fTup, fCons, fC, fNil, List.set_cons_zero, List.set_cons_succ]
    refine ⟨limN (by simp), _, rfl, ?_⟩
    refine loop_inv (fun i ρ => ∃ s2 s3 s4 s5 : Sl, ρ = [.dt .well, .dt (.str w), s2, s3, s4, s5, .no]) _ 0 _ ⟨_, _, _, _, rfl⟩ ?_ ?_
    · rintro j d ρ hd ⟨s2, s3, s4, s5, rfl⟩ N2 hN2
      obtain ⟨b, rfl⟩ : ∃ b, d = .bl b := by
        have := List.mem_of_getElem? hd
        simp only [List.mem_cons, List.not_mem_nil, or_false] at this
        rcases this with rfl | rfl
        · exact ⟨_, rfl⟩
        · exact ⟨_, rfl⟩
      simp only [tgE]
      walk_at "pl"
      refine ⟨rfl, fun v hv => ⟨w, v, b, rfl, hw, ?_⟩⟩
      have last : sp__law_is [v, v] (fun d => ∃ b2, d = .bl b2 ∧ ((!b2) = true → (True → q (.bl false)) ∧ (true = false → N2 [.dt .well, .dt (.str w), .dt (.bl b), .dt v, .dt (.oth (.err w [fldOf w]) [v]), .dt v, .no])) ∧
          ((!b2) = false → sp__law_is_own [.oth (.err w [fldOf w]) [v], .str w] (fun d => ∃ b3, d = .bl b3 ∧ ((!b3) = true → q (.bl false)) ∧ ((!b3) = false → N2 [.dt .well, .dt (.str w), .dt (.bl b), .dt v, .dt (.oth (.err w [fldOf w]) [v]), .dt v, .no])) fun e => x e)) fun e => x e := by
        refine ⟨v, v, rfl, hv, hv, ?_⟩
        rw [decide_eq_true (rfl : shownA v = shownA v)]
        exact ⟨true, rfl, (fun z => by cases z), fun _ => ⟨_, w, rfl, rfl, all_errs w hw, true, rfl, (fun z => by cases z), fun _ => hN2 _ ⟨_, _, _, _, rfl⟩⟩⟩
      refine ⟨rfl, ?_⟩
      refine ⟨rfl, given_flat, ?_⟩
      simp only [Bool.false_eq_true, if_false]
      rw [in_given w hw]
      refine ⟨_, rfl, fun h => ?_, fun h => ?_⟩
      · have h := of_decide_eq_true h
        rw [fld_given w hw h] at last ⊢
        exact ⟨w, v, all_errs w hw, rfl, last⟩
      · have h := of_decide_eq_false h
        refine ⟨.s, ?_⟩
        rw [eqv_str]
        refine ⟨_, rfl, fun h2 => ?_, fun h2 => ?_⟩
        · have h2 := of_decide_eq_true h2
          subst h2
          rw [fld_time] at last ⊢
          exact ⟨_, v, all_errs _ hw, rfl, last⟩
        · have h2 := of_decide_eq_false h2
          rw [fld_index w hw h h2] at last ⊢
          exact ⟨w, v, all_errs w hw, rfl, last⟩
    · rintro ρ ⟨s2, s3, s4, s5, rfl⟩
      exact hN _ ⟨_, _, _, _, _, rfl⟩
  · rintro ρ ⟨s1, s2, s3, s4, s5, rfl⟩
    walk_at "pl"
    refine ⟨_, "Blind", rfl, rfl, by decide, _, "Endless", rfl, rfl, by decide, limN (by simp), _, "NothingToUndo", rfl, rfl, by decide, _, "CannotStrike", rfl, rfl, by decide, limN (by simp), limN (by simp), limN (by simp), ⟨by decide, by decide, by simp⟩, ?_⟩
    refine ⟨.t ⟨by decide, by decide⟩ ⟨by decide, by decide⟩, ?_⟩
    have e : eqvD (.lst ([.bl true, .bl true] ++ [.bl true, .bl true])) (.lst (timesD [.bl true] 4)) = true := by decide +kernel
    rw [e]
    exact hq
theorem sat_law : ∀ ds q x, sLaw 63 ds q x → ds.length = pr_law.length ∧ g_law ⟨fun _ => q .non, q, fun _ => False, fun _ => False, fun _ e => x e⟩ (startD nm_law ds) := by
  rintro ds q x ⟨ns, rfl, hl, hq⟩
  refine ⟨rfl, ?_⟩
  show g_law _ [.dt (.scr ns), .no]
  unfold g_law
  walk_at "pl"
  refine (show lenG [.scr ns] _ from ?_)
  refine min_i fun m _ _ hm => max_i fun m2 h1 _ hm2 => ⟨m2, rfl, by omega, by omega, ?_⟩
  refine lc_map (e := fun (i : Nat) => D.int (0 + (i : Int))) (fun _ => .bl true) (List.range m2.toNat) (fun i hi Q hQ => ?_) (limN (by rw [List.length_range]; omega)) ?_
  · unfold tgE
    walk_at "pl"
    refine ⟨.scr ns, rfl, .int (0 + (i : Int)), rfl, rfl, ns, 0 + (i : Int), rfl, hl, by omega, fun i j k h1 h2 h3 => ⟨i, j, k, rfl, h1, h2, h3, rfl, rfl, hQ⟩⟩
  · refine ⟨(List.range m2.toNat).map fun _ => true, by rw [List.map_map]; rfl, ?_⟩
    rw [show ∀ l : List Nat, (l.map fun _ => true).all id = true from fun l => by induction l with
      | nil => rfl
      | cons a l ih => exact ih]
    exact hq
end K01

namespace K01
open PySem PySem.Spec L2 PL

def ev_InvalidText : EvD := ⟨"InvalidText", "given", "InvalidText.__init__", defArgs (inClass (topS 2) 0), defBody (inClass (topS 2) 0), defScope (inClass (topS 2) 0)⟩
def ev_InvalidCode : EvD := ⟨"InvalidCode", "given", "InvalidCode.__init__", defArgs (inClass (topS 3) 0), defBody (inClass (topS 3) 0), defScope (inClass (topS 3) 0)⟩
def ev_InvalidMachine : EvD := ⟨"InvalidMachine", "given", "InvalidMachine.__init__", defArgs (inClass (topS 4) 0), defBody (inClass (topS 4) 0), defScope (inClass (topS 4) 0)⟩
def ev_InvalidImage : EvD := ⟨"InvalidImage", "given", "InvalidImage.__init__", defArgs (inClass (topS 5) 0), defBody (inClass (topS 5) 0), defScope (inClass (topS 5) 0)⟩
def ev_InvalidProfile : EvD := ⟨"InvalidProfile", "given", "InvalidProfile.__init__", defArgs (inClass (topS 6) 0), defBody (inClass (topS 6) 0), defScope (inClass (topS 6) 0)⟩
def ev_InvalidExpression : EvD := ⟨"InvalidExpression", "given", "InvalidExpression.__init__", defArgs (inClass (topS 7) 0), defBody (inClass (topS 7) 0), defScope (inClass (topS 7) 0)⟩
def ev_InvalidNumber : EvD := ⟨"InvalidNumber", "given", "InvalidNumber.__init__", defArgs (inClass (topS 8) 0), defBody (inClass (topS 8) 0), defScope (inClass (topS 8) 0)⟩
def ev_InvalidStand : EvD := ⟨"InvalidStand", "given", "InvalidStand.__init__", defArgs (inClass (topS 9) 0), defBody (inClass (topS 9) 0), defScope (inClass (topS 9) 0)⟩
def ev_InvalidFlag : EvD := ⟨"InvalidFlag", "given", "InvalidFlag.__init__", defArgs (inClass (topS 10) 0), defBody (inClass (topS 10) 0), defScope (inClass (topS 10) 0)⟩
def ev_InvalidPlan : EvD := ⟨"InvalidPlan", "given", "InvalidPlan.__init__", defArgs (inClass (topS 11) 0), defBody (inClass (topS 11) 0), defScope (inClass (topS 11) 0)⟩
def ev_InvalidStep : EvD := ⟨"InvalidStep", "given", "InvalidStep.__init__", defArgs (inClass (topS 12) 0), defBody (inClass (topS 12) 0), defScope (inClass (topS 12) 0)⟩
def ev_InvalidDeed : EvD := ⟨"InvalidDeed", "given", "InvalidDeed.__init__", defArgs (inClass (topS 13) 0), defBody (inClass (topS 13) 0), defScope (inClass (topS 13) 0)⟩
def ev_InvalidPlant : EvD := ⟨"InvalidPlant", "given", "InvalidPlant.__init__", defArgs (inClass (topS 14) 0), defBody (inClass (topS 14) 0), defScope (inClass (topS 14) 0)⟩
def ev_InvalidCourse : EvD := ⟨"InvalidCourse", "given", "InvalidCourse.__init__", defArgs (inClass (topS 15) 0), defBody (inClass (topS 15) 0), defScope (inClass (topS 15) 0)⟩
def ev_InvalidCommand : EvD := ⟨"InvalidCommand", "given", "InvalidCommand.__init__", defArgs (inClass (topS 16) 0), defBody (inClass (topS 16) 0), defScope (inClass (topS 16) 0)⟩
def ev_OutOfRange : EvD := ⟨"OutOfRange", "given", "OutOfRange.__init__", defArgs (inClass (topS 17) 0), defBody (inClass (topS 17) 0), defScope (inClass (topS 17) 0)⟩
def ev_UnknownName : EvD := ⟨"UnknownName", "given", "UnknownName.__init__", defArgs (inClass (topS 18) 0), defBody (inClass (topS 18) 0), defScope (inClass (topS 18) 0)⟩
def ev_TooLong : EvD := ⟨"TooLong", "given", "TooLong.__init__", defArgs (inClass (topS 19) 0), defBody (inClass (topS 19) 0), defScope (inClass (topS 19) 0)⟩
def ev_TooMany : EvD := ⟨"TooMany", "given", "TooMany.__init__", defArgs (inClass (topS 20) 0), defBody (inClass (topS 20) 0), defScope (inClass (topS 20) 0)⟩
def ev_DoesNotFit : EvD := ⟨"DoesNotFit", "given", "DoesNotFit.__init__", defArgs (inClass (topS 21) 0), defBody (inClass (topS 21) 0), defScope (inClass (topS 21) 0)⟩
def ev_NotADesk : EvD := ⟨"NotADesk", "given", "NotADesk.__init__", defArgs (inClass (topS 22) 0), defBody (inClass (topS 22) 0), defScope (inClass (topS 22) 0)⟩
def ev_InvalidLines : EvD := ⟨"InvalidLines", "index", "InvalidLines.__init__", defArgs (inClass (topS 23) 0), defBody (inClass (topS 23) 0), defScope (inClass (topS 23) 0)⟩
def ev_InvalidNumbers : EvD := ⟨"InvalidNumbers", "index", "InvalidNumbers.__init__", defArgs (inClass (topS 24) 0), defBody (inClass (topS 24) 0), defScope (inClass (topS 24) 0)⟩
def ev_InvalidPasses : EvD := ⟨"InvalidPasses", "index", "InvalidPasses.__init__", defArgs (inClass (topS 25) 0), defBody (inClass (topS 25) 0), defScope (inClass (topS 25) 0)⟩
def ev_InvalidOrder : EvD := ⟨"InvalidOrder", "index", "InvalidOrder.__init__", defArgs (inClass (topS 26) 0), defBody (inClass (topS 26) 0), defScope (inClass (topS 26) 0)⟩
def ev_InvalidRows : EvD := ⟨"InvalidRows", "index", "InvalidRows.__init__", defArgs (inClass (topS 27) 0), defBody (inClass (topS 27) 0), defScope (inClass (topS 27) 0)⟩
def ev_InvalidProfiles : EvD := ⟨"InvalidProfiles", "index", "InvalidProfiles.__init__", defArgs (inClass (topS 28) 0), defBody (inClass (topS 28) 0), defScope (inClass (topS 28) 0)⟩
def ev_InvalidChoices : EvD := ⟨"InvalidChoices", "index", "InvalidChoices.__init__", defArgs (inClass (topS 29) 0), defBody (inClass (topS 29) 0), defScope (inClass (topS 29) 0)⟩
def ev_InvalidLots : EvD := ⟨"InvalidLots", "index", "InvalidLots.__init__", defArgs (inClass (topS 30) 0), defBody (inClass (topS 30) 0), defScope (inClass (topS 30) 0)⟩
def ev_InvalidErrors : EvD := ⟨"InvalidErrors", "index", "InvalidErrors.__init__", defArgs (inClass (topS 31) 0), defBody (inClass (topS 31) 0), defScope (inClass (topS 31) 0)⟩
def ev_InvalidCommands : EvD := ⟨"InvalidCommands", "index", "InvalidCommands.__init__", defArgs (inClass (topS 32) 0), defBody (inClass (topS 32) 0), defScope (inClass (topS 32) 0)⟩
def ev_Refused : EvD := ⟨"Refused", "index", "Refused.__init__", defArgs (inClass (topS 33) 0), defBody (inClass (topS 33) 0), defScope (inClass (topS 33) 0)⟩
def ev_NotKept : EvD := ⟨"NotKept", "time", "NotKept.__init__", defArgs (inClass (topS 34) 0), defBody (inClass (topS 34) 0), defScope (inClass (topS 34) 0)⟩
def fd__law_well : He.FnD := ⟨("_law_well", none), "_law_well", "_law_well", defArgs s__law_well, defBody s__law_well, defScope s__law_well⟩
def fd__law_draw : He.FnD := ⟨("_law_draw", none), "_law_draw", "_law_draw", defArgs s__law_draw, defBody s__law_draw, defScope s__law_draw⟩
def fd__law_of : He.FnD := ⟨("_law_of", none), "_law_of", "_law_of", defArgs s__law_of, defBody s__law_of, defScope s__law_of⟩
def fd__law_is : He.FnD := ⟨("_law_is", none), "_law_is", "_law_is", defArgs s__law_is, defBody s__law_is, defScope s__law_is⟩
def fd__law_given : He.FnD := ⟨("_law_given", none), "_law_given", "_law_given", defArgs s__law_given, defBody s__law_given, defScope s__law_given⟩
def fd__law_index : He.FnD := ⟨("_law_index", none), "_law_index", "_law_index", defArgs s__law_index, defBody s__law_index, defScope s__law_index⟩
def fd__law_value : He.FnD := ⟨("_law_value", none), "_law_value", "_law_value", defArgs s__law_value, defBody s__law_value, defScope s__law_value⟩
def fd__law_made_a : He.FnD := ⟨("_law_made_a", none), "_law_made_a", "_law_made_a", defArgs s__law_made_a, defBody s__law_made_a, defScope s__law_made_a⟩
def fd__law_made_b : He.FnD := ⟨("_law_made_b", none), "_law_made_b", "_law_made_b", defArgs s__law_made_b, defBody s__law_made_b, defScope s__law_made_b⟩
def fd__law_made_c : He.FnD := ⟨("_law_made_c", none), "_law_made_c", "_law_made_c", defArgs s__law_made_c, defBody s__law_made_c, defScope s__law_made_c⟩
def fd__law_made : He.FnD := ⟨("_law_made", none), "_law_made", "_law_made", defArgs s__law_made, defBody s__law_made, defScope s__law_made⟩
def fd__law_kinds_a : He.FnD := ⟨("_law_kinds_a", none), "_law_kinds_a", "_law_kinds_a", defArgs s__law_kinds_a, defBody s__law_kinds_a, defScope s__law_kinds_a⟩
def fd__law_kinds_b : He.FnD := ⟨("_law_kinds_b", none), "_law_kinds_b", "_law_kinds_b", defArgs s__law_kinds_b, defBody s__law_kinds_b, defScope s__law_kinds_b⟩
def fd__law_is_own : He.FnD := ⟨("_law_is_own", none), "_law_is_own", "_law_is_own", defArgs s__law_is_own, defBody s__law_is_own, defScope s__law_is_own⟩
def fd__law_right : He.FnD := ⟨("_law_right", none), "_law_right", "_law_right", defArgs s__law_right, defBody s__law_right, defScope s__law_right⟩
def fd_law : He.FnD := ⟨("law", none), "law", "law", defArgs s_law, defBody s_law, defScope s_law⟩
def hfa_0 : List He.Fa := [.glo "_law_well", .keep "_law_well", .glo "_law_draw", .keep "_law_draw", .glo "_law_of", .keep "_law_of", .glo "_law_is", .keep "_law_is", .glo "_law_given", .keep "_law_given", .glo "_law_index", .keep "_law_index", .glo "_law_value", .keep "_law_value", .glo "_law_made_a", .keep "_law_made_a", .glo "_law_made_b", .keep "_law_made_b", .glo "_law_made_c", .keep "_law_made_c", .glo "_law_made", .keep "_law_made", .glo "_law_kinds_a", .keep "_law_kinds_a", .glo "_law_kinds_b"]
def hfa_1 : List He.Fa := [.keep "_law_kinds_b", .glo "_law_is_own", .keep "_law_is_own", .glo "_law_right", .keep "_law_right", .glo "law", .keep "law", .free "ArithmeticError", .free "AttributeError", .free "LookupError", .free "RuntimeError", .free "TypeError", .free "ValueError", .free "abs", .free "all", .free "divmod", .free "int", .free "isinstance", .free "len", .free "max", .free "min", .free "range", .free "repr", .free "super"]
def hfn_0 : List He.FnD := [fd__law_well, fd__law_draw, fd__law_of, fd__law_is, fd__law_given, fd__law_index, fd__law_value, fd__law_made_a, fd__law_made_b, fd__law_made_c, fd__law_made, fd__law_kinds_a, fd__law_kinds_b, fd__law_is_own, fd__law_right, fd_law]
def hev_0 : List EvD := [ev_InvalidText, ev_InvalidCode, ev_InvalidMachine, ev_InvalidImage, ev_InvalidProfile, ev_InvalidExpression, ev_InvalidNumber, ev_InvalidStand, ev_InvalidFlag, ev_InvalidPlan, ev_InvalidStep, ev_InvalidDeed, ev_InvalidPlant, ev_InvalidCourse, ev_InvalidCommand, ev_OutOfRange, ev_UnknownName, ev_TooLong, ev_TooMany, ev_DoesNotFit, ev_NotADesk, ev_InvalidLines, ev_InvalidNumbers, ev_InvalidPasses, ev_InvalidOrder]
def hev_1 : List EvD := [ev_InvalidRows, ev_InvalidProfiles, ev_InvalidChoices, ev_InvalidLots, ev_InvalidErrors, ev_InvalidCommands, ev_Refused, ev_NotKept]
def hnm_0 : List PySem.Str := ["DueError", "InvalidText", "InvalidCode", "InvalidMachine", "InvalidImage", "InvalidProfile", "InvalidExpression", "InvalidNumber", "InvalidStand", "InvalidFlag", "InvalidPlan", "InvalidStep", "InvalidDeed", "InvalidPlant", "InvalidCourse", "InvalidCommand", "OutOfRange", "UnknownName", "TooLong", "TooMany", "DoesNotFit", "NotADesk", "InvalidLines", "InvalidNumbers", "InvalidPasses"]
def hnm_1 : List PySem.Str := ["InvalidOrder", "InvalidRows", "InvalidProfiles", "InvalidChoices", "InvalidLots", "InvalidErrors", "InvalidCommands", "Refused", "NotKept", "Blind", "Endless", "NothingToUndo", "CannotStrike", "_law_well", "_law_draw", "_law_of", "_law_is", "_law_given", "_law_index", "_law_value", "_law_made_a", "_law_made_b", "_law_made_c", "_law_made", "_law_kinds_a"]
def hnm_2 : List PySem.Str := ["_law_kinds_b", "_law_is_own", "_law_right"]
def hd : HdV := ⟨4, hfa_0 ++ hfa_1, hfn_0, (PySem.Challenge.rw_plantdue_k01_errors_each_of_its_own).prog.main.file, ERRS, [("Blind" : Str), ("Endless" : Str), ("NothingToUndo" : Str), ("CannotStrike" : Str)], hev_0 ++ hev_1⟩
def hnames : List PySem.Str := hnm_0 ++ hnm_1 ++ hnm_2
theorem hrun (w : World) : HandSHeadRun.RunEq (PySem.W.OpenLaw.row PySem.Challenge.rw_plantdue_k01_errors_each_of_its_own) (PySem.W.view (PySem.W.OpenLaw.row PySem.Challenge.rw_plantdue_k01_errors_each_of_its_own).prog [55]) hd.hook hd.ob 20000 hnames w := by
  intro os
  kernel_rfl
end K01

namespace K01
open PySem PySem.Spec L2 PL
theorem top_mk {K : PySem.W.Frag} {h : Heap} {mg : Str → Option Value} (X : K.In h) (G : h.Ns mainGlobals mg)
    {f0 : Addr} {oc0 kV0 dc0 pm0 cd0 ct0 : Value} {od0 an0 : Option Addr} {sl0 : Array (Option Value)} (a0 : PySem.W.nsIn K mainGlobals "_law_well" = some (some (.ref f0))) (l0 : K.lookup f0 = some ⟨oc0, od0, .func (PySem.W.fnOf "_law_well" "_law_well" (defArgs s__law_well) (defBody s__law_well) (defScope s__law_well) .none kV0 dc0 pm0 an0 cd0 ct0), sl0⟩) (c0 : PySem.W.codeIn K cd0 "_law_well" = true) (k0 : PySem.W.keepIn K (.ref f0) = true)
    {f1 : Addr} {oc1 kV1 dc1 pm1 cd1 ct1 : Value} {od1 an1 : Option Addr} {sl1 : Array (Option Value)} (a1 : PySem.W.nsIn K mainGlobals "_law_draw" = some (some (.ref f1))) (l1 : K.lookup f1 = some ⟨oc1, od1, .func (PySem.W.fnOf "_law_draw" "_law_draw" (defArgs s__law_draw) (defBody s__law_draw) (defScope s__law_draw) .none kV1 dc1 pm1 an1 cd1 ct1), sl1⟩) (c1 : PySem.W.codeIn K cd1 "_law_draw" = true) (k1 : PySem.W.keepIn K (.ref f1) = true)
    {f2 : Addr} {oc2 kV2 dc2 pm2 cd2 ct2 : Value} {od2 an2 : Option Addr} {sl2 : Array (Option Value)} (a2 : PySem.W.nsIn K mainGlobals "_law_of" = some (some (.ref f2))) (l2 : K.lookup f2 = some ⟨oc2, od2, .func (PySem.W.fnOf "_law_of" "_law_of" (defArgs s__law_of) (defBody s__law_of) (defScope s__law_of) .none kV2 dc2 pm2 an2 cd2 ct2), sl2⟩) (c2 : PySem.W.codeIn K cd2 "_law_of" = true) (k2 : PySem.W.keepIn K (.ref f2) = true)
    {f3 : Addr} {oc3 kV3 dc3 pm3 cd3 ct3 : Value} {od3 an3 : Option Addr} {sl3 : Array (Option Value)} (a3 : PySem.W.nsIn K mainGlobals "_law_is" = some (some (.ref f3))) (l3 : K.lookup f3 = some ⟨oc3, od3, .func (PySem.W.fnOf "_law_is" "_law_is" (defArgs s__law_is) (defBody s__law_is) (defScope s__law_is) .none kV3 dc3 pm3 an3 cd3 ct3), sl3⟩) (c3 : PySem.W.codeIn K cd3 "_law_is" = true) (k3 : PySem.W.keepIn K (.ref f3) = true)
    {f4 : Addr} {oc4 kV4 dc4 pm4 cd4 ct4 : Value} {od4 an4 : Option Addr} {sl4 : Array (Option Value)} (a4 : PySem.W.nsIn K mainGlobals "_law_given" = some (some (.ref f4))) (l4 : K.lookup f4 = some ⟨oc4, od4, .func (PySem.W.fnOf "_law_given" "_law_given" (defArgs s__law_given) (defBody s__law_given) (defScope s__law_given) .none kV4 dc4 pm4 an4 cd4 ct4), sl4⟩) (c4 : PySem.W.codeIn K cd4 "_law_given" = true) (k4 : PySem.W.keepIn K (.ref f4) = true)
    {f5 : Addr} {oc5 kV5 dc5 pm5 cd5 ct5 : Value} {od5 an5 : Option Addr} {sl5 : Array (Option Value)} (a5 : PySem.W.nsIn K mainGlobals "_law_index" = some (some (.ref f5))) (l5 : K.lookup f5 = some ⟨oc5, od5, .func (PySem.W.fnOf "_law_index" "_law_index" (defArgs s__law_index) (defBody s__law_index) (defScope s__law_index) .none kV5 dc5 pm5 an5 cd5 ct5), sl5⟩) (c5 : PySem.W.codeIn K cd5 "_law_index" = true) (k5 : PySem.W.keepIn K (.ref f5) = true)
    {f6 : Addr} {oc6 kV6 dc6 pm6 cd6 ct6 : Value} {od6 an6 : Option Addr} {sl6 : Array (Option Value)} (a6 : PySem.W.nsIn K mainGlobals "_law_value" = some (some (.ref f6))) (l6 : K.lookup f6 = some ⟨oc6, od6, .func (PySem.W.fnOf "_law_value" "_law_value" (defArgs s__law_value) (defBody s__law_value) (defScope s__law_value) .none kV6 dc6 pm6 an6 cd6 ct6), sl6⟩) (c6 : PySem.W.codeIn K cd6 "_law_value" = true) (k6 : PySem.W.keepIn K (.ref f6) = true)
    {f7 : Addr} {oc7 kV7 dc7 pm7 cd7 ct7 : Value} {od7 an7 : Option Addr} {sl7 : Array (Option Value)} (a7 : PySem.W.nsIn K mainGlobals "_law_made_a" = some (some (.ref f7))) (l7 : K.lookup f7 = some ⟨oc7, od7, .func (PySem.W.fnOf "_law_made_a" "_law_made_a" (defArgs s__law_made_a) (defBody s__law_made_a) (defScope s__law_made_a) .none kV7 dc7 pm7 an7 cd7 ct7), sl7⟩) (c7 : PySem.W.codeIn K cd7 "_law_made_a" = true) (k7 : PySem.W.keepIn K (.ref f7) = true)
    {f8 : Addr} {oc8 kV8 dc8 pm8 cd8 ct8 : Value} {od8 an8 : Option Addr} {sl8 : Array (Option Value)} (a8 : PySem.W.nsIn K mainGlobals "_law_made_b" = some (some (.ref f8))) (l8 : K.lookup f8 = some ⟨oc8, od8, .func (PySem.W.fnOf "_law_made_b" "_law_made_b" (defArgs s__law_made_b) (defBody s__law_made_b) (defScope s__law_made_b) .none kV8 dc8 pm8 an8 cd8 ct8), sl8⟩) (c8 : PySem.W.codeIn K cd8 "_law_made_b" = true) (k8 : PySem.W.keepIn K (.ref f8) = true)
    {f9 : Addr} {oc9 kV9 dc9 pm9 cd9 ct9 : Value} {od9 an9 : Option Addr} {sl9 : Array (Option Value)} (a9 : PySem.W.nsIn K mainGlobals "_law_made_c" = some (some (.ref f9))) (l9 : K.lookup f9 = some ⟨oc9, od9, .func (PySem.W.fnOf "_law_made_c" "_law_made_c" (defArgs s__law_made_c) (defBody s__law_made_c) (defScope s__law_made_c) .none kV9 dc9 pm9 an9 cd9 ct9), sl9⟩) (c9 : PySem.W.codeIn K cd9 "_law_made_c" = true) (k9 : PySem.W.keepIn K (.ref f9) = true)
    {f10 : Addr} {oc10 kV10 dc10 pm10 cd10 ct10 : Value} {od10 an10 : Option Addr} {sl10 : Array (Option Value)} (a10 : PySem.W.nsIn K mainGlobals "_law_made" = some (some (.ref f10))) (l10 : K.lookup f10 = some ⟨oc10, od10, .func (PySem.W.fnOf "_law_made" "_law_made" (defArgs s__law_made) (defBody s__law_made) (defScope s__law_made) .none kV10 dc10 pm10 an10 cd10 ct10), sl10⟩) (c10 : PySem.W.codeIn K cd10 "_law_made" = true) (k10 : PySem.W.keepIn K (.ref f10) = true)
    {f11 : Addr} {oc11 kV11 dc11 pm11 cd11 ct11 : Value} {od11 an11 : Option Addr} {sl11 : Array (Option Value)} (a11 : PySem.W.nsIn K mainGlobals "_law_kinds_a" = some (some (.ref f11))) (l11 : K.lookup f11 = some ⟨oc11, od11, .func (PySem.W.fnOf "_law_kinds_a" "_law_kinds_a" (defArgs s__law_kinds_a) (defBody s__law_kinds_a) (defScope s__law_kinds_a) .none kV11 dc11 pm11 an11 cd11 ct11), sl11⟩) (c11 : PySem.W.codeIn K cd11 "_law_kinds_a" = true) (k11 : PySem.W.keepIn K (.ref f11) = true)
    {f12 : Addr} {oc12 kV12 dc12 pm12 cd12 ct12 : Value} {od12 an12 : Option Addr} {sl12 : Array (Option Value)} (a12 : PySem.W.nsIn K mainGlobals "_law_kinds_b" = some (some (.ref f12))) (l12 : K.lookup f12 = some ⟨oc12, od12, .func (PySem.W.fnOf "_law_kinds_b" "_law_kinds_b" (defArgs s__law_kinds_b) (defBody s__law_kinds_b) (defScope s__law_kinds_b) .none kV12 dc12 pm12 an12 cd12 ct12), sl12⟩) (c12 : PySem.W.codeIn K cd12 "_law_kinds_b" = true) (k12 : PySem.W.keepIn K (.ref f12) = true)
    {f13 : Addr} {oc13 kV13 dc13 pm13 cd13 ct13 : Value} {od13 an13 : Option Addr} {sl13 : Array (Option Value)} (a13 : PySem.W.nsIn K mainGlobals "_law_is_own" = some (some (.ref f13))) (l13 : K.lookup f13 = some ⟨oc13, od13, .func (PySem.W.fnOf "_law_is_own" "_law_is_own" (defArgs s__law_is_own) (defBody s__law_is_own) (defScope s__law_is_own) .none kV13 dc13 pm13 an13 cd13 ct13), sl13⟩) (c13 : PySem.W.codeIn K cd13 "_law_is_own" = true) (k13 : PySem.W.keepIn K (.ref f13) = true)
    {f14 : Addr} {oc14 kV14 dc14 pm14 cd14 ct14 : Value} {od14 an14 : Option Addr} {sl14 : Array (Option Value)} (a14 : PySem.W.nsIn K mainGlobals "_law_right" = some (some (.ref f14))) (l14 : K.lookup f14 = some ⟨oc14, od14, .func (PySem.W.fnOf "_law_right" "_law_right" (defArgs s__law_right) (defBody s__law_right) (defScope s__law_right) .none kV14 dc14 pm14 an14 cd14 ct14), sl14⟩) (c14 : PySem.W.codeIn K cd14 "_law_right" = true) (k14 : PySem.W.keepIn K (.ref f14) = true)
    {f15 : Addr} {oc15 kV15 dc15 pm15 cd15 ct15 : Value} {od15 an15 : Option Addr} {sl15 : Array (Option Value)} (a15 : PySem.W.nsIn K mainGlobals "law" = some (some (.ref f15))) (l15 : K.lookup f15 = some ⟨oc15, od15, .func (PySem.W.fnOf "law" "law" (defArgs s_law) (defBody s_law) (defScope s_law) .none kV15 dc15 pm15 an15 cd15 ct15), sl15⟩) (c15 : PySem.W.codeIn K cd15 "law" = true) (k15 : PySem.W.keepIn K (.ref f15) = true)
    (b0 : PySem.W.nsIn K mainGlobals "ArithmeticError" = some none)
    (b1 : PySem.W.nsIn K mainGlobals "AttributeError" = some none)
    (b2 : PySem.W.nsIn K mainGlobals "LookupError" = some none)
    (b3 : PySem.W.nsIn K mainGlobals "RuntimeError" = some none)
    (b4 : PySem.W.nsIn K mainGlobals "TypeError" = some none)
    (b5 : PySem.W.nsIn K mainGlobals "ValueError" = some none)
    (b6 : PySem.W.nsIn K mainGlobals "abs" = some none)
    (b7 : PySem.W.nsIn K mainGlobals "all" = some none)
    (b8 : PySem.W.nsIn K mainGlobals "divmod" = some none)
    (b9 : PySem.W.nsIn K mainGlobals "int" = some none)
    (b10 : PySem.W.nsIn K mainGlobals "isinstance" = some none)
    (b11 : PySem.W.nsIn K mainGlobals "len" = some none)
    (b12 : PySem.W.nsIn K mainGlobals "max" = some none)
    (b13 : PySem.W.nsIn K mainGlobals "min" = some none)
    (b14 : PySem.W.nsIn K mainGlobals "range" = some none)
    (b15 : PySem.W.nsIn K mainGlobals "repr" = some none) :
    Top K mg :=
  ⟨def_e X G a0 l0 c0 k0 (fun _ _ _ _ _ _ us hl => match us, hl with | [_, _], _ => rfl),
   def_e X G a1 l1 c1 k1 (fun _ _ _ _ _ _ us hl => match us, hl with | [_, _], _ => rfl),
   def_e X G a2 l2 c2 k2 (fun _ _ _ _ _ _ us hl => match us, hl with | [_, _], _ => rfl),
   def_e X G a3 l3 c3 k3 (fun _ _ _ _ _ _ us hl => match us, hl with | [_, _], _ => rfl),
   def_e X G a4 l4 c4 k4 (fun _ _ _ _ _ _ us hl => match us, hl with | [], _ => rfl),
   def_e X G a5 l5 c5 k5 (fun _ _ _ _ _ _ us hl => match us, hl with | [], _ => rfl),
   def_e X G a6 l6 c6 k6 (fun _ _ _ _ _ _ us hl => match us, hl with | [_], _ => rfl),
   def_e X G a7 l7 c7 k7 (fun _ _ _ _ _ _ us hl => match us, hl with | [_, _, _], _ => rfl),
   def_e X G a8 l8 c8 k8 (fun _ _ _ _ _ _ us hl => match us, hl with | [_, _, _], _ => rfl),
   def_e X G a9 l9 c9 k9 (fun _ _ _ _ _ _ us hl => match us, hl with | [_, _, _], _ => rfl),
   def_e X G a10 l10 c10 k10 (fun _ _ _ _ _ _ us hl => match us, hl with | [_, _, _], _ => rfl),
   def_e X G a11 l11 c11 k11 (fun _ _ _ _ _ _ us hl => match us, hl with | [_], _ => rfl),
   def_e X G a12 l12 c12 k12 (fun _ _ _ _ _ _ us hl => match us, hl with | [_], _ => rfl),
   def_e X G a13 l13 c13 k13 (fun _ _ _ _ _ _ us hl => match us, hl with | [_, _], _ => rfl),
   def_e X G a14 l14 c14 k14 (fun _ _ _ _ _ _ us hl => match us, hl with | [_], _ => rfl),
   def_e X G a15 l15 c15 k15 (fun _ _ _ _ _ _ us hl => match us, hl with | [_], _ => rfl),
   blt_none X G b0,
   blt_none X G b1,
   blt_none X G b2,
   blt_none X G b3,
   blt_none X G b4,
   blt_none X G b5,
   blt_none X G b6,
   blt_none X G b7,
   blt_none X G b8,
   blt_none X G b9,
   blt_none X G b10,
   blt_none X G b11,
   blt_none X G b12,
   blt_none X G b13,
   blt_none X G b14,
   blt_none X G b15⟩
open PySem.W (ksFn) in
theorem tope_mk {P : Program} {K : PySem.W.Frag} {h : Heap} {mg : Str → Option Value} (X : K.In h) (G : h.Ns mainGlobals mg)
    (tab : ErrTab K mg ERRS)
    (v_InvalidText : ErrW P K mg "InvalidText" "given")
    (v_InvalidCode : ErrW P K mg "InvalidCode" "given")
    (v_InvalidMachine : ErrW P K mg "InvalidMachine" "given")
    (v_InvalidImage : ErrW P K mg "InvalidImage" "given")
    (v_InvalidProfile : ErrW P K mg "InvalidProfile" "given")
    (v_InvalidExpression : ErrW P K mg "InvalidExpression" "given")
    (v_InvalidNumber : ErrW P K mg "InvalidNumber" "given")
    (v_InvalidStand : ErrW P K mg "InvalidStand" "given")
    (v_InvalidFlag : ErrW P K mg "InvalidFlag" "given")
    (v_InvalidPlan : ErrW P K mg "InvalidPlan" "given")
    (v_InvalidStep : ErrW P K mg "InvalidStep" "given")
    (v_InvalidDeed : ErrW P K mg "InvalidDeed" "given")
    (v_InvalidPlant : ErrW P K mg "InvalidPlant" "given")
    (v_InvalidCourse : ErrW P K mg "InvalidCourse" "given")
    (v_InvalidCommand : ErrW P K mg "InvalidCommand" "given")
    (v_OutOfRange : ErrW P K mg "OutOfRange" "given")
    (v_UnknownName : ErrW P K mg "UnknownName" "given")
    (v_TooLong : ErrW P K mg "TooLong" "given")
    (v_TooMany : ErrW P K mg "TooMany" "given")
    (v_DoesNotFit : ErrW P K mg "DoesNotFit" "given")
    (v_NotADesk : ErrW P K mg "NotADesk" "given")
    (v_InvalidLines : ErrW P K mg "InvalidLines" "index")
    (v_InvalidNumbers : ErrW P K mg "InvalidNumbers" "index")
    (v_InvalidPasses : ErrW P K mg "InvalidPasses" "index")
    (v_InvalidOrder : ErrW P K mg "InvalidOrder" "index")
    (v_InvalidRows : ErrW P K mg "InvalidRows" "index")
    (v_InvalidProfiles : ErrW P K mg "InvalidProfiles" "index")
    (v_InvalidChoices : ErrW P K mg "InvalidChoices" "index")
    (v_InvalidLots : ErrW P K mg "InvalidLots" "index")
    (v_InvalidErrors : ErrW P K mg "InvalidErrors" "index")
    (v_InvalidCommands : ErrW P K mg "InvalidCommands" "index")
    (v_Refused : ErrW P K mg "Refused" "index")
    (v_NotKept : ErrW P K mg "NotKept" "time")
    (z_Blind : ErrZ K "Blind")
    (z_Endless : ErrZ K "Endless")
    (z_NothingToUndo : ErrZ K "NothingToUndo")
    (z_CannotStrike : ErrZ K "CannotStrike") :
    TopE P K mg :=
  ⟨tab,
   v_InvalidText,
   v_InvalidCode,
   v_InvalidMachine,
   v_InvalidImage,
   v_InvalidProfile,
   v_InvalidExpression,
   v_InvalidNumber,
   v_InvalidStand,
   v_InvalidFlag,
   v_InvalidPlan,
   v_InvalidStep,
   v_InvalidDeed,
   v_InvalidPlant,
   v_InvalidCourse,
   v_InvalidCommand,
   v_OutOfRange,
   v_UnknownName,
   v_TooLong,
   v_TooMany,
   v_DoesNotFit,
   v_NotADesk,
   v_InvalidLines,
   v_InvalidNumbers,
   v_InvalidPasses,
   v_InvalidOrder,
   v_InvalidRows,
   v_InvalidProfiles,
   v_InvalidChoices,
   v_InvalidLots,
   v_InvalidErrors,
   v_InvalidCommands,
   v_Refused,
   v_NotKept,
   z_Blind,
   z_Endless,
   z_NothingToUndo,
   z_CannotStrike⟩

theorem own_end {P : Program} {w : World} {K : PySem.W.Frag} {mg : Str → Option Value} {base : Heap} (T : Top K mg) (TE : TopE P K mg) {f : Addr} {fd : FuncData} (DF : DefAt K mg "law" s_law pr_law f fd) : FnOkG P w K mg base (L2.CX P w) 6 f fd pr_law (spOf K mg (tbsOf []) (sLaw 63)) := by
  have F__law_well := fn_mk (P := P) (w := w) (base := base) (T := tbsOf []) T.f__law_well sc__law_well (body__law_well T) sat__law_well
  have F__law_draw := fn_mk (P := P) (w := w) (base := base) (T := tbsOf []) T.f__law_draw sc__law_draw (body__law_draw T) sat__law_draw
  have F__law_is := fn_mk (P := P) (w := w) (base := base) (T := tbsOf []) T.f__law_is sc__law_is (body__law_is T) sat__law_is
  have F__law_given := fn_mk (P := P) (w := w) (base := base) (T := tbsOf []) T.f__law_given sc__law_given (body__law_given T) sat__law_given
  have F__law_index := fn_mk (P := P) (w := w) (base := base) (T := tbsOf []) T.f__law_index sc__law_index (body__law_index T) sat__law_index
  have F__law_of := fn_mk (P := P) (w := w) (base := base) (T := tbsOf []) T.f__law_of sc__law_of (body__law_of T F__law_draw) sat__law_of
  have F__law_value := fn_mk (P := P) (w := w) (base := base) (T := tbsOf []) T.f__law_value sc__law_value (body__law_value T F__law_of) sat__law_value
  have F__law_made_a := fn_mk (P := P) (w := w) (base := base) (T := tbsOf []) T.f__law_made_a sc__law_made_a (body__law_made_a T TE) sat__law_made_a
  have F__law_made_b := fn_mk (P := P) (w := w) (base := base) (T := tbsOf []) T.f__law_made_b sc__law_made_b (body__law_made_b T TE) sat__law_made_b
  have F__law_made_c := fn_mk (P := P) (w := w) (base := base) (T := tbsOf []) T.f__law_made_c sc__law_made_c (body__law_made_c T TE) sat__law_made_c
  have F__law_kinds_a := fn_mk (P := P) (w := w) (base := base) (T := tbsOf []) T.f__law_kinds_a sc__law_kinds_a (body__law_kinds_a T TE) sat__law_kinds_a
  have F__law_kinds_b := fn_mk (P := P) (w := w) (base := base) (T := tbsOf []) T.f__law_kinds_b sc__law_kinds_b (body__law_kinds_b T TE) sat__law_kinds_b
  have F__law_made := fn_mk (P := P) (w := w) (base := base) (T := tbsOf []) T.f__law_made sc__law_made (body__law_made T F__law_made_a F__law_made_b F__law_made_c) sat__law_made
  have F__law_is_own := fn_mk (P := P) (w := w) (base := base) (T := tbsOf []) T.f__law_is_own sc__law_is_own (body__law_is_own T TE F__law_kinds_a F__law_kinds_b F__law_is) sat__law_is_own
  have F__law_right := fn_mk (P := P) (w := w) (base := base) (T := tbsOf []) T.f__law_right sc__law_right (body__law_right T TE F__law_given F__law_index F__law_value F__law_made F__law_is F__law_is_own) sat__law_right
  exact fn_ok DF sc_law (body_law T F__law_right F__law_well f) sat_law

section
variable {K : PySem.W.Frag} {h : Heap} {mg : Str → Option Value}
theorem hd_top (X : K.In h) (G : h.Ns mainGlobals mg) (c : hd.obsK K = hd.val) : Top K mg := by
  have s := HdV.says c
  obtain ⟨oc0, od0, osl0, kV0, doc0, pm0, an0, cdv0, ct0, lk0, cd0⟩ := s.def_ 0 (d := fd__law_well) rfl
  obtain ⟨oc1, od1, osl1, kV1, doc1, pm1, an1, cdv1, ct1, lk1, cd1⟩ := s.def_ 1 (d := fd__law_draw) rfl
  obtain ⟨oc2, od2, osl2, kV2, doc2, pm2, an2, cdv2, ct2, lk2, cd2⟩ := s.def_ 2 (d := fd__law_of) rfl
  obtain ⟨oc3, od3, osl3, kV3, doc3, pm3, an3, cdv3, ct3, lk3, cd3⟩ := s.def_ 3 (d := fd__law_is) rfl
  obtain ⟨oc4, od4, osl4, kV4, doc4, pm4, an4, cdv4, ct4, lk4, cd4⟩ := s.def_ 4 (d := fd__law_given) rfl
  obtain ⟨oc5, od5, osl5, kV5, doc5, pm5, an5, cdv5, ct5, lk5, cd5⟩ := s.def_ 5 (d := fd__law_index) rfl
  obtain ⟨oc6, od6, osl6, kV6, doc6, pm6, an6, cdv6, ct6, lk6, cd6⟩ := s.def_ 6 (d := fd__law_value) rfl
  obtain ⟨oc7, od7, osl7, kV7, doc7, pm7, an7, cdv7, ct7, lk7, cd7⟩ := s.def_ 7 (d := fd__law_made_a) rfl
  obtain ⟨oc8, od8, osl8, kV8, doc8, pm8, an8, cdv8, ct8, lk8, cd8⟩ := s.def_ 8 (d := fd__law_made_b) rfl
  obtain ⟨oc9, od9, osl9, kV9, doc9, pm9, an9, cdv9, ct9, lk9, cd9⟩ := s.def_ 9 (d := fd__law_made_c) rfl
  obtain ⟨oc10, od10, osl10, kV10, doc10, pm10, an10, cdv10, ct10, lk10, cd10⟩ := s.def_ 10 (d := fd__law_made) rfl
  obtain ⟨oc11, od11, osl11, kV11, doc11, pm11, an11, cdv11, ct11, lk11, cd11⟩ := s.def_ 11 (d := fd__law_kinds_a) rfl
  obtain ⟨oc12, od12, osl12, kV12, doc12, pm12, an12, cdv12, ct12, lk12, cd12⟩ := s.def_ 12 (d := fd__law_kinds_b) rfl
  obtain ⟨oc13, od13, osl13, kV13, doc13, pm13, an13, cdv13, ct13, lk13, cd13⟩ := s.def_ 13 (d := fd__law_is_own) rfl
  obtain ⟨oc14, od14, osl14, kV14, doc14, pm14, an14, cdv14, ct14, lk14, cd14⟩ := s.def_ 14 (d := fd__law_right) rfl
  obtain ⟨oc15, od15, osl15, kV15, doc15, pm15, an15, cdv15, ct15, lk15, cd15⟩ := s.def_ 15 (d := fd_law) rfl
  exact top_mk X G (He.eqO_ok (s.fact 0 (f := .glo "_law_well") rfl)) lk0 cd0 (s.fact 1 (f := .keep "_law_well") rfl)
    (He.eqO_ok (s.fact 2 (f := .glo "_law_draw") rfl)) lk1 cd1 (s.fact 3 (f := .keep "_law_draw") rfl)
    (He.eqO_ok (s.fact 4 (f := .glo "_law_of") rfl)) lk2 cd2 (s.fact 5 (f := .keep "_law_of") rfl)
    (He.eqO_ok (s.fact 6 (f := .glo "_law_is") rfl)) lk3 cd3 (s.fact 7 (f := .keep "_law_is") rfl)
    (He.eqO_ok (s.fact 8 (f := .glo "_law_given") rfl)) lk4 cd4 (s.fact 9 (f := .keep "_law_given") rfl)
    (He.eqO_ok (s.fact 10 (f := .glo "_law_index") rfl)) lk5 cd5 (s.fact 11 (f := .keep "_law_index") rfl)
    (He.eqO_ok (s.fact 12 (f := .glo "_law_value") rfl)) lk6 cd6 (s.fact 13 (f := .keep "_law_value") rfl)
    (He.eqO_ok (s.fact 14 (f := .glo "_law_made_a") rfl)) lk7 cd7 (s.fact 15 (f := .keep "_law_made_a") rfl)
    (He.eqO_ok (s.fact 16 (f := .glo "_law_made_b") rfl)) lk8 cd8 (s.fact 17 (f := .keep "_law_made_b") rfl)
    (He.eqO_ok (s.fact 18 (f := .glo "_law_made_c") rfl)) lk9 cd9 (s.fact 19 (f := .keep "_law_made_c") rfl)
    (He.eqO_ok (s.fact 20 (f := .glo "_law_made") rfl)) lk10 cd10 (s.fact 21 (f := .keep "_law_made") rfl)
    (He.eqO_ok (s.fact 22 (f := .glo "_law_kinds_a") rfl)) lk11 cd11 (s.fact 23 (f := .keep "_law_kinds_a") rfl)
    (He.eqO_ok (s.fact 24 (f := .glo "_law_kinds_b") rfl)) lk12 cd12 (s.fact 25 (f := .keep "_law_kinds_b") rfl)
    (He.eqO_ok (s.fact 26 (f := .glo "_law_is_own") rfl)) lk13 cd13 (s.fact 27 (f := .keep "_law_is_own") rfl)
    (He.eqO_ok (s.fact 28 (f := .glo "_law_right") rfl)) lk14 cd14 (s.fact 29 (f := .keep "_law_right") rfl)
    (He.eqO_ok (s.fact 30 (f := .glo "law") rfl)) lk15 cd15 (s.fact 31 (f := .keep "law") rfl)
    (He.eqO_ok (s.fact 32 (f := .free "ArithmeticError") rfl))
    (He.eqO_ok (s.fact 33 (f := .free "AttributeError") rfl))
    (He.eqO_ok (s.fact 34 (f := .free "LookupError") rfl))
    (He.eqO_ok (s.fact 35 (f := .free "RuntimeError") rfl))
    (He.eqO_ok (s.fact 36 (f := .free "TypeError") rfl))
    (He.eqO_ok (s.fact 37 (f := .free "ValueError") rfl))
    (He.eqO_ok (s.fact 38 (f := .free "abs") rfl))
    (He.eqO_ok (s.fact 39 (f := .free "all") rfl))
    (He.eqO_ok (s.fact 40 (f := .free "divmod") rfl))
    (He.eqO_ok (s.fact 41 (f := .free "int") rfl))
    (He.eqO_ok (s.fact 42 (f := .free "isinstance") rfl))
    (He.eqO_ok (s.fact 43 (f := .free "len") rfl))
    (He.eqO_ok (s.fact 44 (f := .free "max") rfl))
    (He.eqO_ok (s.fact 45 (f := .free "min") rfl))
    (He.eqO_ok (s.fact 46 (f := .free "range") rfl))
    (He.eqO_ok (s.fact 47 (f := .free "repr") rfl))
theorem hd_tope (X : K.In h) (G : h.Ns mainGlobals mg) (c : hd.obsK K = hd.val) : TopE (PySem.Challenge.rw_plantdue_k01_errors_each_of_its_own).prog K mg := by
  have s := HdV.says c
  have su := He.eqO_ok (s.fact 48 (f := .free "super") rfl)
  have op := (HdV.parts c).2.2.2
  have v0 : ErrW (PySem.Challenge.rw_plantdue_k01_errors_each_of_its_own).prog K mg "InvalidText" "given" := errW_of (P := (PySem.Challenge.rw_plantdue_k01_errors_each_of_its_own).prog) (d := ev_InvalidText) X G (HdV.ev_ c 0 (d := ev_InvalidText) rfl).1 (HdV.ev_ c 0 (d := ev_InvalidText) rfl).2 op su rfl (NdefX.nscope_by (by decide +kernel)) rfl rfl rfl (by decide +kernel) rfl (by decide) (by decide) (fun _ _ _ _ _ _ _ _ us hl => match us, hl with | [_, _], _ => by first | rfl | kernel_rfl) (fun _ _ _ _ _ _ _ _ _ _ => by first | rfl | kernel_rfl)
  have v1 : ErrW (PySem.Challenge.rw_plantdue_k01_errors_each_of_its_own).prog K mg "InvalidCode" "given" := errW_of (P := (PySem.Challenge.rw_plantdue_k01_errors_each_of_its_own).prog) (d := ev_InvalidCode) X G (HdV.ev_ c 1 (d := ev_InvalidCode) rfl).1 (HdV.ev_ c 1 (d := ev_InvalidCode) rfl).2 op su rfl (NdefX.nscope_by (by decide +kernel)) rfl rfl rfl (by decide +kernel) rfl (by decide) (by decide) (fun _ _ _ _ _ _ _ _ us hl => match us, hl with | [_, _], _ => by first | rfl | kernel_rfl) (fun _ _ _ _ _ _ _ _ _ _ => by first | rfl | kernel_rfl)
  have v2 : ErrW (PySem.Challenge.rw_plantdue_k01_errors_each_of_its_own).prog K mg "InvalidMachine" "given" := errW_of (P := (PySem.Challenge.rw_plantdue_k01_errors_each_of_its_own).prog) (d := ev_InvalidMachine) X G (HdV.ev_ c 2 (d := ev_InvalidMachine) rfl).1 (HdV.ev_ c 2 (d := ev_InvalidMachine) rfl).2 op su rfl (NdefX.nscope_by (by decide +kernel)) rfl rfl rfl (by decide +kernel) rfl (by decide) (by decide) (fun _ _ _ _ _ _ _ _ us hl => match us, hl with | [_, _], _ => by first | rfl | kernel_rfl) (fun _ _ _ _ _ _ _ _ _ _ => by first | rfl | kernel_rfl)
  have v3 : ErrW (PySem.Challenge.rw_plantdue_k01_errors_each_of_its_own).prog K mg "InvalidImage" "given" := errW_of (P := (PySem.Challenge.rw_plantdue_k01_errors_each_of_its_own).prog) (d := ev_InvalidImage) X G (HdV.ev_ c 3 (d := ev_InvalidImage) rfl).1 (HdV.ev_ c 3 (d := ev_InvalidImage) rfl).2 op su rfl (NdefX.nscope_by (by decide +kernel)) rfl rfl rfl (by decide +kernel) rfl (by decide) (by decide) (fun _ _ _ _ _ _ _ _ us hl => match us, hl with | [_, _], _ => by first | rfl | kernel_rfl) (fun _ _ _ _ _ _ _ _ _ _ => by first | rfl | kernel_rfl)
  have v4 : ErrW (PySem.Challenge.rw_plantdue_k01_errors_each_of_its_own).prog K mg "InvalidProfile" "given" := errW_of (P := (PySem.Challenge.rw_plantdue_k01_errors_each_of_its_own).prog) (d := ev_InvalidProfile) X G (HdV.ev_ c 4 (d := ev_InvalidProfile) rfl).1 (HdV.ev_ c 4 (d := ev_InvalidProfile) rfl).2 op su rfl (NdefX.nscope_by (by decide +kernel)) rfl rfl rfl (by decide +kernel) rfl (by decide) (by decide) (fun _ _ _ _ _ _ _ _ us hl => match us, hl with | [_, _], _ => by first | rfl | kernel_rfl) (fun _ _ _ _ _ _ _ _ _ _ => by first | rfl | kernel_rfl)
  have v5 : ErrW (PySem.Challenge.rw_plantdue_k01_errors_each_of_its_own).prog K mg "InvalidExpression" "given" := errW_of (P := (PySem.Challenge.rw_plantdue_k01_errors_each_of_its_own).prog) (d := ev_InvalidExpression) X G (HdV.ev_ c 5 (d := ev_InvalidExpression) rfl).1 (HdV.ev_ c 5 (d := ev_InvalidExpression) rfl).2 op su rfl (NdefX.nscope_by (by decide +kernel)) rfl rfl rfl (by decide +kernel) rfl (by decide) (by decide) (fun _ _ _ _ _ _ _ _ us hl => match us, hl with | [_, _], _ => by first | rfl | kernel_rfl) (fun _ _ _ _ _ _ _ _ _ _ => by first | rfl | kernel_rfl)
  have v6 : ErrW (PySem.Challenge.rw_plantdue_k01_errors_each_of_its_own).prog K mg "InvalidNumber" "given" := errW_of (P := (PySem.Challenge.rw_plantdue_k01_errors_each_of_its_own).prog) (d := ev_InvalidNumber) X G (HdV.ev_ c 6 (d := ev_InvalidNumber) rfl).1 (HdV.ev_ c 6 (d := ev_InvalidNumber) rfl).2 op su rfl (NdefX.nscope_by (by decide +kernel)) rfl rfl rfl (by decide +kernel) rfl (by decide) (by decide) (fun _ _ _ _ _ _ _ _ us hl => match us, hl with | [_, _], _ => by first | rfl | kernel_rfl) (fun _ _ _ _ _ _ _ _ _ _ => by first | rfl | kernel_rfl)
  have v7 : ErrW (PySem.Challenge.rw_plantdue_k01_errors_each_of_its_own).prog K mg "InvalidStand" "given" := errW_of (P := (PySem.Challenge.rw_plantdue_k01_errors_each_of_its_own).prog) (d := ev_InvalidStand) X G (HdV.ev_ c 7 (d := ev_InvalidStand) rfl).1 (HdV.ev_ c 7 (d := ev_InvalidStand) rfl).2 op su rfl (NdefX.nscope_by (by decide +kernel)) rfl rfl rfl (by decide +kernel) rfl (by decide) (by decide) (fun _ _ _ _ _ _ _ _ us hl => match us, hl with | [_, _], _ => by first | rfl | kernel_rfl) (fun _ _ _ _ _ _ _ _ _ _ => by first | rfl | kernel_rfl)
  have v8 : ErrW (PySem.Challenge.rw_plantdue_k01_errors_each_of_its_own).prog K mg "InvalidFlag" "given" := errW_of (P := (PySem.Challenge.rw_plantdue_k01_errors_each_of_its_own).prog) (d := ev_InvalidFlag) X G (HdV.ev_ c 8 (d := ev_InvalidFlag) rfl).1 (HdV.ev_ c 8 (d := ev_InvalidFlag) rfl).2 op su rfl (NdefX.nscope_by (by decide +kernel)) rfl rfl rfl (by decide +kernel) rfl (by decide) (by decide) (fun _ _ _ _ _ _ _ _ us hl => match us, hl with | [_, _], _ => by first | rfl | kernel_rfl) (fun _ _ _ _ _ _ _ _ _ _ => by first | rfl | kernel_rfl)
  have v9 : ErrW (PySem.Challenge.rw_plantdue_k01_errors_each_of_its_own).prog K mg "InvalidPlan" "given" := errW_of (P := (PySem.Challenge.rw_plantdue_k01_errors_each_of_its_own).prog) (d := ev_InvalidPlan) X G (HdV.ev_ c 9 (d := ev_InvalidPlan) rfl).1 (HdV.ev_ c 9 (d := ev_InvalidPlan) rfl).2 op su rfl (NdefX.nscope_by (by decide +kernel)) rfl rfl rfl (by decide +kernel) rfl (by decide) (by decide) (fun _ _ _ _ _ _ _ _ us hl => match us, hl with | [_, _], _ => by first | rfl | kernel_rfl) (fun _ _ _ _ _ _ _ _ _ _ => by first | rfl | kernel_rfl)
  have v10 : ErrW (PySem.Challenge.rw_plantdue_k01_errors_each_of_its_own).prog K mg "InvalidStep" "given" := errW_of (P := (PySem.Challenge.rw_plantdue_k01_errors_each_of_its_own).prog) (d := ev_InvalidStep) X G (HdV.ev_ c 10 (d := ev_InvalidStep) rfl).1 (HdV.ev_ c 10 (d := ev_InvalidStep) rfl).2 op su rfl (NdefX.nscope_by (by decide +kernel)) rfl rfl rfl (by decide +kernel) rfl (by decide) (by decide) (fun _ _ _ _ _ _ _ _ us hl => match us, hl with | [_, _], _ => by first | rfl | kernel_rfl) (fun _ _ _ _ _ _ _ _ _ _ => by first | rfl | kernel_rfl)
  have v11 : ErrW (PySem.Challenge.rw_plantdue_k01_errors_each_of_its_own).prog K mg "InvalidDeed" "given" := errW_of (P := (PySem.Challenge.rw_plantdue_k01_errors_each_of_its_own).prog) (d := ev_InvalidDeed) X G (HdV.ev_ c 11 (d := ev_InvalidDeed) rfl).1 (HdV.ev_ c 11 (d := ev_InvalidDeed) rfl).2 op su rfl (NdefX.nscope_by (by decide +kernel)) rfl rfl rfl (by decide +kernel) rfl (by decide) (by decide) (fun _ _ _ _ _ _ _ _ us hl => match us, hl with | [_, _], _ => by first | rfl | kernel_rfl) (fun _ _ _ _ _ _ _ _ _ _ => by first | rfl | kernel_rfl)
  have v12 : ErrW (PySem.Challenge.rw_plantdue_k01_errors_each_of_its_own).prog K mg "InvalidPlant" "given" := errW_of (P := (PySem.Challenge.rw_plantdue_k01_errors_each_of_its_own).prog) (d := ev_InvalidPlant) X G (HdV.ev_ c 12 (d := ev_InvalidPlant) rfl).1 (HdV.ev_ c 12 (d := ev_InvalidPlant) rfl).2 op su rfl (NdefX.nscope_by (by decide +kernel)) rfl rfl rfl (by decide +kernel) rfl (by decide) (by decide) (fun _ _ _ _ _ _ _ _ us hl => match us, hl with | [_, _], _ => by first | rfl | kernel_rfl) (fun _ _ _ _ _ _ _ _ _ _ => by first | rfl | kernel_rfl)
  have v13 : ErrW (PySem.Challenge.rw_plantdue_k01_errors_each_of_its_own).prog K mg "InvalidCourse" "given" := errW_of (P := (PySem.Challenge.rw_plantdue_k01_errors_each_of_its_own).prog) (d := ev_InvalidCourse) X G (HdV.ev_ c 13 (d := ev_InvalidCourse) rfl).1 (HdV.ev_ c 13 (d := ev_InvalidCourse) rfl).2 op su rfl (NdefX.nscope_by (by decide +kernel)) rfl rfl rfl (by decide +kernel) rfl (by decide) (by decide) (fun _ _ _ _ _ _ _ _ us hl => match us, hl with | [_, _], _ => by first | rfl | kernel_rfl) (fun _ _ _ _ _ _ _ _ _ _ => by first | rfl | kernel_rfl)
  have v14 : ErrW (PySem.Challenge.rw_plantdue_k01_errors_each_of_its_own).prog K mg "InvalidCommand" "given" := errW_of (P := (PySem.Challenge.rw_plantdue_k01_errors_each_of_its_own).prog) (d := ev_InvalidCommand) X G (HdV.ev_ c 14 (d := ev_InvalidCommand) rfl).1 (HdV.ev_ c 14 (d := ev_InvalidCommand) rfl).2 op su rfl (NdefX.nscope_by (by decide +kernel)) rfl rfl rfl (by decide +kernel) rfl (by decide) (by decide) (fun _ _ _ _ _ _ _ _ us hl => match us, hl with | [_, _], _ => by first | rfl | kernel_rfl) (fun _ _ _ _ _ _ _ _ _ _ => by first | rfl | kernel_rfl)
  have v15 : ErrW (PySem.Challenge.rw_plantdue_k01_errors_each_of_its_own).prog K mg "OutOfRange" "given" := errW_of (P := (PySem.Challenge.rw_plantdue_k01_errors_each_of_its_own).prog) (d := ev_OutOfRange) X G (HdV.ev_ c 15 (d := ev_OutOfRange) rfl).1 (HdV.ev_ c 15 (d := ev_OutOfRange) rfl).2 op su rfl (NdefX.nscope_by (by decide +kernel)) rfl rfl rfl (by decide +kernel) rfl (by decide) (by decide) (fun _ _ _ _ _ _ _ _ us hl => match us, hl with | [_, _], _ => by first | rfl | kernel_rfl) (fun _ _ _ _ _ _ _ _ _ _ => by first | rfl | kernel_rfl)
  have v16 : ErrW (PySem.Challenge.rw_plantdue_k01_errors_each_of_its_own).prog K mg "UnknownName" "given" := errW_of (P := (PySem.Challenge.rw_plantdue_k01_errors_each_of_its_own).prog) (d := ev_UnknownName) X G (HdV.ev_ c 16 (d := ev_UnknownName) rfl).1 (HdV.ev_ c 16 (d := ev_UnknownName) rfl).2 op su rfl (NdefX.nscope_by (by decide +kernel)) rfl rfl rfl (by decide +kernel) rfl (by decide) (by decide) (fun _ _ _ _ _ _ _ _ us hl => match us, hl with | [_, _], _ => by first | rfl | kernel_rfl) (fun _ _ _ _ _ _ _ _ _ _ => by first | rfl | kernel_rfl)
  have v17 : ErrW (PySem.Challenge.rw_plantdue_k01_errors_each_of_its_own).prog K mg "TooLong" "given" := errW_of (P := (PySem.Challenge.rw_plantdue_k01_errors_each_of_its_own).prog) (d := ev_TooLong) X G (HdV.ev_ c 17 (d := ev_TooLong) rfl).1 (HdV.ev_ c 17 (d := ev_TooLong) rfl).2 op su rfl (NdefX.nscope_by (by decide +kernel)) rfl rfl rfl (by decide +kernel) rfl (by decide) (by decide) (fun _ _ _ _ _ _ _ _ us hl => match us, hl with | [_, _], _ => by first | rfl | kernel_rfl) (fun _ _ _ _ _ _ _ _ _ _ => by first | rfl | kernel_rfl)
  have v18 : ErrW (PySem.Challenge.rw_plantdue_k01_errors_each_of_its_own).prog K mg "TooMany" "given" := errW_of (P := (PySem.Challenge.rw_plantdue_k01_errors_each_of_its_own).prog) (d := ev_TooMany) X G (HdV.ev_ c 18 (d := ev_TooMany) rfl).1 (HdV.ev_ c 18 (d := ev_TooMany) rfl).2 op su rfl (NdefX.nscope_by (by decide +kernel)) rfl rfl rfl (by decide +kernel) rfl (by decide) (by decide) (fun _ _ _ _ _ _ _ _ us hl => match us, hl with | [_, _], _ => by first | rfl | kernel_rfl) (fun _ _ _ _ _ _ _ _ _ _ => by first | rfl | kernel_rfl)
  have v19 : ErrW (PySem.Challenge.rw_plantdue_k01_errors_each_of_its_own).prog K mg "DoesNotFit" "given" := errW_of (P := (PySem.Challenge.rw_plantdue_k01_errors_each_of_its_own).prog) (d := ev_DoesNotFit) X G (HdV.ev_ c 19 (d := ev_DoesNotFit) rfl).1 (HdV.ev_ c 19 (d := ev_DoesNotFit) rfl).2 op su rfl (NdefX.nscope_by (by decide +kernel)) rfl rfl rfl (by decide +kernel) rfl (by decide) (by decide) (fun _ _ _ _ _ _ _ _ us hl => match us, hl with | [_, _], _ => by first | rfl | kernel_rfl) (fun _ _ _ _ _ _ _ _ _ _ => by first | rfl | kernel_rfl)
  have v20 : ErrW (PySem.Challenge.rw_plantdue_k01_errors_each_of_its_own).prog K mg "NotADesk" "given" := errW_of (P := (PySem.Challenge.rw_plantdue_k01_errors_each_of_its_own).prog) (d := ev_NotADesk) X G (HdV.ev_ c 20 (d := ev_NotADesk) rfl).1 (HdV.ev_ c 20 (d := ev_NotADesk) rfl).2 op su rfl (NdefX.nscope_by (by decide +kernel)) rfl rfl rfl (by decide +kernel) rfl (by decide) (by decide) (fun _ _ _ _ _ _ _ _ us hl => match us, hl with | [_, _], _ => by first | rfl | kernel_rfl) (fun _ _ _ _ _ _ _ _ _ _ => by first | rfl | kernel_rfl)
  have v21 : ErrW (PySem.Challenge.rw_plantdue_k01_errors_each_of_its_own).prog K mg "InvalidLines" "index" := errW_of (P := (PySem.Challenge.rw_plantdue_k01_errors_each_of_its_own).prog) (d := ev_InvalidLines) X G (HdV.ev_ c 21 (d := ev_InvalidLines) rfl).1 (HdV.ev_ c 21 (d := ev_InvalidLines) rfl).2 op su rfl (NdefX.nscope_by (by decide +kernel)) rfl rfl rfl (by decide +kernel) rfl (by decide) (by decide) (fun _ _ _ _ _ _ _ _ us hl => match us, hl with | [_, _], _ => by first | rfl | kernel_rfl) (fun _ _ _ _ _ _ _ _ _ _ => by first | rfl | kernel_rfl)
  have v22 : ErrW (PySem.Challenge.rw_plantdue_k01_errors_each_of_its_own).prog K mg "InvalidNumbers" "index" := errW_of (P := (PySem.Challenge.rw_plantdue_k01_errors_each_of_its_own).prog) (d := ev_InvalidNumbers) X G (HdV.ev_ c 22 (d := ev_InvalidNumbers) rfl).1 (HdV.ev_ c 22 (d := ev_InvalidNumbers) rfl).2 op su rfl (NdefX.nscope_by (by decide +kernel)) rfl rfl rfl (by decide +kernel) rfl (by decide) (by decide) (fun _ _ _ _ _ _ _ _ us hl => match us, hl with | [_, _], _ => by first | rfl | kernel_rfl) (fun _ _ _ _ _ _ _ _ _ _ => by first | rfl | kernel_rfl)
  have v23 : ErrW (PySem.Challenge.rw_plantdue_k01_errors_each_of_its_own).prog K mg "InvalidPasses" "index" := errW_of (P := (PySem.Challenge.rw_plantdue_k01_errors_each_of_its_own).prog) (d := ev_InvalidPasses) X G (HdV.ev_ c 23 (d := ev_InvalidPasses) rfl).1 (HdV.ev_ c 23 (d := ev_InvalidPasses) rfl).2 op su rfl (NdefX.nscope_by (by decide +kernel)) rfl rfl rfl (by decide +kernel) rfl (by decide) (by decide) (fun _ _ _ _ _ _ _ _ us hl => match us, hl with | [_, _], _ => by first | rfl | kernel_rfl) (fun _ _ _ _ _ _ _ _ _ _ => by first | rfl | kernel_rfl)
  have v24 : ErrW (PySem.Challenge.rw_plantdue_k01_errors_each_of_its_own).prog K mg "InvalidOrder" "index" := errW_of (P := (PySem.Challenge.rw_plantdue_k01_errors_each_of_its_own).prog) (d := ev_InvalidOrder) X G (HdV.ev_ c 24 (d := ev_InvalidOrder) rfl).1 (HdV.ev_ c 24 (d := ev_InvalidOrder) rfl).2 op su rfl (NdefX.nscope_by (by decide +kernel)) rfl rfl rfl (by decide +kernel) rfl (by decide) (by decide) (fun _ _ _ _ _ _ _ _ us hl => match us, hl with | [_, _], _ => by first | rfl | kernel_rfl) (fun _ _ _ _ _ _ _ _ _ _ => by first | rfl | kernel_rfl)
  have v25 : ErrW (PySem.Challenge.rw_plantdue_k01_errors_each_of_its_own).prog K mg "InvalidRows" "index" := errW_of (P := (PySem.Challenge.rw_plantdue_k01_errors_each_of_its_own).prog) (d := ev_InvalidRows) X G (HdV.ev_ c 25 (d := ev_InvalidRows) rfl).1 (HdV.ev_ c 25 (d := ev_InvalidRows) rfl).2 op su rfl (NdefX.nscope_by (by decide +kernel)) rfl rfl rfl (by decide +kernel) rfl (by decide) (by decide) (fun _ _ _ _ _ _ _ _ us hl => match us, hl with | [_, _], _ => by first | rfl | kernel_rfl) (fun _ _ _ _ _ _ _ _ _ _ => by first | rfl | kernel_rfl)
  have v26 : ErrW (PySem.Challenge.rw_plantdue_k01_errors_each_of_its_own).prog K mg "InvalidProfiles" "index" := errW_of (P := (PySem.Challenge.rw_plantdue_k01_errors_each_of_its_own).prog) (d := ev_InvalidProfiles) X G (HdV.ev_ c 26 (d := ev_InvalidProfiles) rfl).1 (HdV.ev_ c 26 (d := ev_InvalidProfiles) rfl).2 op su rfl (NdefX.nscope_by (by decide +kernel)) rfl rfl rfl (by decide +kernel) rfl (by decide) (by decide) (fun _ _ _ _ _ _ _ _ us hl => match us, hl with | [_, _], _ => by first | rfl | kernel_rfl) (fun _ _ _ _ _ _ _ _ _ _ => by first | rfl | kernel_rfl)
  have v27 : ErrW (PySem.Challenge.rw_plantdue_k01_errors_each_of_its_own).prog K mg "InvalidChoices" "index" := errW_of (P := (PySem.Challenge.rw_plantdue_k01_errors_each_of_its_own).prog) (d := ev_InvalidChoices) X G (HdV.ev_ c 27 (d := ev_InvalidChoices) rfl).1 (HdV.ev_ c 27 (d := ev_InvalidChoices) rfl).2 op su rfl (NdefX.nscope_by (by decide +kernel)) rfl rfl rfl (by decide +kernel) rfl (by decide) (by decide) (fun _ _ _ _ _ _ _ _ us hl => match us, hl with | [_, _], _ => by first | rfl | kernel_rfl) (fun _ _ _ _ _ _ _ _ _ _ => by first | rfl | kernel_rfl)
  have v28 : ErrW (PySem.Challenge.rw_plantdue_k01_errors_each_of_its_own).prog K mg "InvalidLots" "index" := errW_of (P := (PySem.Challenge.rw_plantdue_k01_errors_each_of_its_own).prog) (d := ev_InvalidLots) X G (HdV.ev_ c 28 (d := ev_InvalidLots) rfl).1 (HdV.ev_ c 28 (d := ev_InvalidLots) rfl).2 op su rfl (NdefX.nscope_by (by decide +kernel)) rfl rfl rfl (by decide +kernel) rfl (by decide) (by decide) (fun _ _ _ _ _ _ _ _ us hl => match us, hl with | [_, _], _ => by first | rfl | kernel_rfl) (fun _ _ _ _ _ _ _ _ _ _ => by first | rfl | kernel_rfl)
  have v29 : ErrW (PySem.Challenge.rw_plantdue_k01_errors_each_of_its_own).prog K mg "InvalidErrors" "index" := errW_of (P := (PySem.Challenge.rw_plantdue_k01_errors_each_of_its_own).prog) (d := ev_InvalidErrors) X G (HdV.ev_ c 29 (d := ev_InvalidErrors) rfl).1 (HdV.ev_ c 29 (d := ev_InvalidErrors) rfl).2 op su rfl (NdefX.nscope_by (by decide +kernel)) rfl rfl rfl (by decide +kernel) rfl (by decide) (by decide) (fun _ _ _ _ _ _ _ _ us hl => match us, hl with | [_, _], _ => by first | rfl | kernel_rfl) (fun _ _ _ _ _ _ _ _ _ _ => by first | rfl | kernel_rfl)
  have v30 : ErrW (PySem.Challenge.rw_plantdue_k01_errors_each_of_its_own).prog K mg "InvalidCommands" "index" := errW_of (P := (PySem.Challenge.rw_plantdue_k01_errors_each_of_its_own).prog) (d := ev_InvalidCommands) X G (HdV.ev_ c 30 (d := ev_InvalidCommands) rfl).1 (HdV.ev_ c 30 (d := ev_InvalidCommands) rfl).2 op su rfl (NdefX.nscope_by (by decide +kernel)) rfl rfl rfl (by decide +kernel) rfl (by decide) (by decide) (fun _ _ _ _ _ _ _ _ us hl => match us, hl with | [_, _], _ => by first | rfl | kernel_rfl) (fun _ _ _ _ _ _ _ _ _ _ => by first | rfl | kernel_rfl)
  have v31 : ErrW (PySem.Challenge.rw_plantdue_k01_errors_each_of_its_own).prog K mg "Refused" "index" := errW_of (P := (PySem.Challenge.rw_plantdue_k01_errors_each_of_its_own).prog) (d := ev_Refused) X G (HdV.ev_ c 31 (d := ev_Refused) rfl).1 (HdV.ev_ c 31 (d := ev_Refused) rfl).2 op su rfl (NdefX.nscope_by (by decide +kernel)) rfl rfl rfl (by decide +kernel) rfl (by decide) (by decide) (fun _ _ _ _ _ _ _ _ us hl => match us, hl with | [_, _], _ => by first | rfl | kernel_rfl) (fun _ _ _ _ _ _ _ _ _ _ => by first | rfl | kernel_rfl)
  have v32 : ErrW (PySem.Challenge.rw_plantdue_k01_errors_each_of_its_own).prog K mg "NotKept" "time" := errW_of (P := (PySem.Challenge.rw_plantdue_k01_errors_each_of_its_own).prog) (d := ev_NotKept) X G (HdV.ev_ c 32 (d := ev_NotKept) rfl).1 (HdV.ev_ c 32 (d := ev_NotKept) rfl).2 op su rfl (NdefX.nscope_by (by decide +kernel)) rfl rfl rfl (by decide +kernel) rfl (by decide) (by decide) (fun _ _ _ _ _ _ _ _ us hl => match us, hl with | [_, _], _ => by first | rfl | kernel_rfl) (fun _ _ _ _ _ _ _ _ _ _ => by first | rfl | kernel_rfl)
  exact tope_mk X G (errTab_mk X G (HdV.parts c).1) v0 v1 v2 v3 v4 v5 v6 v7 v8 v9 v10 v11 v12 v13 v14 v15 v16 v17 v18 v19 v20 v21 v22 v23 v24 v25 v26 v27 v28 v29 v30 v31 v32 ((HdV.parts c).2.1 "Blind" (by decide)) ((HdV.parts c).2.1 "Endless" (by decide)) ((HdV.parts c).2.1 "NothingToUndo" (by decide)) ((HdV.parts c).2.1 "CannotStrike" (by decide))
end
end K01
open PySem PySem.W PySem.Calls PyProof.Rows
set_option maxHeartbeats 0 in
theorem PySem.Challenge.cw_plantdue_k01_errors_each_of_its_own_holds : PySem.Challenge.rw_plantdue_k01_errors_each_of_its_own.Holds := by
  w_on; o_law
  refine HandSHeadRun.head_any (r := OpenLaw.row PySem.Challenge.rw_plantdue_k01_errors_each_of_its_own) (q := view (OpenLaw.row PySem.Challenge.rw_plantdue_k01_errors_each_of_its_own).prog [55]) (H := K01.hd.hook) (ob := K01.hd.ob) (M := 20000) (loose := K01.hnames) (d := HandSHeadRun.topDef (OpenLaw.row PySem.Challenge.rw_plantdue_k01_errors_each_of_its_own).prog 55) (kwd := []) K01.hd.ob_eq
    (by kernel_rfl) (fun s => by kernel_rfl) K01.hrun (by kernel_rfl) (by kernel_rfl) (by kernel_rfl) (by rfl) (by first | assumption | decide +kernel) (by decide +kernel) ⟨rfl, rfl, rfl, rfl, rfl, by decide +kernel⟩ ?hw ?hc
  case hw => w_witness2
  case hc =>
    refine PL.walk_E (l := PySem.Challenge.rw_plantdue_k01_errors_each_of_its_own) (n := 63) (k := 6) (x := "script") rfl (by decide) (by kernel_rfl) ⟨rfl, by decide, by decide⟩ ?F
    intro w mg fa h Y G hmg0
    obtain ⟨K, KX, c⟩ := Y
    have hmg : mg ("law" : PySem.Str) = some (.ref fa) := by
      have e : (HandSHeadRun.topDef (OpenLaw.row PySem.Challenge.rw_plantdue_k01_errors_each_of_its_own).prog 55).name = ("law" : PySem.Str) := by kernel_rfl
      rw [← e]
      exact hmg0
    obtain ⟨fd, hb, hF⟩ := PL.law_end (P := (PySem.Challenge.rw_plantdue_k01_errors_each_of_its_own).prog) (w := w) (cs := []) (n := 63) (k := 6) (K01.hd_top KX G c).f_law hmg (fun _ _ _ _ _ _ _ => rfl) fun base f fd hB DF => K01.own_end (P := (PySem.Challenge.rw_plantdue_k01_errors_each_of_its_own).prog) (w := w) (base := base) (K01.hd_top KX G c) (K01.hd_tope KX G c) DF
    exact ⟨K, KX, fd, hb, fun base B N => hF base B N fun e he => nomatch he⟩

