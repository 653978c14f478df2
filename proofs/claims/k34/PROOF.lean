import PyProof.Rows.All
import Wide.All
import OpenK.AllK
import Wide.FinOn
import HandS.ForMost
import HandS.Star
import HandS.Zip
import HandS.TupAny
import HandS.IsInst
import HandS.Style
import HandS.WordsExc
import HandS.TryMany
import HandS.Lambda
import HandS.EndBits
import KE.SortKeyHeap
import KE.DataCmp
import HandS.Keys
import HandS.SortKw
import HandS.EndTab
import HandS.Deep
import HandS.Iter
import HandS.TupMul
import KE.GoesEnum
import KE.GoesMore
import HandS.Strs
import HandS.SetFor
import PySem.Challenge.RW_plantdue_k34_whole_plans_of_houses
set_option Elab.async false
set_option linter.all false
set_option maxRecDepth 100000
set_option maxHeartbeats 4000000
set_option autoImplicit false
namespace PL
open PySem PySem.Spec L2

/-! # The pure layer: data without a heap -/
/-- a datum; `well`: the one list of three numbers that draws come from; `ty`: a built-in class; `scr`: the law's script -/
inductive D where
  | non
  | bl (b : Bool)
  | int (i : Int)
  | str (x : Str)
  | tup (xs : List D)
  | lst (xs : List D)
  | well
  | ty (n : String)
  | scr (ns : List Int)

def LIM : Nat := 1000000
theorem lim_line {n : Nat} (h : n ≤ LIM) : n ≤ sizeLine := Nat.le_trans h (by decide)
theorem lim_lt {n : Nat} (h : n ≤ LIM) : n < sizeLine := Nat.lt_of_le_of_lt h (by decide)

/-! ### the well, growing heaps -/
def WellAt (H : Hp) (p : Addr) : Prop := ∃ i j k : Int, H p = some (.lst [.int i, .int j, .int k]) ∧ 0 ≤ i ∧ 0 ≤ j ∧ j < 2147483648
/-- what stands apart: the well (it may change), lists that are being made (kept, but nothing points to them) -/
structure Wd where
  wl : Option Addr
  hid : Addr → Prop
  /-- the def's own lists, that it changes -/
  ow : Addr → Prop
  /-- the tables of code objects -/
  tabs : List (Addr × Str)
/-- a is none of those that stand apart -/
def Wd.fr (w : Wd) (a : Addr) : Prop := w.wl ≠ some a ∧ ¬ w.hid a ∧ ¬ w.ow a
def Wd.hide (w : Wd) (ex : List Addr) : Wd := ⟨w.wl, fun a => a ∈ ex ∨ w.hid a, w.ow, w.tabs⟩
/-- a thing that a def may change -/
def Mut : HO → Prop
  | .lst _ => True
  | .dK _ => True
  | .dT _ => True
  | .set _ _ => True
  | .ins _ _ _ => True
  | .own _ => True
  | .xd _ => True
  | _ => False
def NT (o : HO) : Prop := ∀ ps, o ≠ .tbl ps
theorem Mut.nt {o : HO} (h : Mut o) : NT o := fun ps e => by subst e; exact h
structure Wk (w : Wd) (H : Hp) : Prop where
  well : ∀ p, w.wl = some p → WellAt H p
  hid : ∀ a, w.hid a → ∃ o, H a = some o ∧ Mut o
  ow : ∀ a, w.ow a → ∃ o, H a = some o ∧ Mut o
  tabs : LamX.Tabs w.tabs H
theorem Wk.new {w : Wd} {H : Hp} {a : Addr} (h : Wk w H) (n : H a = none) : w.fr a := by
  refine ⟨fun z => ?_, fun z => ?_, fun z => ?_⟩
  · obtain ⟨i, j, k, e, _⟩ := h.well a z
    rw [n] at e; cases e
  · obtain ⟨vs, e, _⟩ := h.hid a z
    rw [n] at e; cases e
  · obtain ⟨vs, e, _⟩ := h.ow a z
    rw [n] at e; cases e
/-- what an expression may do to the heap -/
structure Ext (w : Wd) (H H' : Hp) : Prop where
  keep : ∀ a o, w.wl ≠ some a → H a = some o → NT o → H' a = some o
  wk : Wk w H'
theorem Ext.refl {w : Wd} {H : Hp} (h : Wk w H) : Ext w H H := ⟨fun _ _ _ e _ => e, h⟩
theorem Ext.trans {w : Wd} {H H1 H2 : Hp} (x : Ext w H H1) (y : Ext w H1 H2) : Ext w H H2 := ⟨fun a o n e t => y.keep a o n (x.keep a o n e t) t, y.wk⟩
theorem tabs_upd {T : List (Addr × Str)} {H : Hp} {p : Addr} {o : HO} (h : LamX.Tabs T H) (n : H p = none) : LamX.Tabs T (upd H p o) := h.ext fun b u e => by rw [upd_ne (ne_of_none e n)]; exact e
theorem Wk.newAt {w : Wd} {H : Hp} {p : Addr} {o : HO} (h : Wk w H) (n : H p = none) : Wk w (upd H p o) := by
  refine ⟨fun q hq => ?_, fun q hq => ?_, fun q hq => ?_, tabs_upd h.tabs n⟩
  · obtain ⟨i, j, k, e, r⟩ := h.well q hq
    exact ⟨i, j, k, by rw [upd_ne (ne_of_none e n)]; exact e, r⟩
  · obtain ⟨u, e, m⟩ := h.hid q hq
    exact ⟨u, by rw [upd_ne (ne_of_none e n)]; exact e, m⟩
  · obtain ⟨u, e, m⟩ := h.ow q hq
    exact ⟨u, by rw [upd_ne (ne_of_none e n)]; exact e, m⟩
theorem Ext.new {w : Wd} {H : Hp} {p : Addr} {o : HO} (h : Wk w H) (n : H p = none) : Ext w H (upd H p o) :=
  ⟨fun a u _ e _ => by rw [upd_ne (ne_of_none e n)]; exact e, h.newAt n⟩
theorem tabs_write {T : List (Addr × Str)} {H : Hp} {p : Addr} {u o : HO} (h : LamX.Tabs T H) (n : H p = some u) (m : Mut u) : LamX.Tabs T (upd H p o) := fun q hq => by
  obtain ⟨ps, e1, e2, e3⟩ := h q hq
  refine ⟨ps, by rw [upd_ne (ne_of e1 n (by intro z; subst z; exact m))]; exact e1, e2, fun pos cv hc => ?_⟩
  obtain ⟨c, e4, e5⟩ := e3 pos cv hc
  exact ⟨c, e4, by rw [upd_ne (ne_of e5 n (by intro z; subst z; exact m))]; exact e5⟩
/-- a thing that may change is written: it stays one -/
theorem Wk.write {w : Wd} {H : Hp} {p : Addr} {u o : HO} (h : Wk w H) (n : H p = some u) (m : Mut u) (m' : Mut o) (hw : w.wl = some p → ∃ i j k : Int, o = .lst [.int i, .int j, .int k] ∧ 0 ≤ i ∧ 0 ≤ j ∧ j < 2147483648) : Wk w (upd H p o) := by
  refine ⟨fun q hq => ?_, fun q hq => ?_, fun q hq => ?_, tabs_write h.tabs n m⟩
  · by_cases z : q = p
    · subst z
      obtain ⟨i, j, k, e, r⟩ := hw hq
      subst e
      exact ⟨i, j, k, upd_same, r⟩
    · obtain ⟨i, j, k, e, r⟩ := h.well q hq
      exact ⟨i, j, k, by rw [upd_ne z]; exact e, r⟩
  · by_cases z : q = p
    · exact ⟨o, by rw [z]; exact upd_same, m'⟩
    · obtain ⟨v, e, r⟩ := h.hid q hq
      exact ⟨v, by rw [upd_ne z]; exact e, r⟩
  · by_cases z : q = p
    · exact ⟨o, by rw [z]; exact upd_same, m'⟩
    · obtain ⟨v, e, r⟩ := h.ow q hq
      exact ⟨v, by rw [upd_ne z]; exact e, r⟩
theorem Wk.notTup {w : Wd} {H : Hp} {a : Addr} {xs : List V} (h : Wk w H) (r : Rd H a (.tup xs)) : w.wl ≠ some a := fun e => by
  obtain ⟨i, j, k, q, _⟩ := h.well a e
  rcases r with r | ⟨o, r⟩
  · rw [q] at r; cases r
  · rw [q] at r; cases r
theorem sqT_ext {K : PySem.W.Frag} {w : Wd} {H H' : Hp} {a : Addr} {xs : List V} (s : SqT K H a xs) (h : Wk w H) (x : Ext w H H') : SqT K H' a xs := by
  rcases s with s | s
  · have n := h.notTup s
    rcases s with s | ⟨o, s⟩
    · exact .inl (.inl (x.keep _ _ n s (fun _ z => nomatch z)))
    · exact .inl (.inr ⟨o, x.keep _ _ n s (fun _ z => nomatch z)⟩)
  · exact .inr s

/-- the script: known to the object, or one of the module's -/
def ScrAt (K : PySem.W.Frag) (H : Hp) (a : Addr) (ns : List Int) : Prop := (∃ o, H a = some (.frz o (.lst (ns.map V.int)))) ∨
  ∃ (o : Obj) (its : Array Value) (n : Nat), K.lookup a = some o ∧ o.cls = .type "list" ∧ o.dict = none ∧ o.data = .seq its n ∧ its.size ≤ sizeLine ∧ Vals (ns.map V.int) its.toList
theorem ScrAt.sq {K : PySem.W.Frag} {H : Hp} {a : Addr} {ns : List Int} (s : ScrAt K H a ns) : SqL K H a (ns.map V.int) := by
  rcases s with ⟨o, s⟩ | s
  · exact .inl (.inr ⟨o, s⟩)
  · exact .inr s
theorem ScrAt.ext {K : PySem.W.Frag} {w : Wd} {H H' : Hp} {a : Addr} {ns : List Int} (s : ScrAt K H a ns) (h : Wk w H) (x : Ext w H H') : ScrAt K H' a ns := by
  rcases s with ⟨o, s⟩ | s
  · refine .inl ⟨o, x.keep _ _ (fun z => ?_) s (fun _ z => nomatch z)⟩
    obtain ⟨i, j, k, e, _⟩ := h.well a z
    rw [s] at e; cases e
  · exact .inr s
theorem ScrAt.upd_ne {K : PySem.W.Frag} {H : Hp} {a p : Addr} {ns : List Int} {o : HO} (s : ScrAt K H a ns) (n : ∀ u, H a = some (.frz u (.lst (ns.map V.int))) → a ≠ p) : ScrAt K (upd H p o) a ns := by
  rcases s with ⟨u, s⟩ | s
  · exact .inl ⟨u, by rw [L2.upd_ne (n u s)]; exact s⟩
  · exact .inr s

/-! ### a value stands for a datum -/
mutual
def Rp (K : PySem.W.Frag) (wl : Wd) (H : Hp) : D → V → Prop
  | .non, v => v = .non
  | .bl b, v => v = .bl b
  | .int i, v => v = .int i
  | .str x, v => v = .str x
  | .tup ds, v => ∃ a vs, v = .ref a ∧ SqT K H a vs ∧ RpL K wl H ds vs
  | .lst ds, v => ∃ a vs, v = .ref a ∧ wl.fr a ∧ H a = some (.lst vs) ∧ RpL K wl H ds vs
  | .well, v => ∃ a, wl.wl = some a ∧ v = .ref a
  | .ty n, v => v = .ty n
  | .scr ns, v => ∃ a, v = .ref a ∧ ScrAt K H a ns
def RpL (K : PySem.W.Frag) (wl : Wd) (H : Hp) : List D → List V → Prop
  | [], vs => vs = []
  | d :: ds, vs => ∃ v r, vs = v :: r ∧ Rp K wl H d v ∧ RpL K wl H ds r
end
section
variable {K : PySem.W.Frag} {wl : Wd} {H H' : Hp}
mutual
theorem Rp.ext (h : Wk wl H) (x : Ext wl H H') : ∀ (d : D) (v : V), Rp K wl H d v → Rp K wl H' d v
  | .non, _, r => r
  | .bl _, _, r => r
  | .int _, _, r => r
  | .str _, _, r => r
  | .tup ds, _, ⟨a, vs, e, s, q⟩ => ⟨a, vs, e, sqT_ext s h x, RpL.ext h x ds vs q⟩
  | .lst ds, _, ⟨a, vs, e, n, s, q⟩ => ⟨a, vs, e, n, x.keep _ _ n.1 s (fun _ z => nomatch z), RpL.ext h x ds vs q⟩
  | .well, _, r => r
  | .ty _, _, r => r
  | .scr ns, _, ⟨a, e, s⟩ => ⟨a, e, s.ext h x⟩
theorem RpL.ext (h : Wk wl H) (x : Ext wl H H') : ∀ (ds : List D) (vs : List V), RpL K wl H ds vs → RpL K wl H' ds vs
  | [], _, r => r
  | d :: ds, _, ⟨v, r, e, p, q⟩ => ⟨v, r, e, Rp.ext h x d v p, RpL.ext h x ds r q⟩
end
theorem RpL.length : ∀ {ds : List D} {vs : List V}, RpL K wl H ds vs → vs.length = ds.length
  | [], _, r => by cases r; rfl
  | d :: ds, _, ⟨v, r, e, p, q⟩ => by subst e; rw [List.length_cons, List.length_cons, RpL.length q]
theorem RpL.get : ∀ {ds : List D} {vs : List V} {i : Nat} {d : D}, RpL K wl H ds vs → ds[i]? = some d → ∃ v, vs[i]? = some v ∧ Rp K wl H d v
  | [], _, i, d, _, e => by simp at e
  | d :: ds, _, 0, d', ⟨v, r, e, p, q⟩, h => by
    subst e
    obtain rfl : d = d' := by simpa using h
    exact ⟨v, rfl, p⟩
  | d :: ds, _, i + 1, d', ⟨v, r, e, p, q⟩, h => by
    subst e
    obtain ⟨u, h1, h2⟩ := RpL.get (i := i) (d := d') q (by simpa using h)
    exact ⟨u, by simpa using h1, h2⟩
theorem RpL.getV : ∀ {ds : List D} {vs : List V} {i : Nat} {v : V}, RpL K wl H ds vs → vs[i]? = some v → ∃ d, ds[i]? = some d ∧ Rp K wl H d v
  | [], _, i, v, r, e => by cases r; simp at e
  | d :: ds, _, 0, v', ⟨v, r, e, p, q⟩, h => by
    subst e
    obtain rfl : v = v' := by simpa using h
    exact ⟨d, rfl, p⟩
  | d :: ds, _, i + 1, v', ⟨v, r, e, p, q⟩, h => by
    subst e
    obtain ⟨u, h1, h2⟩ := RpL.getV (i := i) (v := v') q (by simpa using h)
    exact ⟨u, by simpa using h1, h2⟩
theorem RpL.append : ∀ {ds es : List D} {vs us : List V}, RpL K wl H ds vs → RpL K wl H es us → RpL K wl H (ds ++ es) (vs ++ us)
  | [], _, _, _, r, s => by cases r; exact s
  | d :: ds, _, _, _, ⟨v, r, e, p, q⟩, s => by subst e; exact ⟨v, _, rfl, p, RpL.append q s⟩
theorem RpL.drop : ∀ {ds : List D} {vs : List V} (n : Nat), RpL K wl H ds vs → RpL K wl H (ds.drop n) (vs.drop n)
  | _, _, 0, r => by simpa using r
  | [], _, n + 1, r => by cases r; rfl
  | d :: ds, _, n + 1, ⟨v, r, e, p, q⟩ => by subst e; simpa using RpL.drop n q
theorem RpL.take : ∀ {ds : List D} {vs : List V} (n : Nat), RpL K wl H ds vs → RpL K wl H (ds.take n) (vs.take n)
  | _, _, 0, r => by simp; rfl
  | [], _, n + 1, r => by cases r; rfl
  | d :: ds, _, n + 1, ⟨v, r, e, p, q⟩ => by subst e; simpa using ⟨v, _, rfl, p, RpL.take n q⟩
mutual
/-- as more is hidden that was not there -/
theorem Rp.into {ex : List Addr} (h : Wk wl H) (n : ∀ a, a ∈ ex → H a = none) (x : Ext wl H H') : ∀ (d : D) (v : V), Rp K wl H d v → Rp K (wl.hide ex) H' d v
  | .non, _, r => r
  | .bl _, _, r => r
  | .int _, _, r => r
  | .str _, _, r => r
  | .tup ds, _, ⟨a, vs, e, s, q⟩ => ⟨a, vs, e, sqT_ext s h x, RpL.into h n x ds vs q⟩
  | .lst ds, _, ⟨a, vs, e, f, s, q⟩ => ⟨a, vs, e, ⟨f.1, fun z => by
      rcases z with z | z
      · rw [n a z] at s; cases s
      · exact f.2.1 z, f.2.2⟩, x.keep _ _ f.1 s (fun _ z => nomatch z), RpL.into h n x ds vs q⟩
  | .well, _, r => r
  | .ty _, _, r => r
  | .scr ns, _, ⟨a, e, s⟩ => ⟨a, e, s.ext h x⟩
theorem RpL.into {ex : List Addr} (h : Wk wl H) (n : ∀ a, a ∈ ex → H a = none) (x : Ext wl H H') : ∀ (ds : List D) (vs : List V), RpL K wl H ds vs → RpL K (wl.hide ex) H' ds vs
  | [], _, r => r
  | d :: ds, _, ⟨v, r, e, p, q⟩ => ⟨v, r, e, Rp.into h n x d v p, RpL.into h n x ds r q⟩
end
mutual
theorem Rp.out {ex : List Addr} : ∀ (d : D) (v : V), Rp K (wl.hide ex) H d v → Rp K wl H d v
  | .non, _, r => r
  | .bl _, _, r => r
  | .int _, _, r => r
  | .str _, _, r => r
  | .tup ds, _, ⟨a, vs, e, s, q⟩ => ⟨a, vs, e, s, RpL.out ds vs q⟩
  | .lst ds, _, ⟨a, vs, e, f, s, q⟩ => ⟨a, vs, e, ⟨f.1, fun z => f.2.1 (.inr z), f.2.2⟩, s, RpL.out ds vs q⟩
  | .well, _, r => r
  | .ty _, _, r => r
  | .scr _, _, r => r
theorem RpL.out {ex : List Addr} : ∀ (ds : List D) (vs : List V), RpL K (wl.hide ex) H ds vs → RpL K wl H ds vs
  | [], _, r => r
  | d :: ds, _, ⟨v, r, e, p, q⟩ => ⟨v, r, e, Rp.out d v p, RpL.out ds r q⟩
end
theorem sqT_upd {a p : Addr} {xs : List V} {u o : HO} (s : SqT K H a xs) (hp : H p = some u) (hm : Mut u) : SqT K (upd H p o) a xs := by
  rcases s with (s | ⟨o, s⟩) | s
  · exact .inl (.inl (by rw [upd_ne (ne_of s hp (by intro z; subst z; exact hm))]; exact s))
  · exact .inl (.inr ⟨o, by rw [upd_ne (ne_of s hp (by intro z; subst z; exact hm))]; exact s⟩)
  · exact .inr s
mutual
/-- what stands apart is written -/
theorem Rp.write {p : Addr} {u o : HO} (hh : ¬ wl.fr p) (hp : H p = some u) (hm : Mut u) : ∀ (d : D) (v : V), Rp K wl H d v → Rp K wl (upd H p o) d v
  | .non, _, r => r
  | .bl _, _, r => r
  | .int _, _, r => r
  | .str _, _, r => r
  | .tup ds, _, ⟨a, vs, e, s, q⟩ => ⟨a, vs, e, sqT_upd s hp hm, RpL.write hh hp hm ds vs q⟩
  | .lst ds, _, ⟨a, vs, e, f, s, q⟩ => ⟨a, vs, e, f, by rw [upd_ne (fun z => hh (by rw [← z]; exact f))]; exact s, RpL.write hh hp hm ds vs q⟩
  | .well, _, r => r
  | .ty _, _, r => r
  | .scr ns, _, ⟨a, e, s⟩ => ⟨a, e, s.upd_ne fun w z => ne_of z hp (by intro y; subst y; exact hm)⟩
theorem RpL.write {p : Addr} {u o : HO} (hh : ¬ wl.fr p) (hp : H p = some u) (hm : Mut u) : ∀ (ds : List D) (vs : List V), RpL K wl H ds vs → RpL K wl (upd H p o) ds vs
  | [], _, r => r
  | d :: ds, _, ⟨v, r, e, p', q⟩ => ⟨v, r, e, Rp.write hh hp hm d v p', RpL.write hh hp hm ds r q⟩
end
mutual
theorem Rp.grow {p : Addr} {o : HO} (hp : H p = none) : ∀ (d : D) (v : V), Rp K wl H d v → Rp K wl (upd H p o) d v
  | .non, _, r => r
  | .bl _, _, r => r
  | .int _, _, r => r
  | .str _, _, r => r
  | .tup ds, _, ⟨a, vs, e, s, q⟩ => ⟨a, vs, e, by
      rcases s with (s | ⟨u, s⟩) | s
      · exact .inl (.inl (by rw [upd_ne (ne_of_none s hp)]; exact s))
      · exact .inl (.inr ⟨u, by rw [upd_ne (ne_of_none s hp)]; exact s⟩)
      · exact .inr s, RpL.grow hp ds vs q⟩
  | .lst ds, _, ⟨a, vs, e, f, s, q⟩ => ⟨a, vs, e, f, by rw [upd_ne (ne_of_none s hp)]; exact s, RpL.grow hp ds vs q⟩
  | .well, _, r => r
  | .ty _, _, r => r
  | .scr ns, _, ⟨a, e, s⟩ => ⟨a, e, s.upd_ne fun u z => ne_of_none z hp⟩
theorem RpL.grow {p : Addr} {o : HO} (hp : H p = none) : ∀ (ds : List D) (vs : List V), RpL K wl H ds vs → RpL K wl (upd H p o) ds vs
  | [], _, r => r
  | d :: ds, _, ⟨v, r, e, p', q⟩ => ⟨v, r, e, Rp.grow hp d v p', RpL.grow hp ds r q⟩
end
theorem RpL.one {d : D} {v : V} (r : Rp K wl H d v) : RpL K wl H [d] [v] := ⟨v, [], rfl, r, rfl⟩
end

/-! ### steps of a def: it may change its own things, make new ones -/
/-- nothing that is known stands at a (a table of code objects may) -/
def Fresh (H : Hp) (a : Addr) : Prop := ∀ o, H a = some o → ¬ NT o
theorem Fresh.of {H : Hp} {a : Addr} (h : H a = none) : Fresh H a := fun o e => by rw [h] at e; cases e
structure Step (w : Wd) (H : Hp) (w' : Wd) (H' : Hp) : Prop where
  wl : w'.wl = w.wl
  tabs : w'.tabs = w.tabs
  keep : ∀ a o, w.wl ≠ some a → ¬ w.ow a → H a = some o → NT o → H' a = some o
  hid : ∀ a, w.hid a → w'.hid a
  old : ∀ a, w'.hid a → w.hid a ∨ w.ow a ∨ Fresh H a
  ow : ∀ a, w'.ow a → w.ow a ∨ Fresh H a
  wk : Wk w' H'
theorem Ext.step {w : Wd} {H H' : Hp} (x : Ext w H H') : Step w H w H' :=
  ⟨rfl, rfl, fun a o n _ e t => x.keep a o n e t, fun _ z => z, fun _ z => .inl z, fun _ z => .inl z, x.wk⟩
theorem Step.trans {w w1 w2 : Wd} {H H1 H2 : Hp} (x : Step w H w1 H1) (y : Step w1 H1 w2 H2) : Step w H w2 H2 := by
  have nn : ∀ a, Fresh H1 a → w.ow a ∨ Fresh H a := fun a z => Classical.byContradiction fun h => h (.inr fun o e t => by
    by_cases hw : w.wl = some a
    · obtain ⟨i, j, k, q, _⟩ := x.wk.well a (x.wl.trans hw)
      exact z _ q (fun _ y => nomatch y)
    · exact z o (x.keep a o hw (fun m => h (.inl m)) e t) t)
  refine ⟨y.wl.trans x.wl, y.tabs.trans x.tabs, fun a o n m e t => y.keep a o (by rw [x.wl]; exact n) (fun z => (x.ow a z).elim m fun z => z o e t) (x.keep a o n m e t) t, fun a z => y.hid a (x.hid a z), fun a z => ?_, fun a z => ?_, y.wk⟩
  · rcases y.old a z with z | z | z
    · exact x.old a z
    · exact .inr (x.ow a z)
    · exact .inr (nn a z)
  · rcases y.ow a z with z | z
    · exact x.ow a z
    · exact nn a z
section
variable {K : PySem.W.Frag} {w w' : Wd} {H H' : Hp}
theorem Step.fr (x : Step w H w' H') {a : Addr} {o : HO} (f : w.fr a) (h : H a = some o) (t : NT o) : w'.fr a := by
  refine ⟨by rw [x.wl]; exact f.1, fun z => ?_, fun z => ?_⟩
  · rcases x.old a z with z | z | z
    · exact f.2.1 z
    · exact f.2.2 z
    · exact z o h t
  · rcases x.ow a z with z | z
    · exact f.2.2 z
    · exact z o h t
theorem Wk.notOw {a : Addr} {u : HO} (h : Wk w H) (e : H a = some u) (m : ¬ Mut u) : ¬ w.ow a := fun z => by
  obtain ⟨o, q, r⟩ := h.ow a z
  rw [e] at q; cases q
  exact m r
theorem sqT_step {a : Addr} {xs : List V} (s : SqT K H a xs) (h : Wk w H) (x : Step w H w' H') : SqT K H' a xs := by
  rcases s with s | s
  · have n := h.notTup s
    rcases s with s | ⟨o, s⟩
    · exact .inl (.inl (x.keep _ _ n (h.notOw s (fun z => z)) s (fun _ z => nomatch z)))
    · exact .inl (.inr ⟨o, x.keep _ _ n (h.notOw s (fun z => z)) s (fun _ z => nomatch z)⟩)
  · exact .inr s
theorem ScrAt.step {a : Addr} {ns : List Int} (s : ScrAt K H a ns) (h : Wk w H) (x : Step w H w' H') : ScrAt K H' a ns := by
  rcases s with ⟨o, s⟩ | s
  · refine .inl ⟨o, x.keep _ _ (fun z => ?_) (h.notOw s (fun z => z)) s (fun _ z => nomatch z)⟩
    obtain ⟨i, j, k, e, _⟩ := h.well a z
    rw [s] at e; cases e
  · exact .inr s
mutual
theorem Rp.step (h : Wk w H) (x : Step w H w' H') : ∀ (d : D) (v : V), Rp K w H d v → Rp K w' H' d v
  | .non, _, r => r
  | .bl _, _, r => r
  | .int _, _, r => r
  | .str _, _, r => r
  | .tup ds, _, ⟨a, vs, e, s, q⟩ => ⟨a, vs, e, sqT_step s h x, RpL.step h x ds vs q⟩
  | .lst ds, _, ⟨a, vs, e, n, s, q⟩ => ⟨a, vs, e, x.fr n s (fun _ z => nomatch z), x.keep _ _ n.1 n.2.2 s (fun _ z => nomatch z), RpL.step h x ds vs q⟩
  | .well, _, ⟨a, e, r⟩ => ⟨a, x.wl.trans e, r⟩
  | .ty _, _, r => r
  | .scr ns, _, ⟨a, e, s⟩ => ⟨a, e, s.step h x⟩
theorem RpL.step (h : Wk w H) (x : Step w H w' H') : ∀ (ds : List D) (vs : List V), RpL K w H ds vs → RpL K w' H' ds vs
  | [], _, r => r
  | d :: ds, _, ⟨v, r, e, p, q⟩ => ⟨v, r, e, Rp.step h x d v p, RpL.step h x ds r q⟩
end
mutual
/-- from a world in which more stands apart -/
theorem Rp.less (hw : w.wl = w'.wl) (hf : ∀ a, w.fr a → w'.fr a) : ∀ (d : D) (v : V), Rp K w H d v → Rp K w' H d v
  | .non, _, r => r
  | .bl _, _, r => r
  | .int _, _, r => r
  | .str _, _, r => r
  | .tup ds, _, ⟨a, vs, e, s, q⟩ => ⟨a, vs, e, s, RpL.less hw hf ds vs q⟩
  | .lst ds, _, ⟨a, vs, e, n, s, q⟩ => ⟨a, vs, e, hf a n, s, RpL.less hw hf ds vs q⟩
  | .well, _, ⟨a, e, r⟩ => ⟨a, hw ▸ e, r⟩
  | .ty _, _, r => r
  | .scr ns, _, r => r
theorem RpL.less (hw : w.wl = w'.wl) (hf : ∀ a, w.fr a → w'.fr a) : ∀ (ds : List D) (vs : List V), RpL K w H ds vs → RpL K w' H ds vs
  | [], _, r => r
  | d :: ds, _, ⟨v, r, e, p, q⟩ => ⟨v, r, e, Rp.less hw hf d v p, RpL.less hw hf ds r q⟩
end
end

/-! ### environments: a name holds nothing, a datum, a list of the def's own -/
inductive Sl where
  | no
  | dt (d : D)
  | ow (xs : List D)
abbrev Ev := List Sl
structure EvR (K : PySem.W.Frag) (wl : Wd) (H : Hp) (ρ : Ev) (σ : St) : Prop where
  len : ρ.length = σ.length
  at_ : ∀ (i : Nat) (d : D), ρ[i]? = some (.dt d) → ∃ v, σ[i]? = some (some v) ∧ Rp K wl H d v
  ow : ∀ (i : Nat) (xs : List D), ρ[i]? = some (.ow xs) → ∃ a vs, σ[i]? = some (some (.ref a)) ∧ (wl.wl ≠ some a ∧ ¬ wl.hid a) ∧ wl.ow a ∧ H a = some (.lst vs) ∧ RpL K wl H xs vs
  uni : ∀ (i j : Nat) (xs ys : List D) (a : Addr), ρ[i]? = some (.ow xs) → ρ[j]? = some (.ow ys) → σ[i]? = some (some (.ref a)) → σ[j]? = some (some (.ref a)) → i = j
section
variable {K : PySem.W.Frag} {wl : Wd} {H H' : Hp} {ρ : Ev} {σ : St}
theorem EvR.ext (r : EvR K wl H ρ σ) (h : Wk wl H) (x : Ext wl H H') : EvR K wl H' ρ σ :=
  ⟨r.len, fun i d e => let ⟨v, a, b⟩ := r.at_ i d e; ⟨v, a, Rp.ext h x d v b⟩, fun i xs e => let ⟨a, vs, b, c, d, f, g⟩ := r.ow i xs e; ⟨a, vs, b, c, d, x.keep _ _ c.1 f (fun _ z => nomatch z), RpL.ext h x xs vs g⟩, r.uni⟩
theorem sl_get {ρ : Ev} {i j : Nat} {s t : Sl} (e : (ρ.set i s)[j]? = some t) : (i = j ∧ s = t) ∨ (i ≠ j ∧ ρ[j]? = some t) := by
  by_cases hj : i = j
  · subst hj
    by_cases hl : i < ρ.length
    · rw [List.getElem?_set_self hl] at e
      exact .inl ⟨rfl, Option.some.inj e⟩
    · rw [List.getElem?_eq_none (by rw [List.length_set]; omega)] at e
      cases e
  · rw [List.getElem?_set_ne hj] at e
    exact .inr ⟨hj, e⟩
theorem set_lt {α : Type} {ρ : List α} {i : Nat} {s t : α} (e : (ρ.set i s)[i]? = some t) : i < ρ.length := by
  have := (List.getElem?_eq_some_iff.mp e).1
  rwa [List.length_set] at this
theorem EvR.put (r : EvR K wl H ρ σ) {s : Sl} {o : Option V} (i : Nat) (hd : ∀ d, s = .dt d → ∃ v, o = some v ∧ Rp K wl H d v) (ho : ∀ xs, s ≠ .ow xs) : EvR K wl H (ρ.set i s) (σ.set i o) := by
  refine ⟨by rw [List.length_set, List.length_set]; exact r.len, fun j c e => ?_, fun j c e => ?_, fun j k xs ys a e1 e2 e3 e4 => ?_⟩
  · have hl := e
    rcases sl_get e with ⟨rfl, z⟩ | ⟨n, z⟩
    · obtain ⟨v, q, p⟩ := hd c z
      exact ⟨v, by rw [List.getElem?_set_self (by rw [← r.len]; exact set_lt hl), q], p⟩
    · rw [List.getElem?_set_ne n]
      exact r.at_ j c z
  · rcases sl_get e with ⟨rfl, z⟩ | ⟨n, z⟩
    · exact (ho c z).elim
    · rw [List.getElem?_set_ne n]
      exact r.ow j c z
  · rcases sl_get e1 with ⟨rfl, z⟩ | ⟨n1, z1⟩
    · exact (ho xs z).elim
    · rcases sl_get e2 with ⟨rfl, z⟩ | ⟨n2, z2⟩
      · exact (ho ys z).elim
      · rw [List.getElem?_set_ne n1] at e3
        rw [List.getElem?_set_ne n2] at e4
        exact r.uni j k xs ys a z1 z2 e3 e4
theorem EvR.set (r : EvR K wl H ρ σ) {d : D} {v : V} (p : Rp K wl H d v) (i : Nat) : EvR K wl H (ρ.set i (.dt d)) (σ.set i (some v)) :=
  r.put i (fun c e => by cases e; exact ⟨v, rfl, p⟩) fun _ z => nomatch z
theorem EvR.into {ex : List Addr} (r : EvR K wl H ρ σ) (h : Wk wl H) (n : ∀ a, a ∈ ex → H a = none) (x : Ext wl H H') : EvR K (wl.hide ex) H' ρ σ :=
  ⟨r.len, fun i d e => let ⟨v, a, b⟩ := r.at_ i d e; ⟨v, a, Rp.into h n x d v b⟩, fun i xs e => let ⟨a, vs, b, c, d, f, g⟩ := r.ow i xs e; ⟨a, vs, b, ⟨c.1, fun z => z.elim (fun z => by rw [n a z] at f; cases f) c.2⟩, d, x.keep _ _ c.1 f (fun _ z => nomatch z), RpL.into h n x xs vs g⟩, r.uni⟩
def wipeE (ρ : Ev) : List Nat → Ev
  | [] => ρ
  | v :: vs => (wipeE ρ vs).set v .no
theorem wipeE_length (ρ : Ev) : ∀ vs, (wipeE ρ vs).length = ρ.length
  | [] => rfl
  | v :: vs => by unfold wipeE; rw [List.length_set, wipeE_length ρ vs]
theorem EvR.unset (r : EvR K wl H ρ σ) (i : Nat) : EvR K wl H (ρ.set i .no) (σ.set i none) :=
  r.put i (fun c e => nomatch e) fun _ z => nomatch z
theorem EvR.wiped (r : EvR K wl H ρ σ) : ∀ vs : List Nat, EvR K wl H (wipeE ρ vs) (wipe σ vs)
  | [] => r
  | v :: vs => (EvR.wiped r vs).unset v
end

/-! ### exceptions -/
/-- a class of errors by its name, and the field that it was made with -/
structure Xn where
  cls : Str
  arg : Option (Str × D)
def XnR (K : PySem.W.Frag) (mg : Str → Option Value) (wl : Wd) (H : Hp) (e : Xn) (c : Value) (dd : Option Addr) : Prop :=
  mg e.cls = some c ∧ match e.arg with
    | none => True
    | some (f, d) => ∃ a v, dd = some a ∧ wl.fr a ∧ H a = some (.xd [(f, v)]) ∧ Rp K wl H d v

/-! ### readings of the pure layer, put into the hand layer's -/
abbrev PX := Ev → (D → Prop) → (Xn → Prop) → Prop
abbrev PB := Ev → (Bool → Prop) → (Xn → Prop) → Prop
abbrev PAx := Ev → (List D → Prop) → (Xn → Prop) → Prop
structure Pn where
  nx : Ev → Prop
  rt : D → Prop
  bk : Ev → Prop
  ct : Ev → Prop
  ex : Ev → Xn → Prop
abbrev PSt := Pn → Ev → Prop

/-- what may be let out, and the tables that all worlds know -/
structure WY where
  x : WX
  T : List (Addr × Str)
def Out (X : Cx) (W : WY) (wl : Wd) (H : Hp) (σ : St) (x : Xn → Prop) : Prop := wl.tabs = W.T ∧ ∀ e c dd H', Ext wl H H' → XnR X.K X.mg wl H' e c dd → x e → W.x c dd σ H'
theorem Out.ext {X : Cx} {W : WY} {wl : Wd} {H H' : Hp} {σ : St} {x : Xn → Prop} (o : Out X W wl H σ x) (e : Ext wl H H') : Out X W wl H' σ x := ⟨o.1, fun en c dd H2 e2 r q => o.2 en c dd H2 (e.trans e2) r q⟩

def eE (X : Cx) (W : WY) (f : PX) : TE := fun σ H Q => ∃ (wl : Wd) (ρ : Ev) (q : D → Prop) (x : Xn → Prop), Wk wl H ∧ EvR X.K wl H ρ σ ∧ f ρ q x ∧ (∀ d v H', Ext wl H H' → Rp X.K wl H' d v → q d → Q v H') ∧ Out X W wl H σ x
def eB (X : Cx) (W : WY) (f : PB) : TT := fun σ H Q => ∃ (wl : Wd) (ρ : Ev) (q : Bool → Prop) (x : Xn → Prop), Wk wl H ∧ EvR X.K wl H ρ σ ∧ f ρ q x ∧ (∀ b H', Ext wl H H' → q b → Q b H') ∧ Out X W wl H σ x
def eA (X : Cx) (W : WY) (f : PAx) : TA := fun σ H Q => ∃ (wl : Wd) (ρ : Ev) (q : List D → Prop) (x : Xn → Prop), Wk wl H ∧ EvR X.K wl H ρ σ ∧ f ρ q x ∧ (∀ ds vs H', Ext wl H H' → RpL X.K wl H' ds vs → q ds → Q vs H') ∧ Out X W wl H σ x
structure EndsR (X : Cx) (W : WY) (wl : Wd) (H : Hp) (P : Pn) (En : Ends) : Prop where
  T : wl.tabs = W.T
  nx : ∀ wl' ρ σ H', Step wl H wl' H' → EvR X.K wl' H' ρ σ → P.nx ρ → En.nx σ H'
  rt : ∀ wl' d v H', Step wl H wl' H' → Rp X.K wl' H' d v → P.rt d → En.rt v H'
  bk : ∀ wl' ρ σ H', Step wl H wl' H' → EvR X.K wl' H' ρ σ → P.bk ρ → En.bk σ H'
  ct : ∀ wl' ρ σ H', Step wl H wl' H' → EvR X.K wl' H' ρ σ → P.ct ρ → En.ct σ H'
  ex : ∀ wl' ρ σ H' e c dd, Step wl H wl' H' → EvR X.K wl' H' ρ σ → XnR X.K X.mg wl' H' e c dd → P.ex ρ e → W.x c dd σ H'
theorem EndsR.step {X : Cx} {W : WY} {wl wl1 : Wd} {H H' : Hp} {P : Pn} {En : Ends} (r : EndsR X W wl H P En) (e : Step wl H wl1 H') : EndsR X W wl1 H' P En :=
  ⟨e.tabs.trans r.T, fun w ρ σ H2 e2 => r.nx w ρ σ H2 (e.trans e2), fun w d v H2 e2 => r.rt w d v H2 (e.trans e2), fun w ρ σ H2 e2 => r.bk w ρ σ H2 (e.trans e2), fun w ρ σ H2 e2 => r.ct w ρ σ H2 (e.trans e2), fun w ρ σ H2 en c dd e2 => r.ex w ρ σ H2 en c dd (e.trans e2)⟩
theorem EndsR.ext {X : Cx} {W : WY} {wl : Wd} {H H' : Hp} {P : Pn} {En : Ends} (r : EndsR X W wl H P En) (e : Ext wl H H') : EndsR X W wl H' P En := r.step e.step
theorem EndsR.out {X : Cx} {W : WY} {wl : Wd} {H : Hp} {P : Pn} {En : Ends} {ρ : Ev} {σ : St} (r : EndsR X W wl H P En) (hk : Wk wl H) (he : EvR X.K wl H ρ σ) : Out X W wl H σ (P.ex ρ) :=
  ⟨r.T, fun e c dd H' x q p => r.ex wl ρ σ H' e c dd x.step (he.ext hk x) q p⟩
def eS (X : Cx) (W : WY) (f : PSt) : TS := fun En σ H => ∃ (wl : Wd) (ρ : Ev) (P : Pn), Wk wl H ∧ EvR X.K wl H ρ σ ∧ f P ρ ∧ EndsR X W wl H P En

/-! ### weakening -/
theorem PE.weak {X : Cx} {e : Expr} {t t' : TE} (h : PE X e t) (w : ∀ σ H Q, t' σ H Q → t σ H Q) : PE X e t' := ⟨fun pins s σ H Q I q => h.run pins s σ H Q I (w _ _ _ q)⟩
theorem PT.weak {X : Cx} {e : Expr} {t t' : TT} (h : PT X e t) (w : ∀ σ H Q, t' σ H Q → t σ H Q) : PT X e t' := ⟨fun pins s σ H Q I q => h.run pins s σ H Q I (w _ _ _ q)⟩
theorem PW.weak {X : Cx} {e : Expr} {t t' : TT} (h : PW X e t) (w : ∀ σ H Q, t' σ H Q → t σ H Q) : PW X e t' := ⟨fun wh pins s σ H Q I q => h.run wh pins s σ H Q I (w _ _ _ q)⟩
theorem PA.weak {X : Cx} {es : List Expr} {t t' : TA} (h : PA X es t) (w : ∀ σ H Q, t' σ H Q → t σ H Q) : PA X es t' := ⟨fun pos pins s σ H Q I q => h.run pos pins s σ H Q I (w _ _ _ q)⟩
theorem PS.weak {X : Cx} {e : Stmt} {t t' : TS} (h : PS X e t) (w : ∀ En σ H, t' En σ H → t En σ H) : PS X e t' := ⟨fun pins s σ H En I q => h.run pins s σ H En I (w _ _ _ q)⟩
theorem PSs.weak {X : Cx} {e : List Stmt} {t t' : TS} (h : PSs X e t) (w : ∀ En σ H, t' En σ H → t En σ H) : PSs X e t' := ⟨fun pins s σ H En I q => h.run pins s σ H En I (w _ _ _ q)⟩

/-! ### names, constants -/
section
variable {X : Cx} {W : WY}
def fVar (i : Nat) : PX := fun ρ q _ => ∃ d, ρ[i]? = some (.dt d) ∧ q d
def fC (d : D) : PX := fun _ q _ => q d
theorem d_var (i : Nat) {x : Str} {pos : Pos} (hN : X.N[i]? = some x := by rfl) (hv : Vis X.env.scope x := by first | exact Or.inl rfl | exact Or.inr (Or.inl rfl) | exact Or.inr (Or.inr rfl)) (hd : (x == ("__debug__" : Str)) = false := by decide)
    (hcd : (x == ("__classdict__" : Str)) = false := by decide) : PE X (.Name x pos) (eE X W (fVar i)) := by
  refine PE.weak (pe_var hN hv hd hcd) fun σ H Q ⟨wl, ρ, q, x, hk, he, ⟨d, e, h⟩, hq, _⟩ => ?_
  obtain ⟨v, e1, r⟩ := he.at_ i d e
  exact ⟨v, e1, hq d v H (.refl hk) r h⟩
/-- what is flat and stands for itself -/
def flatOf : D → Option V
  | .non => some .non
  | .bl b => some (.bl b)
  | .int i => some (.int i)
  | .str x => some (.str x)
  | .ty n => some (.ty n)
  | _ => none
theorem rp_flat {K : PySem.W.Frag} {wl : Wd} {H : Hp} : ∀ {d : D} {v : V}, flatOf d = some v → Rp K wl H d v
  | .non, _, h => by cases h; rfl
  | .bl _, _, h => by cases h; rfl
  | .int _, _, h => by cases h; rfl
  | .str _, _, h => by cases h; rfl
  | .ty _, _, h => by cases h; rfl
theorem eE_c {d : D} {v : V} (hf : flatOf d = some v) {σ : St} {H : Hp} {Q : VK} (h : eE X W (fC d) σ H Q) : Q v H := by
  obtain ⟨wl, ρ, q, x, hk, he, h, hq, _⟩ := h
  exact hq d v H (.refl hk) (rp_flat hf) h
theorem d_int {i j pos} : PE X (.Constant (.int i) j pos) (eE X W (fC (.int i))) := PE.weak pe_int fun _ _ _ h => eE_c rfl h
theorem d_bl {b j pos} : PE X (.Constant (.bool b) j pos) (eE X W (fC (.bl b))) := PE.weak pe_bl fun _ _ _ h => eE_c rfl h
theorem d_non {j pos} : PE X (.Constant .none j pos) (eE X W (fC .non)) := PE.weak pe_non fun _ _ _ h => eE_c rfl h
theorem d_str {x j pos} : PE X (.Constant (.str x) j pos) (eE X W (fC (.str x))) := PE.weak pe_str fun _ _ _ h => eE_c rfl h
/-- a built-in class as a value -/
theorem d_ty {x : Str} {n : String} {pos : Pos} (hg : Gl X x) (hm : X.mg x = none) (hv : bootBuiltins x = some (.type n)) (hn : x ≠ "__name__" := by decide) (hd : (x == ("__debug__" : Str)) = false := by decide) : PE X (.Name x pos) (eE X W (fC (.ty n))) :=
  PE.weak (pe_bltn (v := .ty n) hg hm hv rfl hn hd) fun _ _ _ h => eE_c rfl h
/-- a module's constant: what is the same in every heap -/
def Kst (K : PySem.W.Frag) (mg : Str → Option Value) (x : Str) (d : D) : Prop := ∃ (u : Value) (v : V), mg x = some u ∧ RelV v u ∧ ∀ wl H, Rp K wl H d v
theorem d_glob {x : Str} {d : D} {pos : Pos} (hg : Gl X x) (k : Kst X.K X.mg x d) (hd : (x == ("__debug__" : Str)) = false := by decide) : PE X (.Name x pos) (eE X W (fC d)) := by
  obtain ⟨u, v, hm, r, a⟩ := k
  refine PE.weak (pe_glob hg hm r hd) fun σ H Q ⟨wl, ρ, q, x, hk, he, h, hq, _⟩ => ?_
  exact hq d v H (.refl hk) (a wl H) h

/-! ### two operands -/
abbrev PG2 := D → D → (D → Prop) → Prop
def Cmp2 (K : PySem.W.Frag) (r : R2) (g : PG2) : Prop := ∀ wl H d1 d2 v1 v2 q Q, Wk wl H → Rp K wl H d1 v1 → Rp K wl H d2 v2 → g d1 d2 q → (∀ d v H', Ext wl H H' → Rp K wl H' d v → q d → Q v H') → r v1 v2 H Q
def fBin (g : PG2) (fa fb : PX) : PX := fun ρ q x => fa ρ (fun d1 => fb ρ (fun d2 => g d1 d2 q) x) x
theorem bin_weak {r : R2} {g : PG2} (c : Cmp2 X.K r g) {fa fb : PX} {σ : St} {H : Hp} {Q : VK} (h : eE X W (fBin g fa fb) σ H Q) : tOp r (eE X W fa) (eE X W fb) σ H Q := by
  obtain ⟨wl, ρ, q, x, hk, he, hf, hq, hx⟩ := h
  refine ⟨wl, ρ, _, x, hk, he, hf, fun d1 v1 H1 e1 r1 h1 => ⟨wl, ρ, _, x, e1.wk, he.ext hk e1, h1, fun d2 v2 H2 e2 r2 h2 => ?_, hx.ext e1⟩, hx⟩
  exact c wl H2 d1 d2 v1 v2 q Q e2.wk (Rp.ext e1.wk e2 _ _ r1) r2 h2 fun d v H' e3 r3 => hq d v H' ((e1.trans e2).trans e3) r3
theorem d_op {op : Operator} {r : R2} {g : PG2} {a b : Expr} {fa fb : PX} {pos : Pos} (ho : OpR X (binaryOp op) r) (c : Cmp2 X.K r g) (ha : PE X a (eE X W fa)) (hb : PE X b (eE X W fb)) : PE X (.BinOp a op b pos) (eE X W (fBin g fa fb)) :=
  PE.weak (pe_op ho ha hb) fun _ _ _ h => bin_weak c h
theorem d_cmp {op : CmpOp} {r : R2} {g : PG2} {a b : Expr} {fa fb : PX} {pos : Pos} (ho : OpR X (compareOp op) r) (c : Cmp2 X.K r g) (ha : PE X a (eE X W fa)) (hb : PE X b (eE X W fb)) (hm : behindInMarks op b = false) : PE X (.Compare a [op] [b] pos) (eE X W (fBin g fa fb)) :=
  PE.weak (pe_cmpR ho ha hb hm) fun _ _ _ h => bin_weak c h
theorem d_ix {r : R2} {g : PG2} {a b : Expr} {fa fb : PX} {pos : Pos} (hr : IxR X r) (c : Cmp2 X.K r g) (ha : PE X a (eE X W fa)) (hb : PE X b (eE X W fb)) (hs : PlainIx b) : PE X (.Subscript a b pos) (eE X W (fBin g fa fb)) :=
  PE.weak (pe_ix hr ha hb hs) fun _ _ _ h => bin_weak c h
/-- a < b < c -/
def fChain (g g' : PG2) (fa fb fc : PX) : PX := fun ρ q x => fa ρ (fun d1 => fb ρ (fun d2 => g d1 d2 fun z => ∃ k, z = .bl k ∧ (k = true → fc ρ (fun d3 => g' d2 d3 q) x) ∧ (k = false → q (.bl false))) x) x
def fNot (fa : PX) : PX := fun ρ q x => fa ρ (fun d => ∃ k, d = .bl k ∧ q (.bl (!k))) x
def fAnd (fa fb : PX) : PX := fun ρ q x => fa ρ (fun d => ∃ k, d = .bl k ∧ (k = true → fb ρ q x) ∧ (k = false → q (.bl false))) x
def fOr (fa fb : PX) : PX := fun ρ q x => fa ρ (fun d => ∃ k, d = .bl k ∧ (k = true → q (.bl true)) ∧ (k = false → fb ρ q x)) x
def fNeg (fa : PX) : PX := fun ρ q x => fa ρ (fun d => ∃ i, d = .int i ∧ q (.int (-i))) x
theorem d_neg {a : Expr} {fa : PX} {pos : Pos} (ha : PE X a (eE X W fa)) : PE X (.UnaryOp .USub a pos) (eE X W (fNeg fa)) := by
  refine PE.weak (pe_un un_neg ha) fun σ H Q ⟨wl, ρ, q, x, hk, he, hf, hq, hx⟩ => ?_
  refine ⟨wl, ρ, _, x, hk, he, hf, fun d v H1 e1 r1 ⟨i, ed, h1⟩ => ?_, hx⟩
  subst ed
  exact ⟨i, r1, hq (.int (-i)) _ H1 e1 rfl h1⟩
theorem d_not {a : Expr} {fa : PX} {pos : Pos} (ha : PE X a (eE X W fa)) : PE X (.UnaryOp .Not a pos) (eE X W (fNot fa)) := by
  refine PE.weak (pe_not ha) fun σ H Q ⟨wl, ρ, q, x, hk, he, hf, hq, hx⟩ => ?_
  refine ⟨wl, ρ, _, x, hk, he, hf, fun d v H1 e1 r1 ⟨k, ed, h1⟩ => ?_, hx⟩
  subst ed
  exact ⟨k, r1, hq (.bl (!k)) _ H1 e1 rfl h1⟩
theorem d_one {op} {a : Expr} {fa : PX} {pos : Pos} (ha : PE X a (eE X W fa)) : PE X (.BoolOp op [a] pos) (eE X W fa) := pe_one ha
theorem d_and {a b : Expr} {rest : List Expr} {fa fb : PX} {pos : Pos} (ha : PE X a (eE X W fa)) (hb : PE X (.BoolOp .And (b :: rest) pos) (eE X W fb)) : PE X (.BoolOp .And (a :: b :: rest) pos) (eE X W (fAnd fa fb)) := by
  refine PE.weak (pe_and ha hb) fun σ H Q ⟨wl, ρ, q, x, hk, he, hf, hq, hx⟩ => ?_
  refine ⟨wl, ρ, _, x, hk, he, hf, fun d v H1 e1 r1 ⟨k, ed, h1, h2⟩ => ?_, hx⟩
  subst ed
  refine ⟨k, r1, ?_⟩
  cases k with
  | true => exact iteT ⟨wl, ρ, q, x, e1.wk, he.ext hk e1, h1 rfl, fun d v H2 e2 r2 => hq d v H2 (e1.trans e2) r2, hx.ext e1⟩
  | false => exact iteF (hq (.bl false) _ H1 e1 rfl (h2 rfl))
theorem d_or {a b : Expr} {rest : List Expr} {fa fb : PX} {pos : Pos} (ha : PE X a (eE X W fa)) (hb : PE X (.BoolOp .Or (b :: rest) pos) (eE X W fb)) : PE X (.BoolOp .Or (a :: b :: rest) pos) (eE X W (fOr fa fb)) := by
  refine PE.weak (pe_or ha hb) fun σ H Q ⟨wl, ρ, q, x, hk, he, hf, hq, hx⟩ => ?_
  refine ⟨wl, ρ, _, x, hk, he, hf, fun d v H1 e1 r1 ⟨k, ed, h1, h2⟩ => ?_, hx⟩
  subst ed
  refine ⟨k, r1, ?_⟩
  cases k with
  | true => exact iteT (hq (.bl true) _ H1 e1 rfl (h1 rfl))
  | false => exact iteF ⟨wl, ρ, q, x, e1.wk, he.ext hk e1, h2 rfl, fun d v H2 e2 r2 => hq d v H2 (e1.trans e2) r2, hx.ext e1⟩
theorem chain_weak {r r' : R2} {g g' : PG2} (k1 : Cmp2 X.K r g) (k2 : Cmp2 X.K r' g') {fa fb fc : PX} {σ : St} {H : Hp} {Q : VK} (h : eE X W (fChain g g' fa fb fc) σ H Q) : tChain r r' (eE X W fa) (eE X W fb) (eE X W fc) σ H Q := by
  obtain ⟨wl, ρ, q, x, hk, he, hf, hq, hx⟩ := h
  refine ⟨wl, ρ, _, x, hk, he, hf, fun d1 v1 H1 e1 r1 h1 => ⟨wl, ρ, _, x, e1.wk, he.ext hk e1, h1, fun d2 v2 H2 e2 r2 h2 => ?_, hx.ext e1⟩, hx⟩
  refine k1 wl H2 d1 d2 v1 v2 _ _ e2.wk (Rp.ext e1.wk e2 _ _ r1) r2 h2 fun d v H3 e3 r3 ⟨k, ed, h3, h4⟩ => ?_
  subst ed
  refine ⟨k, r3, ?_⟩
  have e23 := (e1.trans e2).trans e3
  cases k with
  | true =>
    refine iteT ⟨wl, ρ, _, x, e3.wk, he.ext hk e23, h3 rfl, fun d3 v3 H4 e4 r4 h5 => ?_, hx.ext e23⟩
    exact k2 wl H4 d2 d3 v2 v3 q Q e4.wk (Rp.ext e3.wk e4 _ _ (Rp.ext e2.wk e3 _ _ r2)) r4 h5 fun d v H5 e5 r5 => hq d v H5 (e23.trans e4 |>.trans e5) r5
  | false => exact iteF (hq (.bl false) _ H3 e23 rfl (h4 rfl))
theorem d_chain {op op' : CmpOp} {r r' : R2} {g g' : PG2} {a b c : Expr} {fa fb fc : PX} {pos : Pos} (ho : OpR X (compareOp op) r) (ho' : OpR X (compareOp op') r') (k1 : Cmp2 X.K r g) (k2 : Cmp2 X.K r' g')
    (ha : PE X a (eE X W fa)) (hb : PE X b (eE X W fb)) (hc : PE X c (eE X W fc)) (hm : lastMarks [op, op'] [b, c] = false := by with_unfolding_all rfl) : PE X (.Compare a [op, op'] [b, c] pos) (eE X W (fChain g g' fa fb fc)) :=
  PE.weak (pe_chain ho ho' ha hb hc hm) fun _ _ _ h => chain_weak k1 k2 h
end
end PL

namespace PL
open PySem PySem.Spec L2

/-! # operations by data -/
section
variable {X : Cx} {K : PySem.W.Frag}
/-! ### + -/
def addG : PG2
  | .int i, .int j, q => q (.int (i + j))
  | .str a, .str b, q => a.length + b.length ≤ LIM ∧ q (.str (a ++ b))
  | .tup xs, .tup ys, q => xs.length + ys.length ≤ LIM ∧ q (.tup (xs ++ ys))
  | .lst xs, .lst ys, q => xs.length + ys.length ≤ LIM ∧ q (.lst (xs ++ ys))
  | _, _, _ => False
def rAddA (K : PySem.W.Frag) : R2 := fun x y H Q => (rI0 fun i j => .int (i + j)) x y H Q ∨ (fun (x y : V) H (Q : VK) => ∃ i j, x = .str i ∧ y = .str j ∧ i.length + j.length ≤ sizeLine ∧ Q (.str (i ++ j)) H) x y H Q ∨ rCatA K x y H Q ∨ rCat x y H Q
theorem op_addA : OpR X (binaryOp .Add) (rAddA X.K) := op_add.or (op_add_str.or (op_catA.or op_cat))
theorem add_ok : Cmp2 K (rAddA K) addG := by
  intro wl H d1 d2 v1 v2 q Q hk r1 r2 g hq
  cases d1 <;> cases d2 <;> try exact g.elim
  case int.int i j =>
    cases r1; cases r2
    exact .inl ⟨i, j, rfl, rfl, hq (.int (i + j)) _ H (.refl hk) rfl g⟩
  case str.str a b =>
    cases r1; cases r2
    exact .inr (.inl ⟨a, b, rfl, rfl, lim_line g.1, hq (.str (a ++ b)) _ H (.refl hk) rfl g.2⟩)
  case tup.tup xs ys =>
    obtain ⟨a, vs, rfl, s1, q1⟩ := r1
    obtain ⟨b, us, rfl, s2, q2⟩ := r2
    have l1 := q1.length
    have l2 := q2.length
    refine .inr (.inr (.inl ⟨a, b, vs, us, rfl, rfl, s1, s2, lim_line (by rw [l1, l2]; exact g.1), fun e => ?_, fun _ e => ?_, fun _ _ p hp => ?_⟩))
    · subst e
      obtain rfl : xs = [] := List.length_eq_zero_iff.mp l1.symm
      exact hq (.tup ys) _ H (.refl hk) ⟨b, us, rfl, s2, q2⟩ g.2
    · subst e
      obtain rfl : ys = [] := List.length_eq_zero_iff.mp l2.symm
      have g2 := g.2
      rw [List.append_nil] at g2
      exact hq (.tup xs) _ H (.refl hk) ⟨a, vs, rfl, s1, q1⟩ g2
    · have e := Ext.new (o := .tup (vs ++ us)) hk hp
      exact hq (.tup (xs ++ ys)) _ _ e ⟨p, _, rfl, SqT.of upd_same, (RpL.ext hk e _ _ q1).append (RpL.ext hk e _ _ q2)⟩ g.2
  case lst.lst xs ys =>
    obtain ⟨a, vs, rfl, n1, s1, q1⟩ := r1
    obtain ⟨b, us, rfl, n2, s2, q2⟩ := r2
    refine .inr (.inr (.inr ⟨a, b, vs, us, rfl, rfl, s1, s2, lim_line (by rw [q1.length, q2.length]; exact g.1), fun p hp => ?_⟩))
    have e := Ext.new (o := .lst (vs ++ us)) hk hp
    refine hq (.lst (xs ++ ys)) _ _ e ⟨p, _, rfl, hk.new hp, upd_same, (RpL.ext hk e _ _ q1).append (RpL.ext hk e _ _ q2)⟩ g.2
/-! ### -, *, %, //, ** -/
def subG : PG2
  | .int i, .int j, q => q (.int (i - j))
  | _, _, _ => False
theorem sub_ok : Cmp2 K (rI0 fun i j => .int (i - j)) subG := by
  intro wl H d1 d2 v1 v2 q Q hk r1 r2 g hq
  cases d1 <;> cases d2 <;> try exact g.elim
  case int.int i j => cases r1; cases r2; exact ⟨i, j, rfl, rfl, hq (.int (i - j)) _ H (.refl hk) rfl g⟩
/-- by a written condition and function of two numbers -/
def intG (C : Int → Int → Prop) (f : Int → Int → D) : PG2
  | .int i, .int j, q => C i j ∧ q (f i j)
  | _, _, _ => False
theorem int_ok {C : Int → Int → Prop} {f : Int → Int → Int} : Cmp2 K (rI C fun i j => .int (f i j)) (intG C fun i j => .int (f i j)) := by
  intro wl H d1 d2 v1 v2 q Q hk r1 r2 g hq
  cases d1 <;> cases d2 <;> try exact g.elim
  case int.int i j => cases r1; cases r2; exact ⟨i, j, rfl, rfl, g.1, hq (.int (f i j)) _ H (.refl hk) rfl g.2⟩
theorem intB_ok {f : Int → Int → Bool} : Cmp2 K (rI0 fun i j => .bl (f i j)) (intG (fun _ _ => True) fun i j => .bl (f i j)) := by
  intro wl H d1 d2 v1 v2 q Q hk r1 r2 g hq
  cases d1 <;> cases d2 <;> try exact g.elim
  case int.int i j => cases r1; cases r2; exact ⟨i, j, rfl, rfl, hq (.bl (f i j)) _ H (.refl hk) rfl g.2⟩
def mulG : PG2 := intG CMul fun i j => .int (i * j)
def modG : PG2 := intG (fun _ j => 0 < j) fun i j => .int (i % j)
def fdivG : PG2 := intG CDiv fun i j => .int (i / j)
def powG : PG2 := intG CPow fun i j => .int (i ^ j.toNat)
def ltG : PG2 := intG (fun _ _ => True) fun i j => .bl (decide (i < j))
def leG : PG2 := intG (fun _ _ => True) fun i j => .bl (decide (i ≤ j))
def gtG : PG2 := intG (fun _ _ => True) fun i j => .bl (decide (j < i))
def geG : PG2 := intG (fun _ _ => True) fun i j => .bl (decide (j ≤ i))

theorem mul_ok : Cmp2 K (rI CMul fun i j => .int (i * j)) mulG := int_ok
theorem mod_ok : Cmp2 K (rI (fun _ j => 0 < j) fun i j => .int (i % j)) modG := int_ok
theorem fdiv_ok : Cmp2 K (rI CDiv fun i j => .int (i / j)) fdivG := int_ok
theorem pow_ok : Cmp2 K (rI CPow fun i j => .int (i ^ j.toNat)) powG := int_ok
theorem lt_ok : Cmp2 K (rI0 fun i j => .bl (decide (i < j))) ltG := intB_ok
theorem le_ok : Cmp2 K (rI0 fun i j => .bl (decide (i ≤ j))) leG := intB_ok
theorem gt_ok : Cmp2 K (rI0 fun i j => .bl (decide (j < i))) gtG := intB_ok
theorem ge_ok : Cmp2 K (rI0 fun i j => .bl (decide (j ≤ i))) geG := intB_ok
theorem u200 {k : Nat} {A : Around} (r : Room k A) : A.units + 200 < cLine := by have := r.un; omega

/-! ### == -/
mutual
def toPy : D → PyData
  | .non => .none
  | .bl b => .bool b
  | .int i => .int i
  | .str x => .str x
  | .tup xs => .tuple (toPyL xs)
  | .lst xs => .list (toPyL xs)
  | .well => .none
  | .ty _ => .none
  | .scr _ => .none
def toPyL : List D → List PyData
  | [] => []
  | d :: ds => toPy d :: toPyL ds
end
mutual
def good : D → Bool
  | .non => true
  | .bl _ => true
  | .int _ => true
  | .str _ => true
  | .tup xs => goodL xs
  | .lst xs => goodL xs
  | .well => false
  | .ty _ => false
  | .scr _ => false
def goodL : List D → Bool
  | [] => true
  | d :: ds => good d && goodL ds
end
section
variable {wl : Wd} {H : Hp}
mutual
theorem Rp.dp : ∀ (d : D) (v : V), good d = true → Rp K wl H d v → Dp K H v (toPy d)
  | .non, _, _, r => by cases r; exact .non
  | .bl b, _, _, r => by cases r; exact .bl b
  | .int i, _, _, r => by cases r; exact .int i
  | .str x, _, _, r => by cases r; exact .str x
  | .tup ds, _, g, ⟨a, vs, e, s, q⟩ => by subst e; exact .tup s (RpL.dp ds vs g q)
  | .lst ds, _, g, ⟨a, vs, e, n, s, q⟩ => by subst e; exact .lst (SqL.of s) (RpL.dp ds vs g q)
  | .well, _, g, _ => absurd g (by simp [good])
  | .ty _, _, g, _ => absurd g (by simp [good])
  | .scr _, _, g, _ => absurd g (by simp [good])
theorem RpL.dp : ∀ (ds : List D) (vs : List V), goodL ds = true → RpL K wl H ds vs → DpAll K H vs (toPyL ds)
  | [], _, _, r => by cases r; exact .nil
  | d :: ds, _, g, ⟨v, r, e, p, q⟩ => by
    subst e
    have g2 : (good d && goodL ds) = true := g
    rw [Bool.and_eq_true] at g2
    exact .cons (Rp.dp d v g2.1 p) (RpL.dp ds r g2.2 q)
end
end
/-! what a datum costs: a bound of its text, of its weight -/
mutual
def cost : D → Nat
  | .non => 1
  | .bl _ => 1
  | .int i => if i.natAbs < 1000000000000 then 1 else 1000000000
  | .str x => if PyData.strOk x then x.length + 1 else 1000000000
  | .tup xs => costL xs + 1
  | .lst xs => costL xs + 1
  | .well => 1000000000
  | .ty _ => 1000000000
  | .scr _ => 1000000000
def costL : List D → Nat
  | [] => 0
  | d :: ds => cost d + costL ds
end
mutual
def dep : D → Nat
  | .non => 0
  | .bl _ => 0
  | .int _ => 0
  | .str _ => 0
  | .tup xs => depL xs + 1
  | .lst xs => depL xs + 1
  | .well => 0
  | .ty _ => 0
  | .scr _ => 0
def depL : List D → Nat
  | [] => 0
  | d :: ds => max (dep d) (depL ds)
end
mutual
theorem dep_eq : ∀ d : D, (toPy d).depth = dep d
  | .non => rfl
  | .bl _ => rfl
  | .int _ => rfl
  | .str _ => rfl
  | .tup xs => by show PyData.depthAll (toPyL xs) + 1 = depL xs + 1; rw [depL_eq xs]
  | .lst xs => by show PyData.depthAll (toPyL xs) + 1 = depL xs + 1; rw [depL_eq xs]
  | .well => rfl
  | .ty _ => rfl
  | .scr _ => rfl
theorem depL_eq : ∀ ds : List D, PyData.depthAll (toPyL ds) = depL ds
  | [] => rfl
  | d :: ds => by show max (toPy d).depth (PyData.depthAll (toPyL ds)) = max (dep d) (depL ds); rw [dep_eq d, depL_eq ds]
end
structure Nice (d : D) : Prop where
  good : good d = true
  lay : (toPy d).canLay0 = true
  short : (toPy d).intsShort 13 = true
  show_ : (toPy d).showable = true
  wt : (toPy d).weight + 1 ≤ 42 * cost d
structure NiceL (ds : List D) : Prop where
  good : goodL ds = true
  lay : PyData.canLayAll0 (toPyL ds) = true
  short : PyData.intsShortAll 13 (toPyL ds) = true
  show_ : PyData.showableAll (toPyL ds) = true
  wt : PyData.weightAll (toPyL ds) ≤ 42 * costL ds
theorem nice_int {i : Int} (h : cost (.int i) < 1000000000) : Nice (.int i) := by
  have h1 : i.natAbs < 1000000000000 := by
    by_cases z : i.natAbs < 1000000000000
    · exact z
    · simp [cost, z] at h
  have h2 : i.natAbs.log2 < 40 := by
    by_cases z : i.natAbs = 0
    · rw [z]; decide
    · exact (Nat.log2_lt z).mpr (Nat.lt_of_lt_of_le h1 (by decide))
  refine ⟨rfl, rfl, ?_, ?_, ?_⟩
  · have := int_text_length_le10 (a := i) (k := 12) (by decide) (by simpa using h1)
    have e : (PyData.int i).shown.length = (toString i).length := ofString_length _
    exact decide_eq_true (show (PyData.int i).shown.length ≤ 13 by rw [e]; exact this)
  · simp only [toPy, PyData.showable, decide_eq_true_eq]; omega
  · have e : cost (.int i) = 1 := by simp [cost, h1]
    rw [e]
    simp only [toPy, PyData.weight]
    split <;> omega
mutual
theorem nice_of : ∀ d : D, cost d < 1000000000 → Nice d
  | .non, _ => ⟨rfl, rfl, rfl, rfl, by decide⟩
  | .bl _, _ => ⟨rfl, rfl, rfl, rfl, by show 0 + 1 ≤ 42 * 1; decide⟩
  | .int _, h => nice_int h
  | .str x, h => by
    have h1 : PyData.strOk x = true := by
      cases z : PyData.strOk x with
      | true => rfl
      | false => simp [cost, z] at h
    have e : cost (.str x) = x.length + 1 := by simp [cost, h1]
    refine ⟨rfl, h1, rfl, rfl, ?_⟩
    rw [e]
    show x.cps.size + 1 ≤ 42 * (x.length + 1)
    have : x.length = x.cps.size := rfl
    omega
  | .tup xs, h => by
    have n := niceL_of xs (by have : cost (.tup xs) = costL xs + 1 := rfl; omega)
    refine ⟨n.good, n.lay, n.short, n.show_, ?_⟩
    have := n.wt
    have e : cost (.tup xs) = costL xs + 1 := rfl
    show PyData.weightAll (toPyL xs) + 1 ≤ _
    omega
  | .lst xs, h => by
    have n := niceL_of xs (by have : cost (.lst xs) = costL xs + 1 := rfl; omega)
    refine ⟨n.good, n.lay, n.short, n.show_, ?_⟩
    have := n.wt
    have e : cost (.lst xs) = costL xs + 1 := rfl
    show PyData.weightAll (toPyL xs) + 1 ≤ _
    omega
  | .well, h => by simp [cost] at h
  | .ty _, h => by simp [cost] at h
  | .scr _, h => by simp [cost] at h
theorem niceL_of : ∀ ds : List D, costL ds < 1000000000 → NiceL ds
  | [], _ => ⟨rfl, rfl, rfl, rfl, by decide⟩
  | d :: ds, h => by
    have e : costL (d :: ds) = cost d + costL ds := rfl
    have n := nice_of d (by omega)
    have m := niceL_of ds (by omega)
    refine ⟨?_, ?_, ?_, ?_, ?_⟩
    · show (good d && goodL ds) = true; rw [n.good, m.good]; rfl
    · show ((toPy d).canLay0 && PyData.canLayAll0 (toPyL ds)) = true; rw [n.lay, m.lay]; rfl
    · show ((toPy d).intsShort 13 && PyData.intsShortAll 13 (toPyL ds)) = true; rw [n.short, m.short]; rfl
    · show ((toPy d).showable && PyData.showableAll (toPyL ds)) = true; rw [n.show_, m.show_]; rfl
    · have := n.wt
      have := m.wt
      show (toPy d).weight + 1 + PyData.weightAll (toPyL ds) ≤ _
      omega
end
/-- what may be compared, what may be shown -/
def tame (d : D) : Prop := cost d ≤ 20000 ∧ dep d ≤ 60
theorem tame.nice {d : D} (t : tame d) : Nice d := nice_of d (by have := t.1; omega)
theorem tame.shaped {d : D} (t : tame d) : SeqAt.shaped (toPy d) = true := by
  unfold SeqAt.shaped
  rw [t.nice.lay, dep_eq]
  have := t.2
  simp; omega
theorem tame.layable {d : D} (t : tame d) : PyData.layable0 (toPy d) = true := by
  unfold PyData.layable0
  rw [t.nice.lay, dep_eq]
  have := t.2
  have := t.nice.wt
  have := t.1
  have e : (2 : Nat) ^ 20 = 1048576 := by decide
  simp; omega
def eqvD (a b : D) : Bool := PyData.eqv (toPy a) (toPy b)
/-- numbers, strings: of any size -/
def okEq (a b : D) : Prop := (∃ i j, a = .int i ∧ b = .int j) ∨ (∃ i j, a = .str i ∧ b = .str j) ∨ tame a ∧ tame b
theorem okEq.i {i j : Int} : okEq (.int i) (.int j) := .inl ⟨i, j, rfl, rfl⟩
theorem okEq.s {i j : Str} : okEq (.str i) (.str j) := .inr (.inl ⟨i, j, rfl, rfl⟩)
theorem okEq.t {a b : D} (h1 : tame a) (h2 : tame b) : okEq a b := .inr (.inr ⟨h1, h2⟩)
def eqG : PG2 := fun a b q => okEq a b ∧ q (.bl (eqvD a b))
def neG : PG2 := fun a b q => okEq a b ∧ q (.bl (!eqvD a b))
def rEqS (K : PySem.W.Frag) : R2 := fun x y H Q => rEq x y H Q ∨ rEqD K x y H Q
def rNeS (K : PySem.W.Frag) : R2 := fun x y H Q => rNe x y H Q ∨ rNeD K x y H Q
theorem op_eqS (hu : X.A.units + 64 < cLine) : OpR X (compareOp .Eq) (rEqS X.K) := op_eq.or (op_eqD hu)
theorem op_neS (hu : X.A.units + 64 < cLine) : OpR X (compareOp .NotEq) (rNeS X.K) := op_ne.or (op_neD hu)
theorem eqv_int {a b : Int} : eqvD (.int a) (.int b) = decide (a = b) := by simp [eqvD, toPy, PyData.eqv, Bool.beq_eq_decide_eq]
theorem eqv_str {a b : Str} : eqvD (.str a) (.str b) = decide (a = b) := by simp [eqvD, toPy, PyData.eqv, Bool.beq_eq_decide_eq]
theorem dec_int {a b : Int} : decide (V.int a = V.int b) = decide (a = b) := by
  by_cases h : a = b
  · subst h; simp
  · rw [decide_eq_false h, decide_eq_false fun e => h (V.int.inj e)]
theorem dec_str {a b : Str} : decide (V.str a = V.str b) = decide (a = b) := by
  by_cases h : a = b
  · subst h; simp
  · rw [decide_eq_false h, decide_eq_false fun e => h (V.str.inj e)]
theorem eq_ok : Cmp2 K (rEqS K) eqG := by
  intro wl H d1 d2 v1 v2 q Q hk r1 r2 ⟨h, g⟩ hq
  rcases h with ⟨i, j, rfl, rfl⟩ | ⟨i, j, rfl, rfl⟩ | ⟨h1, h2⟩
  · cases r1; cases r2
    refine .inl ⟨rfl, ?_⟩
    rw [dec_int, ← eqv_int]
    exact hq (.bl _) _ H (.refl hk) rfl g
  · cases r1; cases r2
    refine .inl ⟨rfl, ?_⟩
    rw [dec_str, ← eqv_str]
    exact hq (.bl _) _ H (.refl hk) rfl g
  · exact .inr ⟨_, _, Rp.dp d1 v1 h1.nice.good r1, Rp.dp d2 v2 h2.nice.good r2, h1.shaped, h2.shaped, hq (.bl (eqvD d1 d2)) _ H (.refl hk) rfl g⟩
theorem ne_ok : Cmp2 K (rNeS K) neG := by
  intro wl H d1 d2 v1 v2 q Q hk r1 r2 ⟨h, g⟩ hq
  rcases h with ⟨i, j, rfl, rfl⟩ | ⟨i, j, rfl, rfl⟩ | ⟨h1, h2⟩
  · cases r1; cases r2
    refine .inl ⟨rfl, ?_⟩
    rw [dec_int, ← eqv_int]
    exact hq (.bl _) _ H (.refl hk) rfl g
  · cases r1; cases r2
    refine .inl ⟨rfl, ?_⟩
    rw [dec_str, ← eqv_str]
    exact hq (.bl _) _ H (.refl hk) rfl g
  · exact .inr ⟨_, _, Rp.dp d1 v1 h1.nice.good r1, Rp.dp d2 v2 h2.nice.good r2, h1.shaped, h2.shaped, hq (.bl (!eqvD d1 d2)) _ H (.refl hk) rfl g⟩

/-! ### in -/
def flat : D → Bool
  | .non => true
  | .bl _ => true
  | .int _ => true
  | .str _ => true
  | _ => false
def feq : D → D → Bool
  | .non, .non => true
  | .bl a, .bl b => a == b
  | .bl a, .int b => (if a then 1 else 0) == b
  | .int a, .bl b => a == (if b then 1 else 0)
  | .int a, .int b => a == b
  | .str a, .str b => a == b
  | _, _ => false
theorem flat_V {wl : Wd} {H : Hp} : ∀ {d : D} {v : V}, flat d = true → Rp K wl H d v → flatV v = true
  | .non, _, _, r => by cases r; rfl
  | .bl _, _, _, r => by cases r; rfl
  | .int _, _, _, r => by cases r; rfl
  | .str _, _, _, r => by cases r; rfl
  | .tup _, _, g, _ => absurd g (by simp [flat])
  | .lst _, _, g, _ => absurd g (by simp [flat])
  | .well, _, g, _ => absurd g (by simp [flat])
  | .ty _, _, g, _ => absurd g (by simp [flat])
  | .scr _, _, g, _ => absurd g (by simp [flat])
theorem feq_V {wl : Wd} {H : Hp} {d e : D} {v u : V} (g : flat d = true) (g' : flat e = true) (r : Rp K wl H d v) (r' : Rp K wl H e u) : eqV v u = feq d e := by
  cases d <;> cases e <;> first | (simp [flat] at g; done) | (simp [flat] at g'; done) | (cases r; cases r'; rfl)
theorem flat_all {wl : Wd} {H : Hp} : ∀ {ds : List D} {vs : List V}, ds.all flat = true → RpL K wl H ds vs → vs.all flatV = true
  | [], _, _, r => by cases r; rfl
  | d :: ds, _, g, ⟨v, r, e, p, q⟩ => by
    subst e
    rw [List.all_cons, Bool.and_eq_true] at g ⊢
    exact ⟨flat_V g.1 p, flat_all g.2 q⟩
theorem inV_eq {wl : Wd} {H : Hp} {d : D} {v : V} (g : flat d = true) (r : Rp K wl H d v) : ∀ {ds : List D} {vs : List V}, ds.all flat = true → RpL K wl H ds vs → inV v vs = ds.any fun y => feq y d
  | [], _, _, q => by cases q; rfl
  | c :: ds, _, f, ⟨u, t, e, p, q⟩ => by
    subst e
    rw [List.all_cons, Bool.and_eq_true] at f
    have ih := inV_eq g r f.2 q
    unfold inV at ih ⊢
    rw [List.any_cons, List.any_cons, ih, feq_V f.1 g p r]
def inG (neg : Bool) : PG2
  | .str a, .str b, q => ∃ c : Nat, a = ⟨#[c]⟩ ∧ q (.bl (if neg then !decide (c ∈ b.cps.toList) else decide (c ∈ b.cps.toList)))
  | d, .tup xs, q => flat d = true ∧ xs.all flat = true ∧ q (.bl (if neg then !(xs.any fun y => feq y d) else xs.any fun y => feq y d))
  | d, .lst xs, q => flat d = true ∧ xs.all flat = true ∧ q (.bl (if neg then !(xs.any fun y => feq y d) else xs.any fun y => feq y d))
  | _, _, _ => False
def rInA (K : PySem.W.Frag) : R2 := fun x y H Q => (fun (x y : V) H (Q : VK) => ∃ (c : Nat) (z : Str), x = .str ⟨#[c]⟩ ∧ y = .str z ∧ Q (.bl (decide (c ∈ z.cps.toList))) H) x y H Q ∨ rIn K false x y H Q
def rNiA (K : PySem.W.Frag) : R2 := fun x y H Q => (fun (x y : V) H (Q : VK) => ∃ (c : Nat) (z : Str), x = .str ⟨#[c]⟩ ∧ y = .str z ∧ Q (.bl (!decide (c ∈ z.cps.toList))) H) x y H Q ∨ rIn K true x y H Q
theorem op_inA : OpR X (compareOp .In) (rInA X.K) := op_in_sign.or op_in_seq
theorem op_niA : OpR X (compareOp .NotIn) (rNiA X.K) := op_notIn_sign.or op_notIn_seq
theorem in_seq {neg : Bool} {wl : Wd} {H : Hp} {d : D} {xs : List D} {v1 v2 : V} {q : D → Prop} {Q : VK} (hk : Wk wl H) (r1 : Rp K wl H d v1) (r2 : Rp K wl H (.tup xs) v2 ∨ Rp K wl H (.lst xs) v2) (f1 : flat d = true) (f2 : xs.all flat = true)
    (g : q (.bl (if neg then !(xs.any fun y => feq y d) else xs.any fun y => feq y d))) (hq : ∀ d v H', Ext wl H H' → Rp K wl H' d v → q d → Q v H') : rIn K neg v1 v2 H Q := by
  rcases r2 with ⟨a, vs, rfl, s, r⟩ | ⟨a, vs, rfl, n, s, r⟩
  · refine ⟨a, vs, rfl, .inr s, flat_V f1 r1, flat_all f2 r, ?_⟩
    rw [inV_eq f1 r1 f2 r]
    exact hq (.bl _) _ H (.refl hk) rfl g
  · refine ⟨a, vs, rfl, .inl (SqL.of s), flat_V f1 r1, flat_all f2 r, ?_⟩
    rw [inV_eq f1 r1 f2 r]
    exact hq (.bl _) _ H (.refl hk) rfl g
theorem in_ok : Cmp2 K (rInA K) (inG false) := by
  intro wl H d1 d2 v1 v2 q Q hk r1 r2 g hq
  cases d2 <;> (try (cases d1 <;> exact g.elim))
  case str b =>
    cases d1 <;> try exact g.elim
    case str a =>
      obtain ⟨c, rfl, g⟩ := g
      cases r1; cases r2
      exact .inl ⟨c, b, rfl, rfl, hq (.bl _) _ H (.refl hk) rfl g⟩
  case tup xs => cases d1 <;> exact .inr (in_seq hk r1 (.inl r2) g.1 g.2.1 g.2.2 hq)
  case lst xs => cases d1 <;> exact .inr (in_seq hk r1 (.inr r2) g.1 g.2.1 g.2.2 hq)
theorem ni_ok : Cmp2 K (rNiA K) (inG true) := by
  intro wl H d1 d2 v1 v2 q Q hk r1 r2 g hq
  cases d2 <;> (try (cases d1 <;> exact g.elim))
  case str b =>
    cases d1 <;> try exact g.elim
    case str a =>
      obtain ⟨c, rfl, g⟩ := g
      cases r1; cases r2
      exact .inl ⟨c, b, rfl, rfl, hq (.bl _) _ H (.refl hk) rfl g⟩
  case tup xs => cases d1 <;> exact .inr (in_seq hk r1 (.inl r2) g.1 g.2.1 g.2.2 hq)
  case lst xs => cases d1 <;> exact .inr (in_seq hk r1 (.inr r2) g.1 g.2.1 g.2.2 hq)

/-! ### is -/
def isNon : D → Bool
  | .non => true
  | _ => false
theorem isNon_V {wl : Wd} {H : Hp} : ∀ {d : D} {v : V}, Rp K wl H d v → decide (v = V.non) = isNon d
  | .non, _, r => by cases r; rfl
  | .bl _, _, r => by cases r; rfl
  | .int _, _, r => by cases r; rfl
  | .str _, _, r => by cases r; rfl
  | .tup _, _, ⟨a, vs, e, _⟩ => by subst e; rfl
  | .lst _, _, ⟨a, vs, e, _⟩ => by subst e; rfl
  | .well, _, ⟨a, _, e⟩ => by subst e; rfl
  | .ty _, _, r => by cases r; rfl
  | .scr _, _, ⟨a, e, _⟩ => by subst e; rfl
def isG (neg : Bool) : PG2
  | d, .non, q => q (.bl (if neg then !isNon d else isNon d))
  | .bl a, .bl b, q => q (.bl (if neg then !decide (a = b) else decide (a = b)))
  | _, _, _ => False
def rIsA : R2 := fun x y H Q => (fun (x y : V) H (Q : VK) => y = .non ∧ Q (.bl (decide (x = .non))) H) x y H Q ∨ rIsB x y H Q
def rIsNA : R2 := fun x y H Q => (fun (x y : V) H (Q : VK) => y = .non ∧ Q (.bl (!decide (x = .non))) H) x y H Q ∨ rNotB x y H Q
theorem op_isA : OpR X (compareOp .Is) rIsA := op_isN.or op_isBl
theorem op_isNA : OpR X (compareOp .IsNot) rIsNA := op_notN.or op_notBl
theorem is_ok : Cmp2 K rIsA (isG false) := by
  intro wl H d1 d2 v1 v2 q Q hk r1 r2 g hq
  cases d2 <;> (try (cases d1 <;> exact g.elim))
  case non =>
    cases r2
    refine .inl ⟨rfl, ?_⟩
    rw [isNon_V r1]
    refine hq (.bl (isNon d1)) _ H (.refl hk) rfl ?_
    cases d1 <;> exact g
  case bl b =>
    cases d1 <;> try exact g.elim
    case bl a => cases r1; cases r2; exact .inr ⟨a, b, rfl, rfl, hq (.bl _) _ H (.refl hk) rfl g⟩
theorem isN_ok : Cmp2 K rIsNA (isG true) := by
  intro wl H d1 d2 v1 v2 q Q hk r1 r2 g hq
  cases d2 <;> (try (cases d1 <;> exact g.elim))
  case non =>
    cases r2
    refine .inl ⟨rfl, ?_⟩
    rw [isNon_V r1]
    refine hq (.bl (!isNon d1)) _ H (.refl hk) rfl ?_
    cases d1 <;> exact g
  case bl b =>
    cases d1 <;> try exact g.elim
    case bl a => cases r1; cases r2; exact .inr ⟨a, b, rfl, rfl, hq (.bl _) _ H (.refl hk) rfl g⟩

/-! ### items, slices -/
theorem atI_rp {wl : Wd} {H : Hp} {ds : List D} {vs : List V} {i : Int} {d : D} (r : RpL K wl H ds vs) (h : atI ds i = some d) : ∃ v, atI vs i = some v ∧ Rp K wl H d v := by
  unfold atI at h ⊢
  rw [r.length]
  cases e : ixN ds.length i with
  | none => rw [e] at h; cases h
  | some j =>
    rw [e] at h
    exact r.get h
def ixG : PG2
  | .tup xs, .int i, q => ∃ d, atI xs i = some d ∧ q d
  | .lst xs, .int i, q => ∃ d, atI xs i = some d ∧ q d
  | .str z, .int i, q => z.length ≤ LIM ∧ ∃ c, atI z.cps.toList i = some c ∧ q (.str ⟨#[c]⟩)
  | .scr ns, .int i, q => ∃ n, atI ns i = some n ∧ q (.int n)
  | .well, .int i, q => (i = 0 ∧ ∀ n : Int, 0 ≤ n → q (.int n)) ∨ (i = 1 ∧ ∀ n : Int, 0 ≤ n → n < 2147483648 → q (.int n)) ∨ (i = 2 ∧ ∀ n : Int, q (.int n))
  | _, _, _ => False
theorem atI_map {α β : Type} {f : α → β} {xs : List α} {i : Int} {x : α} (h : atI xs i = some x) : atI (xs.map f) i = some (f x) := by
  unfold atI at h ⊢
  rw [List.length_map]
  cases e : ixN xs.length i with
  | none => rw [e] at h; cases h
  | some j =>
    rw [e] at h
    show (xs.map f)[j]? = some (f x)
    rw [List.getElem?_map, show xs[j]? = some x from h]
    rfl
theorem ix_ok : Cmp2 K (rIx K) ixG := by
  intro wl H d1 d2 v1 v2 q Q hk r1 r2 g hq
  cases d2 <;> (try (cases d1 <;> exact g.elim))
  case int i =>
    cases r2
    cases d1 <;> try exact g.elim
    case tup xs =>
      obtain ⟨a, vs, rfl, s, r⟩ := r1
      obtain ⟨d, e, g⟩ := g
      obtain ⟨v, e1, rv⟩ := atI_rp r e
      exact .inr (.inl ⟨a, vs, i, v, rfl, rfl, s, e1, hq d v H (.refl hk) rv g⟩)
    case lst xs =>
      obtain ⟨a, vs, rfl, n, s, r⟩ := r1
      obtain ⟨d, e, g⟩ := g
      obtain ⟨v, e1, rv⟩ := atI_rp r e
      exact .inl ⟨a, vs, i, v, rfl, rfl, SqL.of s, e1, hq d v H (.refl hk) rv g⟩
    case str z =>
      cases r1
      obtain ⟨hl, c, e, g⟩ := g
      exact .inr (.inr ⟨z, i, c, rfl, rfl, lim_line hl, e, hq (.str ⟨#[c]⟩) _ H (.refl hk) rfl g⟩)
    case scr ns =>
      obtain ⟨a, rfl, s⟩ := r1
      obtain ⟨n, e, g⟩ := g
      exact .inl ⟨a, _, i, .int n, rfl, rfl, s.sq, atI_map e, hq (.int n) _ H (.refl hk) rfl g⟩
    case well =>
      obtain ⟨a, hw, rfl⟩ := r1
      obtain ⟨n0, n1, n2, e, h0, h1, h2⟩ := hk.well a hw
      rcases g with ⟨rfl, g⟩ | ⟨rfl, g⟩ | ⟨rfl, g⟩
      · exact .inl ⟨a, _, 0, .int n0, rfl, rfl, SqL.of e, rfl, hq (.int n0) _ H (.refl hk) rfl (g n0 h0)⟩
      · exact .inl ⟨a, _, 1, .int n1, rfl, rfl, SqL.of e, rfl, hq (.int n1) _ H (.refl hk) rfl (g n1 h1 h2)⟩
      · exact .inl ⟨a, _, 2, .int n2, rfl, rfl, SqL.of e, rfl, hq (.int n2) _ H (.refl hk) rfl (g n2)⟩
def cutD (xs : List D) (lo hi : Option Int) : List D := (xs.drop (HT.sIx xs.length 0 lo)).take (HT.sIx xs.length xs.length hi - HT.sIx xs.length 0 lo)
theorem cut_rp {wl : Wd} {H : Hp} {ds : List D} {vs : List V} (r : RpL K wl H ds vs) (lo hi : Option Int) : RpL K wl H (cutD ds lo hi) (cutV vs lo hi) := by
  unfold cutD cutV
  rw [r.length]
  exact (r.drop _).take _
theorem cut_whole {ds : List D} {lo hi : Option Int} (h : HT.sIx ds.length 0 lo = 0 ∧ HT.sIx ds.length ds.length hi = ds.length) : cutD ds lo hi = ds := by
  unfold cutD
  rw [h.1, h.2]
  simp
def slG : D → Option Int → Option Int → (D → Prop) → Prop
  | .tup xs, lo, hi, q => q (.tup (cutD xs lo hi))
  | .lst xs, lo, hi, q => q (.lst (cutD xs lo hi))
  | .str z, lo, hi, q => z.length ≤ LIM ∧ q (.str (cutS z lo hi))
  | .scr ns, lo, hi, q => q (.lst (cutD (ns.map D.int) lo hi))
  | _, _, _, _ => False
theorem rp_of_ints {wl : Wd} {H : Hp} : ∀ ns : List Int, RpL K wl H (ns.map D.int) (ns.map V.int)
  | [] => rfl
  | n :: ns => ⟨.int n, _, rfl, rfl, rp_of_ints ns⟩
def rSlAll (K : PySem.W.Frag) : V → Option Int → Option Int → Hp → VK → Prop := fun x lo hi H Q => rSlA K x lo hi H Q ∨ rSlL K x lo hi H Q ∨ rSlS x lo hi H Q
theorem sl_all : SlR X (rSlAll X.K) := sl_tupA.or (sl_list.or sl_str)
theorem sl_ok {wl : Wd} {H : Hp} {d : D} {v : V} {lo hi : Option Int} {q : D → Prop} {Q : VK} (hk : Wk wl H) (r : Rp K wl H d v) (g : slG d lo hi q) (hq : ∀ d v H', Ext wl H H' → Rp K wl H' d v → q d → Q v H') : rSlAll K v lo hi H Q := by
  cases d <;> try exact g.elim
  case tup xs =>
    obtain ⟨a, vs, rfl, s, r⟩ := r
    refine .inl ⟨a, vs, rfl, s, fun h => ?_, fun _ p hp => ?_⟩
    · have g' : q (.tup (cutD xs lo hi)) := g
      rw [cut_whole (by rw [← r.length]; exact h)] at g'
      exact hq (.tup xs) _ H (.refl hk) ⟨a, vs, rfl, s, r⟩ g'
    · have e := Ext.new (o := .tup (cutV vs lo hi)) hk hp
      exact hq (.tup _) _ _ e ⟨p, _, rfl, SqT.of upd_same, cut_rp (RpL.ext hk e _ _ r) lo hi⟩ g
  case lst xs =>
    obtain ⟨a, vs, rfl, n, s, r⟩ := r
    refine .inr (.inl ⟨a, vs, rfl, SqL.of s, fun p hp => ?_⟩)
    have e := Ext.new (o := .lst (cutV vs lo hi)) hk hp
    refine hq (.lst _) _ _ e ⟨p, _, rfl, hk.new hp, upd_same, cut_rp (RpL.ext hk e _ _ r) lo hi⟩ g
  case str z =>
    cases r
    exact .inr (.inr ⟨z, rfl, lim_line g.1, hq (.str _) _ H (.refl hk) rfl g.2⟩)
  case scr ns =>
    obtain ⟨a, rfl, s⟩ := r
    refine .inr (.inl ⟨a, _, rfl, s.sq, fun p hp => ?_⟩)
    have e := Ext.new (o := .lst (cutV (ns.map V.int) lo hi)) hk hp
    exact hq (.lst _) _ _ e ⟨p, _, rfl, hk.new hp, upd_same, cut_rp (rp_of_ints ns) lo hi⟩ g
/-- a part of a slice -/
abbrev PO' := Ev → (Option Int → Prop) → (Xn → Prop) → Prop
def eO (X : Cx) (W : WY) (f : PO') : TO := fun σ H Q => ∃ (wl : Wd) (ρ : Ev) (q : Option Int → Prop) (x : Xn → Prop), Wk wl H ∧ EvR X.K wl H ρ σ ∧ f ρ q x ∧ (∀ o H', Ext wl H H' → q o → Q o H') ∧ Out X W wl H σ x
def fNo : PO' := fun _ q _ => q none
def fPart (f : PX) : PO' := fun ρ q x => f ρ (fun d => ∃ i, d = .int i ∧ q (some i)) x
variable {W : WY}
theorem dp_none : PO X none (eO X W fNo) := ⟨fun pins s σ H Q I ⟨wl, ρ, q, x, hk, he, hf, hq, hx⟩ => po_none.run pins s σ H Q I (hq none H (.refl hk) hf)⟩
theorem dp_some {e : Expr} {f : PX} (h : PE X e (eE X W f)) : PO X (some e) (eO X W (fPart f)) := ⟨fun pins s σ H Q I ⟨wl, ρ, q, x, hk, he, hf, hq, hx⟩ =>
  (po_some h).run pins s σ H Q I ⟨wl, ρ, _, x, hk, he, hf, fun d v H' e' r' ⟨i, ed, h'⟩ => by
    subst ed
    exact ⟨i, r', hq _ H' e' h'⟩, hx⟩⟩
def fSl (fe : PX) (fl fh : PO') : PX := fun ρ q x => fe ρ (fun d => fl ρ (fun l => fh ρ (fun h => slG d l h q) x) x) x
theorem d_slice {e : Expr} {lo hi : Option Expr} {p2 pos : Pos} {fe : PX} {fl fh : PO'} (he : PE X e (eE X W fe)) (hl : PO X lo (eO X W fl)) (hh : PO X hi (eO X W fh)) : PE X (.Subscript e (.Slice lo hi none p2) pos) (eE X W (fSl fe fl fh)) := by
  refine PE.weak (pe_slice sl_all he hl hh) fun σ H Q ⟨wl, ρ, q, x, hk, hr, hf, hq, hx⟩ => ?_
  refine ⟨wl, ρ, _, x, hk, hr, hf, fun d v H1 e1 r1 h1 => ⟨wl, ρ, _, x, e1.wk, hr.ext hk e1, h1, fun l H2 e2 h2 => ⟨wl, ρ, _, x, e2.wk, hr.ext hk (e1.trans e2), h2, fun h H3 e3 h3 => ?_, hx.ext (e1.trans e2)⟩, hx.ext e1⟩, hx⟩
  exact sl_ok e3.wk (Rp.ext e1.wk (e2.trans e3) _ _ r1) h3 fun d v H4 e4 r4 => hq d v H4 ((e1.trans e2).trans e3 |>.trans e4) r4

/-! ### argument lists, displays -/
def fNil : PAx := fun _ q _ => q []
def fCons (fa : PX) (fr : PAx) : PAx := fun ρ q x => fa ρ (fun d => fr ρ (fun ds => q (d :: ds)) x) x
def fStar (fa : PX) (fr : PAx) : PAx := fun ρ q x => fa ρ (fun d => ∃ xs, (d = .tup xs ∨ d = .lst xs) ∧ fr ρ (fun ds => q (xs ++ ds)) x) x
theorem da_nil : PA X [] (eA X W fNil) := PA.weak pa_nil fun σ H Q ⟨wl, ρ, q, x, hk, he, hf, hq, hx⟩ => hq [] [] H (.refl hk) rfl hf
theorem da_cons {e : Expr} {es : List Expr} {fa : PX} {fr : PAx} (ha : PE X e (eE X W fa)) (hr : PA X es (eA X W fr)) (hs : starEach (e :: es) X.env = (false, eval e X.env) :: starEach es X.env := by rfl) : PA X (e :: es) (eA X W (fCons fa fr)) := by
  refine PA.weak (pa_cons ha hr hs) fun σ H Q ⟨wl, ρ, q, x, hk, he, hf, hq, hx⟩ => ?_
  refine ⟨wl, ρ, _, x, hk, he, hf, fun d v H1 e1 r1 h1 => ⟨wl, ρ, _, x, e1.wk, he.ext hk e1, h1, fun ds vs H2 e2 r2 h2 => ?_, hx.ext e1⟩, hx⟩
  exact hq (d :: ds) _ H2 (e1.trans e2) ⟨v, vs, rfl, Rp.ext e1.wk e2 _ _ r1, r2⟩ h2
theorem da_star {e : Expr} {es : List Expr} {p : Pos} {fa : PX} {fr : PAx} (ha : PE X e (eE X W fa)) (hr : PA X es (eA X W fr)) (hs : starEach (.Starred e p :: es) X.env = (true, eval e X.env) :: starEach es X.env := by rfl) : PA X (.Starred e p :: es) (eA X W (fStar fa fr)) := by
  refine PA.weak (StX.pa_star ha hr hs) fun σ H Q ⟨wl, ρ, q, x, hk, he, hf, hq, hx⟩ => ?_
  refine ⟨wl, ρ, _, x, hk, he, hf, fun d v H1 e1 r1 ⟨xs, hd, h1⟩ => ?_, hx⟩
  have go : ∀ {vs : List V}, RpL X.K wl H1 xs vs → (eA X W fr) σ H1 (fun ys H2 => Q (vs ++ ys) H2) := fun {vs} rv =>
    ⟨wl, ρ, _, x, e1.wk, he.ext hk e1, h1, fun ds us H2 e2 r2 h2 => hq _ _ H2 (e1.trans e2) ((RpL.ext e1.wk e2 _ _ rv).append r2) h2, hx.ext e1⟩
  rcases hd with rfl | rfl
  · obtain ⟨a, vs, rfl, s, rv⟩ := r1
    exact ⟨a, vs, rfl, .inl s, go rv⟩
  · obtain ⟨a, vs, rfl, n, s, rv⟩ := r1
    exact ⟨a, vs, rfl, .inr (SqL.of s), go rv⟩
def fTup (fa : PAx) : PX := fun ρ q x => fa ρ (fun ds => ds.length ≤ LIM ∧ q (.tup ds)) x
def fLst (fa : PAx) : PX := fun ρ q x => fa ρ (fun ds => ds.length ≤ LIM ∧ q (.lst ds)) x
theorem new_lst {wl : Wd} {H : Hp} {p : Addr} {ds : List D} {vs : List V} (hk : Wk wl H) (hp : H p = none) (r : RpL K wl H ds vs) : Ext wl H (upd H p (.lst vs)) ∧ Rp K wl (upd H p (.lst vs)) (.lst ds) (.ref p) := by
  have e := Ext.new (o := .lst vs) hk hp
  exact ⟨e, p, vs, rfl, hk.new hp, upd_same, RpL.ext hk e _ _ r⟩
theorem new_tup {wl : Wd} {H : Hp} {p : Addr} {ds : List D} {vs : List V} (hk : Wk wl H) (hp : H p = none) (r : RpL K wl H ds vs) : Ext wl H (upd H p (.tup vs)) ∧ Rp K wl (upd H p (.tup vs)) (.tup ds) (.ref p) :=
  have e := Ext.new (o := .tup vs) hk hp
  ⟨e, p, vs, rfl, SqT.of upd_same, RpL.ext hk e _ _ r⟩
theorem d_tup {es : List Expr} {k : Nat} {pos : Pos} {fa : PAx} (ha : PA X es (eA X W fa)) : PE X (.Tuple es k pos) (eE X W (fTup fa)) := by
  refine PE.weak (pe_tup ha) fun σ H Q ⟨wl, ρ, q, x, hk, he, hf, hq, hx⟩ => ?_
  refine ⟨wl, ρ, _, x, hk, he, hf, fun ds vs H1 e1 r1 ⟨hl, h1⟩ => ⟨lim_line (by rw [r1.length]; exact hl), fun p hp => ?_⟩, hx⟩
  obtain ⟨e, r⟩ := new_tup e1.wk hp r1
  exact hq _ _ _ (e1.trans e) r h1
theorem d_lst {es : List Expr} {pos : Pos} {fa : PAx} (ha : PA X es (eA X W fa)) : PE X (.List es pos) (eE X W (fLst fa)) := by
  refine PE.weak (pe_lst ha) fun σ H Q ⟨wl, ρ, q, x, hk, he, hf, hq, hx⟩ => ?_
  refine ⟨wl, ρ, _, x, hk, he, hf, fun ds vs H1 e1 r1 ⟨hl, h1⟩ => ⟨lim_line (by rw [r1.length]; exact hl), fun p hp => ?_⟩, hx⟩
  obtain ⟨e, r⟩ := new_lst e1.wk hp r1
  exact hq _ _ _ (e1.trans e) r h1
end
end PL

namespace PL
open PySem PySem.Spec L2

section
variable {X : Cx} {K : PySem.W.Frag} {W : WY}
/-! # built-in functions -/
abbrev PGc := List D → (D → Prop) → Prop
def CmpC (K : PySem.W.Frag) (r : List V → Hp → VK → Prop) (g : PGc) : Prop := ∀ wl H ds vs q Q, Wk wl H → RpL K wl H ds vs → g ds q → (∀ d v H', Ext wl H H' → Rp K wl H' d v → q d → Q v H') → r vs H Q
def fCB (g : PGc) (fa : PAx) : PX := fun ρ q x => fa ρ (fun ds => g ds q) x
theorem cb_weak {r : List V → Hp → VK → Prop} {g : PGc} (c : CmpC X.K r g) {fa : PAx} {σ : St} {H : Hp} {Q : VK} (h : eE X W (fCB g fa) σ H Q) : tCB r (eA X W fa) σ H Q := by
  obtain ⟨wl, ρ, q, x, hk, he, hf, hq, hx⟩ := h
  exact ⟨wl, ρ, _, x, hk, he, hf, fun ds vs H1 e1 r1 h1 => c wl H1 ds vs q Q e1.wk r1 h1 fun d v H' e2 r2 => hq d v H' (e1.trans e2) r2, hx⟩
theorem d_callB {id : String} {r : List V → Hp → VK → Prop} {g : PGc} {x : Str} {e : Expr} {es : List Expr} {fa : PAx} {p pos : Pos} (hc : CallR X (.builtin id) r) (k : CmpC X.K r g) (hg : Gl X x) (hm : X.mg x = none) (hv : bootBuiltins x = some (.builtin id)) (ha : PA X (e :: es) (eA X W fa)) (hn : x ≠ "__name__" := by decide)
    (hdb : (x == ("__debug__" : Str)) = false := by decide) (he : starEach (e :: es) X.env = (false, eval e X.env) :: starEach es X.env := by rfl) (hpl : (backTo pos (starEach es X.env)).any (·.1) = false := by rfl) : PE X (.Call (.Name x p) (e :: es) [] pos) (eE X W (fCB g fa)) :=
  PE.weak (pe_callB hc hg hm hv ha hn hdb he hpl) fun _ _ _ h => cb_weak k h
theorem d_callT {T : String} {r : List V → Hp → VK → Prop} {g : PGc} {x : Str} {e : Expr} {es : List Expr} {fa : PAx} {p pos : Pos} (hc : CallR X (.type T) r) (k : CmpC X.K r g) (hg : Gl X x) (hm : X.mg x = none) (hv : bootBuiltins x = some (.type T)) (ha : PA X (e :: es) (eA X W fa)) (hn : x ≠ "__name__" := by decide)
    (hdb : (x == ("__debug__" : Str)) = false := by decide) (he : starEach (e :: es) X.env = (false, eval e X.env) :: starEach es X.env := by rfl) (hpl : (backTo pos (starEach es X.env)).any (·.1) = false := by rfl) : PE X (.Call (.Name x p) (e :: es) [] pos) (eE X W (fCB g fa)) :=
  PE.weak (pe_callTy hc hg hm hv ha hn hdb he hpl) fun _ _ _ h => cb_weak k h

/-! ### len, tuple, list -/
def lenG : PGc
  | [.tup xs], q => q (.int xs.length)
  | [.lst xs], q => q (.int xs.length)
  | [.str z], q => z.length ≤ LIM ∧ q (.int z.length)
  | [.scr ns], q => q (.int ns.length)
  | _, _ => False
def rLenA (K : PySem.W.Frag) : List V → Hp → VK → Prop := fun vs H Q => (fun (xs : List V) H (Q : VK) => ∃ p ys, xs = [.ref p] ∧ (SqL K H p ys ∨ SqT K H p ys) ∧ Q (.int ys.length) H) vs H Q ∨ (fun (xs : List V) H (Q : VK) => ∃ z, xs = [.str z] ∧ z.length ≤ sizeLine ∧ Q (.int z.length) H) vs H Q
theorem c_len : CallR X (.builtin "len") (rLenA X.K) := call_len_seq.or call_len_str
theorem len_ok : CmpC K (rLenA K) lenG := by
  intro wl H ds vs q Q hk r g hq
  rcases ds with _ | ⟨d, _ | ⟨d2, ds⟩⟩
  · exact g.elim
  · obtain ⟨v, t, rfl, r, r'⟩ := r
    cases r'
    cases d <;> try exact g.elim
    case str z => cases r; exact .inr ⟨z, rfl, lim_line g.1, hq (.int z.length) _ H (.refl hk) rfl g.2⟩
    case tup xs =>
      obtain ⟨a, us, rfl, s, r⟩ := r
      refine .inl ⟨a, us, rfl, .inr s, ?_⟩
      rw [r.length]
      exact hq (.int xs.length) _ H (.refl hk) rfl g
    case lst xs =>
      obtain ⟨a, us, rfl, n, s, r⟩ := r
      refine .inl ⟨a, us, rfl, .inl (SqL.of s), ?_⟩
      rw [r.length]
      exact hq (.int xs.length) _ H (.refl hk) rfl g
    case scr ns =>
      obtain ⟨a, rfl, s⟩ := r
      refine .inl ⟨a, _, rfl, .inl s.sq, ?_⟩
      rw [List.length_map]
      exact hq (.int ns.length) _ H (.refl hk) rfl g
  · cases d <;> exact g.elim
def tupleG : PGc
  | [.tup xs], q => q (.tup xs)
  | [.lst xs], q => q (.tup xs)
  | _, _ => False
def listG : PGc
  | [.tup xs], q => q (.lst xs)
  | [.lst xs], q => q (.lst xs)
  | _, _ => False
theorem tuple_ok : CmpC K (fun xs H Q => ∃ p ys, xs = [.ref p] ∧ ((SqL K H p ys ∧ ∀ l, H l = none → Q (.ref l) (upd H l (.tup ys))) ∨ (SqT K H p ys ∧ Q (.ref p) H))) tupleG := by
  intro wl H ds vs q Q hk r g hq
  rcases ds with _ | ⟨d, _ | ⟨d2, ds⟩⟩
  · exact g.elim
  · obtain ⟨v, t, rfl, r, r'⟩ := r
    cases r'
    cases d <;> try exact g.elim
    case tup xs =>
      obtain ⟨a, us, rfl, s, r⟩ := r
      exact ⟨a, us, rfl, .inr ⟨s, hq (.tup xs) _ H (.refl hk) ⟨a, us, rfl, s, r⟩ g⟩⟩
    case lst xs =>
      obtain ⟨a, us, rfl, n, s, r⟩ := r
      refine ⟨a, us, rfl, .inl ⟨SqL.of s, fun l hl => ?_⟩⟩
      obtain ⟨e, r2⟩ := new_tup hk hl r
      exact hq _ _ _ e r2 g
  · cases d <;> exact g.elim
theorem list_ok : CmpC K (fun xs H Q => ∃ p ys, xs = [.ref p] ∧ (SqL K H p ys ∨ SqT K H p ys) ∧ ∀ l, H l = none → Q (.ref l) (upd H l (.lst ys))) listG := by
  intro wl H ds vs q Q hk r g hq
  rcases ds with _ | ⟨d, _ | ⟨d2, ds⟩⟩
  · exact g.elim
  · obtain ⟨v, t, rfl, r, r'⟩ := r
    cases r'
    cases d <;> try exact g.elim
    case tup xs =>
      obtain ⟨a, us, rfl, s, r⟩ := r
      refine ⟨a, us, rfl, .inr s, fun l hl => ?_⟩
      obtain ⟨e, r2⟩ := new_lst hk hl r
      exact hq _ _ _ e r2 g
    case lst xs =>
      obtain ⟨a, us, rfl, n, s, r⟩ := r
      refine ⟨a, us, rfl, .inl (SqL.of s), fun l hl => ?_⟩
      obtain ⟨e, r2⟩ := new_lst hk hl r
      exact hq _ _ _ e r2 g
  · cases d <;> exact g.elim

/-! ### sum, all, any, min, max, abs, int -/
theorem rp_ints {wl : Wd} {H : Hp} : ∀ {ns : List Int} {vs : List V}, RpL K wl H (ns.map D.int) vs → vs = ns.map V.int
  | [], _, r => by cases r; rfl
  | n :: ns, _, ⟨v, t, e, r, q⟩ => by
    subst e
    cases r
    rw [rp_ints q]
    rfl
theorem rp_bls {wl : Wd} {H : Hp} : ∀ {ns : List Bool} {vs : List V}, RpL K wl H (ns.map D.bl) vs → vs = ns.map V.bl
  | [], _, r => by cases r; rfl
  | n :: ns, _, ⟨v, t, e, r, q⟩ => by
    subst e
    cases r
    rw [rp_bls q]
    rfl
def sumG : PGc
  | [.lst xs], q => ∃ ns : List Int, xs = ns.map D.int ∧ q (.int ns.sum)
  | _, _ => False
def allG : PGc
  | [.lst xs], q => ∃ bs : List Bool, xs = bs.map D.bl ∧ q (.bl (bs.all id))
  | _, _ => False
def anyG : PGc
  | [.lst xs], q => ∃ bs : List Bool, xs = bs.map D.bl ∧ q (.bl (bs.any id))
  | _, _ => False
theorem sum_ok : CmpC K (rSum K) sumG := by
  intro wl H ds vs q Q hk r g hq
  rcases ds with _ | ⟨d, _ | ⟨d2, ds⟩⟩
  · exact g.elim
  · obtain ⟨v, t, rfl, r, r'⟩ := r
    cases r'
    cases d <;> try exact g.elim
    case lst xs =>
      obtain ⟨a, us, rfl, n, s, r⟩ := r
      obtain ⟨ns, rfl, g⟩ := g
      have e := rp_ints r
      subst e
      exact ⟨a, ns, rfl, SqL.of s, hq (.int ns.sum) _ H (.refl hk) rfl g⟩
  · cases d <;> exact g.elim
theorem all_ok : CmpC K (rAll K) allG := by
  intro wl H ds vs q Q hk r g hq
  rcases ds with _ | ⟨d, _ | ⟨d2, ds⟩⟩
  · exact g.elim
  · obtain ⟨v, t, rfl, r, r'⟩ := r
    cases r'
    cases d <;> try exact g.elim
    case lst xs =>
      obtain ⟨a, us, rfl, n, s, r⟩ := r
      obtain ⟨ns, rfl, g⟩ := g
      have e := rp_bls r
      subst e
      exact ⟨a, ns, rfl, SqL.of s, hq (.bl (ns.all id)) _ H (.refl hk) rfl g⟩
  · cases d <;> exact g.elim
theorem any_ok : CmpC K (rAny K) anyG := by
  intro wl H ds vs q Q hk r g hq
  rcases ds with _ | ⟨d, _ | ⟨d2, ds⟩⟩
  · exact g.elim
  · obtain ⟨v, t, rfl, r, r'⟩ := r
    cases r'
    cases d <;> try exact g.elim
    case lst xs =>
      obtain ⟨a, us, rfl, n, s, r⟩ := r
      obtain ⟨ns, rfl, g⟩ := g
      have e := rp_bls r
      subst e
      exact ⟨a, ns, rfl, SqL.of s, hq (.bl (ns.any id)) _ H (.refl hk) rfl g⟩
  · cases d <;> exact g.elim
def int2G (f : Int → Int → Int) : PGc
  | [.int i, .int j], q => q (.int (f i j))
  | _, _ => False
theorem int2_ok {f : Int → Int → Int} : CmpC K (fun xs H Q => ∃ i j, xs = [.int i, .int j] ∧ Q (.int (f i j)) H) (int2G f) := by
  intro wl H ds vs q Q hk r g hq
  rcases ds with _ | ⟨d, _ | ⟨d2, _ | ⟨d3, ds⟩⟩⟩
  · exact g.elim
  · cases d <;> exact g.elim
  · obtain ⟨v, t, rfl, r, v2, t2, rfl, r2, r'⟩ := r
    cases r'
    cases d <;> cases d2 <;> try exact g.elim
    case int.int i j => cases r; cases r2; exact ⟨i, j, rfl, hq (.int (f i j)) _ H (.refl hk) rfl g⟩
  · cases d <;> cases d2 <;> exact g.elim
def minG : PGc := int2G fun i j => if j < i then j else i
def maxG : PGc := int2G fun i j => if j > i then j else i
def int1G (f : Int → Int) : PGc
  | [.int i], q => q (.int (f i))
  | _, _ => False
theorem int1_ok {f : Int → Int} : CmpC K (fun xs H Q => ∃ i, xs = [.int i] ∧ Q (.int (f i)) H) (int1G f) := by
  intro wl H ds vs q Q hk r g hq
  rcases ds with _ | ⟨d, _ | ⟨d2, ds⟩⟩
  · exact g.elim
  · obtain ⟨v, t, rfl, r, r'⟩ := r
    cases r'
    cases d <;> try exact g.elim
    case int i => cases r; exact ⟨i, rfl, hq (.int (f i)) _ H (.refl hk) rfl g⟩
  · cases d <;> exact g.elim
def absG : PGc := int1G fun i => if i < 0 then -i else i
def toIntG : PGc := int1G fun i => i
theorem toInt_ok : CmpC K (fun xs H Q => (∃ i, xs = [.int i] ∧ Q (.int i) H) ∨ ∃ k, xs = [.bl k] ∧ Q (.int (if k then 1 else 0)) H) toIntG := fun wl H ds vs q Q hk r g hq => .inl (int1_ok (f := fun i => i) wl H ds vs q Q hk r g hq)

/-- divmod, a positive divisor -/
def dmG : PGc
  | [.int i, .int j], q => CDiv i j ∧ q (.tup [.int (i / j), .int (i % j)])
  | _, _ => False
theorem dm_ok : CmpC K (fun xs H Q => ∃ i j, xs = [.int i, .int j] ∧ CDiv i j ∧ ∀ p, H p = none → Q (.ref p) (upd H p (.tup [.int (i / j), .int (i % j)]))) dmG := by
  intro wl H ds vs q Q hk r g hq
  rcases ds with _ | ⟨d, _ | ⟨d2, _ | ⟨d3, ds⟩⟩⟩
  · exact g.elim
  · cases d <;> exact g.elim
  · obtain ⟨v, t, rfl, r, v2, t2, rfl, r2, r'⟩ := r
    cases r'
    cases d <;> cases d2 <;> try exact g.elim
    case int.int i j =>
      cases r; cases r2
      refine ⟨i, j, rfl, g.1, fun p hp => ?_⟩
      obtain ⟨e, r3⟩ := new_tup (ds := [.int (i / j), .int (i % j)]) (vs := [.int (i / j), .int (i % j)]) hk hp ⟨_, _, rfl, rfl, _, _, rfl, rfl, rfl⟩
      exact hq _ _ _ e r3 g.2
  · cases d <;> cases d2 <;> exact g.elim
/-! ### isinstance -/
def tyOf : D → String
  | .non => "NoneType"
  | .bl _ => "bool"
  | .int _ => "int"
  | .str _ => "str"
  | .tup _ => "tuple"
  | .lst _ => "list"
  | .well => "list"
  | .ty _ => "type"
  | .scr _ => "script"
/-- the answers of isinstance for the kinds of data -/
def isiT (a T : String) : Bool := a == T || (a == "bool" && T == "int")
def kinds : List String := ["NoneType", "bool", "int", "str", "tuple", "list"]
theorem kit_tab : (kinds.all fun a => (["int", "bool", "str", "tuple", "list"] : List String).all fun T => decide (kitB a T = some (isiT a T))) = true := by decide +kernel
theorem kit_at {a T : String} (ha : a ∈ kinds) (hT : T ∈ (["int", "bool", "str", "tuple", "list"] : List String)) : kitB a T = some (isiT a T) := by
  have h := kit_tab
  rw [List.all_eq_true] at h
  have h2 := h a ha
  rw [List.all_eq_true] at h2
  exact of_decide_eq_true (h2 T hT)
def isiG : PGc
  | [d, .ty T], q => tyOf d ∈ kinds ∧ T ∈ (["int", "bool", "str", "tuple", "list"] : List String) ∧ q (.bl (isiT (tyOf d) T))
  | _, _ => False
theorem isi_ty {wl : Wd} {H : Hp} (hk : Wk wl H) : ∀ {d : D} {v : V}, tyOf d ∈ kinds → Rp K wl H d v → TyX K H v (.type (tyOf d))
  | .non, _, _, r => by cases r; exact .base .non
  | .bl b, _, _, r => by cases r; exact .base (.bl b)
  | .int i, _, _, r => by cases r; exact .base (.int i)
  | .str x, _, _, r => by cases r; exact .base (.str x)
  | .tup ds, _, _, ⟨a, vs, e, s, _⟩ => by
    subst e
    rcases s with (s | ⟨o, s⟩) | ⟨o, its, n, h1, h2, _⟩
    · exact .base (.tup s)
    · exact .fTuple s
    · exact .kTuple h1 h2
  | .lst ds, _, _, ⟨a, vs, e, n, s, _⟩ => by subst e; exact .base (.lst s)
  | .well, _, _, ⟨a, h, e⟩ => by
    subst e
    obtain ⟨i, j, k, s, _⟩ := hk.well a h
    exact .base (.lst s)
  | .ty n, _, g, _ => absurd g (by simp [tyOf, kinds])
  | .scr n, _, g, _ => absurd g (by simp [tyOf, kinds])
theorem isi_ok : CmpC K (rIsi K) isiG := by
  intro wl H ds vs q Q hk r g hq
  rcases ds with _ | ⟨d, _ | ⟨d2, _ | ⟨d3, ds⟩⟩⟩
  · exact g.elim
  · exact g.elim
  · obtain ⟨v, t, rfl, r, v2, t2, rfl, r2, r'⟩ := r
    cases r'
    cases d2 <;> try exact g.elim
    case ty T =>
      obtain ⟨h1, h2, g⟩ := g
      cases r2
      exact ⟨v, .ty T, .type (tyOf d), .type T, isiT (tyOf d) T, rfl, .ty T, isi_ty hk h1 r, kit_ty (kit_at h1 h2), hq (.bl _) _ H (.refl hk) rfl g⟩
  · cases d2 <;> exact g.elim

/-! ### repr: where no repr is under way -/
def shownD (d : D) : Str := (toPy d).shown
def reprG : PGc
  | [.lst xs], q => tame (.lst xs) ∧ q (.str (shownD (.lst xs)))
  | _, _ => False
def rRepr (K : PySem.W.Frag) : List V → Hp → VK → Prop := fun vs H Q => ∃ (a : Addr) (d : PyData), vs = [.ref a] ∧ Dp K H (.ref a) d ∧ d.showable = true ∧ d.hasDict = false ∧ d.depth ≤ 64 ∧ d.shown.length ≤ sizeLine ∧ Q (.str d.shown) H
theorem c_repr (hg : X.A.guards = some []) (hu : X.A.units + 200 < cLine) : CallR X (.builtin "repr") (rRepr X.K) := by
  intro pins s σ H vs us Q I r ⟨a, d, e, hd, h1, h2, h3, h4, q⟩
  subst e
  obtain ⟨u, rfl, ru⟩ := vals1 r
  obtain ⟨as, rd⟩ := Dp.reads I d _ u hd ru
  cases (show u = Value.ref a from ru)
  refine repr_of_reads' rd h1 (PyData.noDict_hsm h2) hg (by omega) (fun _ _ e => e) (fun h' u tk hk => ?_) h4
  exact ⟨.str d.shown, H, I.kept hk, ⟨u, rfl⟩, q⟩
theorem repr_ok : CmpC K (rRepr K) reprG := by
  intro wl H ds vs q Q hk r g hq
  rcases ds with _ | ⟨d, _ | ⟨d2, ds⟩⟩
  · exact g.elim
  · obtain ⟨v, t, rfl, r, r'⟩ := r
    cases r'
    cases d <;> try exact g.elim
    case lst xs =>
      obtain ⟨t, g⟩ := g
      have dp := Rp.dp (.lst xs) v t.nice.good r
      obtain ⟨a, us, rfl, n, s, r⟩ := r
      refine ⟨a, _, rfl, dp, t.nice.show_, PyData.hasDict_of_layable t.layable, by rw [dep_eq]; have := t.2; omega, ?_, hq (.str _) _ H (.refl hk) rfl g⟩
      have := PyProof.Rows.shown_le13 t.layable t.nice.short
      have e : (sizeLine : Nat) = 16777216 := sizeLine_eq
      omega
  · cases d <;> exact g.elim

/-! # tests -/
def tB' (fa : PX) : PB := fun ρ q x => fa ρ (fun d => ∃ b, d = .bl b ∧ q b) x
theorem test_weak {fa : PX} {σ : St} {H : Hp} {Q : Bool → Hp → Prop} (h : eB X W (tB' fa) σ H Q) : eE X W fa σ H (fun x H1 => ∃ c, x = .bl c ∧ Q c H1) := by
  obtain ⟨wl, ρ, q, x, hk, he, hf, hq, hx⟩ := h
  exact ⟨wl, ρ, _, x, hk, he, hf, fun d v H1 e1 r1 ⟨b, ed, h1⟩ => by
    subst ed
    exact ⟨b, r1, hq b H1 e1 h1⟩, hx⟩
theorem dt_val {e : Expr} {fa : PX} (h : PE X e (eE X W fa)) (he : ∀ whole, isTrue e X.env whole = (do let v ← whole; standAt e.pos; holding [v] (truthy v)) := by intro _; rfl) : PT X e (eB X W (tB' fa)) :=
  PT.weak (pt_val h he) fun _ _ _ h => test_weak h
theorem dt_cmp {op : CmpOp} {r : R2} {g : PG2} {a b : Expr} {fa fb : PX} {pos : Pos} (ho : OpR X (compareOp op) r) (c : Cmp2 X.K r g) (ha : PE X a (eE X W fa)) (hb : PE X b (eE X W fb)) (hm : behindInMarks op b = false) : PT X (.Compare a [op] [b] pos) (eB X W (tB' (fBin g fa fb))) := by
  refine PT.weak (pt_cmpR ho ha hb hm) fun σ H Q h => ?_
  exact bin_weak c (test_weak h)
theorem dt_chain {op op' : CmpOp} {r r' : R2} {g g' : PG2} {a b c : Expr} {fa fb fc : PX} {pos : Pos} (ho : OpR X (compareOp op) r) (ho' : OpR X (compareOp op') r') (k1 : Cmp2 X.K r g) (k2 : Cmp2 X.K r' g')
    (ha : PE X a (eE X W fa)) (hb : PE X b (eE X W fb)) (hc : PE X c (eE X W fc)) (hm : lastMarks [op, op'] [b, c] = false := by with_unfolding_all rfl) : PT X (.Compare a [op, op'] [b, c] pos) (eB X W (tB' (fChain g g' fa fb fc))) := by
  refine PT.weak (pt_chain ho ho' ha hb hc hm) fun σ H Q h => ?_
  exact chain_weak k1 k2 (test_weak h)
def tNot' (t : PB) : PB := fun ρ q x => t ρ (fun b => q (!b)) x
def tAnd' (t u : PB) : PB := fun ρ q x => t ρ (fun b => (b = true → u ρ q x) ∧ (b = false → q false)) x
def tOr' (t u : PB) : PB := fun ρ q x => t ρ (fun b => (b = true → q true) ∧ (b = false → u ρ q x)) x
theorem dt_not {a : Expr} {t : PB} {pos : Pos} (h : PT X a (eB X W t)) : PT X (.UnaryOp .Not a pos) (eB X W (tNot' t)) := by
  refine PT.weak (pt_not h) fun σ H Q ⟨wl, ρ, q, x, hk, he, hf, hq, hx⟩ => ?_
  exact ⟨wl, ρ, _, x, hk, he, hf, fun b H1 e1 h1 => hq _ H1 e1 h1, hx⟩
theorem dw_and1 {a : Expr} {t : PB} {pos : Pos} (h : PT X a (eB X W t)) : PW X (.BoolOp .And [a] pos) (eB X W t) := pw_and1 h
theorem dw_or1 {a : Expr} {t : PB} {pos : Pos} (h : PT X a (eB X W t)) : PW X (.BoolOp .Or [a] pos) (eB X W t) := pw_or1 h
theorem dw_and {a b : Expr} {rest : List Expr} {t u : PB} {pos : Pos} (h : PT X a (eB X W t)) (h2 : PW X (.BoolOp .And (b :: rest) pos) (eB X W u)) : PW X (.BoolOp .And (a :: b :: rest) pos) (eB X W (tAnd' t u)) := by
  refine PW.weak (pw_and h h2) fun σ H Q ⟨wl, ρ, q, x, hk, he, hf, hq, hx⟩ => ?_
  refine ⟨wl, ρ, _, x, hk, he, hf, fun b H1 e1 h1 => ?_, hx⟩
  cases b with
  | true => exact iteT ⟨wl, ρ, q, x, e1.wk, he.ext hk e1, h1.1 rfl, fun b H2 e2 => hq b H2 (e1.trans e2), hx.ext e1⟩
  | false => exact iteF (hq _ H1 e1 (h1.2 rfl))
theorem dw_or {a b : Expr} {rest : List Expr} {t u : PB} {pos : Pos} (h : PT X a (eB X W t)) (h2 : PW X (.BoolOp .Or (b :: rest) pos) (eB X W u)) : PW X (.BoolOp .Or (a :: b :: rest) pos) (eB X W (tOr' t u)) := by
  refine PW.weak (pw_or h h2) fun σ H Q ⟨wl, ρ, q, x, hk, he, hf, hq, hx⟩ => ?_
  refine ⟨wl, ρ, _, x, hk, he, hf, fun b H1 e1 h1 => ?_, hx⟩
  cases b with
  | true => exact iteT (hq _ H1 e1 (h1.1 rfl))
  | false => exact iteF ⟨wl, ρ, q, x, e1.wk, he.ext hk e1, h1.2 rfl, fun b H2 e2 => hq b H2 (e1.trans e2), hx.ext e1⟩
theorem dw_pt {a : Expr} {t : PB} (h : PW X a (eB X W t)) : PT X a (eB X W t) := h.pt
def fIf (t : PB) (fa fb : PX) : PX := fun ρ q x => t ρ (fun b => (b = true → fa ρ q x) ∧ (b = false → fb ρ q x)) x
theorem d_if {c a b : Expr} {t : PB} {fa fb : PX} {pos : Pos} (hc : PT X c (eB X W t)) (ha : PE X a (eE X W fa)) (hb : PE X b (eE X W fb)) : PE X (.IfExp c a b pos) (eE X W (fIf t fa fb)) := by
  refine PE.weak (pe_ifExp hc ha hb) fun σ H Q ⟨wl, ρ, q, x, hk, he, hf, hq, hx⟩ => ?_
  refine ⟨wl, ρ, _, x, hk, he, hf, fun b H1 e1 h1 => ?_, hx⟩
  cases b with
  | true => exact iteT ⟨wl, ρ, q, x, e1.wk, he.ext hk e1, h1.1 rfl, fun d v H2 e2 r2 => hq d v H2 (e1.trans e2) r2, hx.ext e1⟩
  | false => exact iteF ⟨wl, ρ, q, x, e1.wk, he.ext hk e1, h1.2 rfl, fun d v H2 e2 r2 => hq d v H2 (e1.trans e2) r2, hx.ext e1⟩

/-! # targets -/
inductive Tg where
  | nm (i : Nat)
  | tp (l : List Tg)
  | wl (o : Nat) (i : Nat)
mutual
def tgV (K : PySem.W.Frag) : Tg → TG
  | .nm i => gName i
  | .tp l => gTup K l.length (tgsV K l)
  | .wl o i => gSub (tVar o) (tC (.int i)) rSetL
def tgsV (K : PySem.W.Frag) : List Tg → TGs
  | [] => gNil
  | t :: l => gCons (tgV K t) (tgsV K l)
end
mutual
def tgE : Tg → D → Ev → (Ev → Prop) → Prop
  | .nm i, d, ρ, q => q (ρ.set i (.dt d))
  | .tp l, d, ρ, q => ∃ ds, d = .tup ds ∧ ds.length = l.length ∧ tgsE l ds ρ q
  | .wl o i, d, ρ, q => ρ[o]? = some (.dt .well) ∧ ∃ n : Int, d = .int n ∧ ((i = 0 ∧ 0 ≤ n) ∨ (i = 1 ∧ 0 ≤ n ∧ n < 2147483648) ∨ i = 2) ∧ q ρ
def tgsE : List Tg → List D → Ev → (Ev → Prop) → Prop
  | [], ds, ρ, q => ds = [] ∧ q ρ
  | t :: l, ds, ρ, q => ∃ d r, ds = d :: r ∧ tgE t d ρ fun ρ' => tgsE l r ρ' q
end
mutual
def slots : Tg → List Nat
  | .nm i => [i]
  | .tp l => slotsL l
  | .wl _ _ => []
def slotsL : List Tg → List Nat
  | [] => []
  | t :: l => slots t ++ slotsL l
end
theorem wipe_set {σ : St} {i : Nat} {y : Option V} : ∀ {vs : List Nat}, i ∈ vs → wipe (σ.set i y) vs = wipe σ vs
  | v :: vs, h => by
    unfold wipe
    by_cases hv : i ∈ vs
    · rw [wipe_set hv]
    · have e : v = i := by
        rcases List.mem_cons.mp h with q | q
        · exact q.symm
        · exact absurd q hv
      subst e
      have com : ∀ (us : List Nat) (τ : St), v ∉ us → wipe (τ.set v y) us = (wipe τ us).set v y := by
        intro us
        induction us with
        | nil => intro τ _; rfl
        | cons u us ih =>
          intro τ hn
          have h1 : v ≠ u := fun q => hn (by rw [q]; exact List.mem_cons_self ..)
          have h2 : v ∉ us := fun q => hn (List.mem_cons_of_mem _ q)
          show (wipe (τ.set v y) us).set u none = ((wipe τ us).set u none).set v y
          rw [ih τ h2, List.set_comm _ _ h1]
      rw [com vs σ hv, List.set_set]
mutual
theorem tgV_mono : ∀ (t : Tg) (v : V) (σ : St) (H : Hp) (Q Q' : St → Hp → Prop), (∀ σ2 H2, Q σ2 H2 → Q' σ2 H2) → tgV K t v σ H Q → tgV K t v σ H Q'
  | .nm i, v, σ, H, Q, Q', m, h => m _ _ h
  | .tp l, v, σ, H, Q, Q', m, ⟨a, xs, e, s, hl, h⟩ => ⟨a, xs, e, s, hl, tgsV_mono l xs σ H Q Q' m h⟩
  | .wl o i, v, σ, H, Q, Q', m, ⟨u, hu, p, xs, k, j, e1, e2, e3, e4, h⟩ => ⟨u, hu, p, xs, k, j, e1, e2, e3, e4, m _ _ h⟩
theorem tgsV_mono : ∀ (l : List Tg) (vs : List V) (σ : St) (H : Hp) (Q Q' : St → Hp → Prop), (∀ σ2 H2, Q σ2 H2 → Q' σ2 H2) → tgsV K l vs σ H Q → tgsV K l vs σ H Q'
  | [], vs, σ, H, Q, Q', m, ⟨e, h⟩ => ⟨e, m _ _ h⟩
  | t :: l, vs, σ, H, Q, Q', m, ⟨v, r, e, h⟩ => ⟨v, r, e, tgV_mono t v σ H _ _ (fun σ2 H2 h2 => tgsV_mono l r σ2 H2 Q Q' m h2) h⟩
end
/-- the well is written -/
theorem well_set {wl : Wd} {H : Hp} {a : Addr} {n0 n1 n2 : Int} (hk : Wk wl H) (hw : wl.wl = some a) (h0 : 0 ≤ n0) (h1 : 0 ≤ n1) (h2 : n1 < 2147483648) : Ext wl H (upd H a (.lst [.int n0, .int n1, .int n2])) := by
  obtain ⟨i, j, k, ea, _⟩ := hk.well a hw
  refine ⟨fun b o nb e _ => ?_, hk.write ea True.intro True.intro fun _ => ⟨n0, n1, n2, rfl, h0, h1, h2⟩⟩
  · rw [upd_ne (fun z => nb (by rw [hw, z]))]; exact e
mutual
theorem tg_ok {wl : Wd} {own : List Nat} : ∀ (t : Tg) (d : D) (v : V) (ρ : Ev) (σ : St) (H : Hp) (q : Ev → Prop), (∀ i ∈ slots t, i ∈ own) → Wk wl H → EvR K wl H ρ σ → Rp K wl H d v → tgE t d ρ q → tgV K t v σ H fun σ2 H2 => Ext wl H H2 ∧ wipe σ2 own = wipe σ own ∧ ∃ ρ2, EvR K wl H2 ρ2 σ2 ∧ q ρ2
  | .nm i, d, v, ρ, σ, H, q, hs, hk, he, r, g => ⟨.refl hk, wipe_set (hs i (List.mem_cons_self ..)), _, he.set r i, g⟩
  | .tp l, d, v, ρ, σ, H, q, hs, hk, he, r, ⟨ds, e, hl, g⟩ => by
    subst e
    obtain ⟨a, vs, rfl, s, r⟩ := r
    exact ⟨a, vs, rfl, s, r.length.trans hl, tgs_ok l ds vs ρ σ H q hs hk he r g⟩
  | .wl o i, d, v, ρ, σ, H, q, hs, hk, he, r, ⟨ho, n, e, hn, g⟩ => by
    subst e
    cases r
    obtain ⟨u, hu, a, hw, rfl⟩ := he.at_ o .well ho
    obtain ⟨n0, n1, n2, ea, h0, h1, h2⟩ := hk.well a hw
    rcases hn with ⟨rfl, hn⟩ | ⟨rfl, hn, hn2⟩ | rfl
    · have x := well_set (n0 := n) (n1 := n1) (n2 := n2) hk hw hn h1 h2
      exact ⟨.ref a, hu, a, _, 0, 0, rfl, rfl, ea, rfl, x, rfl, ρ, he.ext hk x, g⟩
    · have x := well_set (n0 := n0) (n1 := n) (n2 := n2) hk hw h0 hn hn2
      exact ⟨.ref a, hu, a, _, 1, 1, rfl, rfl, ea, rfl, x, rfl, ρ, he.ext hk x, g⟩
    · have x := well_set (n0 := n0) (n1 := n1) (n2 := n) hk hw h0 h1 h2
      exact ⟨.ref a, hu, a, _, 2, 2, rfl, rfl, ea, rfl, x, rfl, ρ, he.ext hk x, g⟩
theorem tgs_ok {wl : Wd} {own : List Nat} : ∀ (l : List Tg) (ds : List D) (vs : List V) (ρ : Ev) (σ : St) (H : Hp) (q : Ev → Prop), (∀ i ∈ slotsL l, i ∈ own) → Wk wl H → EvR K wl H ρ σ → RpL K wl H ds vs → tgsE l ds ρ q → tgsV K l vs σ H fun σ2 H2 => Ext wl H H2 ∧ wipe σ2 own = wipe σ own ∧ ∃ ρ2, EvR K wl H2 ρ2 σ2 ∧ q ρ2
  | [], ds, vs, ρ, σ, H, q, hs, hk, he, r, ⟨e, g⟩ => by subst e; cases r; exact ⟨rfl, .refl hk, rfl, ρ, he, g⟩
  | t :: l, ds, vs, ρ, σ, H, q, hs, hk, he, r, ⟨d, dr, e, g⟩ => by
    subst e
    obtain ⟨v, vr, rfl, r1, r2⟩ := r
    refine ⟨v, vr, rfl, ?_⟩
    have h1 := tg_ok (own := own) t d v ρ σ H _ (fun i hi => hs i (by show i ∈ slots t ++ slotsL l; exact List.mem_append_left _ hi)) hk he r1 g
    refine tgV_mono t v σ H _ _ (fun σ2 H2 ⟨eH, ew, ρ2, he2, g2⟩ => ?_) h1
    refine tgsV_mono l vr σ2 H2 _ _ (fun σ3 H3 ⟨eH3, ew3, r3⟩ => ⟨eH.trans eH3, ew3.trans ew, r3⟩) (tgs_ok (own := own) l dr vr ρ2 σ2 H2 q (fun i hi => hs i (by show i ∈ slots t ++ slotsL l; exact List.mem_append_right _ hi)) eH.wk he2 (RpL.ext hk eH _ _ r2) g2)
end
theorem g_wl (o i : Nat) {x : Str} {j : Nat} {px pi pos : Pos} (hN : X.N[o]? = some x := by rfl) (hv : Vis X.env.scope x := by first | exact Or.inl rfl | exact Or.inr (Or.inl rfl) | exact Or.inr (Or.inr rfl)) (hd : (x == ("__debug__" : Str)) = false := by decide)
    (hcd : (x == ("__classdict__" : Str)) = false := by decide)
    (ha : ∀ v, assign (.Subscript (.Name x px) (.Constant (.int i) j pi) pos) X.env v = (do
      let ov ← holding [v] (eval (.Name x px) X.env)
      let iv ← holding [v, ov] (eval (.Constant (.int i) j pi) X.env)
      standAt pos
      holding [v, ov, iv] (setItem ov iv v)
      release [v, ov, iv] []) := by intro _; rfl) : PG X (.Subscript (.Name x px) (.Constant (.int i) j pi) pos) (tgV X.K (.wl o i)) := pg_sub (pe_var hN hv hd hcd) pe_int set_list ha
theorem g_nm (i : Nat) {x : Str} {pos : Pos} (hN : X.N.Nodup) (hi : X.N[i]? = some x) (hx : Loc X.env.scope x) (hf : X.fn x = true ∨ X.env.scope.names.lookup x = some .local := by first | exact .inl rfl | exact .inr rfl) : PG X (.Name x pos) (tgV X.K (.nm i)) := pg_name hN hi hx hf
theorem gs_nil : PGs X [] (tgsV X.K []) := pgs_nil
theorem gs_cons {e : Expr} {es : List Expr} {t : Tg} {l : List Tg} (h1 : PG X e (tgV X.K t)) (h2 : PGs X es (tgsV X.K l)) (hs : (assignEach (e :: es) X.env).map (·.2) = assign e X.env :: (assignEach es X.env).map (·.2) := by rfl) : PGs X (e :: es) (tgsV X.K (t :: l)) := pgs_cons h1 h2 hs
theorem g_tp {es : List Expr} {k : Nat} {l : List Tg} {pos : Pos} (hc : X.calm = true) (h : PGs X es (tgsV X.K l)) (hn : (assignEach es X.env).length = l.length := by rfl) (hst : (assignEach es X.env).findIdx? (·.1) = none := by rfl) : PG X (.Tuple es k pos) (tgV X.K (.tp l)) := pg_tup hc h hn hst
end
end PL

namespace PL
open PySem PySem.Spec L2

section
variable {X : Cx} {K : PySem.W.Frag} {W : WY}
/-! # statements -/
def sNil : PSt := fun P ρ => P.nx ρ
def sSeq (f g : PSt) : PSt := fun P ρ => f { P with nx := g P } ρ
theorem dss_nil : PSs X [] (eS X W sNil) := PSs.weak pss_nil fun En σ H ⟨wl, ρ, P, hk, he, h, r⟩ => r.nx wl ρ σ H (Ext.refl hk).step he h
theorem seq_weak {f g : PSt} {En : Ends} {σ : St} {H : Hp} (h : eS X W (sSeq f g) En σ H) : eS X W f { En with nx := eS X W g En } σ H := by
  obtain ⟨wl, ρ, P, hk, he, h, r⟩ := h
  exact ⟨wl, ρ, { P with nx := g P }, hk, he, h, ⟨r.T, fun w2 ρ2 σ2 H2 e2 r2 h2 => ⟨w2, ρ2, P, e2.wk, r2, h2, r.step e2⟩, r.rt, r.bk, r.ct, r.ex⟩⟩
theorem dss_cons {st : Stmt} {rest : List Stmt} {f g : PSt} (h1 : PS X st (eS X W f)) (h2 : PSs X rest (eS X W g)) : PSs X (st :: rest) (eS X W (sSeq f g)) := PSs.weak (pss_cons h1 h2) fun _ _ _ h => seq_weak h
theorem dss_one {st : Stmt} {f : PSt} (h1 : PS X st (eS X W f)) : PSs X [st] (eS X W f) := pss_one h1
def sBrk : PSt := fun P ρ => P.bk ρ
def sCnt : PSt := fun P ρ => P.ct ρ
theorem ds_brk {pos : Pos} : PS X (.Break pos) (eS X W sBrk) := PS.weak ps_break fun En σ H ⟨wl, ρ, P, hk, he, h, r⟩ => r.bk wl ρ σ H (Ext.refl hk).step he h
theorem ds_cnt {pos : Pos} : PS X (.Continue pos) (eS X W sCnt) := PS.weak ps_continue fun En σ H ⟨wl, ρ, P, hk, he, h, r⟩ => r.ct wl ρ σ H (Ext.refl hk).step he h
theorem ds_pass {pos : Pos} : PS X (.Pass pos) (eS X W sNil) := PS.weak ps_pass fun En σ H ⟨wl, ρ, P, hk, he, h, r⟩ => r.nx wl ρ σ H (Ext.refl hk).step he h
def sRet (f : PX) : PSt := fun P ρ => f ρ P.rt (P.ex ρ)
theorem ds_ret {e : Expr} {f : PX} {pos : Pos} (h : PE X e (eE X W f)) : PS X (.Return (some e) pos) (eS X W (sRet f)) :=
  PS.weak (ps_ret h) fun En σ H ⟨wl, ρ, P, hk, he, h, r⟩ => ⟨wl, ρ, P.rt, P.ex ρ, hk, he, h, fun d v H1 e1 => r.rt wl d v H1 e1.step, r.out hk he⟩
def sDrop (f : PX) : PSt := fun P ρ => f ρ (fun _ => P.nx ρ) (P.ex ρ)
theorem ds_expr {e : Expr} {f : PX} {pos : Pos} (h : PE X e (eE X W f)) (hs : swapsWith e none pos.line X.env = pure false := by rfl) : PS X (.Expr e pos) (eS X W (sDrop f)) :=
  PS.weak (ps_expr h hs) fun En σ H ⟨wl, ρ, P, hk, he, h, r⟩ => ⟨wl, ρ, _, P.ex ρ, hk, he, h, fun d v H1 e1 r1 h1 => r.nx wl ρ σ H1 e1.step (he.ext hk e1) h1, r.out hk he⟩
def sIf (t : PB) (f g : PSt) : PSt := fun P ρ => t ρ (fun b => (b = true → f P ρ) ∧ (b = false → g P ρ)) (P.ex ρ)
theorem ds_if {c : Expr} {a b : List Stmt} {t : PB} {f g : PSt} {pos : Pos} (hc : PT X c (eB X W t)) (ha : PSs X a (eS X W f)) (hb : PSs X b (eS X W g)) : PS X (.If c a b pos) (eS X W (sIf t f g)) := by
  refine PS.weak (ps_if hc ha hb) fun En σ H ⟨wl, ρ, P, hk, he, h, r⟩ => ?_
  refine ⟨wl, ρ, _, P.ex ρ, hk, he, h, fun b H1 e1 h1 => ?_, r.out hk he⟩
  cases b with
  | true => exact iteT ⟨wl, ρ, P, e1.wk, he.ext hk e1, h1.1 rfl, r.ext e1⟩
  | false => exact iteF ⟨wl, ρ, P, e1.wk, he.ext hk e1, h1.2 rfl, r.ext e1⟩
/-- a way that is never gone -/
def sNever : PSt := fun _ _ => False
theorem ds_never {st : Stmt} : PS X st (eS X W sNever) := PS.weak ps_never fun _ _ _ ⟨_, _, _, _, _, h, _⟩ => h
def sSet (i : Nat) (f : PX) : PSt := fun P ρ => f ρ (fun d => P.nx (ρ.set i (.dt d))) (P.ex ρ)
theorem ds_set (i : Nat) {x : Str} {e : Expr} {f : PX} {pos pos' : Pos} (hN : X.N.Nodup) (hi : X.N[i]? = some x) (hx : Loc X.env.scope x) (he : PE X e (eE X W f)) (hs : swapsWith e (some (.Name x pos')) pos.line X.env = pure false := by rfl) (hf : X.fn x = true ∨ X.env.scope.names.lookup x = some .local := by first | exact .inl rfl | exact .inr rfl) :
    PS X (.Assign [.Name x pos'] e pos) (eS X W (sSet i f)) := by
  refine PS.weak (ps_set hN hi hx he hs hf) fun En σ H ⟨wl, ρ, P, hk, he, h, r⟩ => ?_
  exact ⟨wl, ρ, _, P.ex ρ, hk, he, h, fun d v H1 e1 r1 h1 => r.nx wl _ _ H1 e1.step ((he.ext hk e1).set r1 i) h1, r.out hk he⟩
/-- a target of any form -/
def sAsg (t : Tg) (f : PX) : PSt := fun P ρ => f ρ (fun d => tgE t d ρ P.nx) (P.ex ρ)
theorem ds_asg {tg e : Expr} {t : Tg} {f : PX} {pos : Pos} (he : PE X e (eE X W f)) (hg : PG X tg (tgV X.K t)) (hs : swapsWithSole [tg] e pos.line X.env = pure false := by rfl) (hw : swappedStores [tg] e X.env = pure none := by rfl)
    (h1 : (assignEach [tg] X.env).map (·.2) = [assign tg X.env] := by rfl) : PS X (.Assign [tg] e pos) (eS X W (sAsg t f)) := by
  refine PS.weak (ps_asg he hg hs hw h1) fun En σ H ⟨wl, ρ, P, hk, he, h, r⟩ => ?_
  refine ⟨wl, ρ, _, P.ex ρ, hk, he, h, fun d v H1 e1 r1 h1 => ?_, r.out hk he⟩
  refine tgV_mono t v σ H1 _ _ (fun σ2 H2 ⟨eH, _, ρ2, he2, h2⟩ => ?_) (tg_ok (own := slots t) t d v ρ σ H1 P.nx (fun _ z => z) e1.wk (he.ext hk e1) r1 h1)
  exact r.nx wl ρ2 σ2 H2 (e1.trans eH).step he2 h2
def sPar (i j : Nat) (f : PAx) : PSt := fun P ρ => f ρ (fun ds => ∃ a b, ds = [a, b] ∧ P.nx ((ρ.set i (.dt a)).set j (.dt b))) (P.ex ρ)
theorem ds_par {i j : Nat} {x y : Str} {a b : Expr} {f : PAx} {px py pt pos : Pos} {kt k2 pt2} (hc : X.calm = true) (hN : X.N.Nodup) (hi : X.N[i]? = some x) (hj : X.N[j]? = some y) (hij : i ≠ j)
    (hx : X.env.scope.names.lookup x = some .local) (hy : X.env.scope.names.lookup y = some .local) (ha : PA X [a, b] (eA X W f))
    (hw : swappedStores [.Tuple [.Name x px, .Name y py] kt pt] (.Tuple [a, b] k2 pt2) X.env = pure (some [x, y]) := by rfl)
    (hs : swapsWithSole [.Tuple [.Name x px, .Name y py] kt pt] (.Tuple [a, b] k2 pt2) pos.line X.env = pure false := by rfl) :
    PS X (.Assign [.Tuple [.Name x px, .Name y py] kt pt] (.Tuple [a, b] k2 pt2) pos) (eS X W (sPar i j f)) := by
  refine PS.weak (ps_par hc hN hi hj hij hx hy ha hw hs) fun En σ H ⟨wl, ρ, P, hk, he, h, r⟩ => ?_
  refine ⟨wl, ρ, _, P.ex ρ, hk, he, h, fun ds vs H1 e1 r1 ⟨a, b, ed, h1⟩ => ?_, r.out hk he⟩
  subst ed
  obtain ⟨v, t, rfl, ra, v2, t2, rfl, rb, e2⟩ := r1
  cases e2
  exact ⟨v, v2, rfl, r.nx wl _ _ H1 e1.step (((he.ext hk e1).set ra i).set rb j) h1⟩

/-! # what is walked -/
def Feeds (K : PySem.W.Frag) (wl : Wd) (H0 : Hp) (J : It) (ds : List D) : Prop :=
  ∀ (wl' : Wd) (i : Nat) (H : Hp), Step wl H0 wl' H → (i < ds.length → J.go i H) ∧ (i = ds.length → J.stop i H) ∧ (i < ds.length → ∀ x H', J.yld i H x H' → Ext wl' H H' ∧ ∃ d, ds[i]? = some d ∧ Rp K wl' H' d x)
def eI (X : Cx) (W : WY) (f : PAx) : TI := fun σ H R => ∃ (wl : Wd) (ρ : Ev) (q : List D → Prop) (x : Xn → Prop), Wk wl H ∧ EvR X.K wl H ρ σ ∧ f ρ q x ∧ (∀ ds J H', Ext wl H H' → Feeds X.K wl H' J ds → q ds → R J H') ∧ Out X W wl H σ x
theorem PI.weak {tg e : Expr} {t t' : TI} (h : PI X tg e t) (w : ∀ σ H R, t' σ H R → t σ H R) : PI X tg e t' := ⟨fun pins s σ H R I q => h.run pins s σ H R I (w _ _ _ q)⟩
/-- a list, a tuple or a text, whichever it is -/
def iSeq (K : PySem.W.Frag) (tl : TE) : TI := fun σ H R => tl σ H fun x H1 => (∃ a, x = .ref a ∧ (∃ xs, SqL K H1 a xs) ∧ R (Itl K a) H1) ∨ (∃ a, x = .ref a ∧ (∃ xs, SqT K H1 a xs) ∧ R (Itt K a) H1) ∨ ∃ z, x = .str z ∧ R (Its z) H1
theorem pi_seq {tg l : Expr} {tl : TE} (hl : PE X l tl) : PI X tg l (iSeq X.K tl) := by
  refine ⟨fun pins s σ H R I h => thn (hl.run pins s σ H _ I h) fun v s1 ⟨x, H1, I1, r1, q1⟩ => ?_⟩
  rcases q1 with ⟨a, e, ⟨xs, hq⟩, q⟩ | ⟨a, e, ⟨xs, hq⟩, q⟩ | ⟨z, e, q⟩
  · subst e; cases r1
    obtain ⟨its, rv, p, hz⟩ := I1.list hq
    exact wpAny_pyIter_list p.isList (pi_one (tk := s1.toks) I1 _ (turn_list a _) ⟨_, Heap.get?_push_size _ rfl, rfl, rfl⟩ q)
  · subst e; cases r1
    obtain ⟨its, rv, p, hz⟩ := I1.tuple hq
    exact wpAny_pyIter_tuple (show s1.heap.IsTuple a its.toArray from p) (pi_one (tk := s1.toks) I1 _ (turn_tuple a _) ⟨_, Heap.get?_push_size _ rfl, rfl, rfl⟩ q)
  · subst e
    obtain ⟨t, rfl⟩ := r1
    cases ha : z.cps.all (· < 128)
    · exact PySem.wpAny_pyIter_wide ha (pi_one (tk := s1.toks) I1 _ (turn_str _ z t "str_iterator" (.inr rfl)) ⟨_, Heap.get?_push_size _ rfl, rfl, rfl⟩ q)
    · exact PySem.wpAny_pyIter_ascii ha (pi_one (tk := s1.toks) I1 _ (turn_str _ z t "str_ascii_iterator" (.inl rfl)) ⟨_, Heap.get?_push_size _ rfl, rfl, rfl⟩ q)
/-- the items of a datum -/
def signs (z : Str) : List D := z.cps.toList.map fun c => .str ⟨#[c]⟩
def itemsOf : D → Option (List D)
  | .tup xs => some xs
  | .lst xs => some xs
  | .str z => some (signs z)
  | .scr ns => some (ns.map D.int)
  | _ => none
def fItems (f : PX) : PAx := fun ρ q x => f ρ (fun d => ∃ ds, itemsOf d = some ds ∧ q ds) x
theorem feeds_lst {wl : Wd} {H : Hp} {a : Addr} {vs : List V} {ds : List D} (hk : Wk wl H) (n : wl.fr a) (s : H a = some (.lst vs)) (r : RpL K wl H ds vs) : Feeds K wl H (Itl K a) ds := by
  intro w1 i H1 e
  have s1 : H1 a = some (.lst vs) := e.keep _ _ n.1 n.2.2 s (fun _ z => nomatch z)
  have r1 := RpL.step hk e _ _ r
  refine ⟨fun hi => ?_, fun hi => ⟨vs, SqL.of s1, by rw [r.length]; exact Nat.le_of_eq hi.symm⟩, fun _ x H' ⟨eH, y⟩ => ?_⟩
  · have hv : i < vs.length := by rw [r.length]; exact hi
    exact ⟨vs, vs[i], SqL.of s1, List.getElem?_eq_getElem hv⟩
  · subst eH
    obtain ⟨d, hd, rd⟩ := r1.getV (y vs (SqL.of s1))
    exact ⟨.refl e.wk, d, hd, rd⟩
theorem feeds_tup {wl : Wd} {H : Hp} {a : Addr} {vs : List V} {ds : List D} (hk : Wk wl H) (s : SqT K H a vs) (r : RpL K wl H ds vs) : Feeds K wl H (Itt K a) ds := by
  intro w1 i H1 e
  have s1 := sqT_step s hk e
  have r1 := RpL.step hk e _ _ r
  refine ⟨fun hi => ?_, fun hi => ⟨vs, s1, by rw [r.length]; exact Nat.le_of_eq hi.symm⟩, fun _ x H' ⟨eH, y⟩ => ?_⟩
  · have hv : i < vs.length := by rw [r.length]; exact hi
    exact ⟨vs, vs[i], s1, List.getElem?_eq_getElem hv⟩
  · subst eH
    obtain ⟨d, hd, rd⟩ := r1.getV (y vs s1)
    exact ⟨.refl e.wk, d, hd, rd⟩
theorem feeds_scr {wl : Wd} {H : Hp} {a : Addr} {ns : List Int} (hk : Wk wl H) (s : ScrAt K H a ns) : Feeds K wl H (Itl K a) (ns.map D.int) := by
  intro w1 i H1 e
  have s1 := s.step hk e
  rw [List.length_map]
  refine ⟨fun hi => ⟨ns.map V.int, .int ns[i], s1.sq, ?_⟩, fun hi => ⟨ns.map V.int, s1.sq, by rw [List.length_map]; exact Nat.le_of_eq hi.symm⟩, fun hi x H' ⟨eH, y⟩ => ?_⟩
  · rw [List.getElem?_map, List.getElem?_eq_getElem hi]; rfl
  · subst eH
    have z := y _ s1.sq
    rw [List.getElem?_map, List.getElem?_eq_getElem hi] at z
    cases z
    refine ⟨.refl e.wk, .int ns[i], ?_, rfl⟩
    rw [List.getElem?_map, List.getElem?_eq_getElem hi]
    rfl
theorem feeds_str {wl : Wd} {H : Hp} {z : Str} : Feeds K wl H (Its z) (signs z) := by
  intro w1 i H1 e
  have hl : (signs z).length = z.cps.size := by unfold signs; rw [List.length_map, Array.length_toList]
  refine ⟨fun hi => by rw [hl] at hi; exact hi, fun hi => by rw [hl] at hi; exact Nat.le_of_eq hi.symm, fun _ x H' ⟨eH, c, hc, ex⟩ => ?_⟩
  subst eH
  subst ex
  refine ⟨.refl e.wk, .str ⟨#[c]⟩, ?_, rfl⟩
  unfold signs
  rw [List.getElem?_map, Array.getElem?_toList, hc]
  rfl
theorem di_seq {tg l : Expr} {f : PX} (h : PE X l (eE X W f)) : PI X tg l (eI X W (fItems f)) := by
  refine PI.weak (pi_seq h) fun σ H R ⟨wl, ρ, q, x, hk, he, hf, hq, hx⟩ => ?_
  refine ⟨wl, ρ, _, x, hk, he, hf, fun d v H1 e1 r1 hd => ?_, hx⟩
  obtain ⟨ds, hd, h1⟩ := hd
  cases d <;> try (simp [itemsOf] at hd; done)
  case tup xs =>
    cases hd
    obtain ⟨a, vs, rfl, s, r⟩ := r1
    exact .inr (.inl ⟨a, rfl, ⟨vs, s⟩, hq _ _ H1 e1 (feeds_tup e1.wk s r) h1⟩)
  case lst xs =>
    cases hd
    obtain ⟨a, vs, rfl, n, s, r⟩ := r1
    exact .inl ⟨a, rfl, ⟨vs, SqL.of s⟩, hq _ _ H1 e1 (feeds_lst e1.wk n s r) h1⟩
  case str z =>
    cases hd
    cases r1
    exact .inr (.inr ⟨z, rfl, hq _ _ H1 e1 feeds_str h1⟩)
  case scr ns =>
    cases hd
    obtain ⟨a, rfl, s⟩ := r1
    exact .inl ⟨a, rfl, ⟨_, s.sq⟩, hq _ _ H1 e1 (feeds_scr e1.wk s) h1⟩
/-- range(n), range(a, b) -/
def rng (lo : Int) (n : Nat) : List D := (List.range n).map fun (i : Nat) => D.int (lo + (i : Int))
theorem rng_length {lo : Int} {n : Nat} : (rng lo n).length = n := by unfold rng; rw [List.length_map, List.length_range]
theorem feeds_rng {wl : Wd} {H : Hp} {lo : Int} {n : Nat} : Feeds K wl H (Itr lo n) (rng lo n) := by
  intro w1 i H1 e
  refine ⟨fun hi => by rw [rng_length] at hi; exact hi, fun hi => by rw [rng_length] at hi; exact Nat.le_of_eq hi.symm, fun hi x H' ⟨eH, ex⟩ => ?_⟩
  subst eH
  subst ex
  rw [rng_length] at hi
  refine ⟨.refl e.wk, .int (lo + i), ?_, rfl⟩
  unfold rng
  rw [List.getElem?_map, List.getElem?_range hi]
  rfl
def fRng1 (f : PAx) : PAx := fun ρ q x => f ρ (fun ds => ∃ j : Int, ds = [.int j] ∧ -(2 ^ 62) ≤ j ∧ j < 2 ^ 62 ∧ q (rng 0 j.toNat)) x
def fRng2 (f : PAx) : PAx := fun ρ q x => f ρ (fun ds => ∃ i j : Int, ds = [.int i, .int j] ∧ (-(2 ^ 62) ≤ i ∧ i < 2 ^ 62 ∧ -(2 ^ 62) ≤ j ∧ j < 2 ^ 62) ∧ q (rng i (j - i).toNat)) x
theorem di_rng1 {tg a : Expr} {f : PAx} {p pos : Pos} (hg : Gl X "range") (hm : X.mg "range" = none) (ha : PA X [a] (eA X W f)) (hs : starEach [a] X.env = [(false, eval a X.env)] := by rfl) : PI X tg (.Call (.Name "range" p) [a] [] pos) (eI X W (fRng1 f)) := by
  refine PI.weak (pi_range1 hg hm ha hs) fun σ H R ⟨wl, ρ, q, x, hk, he, hf, hq, hx⟩ => ?_
  refine ⟨wl, ρ, _, x, hk, he, hf, fun ds vs H1 e1 r1 ⟨j, ed, h1, h2, h3⟩ => ?_, hx⟩
  subst ed
  obtain ⟨v, t, rfl, rv, rt⟩ := r1
  cases rv; cases rt
  exact ⟨j, rfl, h1, h2, hq _ _ H1 e1 feeds_rng h3⟩
theorem di_rng2 {tg a b : Expr} {f : PAx} {p pos : Pos} (hg : Gl X "range") (hm : X.mg "range" = none) (ha : PA X [a, b] (eA X W f)) (hs : starEach [a, b] X.env = [(false, eval a X.env), (false, eval b X.env)] := by rfl) (hs2 : starEach [b] X.env = [(false, eval b X.env)] := by rfl) : PI X tg (.Call (.Name "range" p) [a, b] [] pos) (eI X W (fRng2 f)) := by
  refine PI.weak (pi_range2 hg hm ha hs hs2) fun σ H R ⟨wl, ρ, q, x, hk, he, hf, hq, hx⟩ => ?_
  refine ⟨wl, ρ, _, x, hk, he, hf, fun ds vs H1 e1 r1 ⟨i, j, ed, h1, h3⟩ => ?_, hx⟩
  subst ed
  obtain ⟨v, t, rfl, rv, v2, t2, rfl, rv2, rt⟩ := r1
  cases rv; cases rv2; cases rt
  exact ⟨i, j, rfl, h1, hq _ _ H1 e1 feeds_rng h3⟩
/-- zip of two lists, of two tuples; the target is written as a tuple -/
def pairs (xs ys : List D) : List D := (xs.zip ys).map fun p => .tup [p.1, p.2]
theorem pairs_length {xs ys : List D} : (pairs xs ys).length = min xs.length ys.length := by unfold pairs; rw [List.length_map, List.length_zip]
theorem pairs_get {xs ys : List D} {i : Nat} {a b : D} (h : xs[i]? = some a) (h2 : ys[i]? = some b) : (pairs xs ys)[i]? = some (.tup [a, b]) := by
  unfold pairs
  have e : (xs.zip ys)[i]? = some (a, b) := List.getElem?_zip_eq_some.mpr ⟨h, h2⟩
  rw [List.getElem?_map, e]
  rfl
theorem feeds_zipL {wl : Wd} {H : Hp} {a b : Addr} {vs us : List V} {xs ys : List D} (hk : Wk wl H) (n : wl.fr a) (n2 : wl.fr b) (s : H a = some (.lst vs)) (s2 : H b = some (.lst us)) (r : RpL K wl H xs vs) (r2 : RpL K wl H ys us) : Feeds K wl H (Itz K a b) (pairs xs ys) := by
  intro w1 i H1 e
  have s' : H1 a = some (.lst vs) := e.keep _ _ n.1 n.2.2 s (fun _ z => nomatch z)
  have s2' : H1 b = some (.lst us) := e.keep _ _ n2.1 n2.2.2 s2 (fun _ z => nomatch z)
  have r' := RpL.step hk e _ _ r
  have r2' := RpL.step hk e _ _ r2
  have l1 := r.length
  have l2 := r2.length
  rw [pairs_length]
  refine ⟨fun hi => ?_, fun hi => ⟨vs, us, SqL.of s', SqL.of s2', by omega⟩, fun hi x H' y => ?_⟩
  · have h1 : i < vs.length := by omega
    have h2 : i < us.length := by omega
    exact ⟨vs, us, vs[i], us[i], SqL.of s', SqL.of s2', List.getElem?_eq_getElem h1, List.getElem?_eq_getElem h2⟩
  · obtain ⟨T, x1, x2, ex, nT, eH, f1, f2⟩ := y
    subst ex
    subst eH
    obtain ⟨d1, hd1, q1⟩ := r'.getV (f1 vs (SqL.of s'))
    obtain ⟨d2, hd2, q2⟩ := r2'.getV (f2 us (SqL.of s2'))
    refine ⟨Ext.new e.wk nT, .tup [d1, d2], pairs_get hd1 hd2, T, [x1, x2], rfl, SqT.of upd_same, ?_⟩
    exact RpL.grow nT [d1, d2] [x1, x2] ⟨x1, [x2], rfl, q1, x2, [], rfl, q2, rfl⟩
theorem feeds_zipT {wl : Wd} {H : Hp} {a b : Addr} {vs us : List V} {xs ys : List D} (hk : Wk wl H) (s : SqT K H a vs) (s2 : SqT K H b us) (r : RpL K wl H xs vs) (r2 : RpL K wl H ys us) : Feeds K wl H (RZ.ItzT K a b) (pairs xs ys) := by
  intro w1 i H1 e
  have s' := sqT_step s hk e
  have s2' := sqT_step s2 hk e
  have r' := RpL.step hk e _ _ r
  have r2' := RpL.step hk e _ _ r2
  have l1 := r.length
  have l2 := r2.length
  rw [pairs_length]
  refine ⟨fun hi => ?_, fun hi => ⟨vs, us, s', s2', by omega⟩, fun hi x H' y => ?_⟩
  · have h1 : i < vs.length := by omega
    have h2 : i < us.length := by omega
    exact ⟨vs, us, vs[i], us[i], s', s2', List.getElem?_eq_getElem h1, List.getElem?_eq_getElem h2⟩
  · obtain ⟨T, x1, x2, ex, nT, eH, f1, f2⟩ := y
    subst ex
    subst eH
    obtain ⟨d1, hd1, q1⟩ := r'.getV (f1 vs s')
    obtain ⟨d2, hd2, q2⟩ := r2'.getV (f2 us s2')
    refine ⟨Ext.new e.wk nT, .tup [d1, d2], pairs_get hd1 hd2, T, [x1, x2], rfl, SqT.of upd_same, ?_⟩
    exact RpL.grow nT [d1, d2] [x1, x2] ⟨x1, [x2], rfl, q1, x2, [], rfl, q2, rfl⟩
def fZip (f : PAx) : PAx := fun ρ q x => f ρ (fun ds => ∃ xs ys, (ds = [.tup xs, .tup ys] ∨ ds = [.lst xs, .lst ys]) ∧ q (pairs xs ys)) x
theorem di_zip {e e2 : Expr} {f : PAx} {p pos tpos : Pos} {elts : List Expr} {kk : Nat} (hg : Gl X "zip") (hm : X.mg "zip" = none) (ha : PA X [e, e2] (eA X W f)) (hs : starEach [e, e2] X.env = (false, eval e X.env) :: starEach [e2] X.env := by rfl)
    (hpl : (backTo pos (starEach [e2] X.env)).any (·.1) = false := by rfl) : PI X (.Tuple elts kk tpos) (.Call (.Name "zip" p) [e, e2] [] pos) (eI X W (fZip f)) := by
  refine PI.weak (RZ.pi_zipA hg hm ha hs hpl) fun σ H R ⟨wl, ρ, q, x, hk, he, hf, hq, hx⟩ => ?_
  refine ⟨wl, ρ, _, x, hk, he, hf, fun ds vs H1 e1 r1 ⟨xs, ys, hd, h1⟩ => ?_, hx⟩
  rcases hd with rfl | rfl
  · obtain ⟨v, t, rfl, ⟨a, us, rfl, s, r⟩, v2, t2, rfl, ⟨b, us2, rfl, s2, r2⟩, rt⟩ := r1
    cases rt
    exact ⟨a, b, us, us2, rfl, .inr ⟨s, s2, hq _ _ H1 e1 (feeds_zipT e1.wk s s2 r r2) h1⟩⟩
  · obtain ⟨v, t, rfl, ⟨a, us, rfl, n, s, r⟩, v2, t2, rfl, ⟨b, us2, rfl, n2, s2, r2⟩, rt⟩ := r1
    cases rt
    exact ⟨a, b, us, us2, rfl, .inl ⟨SqL.of s, SqL.of s2, hq _ _ H1 e1 (feeds_zipL e1.wk n n2 s s2 r r2) h1⟩⟩

/-! # for -/
def fLoop (t : Tg) (b : PSt) (P : Pn) : List D → Ev → Prop
  | [], ρ => P.nx ρ
  | d :: ds, ρ => tgE t d ρ fun ρ' => b { P with nx := fLoop t b P ds, ct := fLoop t b P ds, bk := P.nx } ρ'
def sFor (f : PAx) (t : Tg) (b : PSt) : PSt := fun P ρ => f ρ (fun ds => fLoop t b P ds ρ) (P.ex ρ)
theorem ds_for {tg iter : Expr} {body : List Stmt} {f : PAx} {t : Tg} {b : PSt} {pos : Pos} (hp : PassesOwn (model X.prog X.w) X.A X.env X.xe) (hc : X.calm = true) (hi : PI X tg iter (eI X W f)) (hg : PG X tg (tgV X.K t)) (hb : PSs X body (eS X W b))
    (hs : ∀ x, foldedSetIterable iter X.env x = pure x := by intro _; rfl) : PS X (.For tg iter body [] pos) (eS X W (sFor f t b)) := by
  refine PS.weak (ps_for hp hc hi hg hb hs) fun En σ H ⟨wl, ρ, P, hk, he, h, r⟩ => ?_
  refine ⟨wl, ρ, _, P.ex ρ, hk, he, h, fun ds J H1 e1 F h1 => ?_, r.out hk he⟩
  refine ⟨fun i m σ' H' => m = ds.length - i ∧ i ≤ ds.length ∧ ∃ wl', Step wl H1 wl' H' ∧ ∃ ρ', EvR X.K wl' H' ρ' σ' ∧ fLoop t b P (ds.drop i) ρ', ⟨_, rfl, Nat.zero_le _, wl, (Ext.refl e1.wk).step, ρ, he.ext hk e1, h1⟩, fun i m σ2 H2 hw => ?_⟩
  obtain ⟨em, hi2, w2, e2, ρ2, he2, h2⟩ := hw
  obtain ⟨F1, F2, F3⟩ := F w2 i H2 e2
  by_cases hlt : i < ds.length
  · refine .inr ⟨F1 hlt, fun σ3 H3 => ∃ wl', Step wl H1 wl' H3 ∧ ∃ ρ3, EvR X.K wl' H3 ρ3 σ3 ∧ fLoop t b P (ds.drop (i + 1)) ρ3, fun σ3 H3 ⟨w3, e3, ρ3, he3, h3⟩ => ⟨ds.length - (i + 1), by omega, rfl, hlt, w3, e3, ρ3, he3, h3⟩, fun x H3 hy => ?_⟩
    obtain ⟨e3, d, hd, rd⟩ := F3 hlt x H3 hy
    rw [List.drop_eq_getElem_cons hlt] at h2
    obtain rfl : ds[i] = d := by rw [List.getElem?_eq_getElem hlt] at hd; exact Option.some.inj hd
    refine tgV_mono t x σ2 H3 _ _ (fun σ4 H4 ⟨eH, _, ρ4, he4, h4⟩ => ?_) (tg_ok (own := slots t) t ds[i] x ρ2 σ2 H3 _ (fun _ z => z) e3.wk (he2.ext e2.wk e3) rd h2)
    have e13 := e2.trans (e3.trans eH).step
    have r1 := r.step (e1.step.trans e13)
    refine ⟨w2, ρ4, _, e13.wk, he4, h4, ⟨r1.T, fun w5 ρ5 σ5 H5 e5 r5 h5 => ⟨w5, e13.trans e5, ρ5, r5, h5⟩, fun w5 d v H5 e5 => r1.rt w5 d v H5 e5, fun w5 ρ5 σ5 H5 e5 => r1.nx w5 ρ5 σ5 H5 e5, fun w5 ρ5 σ5 H5 e5 r5 h5 => ⟨w5, e13.trans e5, ρ5, r5, h5⟩, fun w5 ρ5 σ5 H5 en c dd e5 => r1.ex w5 ρ5 σ5 H5 en c dd e5⟩⟩
  · have ei : i = ds.length := by omega
    subst ei
    rw [List.drop_length] at h2
    exact .inl ⟨F2 rfl, r.nx w2 ρ2 σ2 H2 (e1.step.trans e2) he2 h2⟩

/-! # while -/
def sWhile (c : PB) (b : PSt) : PSt := fun P ρ => ∃ I : Nat → Ev → Prop, (∃ m, I m ρ) ∧ ∀ m ρ, I m ρ → c ρ (fun t => (t = true → b { P with nx := fun ρ' => ∃ m', m' < m ∧ I m' ρ', ct := fun ρ' => ∃ m', m' < m ∧ I m' ρ', bk := P.nx } ρ) ∧ (t = false → P.nx ρ)) (P.ex ρ)
theorem ds_while {c : Expr} {body : List Stmt} {t : PB} {b : PSt} {pos : Pos} (hp : PassesOwn (model X.prog X.w) X.A X.env X.xe) (hc : PT X c (eB X W t)) (hb : PSs X body (eS X W b)) : PS X (.While c body [] pos) (eS X W (sWhile t b)) := by
  refine PS.weak (ps_while hp hc hb) fun En σ H ⟨wl, ρ, P, hk, he, ⟨I, ⟨m0, i0⟩, turn⟩, r⟩ => ?_
  refine ⟨fun m σ' H' => ∃ wl', Step wl H wl' H' ∧ ∃ ρ', EvR X.K wl' H' ρ' σ' ∧ I m ρ', ⟨m0, wl, (Ext.refl hk).step, ρ, he, i0⟩, fun m σ1 H1 ⟨w1, e1, ρ1, he1, i1⟩ => ?_⟩
  refine ⟨w1, ρ1, _, P.ex ρ1, e1.wk, he1, turn m ρ1 i1, fun tt H2 e2 h2 => ?_, (r.step e1).out e1.wk he1⟩
  have e12 := e1.trans e2.step
  have r1 := r.step e12
  cases tt with
  | true =>
    refine iteT ⟨fun σ' H' => ∃ m', m' < m ∧ ∃ wl', Step wl H wl' H' ∧ ∃ ρ', EvR X.K wl' H' ρ' σ' ∧ I m' ρ', fun σ' H' z => z, ?_⟩
    refine ⟨w1, ρ1, _, e2.wk, he1.ext e1.wk e2, h2.1 rfl, ⟨r1.T, fun w5 ρ5 σ5 H5 e5 r5 ⟨m', hm, h5⟩ => ⟨m', hm, w5, e12.trans e5, ρ5, r5, h5⟩, fun w5 d v H5 e5 => r1.rt w5 d v H5 e5, fun w5 ρ5 σ5 H5 e5 => r1.nx w5 ρ5 σ5 H5 e5, fun w5 ρ5 σ5 H5 e5 r5 ⟨m', hm, h5⟩ => ⟨m', hm, w5, e12.trans e5, ρ5, r5, h5⟩, fun w5 ρ5 σ5 H5 en c dd e5 => r1.ex w5 ρ5 σ5 H5 en c dd e5⟩⟩
  | false => exact iteF (r.nx w1 ρ1 σ1 H2 e12 (he1.ext e1.wk e2) (h2.2 rfl))

/-! # list comprehensions -/
def tYes' : PB := fun _ q _ => q true
def fLcLoop (t : Tg) (c : PB) (f : PX) (own : List Nat) (ρ : Ev) (q : D → Prop) : List D → List D → Prop
  | [], acc => q (.lst acc)
  | d :: ds, acc => tgE t d (wipeE ρ own) fun ρ2 => c ρ2 (fun b => (b = true → f ρ2 (fun y => acc.length < LIM ∧ fLcLoop t c f own ρ q ds (acc ++ [y])) fun _ => False) ∧ (b = false → fLcLoop t c f own ρ q ds acc)) fun _ => False
def fLc (fi : PAx) (t : Tg) (c : PB) (f : PX) (own : List Nat) : PX := fun ρ q x => fi ρ (fun ds => fLcLoop t c f own ρ q ds []) x
/-- where nothing is let out -/
def W0 (T : List (Addr × Str)) : WY := ⟨fun _ _ _ _ => False, T⟩
theorem out0 {T : List (Addr × Str)} {wl : Wd} {H : Hp} {σ : St} (h : wl.tabs = T) : Out X (W0 T) wl H σ fun _ => False := ⟨h, fun _ _ _ _ _ _ h => h⟩
theorem wipe_wipe {σ : St} {own : List Nat} : ∀ us : List Nat, (∀ i ∈ us, i ∈ own) → wipe (wipe σ us) own = wipe σ own
  | [], _ => rfl
  | v :: us, h => by
    show wipe ((wipe σ us).set v none) own = wipe σ own
    rw [wipe_set (h v (List.mem_cons_self ..)), wipe_wipe us fun i hi => h i (List.mem_cons_of_mem _ hi)]
theorem lc_weak {fi : PAx} {t : Tg} {c : PB} {f : PX} {own : List Nat} (hsl : ∀ i ∈ slots t, i ∈ own) {σ : St} {H : Hp} {Q : VK} (h : eE X W (fLc fi t c f own) σ H Q) : tLc (eI X W fi) (tgV X.K t) (eB X (W0 W.T) c) (eE X (W0 W.T) f) own σ H Q := by
  obtain ⟨wl, ρ, q, x, hk, he, hfi, hq, hx⟩ := h
  refine ⟨wl, ρ, _, x, hk, he, hfi, fun ds J H1 e1 F h1 Dl hD => ?_, hx⟩
  have fD : wl.fr Dl := e1.wk.new hD
  have hex : ∀ a, a ∈ [Dl] → H1 a = none := fun a ha => by
    have e : a = Dl := by simpa using ha
    rw [e]; exact hD
  have mD : (wl.hide [Dl]).hid Dl := .inl (List.mem_cons_self ..)
  -- where Dl holds a list, what stands apart stands
  have wkD : ∀ {H' : Hp} {vs : List V}, Wk wl H' → H' Dl = some (.lst vs) → Wk (wl.hide [Dl]) H' := fun {H' vs} k hv => ⟨k.well, fun a ha => by
    rcases ha with z | z
    · have e : a = Dl := by simpa using z
      rw [e]; exact ⟨_, hv, True.intro⟩
    · exact k.hid a z, k.ow, k.tabs⟩
  have un : ∀ {Ha Hb : Hp}, Ext (wl.hide [Dl]) Ha Hb → Ext wl Ha Hb := fun {Ha Hb} e => ⟨e.keep, e.wk.well, fun a ha => e.wk.hid a (.inr ha), e.wk.ow, e.wk.tabs⟩
  have st : ∀ {H' : Hp} {vs : List V}, Ext wl H1 H' → H' Dl = some (.lst vs) → Step wl H1 (wl.hide [Dl]) H' := fun {H' vs} e hv => ⟨rfl, rfl, fun a o n _ z t => e.keep a o n z t, fun a z => .inr z, fun a z => by
    rcases z with z | z
    · exact .inr (.inr (Fresh.of (hex a z)))
    · exact .inl z, fun a z => .inl z, wkD e.wk hv⟩
  refine ⟨fun i m H' => m = ds.length - i ∧ i ≤ ds.length ∧ Ext wl H1 H' ∧ ∃ acc vs, H' Dl = some (.lst vs) ∧ RpL X.K (wl.hide [Dl]) H' acc vs ∧ fLcLoop t c f own ρ q (ds.drop i) acc, ⟨_, rfl, Nat.zero_le _, Ext.new e1.wk hD, [], [], upd_same, rfl, h1⟩, fun i m H2 hw => ?_⟩
  obtain ⟨em, hi2, e2, acc, vs, hv2, ra, h2⟩ := hw
  obtain ⟨F1, F2, F3⟩ := F (wl.hide [Dl]) i H2 (st e2 hv2)
  by_cases hlt : i < ds.length
  · refine .inr ⟨F1 hlt, fun H3 => Ext wl H1 H3 ∧ ∃ acc vs, H3 Dl = some (.lst vs) ∧ RpL X.K (wl.hide [Dl]) H3 acc vs ∧ fLcLoop t c f own ρ q (ds.drop (i + 1)) acc, fun H3 ⟨e3, acc3, vs3, a3, b3, c3⟩ => ⟨ds.length - (i + 1), by omega, rfl, hlt, e3, acc3, vs3, a3, b3, c3⟩, fun x3 H3 hy => ?_⟩
    obtain ⟨e3', d, hd, rd⟩ := F3 hlt x3 H3 hy
    have e3 := un e3'
    rw [List.drop_eq_getElem_cons hlt] at h2
    obtain rfl : ds[i] = d := by rw [List.getElem?_eq_getElem hlt] at hd; exact Option.some.inj hd
    have hv3 : H3 Dl = some (.lst vs) := e3.keep _ _ fD.1 hv2 (fun _ z => nomatch z)
    have k3 := wkD e3.wk hv3
    have he3 := ((he.ext hk e1).into e1.wk hex (e2.trans e3)).wiped own
    have ra3 := RpL.ext (wkD e2.wk hv2) e3' _ _ ra
    refine tgV_mono t x3 (wipe σ own) H3 _ _ (fun σ4 H4 ⟨eH, ew, ρ4, he4, h4⟩ => ?_) (tg_ok (own := own) t ds[i] x3 (wipeE ρ own) (wipe σ own) H3 _ hsl k3 he3 rd h2)
    refine ⟨ew.trans (wipe_wipe own fun _ z => z), wl.hide [Dl], ρ4, _, _, eH.wk, he4, h4, fun b H5 e45 h5 => ?_, out0 hx.1⟩
    have e5 := eH.trans e45
    have e35 : Ext wl H3 H5 := un e5
    have hv5 : H5 Dl = some (.lst vs) := e5.keep _ _ fD.1 hv3 (fun _ z => nomatch z)
    have ra5 := RpL.ext k3 e5 _ _ ra3
    cases b with
    | true =>
      refine iteT ⟨wl.hide [Dl], ρ4, _, _, e5.wk, he4.ext eH.wk e45, h5.1 rfl, fun y vy H6 e6 r6 ⟨hl, h6⟩ => ?_, out0 hx.1⟩
      have hv6 : H6 Dl = some (.lst vs) := e6.keep _ _ fD.1 hv5 (fun _ z => nomatch z)
      have ra6 := RpL.ext e5.wk e6 _ _ ra5
      refine ⟨vs, hv6, lim_lt (by rw [ra6.length]; exact Nat.le_of_lt hl), ?_, acc ++ [y], vs ++ [vy], upd_same, RpL.write (fun z => z.2.1 mD) hv6 True.intro _ _ (ra6.append (RpL.one r6)), h6⟩
      have e16 : Ext wl H1 H6 := (e2.trans e3).trans (e35.trans (un e6))
      have n1 : ∀ a o, H1 a = some o → a ≠ Dl := fun a o e z => by rw [z, hD] at e; cases e
      refine ⟨fun a o w' e t => ?_, e16.wk.write hv6 True.intro True.intro fun z => (fD.1 z).elim⟩
      · rw [upd_ne (n1 a o e)]
        exact e16.keep a o w' e t
    | false => exact iteF ⟨(e2.trans e3).trans e35, acc, vs, hv5, ra5, h5.2 rfl⟩
  · have ei : i = ds.length := by omega
    subst ei
    rw [List.drop_length] at h2
    exact .inl ⟨F2 rfl, hq (.lst acc) (.ref Dl) H2 (e1.trans e2) ⟨Dl, vs, rfl, fD, hv2, RpL.out _ _ ra⟩ h2⟩
theorem d_lc {elt tg iter : Expr} {ifs : List Expr} {scope : Scope} {own : List (Str × Nat)} {pos : Pos} {fi : PAx} {t : Tg} {c : PB} {f : PX} (hc : X.calm = true) (hN : X.N.Nodup) (hi : PI X tg iter (eI X W fi)) (ok : BlkOk X.N X.env.scope scope own)
    (hg : ∀ (s : Shared) (H : Hp) (C : Addr) (cl : List (Str × Addr)) (fp : List Addr), PG (X.blk s H scope (compEnvC scope cl C X.env) fp) tg (tgV (X.blk s H scope (compEnvC scope cl C X.env) fp).K t))
    (ht : ∀ (s : Shared) (H : Hp) (C : Addr) (cl : List (Str × Addr)) (fp : List Addr), PTs (X.blk s H scope (compEnvC scope cl C X.env) fp) ifs (eB (X.blk s H scope (compEnvC scope cl C X.env) fp) (W0 W.T) c))
    (he : ∀ (s : Shared) (H : Hp) (C : Addr) (cl : List (Str × Addr)) (fp : List Addr), PE (X.blk s H scope (compEnvC scope cl C X.env) fp) elt (eE (X.blk s H scope (compEnvC scope cl C X.env) fp) (W0 W.T) f)) (hsl : ∀ i ∈ slots t, i ∈ own.map (·.2) := by decide)
    (hs : ∀ x, foldedSetIterable iter X.env x = pure x := by intro _; rfl) : PE X (.ListComp elt [⟨tg, iter, ifs, 0⟩] scope pos) (eE X W (fLc fi t c f (own.map (·.2)))) :=
  PE.weak (pe_lc (g := tgV X.K t) (tt := eB X (W0 W.T) c) (te := eE X (W0 W.T) f) hc hN hi ok hg ht he hs) fun _ _ _ h => lc_weak hsl h
theorem ds_setLc {i : Nat} {y : Str} {py : Pos} {elt tg iter : Expr} {ifs : List Expr} {scope : Scope} {own : List (Str × Nat)} {pos spos : Pos} {fi : PAx} {t : Tg} {c : PB} {f : PX} (hc : X.calm = true) (hN : X.N.Nodup) (hy : X.N[i]? = some y) (hyl : X.env.scope.names.lookup y = some .local)
    (hsw : swapsWith (.ListComp elt [⟨tg, iter, ifs, 0⟩] scope pos) (some (.Name y py)) spos.line X.env = pure true) (hi : PI X tg iter (eI X W fi)) (ok : BlkOk X.N X.env.scope scope own)
    (hg : ∀ (s : Shared) (H : Hp) (C : Addr) (cl : List (Str × Addr)) (fp : List Addr), PG (X.blk s H scope (compEnvC scope cl C X.env) fp) tg (tgV (X.blk s H scope (compEnvC scope cl C X.env) fp).K t))
    (ht : ∀ (s : Shared) (H : Hp) (C : Addr) (cl : List (Str × Addr)) (fp : List Addr), PTs (X.blk s H scope (compEnvC scope cl C X.env) fp) ifs (eB (X.blk s H scope (compEnvC scope cl C X.env) fp) (W0 W.T) c))
    (he : ∀ (s : Shared) (H : Hp) (C : Addr) (cl : List (Str × Addr)) (fp : List Addr), PE (X.blk s H scope (compEnvC scope cl C X.env) fp) elt (eE (X.blk s H scope (compEnvC scope cl C X.env) fp) (W0 W.T) f)) (hsl : ∀ i ∈ slots t, i ∈ own.map (·.2) := by decide)
    (hs : ∀ x, foldedSetIterable iter X.env x = pure x := by intro _; rfl) : PS X (.Assign [.Name y py] (.ListComp elt [⟨tg, iter, ifs, 0⟩] scope pos) spos) (eS X W (sSet i (fLc fi t c f (own.map (·.2))))) := by
  refine PS.weak (ps_setLc (g := tgV X.K t) (tt := eB X (W0 W.T) c) (te := eE X (W0 W.T) f) hc hN hy hyl hsw hi ok hg ht he hs) fun En σ H ⟨wl, ρ, P, hk, he', h, r⟩ => ?_
  exact lc_weak hsl ⟨wl, ρ, _, P.ex ρ, hk, he', h, fun d v H1 e1 r1 h1 => r.nx wl _ _ H1 e1.step ((he'.ext hk e1).set r1 i) h1, r.out hk he'⟩
theorem dts_nil : PTs X [] (eB X W tYes') := ⟨fun pins s σ H Q I ⟨wl, ρ, q, x, hk, he, hf, hq, hx⟩ => pts_nil.run pins s σ H Q I (hq true H (.refl hk) hf)⟩
theorem dts_one {c : Expr} {t : PB} (h : PT X c (eB X W t)) : PTs X [c] (eB X W t) := pts_one h
end
end PL

namespace PL
open PySem PySem.Spec L2
open PyProof.Rows (envOfC)

/-! # defs: a promise that knows that no repr is under way -/
structure FnOkG (P : Program) (w : World) (K : PySem.W.Frag) (mg : Str → Option Value) (base : Heap) (CX : CXT) (k : Nat) (f : Addr) (fd : FuncData) (ps : List Str) (sp : Sp) : Prop where
  len : ∀ vs H Q E, sp vs H Q E → vs.length = ps.length
  go : ∀ (A : Around) (outer : List Env) (s : Shared) (H : Hp) (args : Args) (us : List Value) (vs : List V) (Q : VK) (E : XK), A.guards = some [] → Room k A → Env0 P w K mg base A outer s H → BindsTo s fd args (ps.zip us) → Vals vs us → sp vs H Q E →
    codeAny (model P w) A (.call (.ref f) args) (CR CX outer P w H s Q E) s
section
variable {P : Program} {w : World} {K : PySem.W.Frag} {mg : Str → Option Value} {base : Heap} {CX : CXT} {k : Nat} {f : Addr} {fd : FuncData} {ps : List Str} {sp sp' : Sp}
theorem FnOkG.up {j : Nat} (F : FnOkG P w K mg base CX j f fd ps sp) (h : j ≤ k) : FnOkG P w K mg base CX k f fd ps sp := ⟨F.len, fun A o s H a us vs Q E hg hr => F.go A o s H a us vs Q E hg (hr.mono h)⟩
theorem FnOkG.weak (F : FnOkG P w K mg base CX k f fd ps sp) (h : ∀ vs H Q E, sp' vs H Q E → sp vs H Q E) : FnOkG P w K mg base CX k f fd ps sp' :=
  ⟨fun vs H Q E q => F.len vs H Q E (h _ _ _ _ q), fun A o s H a us vs Q E hg hr he hb hv hs => F.go A o s H a us vs Q E hg hr he hb hv (h _ _ _ _ hs)⟩
/-- a def of the text by its body -/
theorem fn_ofG {name qual : Str} {params : Arguments} {body : List Stmt} {scope : Scope} {dV kV doc pm cdv ct oc : Value} {an od : Option Addr} {osl : Array (Option Value)} {N : List Str}
    (lk : K.lookup f = some ⟨oc, od, .func (PySem.W.fnOf name qual params body scope dV kV doc pm an cdv ct), osl⟩) (hcd : PySem.W.codeIn K cdv qual = true) (S : FnScope N ps scope) (len : ∀ vs H Q E, sp vs H Q E → vs.length = ps.length)
    (hbody : ∀ (A : Around) (outer : List Env) (s : Shared) (H : Hp) (vs : List V) (Q : VK) (E : XK), A.guards = some [] → Room k (A.deeper (envOfC qual scope s.heap.objs.size f cdv)) → sp vs H Q E →
      ∃ t, PSs (cxOf CX P w K mg base N qual scope f cdv A outer s H E) body t ∧ t { nx := fun _ H' => Q .non H', rt := Q } (L2.start N vs) H) :
    FnOkG P w K mg base CX (k + 1) f (PySem.W.fnOf name qual params body scope dV kV doc pm an cdv ct) ps sp where
  len := len
  go A outer s H args us vs Q E hgd room env0 bnd rel hsp := by
    have lenV := len vs H Q E hsp
    have atS : ∀ b o, base.get? b = some o → s.heap.get? b = some o := fun b o e => (env0.bs b o e).1
    have inS : K.In s.heap := env0.mod.kin.keeps atS
    have nolim : s.heap.NoLimit := env0.mod.nolimit.keeps atS
    have kinds : ∀ y ∈ ps.zip us, scope.names.lookup y.1 = some .local ∨ (scope.names.lookup y.1 = some .cell ∧ ((cellsFrom (s.heap.objs.size + 1) scope.names []).lookup y.1).isSome = true) := by
      rintro ⟨nm, u⟩ hy
      cases S.par nm (List.of_mem_zip hy).1 with
      | inl q => exact .inl q
      | inr q => exact .inr ⟨q, PySem.W.cellsFrom_some _ _ _ (.inl q)⟩
    refine codeAny_call_function room.depth (inS _ _ lk) rfl S.co S.gen rfl (PySem.W.codeRec_of inS hcd) (bnd _ _ _ _ ?_)
    refine wpAny_newFunctionEnv_cells S.kind kinds fun env he s1 ic => ?_
    subst he
    refine ⟨nolim.keeps ic.toInCall.keep, codeAny_func ?_⟩
    obtain ⟨t, ht, hq⟩ := hbody A outer s H vs Q E hgd (room.deeper _) hsp
    have J : Inv (cxOf CX P w K mg base N qual scope f cdv A outer s H E) [] (L2.start N vs) H s1 := inv_start S room.hd env0 lenV rel ic
    refine wpAny_mono (ht.run [] s1 (L2.start N vs) H _ J hq) (fun fl s2 hs => ?_) fun _ _ hs => hs
    match fl, hs with
    | .ret u, ⟨v, _, H2, J2, rv, q⟩ => exact ⟨v, H2, J2.os, J2.bare, J2.base, J2.hok, rv, q⟩
    | .next, ⟨_, H2, J2, q⟩ => exact ⟨V.non, H2, J2.os, J2.bare, J2.base, J2.hok, rfl, q⟩
    | .brk, ⟨_, _, _, q⟩ => exact q.elim
    | .cont, ⟨_, _, _, q⟩ => exact q.elim
end

/-! ### the call of one, at the hand layer's level -/
section
variable {X : Cx} {W : WX} {k : Nat} {f : Addr} {fd : FuncData} {ps : List Str} {sp : Sp} {pins : List (Addr × Obj)} {σ : St} {H : Hp} {s : Shared} {Q : VK}
theorem run_G {us ws : List Value} {ks : List Str} {vs : List V} {as : List Value} (F : FnOkG X.prog X.w X.K X.mg X.base (L2.CX X.prog X.w) k f fd ps sp) (hgd : X.A.guards = some []) (hr : Room k X.A) (tk : Takes X W) (I : Inv X pins σ H s)
    (hb : BindsTo s fd ⟨us, ks.zip ws⟩ (ps.zip as)) (r : Vals vs as) (h : sp vs H Q fun c d H' => W c d σ H') : wpAny (model X.prog X.w) X.A (call (.ref f) us (ks.zip ws)) (EP X pins σ Q) X.xe s := by
  refine wpAny_call (codeAny_mono (F.go X.A X.stack s H ⟨us, ks.zip ws⟩ as vs Q _ hgd hr I.env0 hb r h) fun res s2 hres => ?_)
  match res, hres with
  | .error e, hx => exact tk e s2 (XE.of_call I (fun _ _ _ z => z) hx)
  | .ok (.ret u), hx => exact I.after hx
  | .ok .next, hx => exact hx.elim
  | .ok .brk, hx => exact hx.elim
  | .ok .cont, hx => exact hx.elim
/-- where a def of the top stands -/
def DefAt (K : PySem.W.Frag) (mg : Str → Option Value) (name : Str) (st : Stmt) (ps : List Str) (f : Addr) (fd : FuncData) : Prop := Fun K name name st f fd ∧ mg name = some (.ref f) ∧ Binds K fd ps []
/-- a def with its promise -/
def FnQ (P : Program) (w : World) (K : PySem.W.Frag) (mg : Str → Option Value) (base : Heap) (k : Nat) (name : Str) (st : Stmt) (ps : List Str) (sp : Sp) : Prop := ∃ f fd, DefAt K mg name st ps f fd ∧ FnOkG P w K mg base (L2.CX P w) k f fd ps sp
def tCallG (W : WX) (sp : Sp) (t : TA) : TE := fun σ H Q => t σ H fun vs H1 => sp vs H1 Q fun c d H' => W c d σ H'
theorem pe_callG {x : Str} {st : Stmt} {e : Expr} {es : List Expr} {t : TA} {p pos : Pos} (F : FnQ X.prog X.w X.K X.mg X.base k x st ps sp) (hgd : X.A.guards = some []) (hr : Room k X.A) (tk : Takes X W) (hg : Gl X x) (ha : PA X (e :: es) t) (hdb : (x == ("__debug__" : Str)) = false := by decide)
    (he : starEach (e :: es) X.env = (false, eval e X.env) :: starEach es X.env := by rfl) (hpl : (backTo pos (starEach es X.env)).any (·.1) = false := by rfl) : PE X (.Call (.Name x p) (e :: es) [] pos) (tCallG W sp t) := by
  obtain ⟨f, fd, ⟨FF, hm, hb⟩, F⟩ := F
  refine ⟨fun pins s σ H Q I h => wpAny_Call_Name_kw (ld_glob I hg hm ?_ hdb)⟩
  refine PySem.W.callWith_K (h₀ := X.base) I.ok.mod.kin FF.kp (thn (ha.run pos pins s σ H _ I h) fun us s1 ⟨vs, H1, I1, r, q⟩ => ⟨I1.kIn, ?_⟩) he hpl
  have hl : (us ++ []).length = ps.length := by rw [List.append_nil, ← r.length]; exact F.len _ _ _ _ q
  have b := hb s1 us I1.kIn hl
  rw [List.append_nil] at b
  exact run_G (ks := []) (ws := []) F hgd hr tk I1 b r q
theorem pe_callG0 {x : Str} {st : Stmt} {p pos : Pos} (F : FnQ X.prog X.w X.K X.mg X.base k x st ps sp) (hgd : X.A.guards = some []) (hr : Room k X.A) (tk : Takes X W) (hg : Gl X x) (hdb : (x == ("__debug__" : Str)) = false := by decide) : PE X (.Call (.Name x p) [] [] pos) (tCallG W sp tNil) := by
  obtain ⟨f, fd, ⟨FF, hm, hb⟩, F⟩ := F
  refine ⟨fun pins s σ H Q I h => wpAny_Call_Name_kw (ld_glob I hg hm ?_ hdb)⟩
  have hl : (([] : List Value) ++ []).length = ps.length := by have := F.len _ _ _ _ h; simpa using this
  have b := hb s [] I.kIn hl
  exact PySem.W.callWith_K0 I.kIn FF.kp (run_G (us := []) (ks := []) (ws := []) (as := []) F hgd hr tk I b .nil h)
/-- which of the written values goes to which parameter -/
def pick {α : Type} (perm : List Nat) (l : List α) : List α := perm.filterMap fun i => l[i]?
theorem vals_pick {vs : List V} {us : List Value} (r : Vals vs us) : ∀ perm : List Nat, Vals (pick perm vs) (pick perm us)
  | [] => .nil
  | i :: perm => by
    have ih := vals_pick r perm
    unfold pick at ih ⊢
    rw [List.filterMap_cons, List.filterMap_cons]
    cases e : vs[i]? with
    | none => rw [r.none_of e]; exact ih
    | some v =>
      obtain ⟨u, e2, rv⟩ := r.get e
      rw [e2]
      exact .cons rv ih
/-- how the n positional and the keywords' values are bound -/
def KwOk (name : Str) (st : Stmt) (ps : List Str) (n : Nat) (ks : List Str) (perm : List Nat) : Prop := ∀ (kV doc pm : Value) (an : Option Addr) (cdv ct : Value) (us ws : List Value), us.length = n → ws.length = ks.length →
  bindArgs (PySem.W.fnOf name name (defArgs st) (defBody st) (defScope st) .none kV doc pm an cdv ct) ⟨us, ks.zip ws⟩ = pure (ps.zip (pick perm (us ++ ws)))
def tCallKG (W : WX) (n m : Nat) (perm : List Nat) (sp : Sp) (t tk : TA) : TE := fun σ H Q => t σ H fun vs H1 => tk σ H1 fun zs H2 => vs.length = n ∧ zs.length = m ∧ sp (pick perm (vs ++ zs)) H2 Q fun c d H' => W c d σ H'
theorem pe_callKG {x : Str} {st : Stmt} {e : Expr} {es : List Expr} {kws : List Keyword} {ks : List Str} {n : Nat} {perm : List Nat} {t tw : TA} {p pos : Pos} (F : FnQ X.prog X.w X.K X.mg X.base k x st ps sp) (kb : KwOk x st ps n ks perm) (hgd : X.A.guards = some []) (hr : Room k X.A) (tk : Takes X W) (hg : Gl X x)
    (ha : PA X (e :: es) t) (hkw : PK X kws tw) (hall : (backToKw pos (keywordEach kws X.env)).all (·.1.isSome) = true := by rfl) (hks : (backToKw pos (keywordEach kws X.env)).filterMap (·.1) = ks := by rfl) (hdb : (x == ("__debug__" : Str)) = false := by decide)
    (he : starEach (e :: es) X.env = (false, eval e X.env) :: starEach es X.env := by rfl) (hpl : ((backTo pos (starEach (e :: es) X.env)).any (·.1) || (backToKw pos (keywordEach kws X.env)).any (·.1.isNone)) = false := by rfl) :
    PE X (.Call (.Name x p) (e :: es) kws pos) (tCallKG W n ks.length perm sp t tw) := by
  obtain ⟨f, fd, ⟨FF, hm, hb⟩, F⟩ := F
  refine ⟨fun pins s σ H Q I h => wpAny_Call_Name_kw (ld_glob I hg hm ?_ hdb)⟩
  refine PySem.W.callWith_KW (h₀ := X.base) I.ok.mod.kin FF.kp hall (thn (ha.run pos pins s σ H _ I h) fun us s1 ⟨vs, H1, I1, r, q⟩ => ?_) hpl he
  refine thn (hkw.run pos pins s1 σ H1 _ I1 q) fun ws s2 ⟨zs, H2, I2, rz, l1, l2, q2⟩ => ⟨I2.kIn, ?_⟩
  rw [hks]
  obtain ⟨oc, od, kV, doc, pm, an, cdv, ct, osl, efd, lk, hcd⟩ := FF.ex
  have b : BindsTo s2 fd ⟨us, ks.zip ws⟩ (ps.zip (pick perm (us ++ ws))) := by
    rw [efd]
    exact .of_eq (kb kV doc pm an cdv ct us ws (r.length.symm.trans l1) (rz.length.symm.trans l2))
  exact run_G F hgd hr tk I2 b (vals_pick (r.append rz) perm) q2
theorem pe_callKG0 {x : Str} {st : Stmt} {kws : List Keyword} {ks : List Str} {perm : List Nat} {tw : TA} {p pos : Pos} (F : FnQ X.prog X.w X.K X.mg X.base k x st ps sp) (kb : KwOk x st ps 0 ks perm) (hgd : X.A.guards = some []) (hr : Room k X.A) (tk : Takes X W) (hg : Gl X x)
    (hkw : PK X kws tw) (hall : (backToKw pos (keywordEach kws X.env)).all (·.1.isSome) = true := by rfl) (hks : (backToKw pos (keywordEach kws X.env)).filterMap (·.1) = ks := by rfl) (hdb : (x == ("__debug__" : Str)) = false := by decide)
    (hpl : (backToKw pos (keywordEach kws X.env)).any (·.1.isNone) = false := by rfl) :
    PE X (.Call (.Name x p) [] kws pos) (tCallKG W 0 ks.length perm sp tNil tw) := by
  obtain ⟨f, fd, ⟨FF, hm, hb⟩, F⟩ := F
  refine ⟨fun pins s σ H Q I h => wpAny_Call_Name_kw (ld_glob I hg hm ?_ hdb)⟩
  refine PySem.W.callWith_KW0 (h₀ := X.base) I.ok.mod.kin FF.kp hall (thn (hkw.run pos pins s σ H _ I h) fun ws s2 ⟨zs, H2, I2, rz, l1, l2, q2⟩ => ⟨I2.kIn, ?_⟩) hpl
  rw [hks]
  obtain ⟨oc, od, kV, doc, pm, an, cdv, ct, osl, efd, lk, hcd⟩ := FF.ex
  have b : BindsTo s2 fd ⟨[], ks.zip ws⟩ (ps.zip (pick perm ([] ++ ws))) := by
    rw [efd]
    exact .of_eq (kb kV doc pm an cdv ct [] ws rfl (rz.length.symm.trans l2))
  exact run_G (us := []) F hgd hr tk I2 b (vals_pick (Vals.append .nil rz) perm) q2
end

/-! # promises by data -/
abbrev PSp := List D → (D → Prop) → (Xn → Prop) → Prop
def spOf (K : PySem.W.Frag) (mg : Str → Option Value) (T : List (Addr × Str)) (s : PSp) : Sp := fun vs H Q E => ∃ (wl : Wd) (ds : List D) (q : D → Prop) (x : Xn → Prop), wl.tabs = T ∧ Wk wl H ∧ RpL K wl H ds vs ∧ s ds q x ∧ (∀ d v H', Ext wl H H' → Rp K wl H' d v → q d → Q v H') ∧ (∀ e c dd H', Ext wl H H' → XnR K mg wl H' e c dd → x e → E c dd H')
abbrev FnD (P : Program) (w : World) (K : PySem.W.Frag) (mg : Str → Option Value) (base : Heap) (T : List (Addr × Str)) (k : Nat) (name : Str) (st : Stmt) (ps : List Str) (s : PSp) : Prop := FnQ P w K mg base k name st ps (spOf K mg T s)
def startD (N : List Str) (ds : List D) : Ev := ds.map .dt ++ List.replicate (N.length - ds.length) .no
theorem evr_start {K : PySem.W.Frag} {wl : Wd} {H : Hp} {N : List Str} {ds : List D} {vs : List V} (r : RpL K wl H ds vs) : EvR K wl H (startD N ds) (L2.start N vs) := by
  have hl := r.length
  have no : ∀ (i : Nat) (xs : List D), (startD N ds)[i]? ≠ some (.ow xs) := fun i xs e => by
    unfold startD at e
    by_cases hi : i < ds.length
    · rw [List.getElem?_append_left (by simpa using hi), List.getElem?_map] at e
      cases q : ds[i]? with
      | none => rw [q] at e; cases e
      | some d' => rw [q] at e; cases e
    · rw [List.getElem?_append_right (by simpa using Nat.le_of_not_lt hi), List.getElem?_replicate] at e
      split at e <;> cases e
  refine ⟨by unfold startD L2.start; simp [hl], fun i d e => ?_, fun i xs e => (no i xs e).elim, fun i j xs ys a e => (no i xs e).elim⟩
  unfold startD at e
  by_cases hi : i < ds.length
  · rw [List.getElem?_append_left (by simpa using hi), List.getElem?_map] at e
    cases q : ds[i]? with
    | none => rw [q] at e; cases e
    | some d' =>
      rw [q] at e
      cases e
      obtain ⟨v, hv, rv⟩ := r.get q
      refine ⟨v, ?_, rv⟩
      unfold L2.start
      rw [List.getElem?_append_left (by simpa [hl] using hi), List.getElem?_map, hv]
      rfl
  · rw [List.getElem?_append_right (by simpa using Nat.le_of_not_lt hi), List.getElem?_replicate] at e
    split at e <;> cases e
/-- the world of a def that is called: what its caller may change stands apart -/
def Wd.call (w : Wd) : Wd := ⟨w.wl, fun a => w.hid a ∨ w.ow a, fun _ => False, w.tabs⟩
theorem Wk.call {w : Wd} {H : Hp} (h : Wk w H) : Wk w.call H := ⟨h.well, fun a z => z.elim (h.hid a) (h.ow a), fun _ z => z.elim, h.tabs⟩
theorem Wd.call_fr {w : Wd} {a : Addr} : w.fr a ↔ w.call.fr a := ⟨fun f => ⟨f.1, fun z => z.elim f.2.1 f.2.2, fun z => z⟩, fun f => ⟨f.1, fun z => f.2.1 (.inl z), fun z => f.2.1 (.inr z)⟩⟩
section
variable {K : PySem.W.Frag} {w w' : Wd} {H H' : Hp}
theorem Step.back (x : Step w.call H w' H') : Ext w H H' :=
  ⟨fun a o n e t => x.keep a o n (fun z => z) e t, fun a z => x.wk.well a (x.wl.trans z), fun a z => x.wk.hid a (x.hid a (.inl z)), fun a z => x.wk.hid a (x.hid a (.inr z)), by have := x.wk.tabs; rw [x.tabs] at this; exact this⟩
theorem Step.back_fr (x : Step w.call H w' H') {a : Addr} (f : w'.fr a) : w.fr a :=
  ⟨by have := f.1; rw [x.wl] at this; exact this, fun z => f.2.1 (x.hid a (.inl z)), fun z => f.2.1 (x.hid a (.inr z))⟩
theorem Step.back_rp (x : Step w.call H w' H') {d : D} {v : V} (r : Rp K w' H' d v) : Rp K w H' d v := Rp.less (by rw [x.wl]; rfl) (fun _ f => x.back_fr f) d v r
theorem Step.back_xn {mg : Str → Option Value} (x : Step w.call H w' H') {e : Xn} {c : Value} {dd : Option Addr} (r : XnR K mg w' H' e c dd) : XnR K mg w H' e c dd := by
  obtain ⟨h1, h2⟩ := r
  refine ⟨h1, ?_⟩
  cases ea : e.arg with
  | none => trivial
  | some p =>
    obtain ⟨f, d⟩ := p
    rw [ea] at h2
    obtain ⟨a, v, h3, h4, h5, h6⟩ := h2
    exact ⟨a, v, h3, x.back_fr h4, h5, x.back_rp h6⟩
end
/-- a body's derivation -/
abbrev Bdy (P : Program) (w : World) (K : PySem.W.Frag) (mg : Str → Option Value) (base : Heap) (T : List (Addr × Str)) (k : Nat) (name : Str) (st : Stmt) (N : List Str) (f : Addr) (g : PSt) : Prop :=
  ∀ (cdv : Value) (A : Around) (outer : List Env) (s0 : Shared) (H : Hp) (E : XK), Room k (A.deeper (envOfC name (defScope st) s0.heap.objs.size f cdv)) → A.guards = some [] →
      Takes (cxOf (L2.CX P w) P w K mg base N name (defScope st) f cdv A outer s0 H E) (fun c d _ H' => E c d H') →
      PassesOwn (model P w) (A.deeper (envOfC name (defScope st) s0.heap.objs.size f cdv)) (envOfC name (defScope st) s0.heap.objs.size f cdv) (cxOf (L2.CX P w) P w K mg base N name (defScope st) f cdv A outer s0 H E).xe →
      PSs (cxOf (L2.CX P w) P w K mg base N name (defScope st) f cdv A outer s0 H E) (defBody st) (eS (cxOf (L2.CX P w) P w K mg base N name (defScope st) f cdv A outer s0 H E) ⟨fun c d _ H' => E c d H', T⟩ g)
/-- a def by data: its body's derivation, its promise from the body's reading -/
theorem fn_ok {P : Program} {w : World} {K : PySem.W.Frag} {mg : Str → Option Value} {base : Heap} {T : List (Addr × Str)} {k : Nat} {name : Str} {st : Stmt} {ps N : List Str} {s : PSp} {g : PSt} {f : Addr} {fd : FuncData} (F : DefAt K mg name st ps f fd) (S : FnScope N ps (defScope st))
    (body : Bdy P w K mg base T k name st N f g)
    (hs : ∀ ds q x, s ds q x → ds.length = ps.length ∧ g ⟨fun _ => q .non, q, fun _ => False, fun _ => False, fun _ e => x e⟩ (startD N ds)) : FnOkG P w K mg base (L2.CX P w) (k + 1) f fd ps (spOf K mg T s) := by
  obtain ⟨FF, hm, hb⟩ := F
  obtain ⟨oc, od, kV, doc, pm, an, cdv, ct, osl, rfl, lk, hcd⟩ := FF.ex
  refine fn_ofG lk hcd S (fun vs H Q E ⟨wl, ds, q, x, _, _, r, h, _⟩ => r.length.trans (hs ds q x h).1) fun A outer s0 H vs Q E hgd hr hsp => ?_
  obtain ⟨wl, ds, q, x, ht, hk, r, h, hq, hx⟩ := hsp
  refine ⟨_, body cdv A outer s0 H E hr hgd (takes_of rfl rfl rfl rfl) (passes_of rfl), wl.call, _, _, hk.call, evr_start (RpL.less (w := wl) (w' := wl.call) rfl (fun _ f => Wd.call_fr.mp f) ds vs r), (hs ds q x h).2, ?_⟩
  exact ⟨ht, fun w ρ σ H' e _ z => hq .non .non H' e.back rfl z, fun w d v H' e r' z => hq d v H' e.back (e.back_rp r') z, fun _ _ _ _ _ _ z => z.elim, fun _ _ _ _ _ _ z => z.elim, fun w ρ σ H' en c dd e _ r' z => hx en c dd H' e.back (e.back_xn r') z⟩
/-- a def of the top, as it stands -/
def DefE (K : PySem.W.Frag) (mg : Str → Option Value) (name : Str) (st : Stmt) (ps : List Str) : Prop := ∃ f fd, DefAt K mg name st ps f fd
theorem fn_mk {P : Program} {w : World} {K : PySem.W.Frag} {mg : Str → Option Value} {base : Heap} {T : List (Addr × Str)} {k : Nat} {name : Str} {st : Stmt} {ps N : List Str} {s : PSp} {g : PSt} (F : DefE K mg name st ps) (S : FnScope N ps (defScope st))
    (body : ∀ f, Bdy P w K mg base T k name st N f g)
    (hs : ∀ ds q x, s ds q x → ds.length = ps.length ∧ g ⟨fun _ => q .non, q, fun _ => False, fun _ => False, fun _ e => x e⟩ (startD N ds)) : FnD P w K mg base T (k + 1) name st ps s := by
  obtain ⟨f, fd, F⟩ := F
  exact ⟨f, fd, F, fn_ok F S (body f) hs⟩
section
variable {X : Cx} {W : WY} {k : Nat} {ps : List Str} {s : PSp}
def fCall (s : PSp) (fa : PAx) : PX := fun ρ q x => fa ρ (fun ds => s ds q x) x
theorem call_weak {fa : PAx} {σ : St} {H : Hp} {Q : VK} (h : eE X W (fCall s fa) σ H Q) : tCallG W.x (spOf X.K X.mg W.T s) (eA X W fa) σ H Q := by
  obtain ⟨wl, ρ, q, x, hk, he, hf, hq, hx⟩ := h
  exact ⟨wl, ρ, _, x, hk, he, hf, fun ds vs H1 e1 r1 h1 => ⟨wl, ds, q, x, hx.1, e1.wk, r1, h1, fun d v H2 e2 r2 => hq d v H2 (e1.trans e2) r2, (hx.ext e1).2⟩, hx⟩
theorem d_call {x : Str} {st : Stmt} {e : Expr} {es : List Expr} {fa : PAx} {p pos : Pos} (F : FnD X.prog X.w X.K X.mg X.base W.T k x st ps s) (hgd : X.A.guards = some []) (hr : Room k X.A) (tk : Takes X W.x) (hg : Gl X x) (ha : PA X (e :: es) (eA X W fa)) (hdb : (x == ("__debug__" : Str)) = false := by decide)
    (he : starEach (e :: es) X.env = (false, eval e X.env) :: starEach es X.env := by rfl) (hpl : (backTo pos (starEach es X.env)).any (·.1) = false := by rfl) : PE X (.Call (.Name x p) (e :: es) [] pos) (eE X W (fCall s fa)) :=
  PE.weak (pe_callG F hgd hr tk hg ha hdb he hpl) fun _ _ _ h => call_weak h
theorem d_call0 {x : Str} {st : Stmt} {p pos : Pos} (F : FnD X.prog X.w X.K X.mg X.base W.T k x st ps s) (hgd : X.A.guards = some []) (hr : Room k X.A) (tk : Takes X W.x) (hg : Gl X x) (hdb : (x == ("__debug__" : Str)) = false := by decide) : PE X (.Call (.Name x p) [] [] pos) (eE X W (fCall s fNil)) :=
  PE.weak (pe_callG0 F hgd hr tk hg hdb) fun σ H Q ⟨wl, ρ, q, x, hk, he, hf, hq, hx⟩ => ⟨wl, [], q, x, hx.1, hk, rfl, hf, hq, hx.2⟩
theorem rp_pick {K : PySem.W.Frag} {wl : Wd} {H : Hp} {ds : List D} {vs : List V} (r : RpL K wl H ds vs) : ∀ perm : List Nat, RpL K wl H (pick perm ds) (pick perm vs)
  | [] => rfl
  | i :: perm => by
    have ih := rp_pick r perm
    unfold pick at ih ⊢
    rw [List.filterMap_cons, List.filterMap_cons]
    cases e : ds[i]? with
    | none =>
      have : vs[i]? = none := by
        rw [List.getElem?_eq_none_iff] at e ⊢
        rw [r.length]; exact e
      rw [this]; exact ih
    | some d =>
      obtain ⟨v, e2, rv⟩ := r.get e
      rw [e2]
      exact ⟨v, _, rfl, rv, ih⟩
def ekK (X : Cx) (W : WY) (kws : List Keyword) (f : PAx) : Prop := PK X kws (eA X W f)
theorem dk_nil : PK X [] (eA X W fNil) := ⟨fun pos pins s σ H Q I ⟨wl, ρ, q, x, hk, he, hf, hq, hx⟩ => pk_nil.run pos pins s σ H Q I (hq [] [] H (.refl hk) rfl hf)⟩
theorem dk_cons {nm : Option Str} {e : Expr} {kpos : Pos} {kws : List Keyword} {fa : PX} {fr : PAx} (ha : PE X e (eE X W fa)) (hr : PK X kws (eA X W fr)) : PK X (⟨nm, e, kpos⟩ :: kws) (eA X W (fCons fa fr)) :=
  ⟨fun pos pins s σ H Q I ⟨wl, ρ, q, x, hk, he, hf, hq, hx⟩ => (pk_cons ha hr).run pos pins s σ H Q I
    ⟨wl, ρ, _, x, hk, he, hf, fun d v H1 e1 r1 h1 => ⟨wl, ρ, _, x, e1.wk, he.ext hk e1, h1, fun ds vs H2 e2 r2 h2 => hq (d :: ds) _ H2 (e1.trans e2) ⟨v, vs, rfl, Rp.ext e1.wk e2 _ _ r1, r2⟩ h2, hx.ext e1⟩, hx⟩⟩
def fCallK (n m : Nat) (perm : List Nat) (s : PSp) (fa fk : PAx) : PX := fun ρ q x => fa ρ (fun ds => fk ρ (fun es => ds.length = n ∧ es.length = m ∧ s (pick perm (ds ++ es)) q x) x) x
theorem callK_weak {n m : Nat} {perm : List Nat} {fa fk : PAx} {σ : St} {H : Hp} {Q : VK} (h : eE X W (fCallK n m perm s fa fk) σ H Q) : tCallKG W.x n m perm (spOf X.K X.mg W.T s) (eA X W fa) (eA X W fk) σ H Q := by
  obtain ⟨wl, ρ, q, x, hk, he, hf, hq, hx⟩ := h
  refine ⟨wl, ρ, _, x, hk, he, hf, fun ds vs H1 e1 r1 h1 => ⟨wl, ρ, _, x, e1.wk, he.ext hk e1, h1, fun es us H2 e2 r2 ⟨l1, l2, h2⟩ => ?_, hx.ext e1⟩, hx⟩
  have e12 := e1.trans e2
  exact ⟨r1.length.trans l1, r2.length.trans l2, wl, _, q, x, hx.1, e2.wk, rp_pick ((RpL.ext e1.wk e2 _ _ r1).append r2) perm, h2, fun d v H3 e3 r3 => hq d v H3 (e12.trans e3) r3, (hx.ext e12).2⟩
theorem d_callK {x : Str} {st : Stmt} {e : Expr} {es : List Expr} {kws : List Keyword} {ks : List Str} {n : Nat} {perm : List Nat} {fa fk : PAx} {p pos : Pos} (F : FnD X.prog X.w X.K X.mg X.base W.T k x st ps s) (kb : KwOk x st ps n ks perm) (hgd : X.A.guards = some []) (hr : Room k X.A) (tk : Takes X W.x) (hg : Gl X x)
    (ha : PA X (e :: es) (eA X W fa)) (hkw : PK X kws (eA X W fk)) (hall : (backToKw pos (keywordEach kws X.env)).all (·.1.isSome) = true := by rfl) (hks : (backToKw pos (keywordEach kws X.env)).filterMap (·.1) = ks := by rfl) (hdb : (x == ("__debug__" : Str)) = false := by decide)
    (he : starEach (e :: es) X.env = (false, eval e X.env) :: starEach es X.env := by rfl) (hpl : ((backTo pos (starEach (e :: es) X.env)).any (·.1) || (backToKw pos (keywordEach kws X.env)).any (·.1.isNone)) = false := by rfl) :
    PE X (.Call (.Name x p) (e :: es) kws pos) (eE X W (fCallK n ks.length perm s fa fk)) :=
  PE.weak (pe_callKG F kb hgd hr tk hg ha hkw hall hks hdb he hpl) fun _ _ _ h => callK_weak h
theorem d_callK0 {x : Str} {st : Stmt} {kws : List Keyword} {ks : List Str} {perm : List Nat} {fk : PAx} {p pos : Pos} (F : FnD X.prog X.w X.K X.mg X.base W.T k x st ps s) (kb : KwOk x st ps 0 ks perm) (hgd : X.A.guards = some []) (hr : Room k X.A) (tk : Takes X W.x) (hg : Gl X x)
    (hkw : PK X kws (eA X W fk)) (hall : (backToKw pos (keywordEach kws X.env)).all (·.1.isSome) = true := by rfl) (hks : (backToKw pos (keywordEach kws X.env)).filterMap (·.1) = ks := by rfl) (hdb : (x == ("__debug__" : Str)) = false := by decide)
    (hpl : (backToKw pos (keywordEach kws X.env)).any (·.1.isNone) = false := by rfl) :
    PE X (.Call (.Name x p) [] kws pos) (eE X W (fCallK 0 ks.length perm s fNil fk)) := by
  refine PE.weak (pe_callKG0 F kb hgd hr tk hg hkw hall hks hdb hpl) fun σ H Q ⟨wl, ρ, q, x, hk, he, hf, hq, hx⟩ => ?_
  refine ⟨wl, ρ, _, x, hk, he, hf, fun es us H2 e2 r2 ⟨l1, l2, h2⟩ => ?_, hx⟩
  exact ⟨rfl, r2.length.trans l2, wl, _, q, x, hx.1, e2.wk, rp_pick (RpL.append (show RpL X.K wl H2 [] [] from rfl) r2) perm, h2, fun d v H3 e3 r3 => hq d v H3 (e2.trans e3) r3, (hx.ext e2).2⟩
/-! ### f(g(..)), g's list of three numbers being f's well -/
def okArg : D → Bool
  | .non => true
  | .bl _ => true
  | .int _ => true
  | .str _ => true
  | .ty _ => true
  | .scr _ => true
  | _ => false
theorem okArg_rp {K : PySem.W.Frag} {wl wl' : Wd} {H : Hp} : ∀ {ds : List D} {vs : List V}, ds.all okArg = true → RpL K wl H ds vs → RpL K wl' H ds vs
  | [], _, _, r => r
  | d :: ds, _, g, ⟨v, t, e, r, q⟩ => by
    rw [List.all_cons, Bool.and_eq_true] at g
    refine ⟨v, t, e, ?_, okArg_rp g.2 q⟩
    have g1 := g.1
    cases d <;> first | exact r | (simp [okArg] at g1)
def fWell (sf sg : PSp) (fa : PAx) : PX := fun ρ q x => fa ρ (fun ds => ds.all okArg = true ∧ sg ds (fun r => ∃ i j k : Int, r = .lst [.int i, .int j, .int k] ∧ 0 ≤ i ∧ 0 ≤ j ∧ j < 2147483648 ∧ sf [.well] (fun d => flat d = true ∧ q d) fun _ => False) fun _ => False) x
theorem well_weak {sf sg : PSp} {fa : PAx} {σ : St} {H : Hp} {Q : VK} (h : eE X W (fWell sf sg fa) σ H Q) : tCallG W.x (spOf X.K X.mg W.T sf) (tCons (tCallG W.x (spOf X.K X.mg W.T sg) (eA X W fa)) tNil) σ H Q := by
  obtain ⟨wl, ρ, q, x, hk, he, hf, hq, hx⟩ := h
  refine ⟨wl, ρ, _, x, hk, he, hf, fun ds vs H1 e1 r1 ⟨ok, h1⟩ => ?_, hx⟩
  refine ⟨⟨none, fun a => ∃ o, H1 a = some o ∧ Mut o, fun _ => False, wl.tabs⟩, ds, _, fun _ => False, hx.1, ⟨(fun _ z => nomatch z), (fun _ z => z), (fun _ z => z.elim), e1.wk.tabs⟩, okArg_rp ok r1, h1, fun d v H2 e2 r2 ⟨i, j, k, ed, b1, b2, b3, h2⟩ => ?_, fun _ _ _ _ _ _ z => z.elim⟩
  subst ed
  obtain ⟨p, us, rfl, f2, s2, v1, t1, rfl, c1, v2, t2, rfl, c2, v3, t3, rfl, c3, c4⟩ := r2
  cases c1; cases c2; cases c3; cases c4
  have np : ∀ a o, H1 a = some o → NT o → a ≠ p := fun a o z t y => by
    subst y
    have z2 := e2.keep a o (fun y => nomatch y) z t
    rw [s2] at z2
    cases z2
    exact (f2.2.1 ⟨_, z, True.intro⟩).elim
  have back2 : ∀ a o, H1 a = some o → NT o → H2 a = some o := fun a o z t => e2.keep a o (fun y => nomatch y) z t
  have k2 : Wk ⟨some p, fun a => wl.hid a ∨ wl.ow a, fun _ => False, wl.tabs⟩ H2 := by
    refine ⟨fun a z => ?_, fun a z => ?_, fun _ z => z.elim, e2.wk.tabs⟩
    · cases z
      exact ⟨i, j, k, s2, b1, b2, b3⟩
    · rcases z with z | z
      · obtain ⟨o, z2, m⟩ := e1.wk.hid a z
        exact ⟨o, back2 a o z2 m.nt, m⟩
      · obtain ⟨o, z2, m⟩ := e1.wk.ow a z
        exact ⟨o, back2 a o z2 m.nt, m⟩
  refine ⟨⟨some p, fun a => wl.hid a ∨ wl.ow a, fun _ => False, wl.tabs⟩, [.well], _, fun _ => False, hx.1, k2, ⟨.ref p, [], rfl, ⟨p, rfl, rfl⟩, rfl⟩, h2, fun d v H3 e3 r3 ⟨fd, hd⟩ => ?_, fun _ _ _ _ _ _ z => z.elim⟩
  have back : ∀ a o, H1 a = some o → NT o → H3 a = some o := fun a o z t => e3.keep a o (fun y => np a o z t (Option.some.inj y).symm) (back2 a o z t) t
  have e13 : Ext wl H1 H3 := by
    refine ⟨fun a o _ z t => back a o z t, fun a z => ?_, fun a z => ?_, fun a z => ?_, e3.wk.tabs⟩
    · obtain ⟨i', j', k', z1, z2⟩ := e1.wk.well a z
      exact ⟨i', j', k', back _ _ z1 (fun _ y => nomatch y), z2⟩
    · obtain ⟨o, z1, m⟩ := e1.wk.hid a z
      exact ⟨o, back _ _ z1 m.nt, m⟩
    · obtain ⟨o, z1, m⟩ := e1.wk.ow a z
      exact ⟨o, back _ _ z1 m.nt, m⟩
  refine hq d v H3 (e1.trans e13) ?_ hd
  cases d <;> first | exact r3 | (simp [flat] at fd)
theorem d_well {k' : Nat} {ps' : List Str} {sg : PSp} {x y : Str} {st st' : Stmt} {e : Expr} {es : List Expr} {fa : PAx} {p pos p' pos' : Pos} (F : FnD X.prog X.w X.K X.mg X.base W.T k x st ps s) (G : FnD X.prog X.w X.K X.mg X.base W.T k' y st' ps' sg) (hgd : X.A.guards = some []) (hr : Room k X.A) (hr' : Room k' X.A) (tk : Takes X W.x) (hg : Gl X x) (hg' : Gl X y) (ha : PA X (e :: es) (eA X W fa))
    (hdb : (x == ("__debug__" : Str)) = false := by decide) (hdb' : (y == ("__debug__" : Str)) = false := by decide)
    (he : starEach (e :: es) X.env = (false, eval e X.env) :: starEach es X.env := by rfl) (hpl : (backTo pos' (starEach es X.env)).any (·.1) = false := by rfl) (hpl2 : (backTo pos (starEach [] X.env)).any (·.1) = false := by rfl)
    (he2 : starEach [.Call (.Name y p') (e :: es) [] pos'] X.env = (false, eval (.Call (.Name y p') (e :: es) [] pos') X.env) :: starEach [] X.env := by rfl) : PE X (.Call (.Name x p) [.Call (.Name y p') (e :: es) [] pos'] [] pos) (eE X W (fWell s sg fa)) :=
  PE.weak (pe_callG F hgd hr tk hg (pa_cons (pe_callG G hgd hr' tk hg' ha hdb' he hpl) pa_nil he2) hdb he2 hpl2) fun _ _ _ h => well_weak h
end
end PL

namespace PL
open PySem PySem.Spec L2
open PyProof.Rows (envOfC AllBare IntsAre)

/-! # the end of a law's row: the script, the tables of code objects -/
/-- a code object at .1, its table at .2, the name of what it makes -/
structure Tb where
  co : Addr
  tb : Addr
  nm : Str
def tbsOf (cs : List Tb) : List (Addr × Str) := cs.map fun c => (c.tb, c.nm)
/-- what the head leaves of them -/
structure TbAt (K : PySem.W.Frag) (h : Heap) (c : Tb) : Prop where
  tab : h.get? c.tb = some (PySem.W.tabObj #[])
  out : K.lookup c.tb = none
  head : PySem.W.CodeHd h c.co c.tb
/-- the law's promise: the script's list in, empty tables, True out -/
def spLaw (n : Nat) (cs : List Tb) (K : PySem.W.Frag) : Sp := fun vs H Q _ => ∃ (a : Addr) (ns : List Int), vs = [.ref a] ∧ ScrAt K H a ns ∧ ns.length ≤ n ∧ (∀ c ∈ cs, H c.tb = some (.tbl #[])) ∧ ∀ H', Q (.bl true) H'
section
variable {P : Program} {w : World} {K : PySem.W.Frag} {mg mb : Str → Option Value} {k : Nat} {fa a : Addr} {fd : FuncData} {x : Str} {n : Nat} {s1 : Shared} {vs : List Value} {ns : List Int} {cs : List Tb} {H : Hp}
/-- what is tracked at the law's start -/
structure Start (K : PySem.W.Frag) (H : Hp) (a : Addr) (ns : List Int) (cs : List Tb) : Prop where
  only : ∀ b, H b ≠ none → b = a ∧ K.lookup a = none ∧ (∃ o, H b = some (.frz o (.lst (ns.map V.int)))) ∨ ∃ c ∈ cs, b = c.tb
  tabs : ∀ c ∈ cs, H c.tb = some (.tbl #[])
  scr : ScrAt K H a ns
theorem base_tb {c : Tb} {h : Heap} (S : Start K H a ns cs) (hc : c ∈ cs) (T : ∀ c ∈ cs, TbAt K h c) (ha : h.get? a = some { cls := .type "list", data := .seq vs.toArray }) (hns : h.Ns mainGlobals mg)
    (hbm : ∃ (bm : Addr) (ob : Obj), mg "__builtins__" = some (.ref bm) ∧ bm ≠ builtinsNs ∧ h.get? bm = some ob ∧ ob.cls = .type "module" ∧ ob.dict = some builtinsNs ∧ ob.data = .plain) : LamX.TabB (hidT h H) mg c.co c.tb := by
  -- an object of another kind is not tracked
  have free : ∀ {b : Addr} {o : Obj}, h.get? b = some o → o.cls ≠ .none → o.cls ≠ .type "list" → H b = none := fun {b o} e h1 h2 => by
    refine Decidable.byContradiction fun z => ?_
    rcases S.only b z with ⟨rfl, _⟩ | ⟨c', hc', rfl⟩
    · rw [ha] at e; cases e; exact h2 rfl
    · rw [(T c' hc').tab] at e; cases e; exact h1 rfl
  have tc := T c hc
  obtain ⟨go, ges, gep, ge, gd, _⟩ := hns
  refine ⟨?_, ?_, fun z => ?_⟩
  · obtain ⟨o, us, file, tf, flags, tg, inF, text, tt, e1, r1, rest⟩ := tc.head
    exact ⟨o, us, file, tf, flags, tg, inF, text, tt, hidT_get e1 (free e1 (by rw [r1]; exact fun y => nomatch y) (by rw [r1]; exact fun y => absurd y (by decide))), r1, rest⟩
  · obtain ⟨bm, ob, b1, b2, b3, b4, b5, b6⟩ := hbm
    refine ⟨bm, ob, b1, b2, fun q => ?_, fun q => ?_, hidT_get b3 (free b3 (by rw [b4]; exact fun y => nomatch y) (by rw [b4]; exact fun y => absurd y (by decide))), b4, b5, b6⟩
    · rw [q, ge] at b3; cases b3; rw [gd] at b6; cases b6
    · rw [q, tc.tab] at b3; cases b3; cases b6
  · rw [z, tc.tab] at ge; cases ge; cases gd
theorem law_run (S : Start K H a ns cs) (inK : K.In s1.heap) (hns : s1.heap.Ns mainGlobals mg) (hb : s1.heap.Ns builtinsNs mb) (hbb : ∀ y : Str, y ≠ "__name__" → mb y = bootBuiltins y) (hlim : s1.heap.NoLimit) (hg : s1.gens = #[])
    (hbm : ∃ (bm : Addr) (ob : Obj), mg "__builtins__" = some (.ref bm) ∧ bm ≠ builtinsNs ∧ s1.heap.get? bm = some ob ∧ ob.cls = .type "module" ∧ ob.dict = some builtinsNs ∧ ob.data = .plain)
    (T : ∀ c ∈ cs, TbAt K s1.heap c) (ha : s1.heap.get? a = some { cls := .type "list", data := .seq vs.toArray }) (hr : Room k callerA) (ok : HOk P w H s1.heap)
    (F : ∀ base : Heap, K.In base → base.Ns mainGlobals mg → (∀ c ∈ cs, LamX.TabB base mg c.co c.tb) → FnOkG P w K mg base (L2.CX P w) k fa fd [x] (spLaw n cs K)) (hbind : ∀ (s : Shared) (u : Value), BindsTo s fd ⟨[u], []⟩ [(x, u)]) (hl : ns.length ≤ n) :
    codeAny (model P w) callerA (.call (.ref fa) ⟨[.ref a], []⟩) (fun r s' => r = .ok (.ret (.bool true)) ∧ OldK s1.heap s'.heap ∧ s'.os = s1.os ∧ AllBare s'.gens) s1 := by
  have notDict : ∀ {b : Addr} {o : Obj} {es : Array DictEntry} {ep : Nat}, s1.heap.get? b = some o → o.data = .dict es ep → H b = none := fun {b o es ep} e dd => by
    refine Decidable.byContradiction fun z => ?_
    rcases S.only b z with ⟨rfl, _⟩ | ⟨c, hc, rfl⟩
    · rw [ha] at e; cases e; cases dd
    · rw [(T c hc).tab] at e; cases e; cases dd
  have nsOf : ∀ {b : Addr} {m : Str → Option Value}, s1.heap.Ns b m → (hidT s1.heap H).Ns b m := fun ⟨o, es, ep, e, dd, r⟩ => ⟨o, es, ep, hidT_get e (notDict e dd), dd, r⟩
  have inB : K.In (hidT s1.heap H) := fun b o e => hidT_get (inK b o e) (Decidable.byContradiction fun z => by
    rcases S.only b z with ⟨rfl, q, _⟩ | ⟨c, hc, rfl⟩
    · rw [q] at e; cases e
    · rw [(T c hc).out] at e; cases e)
  have noLim : (hidT s1.heap H).NoLimit := by
    obtain ⟨mc, h1, h2⟩ := hlim
    exact ⟨mc, nsOf h1, h2⟩
  have md : Mod K mg (hidT s1.heap H) := ⟨inB, nsOf hns, ⟨mb, nsOf hb, hbb⟩, noLim⟩
  have env0 : Env0 P w K mg (hidT s1.heap H) callerA [] s1 H := ⟨rfl, md, fun _ _ e => of_hidT e, Nat.le_of_eq (hidT_size _ _), trivial, fun b z => absurd (show b ∈ ([] : List Addr) from z) (by simp), ok, .of_eq hg⟩
  refine codeAny_mono ((F _ inB (nsOf hns) fun c hc => base_tb S hc T ha hns hbm).go callerA [] s1 H ⟨[.ref a], []⟩ [.ref a] [.ref a] (fun v _ => v = .bl true) (fun _ _ _ => False) rfl hr env0 (hbind s1 (.ref a)) (.cons rfl .nil) ⟨a, ns, rfl, S.scr, hl, S.tabs, fun _ => rfl⟩) fun res s2 hres => ?_
  match res, hres with
  | .error e, ⟨_, _, _, _, _, _, _, _, _, _, _, _, z⟩ => exact z.elim
  | .ok .next, z => exact z.elim
  | .ok .brk, z => exact z.elim
  | .ok .cont, z => exact z.elim
  | .ok (.ret u), ⟨v, H2, os, bare, un, ok2, ru, q⟩ =>
    obtain rfl : v = .bl true := q
    obtain rfl : u = Value.bool true := ru
    -- what is no table stays as it is
    have stays : ∀ b o, s1.heap.get? b = some o → (∀ c ∈ cs, b ≠ c.tb) → s2.heap.get? b = some o := fun b o e nc => by
      cases hb' : H b with
      | none => exact un.keep b o e hb' (fun z => absurd (show b ∈ ([] : List Addr) from z) (by simp)) (fun z => absurd (show b ∈ ([] : List Addr) from z) (by simp))
      | some u =>
        rcases S.only b (by rw [hb']; exact fun z => nomatch z) with ⟨_, _, ob, z⟩ | ⟨c, hc, z⟩
        · obtain ⟨e1, _⟩ := ok b _ z
          obtain ⟨e2, _⟩ := ok2 b _ (un.frzs b ob _ z)
          rw [e] at e1
          cases e1
          exact e2
        · exact (nc c hc z).elim
    have grows : ∀ c ∈ cs, ∃ more : Array Value, s2.heap.get? c.tb = some (PySem.W.tabObj (#[] ++ more)) := fun c hc => by
      obtain ⟨more, z⟩ := un.tbls c.tb #[] (S.tabs c hc)
      exact ⟨more, ok2 c.tb _ z⟩
    refine ⟨rfl, ⟨fun b o e => ?_, fun b o e => ?_⟩, os, bare⟩
    · by_cases hb : ∃ c ∈ cs, b = c.tb
      · obtain ⟨c, hc, rfl⟩ := hb
        obtain ⟨more, hm⟩ := grows c hc
        rw [(T c hc).tab] at e
        cases e
        exact .inr (.inl ⟨((T c hc).head.tab (T c hc).tab).isCodeTable, rfl, #[], more, rfl, hm⟩)
      · exact .inl (stays b o e fun c hc z => hb ⟨c, hc, z⟩)
    · by_cases hb : ∃ c ∈ cs, b = c.tb
      · obtain ⟨c, hc, rfl⟩ := hb
        obtain ⟨more, hm⟩ := grows c hc
        exact ⟨_, hm⟩
      · exact ⟨o, stays b o e fun c hc z => hb ⟨c, hc, z⟩⟩
open Classical in
/-- the tracked heap of the start -/
theorem start_at (T : ∀ c ∈ cs, TbAt K s1.heap c) (inK : K.In s1.heap) (ha : s1.heap.get? a = some { cls := .type "list", data := .seq vs.toArray }) (hi : IntsAre vs ns) (hz : ns.length ≤ sizeLine) : ∃ H : Hp, Start K H a ns cs ∧ HOk P w H s1.heap := by
  have rv : Vals (ns.map V.int) vs := vals_ints hi
  let o : Obj := { cls := .type "list", data := .seq vs.toArray }
  let H : Hp := fun b => if ∃ c ∈ cs, b = c.tb then some (.tbl #[]) else if b = a ∧ K.lookup a = none then some (.frz o (.lst (ns.map V.int))) else none
  have at_tab : ∀ {b : Addr}, (∃ c ∈ cs, b = c.tb) → H b = some (.tbl #[]) := fun z => if_pos z
  have na : ¬ ∃ c ∈ cs, a = c.tb := fun ⟨c, hc, e⟩ => by
    have q := (T c hc).tab
    rw [← e, ha] at q
    cases q
  have at_a : K.lookup a = none → H a = some (.frz o (.lst (ns.map V.int))) := fun z => (if_neg na).trans (if_pos ⟨rfl, z⟩)
  refine ⟨H, ⟨fun b z => ?_, fun c hc => at_tab ⟨c, hc, rfl⟩, ?_⟩, fun b u z => ?_⟩
  · by_cases hb : ∃ c ∈ cs, b = c.tb
    · exact .inr hb
    · by_cases h2 : b = a ∧ K.lookup a = none
      · obtain ⟨rfl, h3⟩ := h2
        exact .inl ⟨rfl, h3, o, at_a h3⟩
      · exact (z ((if_neg hb).trans (if_neg h2))).elim
  · cases hk : K.lookup a with
    | none => exact .inl ⟨o, at_a hk⟩
    | some u =>
      have e := inK a u hk
      rw [ha] at e
      cases e
      refine .inr ⟨_, vs.toArray, _, hk, rfl, rfl, rfl, ?_, by simpa using rv⟩
      rw [List.size_toArray, ← hi.length.symm]; exact hz
  · by_cases hb : ∃ c ∈ cs, b = c.tb
    · rw [at_tab hb] at z
      cases z
      obtain ⟨c, hc, rfl⟩ := hb
      exact (T c hc).tab
    · by_cases h2 : b = a ∧ K.lookup a = none
      · obtain ⟨rfl, h3⟩ := h2
        rw [at_a h3] at z
        cases z
        exact ⟨ha, by rw [List.length_map]; exact hz, vs, _, rv, ha⟩
      · rw [show H b = none from (if_neg hb).trans (if_neg h2)] at z
        cases z
end
theorem walk_T {l : PySem.W.OpenLaw} {n k : Nat} {q : Program} {loose : List Str} {XP : (Str → Option Value) → Heap → Prop} {YP : World → Heap → Prop} {d : DefRec} {K : Params → PySem.W.Frag} {x : Str} {cs : World → List Tb}
    (hn : l.most = some n) (hn2 : n ≤ sizeLine) (hdf : d.params.defaults = []) (hr : Room k callerA) (hY : ∀ (w : World) (h : Heap), YP w h → (K w.params).In h)
    (hT : ∀ (w : World) (c : Tb), c ∈ cs w → (∃ (d : DefRec) (x : Str), (PyProof.Rows.recsOf q).find? (fun e => e.name == x) = some d ∧ PySem.W.tabIn (K w.params) x = some (c.co, c.tb)) ∧ (K w.params).lookup c.tb = none)
    (F : ∀ (w : World) (mg : Str → Option Value) (fa : Addr) (h : Heap), (K w.params).In h → h.Ns mainGlobals mg → mg d.name = some (.ref fa) →
      ∃ fd : FuncData, (∀ (s : Shared) (u : Value), BindsTo s fd ⟨[u], []⟩ [(x, u)]) ∧ ∀ base : Heap, (K w.params).In base → base.Ns mainGlobals mg → (∀ c ∈ cs w, LamX.TabB base mg c.co c.tb) → FnOkG l.prog w (K w.params) mg base (L2.CX l.prog w) k fa fd [x] (spLaw n (cs w) (K w.params))) :
    PySem.W.WalkO q loose XP YP l.row.toRowW d [] (fun f vs => PySem.call f vs) := by
  refine Att.attach_call hn hdf fun w s0 s1 mg mb fa o pm cd doc a vs ns G Y ho hd hcd hmg hobj hints hlen hg => ?_
  have KX := hY w _ Y
  have T : ∀ c ∈ cs w, TbAt (K w.params) s1.heap c := fun c hc => by
    obtain ⟨⟨d', y, h1, h2⟩, h3⟩ := hT w c hc
    obtain ⟨h4, h5⟩ := PySem.W.tab_of G.T KX h1 h2
    exact ⟨h5, h3, h4⟩
  obtain ⟨fd, hb, hF⟩ := F w mg fa _ KX G.T.g hmg
  obtain ⟨H, S, ok⟩ := start_at (P := l.prog) (w := w) T KX hobj hints (Nat.le_trans hlen hn2)
  exact law_run S KX G.T.g G.T.b G.T.builtins G.T.nolimit hg G.T.bmain T hobj hr ok hF hb hlen
/-- the law by data: at every script of at most n numbers True -/
def sLaw (n : Nat) : PSp := fun ds q _ => ∃ ns : List Int, ds = [.scr ns] ∧ ns.length ≤ n ∧ q (.bl true)
theorem tabs_nil {cs : List Tb} {H : Hp} (h : ∀ c ∈ cs, H c.tb = some (.tbl #[])) : LamX.Tabs (tbsOf cs) H := fun p hp => by
  obtain ⟨c, hc, rfl⟩ := List.mem_map.mp hp
  exact LamX.TabS.nil (h c hc)
theorem law_ok {P : Program} {w : World} {K : PySem.W.Frag} {mg : Str → Option Value} {base : Heap} {k n : Nat} {f : Addr} {fd : FuncData} {ps : List Str} {cs : List Tb} (F : FnOkG P w K mg base (L2.CX P w) k f fd ps (spOf K mg (tbsOf cs) (sLaw n))) : FnOkG P w K mg base (L2.CX P w) k f fd ps (spLaw n cs K) :=
  F.weak fun vs H Q E ⟨a, ns, ev, hs, hl, ht, hq⟩ => ⟨⟨none, fun _ => False, fun _ => False, tbsOf cs⟩, [.scr ns], fun d => d = .bl true, fun _ => False, rfl, ⟨(fun _ z => nomatch z), (fun _ z => z.elim), (fun _ z => z.elim), tabs_nil ht⟩, by subst ev; exact ⟨_, _, rfl, ⟨a, rfl, hs⟩, rfl⟩, ⟨ns, rfl, hl, rfl⟩, fun d v H' _ r e => by
    subst e
    cases r
    exact hq H', fun _ _ _ _ _ _ z => z.elim⟩
/-! ### facts of the top -/
theorem def_at {K : PySem.W.Frag} {mg : Str → Option Value} {h : Heap} {x : Str} {st : Stmt} {ps : List Str} {f : Addr} {oc : Value} {od an : Option Addr} {osl : Array (Option Value)} {kV doc pm cdv ct : Value} (X : K.In h) (G : h.Ns mainGlobals mg)
    (a : PySem.W.nsIn K mainGlobals x = some (some (.ref f))) (l : K.lookup f = some ⟨oc, od, .func (PySem.W.fnOf x x (defArgs st) (defBody st) (defScope st) .none kV doc pm an cdv ct), osl⟩) (c : PySem.W.codeIn K cdv x = true) (k : PySem.W.keepIn K (.ref f) = true)
    (b : ∀ (kV doc pm : Value) (an : Option Addr) (cdv ct : Value) (us : List Value), us.length = ps.length → bindArgs (PySem.W.fnOf x x (defArgs st) (defBody st) (defScope st) .none kV doc pm an cdv ct) ⟨us, []⟩ = pure (ps.zip us)) :
    DefAt K mg x st ps f (PySem.W.fnOf x x (defArgs st) (defBody st) (defScope st) .none kV doc pm an cdv ct) :=
  have F := fun_mk l c k
  ⟨F, PySem.W.mg_of X G a, F.binds b⟩
theorem def_e {K : PySem.W.Frag} {mg : Str → Option Value} {h : Heap} {x : Str} {st : Stmt} {ps : List Str} {f : Addr} {oc : Value} {od an : Option Addr} {osl : Array (Option Value)} {kV doc pm cdv ct : Value} (X : K.In h) (G : h.Ns mainGlobals mg)
    (a : PySem.W.nsIn K mainGlobals x = some (some (.ref f))) (l : K.lookup f = some ⟨oc, od, .func (PySem.W.fnOf x x (defArgs st) (defBody st) (defScope st) .none kV doc pm an cdv ct), osl⟩) (c : PySem.W.codeIn K cdv x = true) (k : PySem.W.keepIn K (.ref f) = true)
    (b : ∀ (kV doc pm : Value) (an : Option Addr) (cdv ct : Value) (us : List Value), us.length = ps.length → bindArgs (PySem.W.fnOf x x (defArgs st) (defBody st) (defScope st) .none kV doc pm an cdv ct) ⟨us, []⟩ = pure (ps.zip us)) : DefE K mg x st ps := ⟨f, _, def_at X G a l c k b⟩
theorem kst_int {K : PySem.W.Frag} {mg : Str → Option Value} {h : Heap} {x : Str} {i : Int} {t : Tok} (X : K.In h) (G : h.Ns mainGlobals mg) (a : PySem.W.nsIn K mainGlobals x = some (some (.int i t))) : Kst K mg x (.int i) := ⟨_, .int i, PySem.W.mg_of X G a, ⟨t, rfl⟩, fun _ _ => rfl⟩
theorem kst_str {K : PySem.W.Frag} {mg : Str → Option Value} {h : Heap} {x z : Str} {t : Tok} (X : K.In h) (G : h.Ns mainGlobals mg) (a : PySem.W.nsIn K mainGlobals x = some (some (.str z t))) : Kst K mg x (.str z) := ⟨_, .str z, PySem.W.mg_of X G a, ⟨t, rfl⟩, fun _ _ => rfl⟩
/-- a tuple of flat values in the written part -/
def flatK : D → Value → Bool
  | .non, .none => true
  | .bl b, .bool c => b == c
  | .int i, .int j _ => i == j
  | .str x, .str y _ => decide (x = y)
  | _, _ => false
theorem flatK_rp {K : PySem.W.Frag} : ∀ {d : D} {u : Value}, flatK d u = true → ∃ v, RelV v u ∧ ∀ wl H, Rp K wl H d v := fun {d u} h => by
  cases d <;> cases u <;> first | (simp [flatK] at h; done) | skip
  case non.none => exact ⟨.non, rfl, fun _ _ => rfl⟩
  case bl.bool b c =>
    obtain rfl : b = c := by simpa [flatK] using h
    exact ⟨.bl b, rfl, fun _ _ => rfl⟩
  case int.int i j t =>
    obtain rfl : i = j := by simpa [flatK] using h
    exact ⟨.int i, ⟨t, rfl⟩, fun _ _ => rfl⟩
  case str.str x y t =>
    obtain rfl : x = y := by simpa [flatK] using h
    exact ⟨.str x, ⟨t, rfl⟩, fun _ _ => rfl⟩
def flatsK : List D → List Value → Bool
  | [], [] => true
  | d :: ds, u :: us => flatK d u && flatsK ds us
  | _, _ => false
theorem flatsK_rp {K : PySem.W.Frag} : ∀ {ds : List D} {us : List Value}, flatsK ds us = true → ∃ vs, Vals vs us ∧ ∀ wl H, RpL K wl H ds vs
  | [], [], _ => ⟨[], .nil, fun _ _ => rfl⟩
  | d :: ds, u :: us, h => by
    have h2 : (flatK d u && flatsK ds us) = true := h
    rw [Bool.and_eq_true] at h2
    obtain ⟨v, r, a⟩ := flatK_rp (K := K) h2.1
    obtain ⟨vs, r2, a2⟩ := flatsK_rp (K := K) h2.2
    exact ⟨v :: vs, .cons r r2, fun wl H => ⟨v, vs, rfl, a wl H, a2 wl H⟩⟩
  | [], _ :: _, h => by simp [flatsK] at h
  | _ :: _, [], h => by simp [flatsK] at h
theorem kst_tup {K : PySem.W.Frag} {mg : Str → Option Value} {h : Heap} {x : Str} {f : Addr} {o : Obj} {its : Array Value} {n : Nat} {ds : List D} (X : K.In h) (G : h.Ns mainGlobals mg) (a : PySem.W.nsIn K mainGlobals x = some (some (.ref f)))
    (l : K.lookup f = some o) (c : o.cls = .type "tuple") (d : o.data = .seq its n) (z : its.size ≤ 1000) (e : flatsK ds its.toList = true) : Kst K mg x (.tup ds) := by
  obtain ⟨vs, r, a2⟩ := flatsK_rp (K := K) e
  exact ⟨_, .ref f, PySem.W.mg_of X G a, rfl, fun wl H => ⟨f, vs, rfl, .inr ⟨o, its, n, l, c, d, Nat.le_trans z (by decide), r⟩, a2 wl H⟩⟩
theorem blt_none {K : PySem.W.Frag} {mg : Str → Option Value} {h : Heap} {x : Str} (X : K.In h) (G : h.Ns mainGlobals mg) (a : PySem.W.nsIn K mainGlobals x = some none) : mg x = none := PySem.W.mg_none_of X G a
end PL

namespace PL
open PySem PySem.Spec L2

/-! # laws of the readings -/
mutual
theorem tgE_mono : ∀ (t : Tg) (d : D) (ρ : Ev) (q q' : Ev → Prop), (∀ ρ, q ρ → q' ρ) → tgE t d ρ q → tgE t d ρ q'
  | .nm i, d, ρ, q, q', m, h => m _ h
  | .tp l, d, ρ, q, q', m, ⟨ds, e, hl, h⟩ => ⟨ds, e, hl, tgsE_mono l ds ρ q q' m h⟩
  | .wl o i, d, ρ, q, q', m, ⟨ho, n, e, hn, h⟩ => ⟨ho, n, e, hn, m _ h⟩
theorem tgsE_mono : ∀ (l : List Tg) (ds : List D) (ρ : Ev) (q q' : Ev → Prop), (∀ ρ, q ρ → q' ρ) → tgsE l ds ρ q → tgsE l ds ρ q'
  | [], ds, ρ, q, q', m, ⟨e, h⟩ => ⟨e, m _ h⟩
  | t :: l, ds, ρ, q, q', m, ⟨d, r, e, h⟩ => ⟨d, r, e, tgE_mono t d ρ _ _ (fun ρ2 h2 => tgsE_mono l r ρ2 q q' m h2) h⟩
end
/-- a comprehension whose elements are told by a function; none: left out -/
theorem lc_fm {α : Type} {t : Tg} {c : PB} {f : PX} {own : List Nat} {ρ : Ev} {q : D → Prop} {e : α → D} (F : α → Option D) : ∀ (l : List α) (acc : List D),
    (∀ a ∈ l, ∀ (Q : D → Prop) (n : Prop), (∀ y, F a = some y → Q y) → (F a = none → n) → tgE t (e a) (wipeE ρ own) fun ρ2 => c ρ2 (fun b => (b = true → f ρ2 Q fun _ => False) ∧ (b = false → n)) fun _ => False) →
    acc.length + l.length ≤ LIM → q (.lst (acc ++ l.filterMap F)) → fLcLoop t c f own ρ q (l.map e) acc
  | [], acc, _, _, h => by
    show q (.lst acc)
    simpa using h
  | a :: l, acc, hs, hl, h => by
    rw [List.length_cons] at hl
    show tgE t (e a) (wipeE ρ own) fun ρ2 => c ρ2 (fun b => (b = true → f ρ2 (fun y => acc.length < LIM ∧ fLcLoop t c f own ρ q (l.map e) (acc ++ [y])) fun _ => False) ∧ (b = false → fLcLoop t c f own ρ q (l.map e) acc)) fun _ => False
    refine hs a (List.mem_cons_self ..) _ _ (fun y hy => ⟨by omega, ?_⟩) fun hy => ?_
    · refine lc_fm F l (acc ++ [y]) (fun b hb => hs b (List.mem_cons_of_mem _ hb)) (by rw [List.length_append, List.length_singleton]; omega) ?_
      rw [List.filterMap_cons, hy] at h
      rw [List.append_assoc]
      exact h
    · refine lc_fm F l acc (fun b hb => hs b (List.mem_cons_of_mem _ hb)) (by omega) ?_
      rw [List.filterMap_cons, hy] at h
      exact h
theorem lc_map {α : Type} {t : Tg} {f : PX} {own : List Nat} {ρ : Ev} {q : D → Prop} {e : α → D} (F : α → D) (l : List α)
    (hs : ∀ a ∈ l, ∀ (Q : D → Prop), Q (F a) → tgE t (e a) (wipeE ρ own) fun ρ2 => f ρ2 Q fun _ => False)
    (hl : l.length ≤ LIM) (h : q (.lst (l.map F))) : fLcLoop t tYes' f own ρ q (l.map e) [] := by
  refine lc_fm (fun a => some (F a)) l [] (fun a ha Q n h1 h2 => ?_) (by simpa using hl) (by simpa using h)
  exact tgE_mono t _ _ _ _ (fun ρ2 h3 => ⟨fun _ => h3, fun z => by cases z⟩) (hs a ha Q (h1 _ rfl))
/-- .. whose elements are told by a relation -/
theorem lc_rel {α : Type} {t : Tg} {f : PX} {own : List Nat} {ρ : Ev} {q : D → Prop} {e : α → D} (R : α → D → Prop) : ∀ (l : List α) (acc : List D),
    (∀ a ∈ l, ∀ (Q : D → Prop), (∀ y, R a y → Q y) → tgE t (e a) (wipeE ρ own) fun ρ2 => f ρ2 Q fun _ => False) →
    acc.length + l.length ≤ LIM → (∀ ys : List D, ys.length = l.length → (∀ (i : Nat) a y, l[i]? = some a → ys[i]? = some y → R a y) → q (.lst (acc ++ ys))) → fLcLoop t tYes' f own ρ q (l.map e) acc
  | [], acc, _, _, h => by
    show q (.lst acc)
    have := h [] rfl (fun i a y z => by simp at z)
    simpa using this
  | a :: l, acc, hs, hl, h => by
    rw [List.length_cons] at hl
    show tgE t (e a) (wipeE ρ own) fun ρ2 => tYes' ρ2 (fun b => (b = true → f ρ2 (fun y => acc.length < LIM ∧ fLcLoop t tYes' f own ρ q (l.map e) (acc ++ [y])) fun _ => False) ∧ (b = false → fLcLoop t tYes' f own ρ q (l.map e) acc)) fun _ => False
    refine tgE_mono t _ _ _ _ (fun ρ2 h3 => ⟨fun _ => h3, fun z => by cases z⟩) (hs a (List.mem_cons_self ..) _ fun y hy => ⟨by omega, ?_⟩)
    refine lc_rel R l (acc ++ [y]) (fun b hb => hs b (List.mem_cons_of_mem _ hb)) (by rw [List.length_append, List.length_singleton]; omega) fun ys hl2 hr => ?_
    rw [List.append_assoc]
    refine h (y :: ys) (by rw [List.length_cons, List.length_cons, hl2]) fun i b z h1 h2 => ?_
    cases i with
    | zero =>
      have e1 : a = b := by simpa using h1
      have e2 : y = z := by simpa using h2
      subst e1; subst e2
      exact hy
    | succ i => exact hr i b z (by simpa using h1) (by simpa using h2)
/-- a for whose turns keep a word -/
theorem loop_inv {t : Tg} {b : PSt} {P : Pn} (I : Nat → Ev → Prop) : ∀ (ds : List D) (n : Nat) (ρ : Ev), I n ρ →
    (∀ (i : Nat) d ρ, ds[i]? = some d → I (n + i) ρ → ∀ N : Ev → Prop, (∀ ρ', I (n + i + 1) ρ' → N ρ') → tgE t d ρ fun ρ' => b { P with nx := N, ct := N, bk := P.nx } ρ') →
    (∀ ρ, I (n + ds.length) ρ → P.nx ρ) → fLoop t b P ds ρ
  | [], n, ρ, h, _, hd => hd ρ h
  | d :: ds, n, ρ, h, hs, hd => by
    show tgE t d ρ fun ρ' => b { P with nx := fLoop t b P ds, ct := fLoop t b P ds, bk := P.nx } ρ'
    refine hs 0 d ρ rfl h _ fun ρ' h' => ?_
    refine loop_inv I ds (n + 1) ρ' h' (fun i d' ρ2 e hi N hN => ?_) fun ρ2 h2 => hd ρ2 ?_
    · have := hs (i + 1) d' ρ2 (by simpa using e) (by rw [show n + (i + 1) = n + 1 + i by omega]; exact hi) N (fun ρ3 h3 => hN ρ3 (by rw [show n + 1 + i + 1 = n + (i + 1) + 1 by omega]; exact h3))
      exact this
    · rw [List.length_cons, show n + (ds.length + 1) = n + 1 + ds.length by omega]; exact h2
theorem tame_int {n : Int} (h : n.natAbs < 1000000000000) : tame (.int n) := ⟨by simp [cost, h], by simp [dep]⟩
theorem cost_int {n : Int} (h : n.natAbs < 1000000000000) : cost (.int n) = 1 := by simp [cost, h]
theorem cost_str {x : Str} (h : PyData.strOk x = true) : cost (.str x) = x.length + 1 := by simp [cost, h]
theorem tame_str {x : Str} (h : PyData.strOk x = true) (hl : x.length ≤ 10000) : tame (.str x) := ⟨by rw [cost_str h]; omega, by simp [dep]⟩
theorem costL_le {c : Nat} : ∀ ds : List D, (∀ d ∈ ds, cost d ≤ c) → costL ds ≤ ds.length * c
  | [], _ => by simp [costL]
  | d :: ds, h => by
    have := h d (List.mem_cons_self ..)
    have := costL_le ds fun e he => h e (List.mem_cons_of_mem _ he)
    show cost d + costL ds ≤ (ds.length + 1) * c
    rw [Nat.add_mul]
    omega
theorem depL_le {c : Nat} : ∀ ds : List D, (∀ d ∈ ds, dep d ≤ c) → depL ds ≤ c
  | [], _ => by simp [depL]
  | d :: ds, h => by
    have := h d (List.mem_cons_self ..)
    have := depL_le ds fun e he => h e (List.mem_cons_of_mem _ he)
    show max (dep d) (depL ds) ≤ c
    omega
end PL

namespace PL
open PySem PySem.Spec L2

theorem mul_i {i j : Int} {q : D → Prop} (h : CMul i j) (hq : q (.int (i * j))) : mulG (.int i) (.int j) q := ⟨h, hq⟩
theorem mod_i {i j : Int} {q : D → Prop} (h : 0 < j) (hq : q (.int (i % j))) : modG (.int i) (.int j) q := ⟨h, hq⟩
theorem div_i {i j : Int} {q : D → Prop} (h : CDiv i j) (hq : q (.int (i / j))) : fdivG (.int i) (.int j) q := ⟨h, hq⟩
theorem toI {i : Int} {q : D → Prop} (hq : q (.int i)) : toIntG [.int i] q := hq
theorem well0 {q : D → Prop} (h : ∀ n : Int, 0 ≤ n → q (.int n)) : ixG .well (.int 0) q := .inl ⟨rfl, h⟩
theorem well1 {q : D → Prop} (h : ∀ n : Int, 0 ≤ n → n < 2147483648 → q (.int n)) : ixG .well (.int 1) q := .inr (.inl ⟨rfl, h⟩)
theorem well2 {q : D → Prop} (h : ∀ n : Int, q (.int n)) : ixG .well (.int 2) q := .inr (.inr ⟨rfl, h⟩)
theorem wq {b : Bool} {A B : Prop} (h1 : b = true → A) (h2 : b = false → B) : (b = true → A) ∧ (b = false → B) := ⟨h1, h2⟩
theorem eqv_same {a : D} (h : PyData.eqv (toPy a) (toPy a) = true) : eqvD a a = true := h
theorem ne_str {s t : Str} {q : D → Prop} (e : s = t) (h : q (.bl false)) : neG (.str s) (.str t) q := by
  subst e
  exact ⟨.s, by rw [eqv_str, decide_eq_true rfl]; exact h⟩
theorem repr_l {xs : List D} {q : D → Prop} (t : tame (.lst xs)) (h : q (.str (shownD (.lst xs)))) : reprG [.lst xs] q := ⟨t, h⟩
theorem for_i {f : PAx} {t : Tg} {b : PSt} {P : Pn} {ρ : Ev} (h : f ρ (fun ds => fLoop t b P ds ρ) (P.ex ρ)) : sFor f t b P ρ := h
theorem min_i {i j : Int} {q : D → Prop} (h : ∀ m : Int, m ≤ i → m ≤ j → (m = i ∨ m = j) → q (.int m)) : minG [.int i, .int j] q := by
  show q (.int (if j < i then j else i))
  split <;> exact h _ (by omega) (by omega) (by omega)
theorem max_i {i j : Int} {q : D → Prop} (h : ∀ m : Int, i ≤ m → j ≤ m → (m = i ∨ m = j) → q (.int m)) : maxG [.int i, .int j] q := by
  show q (.int (if j > i then j else i))
  split <;> exact h _ (by omega) (by omega) (by omega)
theorem list_t {xs : List D} {q : D → Prop} (h : q (.lst xs)) : listG [.tup xs] q := h
theorem list_l {xs : List D} {q : D → Prop} (h : q (.lst xs)) : listG [.lst xs] q := h
theorem limN {n : Nat} (h : n ≤ 1000) : n ≤ LIM := Nat.le_trans h (by decide)
theorem wT {A B : Prop} (h : A) : (True → A) ∧ (true = false → B) := ⟨fun _ => h, (fun z => by cases z)⟩
theorem wt {A B : Prop} (h : A) : (true = true → A) ∧ (true = false → B) := ⟨fun _ => h, (fun z => by cases z)⟩
theorem wf {A B : Prop} (h : B) : (false = true → A) ∧ (false = false → B) := ⟨(fun z => by cases z), fun _ => h⟩
theorem wF {A B : Prop} (h : B) : (false = true → A) ∧ (True → B) := ⟨(fun z => by cases z), fun _ => h⟩
theorem ix_t {xs : List D} {j : Nat} {d : D} {q : D → Prop} (h : xs[j]? = some d) (hq : q d) : ixG (.tup xs) (.int (j : Int)) q := ⟨d, atI_nat h, hq⟩
theorem ix_l {xs : List D} {j : Nat} {d : D} {q : D → Prop} (h : xs[j]? = some d) (hq : q d) : ixG (.lst xs) (.int (j : Int)) q := ⟨d, atI_nat h, hq⟩
theorem ix_end {xs : List D} {d : D} {q : D → Prop} (h : xs.getLast? = some d) (hq : q d) : ixG (.tup xs) (.int (-1)) q := by
  obtain ⟨ys, rfl⟩ := List.getLast?_eq_some_iff.mp h
  exact ⟨d, atI_last ys d, hq⟩
theorem ix_endL {xs : List D} {d : D} {q : D → Prop} (h : xs.getLast? = some d) (hq : q d) : ixG (.lst xs) (.int (-1)) q := by
  obtain ⟨ys, rfl⟩ := List.getLast?_eq_some_iff.mp h
  exact ⟨d, atI_last ys d, hq⟩
theorem cut_from (xs : List D) (k : Nat) : cutD xs (some (k : Int)) none = xs.drop k := by
  unfold cutD
  rw [HT.sIx_nat, HT.sIx_none]
  by_cases h : k ≤ xs.length
  · rw [Nat.min_eq_left h, List.take_of_length_le (by rw [List.length_drop]; omega)]
  · rw [Nat.min_eq_right (by omega), Nat.sub_self, List.take_zero, List.drop_eq_nil_of_le (by omega)]
theorem cut_to (xs : List D) (k : Nat) : cutD xs none (some (k : Int)) = xs.take k := by
  unfold cutD
  rw [HT.sIx_nat, HT.sIx_none, List.drop_zero, Nat.sub_zero]
  by_cases h : k ≤ xs.length
  · rw [Nat.min_eq_left h]
  · rw [Nat.min_eq_right (by omega), List.take_of_length_le (Nat.le_refl _), List.take_of_length_le (by omega)]
theorem sl_from {xs : List D} {k : Nat} {q : D → Prop} (h : q (.tup (xs.drop k))) : slG (.tup xs) (some (k : Int)) none q := by
  show q (.tup (cutD xs (some (k : Int)) none))
  rw [cut_from]; exact h
theorem sl_to {xs : List D} {k : Nat} {q : D → Prop} (h : q (.tup (xs.take k))) : slG (.tup xs) none (some (k : Int)) q := by
  show q (.tup (cutD xs none (some (k : Int))))
  rw [cut_to]; exact h
theorem sIx_neg (n d : Nat) : HT.sIx n d (some (-1)) = n - 1 := by
  show (if (-1 : Int) < 0 then ((-1 : Int) + (n : Int)).toNat else min (-1 : Int).toNat n) = _
  rw [if_pos (by decide)]; omega
theorem cut_init (xs : List D) : cutD xs none (some (-1)) = xs.dropLast := by
  unfold cutD
  rw [sIx_neg, HT.sIx_none, List.drop_zero, Nat.sub_zero, List.dropLast_eq_take]
theorem cut_end (xs : List D) : cutD xs (some (-1)) none = xs.drop (xs.length - 1) := by
  unfold cutD
  rw [sIx_neg, HT.sIx_none, List.take_of_length_le (by rw [List.length_drop]; omega)]
theorem sl_init {xs : List D} {q : D → Prop} (h : q (.tup xs.dropLast)) : slG (.tup xs) none (some (-1)) q := by
  show q (.tup (cutD xs none (some (-1))))
  rw [cut_init]; exact h
theorem sl_end {xs : List D} {q : D → Prop} (h : q (.tup (xs.drop (xs.length - 1)))) : slG (.tup xs) (some (-1)) none q := by
  show q (.tup (cutD xs (some (-1)) none))
  rw [cut_end]; exact h
theorem add_int {i j : Int} {q : D → Prop} (h : q (.int (i + j))) : addG (.int i) (.int j) q := h
theorem eqv_nn {a b : D} : eqvD a b = PyData.eqv (toPy a) (toPy b) := rfl
theorem law_end {P : Program} {w : World} {K : PySem.W.Frag} {mg : Str → Option Value} {k n : Nat} {x p : Str} {st : Stmt} {fa : Addr} {cs : List Tb} (D : DefE K mg x st [p]) (hmg : mg x = some (.ref fa))
    (hb : ∀ (kV doc pm : Value) (an : Option Addr) (cdv ct u : Value), bindArgs (PySem.W.fnOf x x (defArgs st) (defBody st) (defScope st) .none kV doc pm an cdv ct) ⟨[u], []⟩ = pure [(p, u)])
    (F : ∀ base f fd, (∀ c ∈ cs, LamX.TabB base mg c.co c.tb) → DefAt K mg x st [p] f fd → FnOkG P w K mg base (L2.CX P w) k f fd [p] (spOf K mg (tbsOf cs) (sLaw n))) :
    ∃ fd : FuncData, (∀ (s : Shared) (u : Value), BindsTo s fd ⟨[u], []⟩ [(p, u)]) ∧ ∀ base : Heap, K.In base → base.Ns mainGlobals mg → (∀ c ∈ cs, LamX.TabB base mg c.co c.tb) → FnOkG P w K mg base (L2.CX P w) k fa fd [p] (spLaw n cs K) := by
  obtain ⟨f, fd, D⟩ := D
  have e := D.2.1
  rw [hmg] at e
  cases e
  refine ⟨fd, fun s u => ?_, fun base _ _ hT => law_ok (F base fa fd hT D)⟩
  obtain ⟨oc, od, kV, doc, pm, an, cdv, ct, osl, rfl, _, _⟩ := D.1.ex
  exact .of_eq (hb kV doc pm an cdv ct u)
end PL

namespace PL
open PySem PySem.Spec L2

/-! # lists of the def's own: made, appended to, given away -/
def Wd.take (w : Wd) (p : Addr) : Wd := ⟨w.wl, w.hid, fun a => a = p ∨ w.ow a, w.tabs⟩
def Wd.drop (w : Wd) (p : Addr) : Wd := ⟨w.wl, w.hid, fun a => a ≠ p ∧ w.ow a, w.tabs⟩
section
variable {K : PySem.W.Frag} {wl : Wd} {H : Hp} {ρ : Ev} {σ : St} {p : Addr}
theorem take_step {vs : List V} (hk : Wk wl H) (n : H p = none) : Step wl H (wl.take p) (upd H p (.lst vs)) := by
  have x : Ext wl H (upd H p (.lst vs)) := Ext.new hk n
  refine ⟨rfl, rfl, fun a o w _ e t => x.keep a o w e t, fun _ z => z, fun _ z => .inl z, fun a z => z.elim (fun z => .inr (Fresh.of (by rw [z]; exact n))) .inl, ⟨x.wk.well, x.wk.hid, fun a z => ?_, x.wk.tabs⟩⟩
  rcases z with rfl | z
  · exact ⟨_, upd_same, True.intro⟩
  · exact x.wk.ow a z
theorem take_ev {vs : List V} (hk : Wk wl H) (n : H p = none) (he : EvR K wl H ρ σ) : EvR K (wl.take p) (upd H p (.lst vs)) ρ σ := by
  have x := take_step (vs := vs) hk n
  refine ⟨he.len, fun i d e => let ⟨v, a, b⟩ := he.at_ i d e; ⟨v, a, Rp.step hk x d v b⟩, fun i xs e => ?_, he.uni⟩
  obtain ⟨a, us, h1, h2, h3, h4, h5⟩ := he.ow i xs e
  exact ⟨a, us, h1, h2, .inr h3, by rw [upd_ne (ne_of_none h4 n)]; exact h4, RpL.step hk x xs us h5⟩
theorem put_ow {xs : List D} {vs : List V} {i : Nat} (he : EvR K wl H ρ σ) (h1 : wl.wl ≠ some p ∧ ¬ wl.hid p) (h2 : wl.ow p) (h3 : H p = some (.lst vs)) (h4 : RpL K wl H xs vs)
    (no : ∀ (j : Nat) (ys : List D), j ≠ i → ρ[j]? = some (.ow ys) → σ[j]? ≠ some (some (.ref p))) : EvR K wl H (ρ.set i (.ow xs)) (σ.set i (some (.ref p))) := by
  refine ⟨by rw [List.length_set, List.length_set]; exact he.len, fun j c e => ?_, fun j c e => ?_, fun j k ys zs a e1 e2 e3 e4 => ?_⟩
  · rcases sl_get e with ⟨rfl, z⟩ | ⟨n, z⟩
    · cases z
    · rw [List.getElem?_set_ne n]; exact he.at_ j c z
  · have hl := e
    rcases sl_get e with ⟨rfl, z⟩ | ⟨n, z⟩
    · cases z
      exact ⟨p, vs, by rw [List.getElem?_set_self (by rw [← he.len]; exact set_lt hl)], h1, h2, h3, h4⟩
    · rw [List.getElem?_set_ne n]; exact he.ow j c z
  · rcases sl_get e1 with ⟨rfl, z1⟩ | ⟨n1, z1⟩
    · rcases sl_get e2 with ⟨rfl, z2⟩ | ⟨n2, z2⟩
      · rfl
      · rw [List.getElem?_set_ne n2] at e4
        rw [List.getElem?_set_self (by rw [← he.len]; exact set_lt e1)] at e3
        cases e3
        exact (no k zs (Ne.symm n2) z2 e4).elim
    · rcases sl_get e2 with ⟨rfl, z2⟩ | ⟨n2, z2⟩
      · rw [List.getElem?_set_ne n1] at e3
        rw [List.getElem?_set_self (by rw [← he.len]; exact set_lt e2)] at e4
        cases e4
        exact (no j ys (Ne.symm n1) z1 e3).elim
      · rw [List.getElem?_set_ne n1] at e3
        rw [List.getElem?_set_ne n2] at e4
        exact he.uni j k ys zs a z1 z2 e3 e4
/-- a new list, the def's own -/
theorem new_ow {xs : List D} {vs : List V} {i : Nat} (hk : Wk wl H) (n : H p = none) (he : EvR K wl H ρ σ) (r : RpL K wl H xs vs) : EvR K (wl.take p) (upd H p (.lst vs)) (ρ.set i (.ow xs)) (σ.set i (some (.ref p))) := by
  have f := hk.new n
  refine put_ow (take_ev hk n he) ⟨f.1, f.2.1⟩ (.inl rfl) upd_same (RpL.step hk (take_step hk n) _ _ r) fun j ys _ e z => ?_
  obtain ⟨a, us, h1, _, _, h4, _⟩ := he.ow j ys e
  rw [h1] at z
  cases z
  rw [n] at h4; cases h4
/-- .. appended to -/
theorem app_step {vs us : List V} (hk : Wk wl H) (h1 : wl.wl ≠ some p) (h2 : wl.ow p) (h3 : H p = some (.lst vs)) : Step wl H wl (upd H p (.lst us)) := by
  have k := hk.write (o := .lst us) h3 True.intro True.intro fun z => (h1 z).elim
  refine ⟨rfl, rfl, fun a o _ m e _ => ?_, fun _ z => z, fun _ z => .inl z, fun _ z => .inl z, k⟩
  · rw [upd_ne (fun z => m (by rw [z]; exact h2))]; exact e
theorem app_ev {xs : List D} {vs : List V} {i : Nat} {d : D} {v : V} (hk : Wk wl H) (he : EvR K wl H ρ σ) (hi : ρ[i]? = some (.ow xs)) (hs : σ[i]? = some (some (.ref p))) (h1 : wl.wl ≠ some p ∧ ¬ wl.hid p) (h2 : wl.ow p) (h3 : H p = some (.lst vs)) (h4 : RpL K wl H xs vs) (r : Rp K wl H d v) :
    EvR K wl (upd H p (.lst (vs ++ [v]))) (ρ.set i (.ow (xs ++ [d]))) σ := by
  have nf : ¬ wl.fr p := fun z => z.2.2 h2
  have e1 : EvR K wl (upd H p (.lst (vs ++ [v]))) (ρ.set i .no) (σ.set i (some (.ref p))) := by
    refine ⟨by rw [List.length_set, List.length_set]; exact he.len, fun j c e => ?_, fun j c e => ?_, fun j k ys zs a e1 e2 e3 e4 => ?_⟩
    · rcases sl_get e with ⟨rfl, z⟩ | ⟨n, z⟩
      · cases z
      · obtain ⟨u, a, b⟩ := he.at_ j c z
        exact ⟨u, by rw [List.getElem?_set_ne n]; exact a, Rp.write nf h3 True.intro c u b⟩
    · rcases sl_get e with ⟨rfl, z⟩ | ⟨n, z⟩
      · cases z
      · obtain ⟨a, us, g1, g2, g3, g4, g5⟩ := he.ow j c z
        have na : a ≠ p := fun q => n (he.uni i j xs c p hi z hs (by rw [← q]; exact g1))
        exact ⟨a, us, by rw [List.getElem?_set_ne n]; exact g1, g2, g3, by rw [upd_ne na]; exact g4, RpL.write nf h3 True.intro c us g5⟩
    · rcases sl_get e1 with ⟨rfl, z1⟩ | ⟨n1, z1⟩
      · cases z1
      · rcases sl_get e2 with ⟨rfl, z2⟩ | ⟨n2, z2⟩
        · cases z2
        · rw [List.getElem?_set_ne n1] at e3
          rw [List.getElem?_set_ne n2] at e4
          exact he.uni j k ys zs a z1 z2 e3 e4
  have es : σ.set i (some (.ref p)) = σ := by
    obtain ⟨hl, q⟩ := List.getElem?_eq_some_iff.mp hs
    rw [← q]; exact List.set_getElem_self hl
  have e2 := put_ow (i := i) (p := p) (xs := xs ++ [d]) e1 h1 h2 upd_same (RpL.write nf h3 True.intro _ _ (h4.append (RpL.one r))) fun j ys n e z => by
    rcases sl_get e with ⟨rfl, q⟩ | ⟨m, q⟩
    · cases q
    · rw [List.getElem?_set_ne m] at z
      exact m (he.uni i j xs ys p hi q hs z)
  rw [List.set_set, List.set_set, es] at e2
  exact e2
/-- .. given away: from now on it stays -/
theorem drop_step (hk : Wk wl H) : Step wl H (wl.drop p) H :=
  ⟨rfl, rfl, fun _ _ _ _ e _ => e, fun _ z => z, fun _ z => .inl z, fun _ z => .inl z.2, ⟨hk.well, hk.hid, fun a z => hk.ow a z.2, hk.tabs⟩⟩
theorem drop_ev {xs : List D} {i : Nat} (hk : Wk wl H) (he : EvR K wl H ρ σ) (hi : ρ[i]? = some (.ow xs)) : ∃ p, EvR K (wl.drop p) H (ρ.set i (.dt (.lst xs))) σ := by
  obtain ⟨p, vs, hs, h1, h2, h3, h4⟩ := he.ow i xs hi
  have x := drop_step (p := p) hk
  refine ⟨p, by rw [List.length_set]; exact he.len, fun j c e => ?_, fun j c e => ?_, fun j k ys zs a e1 e2 e3 e4 => ?_⟩
  · rcases sl_get e with ⟨rfl, z⟩ | ⟨n, z⟩
    · cases z
      exact ⟨.ref p, hs, p, vs, rfl, ⟨h1.1, h1.2, fun z => z.1 rfl⟩, h3, RpL.step hk x _ _ h4⟩
    · obtain ⟨u, a, b⟩ := he.at_ j c z
      exact ⟨u, a, Rp.step hk x c u b⟩
  · rcases sl_get e with ⟨rfl, z⟩ | ⟨n, z⟩
    · cases z
    · obtain ⟨a, us, g1, g2, g3, g4, g5⟩ := he.ow j c z
      have na : a ≠ p := fun q => n (he.uni i j xs c p hi z hs (by rw [← q]; exact g1))
      exact ⟨a, us, g1, g2, ⟨na, g3⟩, g4, RpL.step hk x _ _ g5⟩
  · rcases sl_get e1 with ⟨rfl, z1⟩ | ⟨n1, z1⟩
    · cases z1
    · rcases sl_get e2 with ⟨rfl, z2⟩ | ⟨n2, z2⟩
      · cases z2
      · exact he.uni j k ys zs a z1 z2 e3 e4
end
section
variable {X : Cx} {W : WY}
/-- x = [..], x the def's own from now on -/
def sOw (i : Nat) (f : PAx) : PSt := fun P ρ => f ρ (fun ds => ds.length ≤ LIM ∧ P.nx (ρ.set i (.ow ds))) (P.ex ρ)
theorem ds_ow (i : Nat) {x : Str} {es : List Expr} {f : PAx} {pos pos' lpos : Pos} (hN : X.N.Nodup) (hi : X.N[i]? = some x) (hx : Loc X.env.scope x) (ha : PA X es (eA X W f)) (hs : swapsWith (.List es lpos) (some (.Name x pos')) pos.line X.env = pure false := by rfl) (hf : X.fn x = true ∨ X.env.scope.names.lookup x = some .local := by first | exact .inl rfl | exact .inr rfl) :
    PS X (.Assign [.Name x pos'] (.List es lpos) pos) (eS X W (sOw i f)) := by
  refine PS.weak (ps_set hN hi hx (pe_lst ha) hs hf) fun En σ H ⟨wl, ρ, P, hk, he, h, r⟩ => ?_
  refine ⟨wl, ρ, _, P.ex ρ, hk, he, h, fun ds vs H1 e1 r1 ⟨hl, h1⟩ => ⟨lim_line (by rw [r1.length]; exact hl), fun p hp => ?_⟩, r.out hk he⟩
  exact r.nx (wl.take p) _ _ _ (e1.step.trans (take_step e1.wk hp)) (new_ow e1.wk hp (he.ext hk e1) r1) h1
/-- x.append(e) -/
def sApp (i : Nat) (f : PX) : PSt := fun P ρ => ∃ xs, ρ[i]? = some (.ow xs) ∧ f ρ (fun d => xs.length < LIM ∧ P.nx (ρ.set i (.ow (xs ++ [d])))) (P.ex ρ)
theorem ds_app (i : Nat) {x : Str} {e : Expr} {f : PX} {p1 p2 p3 pos : Pos} (hN : X.N[i]? = some x) (hv : Vis X.env.scope x) (he : PE X e (eE X W f)) (hd : (x == ("__debug__" : Str)) = false := by decide) (hcd : (x == ("__classdict__" : Str)) = false := by decide)
    (hbase : attributeBase (.Name x p1) "append" X.env (eval (.Name x p1) X.env) = eval (.Name x p1) X.env := by rfl)
    (hfew : ((backTo p3 (starEach [e] X.env)).all (fun x => !x.1) && (backToKw p3 (keywordEach [] X.env)).all (fun x => x.1.isSome) && decide (([e] : List Expr).length + ([] : List Keyword).length + (if ([] : List Keyword).isEmpty then 0 else 1) < 30)) = true := by rfl)
    (hl : (p2.endLine == p3.line) = true := by rfl) (hst : starEach [e] X.env = (false, eval e X.env) :: starEach [] X.env := by rfl)
    (hsw : swapsWith (.Call (.Attribute (.Name x p1) "append" p2) [e] [] p3) none pos.line X.env = pure false := by rfl) :
    PS X (.Expr (.Call (.Attribute (.Name x p1) "append" p2) [e] [] p3) pos) (eS X W (sApp i f)) := by
  refine PS.weak (ps_expr (pe_bm PySem.F.plainAttrs_list PySem.F.slot_list_append PySem.F.type_list_append mt_append (pe_var hN hv hd hcd) (pa_cons he pa_nil hst) (hbase := hbase) (hfew := hfew) (hline := hl) (hs := hst)) hsw) fun En σ H ⟨wl, ρ, P, hk, hev, ⟨xs, hi, h⟩, r⟩ => ?_
  obtain ⟨p, vs, hs, h1, h2, h3, h4⟩ := hev.ow i xs hi
  refine ⟨.ref p, hs, .inl ⟨rfl, vs, SqL.of h3⟩, wl, ρ, _, P.ex ρ, hk, hev, h, fun d v H1 e1 r1 ⟨hlen, hn⟩ => ?_, r.out hk hev⟩
  have h3' : H1 p = some (.lst vs) := e1.keep _ _ h1.1 h3 (fun _ z => nomatch z)
  have h4' := RpL.ext hk e1 _ _ h4
  refine ⟨p, vs, v, rfl, rfl, h3', lim_lt (by rw [h4'.length]; exact Nat.le_of_lt hlen), ?_⟩
  exact r.nx wl _ σ _ (e1.step.trans (app_step e1.wk h1.1 h2 h3')) (app_ev e1.wk (hev.ext hk e1) hi hs h1 h2 h3' h4' r1) hn
/-- the own list of a name is given away ahead of a statement -/
def sFrz (i : Nat) (f : PSt) : PSt := fun P ρ => ∃ xs, ρ[i]? = some (.ow xs) ∧ f P (ρ.set i (.dt (.lst xs)))
theorem ds_frz (i : Nat) {st : Stmt} {f : PSt} (h : PS X st (eS X W f)) : PS X st (eS X W (sFrz i f)) :=
  PS.weak h fun En σ H ⟨wl, ρ, P, hk, he, ⟨xs, hi, hf⟩, r⟩ => by
    obtain ⟨p, he2⟩ := drop_ev hk he hi
    exact ⟨wl.drop p, _, P, (drop_step hk).wk, he2, hf, r.step (drop_step hk)⟩
end
end PL

namespace PL
open PySem PySem.Spec L2
open PyProof.Rows PySem.W

/-! # sorted by a key: any key whose calls keep the data -/
def pyk (key : D → D) : D → PyData := fun d => toPy (key d)
/-- one call of the key: whatever stands apart stays, the answer stands for the key of the datum -/
def KeyCall (X : Cx) (pins : List (Addr × Obj)) (σ : L2.St) (H0 : Hp) (wl : Wd) (f : Value) (P : D → Prop) (key : D → D) : Prop :=
  ∀ (H : Hp) (s : Shared) (d : D) (v : V) (u : Value), Inv X pins σ H s → Ext wl H0 H → P d → Rp X.K wl H d v → RelV v u →
    wpAny (model X.prog X.w) X.A.in1.in1 (PySem.call f [u]) (fun u' s' => ∃ (v' : V) (H' : Hp), Inv X pins σ H' s' ∧ Ext wl H H' ∧ RelV v' u' ∧ Rp X.K wl H' (key d) v' ∧
      (∀ b, H b = none → (∃ o, s.heap.get? b = some o) → H' b = none) ∧ ∀ b o, H b = none → b ∉ frs X.stack → s.heap.get? b = some o → s'.heap.get? b = some o) (fun _ _ => False) s
theorem fp_of {X : Cx} {pins : List (Addr × Obj)} {H H' : Hp} {b : Addr} (h : FpOk X pins H b) (n : H' b = none) : FpOk X pins H' b := ⟨n, h.2⟩
theorem each_of {K : PySem.W.Frag} {wl : Wd} {H : Hp} : ∀ {ds : List D} {vs : List V} {us : List Value}, RpL K wl H ds vs → Vals vs us → EachIs (fun u d => ∃ v, RelV v u ∧ Rp K wl H d v) us ds
  | [], _, _, r, q => by cases r; cases q; exact .nil
  | d :: ds, _, _, ⟨v, t, e, r, r2⟩, q => by
    subst e
    cases q with
    | cons a b => exact .cons ⟨v, a, r⟩ (each_of r2 b)
theorem of_each {K : PySem.W.Frag} {wl : Wd} {H : Hp} : ∀ {ds : List D} {us : List Value}, EachIs (fun u d => ∃ v, RelV v u ∧ Rp K wl H d v) us ds → ∃ vs, Vals vs us ∧ RpL K wl H ds vs
  | _, _, .nil => ⟨[], .nil, rfl⟩
  | _, _, .cons ⟨v, a, r⟩ t =>
    let ⟨vs, b, r2⟩ := of_each t
    ⟨v :: vs, .cons a b, v, vs, rfl, r, r2⟩
theorem dp_list {K : PySem.W.Frag} {wl : Wd} {H : Hp} {ds : List D} {vs : List V} (h : ∀ d ∈ ds, tame d) (r : RpL K wl H ds vs) : DpAll K H vs (toPyL ds) := by
  refine RpL.dp ds vs ?_ r
  clear r
  induction ds with
  | nil => rfl
  | cons d ds ih =>
    show (good d && goodL ds) = true
    rw [(h d (List.mem_cons_self ..)).nice.good, ih fun e he => h e (List.mem_cons_of_mem _ he)]
    rfl
theorem toPyL_map : ∀ ds : List D, toPyL ds = ds.map toPy
  | [] => rfl
  | d :: ds => by show toPy d :: toPyL ds = _; rw [toPyL_map ds]; rfl
theorem reads_each {h : Heap} : ∀ {us : List Value} {ds : List PyData} {as : List Addr}, ReadsAll h us ds as → EachIs (fun u d => ∃ as, Reads h u d as) us ds
  | us, ds, as, r => by
    have := readsAll_each (β := PyData) (fun d => d) (vs := us) (bs := ds) (as := as) (h := h) (by rw [List.map_id'] <;> exact r)
    exact this
section
variable {X : Cx} {pins : List (Addr × Obj)} {σ : L2.St} {H : Hp} {s : Shared} {wl : Wd} {a kS : Addr} {f : Value} {key : D → D} {ds : List D} {us : List Value}
/-- as the keys are asked for: the list stands empty at a, the keys so far at kS -/
structure Asked (X : Cx) (pins : List (Addr × Obj)) (σ : L2.St) (H : Hp) (wl : Wd) (a kS : Addr) (e1 : Nat) (key : D → D) (ds : List D) (i : Nat) (s : Shared) : Prop where
  ex : ∃ (H1 : Hp) (kA : Array Value) (e : Nat) (kvs : List V), Inv X pins σ H1 s ∧ Ext wl H H1 ∧ s.heap.get? kS = some (seqObj "list" kA e) ∧ s.heap.get? a = some (seqObj "list" #[] e1) ∧
    FpOk X pins H1 a ∧ FpOk X pins H1 kS ∧ a ∉ frs X.stack ∧ kS ∉ frs X.stack ∧ Vals kvs kA.toList ∧ RpL X.K wl H1 ((ds.take i).map key) kvs
theorem asked_step {P : D → Prop} {e1 i : Nat} {u : Value} {d : D} {v : V} {s : Shared} (kc : KeyCall X pins σ H wl f P key) (hkS : kS ≠ a) (hd : ds[i]? = some d) (hP : P d) (hwk : Wk wl H) (rd : Rp X.K wl H d v) (ru : RelV v u) (h : Asked X pins σ H wl a kS e1 key ds i s) :
    wpAny (model X.prog X.w) X.A.in1.in1 (PySem.call f [u]) (fun u' s' => ∃ (kA : Array Value) (e : Nat), s'.heap.get? kS = some (seqObj "list" kA e) ∧ kA.size ≤ i ∧ Asked X pins σ H wl a kS e1 key ds (i + 1) { s' with heap := s'.heap.update kS (Obj.mapSeq (·.push u')) }) (fun _ _ => False) s := by
  obtain ⟨H1, kA, e, kvs, I, x, hk1, ha1, fa, fk, na, nk, rk, rk2⟩ := h.ex
  refine wpAny_mono (kc H1 s d v u I x hP (Rp.ext hwk x d v rd) ru) (fun u' s' hq => ?_) fun _ _ z => z
  obtain ⟨v', H2, I2, x2, ru', rd', free, keep⟩ := hq
  have hk2 := keep kS _ fk.1 nk hk1
  have ha2 := keep a _ fa.1 na ha1
  have fk2 := fp_of fk (free kS fk.1 ⟨_, hk1⟩)
  have fa2 := fp_of fa (free a fa.1 ⟨_, ha1⟩)
  have hlen : kA.size ≤ i := by
    have l1 := rk.length
    have l2 := rk2.length
    rw [List.length_map, List.length_take] at l2
    have l3 : kA.toList.length = kA.size := Array.length_toList
    have l4 : min i ds.length ≤ i := Nat.min_le_left _ _
    omega
  refine ⟨kA, e, hk2, hlen, ⟨H2, kA.push u', _, kvs ++ [v'], ?_, x.trans x2, get?_update_seq hk2 (·.push u'), ?_, fa2, fk2, na, nk, ?_, ?_⟩⟩
  · refine I2.turned (t' := s'.toks) (it := kS) (fun b o hb e => ?_) fk2.1 fk2.2.1 fk2.2.2.2.1 fk2.2.2.2.2.1 fk2.2.2.2.2.2
    exact ((Heap.SameBut.update s'.heap kS (Obj.mapSeq (·.push u'))).2 b hb).trans e
  · exact ((Heap.SameBut.update s'.heap kS (Obj.mapSeq (·.push u'))).2 a hkS.symm).trans ha2
  · rw [Array.toList_push]
    exact rk.append (.cons ru' .nil)
  · have et : (ds.take (i + 1)).map key = (ds.take i).map key ++ [key d] := by rw [List.take_add_one, hd]; simp
    rw [et]
    exact (RpL.ext x.wk x2 _ _ rk2).append (RpL.one rd')
/-- all keys are there: the sort itself -/
theorem asked_done {e1 : Nat} {s : Shared} {E : Value → Shared → Prop} {R : PySem.Fin → Shared → Prop} (hkS : kS ≠ a) (hl : us.length = ds.length) (hL : ds.length ≤ LIM) (ht : ∀ d ∈ ds, tame (key d)) (hal : AllAlike (ds.map (pyk key))) (hsk : Sortable (ds.map (pyk key)))
    (hu : X.A.units + 100 < cLine) (h : Asked X pins σ H wl a kS e1 key ds ds.length s)
    (q : ∀ (H1 : Hp) (h' : Heap) (tk : Nat) (out : List Value) (c : Nat), Inv X pins σ H1 { s with heap := h', toks := tk } → Ext wl H H1 → FpOk X pins H1 a → h'.get? a = some (seqObj "list" out.toArray c) → out.length ≤ LIM → KeyedOut false (ds.map (pyk key)) us out → R (.done (.ret .none)) { s with heap := h', toks := tk }) (kA : Array Value) (e : Nat)
    (hkA : s.heap.get? kS = some (seqObj "list" kA e)) : wpAny (model X.prog X.w) X.A.in1.in1 (ksk_end a false us.toArray e1 (.ref kS) kA) R E s := by
  obtain ⟨H1, kA', e', kvs, I, x, hk1, ha1, fa, fk, na, nk, rk, rk2⟩ := h.ex
  rw [hkA] at hk1
  cases hk1
  rw [List.take_length] at rk2
  have len : kA.size = us.length := by
    have l1 := rk.length
    have l2 := rk2.length
    rw [List.length_map] at l2
    have l3 : kA.toList.length = kA.size := Array.length_toList
    omega
  have ek : (ds.map key).map toPy = ds.map (pyk key) := by rw [List.map_map]; rfl
  obtain ⟨as, rr⟩ := Dp.readsAll I (toPyL (ds.map key)) kvs kA.toList (dp_list (fun k hk => by
    obtain ⟨d, hd, rfl⟩ := List.mem_map.mp hk
    exact ht d hd) rk2) rk
  have each := reads_each rr
  rw [toPyL_map, ek] at each
  -- the heap without the keys' list
  obtain ⟨G, g1, g2⟩ := restrict s.heap fun b => decide (b ≠ kS)
  have gk : ∀ b, b ≠ kS → G.get? b = s.heap.get? b := fun b hb => g1 b (decide_eq_true hb)
  have gn : G.get? kS = none := g2 kS (by simp)
  have kp : KeepsBut a G s.heap := fun b o _ z => by
    by_cases hb : b = kS
    · rw [hb, gn] at z; cases z
    · rw [gk b hb] at z; exact z
  refine keyH_end (κ := dataKind s.heap (ds.map (pyk key))) (h₁ := G) (vs := us) kp gn hkA ha1 hkS (SortsAt.data each hal hsk fun d hd => ?_) len (by rw [hl]; exact lim_line hL) fun h' tk c kp2 ha2 => ?_
  · obtain ⟨d0, hd0, rfl⟩ := List.mem_map.mp hd
    have := (ht d0 hd0).2
    show X.A.units + 1 + 1 + (toPy (key d0)).depth < cLine
    rw [dep_eq]; omega
  · have J : Inv X pins σ H1 { s with heap := h', toks := tk } := I.turnedL (ch := [a, kS]) (fun b o hb z => by
      have h1 : b ≠ a := fun y => hb (by simp [y])
      have h2 : b ≠ kS := fun y => hb (by simp [y])
      exact kp2 b o h1 ((gk b h2).trans z)) (fun b hb => by
      rcases List.mem_cons.mp hb with rfl | hb
      · exact fa
      · obtain rfl := List.mem_singleton.mp hb
        exact fk)
    have hkl : kA.toList.length = us.length := by rw [Array.length_toList]; exact len
    exact q H1 h' tk _ c J x fa ha2 (by rw [sortVals_length false hkl, hl]; exact hL) ⟨s.heap, kA.toList, hal, rfl, each⟩
/-- the keys, one after another -/
theorem asked_all {P : D → Prop} {vs : List V} {e1 : Nat} {R : PySem.Fin → Shared → Prop} {E : Value → Shared → Prop} (kc : KeyCall X pins σ H wl f P key) (hP : ∀ d ∈ ds, P d) (hwk : Wk wl H) (rv : RpL X.K wl H ds vs) (ru : Vals vs us) (hkS : kS ≠ a) (hL : ds.length ≤ LIM)
    (h : Asked X pins σ H wl a kS e1 key ds 0 s) (done : ∀ (s' : Shared) (kA : Array Value) (e : Nat), Asked X pins σ H wl a kS e1 key ds ds.length s' → s'.heap.get? kS = some (seqObj "list" kA e) → wpAny (model X.prog X.w) X.A.in1.in1 (ksk_end a false us.toArray e1 (.ref kS) kA) R E s') :
    wpAny (model X.prog X.w) X.A.in1.in1 (ksk_rest a f false us.toArray e1 (.ref kS)) R E s := by
  have hlen : us.length = ds.length := by rw [← ru.length, rv.length]
  unfold ksk_rest
  refine wpAny_bind (wpAny_rule ?_)
  rw [List.forIn_toArray]
  refine wpAny_bind (ksk_fold (fun i s' => Asked X pins σ H wl a kS e1 key ds i s') us 0 s h (fun j u s' hu ha => ?_) fun s' ha => ?_)
  · rw [Nat.zero_add] at ha ⊢
    have hj : j < ds.length := by
      have := (List.getElem?_eq_some_iff.mp hu).1
      omega
    have hd : ds[j]? = some ds[j] := List.getElem?_eq_getElem hj
    obtain ⟨v, hv, rd⟩ := rv.get hd
    obtain ⟨u2, hu2, r2⟩ := ru.get hv
    rw [hu] at hu2
    cases hu2
    refine wpAny_bind (wpAny_attempt (wpAny_mono (asked_step kc hkS hd (hP _ (List.getElem_mem hj)) hwk rd r2 ha) (fun u' s2 hq => ?_) fun _ _ z => z.elim))
    obtain ⟨kA, e, hk, hle, next⟩ := hq
    have big : kA.size ≤ sizeLine := Nat.le_trans hle (Nat.le_trans (Nat.le_of_lt hj) (lim_line hL))
    exact wpAny_bind (listUpdate_at (n := e) hk rfl (wpAny_pure ⟨rfl, next⟩) big (by rw [Array.size_push]; exact Nat.succ_le_succ big))
  · rw [Nat.zero_add, hlen] at ha
    obtain ⟨_, kA, e, _, _, _, hk, _⟩ := ha.ex
    exact wpAny_bind (listItems_at (xs := kA) hk rfl (done s' kA e ha hk))
/-- sorted(l, key=f) -/
theorem sortKey_run {P : D → Prop} {l : Addr} {vs : List V} {Q : VK} (I : Inv X pins σ H s) (hwk : Wk wl H) (hl : SqL X.K H l vs) (rv : RpL X.K wl H ds vs) (fq : ∃ g, f = .ref g) (kc : KeyCall X pins σ H wl f P key) (hP : ∀ d ∈ ds, P d) (hL : ds.length ≤ LIM) (ht : ∀ d ∈ ds, tame (key d))
    (hal : AllAlike (ds.map (pyk key))) (hsk : Sortable (ds.map (pyk key))) (hu : X.A.units + 100 < cLine)
    (q : ∀ (p : Addr) (H1 : Hp) (ws : List V), Ext wl H H1 → H1 p = none → RpL X.K wl H1 (ds.mergeSort (dataLe false (pyk key))) ws → Q (.ref p) (upd H1 p (.lst ws))) :
    wpAny (model X.prog X.w) X.A (PySem.call (.builtin "sorted") [.ref l] [(Str.ofString "key", f)]) (EP X pins σ Q) X.xe s := by
  obtain ⟨g, rfl⟩ := fq
  obtain ⟨us, ru, pl, hz⟩ := I.list hl
  have hlen : us.length = ds.length := by rw [← ru.length, rv.length]
  have hus : us.length ≤ sizeLine := by rw [hlen]; exact lim_line hL
  refine sorted_of_sort pl.isList hus (PyProof.Rows.ksk_s1 _ _) (fun _ => PyProof.Rows.ksk_l1 _ _) fun E' => ?_
  rw [ksk_t1]
  -- the copy stands at p, the list of the keys at kS
  let p := s.heap.objs.size + 1
  have ho : (copyHeap s.heap us).get? p = some (seqObj "list" us.toArray 0) := copyHeap_at s.heap us
  have I0 : Inv X pins σ H { s with heap := copyHeap s.heap us } := I.kept (t' := s.toks) fun b o e => copyHeap_old e
  have hsz : s.heap.objs.size ≤ p := Nat.le_succ _
  have fp0 : FpOk X pins H p := I.fpOk hsz (I.hok.fresh hsz)
  have np : p ∉ frs X.stack := fun z => by
    rcases List.mem_cons.mp (I.stkSub p z) with e | e
    · exact fp0.2.1 e
    · exact fp0.2.2.1 e
  obtain ⟨e1, ho1⟩ : ∃ e1, ((copyHeap s.heap us).update p (Obj.mapSeq fun _ => (#[] : Array Value))).get? p = some (seqObj "list" #[] e1) := ⟨_, get?_update_seq ho fun _ => #[]⟩
  let h1 := (copyHeap s.heap us).update p (Obj.mapSeq fun _ => (#[] : Array Value))
  let h2 := h1.push (seqObj "tuple" us.toArray 0)
  let kS := h2.objs.size
  let h3 := h2.push (seqObj "list" #[] 0)
  have upA : ∀ b o, b ≠ p → (copyHeap s.heap us).get? b = some o → h3.get? b = some o := fun b o hb e =>
    Heap.get?_push_of_some _ (Heap.get?_push_of_some _ (((Heap.SameBut.update (copyHeap s.heap us) p (Obj.mapSeq fun _ => (#[] : Array Value))).2 b hb).trans e))
  have big : s.heap.objs.size ≤ kS := by
    have z1 : p < (copyHeap s.heap us).objs.size := Heap.lt_size ho
    have z2 : h1.objs.size = (copyHeap s.heap us).objs.size := Heap.size_update ..
    have z3 : h2.objs.size = h1.objs.size + 1 := size_push' ..
    show s.heap.objs.size ≤ h2.objs.size
    omega
  have hkp : kS ≠ p := by
    have z1 : p < (copyHeap s.heap us).objs.size := Heap.lt_size ho
    have z2 : h1.objs.size = (copyHeap s.heap us).objs.size := Heap.size_update ..
    have z3 : h2.objs.size = h1.objs.size + 1 := size_push' ..
    show h2.objs.size ≠ p
    omega
  have fpk : FpOk X pins H kS := I.fpOk big (I.hok.fresh big)
  have nk : kS ∉ frs X.stack := fun z => by
    rcases List.mem_cons.mp (I.stkSub kS z) with e | e
    · exact fpk.2.1 e
    · exact fpk.2.2.1 e
  have I3 : Inv X pins σ H { s with heap := h3 } := Inv.turned (s := { s with heap := copyHeap s.heap us }) I0 (t' := s.toks) (it := p) upA fp0.1 fp0.2.1 fp0.2.2.2.1 fp0.2.2.2.2.1 fp0.2.2.2.2.2
  unfold ksk_tree
  refine wpAny_bind (listItems_at (xs := us.toArray) ho rfl (wpAny_bind (listUpdate_at (n := 0) ho rfl ?_ (by rw [List.size_toArray]; exact hus) (Nat.zero_le _))))
  refine wpAny_bind (seqEpoch_at (n := e1) ho1 rfl (wpAny_bind (wpAny_newTuple ?_ (by show us.length ≤ _; exact hus))))
  refine wpAny_bind (wpAny_newList (wpAny_holding ?_) (Nat.zero_le _))
  refine asked_all (s := { s with heap := h3 }) kc hP hwk rv ru hkp hL ⟨H, #[], 0, [], I3, .refl hwk, Heap.get?_push_size _ rfl, Heap.get?_push_of_some _ (Heap.get?_push_of_some _ ho1), fp0, fpk, np, nk, .nil, rfl⟩ fun s' kA e ha hk => ?_
  refine asked_done hkp hlen hL ht hal hsk hu ha (fun H1 h' tk out c J x fa hp hol ko => ⟨rfl, ?_⟩) kA e hk
  have ee := keyedOut_each (pyk key) ko (each_of (RpL.ext hwk x _ _ rv) ru)
  obtain ⟨ws, r1, r2⟩ := of_each ee
  refine ⟨.ref p, upd H1 p (.lst ws), J.take (t' := tk) (it := p) (o := .lst ws) (fun _ _ _ z => z) fa ⟨by rw [r1.length]; exact lim_line hol, _, c, r1, ?_⟩, rfl, q p H1 ws x fa.1 r2⟩
  exact hp
end

/-! ### the key is a def of the program -/
theorem keyCall_def {X : Cx} {W : WY} {pins : List (Addr × Obj)} {σ : L2.St} {H0 : Hp} {wl : Wd} {k : Nat} {x p : Str} {st : Stmt} {sp : PSp} {P : D → Prop} {key : D → D} (F : FnD X.prog X.w X.K X.mg X.base W.T k x st [p] sp) (ht : wl.tabs = W.T) (hgd : X.A.guards = some []) (hr : Room (k + 2) X.A)
    (hs : ∀ (d : D) (q : D → Prop), P d → q (key d) → sp [d] q fun _ => False) : ∃ f, X.mg x = some (.ref f) ∧ KeyCall X pins σ H0 wl (.ref f) P key := by
  obtain ⟨f, fd, ⟨FF, hm, hb⟩, F⟩ := F
  refine ⟨f, hm, fun H s d v u I x hd rd ru => ?_⟩
  have sp' : spOf X.K X.mg W.T sp [v] H (fun v' H' => Rp X.K wl H' (key d) v' ∧ Ext wl H H') (fun _ _ _ => False) :=
    ⟨wl, [d], fun e => e = key d, fun _ => False, ht, x.wk, RpL.one rd, hs d _ hd rfl, fun e v' H' ex r he => by subst he; exact ⟨r, ex⟩, fun _ _ _ _ _ _ z => z⟩
  refine wpAny_call (codeAny_mono (F.go X.A.in1.in1 X.stack s H ⟨[u], []⟩ [u] [v] _ _ hgd hr.in1.in1 I.env0.in1.in1 (hb s [u] I.kIn rfl) (.cons ru .nil) sp') fun res s2 hres => ?_)
  match res, hres with
  | .error e, ⟨_, _, _, _, _, _, _, _, _, _, _, _, z⟩ => exact z.elim
  | .ok .next, z => exact z.elim
  | .ok .brk, z => exact z.elim
  | .ok .cont, z => exact z.elim
  | .ok (.ret u'), hx =>
    obtain ⟨v1, H1, J, r1, q1, e1⟩ := I.after hx
    obtain ⟨v2, H2, os, bare, un, ok2, r2, q2, e2⟩ := hx
    exact ⟨v2, H2, I.call' os un ok2 bare (fun b z => absurd z (by simp)), e2, r2, q2, fun b n ⟨o, e⟩ => un.free b o e n (by simp), fun b o n nf e => un.keep b o e n nf (by simp)⟩

end PL

namespace PL
open PySem PySem.Spec L2
open PyProof.Rows PySem.W

/-! # a lambda is made: an object that is known from then on -/
def LamO (f : Addr) (o : Obj) : HO := .ext fun h => h.get? f = some o
theorem lamO_ok {P : Program} {w : World} {H : Hp} {h : Heap} {f : Addr} {o : Obj} (e : h.get? f = some o) : ObjOk P w H h f (LamO f o) := ⟨e, ⟨o, e⟩, fun _ _ z k => k _ z⟩
theorem lamO_nt {f : Addr} {o : Obj} : NT (LamO f o) := fun ps z => by
  unfold LamO at z
  cases z
theorem codeO_nt {c : Addr} {q : Str} : NT (LamX.CodeO c q) := fun ps z => LamX.codeO_ne ps z
/-- the function object of a lambda -/
abbrev lamF (q : Str) (params : Arguments) (body : Expr) (scope : Scope) (cl : List (Str × Addr)) (pm : Value) (c' : Addr) (ctv : Value) : Obj := kla_obj "<lambda>" q params body scope cl pm c' ctv
section
variable {X : Cx} {pins : List (Addr × Obj)} {σ : L2.St} {H : Hp} {s : Shared} {T : List (Addr × Str)} {c P : Addr} {params : Arguments} {body : Expr} {scope : Scope} {lpos : Pos}
/-- what is asked of the maker -/
structure LamMk (X : Cx) (T : List (Addr × Str)) (c P : Addr) (params : Arguments) (scope : Scope) : Prop where
  tb : LamX.TabB X.base X.mg c P
  code : X.env.code = .ref c
  mem : (P, X.env.qual ++ "<lambda>") ∈ T
  one : ∀ p ∈ T, p.1 = P → p.2 = X.env.qual ++ "<lambda>"
  dflt : defaultsOf params X.env = ([], [])
  free : ∀ y ∈ scope.names, y.2 = .free → ∃ c, X.env.cells.lookup y.1 = some c
theorem lam_mk {E : Value → Shared → Prop} {Q : Value → Shared → Prop} (I : Inv X pins σ H s) (M : LamMk X T c P params scope) (hT : LamX.Tabs T H)
    (q : ∀ (f c' : Addr) (pm ctv : Value) (H1 : Hp) (s' : Shared), Inv X pins σ H1 s' → LamX.ExtN H H1 → LamX.Tabs T H1 → H1 f = some (LamO f (lamF (X.env.qual ++ "<lambda>") params body scope (cloFrom X.env.cells scope.names []) pm c' ctv)) → H f = none → H1 c' = some (LamX.CodeO c' (X.env.qual ++ "<lambda>")) → Q (.ref f) s') :
    wpAny (model X.prog X.w) X.A (eval (.Lambda params body scope lpos) X.env) Q E s := by
  obtain ⟨ps, hP, triples, among⟩ := hT _ M.mem
  have bP : s.heap.BuiltinsAt X.mg P := M.tb.bm.keeps I.bk
  have atP : s.heap.get? P = some { cls := .none, data := .fields ps } := I.hok P _ hP
  -- the function object, new at f, is tracked
  have fin : ∀ (f c' : Addr) (pm ctv : Value) (H1 : Hp) (h' : Heap) (tk : Nat), Inv X pins σ H1 { s with heap := h', toks := tk } → LamX.ExtN H H1 → LamX.Tabs T H1 → s.heap.objs.size ≤ f → H1 f = none →
      h'.get? f = some (lamF (X.env.qual ++ "<lambda>") params body scope (cloFrom X.env.cells scope.names []) pm c' ctv) → H1 c' = some (LamX.CodeO c' (X.env.qual ++ "<lambda>")) → Q (.ref f) { s with heap := h', toks := tk } := by
    intro f c' pm ctv H1 h' tk I1 x1 t1 hf nf of hc
    have fp : FpOk X pins H1 f := fp_of (I.fpOk hf (I.hok.fresh hf)) nf
    have up : ∀ b o, H1 b = some o → upd H1 f (LamO f (lamF (X.env.qual ++ "<lambda>") params body scope (cloFrom X.env.cells scope.names []) pm c' ctv)) b = some o := fun b o e => by rw [upd_ne (ne_of_none e nf)]; exact e
    refine q f c' pm ctv _ _ (Inv.take (s := { s with heap := h', toks := tk }) I1 (t' := tk) (it := f) (fun _ _ _ z => z) fp (lamO_ok of)) (fun b o e n => up b o (x1 b o e n)) (t1.ext up) upd_same (I.hok.fresh hf) (up c' _ hc)
  refine kla_eval M.dflt ?_
  cases hcode : codeAmong lpos ps.toList with
  | some cv =>
    obtain ⟨c', e, hco⟩ := among lpos cv hcode
    subst e
    refine kla_makeFunctionHit (mg := X.mg) (c := c) (P := P) (ps := ps) (closure_ok M.free) I.ok.glob (I.mod.glob.keeps I.bk) M.code (M.tb.code.keeps I.bk) atP triples hcode bP fun ctv h' tk hx hsz => ?_
    exact fin _ c' _ ctv H _ tk (I.kept fun b o e => Heap.get?_push_of_some _ (hx b o e)) (LamX.ExtN.refl H) hT hsz (I.hok.fresh hsz) (Heap.get?_push_size _ rfl) hco
  | none =>
    refine kla_makeFunction (mg := X.mg) (c := c) (P := P) (ps := ps) (closure_ok M.free) I.ok.glob (I.mod.glob.keeps I.bk) M.code (M.tb.code.keeps I.bk) atP triples hcode M.tb.gP bP fun c' ctv h' tk hx hge hlt hrec htb => ?_
    obtain ⟨c2, oc, vs, t, e2, hoc, hd, hv⟩ := hrec
    cases e2
    have hsz : s.heap.objs.size ≤ h'.objs.size := Nat.le_trans hge (Nat.le_of_lt hlt)
    have nC : H c' = none := I.hok.fresh hge
    let row : Array Value := #[rawInt lpos.line, rawInt lpos.col, .ref c']
    let H1 : Hp := upd (upd H P (.tbl (ps ++ row))) c' (LamX.CodeO c' (X.env.qual ++ "<lambda>"))
    have x1 : LamX.ExtN H H1 := fun b o e n => by
      have h1 : b ≠ c' := ne_of_none e nC
      have h2 : b ≠ P := fun z => n ps (by rw [z, hP] at e; exact (Option.some.inj e).symm)
      show upd (upd H P _) c' _ b = some o
      rw [upd_ne h1, upd_ne h2]; exact e
    have I1 := LamX.inv_table (q := X.env.qual ++ "<lambda>") (t' := tk) (more := row) (h' := h'.push (lamF (X.env.qual ++ "<lambda>") params body scope (cloFrom X.env.cells scope.names []) ((X.mg "__name__").getD .none) c' ctv)) I hP
      (fun b o hb e => Heap.get?_push_of_some _ (hx b o hb e)) (Heap.get?_push_of_some _ htb) hge ⟨oc, vs, t, Heap.get?_push_of_some _ hoc, hd, hv⟩
    have rows : (ps ++ row).toList = ps.toList ++ [rawInt lpos.line, rawInt lpos.col, .ref c'] := by simp [row]
    have t1 : LamX.Tabs T H1 := fun p hp => by
      by_cases hb : p.1 = P
      · rw [M.one p hp hb, hb]
        refine ⟨ps ++ row, ?_, by rw [rows]; exact PySem.TriplesOk_snoc _ _ _ _ triples, fun p' cv hcv => ?_⟩
        · show upd (upd H P _) c' _ P = _
          rw [upd_ne (ne_of_none hP nC), upd_same]
        · rw [rows] at hcv
          rcases LamX.among_app _ triples hcv with z | z
          · obtain ⟨c0, e1, e2⟩ := among p' cv z
            exact ⟨c0, e1, x1 _ _ e2 codeO_nt⟩
          · exact ⟨c', z, upd_same⟩
      · obtain ⟨ps', a1, a2, a3⟩ := hT p hp
        refine ⟨ps', ?_, a2, fun p' cv hcv => ?_⟩
        · show upd (upd H P _) c' _ p.1 = _
          rw [upd_ne (ne_of_none a1 nC), upd_ne hb]; exact a1
        · obtain ⟨c0, e1, e2⟩ := a3 p' cv hcv
          exact ⟨c0, e1, x1 _ _ e2 codeO_nt⟩
    have nf : H1 h'.objs.size = none := by
      have n1 : h'.objs.size ≠ c' := Nat.ne_of_gt hlt
      have n2 : h'.objs.size ≠ P := Nat.ne_of_gt (Nat.lt_of_lt_of_le (Heap.lt_size atP) hsz)
      show upd (upd H P _) c' _ _ = none
      rw [upd_ne n1, upd_ne n2]
      exact I.hok.fresh hsz
    exact fin _ c' _ ctv H1 _ tk I1 x1 t1 hsz nf (Heap.get?_push_size _ rfl) upd_same
/-- a lambda as a value -/
def tLm (T : List (Addr × Str)) (qn : Str) (params : Arguments) (body : Expr) (scope : Scope) (cl : List (Str × Addr)) : TE := fun _ H Q => LamX.Tabs T H ∧ ∀ (f c' : Addr) (pm ctv : Value) (H1 : Hp), LamX.ExtN H H1 → LamX.Tabs T H1 → H f = none →
  H1 f = some (LamO f (lamF qn params body scope cl pm c' ctv)) → H1 c' = some (LamX.CodeO c' qn) → Q (.ref f) H1
theorem pe_lm (M : LamMk X T c P params scope) : PE X (.Lambda params body scope lpos) (tLm T (X.env.qual ++ "<lambda>") params body scope (cloFrom X.env.cells scope.names [])) :=
  ⟨fun pins s σ H Q I ⟨ht, h⟩ => lam_mk I M ht fun f c' pm ctv H1 s' I1 x1 t1 hf nf hc => ⟨.ref f, H1, I1, rfl, h f c' pm ctv H1 x1 t1 nf hf hc⟩⟩
end
/-- the heap with a lambda more, by worlds -/
theorem lam_ext {wl : Wd} {H H1 : Hp} (hk : Wk wl H) (x : LamX.ExtN H H1) (t : LamX.Tabs wl.tabs H1) : Ext wl H H1 := by
  refine ⟨fun a o _ e n => x a o e n, fun p hp => ?_, fun a ha => ?_, fun a ha => ?_, t⟩
  · obtain ⟨i, j, k, e, r⟩ := hk.well p hp
    exact ⟨i, j, k, x _ _ e (fun _ z => nomatch z), r⟩
  · obtain ⟨o, e, m⟩ := hk.hid a ha
    exact ⟨o, x _ _ e m.nt, m⟩
  · obtain ⟨o, e, m⟩ := hk.ow a ha
    exact ⟨o, x _ _ e m.nt, m⟩
/-! ### the key is a lambda of one parameter that captures nothing -/
theorem keyCall_lam {X : Cx} {T : List (Addr × Str)} {pins : List (Addr × Obj)} {σ : L2.St} {H0 : Hp} {wl : Wd} {k : Nat} {f c' : Addr} {qn p : Str} {params : Arguments} {body : Expr} {scope : Scope} {pm ctv : Value} {N : List Str} {g : PX} {P : D → Prop} {key : D → D}
    (ht : wl.tabs = T) (hfo : H0 f = some (LamO f (lamF qn params body scope [] pm c' ctv))) (hwf : wl.wl ≠ some f) (hc : H0 c' = some (LamX.CodeO c' qn)) (hw : wl.wl ≠ some c') (hgd : X.A.guards = some []) (hr : Room (k + 3) X.A) (S : FnScope N [p] scope)
    (hbind : ∀ u : Value, bindArgs (kla_fn "<lambda>" qn params body scope [] pm (.ref c') ctv) ⟨[u], []⟩ = pure [(p, u)])
    (hbody : ∀ (A : Around) (outer : List Env) (s : Shared) (H : Hp) (E : XK), A.guards = some [] → Room k (A.deeper (envOfC qn scope s.heap.objs.size f (.ref c'))) → Takes (cxOf (L2.CX X.prog X.w) X.prog X.w X.K X.mg X.base N qn scope f (.ref c') A outer s H E) (fun c d _ H' => E c d H') →
      PE (cxOf (L2.CX X.prog X.w) X.prog X.w X.K X.mg X.base N qn scope f (.ref c') A outer s H E) body (eE (cxOf (L2.CX X.prog X.w) X.prog X.w X.K X.mg X.base N qn scope f (.ref c') A outer s H E) ⟨fun c d _ H' => E c d H', T⟩ g))
    (hs : ∀ (d : D) (q : D → Prop), P d → q (key d) → g (startD N [d]) q fun _ => False) : KeyCall X pins σ H0 wl (.ref f) P key := by
  intro H s d v u I x hd rd ru
  have hf : s.heap.get? f = some (lamF qn params body scope [] pm c' ctv) := (I.hok f _ (x.keep f _ hwf hfo lamO_nt)).1
  have hc1 : H c' = some (LamX.CodeO c' qn) := x.keep c' _ hw hc fun ps z => LamX.codeO_ne ps z
  obtain ⟨⟨oc, vs, t, hoc, hdc, hvc⟩, _, _⟩ := I.hok c' _ hc1
  let Q : VK := fun v' H' => Rp X.K wl H' (key d) v' ∧ Ext wl H H'
  let E : XK := fun _ _ _ => False
  have r2 := hr.in1.in1
  have e0 := I.env0.in1.in1
  have run : codeAny (model X.prog X.w) X.A.in1.in1 (.call (.ref f) ⟨[u], []⟩) (CR (L2.CX X.prog X.w) X.stack X.prog X.w H s Q E) s := by
    refine kla_callFunE r2.depth hf rfl S.co S.gen rfl ⟨c', oc, vs, t, rfl, hoc, hdc, hvc⟩ ?_
    rw [hbind u]
    have kinds : ∀ y ∈ [(p, u)], scope.names.lookup y.1 = some .local ∨ (scope.names.lookup y.1 = some .cell ∧ ((cellsFrom (s.heap.objs.size + 1) scope.names []).lookup y.1).isSome = true) := by
      intro y hy
      obtain rfl := List.mem_singleton.mp hy
      cases S.par p (List.mem_cons_self ..) with
      | inl z => exact .inl z
      | inr z => exact .inr ⟨z, PySem.W.cellsFrom_some _ _ _ (.inl z)⟩
    refine wpAny_pure (wpAny_newFunctionEnv_cells S.kind kinds fun env he s1 ic => ?_)
    subst he
    refine ⟨I.nolimit.keeps ic.toInCall.keep, ?_⟩
    have J : Inv (cxOf (L2.CX X.prog X.w) X.prog X.w X.K X.mg X.base N qn scope f (.ref c') X.A.in1.in1 X.stack s H E) [] (L2.start N [v]) H s1 := inv_start S r2.hd e0 rfl (.cons ru .nil) ic
    refine kla_codeExpr (wpAny_mono ((hbody X.A.in1.in1 X.stack s H E hgd (r2.deeper _) (takes_of rfl rfl rfl rfl)).run [] s1 (L2.start N [v]) H Q J ?_) (fun u' s2 hq => ?_) fun _ _ z => z)
    · refine ⟨wl.call, _, fun e => e = key d, fun _ => False, x.wk.call, evr_start (RpL.less (w := wl) (w' := wl.call) rfl (fun _ z => Wd.call_fr.mp z) [d] [v] (RpL.one rd)), hs d _ hd rfl, fun e v' H' ex r he => ?_, ⟨ht, fun _ _ _ _ _ _ z => z.elim⟩⟩
      subst he
      exact ⟨ex.step.back_rp r, ex.step.back⟩
    · obtain ⟨v', H', J', rv, q⟩ := hq
      exact ⟨v', H', J'.os, J'.bare, J'.base, J'.hok, rv, q⟩
  refine wpAny_call (codeAny_mono run fun res s2 hres => ?_)
  match res, hres with
  | .error e, ⟨_, _, _, _, _, _, _, _, _, _, _, _, z⟩ => exact z.elim
  | .ok .next, z => exact z.elim
  | .ok .brk, z => exact z.elim
  | .ok .cont, z => exact z.elim
  | .ok (.ret u'), ⟨v2, H2, os, bare, un, ok2, r3, q2, e2⟩ =>
    exact ⟨v2, H2, I.call' os un ok2 bare (fun b z => absurd z (by simp)), e2, r3, q2, fun b n ⟨o, e⟩ => un.free b o e n (by simp), fun b o n nf e => un.keep b o e n nf (by simp)⟩

/-! ### the rules -/
def sortK (key : D → D) (xs : List D) : List D := xs.mergeSort (dataLe false (pyk key))
structure CanSort (P : D → Prop) (key : D → D) (xs : List D) : Prop where
  len : xs.length ≤ LIM
  ok : ∀ y ∈ xs, P y ∧ tame (key y)
  like : AllAlike (xs.map (pyk key))
  can : Sortable (xs.map (pyk key))
section
variable {X : Cx} {W : WY}
def rSrt (X : Cx) : List V → List V → Hp → VK → Prop := fun vs zs H Q => ∃ (l f : Addr) (wl : Wd) (ds : List D) (us : List V) (P : D → Prop) (key : D → D), vs = [.ref l] ∧ zs = [.ref f] ∧ Wk wl H ∧ SqL X.K H l us ∧ RpL X.K wl H ds us ∧ (∀ pins σ, KeyCall X pins σ H wl (.ref f) P key) ∧ CanSort P key ds ∧
  ∀ (p : Addr) (H1 : Hp) (ws : List V), Ext wl H H1 → H1 p = none → RpL X.K wl H1 (sortK key ds) ws → Q (.ref p) (upd H1 p (.lst ws))
theorem cr_srt (hu : X.A.units + 200 < cLine) : CallRK X (.builtin "sorted") [Str.ofString "key"] (rSrt X) := by
  intro pins s σ H vs zs us ws Q I r rz ⟨l, f, wl, ds, xs, P, key, e1, e2, hk, hl, rl, kc, cs, q⟩
  subst e1; subst e2
  obtain rfl := Vals.ref1 r
  obtain ⟨w1, rfl, e1⟩ := vals1 rz
  obtain rfl : w1 = Value.ref f := e1
  exact sortKey_run I hk hl rl ⟨f, rfl⟩ (kc pins σ) (fun d hd => (cs.ok d hd).1) cs.len (fun d hd => (cs.ok d hd).2) cs.like cs.can (by omega) q
theorem clo_nil {cells : List (Str × Addr)} : ∀ {names : List (Str × NameKind)}, (∀ y ∈ names, y.2 ≠ .free) → cloFrom cells names [] = []
  | [], _ => rfl
  | y :: r, h => by
    have h1 := h y (List.mem_cons_self ..)
    have ih := clo_nil (cells := cells) (names := r) fun z hz => h z (List.mem_cons_of_mem _ hz)
    obtain ⟨n, k⟩ := y
    cases k <;> first | exact (h1 rfl).elim | exact ih
/-- sorted(e, key=lambda p: body), the lambda capturing nothing; N: its names -/
def fSortL (N : List Str) (g fe : PX) : PX := fun ρ q x => fe ρ (fun d => ∃ (xs : List D) (P : D → Prop) (key : D → D), d = .lst xs ∧ (∀ (y : D) (q : D → Prop), P y → q (key y) → g (startD N [y]) q fun _ => False) ∧ CanSort P key xs ∧ q (.lst (sortK key xs))) x
theorem sort_end {wl : Wd} {H H1 : Hp} {p : Addr} {ds : List D} {ws : List V} {q : D → Prop} {Q : VK} (hk : Wk wl H) (x : Ext wl H H1) (n : H1 p = none) (r : RpL X.K wl H1 ds ws) (hq : ∀ d v H', Ext wl H H' → Rp X.K wl H' d v → q d → Q v H') (h : q (.lst ds)) : Q (.ref p) (upd H1 p (.lst ws)) := by
  obtain ⟨e, r2⟩ := new_lst x.wk n r
  exact hq _ _ _ (x.trans e) r2 h
theorem d_sortL {c P : Addr} {k : Nat} {e : Expr} {fe g : PX} {pn : Str} {N : List Str} {params : Arguments} {body : Expr} {scope : Scope} {p pos kpos lpos : Pos} (hg : Gl X "sorted") (hm : X.mg "sorted" = none) (he : PE X e (eE X W fe)) (M : LamMk X W.T c P params scope) (S : FnScope N [pn] scope) (hgd : X.A.guards = some []) (hr : Room (k + 3) X.A)
    (hbind : ∀ (pm cv ctv u : Value), bindArgs (kla_fn "<lambda>" (X.env.qual ++ "<lambda>") params body scope [] pm cv ctv) ⟨[u], []⟩ = pure [(pn, u)])
    (hbody : ∀ (f c' : Addr) (A : Around) (outer : List Env) (s : Shared) (H : Hp) (E : XK), A.guards = some [] → Room k (A.deeper (envOfC (X.env.qual ++ "<lambda>") scope s.heap.objs.size f (.ref c'))) → Takes (cxOf (L2.CX X.prog X.w) X.prog X.w X.K X.mg X.base N (X.env.qual ++ "<lambda>") scope f (.ref c') A outer s H E) (fun c d _ H' => E c d H') →
      PE (cxOf (L2.CX X.prog X.w) X.prog X.w X.K X.mg X.base N (X.env.qual ++ "<lambda>") scope f (.ref c') A outer s H E) body (eE (cxOf (L2.CX X.prog X.w) X.prog X.w X.K X.mg X.base N (X.env.qual ++ "<lambda>") scope f (.ref c') A outer s H E) ⟨fun c d _ H' => E c d H', W.T⟩ g))
    (hs1 : backTo pos (starEach [e] X.env) = (false, eval e X.env) :: backTo pos (starEach [] X.env) := by rfl) (hpl : (backTo pos (starEach [e] X.env)).any (·.1) = false := by rfl) (hst : starEach [e] X.env = (false, eval e X.env) :: starEach [] X.env := by rfl)
    (hall : (backToKw pos (keywordEach [⟨some (Str.ofString "key"), .Lambda params body scope lpos, kpos⟩] X.env)).all (·.1.isSome) = true := by rfl) (hnone : (backToKw pos (keywordEach [⟨some (Str.ofString "key"), .Lambda params body scope lpos, kpos⟩] X.env)).any (·.1.isNone) = false := by rfl)
    (hks : (backToKw pos (keywordEach [⟨some (Str.ofString "key"), .Lambda params body scope lpos, kpos⟩] X.env)).filterMap (·.1) = [Str.ofString "key"] := by rfl) :
    PE X (.Call (.Name "sorted" p) [e] [⟨some (Str.ofString "key"), .Lambda params body scope lpos, kpos⟩] pos) (eE X W (fSortL N g fe)) := by
  refine PE.weak (pe_callBK (cr_srt (u200 hr)) hg hm (by rfl) (pa_cons he pa_nil hst) (pk_cons (pe_lm M) pk_nil) (by decide) (by decide) hs1 hpl hall hnone hks) fun σ H Q ⟨wl, ρ, q, x, hk, hev, hf, hq, hx⟩ => ?_
  refine ⟨wl, ρ, _, x, hk, hev, hf, fun d v H1 e1 r1 ⟨xs, Pd, key, ed, hgk, cs, h1⟩ => ?_, hx⟩
  subst ed
  obtain ⟨a, us, rfl, fa, sa, ra⟩ := r1
  have ht : wl.tabs = W.T := hx.1
  refine ⟨by have := e1.wk.tabs; rw [ht] at this; exact this, fun f c' pm ctv H2 xn t2 nf hfo hco => ?_⟩
  have x2 : Ext wl H1 H2 := lam_ext e1.wk xn (by rw [ht]; exact t2)
  have sa2 := x2.keep a _ fa.1 sa (fun _ z => nomatch z)
  have nwell : ∀ b, H2 b ≠ none → (∀ vs, H2 b ≠ some (.lst vs)) → wl.wl ≠ some b := fun b _ z y => by
    obtain ⟨i, j, k, e, _⟩ := x2.wk.well b y
    exact z _ e
  have nil := clo_nil (cells := X.env.cells) (names := scope.names) S.nofree
  rw [nil] at hfo
  refine ⟨a, f, wl, xs, us, Pd, key, rfl, rfl, x2.wk, SqL.of sa2, RpL.ext e1.wk x2 _ _ ra, fun pins σ => keyCall_lam ht hfo ?_ hco ?_ hgd hr S (fun u => hbind pm (.ref c') ctv u) (fun A outer s H E => hbody f c' A outer s H E) hgk, cs, fun p H3 ws x3 np r3 => sort_end (e1.trans x2).wk x3 np r3 (fun d v H' x' => hq d v H' ((e1.trans x2).trans x')) h1⟩
  · exact nwell f (by rw [hfo]; exact fun z => nomatch z) (fun vs z => by rw [hfo] at z; unfold LamO at z; cases z)
  · exact nwell c' (by rw [hco]; exact fun z => nomatch z) (fun vs z => by rw [hco] at z; unfold LamX.CodeO at z; cases z)
/-- sorted(e, key=F), F a def -/
def fSortF (sp : PSp) (fe : PX) : PX := fun ρ q x => fe ρ (fun d => ∃ (xs : List D) (P : D → Prop) (key : D → D), d = .lst xs ∧ (∀ (y : D) (q : D → Prop), P y → q (key y) → sp [y] q fun _ => False) ∧ CanSort P key xs ∧ q (.lst (sortK key xs))) x
end
end PL

namespace PL
open PySem PySem.Spec L2
open PyProof.Rows PySem.W

/-! # enumerate of a tuple -/
def IteT (K : PySem.W.Frag) (a : Addr) : It :=
  ⟨fun i H => ∃ (xs : List V) (x : V), SqT K H a xs ∧ xs[i]? = some x, fun i H v H' => ∃ T x, v = .ref T ∧ H T = none ∧ H' = upd H T (.tup [.int (i : Nat), x]) ∧ ∀ xs, SqT K H a xs → xs[i]? = some x, fun i H => ∃ xs : List V, SqT K H a xs ∧ i = xs.length⟩
theorem new_enumB {v : Value} {o : Obj} {B : Heap → Prop} (b : Begins v o B) :
    Meets (Builtin.«enumerate.__new__» ⟨[.type "enumerate", v], []⟩) (fun _ R s => B s.heap ∧ R (.ok (.ret (.ref (s.heap.push o).objs.size))) { s with heap := (s.heap.push o).push { cls := .type "enumerate", data := .fields #[.none, .bool false, .ref s.heap.objs.size, rawInt 0, .none, .none] } }) :=
  .of_wp fun prog w A R s h => by
    obtain ⟨hp, g, d, tk, os⟩ := s
    obtain ⟨h1, h⟩ := h
    have sub := sub_enumerate
    have it : ∀ {A' : Around} {E Q : Value → Shared → Prop}, Q (.ref hp.objs.size) ⟨hp.push o, g, d, tk, os⟩ → wpAny (model prog w) A' (pyIter v) Q E ⟨hp, g, d, tk, os⟩ := fun q => b.iter prog w _ _ _ _ h1 q
    wp_walk using it
    refine wpAny_stack_any fun st => wpAny_pure ?_
    split
    · rename_i c _ _ _ _ _
      cases (c == Value.type "enumerate") <;> (wp_walk using it; exact ⟨_, rfl, h⟩)
    · wp_walk using it
      exact ⟨_, rfl, h⟩
section
variable {prog : Program} {w : World} {A : Around} {E : Value → Shared → Prop} {s : Shared}
theorem call_enumT {t : Addr} {items : Array Value} {Q : Value → Shared → Prop} (ht : s.heap.IsTuple t items)
    (h : ∀ h', IsEnum h' (s.heap.objs.size + 1) s.heap.objs.size 0 .none → h'.IsTupleIter s.heap.objs.size t 0 → (∀ b o, s.heap.get? b = some o → h'.get? b = some o) → Q (.ref (s.heap.objs.size + 1)) { s with heap := h' }) :
    wpAny (model prog w) A (call (.type "enumerate") [.ref t]) Q E s := by
  let o : Obj := { cls := .type "tuple_iterator", data := .fields #[.ref t, .int 0 0] }
  let en : Obj := { cls := .type "enumerate", data := .fields #[.none, .bool false, .ref s.heap.objs.size, rawInt 0, .none, .none] }
  refine callType_new F.called_enumerate (by decide) (F.typeCall_enumerate_1 _) (F.newCall_enumerate_1 _) (fun obj => F.args_object_init_2 obj _) F.entry_enumerate_new (new_enumB (begins_tuple t items)) ⟨ht, ?_⟩
  have hz : (s.heap.push o).objs.size = s.heap.objs.size + 1 := Heap.size_push ..
  have he : IsEnum ((s.heap.push o).push en) (s.heap.objs.size + 1) s.heap.objs.size 0 .none := by
    have q := Heap.get?_push_size (s.heap.push o) (o := en) rfl
    rw [hz] at q; exact q
  show _ ∧ _
  rw [hz]
  exact ⟨⟨_, he, rfl⟩, h _ he ⟨o, Heap.get?_push_of_some _ (Heap.get?_push_size _ rfl), rfl, rfl⟩ fun b u x => Heap.get?_push_of_some _ (Heap.get?_push_of_some _ x)⟩
end
theorem turn_enumT {P : Program} {w : World} {K : PySem.W.Frag} {elts : List Expr} {kk : Nat} {tpos : Pos} (a e it : Addr) :
    Turn P w K (.Tuple elts kk tpos) (IteT K a) [e, it] e (fun i h => (∃ old, IsEnum h e it ((i : Nat) : Int) old) ∧ h.IsTupleIter it a i ∧ e ≠ it) where
  mem := List.mem_cons_self ..
  obj := fun i h st b hb => by
    obtain ⟨⟨old, he⟩, ⟨o, ho, hc, hd⟩, _⟩ := st
    rcases List.mem_cons.mp hb with z | z
    · rw [z]; exact ⟨_, he, fun v q => nomatch q⟩
    · rw [List.mem_singleton.mp z]; exact ⟨o, ho, fun v q => by rw [hd] at q; cases q⟩
  keep := fun i h h' st k => let ⟨⟨old, he⟩, hi, hne⟩ := st; ⟨⟨old, k e (by simp) _ he⟩, hi.at fun o q => k it (by simp) o q, hne⟩
  item := by
    intro X hP hw hK hc i pins s σ H E I hf st hg
    subst hP hw hK
    obtain ⟨⟨old, he⟩, hit, hne⟩ := st
    obtain ⟨xs, x, hq, hx⟩ := hg
    obtain ⟨its, rv, p, hz⟩ := I.tuple hq
    have pT : s.heap.IsTuple a its.toArray := p
    obtain ⟨u, hu, ru⟩ := rv.get hx
    have hel : e < s.heap.objs.size := Heap.lt_size he
    have nat : a ≠ it := fun z => by
      obtain ⟨o1, h1, h2, _⟩ := hit
      obtain ⟨o2, h3, h4, _⟩ := pT
      rw [z, h1] at h3
      cases h3
      rw [h2] at h4
      exact absurd h4 (by decide)
    have nea : e ≠ a := fun z => by
      obtain ⟨o2, h3, h4, _⟩ := pT
      rw [← z] at h3
      have q := he.symm.trans h3
      rw [← Option.some.inj q] at h4
      have h5 : Value.type "enumerate" = Value.type "tuple" := h4
      exact absurd h5 (by decide)
    have hlt : i < its.toArray.size := by
      have := (List.getElem?_eq_some_iff.mp hu).1
      rw [List.size_toArray]; exact this
    refine wpAny_pyNext_enum_itemD (Draws.tuple (A := X.A.in1) (I.ok.hd hc) it a nat its.toArray) he ⟨hit, pT⟩ hlt hne (fun z => by
      rcases List.mem_cons.mp z with z | z
      · exact hne z
      · exact nea (List.mem_singleton.mp z)) fun y h' tk hy ho st' hT hsz hk => ?_
    have ey : y = u := by
      have hy : its.toArray[i]? = some y := hy
      rw [List.getElem?_toArray, hu] at hy
      exact (Option.some.inj hy).symm
    subst ey
    refine ⟨_, rfl, wpAny_letOwnedTupleGo_enum (s := { s with heap := h', toks := tk + 1 }) ho fun h'' he' sb => ?_⟩
    have hT2 : h''.get? s.heap.objs.size = some { cls := .type "tuple", data := .seq #[.int i tk, y] } := (sb.2 _ (Nat.ne_of_gt hel)).trans hT
    have new : ObjOk X.prog X.w (upd H s.heap.objs.size (.tup [.int (i : Nat), x])) h'' s.heap.objs.size (.tup [.int (i : Nat), x]) :=
      ⟨by show 2 ≤ sizeLine; decide, [.int i tk, y], .cons ⟨_, rfl⟩ (.cons ru .nil), ⟨_, hT2, rfl, _, rfl⟩⟩
    have I1 : Inv X pins σ (upd H s.heap.objs.size (.tup [.int (i : Nat), x])) { s with heap := h'', toks := tk + 1 } :=
      I.turnedNew (ch := [e, it]) (fun b ob hb q => (sb.2 b (fun z => hb (by simp [z]))).trans (hk b ob (fun z => hb (by simp [z])) (fun z => hb (by simp [z])) q)) hf (Nat.le_refl _) new
    refine ⟨.ref s.heap.objs.size, _, I1, rfl, ⟨_, x, rfl, I.hok.fresh (Nat.le_refl _), rfl, fun ys hy => by rw [I.tuple_inj hy hq]; exact hx⟩, ⟨⟨y, ?_⟩, st'.1.at fun o q => (sb.2 it (Ne.symm hne)).trans q, hne⟩, fun b hb => ?_⟩
    · have e1 : ((i + 1 : Nat) : Int) = (i : Int) + 1 := by omega
      rw [e1]; exact he'
    · have hb' : b < s.heap.objs.size := by
        rcases List.mem_cons.mp hb with z | z
        · rw [z]; exact hel
        · rw [List.mem_singleton.mp z]
          obtain ⟨_, q, _⟩ := hit
          exact Heap.lt_size q
      rw [upd_ne (Nat.ne_of_lt hb')]
      exact (hf b hb).1
  done := by
    intro X hP hw hK hc i pins s σ H E I hf st hg
    subst hP hw hK
    obtain ⟨⟨old, he⟩, hit, hne⟩ := st
    obtain ⟨xs, hq, hi⟩ := hg
    obtain ⟨its, rv, p, hz⟩ := I.tuple hq
    have pT : s.heap.IsTuple a its.toArray := p
    have nat : a ≠ it := fun z => by
      obtain ⟨o1, h1, h2, _⟩ := hit
      obtain ⟨o2, h3, h4, _⟩ := pT
      rw [z, h1] at h3
      cases h3
      rw [h2] at h4
      exact absurd h4 (by decide)
    obtain ⟨f0, f1, f2, f3, f4, f5⟩ := hf it (by simp)
    have hl : its.toArray.size = i := by rw [List.size_toArray, ← rv.length]; exact hi.symm
    refine wpAny_pyNext_enum_endD (Draws.tuple (A := X.A.in1) (I.ok.hd hc) it a nat its.toArray) he (by rw [hl]; exact ⟨hit, pT⟩) fun h' eb => ⟨rfl, I.turned (t' := s.toks) (fun b o hb e => eb b o hb e) f0 f1 f3 f4 f5⟩
  self := fun A i s Q E st h => let ⟨⟨_, he⟩, _⟩ := st; wpAny_pyIter_enum he h
def iEnumA (K : PySem.W.Frag) (ta : TA) : TI := fun σ H R => ta σ H fun vs H1 => ∃ a, vs = [.ref a] ∧ ((∃ xs, SqL K H1 a xs) ∧ R (Ite K a) H1 ∨ (∃ xs, SqT K H1 a xs) ∧ R (IteT K a) H1)
section
variable {X : Cx} {W : WY} {K : PySem.W.Frag}
theorem pi_enumA {e : Expr} {ta : TA} {p pos tpos : Pos} {elts : List Expr} {kk : Nat} (hg : Gl X "enumerate") (hm : X.mg "enumerate" = none) (ha : PA X [e] ta) (hs : starEach [e] X.env = [(false, eval e X.env)] := by rfl) :
    PI X (.Tuple elts kk tpos) (.Call (.Name "enumerate" p) [e] [] pos) (iEnumA X.K ta) := by
  refine ⟨fun pins s σ H R I h => ?_⟩
  refine Call_ (ld_blt I hg hm boot_enumerate (PyProof.Rows.callWith_type1 (thn (ha.run pos pins s σ H _ I h) fun us s1 ⟨vs, H1, I1, r1, q1⟩ => ?_) hs rfl))
  obtain ⟨a, ex, q⟩ := q1
  subst ex
  obtain rfl := Vals.ref1 r1
  have fp : ∀ b ∈ [s1.heap.objs.size + 1, s1.heap.objs.size], FpOk X pins H1 b := fun b hb => by
    have hle : s1.heap.objs.size ≤ b := by
      rcases List.mem_cons.mp hb with z | z
      · rw [z]; exact Nat.le_add_right _ _
      · rw [List.mem_singleton.mp z]; exact Nat.le_refl _
    exact I1.fpOk hle (I1.hok.fresh hle)
  rcases q with ⟨⟨xs, hq⟩, q⟩ | ⟨⟨xs, hq⟩, q⟩
  · obtain ⟨its, rv, p', hz⟩ := I1.list hq
    refine call_enumerate_list p'.isList fun h' he hit hsz hk => wpAny_pyIter_enum he ?_
    exact ⟨s1.heap.objs.size + 1, [s1.heap.objs.size + 1, s1.heap.objs.size], _, _, H1, rfl, I1.kept (t' := s1.toks) hk, turn_enum a (s1.heap.objs.size + 1) s1.heap.objs.size, ⟨⟨.none, he⟩, hit, Nat.succ_ne_self _⟩, fp, q⟩
  · obtain ⟨its, rv, p', hz⟩ := I1.tuple hq
    refine call_enumT (show s1.heap.IsTuple a its.toArray from p') fun h' he hit hk => wpAny_pyIter_enum he ?_
    exact ⟨s1.heap.objs.size + 1, [s1.heap.objs.size + 1, s1.heap.objs.size], _, _, H1, rfl, I1.kept (t' := s1.toks) hk, turn_enumT a (s1.heap.objs.size + 1) s1.heap.objs.size, ⟨⟨.none, he⟩, hit, Nat.succ_ne_self _⟩, fp, q⟩
/-- the items with their places -/
def enums (ds : List D) : List D := (List.range ds.length).map fun i => .tup [.int (i : Nat), ds.getD i .non]
theorem enums_get {ds : List D} {i : Nat} : (enums ds)[i]? = ds[i]?.map fun d => .tup [.int (i : Nat), d] := by
  unfold enums
  rw [List.getElem?_map]
  by_cases h : i < ds.length
  · simp [List.getElem?_range h, List.getElem?_eq_getElem h, List.getD]
  · simp [List.getElem?_eq_none (Nat.le_of_not_lt h), List.getElem?_eq_none (show (List.range ds.length).length ≤ i by rw [List.length_range]; omega)]
theorem enums_length {ds : List D} : (enums ds).length = ds.length := by unfold enums; rw [List.length_map, List.length_range]
theorem enum_step {wl : Wd} {H : Hp} {T : Addr} {i : Nat} {d : D} {x : V} (hk : Wk wl H) (n : H T = none) (r : Rp K wl H d x) : Ext wl H (upd H T (.tup [.int (i : Nat), x])) ∧ Rp K wl (upd H T (.tup [.int (i : Nat), x])) (.tup [.int (i : Nat), d]) (.ref T) :=
  ⟨Ext.new hk n, T, [.int (i : Nat), x], rfl, SqT.of upd_same, RpL.grow n [.int (i : Nat), d] [.int (i : Nat), x] ⟨.int (i : Nat), [x], rfl, rfl, x, [], rfl, r, rfl⟩⟩
theorem feeds_enumL {wl : Wd} {H : Hp} {a : Addr} {vs : List V} {ds : List D} (hk : Wk wl H) (n : wl.fr a) (s : H a = some (.lst vs)) (r : RpL K wl H ds vs) : Feeds K wl H (Ite K a) (enums ds) := by
  intro w1 i H1 e
  have s1 : H1 a = some (.lst vs) := e.keep _ _ n.1 n.2.2 s (fun _ z => nomatch z)
  have r1 := RpL.step hk e _ _ r
  have hl := r.length
  rw [enums_length]
  refine ⟨fun hi => ?_, fun hi => ⟨vs, SqL.of s1, by omega⟩, fun hi x H' ⟨T, y, ex, nT, eH, f⟩ => ?_⟩
  · have hv : i < vs.length := by omega
    exact ⟨vs, vs[i], SqL.of s1, List.getElem?_eq_getElem hv⟩
  · subst ex; subst eH
    obtain ⟨d, hd, rd⟩ := r1.getV (f vs (SqL.of s1))
    obtain ⟨x1, x2⟩ := enum_step (i := i) e.wk nT rd
    exact ⟨x1, _, by rw [enums_get, hd]; rfl, x2⟩
theorem feeds_enumT {wl : Wd} {H : Hp} {a : Addr} {vs : List V} {ds : List D} (hk : Wk wl H) (s : SqT K H a vs) (r : RpL K wl H ds vs) : Feeds K wl H (IteT K a) (enums ds) := by
  intro w1 i H1 e
  have s1 := sqT_step s hk e
  have r1 := RpL.step hk e _ _ r
  have hl := r.length
  rw [enums_length]
  refine ⟨fun hi => ?_, fun hi => ⟨vs, s1, by omega⟩, fun hi x H' ⟨T, y, ex, nT, eH, f⟩ => ?_⟩
  · have hv : i < vs.length := by omega
    exact ⟨vs, vs[i], s1, List.getElem?_eq_getElem hv⟩
  · subst ex; subst eH
    obtain ⟨d, hd, rd⟩ := r1.getV (f vs s1)
    obtain ⟨x1, x2⟩ := enum_step (i := i) e.wk nT rd
    exact ⟨x1, _, by rw [enums_get, hd]; rfl, x2⟩
def fEnum (f : PAx) : PAx := fun ρ q x => f ρ (fun ds => ∃ xs, (ds = [.tup xs] ∨ ds = [.lst xs]) ∧ q (enums xs)) x
theorem di_enum {e : Expr} {f : PAx} {p pos tpos : Pos} {elts : List Expr} {kk : Nat} (hg : Gl X "enumerate") (hm : X.mg "enumerate" = none) (ha : PA X [e] (eA X W f)) (hs : starEach [e] X.env = [(false, eval e X.env)] := by rfl) :
    PI X (.Tuple elts kk tpos) (.Call (.Name "enumerate" p) [e] [] pos) (eI X W (fEnum f)) := by
  refine PI.weak (pi_enumA hg hm ha hs) fun σ H R ⟨wl, ρ, q, x, hk, he, hf, hq, hx⟩ => ?_
  refine ⟨wl, ρ, _, x, hk, he, hf, fun ds vs H1 e1 r1 ⟨xs, hd, h1⟩ => ?_, hx⟩
  rcases hd with rfl | rfl
  · obtain ⟨v, t, rfl, ⟨a, us, rfl, s, r⟩, rt⟩ := r1
    cases rt
    exact ⟨a, rfl, .inr ⟨⟨us, s⟩, hq _ _ H1 e1 (feeds_enumT e1.wk s r) h1⟩⟩
  · obtain ⟨v, t, rfl, ⟨a, us, rfl, n, s, r⟩, rt⟩ := r1
    cases rt
    exact ⟨a, rfl, .inl ⟨⟨us, SqL.of s⟩, hq _ _ H1 e1 (feeds_enumL e1.wk n s r) h1⟩⟩

/-! # < of data, in a list of data, sequences times a number -/
def ltD (a b : D) : Bool := dataLt (toPy a) (toPy b)
def isTupD : D → Bool
  | .tup _ => true
  | _ => false
/-- two tuples that are alike -/
def ltDG : PG2 := fun a b q => (tame a ∧ tame b) ∧ isTupD a = true ∧ alike (toPy a) (toPy b) = true ∧ q (.bl (ltD a b))
def rLtD (K : PySem.W.Frag) : R2 := fun x y H Q => ∃ d e, Dp K H x d ∧ Dp K H y e ∧ alike d e = true ∧ d ≠ .none ∧ d.depth ≤ 60 ∧ Q (.bl (dataLt d e)) H
theorem op_ltDt (hu : X.A.units + 64 < cLine) : OpR X (compareOp .Lt) (rLtD X.K) := by
  intro pins s σ H x y v u Q I rx ry ⟨d, e, hd, he, al, hn, dp, q⟩
  obtain ⟨as, r1⟩ := Dp.reads I d x v hd rx
  obtain ⟨bs, r2⟩ := Dp.reads I e y u he ry
  have hm : min d.depth e.depth ≤ d.depth := Nat.min_le_left _ _
  exact lt_data r1 r2 al hn (by omega) ⟨.bl _, H, I, rfl, q⟩
theorem ltD_ok : Cmp2 K (rLtD K) ltDG := by
  intro wl H d1 d2 v1 v2 q Q hk r1 r2 ⟨⟨t1, t2⟩, it, al, g⟩ hq
  refine ⟨_, _, Rp.dp d1 v1 t1.nice.good r1, Rp.dp d2 v2 t2.nice.good r2, al, fun z => ?_, by rw [dep_eq]; exact t1.2, hq (.bl (ltD d1 d2)) _ H (.refl hk) rfl g⟩
  cases d1 <;> first | (simp [isTupD] at it; done) | cases z
/-- in a list of data -/
def inDG (neg : Bool) : PG2 := fun d e q => ∃ xs, e = .lst xs ∧ tame d ∧ tame (.lst xs) ∧ q (.bl (if neg then !(xs.any fun z => eqvD z d) else xs.any fun z => eqvD z d))
theorem any_py : ∀ (xs : List D) (d : D), ((toPyL xs).any fun z => PyData.eqv z (toPy d)) = xs.any fun z => eqvD z d
  | [], _ => rfl
  | x :: xs, d => by show (PyData.eqv (toPy x) (toPy d) || _) = (eqvD x d || _); rw [any_py xs d]; rfl
theorem inD_ok : Cmp2 K (rInD K) (inDG false) := by
  intro wl H d1 d2 v1 v2 q Q hk r1 r2 ⟨xs, e, t1, t2, g⟩ hq
  subst e
  refine ⟨_, toPyL xs, Rp.dp d1 v1 t1.nice.good r1, Rp.dp (.lst xs) v2 t2.nice.good r2, t1.shaped, t2.shaped, ?_⟩
  rw [any_py]
  exact hq (.bl _) _ H (.refl hk) rfl g
theorem niD_ok : Cmp2 K (rNotInD K) (inDG true) := by
  intro wl H d1 d2 v1 v2 q Q hk r1 r2 ⟨xs, e, t1, t2, g⟩ hq
  subst e
  refine ⟨_, toPyL xs, Rp.dp d1 v1 t1.nice.good r1, Rp.dp (.lst xs) v2 t2.nice.good r2, t1.shaped, t2.shaped, ?_⟩
  rw [any_py]
  exact hq (.bl _) _ H (.refl hk) rfl g
end
end PL

namespace PL
open PySem PySem.Spec L2
open PyProof.Rows PySem.W

/-! # [e for t in it if c for t1 in it1 if c1] -/
def fLcIn (t : Tg) (c : PB) (f : PX) (own : List Nat) (ρ : Ev) (k : List D → Prop) : List D → List D → Prop
  | [], acc => k acc
  | d :: ds, acc => tgE t d (wipeE ρ own) fun ρ2 => c ρ2 (fun b => (b = true → f ρ2 (fun y => acc.length < LIM ∧ fLcIn t c f own ρ k ds (acc ++ [y])) fun _ => False) ∧ (b = false → fLcIn t c f own ρ k ds acc)) fun _ => False
def fLc2Loop (t : Tg) (c : PB) (fi1 : PAx) (t1 : Tg) (c1 : PB) (f : PX) (own own1 : List Nat) (ρ : Ev) (q : D → Prop) : List D → List D → Prop
  | [], acc => q (.lst acc)
  | d :: ds, acc => tgE t d (wipeE ρ own) fun ρ2 => c ρ2 (fun b => (b = true → fi1 ρ2 (fun ds1 => fLcIn t1 c1 f own1 ρ2 (fun acc2 => fLc2Loop t c fi1 t1 c1 f own own1 ρ q ds acc2) ds1 acc) fun _ => False) ∧ (b = false → fLc2Loop t c fi1 t1 c1 f own own1 ρ q ds acc)) fun _ => False
def fLc2 (fi : PAx) (t : Tg) (c : PB) (fi1 : PAx) (t1 : Tg) (c1 : PB) (f : PX) (own own1 : List Nat) : PX := fun ρ q x => fi ρ (fun ds => fLc2Loop t c fi1 t1 c1 f own own1 ρ q ds []) x
section
variable {K : PySem.W.Frag} {w : Wd} {H H' : Hp} {p : Addr}
/-- all but p stays -/
def KB (w : Wd) (p : Addr) (H H' : Hp) : Prop := ∀ a o, w.wl ≠ some a → a ≠ p → H a = some o → NT o → H' a = some o
mutual
theorem Rp.kb (h : Wk w H) (hp : w.hid p) (k : KB w p H H') : ∀ (d : D) (v : V), Rp K w H d v → Rp K w H' d v
  | .non, _, r => r
  | .bl _, _, r => r
  | .int _, _, r => r
  | .str _, _, r => r
  | .tup ds, _, ⟨a, vs, e, s, q⟩ => by
    refine ⟨a, vs, e, ?_, RpL.kb h hp k ds vs q⟩
    obtain ⟨o, ho, m⟩ := h.hid p hp
    rcases s with s | s
    · have n := h.notTup s
      rcases s with s | ⟨u, s⟩
      · exact .inl (.inl (k _ _ n (ne_of s ho (fun z => by subst z; exact m)) s (fun _ z => nomatch z)))
      · exact .inl (.inr ⟨u, k _ _ n (ne_of s ho (fun z => by subst z; exact m)) s (fun _ z => nomatch z)⟩)
    · exact .inr s
  | .lst ds, _, ⟨a, vs, e, n, s, q⟩ => ⟨a, vs, e, n, k _ _ n.1 (fun z => n.2.1 (by rw [z]; exact hp)) s (fun _ z => nomatch z), RpL.kb h hp k ds vs q⟩
  | .well, _, r => r
  | .ty _, _, r => r
  | .scr ns, _, ⟨a, e, s⟩ => by
    refine ⟨a, e, ?_⟩
    obtain ⟨o, ho, m⟩ := h.hid p hp
    rcases s with ⟨u, s⟩ | s
    · refine .inl ⟨u, k _ _ (fun z => ?_) (ne_of s ho (fun z => by subst z; exact m)) s (fun _ z => nomatch z)⟩
      obtain ⟨i, j, l, e, _⟩ := h.well a z
      rw [s] at e; cases e
    · exact .inr s
theorem RpL.kb (h : Wk w H) (hp : w.hid p) (k : KB w p H H') : ∀ (ds : List D) (vs : List V), RpL K w H ds vs → RpL K w H' ds vs
  | [], _, r => r
  | d :: ds, _, ⟨v, r, e, q1, q⟩ => ⟨v, r, e, Rp.kb h hp k d v q1, RpL.kb h hp k ds r q⟩
end
theorem EvR.kb {ρ : Ev} {σ : L2.St} (r : EvR K w H ρ σ) (h : Wk w H) (hp : w.hid p) (k : KB w p H H') : EvR K w H' ρ σ :=
  ⟨r.len, fun i d e => let ⟨v, a, b⟩ := r.at_ i d e; ⟨v, a, Rp.kb h hp k d v b⟩, fun i xs e => let ⟨a, vs, b, c, d, f, g⟩ := r.ow i xs e; ⟨a, vs, b, c, d, k _ _ c.1 (fun z => c.2 (by rw [z]; exact hp)) f (fun _ z => nomatch z), RpL.kb h hp k xs vs g⟩, r.uni⟩
theorem Ext.kb (x : Ext w H H') : KB w p H H' := fun a o n _ e t => x.keep a o n e t
end
section
variable {X : Cx} {W : WY}
theorem lc2_weak {fi : PAx} {t : Tg} {c : PB} {fi1 : PAx} {t1 : Tg} {c1 : PB} {f : PX} {own own1 : List Nat} (hsl : ∀ i ∈ slots t, i ∈ own) (hsl1 : ∀ i ∈ slots t1, i ∈ own1) {σ : L2.St} {H : Hp} {Q : VK} (h : eE X W (fLc2 fi t c fi1 t1 c1 f own own1) σ H Q) :
    tLc2 (eI X W fi) (tgV X.K t) (eB X (W0 W.T) c) (eI X (W0 W.T) fi1) (tgV X.K t1) (eB X (W0 W.T) c1) (eE X (W0 W.T) f) own own1 σ H Q := by
  obtain ⟨wl, ρ, q, x, hk, he, hfi, hq, hx⟩ := h
  refine ⟨wl, ρ, _, x, hk, he, hfi, fun ds J H1 e1 F h1 Dl hD => ?_, hx⟩
  have fD : wl.fr Dl := e1.wk.new hD
  let wh := wl.hide [Dl]
  have hex : ∀ a, a ∈ [Dl] → H1 a = none := fun a ha => by rw [List.mem_singleton.mp ha]; exact hD
  have mD : wh.hid Dl := .inl (List.mem_cons_self ..)
  have wkD : ∀ {H' : Hp} {vs : List V}, Wk wl H' → H' Dl = some (.lst vs) → Wk wh H' := fun {H' vs} k hv => ⟨k.well, fun a ha => by
    rcases ha with z | z
    · rw [List.mem_singleton.mp z]; exact ⟨_, hv, True.intro⟩
    · exact k.hid a z, k.ow, k.tabs⟩
  have un : ∀ {Ha Hb : Hp}, Ext wh Ha Hb → Ext wl Ha Hb := fun {Ha Hb} e => ⟨e.keep, e.wk.well, fun a ha => e.wk.hid a (.inr ha), e.wk.ow, e.wk.tabs⟩
  have st : ∀ {H' : Hp} {vs : List V}, Ext wl H1 H' → H' Dl = some (.lst vs) → Step wl H1 wh H' := fun {H' vs} e hv => ⟨rfl, rfl, fun a o n _ z t => e.keep a o n z t, fun a z => .inr z, fun a z => by
    rcases z with z | z
    · exact .inr (.inr (Fresh.of (hex a z)))
    · exact .inl z, fun a z => .inl z, wkD e.wk hv⟩
  have n1 : ∀ a o, H1 a = some o → a ≠ Dl := fun a o e z => by rw [z, hD] at e; cases e
  -- an item is put down
  have put : ∀ {Ha : Hp} {vs us : List V}, Ext wl H1 Ha → Ha Dl = some (.lst vs) → Ext wl H1 (upd Ha Dl (.lst us)) := fun {Ha vs us} e hv =>
    ⟨fun a o w' z t => by rw [upd_ne (n1 a o z)]; exact e.keep a o w' z t, e.wk.write hv True.intro True.intro fun z => (fD.1 z).elim⟩
  -- the same world, the list that is made being the def's own
  let wt : Wd := ⟨wl.wl, wl.hid, fun a => a = Dl ∨ wl.ow a, wl.tabs⟩
  have wkT : ∀ {H' : Hp}, Wk wh H' → Wk wt H' := fun {H'} k => ⟨k.well, fun a z => k.hid a (.inr z), fun a z => z.elim (fun z => k.hid a (.inl (by simp [z]))) (k.ow a), k.tabs⟩
  have wkH : ∀ {H' : Hp}, Wk wt H' → Wk wh H' := fun {H'} k => ⟨k.well, fun a z => z.elim (fun z => k.ow a (.inl (List.mem_singleton.mp z))) (k.hid a), fun a z => k.ow a (.inr z), k.tabs⟩
  have fHT : ∀ a, wh.fr a → wt.fr a := fun a z => ⟨z.1, fun y => z.2.1 (.inr y), fun y => y.elim (fun y => z.2.1 (.inl (by simp [y]))) z.2.2⟩
  have fTH : ∀ a, wt.fr a → wh.fr a := fun a z => ⟨z.1, fun y => y.elim (fun y => z.2.2 (.inl (List.mem_singleton.mp y))) z.2.1, fun y => z.2.2 (.inr y)⟩
  have evT : ∀ {H' : Hp} {ρ' : Ev} {σ' : L2.St}, EvR X.K wh H' ρ' σ' → EvR X.K wt H' ρ' σ' := fun {H' ρ' σ'} r =>
    ⟨r.len, fun i d e => let ⟨v, a, b⟩ := r.at_ i d e; ⟨v, a, Rp.less (w := wh) (w' := wt) rfl fHT d v b⟩, fun i xs e => let ⟨a, vs, b, c, d, f, g⟩ := r.ow i xs e; ⟨a, vs, b, ⟨c.1, fun z => c.2 (.inr z)⟩, .inr d, f, RpL.less (w := wh) (w' := wt) rfl fHT xs vs g⟩, r.uni⟩
  have exH : ∀ {Ha Hb : Hp}, Ext wt Ha Hb → Ext wh Ha Hb := fun {Ha Hb} e => ⟨e.keep, wkH e.wk⟩
  refine ⟨fun i m H' => m = ds.length - i ∧ i ≤ ds.length ∧ Ext wl H1 H' ∧ ∃ acc vs, H' Dl = some (.lst vs) ∧ RpL X.K wh H' acc vs ∧ fLc2Loop t c fi1 t1 c1 f own own1 ρ q (ds.drop i) acc, ⟨_, rfl, Nat.zero_le _, Ext.new e1.wk hD, [], [], upd_same, rfl, h1⟩, fun i m H2 hw => ?_⟩
  obtain ⟨em, hi2, e2, acc, vs, hv2, ra, h2⟩ := hw
  obtain ⟨F1, F2, F3⟩ := F wh i H2 (st e2 hv2)
  by_cases hlt : i < ds.length
  · refine .inr ⟨F1 hlt, fun H3 => Ext wl H1 H3 ∧ ∃ acc vs, H3 Dl = some (.lst vs) ∧ RpL X.K wh H3 acc vs ∧ fLc2Loop t c fi1 t1 c1 f own own1 ρ q (ds.drop (i + 1)) acc, fun H3 ⟨e3, acc3, vs3, a3, b3, c3⟩ => ⟨ds.length - (i + 1), by omega, rfl, hlt, e3, acc3, vs3, a3, b3, c3⟩, fun x3 H3 hy => ?_⟩
    obtain ⟨e3', d, hd, rd⟩ := F3 hlt x3 H3 hy
    have e3 := un e3'
    rw [List.drop_eq_getElem_cons hlt] at h2
    obtain rfl : ds[i] = d := by rw [List.getElem?_eq_getElem hlt] at hd; exact Option.some.inj hd
    have hv3 : H3 Dl = some (.lst vs) := e3.keep _ _ fD.1 hv2 (fun _ z => nomatch z)
    have k3 := wkD e3.wk hv3
    have he3 := ((he.ext hk e1).into e1.wk hex (e2.trans e3)).wiped own
    have ra3 := RpL.ext (wkD e2.wk hv2) e3' _ _ ra
    refine tgV_mono t x3 (wipe σ own) H3 _ _ (fun σ4 H4 ⟨eH, ew, ρ4, he4, h4⟩ => ?_) (tg_ok (own := own) t ds[i] x3 (wipeE ρ own) (wipe σ own) H3 _ hsl k3 he3 rd h2)
    refine ⟨ew.trans (wipe_wipe own fun _ z => z), wh, ρ4, _, _, eH.wk, he4, h4, fun b H5 e45 h5 => ?_, out0 hx.1⟩
    have e5 := eH.trans e45
    have e35 : Ext wl H3 H5 := un e5
    have hv5 : H5 Dl = some (.lst vs) := e5.keep _ _ fD.1 hv3 (fun _ z => nomatch z)
    have ra5 := RpL.ext k3 e5 _ _ ra3
    have e15 : Ext wl H1 H5 := (e2.trans e3).trans e35
    cases b with
    | false => exact iteF ⟨e15, acc, vs, hv5, ra5, h5.2 rfl⟩
    | true =>
      have he5 := he4.ext eH.wk e45
      refine iteT ⟨wt, ρ4, _, _, wkT e5.wk, evT he5, h5.1 rfl, fun ds1 J1 H6 e6' G g1 => ?_, out0 hx.1⟩
      have e6 := exH e6'
      have hv6 : H6 Dl = some (.lst vs) := e6.keep _ _ fD.1 hv5 (fun _ z => nomatch z)
      have he6 := he5.ext e5.wk e6
      refine ⟨fun j k H' => k = ds1.length - j ∧ j ≤ ds1.length ∧ Ext wl H1 H' ∧ KB wh Dl H6 H' ∧ ∃ acc vs, H' Dl = some (.lst vs) ∧ RpL X.K wh H' acc vs ∧ fLcIn t1 c1 f own1 ρ4 (fun acc2 => fLc2Loop t c fi1 t1 c1 f own own1 ρ q (ds.drop (i + 1)) acc2) (ds1.drop j) acc,
        ⟨_, rfl, Nat.zero_le _, e15.trans (un e6), fun _ _ _ _ z _ => z, acc, vs, hv6, RpL.ext e5.wk e6 _ _ ra5, g1⟩, fun j k H7 hw1 => ?_⟩
      obtain ⟨ek, hj2, e17, kb7, acc7, vs7, hv7, ra7, h7⟩ := hw1
      have k7 : Wk wh H7 := wkD e17.wk hv7
      have he7 := he6.kb e6.wk mD kb7
      have s7 : Step wt H6 wt H7 := ⟨rfl, rfl, fun a o n m z t => kb7 a o n (fun y => m (.inl y)) z t, fun _ z => z, fun _ z => .inl z, fun _ z => .inl z, wkT k7⟩
      obtain ⟨G1, G2, G3⟩ := G wt j H7 s7
      by_cases hj : j < ds1.length
      · refine .inr ⟨G1 hj, fun H8 => Ext wl H1 H8 ∧ KB wh Dl H6 H8 ∧ ∃ acc vs, H8 Dl = some (.lst vs) ∧ RpL X.K wh H8 acc vs ∧ fLcIn t1 c1 f own1 ρ4 (fun acc2 => fLc2Loop t c fi1 t1 c1 f own own1 ρ q (ds.drop (i + 1)) acc2) (ds1.drop (j + 1)) acc,
          fun H8 ⟨e8, kb8, a8, v8, b8, c8, d8⟩ => ⟨ds1.length - (j + 1), by omega, rfl, hj, e8, kb8, a8, v8, b8, c8, d8⟩, fun x8 H8 hy8 => ?_⟩
        obtain ⟨e8', d8, hd8, rd8⟩ := G3 hj x8 H8 hy8
        have e8 := exH e8'
        rw [List.drop_eq_getElem_cons hj] at h7
        obtain rfl : ds1[j] = d8 := by rw [List.getElem?_eq_getElem hj] at hd8; exact Option.some.inj hd8
        have hv8 : H8 Dl = some (.lst vs7) := e8.keep _ _ fD.1 hv7 (fun _ z => nomatch z)
        have ra8 := RpL.ext k7 e8 _ _ ra7
        have he8 := (he7.ext k7 e8).wiped own1
        refine tgV_mono t1 x8 (wipe σ4 own1) H8 _ _ (fun σ9 H9 ⟨eH9, ew9, ρ9, he9, h9⟩ => ?_) (tg_ok (own := own1) t1 ds1[j] x8 (wipeE ρ4 own1) (wipe σ4 own1) H8 _ hsl1 e8.wk he8 (Rp.less (w := wt) (w' := wh) rfl fTH _ _ rd8) h7)
        refine ⟨ew9.trans (wipe_wipe own1 fun _ z => z), wh, ρ9, _, _, eH9.wk, he9, h9, fun b1 H10 e10 h10 => ?_, out0 hx.1⟩
        have e810 := e8.trans (eH9.trans e10)
        have e710 : Ext wl H1 H10 := e17.trans (un e810)
        have hv10 : H10 Dl = some (.lst vs7) := (eH9.trans e10).keep _ _ fD.1 hv8 (fun _ z => nomatch z)
        have ra10 := RpL.ext e8.wk (eH9.trans e10) _ _ ra8
        have kb10 : KB wh Dl H6 H10 := fun a o n m z t => e810.keep a o n (kb7 a o n m z t) t
        cases b1 with
        | false => exact iteF ⟨e710, kb10, acc7, vs7, hv10, ra10, h10.2 rfl⟩
        | true =>
          refine iteT ⟨wh, ρ9, _, _, e10.wk, he9.ext eH9.wk e10, h10.1 rfl, fun y vy H11 e11 r11 ⟨hl, h11⟩ => ?_, out0 hx.1⟩
          have hv11 : H11 Dl = some (.lst vs7) := e11.keep _ _ fD.1 hv10 (fun _ z => nomatch z)
          have ra11 := RpL.ext e10.wk e11 _ _ ra10
          refine ⟨vs7, hv11, lim_lt (by rw [ra11.length]; exact Nat.le_of_lt hl), put (e710.trans (un e11)) hv11, fun a o n m z t => ?_, acc7 ++ [y], vs7 ++ [vy], upd_same, RpL.write (fun z => z.2.1 mD) hv11 True.intro _ _ (ra11.append (RpL.one r11)), h11⟩
          rw [upd_ne m]
          exact e11.keep a o n (kb10 a o n m z t) t
      · have ej : j = ds1.length := by omega
        subst ej
        rw [List.drop_length] at h7
        exact .inl ⟨G2 rfl, e17, acc7, vs7, hv7, ra7, h7⟩
  · have ei : i = ds.length := by omega
    subst ei
    rw [List.drop_length] at h2
    exact .inl ⟨F2 rfl, hq (.lst acc) (.ref Dl) H2 (e1.trans e2) ⟨Dl, vs, rfl, fD, hv2, RpL.out _ _ ra⟩ h2⟩
theorem d_lc2 {elt tg iter tg1 iter1 : Expr} {ifs ifs1 : List Expr} {scope : Scope} {own : List (Str × Nat)} {own1 : List Nat} {pos : Pos} {fi fi1 : PAx} {t t1 : Tg} {c c1 : PB} {f : PX} (hc : X.calm = true) (hN : X.N.Nodup) (hi : PI X tg iter (eI X W fi)) (ok : BlkOk X.N X.env.scope scope own)
    (hg : ∀ (s : Shared) (H : Hp) (C : Addr) (cl : List (Str × Addr)) (fp : List Addr), PG (X.blk s H scope (compEnvC scope cl C X.env) fp) tg (tgV (X.blk s H scope (compEnvC scope cl C X.env) fp).K t))
    (ht : ∀ (s : Shared) (H : Hp) (C : Addr) (cl : List (Str × Addr)) (fp : List Addr), PTs (X.blk s H scope (compEnvC scope cl C X.env) fp) ifs (eB (X.blk s H scope (compEnvC scope cl C X.env) fp) (W0 W.T) c))
    (hi1 : ∀ (s : Shared) (H : Hp) (C : Addr) (cl : List (Str × Addr)) (fp : List Addr), PI (X.blk s H scope (compEnvC scope cl C X.env) fp) tg1 iter1 (eI (X.blk s H scope (compEnvC scope cl C X.env) fp) (W0 W.T) fi1))
    (hg1 : ∀ (s : Shared) (H : Hp) (C : Addr) (cl : List (Str × Addr)) (fp : List Addr), PG (X.blk s H scope (compEnvC scope cl C X.env) fp) tg1 (tgV (X.blk s H scope (compEnvC scope cl C X.env) fp).K t1))
    (ht1 : ∀ (s : Shared) (H : Hp) (C : Addr) (cl : List (Str × Addr)) (fp : List Addr), PTs (X.blk s H scope (compEnvC scope cl C X.env) fp) ifs1 (eB (X.blk s H scope (compEnvC scope cl C X.env) fp) (W0 W.T) c1))
    (he : ∀ (s : Shared) (H : Hp) (C : Addr) (cl : List (Str × Addr)) (fp : List Addr), PE (X.blk s H scope (compEnvC scope cl C X.env) fp) elt (eE (X.blk s H scope (compEnvC scope cl C X.env) fp) (W0 W.T) f)) (hsl : ∀ i ∈ slots t, i ∈ own.map (·.2) := by decide) (hsl1 : ∀ i ∈ slots t1, i ∈ own1 := by decide) (hv : ∀ i ∈ own1, i ∈ own.map (·.2) := by decide)
    (hs : ∀ x, foldedSetIterable iter X.env x = pure x := by intro _; rfl) (hs1 : ∀ env x, foldedSetIterable iter1 env x = pure x := by intro _ _; rfl) : PE X (.ListComp elt [⟨tg, iter, ifs, 0⟩, ⟨tg1, iter1, ifs1, 0⟩] scope pos) (eE X W (fLc2 fi t c fi1 t1 c1 f (own.map (·.2)) own1)) :=
  PE.weak (pe_lc2 (g := tgV X.K t) (g1 := tgV X.K t1) (tt := eB X (W0 W.T) c) (tt1 := eB X (W0 W.T) c1) (wi1 := eI X (W0 W.T) fi1) (te := eE X (W0 W.T) f) hc hN hi ok hv hg ht hi1 hg1 ht1 he hs hs1) fun _ _ _ h => lc2_weak hsl hsl1 h
end
end PL

namespace PL
open PySem PySem.Spec L2

/-! # a sequence times a number -/
def timesD (xs : List D) (k : Int) : List D := (List.replicate k.toNat xs).flatten
def mulAG : PG2
  | .int i, .int j, q => CMul i j ∧ q (.int (i * j))
  | .lst xs, .int k, q => (-1000 ≤ k ∧ k ≤ 1000 ∧ xs.length ≤ 1000) ∧ q (.lst (timesD xs k))
  | .tup xs, .int k, q => (xs ≠ [] ∧ 2 ≤ k ∧ k ≤ 1000 ∧ xs.length ≤ 1000) ∧ q (.tup (timesD xs k))
  | _, _, _ => False
def rMulA (K : PySem.W.Frag) : R2 := fun x y H Q => rI CMul (fun i j => .int (i * j)) x y H Q ∨ rRep x y H Q ∨ rRepT K x y H Q
section
variable {X : Cx} {W : WY} {K : PySem.W.Frag}
theorem op_mulA : OpR X (binaryOp .Mult) (rMulA X.K) := op_mul.or (op_rep.or op_repT)
theorem flat_rp {wl : Wd} {H : Hp} {ds : List D} {vs : List V} (r : RpL K wl H ds vs) : ∀ n : Nat, RpL K wl H (List.replicate n ds).flatten (List.replicate n vs).flatten
  | 0 => rfl
  | n + 1 => by rw [List.replicate_succ, List.replicate_succ, List.flatten_cons, List.flatten_cons]; exact r.append (flat_rp r n)
theorem mulA_ok : Cmp2 K (rMulA K) mulAG := by
  intro wl H d1 d2 v1 v2 q Q hk r1 r2 g hq
  cases d2 <;> (try (cases d1 <;> exact g.elim))
  case int k =>
    cases r2
    cases d1 <;> try exact g.elim
    case int i =>
      cases r1
      exact .inl ⟨i, k, rfl, rfl, g.1, hq (.int (i * k)) _ H (.refl hk) rfl g.2⟩
    case lst xs =>
      obtain ⟨⟨h1, h2, h3⟩, g⟩ := g
      obtain ⟨a, vs, rfl, f, s, r⟩ := r1
      refine .inr (.inl ⟨a, k, vs, rfl, rfl, s, by omega, by omega, ?_, fun p hp => ?_⟩)
      · rw [r.length]
        have h4 : xs.length * k.toNat ≤ 1000 * 1000 := Nat.mul_le_mul h3 (by omega)
        exact Nat.le_trans h4 (by decide)
      · obtain ⟨e, r2⟩ := new_lst hk hp (flat_rp r k.toNat)
        exact hq _ _ _ e r2 g
    case tup xs =>
      obtain ⟨⟨h0, h1, h2, h3⟩, g⟩ := g
      obtain ⟨a, vs, rfl, s, r⟩ := r1
      have hl := r.length
      refine .inr (.inr ⟨a, k, vs, rfl, rfl, s, fun z => h0 ?_, h1, h2, by omega, fun p hp => ?_⟩)
      · subst z
        exact List.eq_nil_of_length_eq_zero hl.symm
      · obtain ⟨e, r2⟩ := new_tup hk hp (flat_rp r k.toNat)
        exact hq _ _ _ e r2 g
def sPar3 (i j l : Nat) (f : PAx) : PSt := fun P ρ => f ρ (fun ds => ∃ a b c, ds = [a, b, c] ∧ P.nx (((ρ.set i (.dt a)).set j (.dt b)).set l (.dt c))) (P.ex ρ)
theorem ds_par3 {i j l : Nat} {x y z : Str} {a b c : Expr} {f : PAx} {px py pz pt pos : Pos} {kt k2 pt2} (hc : X.calm = true) (hN : X.N.Nodup) (hi : X.N[i]? = some x) (hj : X.N[j]? = some y) (hl : X.N[l]? = some z) (hij : i ≠ j) (hil : i ≠ l) (hjl : j ≠ l)
    (hx : X.env.scope.names.lookup x = some .local) (hy : X.env.scope.names.lookup y = some .local) (hz : X.env.scope.names.lookup z = some .local) (ha : PA X [a, b, c] (eA X W f))
    (hw : swappedStores [.Tuple [.Name x px, .Name y py, .Name z pz] kt pt] (.Tuple [a, b, c] k2 pt2) X.env = pure (some [x, y, z]) := by rfl)
    (hs : swapsWithSole [.Tuple [.Name x px, .Name y py, .Name z pz] kt pt] (.Tuple [a, b, c] k2 pt2) pos.line X.env = pure false := by rfl) :
    PS X (.Assign [.Tuple [.Name x px, .Name y py, .Name z pz] kt pt] (.Tuple [a, b, c] k2 pt2) pos) (eS X W (sPar3 i j l f)) := by
  refine PS.weak (ps_par3 hc hN hi hj hl hij hil hjl hx hy hz ha hw hs) fun En σ H ⟨wl, ρ, P, hk, he, h, r⟩ => ?_
  refine ⟨wl, ρ, _, P.ex ρ, hk, he, h, fun ds vs H1 e1 r1 ⟨a, b, c, ed, h1⟩ => ?_, r.out hk he⟩
  subst ed
  obtain ⟨v, t, rfl, ra, v2, t2, rfl, rb, v3, t3, rfl, rc, e2⟩ := r1
  cases e2
  exact ⟨v, v2, v3, rfl, r.nx wl _ _ H1 e1.step ((((he.ext hk e1).set ra i).set rb j).set rc l) h1⟩
/-- x, y = e, [..]: y the def's own from now on -/
def sParOw (i j : Nat) (f : PX) (g : PAx) : PSt := fun P ρ => f ρ (fun d => g ρ (fun ds => ds.length ≤ LIM ∧ P.nx ((ρ.set i (.dt d)).set j (.ow ds))) (P.ex ρ)) (P.ex ρ)
theorem ds_parOw {i j : Nat} {x y : Str} {a : Expr} {bs : List Expr} {f : PX} {g : PAx} {px py pt pos lpos : Pos} {kt k2 pt2} (hc : X.calm = true) (hN : X.N.Nodup) (hi : X.N[i]? = some x) (hj : X.N[j]? = some y) (hij : i ≠ j)
    (hx : X.env.scope.names.lookup x = some .local) (hy : X.env.scope.names.lookup y = some .local) (ha : PE X a (eE X W f)) (hb : PA X bs (eA X W g))
    (hst : starEach [a, .List bs lpos] X.env = (false, eval a X.env) :: starEach [.List bs lpos] X.env := by rfl) (hst2 : starEach [.List bs lpos] X.env = (false, eval (.List bs lpos) X.env) :: starEach [] X.env := by rfl)
    (hw : swappedStores [.Tuple [.Name x px, .Name y py] kt pt] (.Tuple [a, .List bs lpos] k2 pt2) X.env = pure (some [x, y]) := by rfl)
    (hs : swapsWithSole [.Tuple [.Name x px, .Name y py] kt pt] (.Tuple [a, .List bs lpos] k2 pt2) pos.line X.env = pure false := by rfl) :
    PS X (.Assign [.Tuple [.Name x px, .Name y py] kt pt] (.Tuple [a, .List bs lpos] k2 pt2) pos) (eS X W (sParOw i j f g)) := by
  refine PS.weak (ps_par hc hN hi hj hij hx hy (pa_cons ha (pa_cons (pe_lst hb) pa_nil hst2) hst) hw hs) fun En σ H ⟨wl, ρ, P, hk, he, h, r⟩ => ?_
  refine ⟨wl, ρ, _, P.ex ρ, hk, he, h, fun d v H1 e1 r1 h1 => ?_, r.out hk he⟩
  have he1 := he.ext hk e1
  refine ⟨wl, ρ, _, P.ex ρ, e1.wk, he1, h1, fun ds vs H2 e2 r2 ⟨hl, h2⟩ => ⟨lim_line (by rw [r2.length]; exact hl), fun p hp => ?_⟩, (r.ext e1).out e1.wk he1⟩
  refine ⟨v, .ref p, rfl, ?_⟩
  have he2 := (he1.ext e1.wk e2).set (Rp.ext e1.wk e2 _ _ r1) i
  exact r.nx (wl.take p) _ _ _ ((e1.trans e2).step.trans (take_step e2.wk hp)) (new_ow e2.wk hp he2 r2) h2
end
end PL

namespace PL
open PySem PySem.Spec L2
open PyProof.Rows PySem.W

/-! # set(l) of a list of numbers -/
abbrev set0 (w : World) : Obj := { cls := .type "set", dict := none, data := .set #[] 0 (.fresh 0 0 (!w.params.followText "set-order")) }
section
variable {P : Program} {w : World} {A : Around} {E : Value → Shared → Prop} {s : Shared}
set_option maxHeartbeats 8000000 in
theorem call_setL {l : Addr} {items : Array Value} (ns : List Int) {Q : Value → Shared → Prop} (hh : A.handled = none) (hl : s.heap.IsList l items) (hit : IntsAre items.toList ns) (hb : ns.length + 1 < scanBound)
    (q : ∀ (h' : Heap) (tk c : Nat), SetR w h' s.heap.objs.size (fun j => decide (j ∈ ns)) c → c ≤ ns.length → (∀ b o, s.heap.get? b = some o → h'.get? b = some o) → Q (.ref s.heap.objs.size) { s with heap := h', toks := tk }) :
    wpAny (model P w) A (call (.type "set") [.ref l]) Q E s := by
  have size : items.size = ns.length := by rw [← hit.length, Array.length_toList]
  obtain ⟨ct, tl, mro⟩ := F.called_set.mro
  have made := F.called_set.made
  have sub := F.called_set.sub
  let p := s.heap.objs.size
  let h1 := s.heap.push (set0 w)
  let s1 : Shared := { s with heap := h1 }
  refine wpAny_call (codeAny_of_tree ?_)
  show wpAny _ _ (callAny (.type "set") _) _ _ _
  refine wpAny_pure ⟨Code.quiet_builtin _ (by decide +kernel), codeAny_builtin F.entry_type_call ?_⟩
  rw [Around.under_plain (weight_type_call_type "set" [.ref l] []) rfl]
  have f1 := F.called_set.notType
  have f2 := F.called_set.canCreate
  have f3 := F.typeCall_set_1 (.ref l)
  repeat (any_goals (first | assumption | wp_step))
  refine codeAny_mono (code_set_led1 (.ref l) (E := E) (Q₁ := fun obj s2 => obj = .ref p ∧ s2 = s1) ⟨rfl, rfl⟩) fun r s2 hr => ?_
  match r, hr with
  | .error e, z => exact z
  | .ok (.ret obj), z =>
    obtain ⟨rfl, rfl⟩ := z
    have at1 : h1.get? p = some (set0 w) := Heap.get?_push_size _ rfl
    have ty1 : s1.TypeIs (.ref p) "set" := ⟨_, at1, rfl⟩
    have li := F.called_set.init.lookup
    have bi := F.called_set.init.bind (.ref p)
    repeat (any_goals (first | assumption | wp_step))
    have big : p < h1.objs.size := Heap.lt_size at1
    refine codeAny_mono (codeAny_call_builtin (R := wants (fun r s3 => r = .none ∧ ∃ h' tk c, s3 = { s with heap := h', toks := tk } ∧ SetR w h' p (fun j => decide (j ∈ ns)) c ∧ c ≤ ns.length ∧ ∀ b o, s.heap.get? b = some o → h'.get? b = some o) E)
      F.called_set.init.plain F.entry_set_init (check_set_init_1 ty1 ?_)) fun r2 s3 hr2 => ?_
    · obtain ⟨⟨ocls, odict, odata, osl⟩, hol, hcl, nl, hdl⟩ := hl
      simp only at hcl hdl
      subst hcl; subst hdl
      have atl : h1.get? l = some { cls := .type "list", dict := odict, data := .seq items nl, slots := osl } := Heap.get?_push_of_some _ hol
      have g1 := F.sub_list_set
      have g2 := F.sub_list_frozenset
      have g3 : (Value.type "list" == Value.type "dict") = false := by decide
      have isl : h1.IsList l items := ⟨_, atl, rfl, nl, rfl⟩
      have lp : l < p := Heap.lt_size hol
      have sz : h1.objs.size = p + 1 := Heap.size_push ..
      unfold Builtin.«set.__init__» noKeywords Builtin.Frozenset.updateFrom
      generalize hPI : pyIter = PI
      wp_walk
      subst hPI
      refine wpAny_pyIter_list isl (wpAny_bind (wpAny_runValue ?_))
      have h3 : A.in1.in1.in1.handled = none := by simp [hh]
      have nI : l ≠ h1.objs.size := by rw [sz]; exact Nat.ne_of_lt (Nat.lt_succ_of_lt lp)
      have nS : p ∉ [h1.objs.size, l] := by
        rw [sz]; simp only [List.mem_cons, List.not_mem_nil, or_false, not_or]
        exact ⟨Nat.ne_of_lt (Nat.lt_succ_self _), Nat.ne_of_gt lp⟩
      have num : ∀ (i : Nat) (v : Value), items[i]? = some v → ∃ k t, ns[i]? = some k ∧ v = .int k t := fun i v hv => by
        have hi : i < ns.length := by rw [← size]; exact (Array.getElem?_eq_some_iff.mp hv).1
        obtain ⟨t, e⟩ := IntsAre.int_at hit i v (by rw [Array.getElem?_toList]; exact hv)
        refine ⟨ns[i], t, List.getElem?_eq_getElem hi, ?_⟩
        rw [e, List.getD_eq_getElem?_getD, List.getElem?_eq_getElem hi] <;> rfl
      refine set_update_ints ((Walks.list h3 _ l nI items).toS) p nS ns size hb num (items.size - 0) 0 _ (by omega) (Nat.zero_le _) ⟨⟨_, Heap.get?_push_size _ rfl, rfl, rfl⟩, isl.push _⟩ ⟨0, Nat.le_refl 0, setR_new_at (Heap.get?_push_of_some _ at1)⟩ fun s4 c4 mv hc4 hS4 => ?_
      obtain ⟨h4, g4, d4, tk4, os4⟩ := s4
      have eg : g4 = s.gens := mv.gens
      have ed : d4 = s.drawn := mv.drawn
      have eo : os4 = s.os := mv.os
      subst eg; subst ed; subst eo
      show wpAny _ _ _ _ _ _
      refine wpAny_pure ?_
      show wpAny _ _ (ret Value.none) _ _ _
      rw [size] at hc4
      refine wpAny_pure ⟨rfl, h4, tk4, c4, rfl, hS4, hc4, fun b o e => ?_⟩
      have hb0 : b < p := Heap.lt_size e
      refine mv.heap b o ?_ (Heap.get?_push_of_some _ (Heap.get?_push_of_some _ e))
      simp only [List.mem_cons, List.not_mem_nil, or_false, not_or]
      exact ⟨Nat.ne_of_lt hb0, by rw [sz]; exact Nat.ne_of_lt (Nat.lt_succ_of_lt hb0)⟩
    · match r2, hr2 with
      | .error e, z => exact z
      | .ok (.ret r), z =>
        obtain ⟨rfl, h', tk, c', rfl, hS', hc', hk'⟩ := z
        repeat (any_goals (first | assumption | wp_step))
        exact q _ _ _ hS' hc' hk'
      | .ok .next, z => exact z.elim
      | .ok .brk, z => exact z.elim
      | .ok .cont, z => exact z.elim
  | .ok .next, z => exact z
  | .ok .brk, z => exact z
  | .ok .cont, z => exact z
end
theorem setR_list {w : World} {h : Heap} {a : Addr} {S : Int → Bool} {n : Nat} (R : SetR w h a S n) : ∃ l : List Int, l.Nodup ∧ l.length = n ∧ ∀ k, k ∈ l ↔ S k = true := by
  obtain ⟨o, es, ep, t, ho, hx, hd, g, nd, hm, hb, hf, hn, _⟩ := R
  exact ⟨es.toList.map keyOf, nd, by rw [List.length_map, Array.length_toList, hn], fun k => (hm k).symm⟩
def rSetL (K : PySem.W.Frag) (w : World) : List V → Hp → VK → Prop := fun vs H Q => ∃ (l : Addr) (ns : List Int), vs = [.ref l] ∧ SqL K H l (ns.map V.int) ∧ ns.length ≤ 1000 ∧
  ∀ (p : Addr) (c : Nat), H p = none → (∃ ms : List Int, ms.Nodup ∧ ms.length = c ∧ ∀ k, k ∈ ms ↔ k ∈ ns) → Q (.ref p) (upd H p (SetO w p (fun j => decide (j ∈ ns)) c))
section
variable {X : Cx} {W : WY}
theorem cr_setL (hc : X.calm = true) : CallR X (.type "set") (rSetL X.K X.w) := by
  intro pins s σ H vs us Q I r ⟨l, ns, e, hl, hz, q⟩
  subst e
  obtain rfl := Vals.ref1 r
  obtain ⟨its, rv, pl, _⟩ := I.list hl
  refine call_setL ns (I.ok.hd hc) pl.isList (by simpa using rv.ints) (Nat.lt_of_le_of_lt (Nat.succ_le_succ hz) (by decide)) fun h' tk c R hle k => ?_
  obtain ⟨ms, m1, m2, m3⟩ := setR_list R
  exact ⟨.ref _, _, I.laid (t' := tk) k (Nat.le_refl _) (setO_new R), rfl, q _ c (I.hok.fresh (Nat.le_refl _)) ⟨ms, m1, m2, fun j => (m3 j).trans decide_eq_true_iff⟩⟩
/-- sorted(set(e)), e's numbers being fewer than 64 unlike ones -/
def fSortSet (fe : PAx) : PX := fun ρ q x => fe ρ (fun ds => ∃ ns : List Int, ds = [.lst (ns.map D.int)] ∧ ns.length ≤ 1000 ∧ (∀ ms : List Int, ms.Nodup → (∀ k, k ∈ ms ↔ k ∈ ns) → ms.length < 64) ∧
  ∀ os : List Int, os.Pairwise (· < ·) → (∀ k, k ∈ os ↔ k ∈ ns) → q (.lst (os.map D.int))) x
theorem d_sortSet {e : Expr} {fe : PAx} {p p2 pos pos2 : Pos} (hcm : X.calm = true) (hg : Gl X "sorted") (hm : X.mg "sorted" = none) (hg2 : Gl X "set") (hm2 : X.mg "set" = none) (ha : PA X [e] (eA X W fe))
    (hs2 : starEach [e] X.env = (false, eval e X.env) :: starEach [] X.env := by rfl) (hs1 : starEach [.Call (.Name "set" p2) [e] [] pos2] X.env = (false, eval (.Call (.Name "set" p2) [e] [] pos2) X.env) :: starEach [] X.env := by rfl)
    (hp2 : (backTo pos2 (starEach [] X.env)).any (·.1) = false := by rfl) (hp1 : (backTo pos (starEach [] X.env)).any (·.1) = false := by rfl) :
    PE X (.Call (.Name "sorted" p) [.Call (.Name "set" p2) [e] [] pos2] [] pos) (eE X W (fSortSet fe)) := by
  refine PE.weak (pe_callB (cr_sortedSet hcm) hg hm (by rfl) (pa_cons (pe_callTy (cr_setL hcm) hg2 hm2 (by rfl) ha (he := hs2) (hpl := hp2)) pa_nil hs1) (he := hs1) (hpl := hp1)) fun σ H Q ⟨wl, ρ, q, x, hk, hev, hf, hq, hx⟩ => ?_
  refine ⟨wl, ρ, _, x, hk, hev, hf, fun ds vs H1 e1 r1 ⟨ns, ed, hz, few, h1⟩ => ?_, hx⟩
  subst ed
  obtain ⟨v, t, rfl, ⟨a, us, rfl, fa, sa, ra⟩, rt⟩ := r1
  cases rt
  obtain rfl := rp_ints ra
  refine ⟨a, ns, rfl, SqL.of sa, hz, fun p c np ⟨ms, m1, m2, m3⟩ => ?_⟩
  have x2 : Ext wl H1 (upd H1 p (SetO X.w p (fun j => decide (j ∈ ns)) c)) := Ext.new e1.wk np
  refine ⟨p, _, c, rfl, upd_same, by rw [← m2]; exact few ms m1 m3, fun os p2 o1 o2 _ np2 => ?_⟩
  obtain ⟨x3, r3⟩ := new_lst (ds := os.map D.int) (vs := os.map V.int) x2.wk np2 (rp_of_ints os)
  exact hq _ _ _ ((e1.trans x2).trans x3) r3 (h1 os o1 fun k => (o2 k).trans decide_eq_true_iff)
end
end PL

namespace PL
open PySem PySem.Spec L2
open PyProof.Rows (envOfC)
open PySem.W (kla_fn)

/-! # defs that make lambdas -/
/-- the def's code object and its table are known: q, the name of what it makes -/
def LamAt (base : Heap) (mg : Str → Option Value) (tt : List (Addr × Str)) (cdv : Value) (q : Str) : Prop := ∃ c P : Addr, LamX.TabB base mg c P ∧ cdv = .ref c ∧ (P, q) ∈ tt ∧ ∀ p ∈ tt, p.1 = P → p.2 = q
abbrev BdyL (P : Program) (w : World) (K : PySem.W.Frag) (mg : Str → Option Value) (base : Heap) (T : List (Addr × Str)) (k : Nat) (name : Str) (st : Stmt) (N : List Str) (f : Addr) (q : Str) (g : PSt) : Prop :=
  ∀ (cdv : Value) (A : Around) (outer : List Env) (s0 : Shared) (H : Hp) (E : XK), Room k (A.deeper (envOfC name (defScope st) s0.heap.objs.size f cdv)) → A.guards = some [] →
      Takes (cxOf (L2.CX P w) P w K mg base N name (defScope st) f cdv A outer s0 H E) (fun c d _ H' => E c d H') →
      PassesOwn (model P w) (A.deeper (envOfC name (defScope st) s0.heap.objs.size f cdv)) (envOfC name (defScope st) s0.heap.objs.size f cdv) (cxOf (L2.CX P w) P w K mg base N name (defScope st) f cdv A outer s0 H E).xe →
      LamAt base mg T cdv q →
      PSs (cxOf (L2.CX P w) P w K mg base N name (defScope st) f cdv A outer s0 H E) (defBody st) (eS (cxOf (L2.CX P w) P w K mg base N name (defScope st) f cdv A outer s0 H E) ⟨fun c d _ H' => E c d H', T⟩ g)
/-- a def of the top that makes lambdas -/
def DefL (K : PySem.W.Frag) (mg : Str → Option Value) (name : Str) (st : Stmt) (ps : List Str) (c : Addr) : Prop := ∃ f fd, DefAt K mg name st ps f fd ∧ fd.code = .ref c
theorem fn_mkL {P : Program} {w : World} {K : PySem.W.Frag} {mg : Str → Option Value} {base : Heap} {T : List (Addr × Str)} {k : Nat} {name : Str} {st : Stmt} {ps N : List Str} {s : PSp} {g : PSt} {c : Addr} {q : Str} (F : DefL K mg name st ps c) (S : FnScope N ps (defScope st)) (L : LamAt base mg T (.ref c) q)
    (body : ∀ f, BdyL P w K mg base T k name st N f q g)
    (hs : ∀ ds q x, s ds q x → ds.length = ps.length ∧ g ⟨fun _ => q .non, q, fun _ => False, fun _ => False, fun _ e => x e⟩ (startD N ds)) : FnD P w K mg base T (k + 1) name st ps s := by
  obtain ⟨f, fd, DA, hc⟩ := F
  refine ⟨f, fd, DA, ?_⟩
  obtain ⟨FF, hm, hb⟩ := DA
  obtain ⟨oc, od, kV, doc, pm, an, cdv, ct, osl, rfl, lk, hcd⟩ := FF.ex
  have hc : cdv = .ref c := hc
  subst hc
  refine fn_ofG lk hcd S (fun vs H Q E ⟨wl, ds, q, x, _, _, r, h, _⟩ => r.length.trans (hs ds q x h).1) fun A outer s0 H vs Q E hgd hr hsp => ?_
  obtain ⟨wl, ds, q', x, ht, hk, r, h, hq, hx⟩ := hsp
  refine ⟨_, body f (.ref c) A outer s0 H E hr hgd (takes_of rfl rfl rfl rfl) (passes_of rfl) L, wl.call, _, _, hk.call, evr_start (RpL.less (w := wl) (w' := wl.call) rfl (fun _ z => Wd.call_fr.mp z) ds vs r), (hs ds q' x h).2, ?_⟩
  exact ⟨ht, fun w ρ σ H' e _ z => hq .non .non H' e.back rfl z, fun w d v H' e r' z => hq d v H' e.back (e.back_rp r') z, fun _ _ _ _ _ _ z => z.elim, fun _ _ _ _ _ _ z => z.elim, fun w ρ σ H' en c dd e _ r' z => hx en c dd H' e.back (e.back_xn r') z⟩
theorem u64 {k : Nat} {A : Around} (r : Room k A) : A.units + 64 < cLine := by have := u200 r; omega
theorem u65 {k : Nat} {A : Around} (r : Room k A) : A.units + 65 < cLine := by have := u200 r; omega
/-- parts of a text -/
def anyE : Expr := .Constant .none 0 ⟨0, 0, 0, 0⟩
def callArg (i : Nat) : Expr → Expr
  | .Call _ as _ _ => as.getD i anyE
  | e => e
def callKw (i : Nat) : Expr → Expr
  | .Call _ _ ks _ => match ks[i]? with
    | some k => k.value
    | none => anyE
  | e => e
def retVal : Stmt → Expr
  | .Return (some e) _ => e
  | .Assign _ e _ => e
  | .Expr e _ => e
  | _ => anyE
def lamScope : Expr → Scope
  | .Lambda _ _ sc _ => sc
  | _ => default
def lastOf (st : Stmt) (i : Nat) : Stmt := (defBody st).getD i (.Pass ⟨0, 0, 0, 0⟩)
theorem lm_mk {X : Cx} {T : List (Addr × Str)} {c P : Addr} {params : Arguments} {scope : Scope} {q : Str} (h1 : LamX.TabB X.base X.mg c P) (h2 : X.env.code = .ref c) (h3 : (P, q) ∈ T) (h4 : ∀ p ∈ T, p.1 = P → p.2 = q) (hd : defaultsOf params X.env = ([], [])) (hf : ∀ y ∈ scope.names, y.2 = .free → ∃ c, X.env.cells.lookup y.1 = some c) (hq : X.env.qual ++ "<lambda>" = q := by rfl) : LamMk X T c P params scope := by
  subst hq
  exact ⟨h1, h2, h3, h4, hd, hf⟩
end PL

namespace PL
open PySem PySem.Spec L2
open PyProof.Rows (envOfC)

/-! # the end of a law with one def that makes a lambda -/
theorem tab_mk {K : PySem.W.Frag} {x : Str} {f c P : Addr} {oc oc2 : Value} {od od2 : Option Addr} {fd : FuncData} {sl sl2 : Array (Option Value)} {vs : Array Value} (a : PySem.W.nsIn K mainGlobals x = some (some (.ref f))) (l : K.lookup f = some ⟨oc, od, .func fd, sl⟩) (e : fd.code = .ref c)
    (l2 : K.lookup c = some ⟨oc2, od2, .fields vs, sl2⟩) (v : (vs[11]? : Option Value) = some (.ref P)) : PySem.W.tabIn K x = some (c, P) := by
  unfold PySem.W.tabIn
  rw [a]
  dsimp only
  rw [l]
  dsimp only
  rw [e]
  dsimp only
  rw [l2]
  dsimp only
  rw [v]
theorem tab_code {K : PySem.W.Frag} {x : Str} {f c P : Addr} {oc : Value} {od : Option Addr} {fd : FuncData} {sl : Array (Option Value)} (a : PySem.W.nsIn K mainGlobals x = some (some (.ref f))) (l : K.lookup f = some ⟨oc, od, .func fd, sl⟩) (t : PySem.W.tabIn K x = some (c, P)) : fd.code = .ref c := by
  unfold PySem.W.tabIn at t
  rw [a] at t
  dsimp only at t
  rw [l] at t
  dsimp only at t
  split at t
  · rename_i c2 hc
    split at t
    · split at t
      · cases t; exact hc
      · cases t
    · cases t
  · cases t
theorem defl_e {K : PySem.W.Frag} {mg : Str → Option Value} {h : Heap} {x : Str} {st : Stmt} {ps : List Str} {f cc P : Addr} {oc : Value} {od an : Option Addr} {osl : Array (Option Value)} {kV doc pm cdv ct : Value} (X : K.In h) (G : h.Ns mainGlobals mg)
    (a : PySem.W.nsIn K mainGlobals x = some (some (.ref f))) (l : K.lookup f = some ⟨oc, od, .func (PySem.W.fnOf x x (defArgs st) (defBody st) (defScope st) .none kV doc pm an cdv ct), osl⟩) (c : PySem.W.codeIn K cdv x = true) (k : PySem.W.keepIn K (.ref f) = true) (t : PySem.W.tabIn K x = some (cc, P))
    (b : ∀ (kV doc pm : Value) (an : Option Addr) (cdv ct : Value) (us : List Value), us.length = ps.length → bindArgs (PySem.W.fnOf x x (defArgs st) (defBody st) (defScope st) .none kV doc pm an cdv ct) ⟨us, []⟩ = pure (ps.zip us)) :
    ∃ c P, PySem.W.tabIn K x = some (c, P) ∧ DefL K mg x st ps c := ⟨cc, P, t, f, _, def_at X G a l c k b, tab_code a l t⟩
/-- the one table -/
def oneTb (K : PySem.W.Frag) (x nm : Str) : List Tb := match PySem.W.tabIn K x with
  | some (c, P) => [⟨c, P, nm⟩]
  | none => []
theorem oneTb_eq {K : PySem.W.Frag} {x nm : Str} {c P : Addr} (t : PySem.W.tabIn K x = some (c, P)) : oneTb K x nm = [⟨c, P, nm⟩] := by
  unfold oneTb; rw [t]
theorem walk_T1 {l : PySem.W.OpenLaw} {n k : Nat} {q : Program} {loose : List Str} {XP : (Str → Option Value) → Heap → Prop} {YP : World → Heap → Prop} {d : DefRec} {K : Params → PySem.W.Frag} {x y nm : Str}
    (hn : l.most = some n) (hn2 : n ≤ sizeLine) (hdf : d.params.defaults = []) (hr : Room k callerA) (hY : ∀ (w : World) (h : Heap), YP w h → (K w.params).In h)
    (hT : ∀ w : World, ∃ (d : DefRec) (c P : Addr), (PyProof.Rows.recsOf q).find? (fun e => e.name == y) = some d ∧ PySem.W.tabIn (K w.params) y = some (c, P) ∧ (K w.params).lookup P = none)
    (F : ∀ (w : World) (mg : Str → Option Value) (fa : Addr) (h : Heap) (c P : Addr), PySem.W.tabIn (K w.params) y = some (c, P) → (K w.params).In h → h.Ns mainGlobals mg → mg d.name = some (.ref fa) →
      ∃ fd : FuncData, (∀ (s : Shared) (u : Value), BindsTo s fd ⟨[u], []⟩ [(x, u)]) ∧ ∀ base : Heap, (K w.params).In base → base.Ns mainGlobals mg → (∀ e ∈ ([⟨c, P, nm⟩] : List Tb), LamX.TabB base mg e.co e.tb) → FnOkG l.prog w (K w.params) mg base (L2.CX l.prog w) k fa fd [x] (spLaw n [⟨c, P, nm⟩] (K w.params))) :
    PySem.W.WalkO q loose XP YP l.row.toRowW d [] (fun f vs => PySem.call f vs) := by
  refine walk_T (x := x) (cs := fun w => oneTb (K w.params) y nm) hn hn2 hdf hr hY (fun w e he => ?_) fun w mg fa h X G hm => ?_
  · obtain ⟨d2, c, P, h1, h2, h3⟩ := hT w
    rw [oneTb_eq h2] at he
    obtain rfl := List.mem_singleton.mp he
    exact ⟨⟨d2, y, h1, h2⟩, h3⟩
  · obtain ⟨d2, c, P, h1, h2, h3⟩ := hT w
    obtain ⟨fd, hb, hF⟩ := F w mg fa h c P h2 X G hm
    refine ⟨fd, hb, fun base a1 a2 a3 => ?_⟩
    rw [oneTb_eq h2] at a3 ⊢
    exact hF base a1 a2 a3
theorem lam_at {base : Heap} {mg : Str → Option Value} {cc pp : Addr} {q : Str} (hB : ∀ e ∈ ([⟨cc, pp, q⟩] : List Tb), LamX.TabB base mg e.co e.tb) : LamAt base mg (tbsOf [⟨cc, pp, q⟩]) (.ref cc) q :=
  ⟨cc, pp, hB ⟨cc, pp, q⟩ (List.mem_singleton.mpr rfl), rfl, List.mem_singleton.mpr rfl, fun p hp _ => by
    obtain rfl := List.mem_singleton.mp hp
    rfl⟩
end PL

namespace K34
open PySem PySem.Spec L2 PL
def topS (i : Nat) : Stmt := PySem.Challenge.pw_plantdue_k34_whole_plans_of_houses.main.body.getD i (.Pass ⟨0, 0, 0, 0⟩)
abbrev s_is_whole : Stmt := topS 5
abbrev nm_is_whole : List Str := ["value"]
abbrev pr_is_whole : List Str := ["value"]
theorem sc_is_whole : FnScope nm_is_whole pr_is_whole (defScope s_is_whole) := ⟨rfl, rfl, rfl, by decide +kernel, rfl, by decide +kernel, by decide +kernel⟩
abbrev s_is_between : Stmt := topS 6
abbrev nm_is_between : List Str := ["value", "low", "high"]
abbrev pr_is_between : List Str := ["value", "low", "high"]
theorem sc_is_between : FnScope nm_is_between pr_is_between (defScope s_is_between) := ⟨rfl, rfl, rfl, by decide +kernel, rfl, by decide +kernel, by decide +kernel⟩
abbrev s_is_tuple_of : Stmt := topS 7
abbrev nm_is_tuple_of : List Str := ["value", "many"]
abbrev pr_is_tuple_of : List Str := ["value", "many"]
theorem sc_is_tuple_of : FnScope nm_is_tuple_of pr_is_tuple_of (defScope s_is_tuple_of) := ⟨rfl, rfl, rfl, by decide +kernel, rfl, by decide +kernel, by decide +kernel⟩
abbrev s_is_short_tuple : Stmt := topS 8
abbrev nm_is_short_tuple : List Str := ["value", "low", "high"]
abbrev pr_is_short_tuple : List Str := ["value", "low", "high"]
theorem sc_is_short_tuple : FnScope nm_is_short_tuple pr_is_short_tuple (defScope s_is_short_tuple) := ⟨rfl, rfl, rfl, by decide +kernel, rfl, by decide +kernel, by decide +kernel⟩
abbrev s_is_rising_strictly : Stmt := topS 9
abbrev nm_is_rising_strictly : List Str := ["some", "index"]
abbrev pr_is_rising_strictly : List Str := ["some"]
theorem sc_is_rising_strictly : FnScope nm_is_rising_strictly pr_is_rising_strictly (defScope s_is_rising_strictly) := ⟨rfl, rfl, rfl, by decide +kernel, rfl, by decide +kernel, by decide +kernel⟩
abbrev s_is_name : Stmt := topS 14
abbrev nm_is_name : List Str := ["value", "sign"]
abbrev pr_is_name : List Str := ["value"]
theorem sc_is_name : FnScope nm_is_name pr_is_name (defScope s_is_name) := ⟨rfl, rfl, rfl, by decide +kernel, rfl, by decide +kernel, by decide +kernel⟩
abbrev s_is_stretch : Stmt := topS 21
abbrev nm_is_stretch : List Str := ["value", "most"]
abbrev pr_is_stretch : List Str := ["value", "most"]
theorem sc_is_stretch : FnScope nm_is_stretch pr_is_stretch (defScope s_is_stretch) := ⟨rfl, rfl, rfl, by decide +kernel, rfl, by decide +kernel, by decide +kernel⟩
abbrev s_is_profile_form : Stmt := topS 22
abbrev nm_is_profile_form : List Str := ["value", "each", "one", "two"]
abbrev pr_is_profile_form : List Str := ["value"]
theorem sc_is_profile_form : FnScope nm_is_profile_form pr_is_profile_form (defScope s_is_profile_form) := ⟨rfl, rfl, rfl, by decide +kernel, rfl, by decide +kernel, by decide +kernel⟩
abbrev s_are_profiles_of_task : Stmt := topS 23
abbrev nm_are_profiles_of_task : List Str := ["value", "each"]
abbrev pr_are_profiles_of_task : List Str := ["value"]
theorem sc_are_profiles_of_task : FnScope nm_are_profiles_of_task pr_are_profiles_of_task (defScope s_are_profiles_of_task) := ⟨rfl, rfl, rfl, by decide +kernel, rfl, by decide +kernel, by decide +kernel⟩
abbrev s_cycles_in : Stmt := topS 24
abbrev nm_cycles_in : List Str := ["profile", "_", "cycles"]
abbrev pr_cycles_in : List Str := ["profile"]
theorem sc_cycles_in : FnScope nm_cycles_in pr_cycles_in (defScope s_cycles_in) := ⟨rfl, rfl, rfl, by decide +kernel, rfl, by decide +kernel, by decide +kernel⟩
abbrev s_order_of : Stmt := topS 25
abbrev nm_order_of : List Str := ["profile"]
abbrev pr_order_of : List Str := ["profile"]
theorem sc_order_of : FnScope nm_order_of pr_order_of (defScope s_order_of) := ⟨rfl, rfl, rfl, by decide +kernel, rfl, by decide +kernel, by decide +kernel⟩
abbrev s_is_row : Stmt := topS 31
abbrev nm_is_row : List Str := ["value"]
abbrev pr_is_row : List Str := ["value"]
theorem sc_is_row : FnScope nm_is_row pr_is_row (defScope s_is_row) := ⟨rfl, rfl, rfl, by decide +kernel, rfl, by decide +kernel, by decide +kernel⟩
abbrev s_are_costs : Stmt := topS 32
abbrev nm_are_costs : List Str := ["value", "each"]
abbrev pr_are_costs : List Str := ["value"]
theorem sc_are_costs : FnScope nm_are_costs pr_are_costs (defScope s_are_costs) := ⟨rfl, rfl, rfl, by decide +kernel, rfl, by decide +kernel, by decide +kernel⟩
abbrev s_is_plan_form : Stmt := topS 33
abbrev nm_is_plan_form : List Str := ["value", "each"]
abbrev pr_is_plan_form : List Str := ["value"]
theorem sc_is_plan_form : FnScope nm_is_plan_form pr_is_plan_form (defScope s_is_plan_form) := ⟨rfl, rfl, rfl, by decide +kernel, rfl, by decide +kernel, by decide +kernel⟩
abbrev s_are_profiles_form : Stmt := topS 34
abbrev nm_are_profiles_form : List Str := ["plan", "value", "each"]
abbrev pr_are_profiles_form : List Str := ["plan", "value"]
theorem sc_are_profiles_form : FnScope nm_are_profiles_form pr_are_profiles_form (defScope s_are_profiles_form) := ⟨rfl, rfl, rfl, by decide +kernel, rfl, by decide +kernel, by decide +kernel⟩
abbrev s_divisor_of : Stmt := topS 35
abbrev nm_divisor_of : List Str := ["one", "two"]
abbrev pr_divisor_of : List Str := ["one", "two"]
theorem sc_divisor_of : FnScope nm_divisor_of pr_divisor_of (defScope s_divisor_of) := ⟨rfl, rfl, rfl, by decide +kernel, rfl, by decide +kernel, by decide +kernel⟩
abbrev s_round_by : Stmt := topS 36
abbrev nm_round_by : List Str := ["rows", "found", "_", "period"]
abbrev pr_round_by : List Str := ["rows"]
theorem sc_round_by : FnScope nm_round_by pr_round_by (defScope s_round_by) := ⟨rfl, rfl, rfl, by decide +kernel, rfl, by decide +kernel, by decide +kernel⟩
abbrev s_released_at : Stmt := topS 37
abbrev nm_released_at : List Str := ["rows", "time", "task", "offset", "period", "_"]
abbrev pr_released_at : List Str := ["rows", "time"]
theorem sc_released_at : FnScope nm_released_at pr_released_at (defScope s_released_at) := ⟨rfl, rfl, rfl, by decide +kernel, rfl, by decide +kernel, by decide +kernel⟩
abbrev s_due_at : Stmt := topS 38
abbrev nm_due_at : List Str := ["rows", "time", "offset", "period", "due"]
abbrev pr_due_at : List Str := ["rows", "time"]
theorem sc_due_at : FnScope nm_due_at pr_due_at (defScope s_due_at) := ⟨rfl, rfl, rfl, by decide +kernel, rfl, by decide +kernel, by decide +kernel⟩
abbrev s_times_by : Stmt := topS 39
abbrev nm_times_by : List Str := ["rows", "whole", "time"]
abbrev pr_times_by : List Str := ["rows"]
theorem sc_times_by : FnScope nm_times_by pr_times_by (defScope s_times_by) := ⟨rfl, rfl, rfl, by decide +kernel, rfl, by decide +kernel, by decide +kernel⟩
abbrev s_is_moment : Stmt := topS 40
abbrev nm_is_moment : List Str := ["rows", "time"]
abbrev pr_is_moment : List Str := ["rows", "time"]
theorem sc_is_moment : FnScope nm_is_moment pr_is_moment (defScope s_is_moment) := ⟨rfl, rfl, rfl, by decide +kernel, rfl, by decide +kernel, by decide +kernel⟩
abbrev s_jobs_before : Stmt := topS 41
abbrev nm_jobs_before : List Str := ["rows", "time", "release", "task"]
abbrev pr_jobs_before : List Str := ["rows", "time"]
theorem sc_jobs_before : FnScope nm_jobs_before pr_jobs_before (defScope s_jobs_before) := ⟨rfl, rfl, rfl, by decide +kernel, rfl, by decide +kernel, by decide +kernel⟩
abbrev s_check_plan : Stmt := topS 44
abbrev nm_check_plan : List Str := ["value"]
abbrev pr_check_plan : List Str := ["value"]
theorem sc_check_plan : FnScope nm_check_plan pr_check_plan (defScope s_check_plan) := ⟨rfl, rfl, rfl, by decide +kernel, rfl, by decide +kernel, by decide +kernel⟩
abbrev s_check_time : Stmt := topS 45
abbrev nm_check_time : List Str := ["value"]
abbrev pr_check_time : List Str := ["value"]
theorem sc_check_time : FnScope nm_check_time pr_check_time (defScope s_check_time) := ⟨rfl, rfl, rfl, by decide +kernel, rfl, by decide +kernel, by decide +kernel⟩
abbrev s_is_plan : Stmt := topS 47
abbrev nm_is_plan : List Str := ["value"]
abbrev pr_is_plan : List Str := ["value"]
theorem sc_is_plan : FnScope nm_is_plan pr_is_plan (defScope s_is_plan) := ⟨rfl, rfl, rfl, by decide +kernel, rfl, by decide +kernel, by decide +kernel⟩
abbrev s_round_of : Stmt := topS 48
abbrev nm_round_of : List Str := ["plan"]
abbrev pr_round_of : List Str := ["plan"]
theorem sc_round_of : FnScope nm_round_of pr_round_of (defScope s_round_of) := ⟨rfl, rfl, rfl, by decide +kernel, rfl, by decide +kernel, by decide +kernel⟩
abbrev s_times : Stmt := topS 49
abbrev nm_times : List Str := ["plan"]
abbrev pr_times : List Str := ["plan"]
theorem sc_times : FnScope nm_times pr_times (defScope s_times) := ⟨rfl, rfl, rfl, by decide +kernel, rfl, by decide +kernel, by decide +kernel⟩
abbrev s_releases : Stmt := topS 50
abbrev nm_releases : List Str := ["plan", "time"]
abbrev pr_releases : List Str := ["plan", "time"]
theorem sc_releases : FnScope nm_releases pr_releases (defScope s_releases) := ⟨rfl, rfl, rfl, by decide +kernel, rfl, by decide +kernel, by decide +kernel⟩
abbrev s_dues : Stmt := topS 51
abbrev nm_dues : List Str := ["plan", "time"]
abbrev pr_dues : List Str := ["plan", "time"]
theorem sc_dues : FnScope nm_dues pr_dues (defScope s_dues) := ⟨rfl, rfl, rfl, by decide +kernel, rfl, by decide +kernel, by decide +kernel⟩
abbrev s_jobs_ahead : Stmt := topS 52
abbrev nm_jobs_ahead : List Str := ["plan", "time"]
abbrev pr_jobs_ahead : List Str := ["plan", "time"]
theorem sc_jobs_ahead : FnScope nm_jobs_ahead pr_jobs_ahead (defScope s_jobs_ahead) := ⟨rfl, rfl, rfl, by decide +kernel, rfl, by decide +kernel, by decide +kernel⟩
abbrev s_are_profiles : Stmt := topS 54
abbrev nm_are_profiles : List Str := ["plan", "value"]
abbrev pr_are_profiles : List Str := ["plan", "value"]
theorem sc_are_profiles : FnScope nm_are_profiles pr_are_profiles (defScope s_are_profiles) := ⟨rfl, rfl, rfl, by decide +kernel, rfl, by decide +kernel, by decide +kernel⟩
abbrev s__law_pail : Stmt := topS 56
abbrev nm__law_pail : List Str := ["script", "turn", "mixed", "cell", "own"]
abbrev pr__law_pail : List Str := ["script", "turn"]
theorem sc__law_pail : FnScope nm__law_pail pr__law_pail (defScope s__law_pail) := ⟨rfl, rfl, rfl, by decide +kernel, rfl, by decide +kernel, by decide +kernel⟩
abbrev s__law_deal : Stmt := topS 57
abbrev nm__law_deal : List Str := ["pail", "top", "figure", "mixed"]
abbrev pr__law_deal : List Str := ["pail", "top"]
theorem sc__law_deal : FnScope nm__law_deal pr__law_deal (defScope s__law_deal) := ⟨rfl, rfl, rfl, by decide +kernel, rfl, by decide +kernel, by decide +kernel⟩
abbrev s__law_any : Stmt := topS 58
abbrev nm__law_any : List Str := ["pail", "some"]
abbrev pr__law_any : List Str := ["pail", "some"]
theorem sc__law_any : FnScope nm__law_any pr__law_any (defScope s__law_any) := ⟨rfl, rfl, rfl, by decide +kernel, rfl, by decide +kernel, by decide +kernel⟩
abbrev s__law_gcd : Stmt := topS 59
abbrev nm__law_gcd : List Str := ["one", "two", "turn"]
abbrev pr__law_gcd : List Str := ["one", "two"]
theorem sc__law_gcd : FnScope nm__law_gcd pr__law_gcd (defScope s__law_gcd) := ⟨rfl, rfl, rfl, by decide +kernel, rfl, by decide +kernel, by decide +kernel⟩
abbrev s__law_round : Stmt := topS 60
abbrev nm__law_round : List Str := ["rows", "found", "offset", "period", "due"]
abbrev pr__law_round : List Str := ["rows"]
theorem sc__law_round : FnScope nm__law_round pr__law_round (defScope s__law_round) := ⟨rfl, rfl, rfl, by decide +kernel, rfl, by decide +kernel, by decide +kernel⟩
abbrev s__law_profile : Stmt := topS 61
abbrev nm__law_profile : List Str := ["pail", "most", "found", "turn", "lock", "cycles"]
abbrev pr__law_profile : List Str := ["pail", "most"]
theorem sc__law_profile : FnScope nm__law_profile pr__law_profile (defScope s__law_profile) := ⟨rfl, rfl, rfl, by decide +kernel, rfl, by decide +kernel, by decide +kernel⟩
abbrev s__law_in_order : Stmt := topS 62
abbrev nm__law_in_order : List Str := ["some", "unlike", "own"]
abbrev pr__law_in_order : List Str := ["some"]
theorem sc__law_in_order : FnScope nm__law_in_order pr__law_in_order (defScope s__law_in_order) := ⟨rfl, rfl, rfl, by decide +kernel, rfl, by decide +kernel, by decide +kernel⟩
abbrev s__law_house : Stmt := topS 63
abbrev nm__law_house : List Str := ["pail", "many", "rows", "told", "period", "task", "own", "due", "most", "lap"]
abbrev pr__law_house : List Str := ["pail", "many"]
theorem sc__law_house : FnScope nm__law_house pr__law_house (defScope s__law_house) := ⟨rfl, rfl, rfl, by decide +kernel, rfl, by decide +kernel, by decide +kernel⟩
abbrev s__law_released : Stmt := topS 64
abbrev nm__law_released : List Str := ["plan", "time", "found", "task", "offset", "period", "due"]
abbrev pr__law_released : List Str := ["plan", "time"]
theorem sc__law_released : FnScope nm__law_released pr__law_released (defScope s__law_released) := ⟨rfl, rfl, rfl, by decide +kernel, rfl, by decide +kernel, by decide +kernel⟩
abbrev s__law_due_now : Stmt := topS 65
abbrev nm__law_due_now : List Str := ["plan", "time", "found", "task", "offset", "period", "due"]
abbrev pr__law_due_now : List Str := ["plan", "time"]
theorem sc__law_due_now : FnScope nm__law_due_now pr__law_due_now (defScope s__law_due_now) := ⟨rfl, rfl, rfl, by decide +kernel, rfl, by decide +kernel, by decide +kernel⟩
abbrev s__law_times : Stmt := topS 66
abbrev nm__law_times : List Str := ["plan", "whole", "found", "offset", "period", "due", "time"]
abbrev pr__law_times : List Str := ["plan"]
theorem sc__law_times : FnScope nm__law_times pr__law_times (defScope s__law_times) := ⟨rfl, rfl, rfl, by decide +kernel, rfl, by decide +kernel, by decide +kernel⟩
abbrev s__law_bad_plans : Stmt := topS 67
abbrev nm__law_bad_plans : List Str := ["plan", "costs", "rows", "offset", "period", "due", "rest", "odd"]
abbrev pr__law_bad_plans : List Str := ["plan"]
theorem sc__law_bad_plans : FnScope nm__law_bad_plans pr__law_bad_plans (defScope s__law_bad_plans) := ⟨rfl, rfl, rfl, by decide +kernel, rfl, by decide +kernel, by decide +kernel⟩
abbrev s__law_right : Stmt := topS 68
abbrev nm__law_right : List Str := ["pail", "lap", "plan", "own", "whole", "spots", "told", "time", "ahead", "at", "due", "bad", "odd", "task"]
abbrev pr__law_right : List Str := ["pail"]
theorem sc__law_right : FnScope nm__law_right pr__law_right (defScope s__law_right) := ⟨rfl, rfl, rfl, by decide +kernel, rfl, by decide +kernel, by decide +kernel⟩
abbrev s_law : Stmt := topS 69
abbrev nm_law : List Str := ["script", "turn"]
abbrev pr_law : List Str := ["script"]
theorem sc_law : FnScope nm_law pr_law (defScope s_law) := ⟨rfl, rfl, rfl, by decide +kernel, rfl, by decide +kernel, by decide +kernel⟩
abbrev ls__law_in_order_0 : Scope := lamScope (callKw 0 (callArg 0 (retVal (lastOf s__law_in_order 2))))
abbrev ln__law_in_order_0 : List Str := ["own", "lock", "cycles"]
theorem lsc__law_in_order_0 : FnScope ln__law_in_order_0 ["own"] ls__law_in_order_0 := ⟨rfl, rfl, rfl, by decide +kernel, rfl, by decide +kernel, by decide +kernel⟩
def c_LETTERS : D := .str "abcdefghijklmnopqrstuvwxyz"
def c_WORDS : D := .tup [.str "call", .str "else", .str "end", .str "fun", .str "give", .str "hold", .str "if", .str "keep", .str "let", .str "out", .str "repeat", .str "sense", .str "table", .str "take", .str "task", .str "times"]
def c_MOST_LETTERS : D := .int 8
def c_OUTSIDE : D := .str ""
def c_MOST_IN_STRETCH : D := .int 200
def c_MOST_TOGETHER : D := .int 400
def c_MOST_STRETCHES : D := .int 8
def c_MOST_PROFILES : D := .int 12
def c_MOST_COST : D := .int 9
def c_MOST_PERIOD : D := .int 240
def c_MOST_ROUND : D := .int 240
def c_MOST_TASKS : D := .int 4
def c_MOST_TIME : D := .int 2000
structure Top (K : PySem.W.Frag) (mg : Str → Option Value) : Prop where
  f_is_whole : DefE K mg "is_whole" s_is_whole pr_is_whole
  f_is_between : DefE K mg "is_between" s_is_between pr_is_between
  f_is_tuple_of : DefE K mg "is_tuple_of" s_is_tuple_of pr_is_tuple_of
  f_is_short_tuple : DefE K mg "is_short_tuple" s_is_short_tuple pr_is_short_tuple
  f_is_rising_strictly : DefE K mg "is_rising_strictly" s_is_rising_strictly pr_is_rising_strictly
  f_is_name : DefE K mg "is_name" s_is_name pr_is_name
  f_is_stretch : DefE K mg "is_stretch" s_is_stretch pr_is_stretch
  f_is_profile_form : DefE K mg "is_profile_form" s_is_profile_form pr_is_profile_form
  f_are_profiles_of_task : DefE K mg "are_profiles_of_task" s_are_profiles_of_task pr_are_profiles_of_task
  f_cycles_in : DefE K mg "cycles_in" s_cycles_in pr_cycles_in
  f_order_of : DefE K mg "order_of" s_order_of pr_order_of
  f_is_row : DefE K mg "is_row" s_is_row pr_is_row
  f_are_costs : DefE K mg "are_costs" s_are_costs pr_are_costs
  f_is_plan_form : DefE K mg "is_plan_form" s_is_plan_form pr_is_plan_form
  f_are_profiles_form : DefE K mg "are_profiles_form" s_are_profiles_form pr_are_profiles_form
  f_divisor_of : DefE K mg "divisor_of" s_divisor_of pr_divisor_of
  f_round_by : DefE K mg "round_by" s_round_by pr_round_by
  f_released_at : DefE K mg "released_at" s_released_at pr_released_at
  f_due_at : DefE K mg "due_at" s_due_at pr_due_at
  f_times_by : DefE K mg "times_by" s_times_by pr_times_by
  f_is_moment : DefE K mg "is_moment" s_is_moment pr_is_moment
  f_jobs_before : DefE K mg "jobs_before" s_jobs_before pr_jobs_before
  f_check_plan : DefE K mg "check_plan" s_check_plan pr_check_plan
  f_check_time : DefE K mg "check_time" s_check_time pr_check_time
  f_is_plan : DefE K mg "is_plan" s_is_plan pr_is_plan
  f_round_of : DefE K mg "round_of" s_round_of pr_round_of
  f_times : DefE K mg "times" s_times pr_times
  f_releases : DefE K mg "releases" s_releases pr_releases
  f_dues : DefE K mg "dues" s_dues pr_dues
  f_jobs_ahead : DefE K mg "jobs_ahead" s_jobs_ahead pr_jobs_ahead
  f_are_profiles : DefE K mg "are_profiles" s_are_profiles pr_are_profiles
  f__law_pail : DefE K mg "_law_pail" s__law_pail pr__law_pail
  f__law_deal : DefE K mg "_law_deal" s__law_deal pr__law_deal
  f__law_any : DefE K mg "_law_any" s__law_any pr__law_any
  f__law_gcd : DefE K mg "_law_gcd" s__law_gcd pr__law_gcd
  f__law_round : DefE K mg "_law_round" s__law_round pr__law_round
  f__law_profile : DefE K mg "_law_profile" s__law_profile pr__law_profile
  f__law_in_order : ∃ c P, PySem.W.tabIn K "_law_in_order" = some (c, P) ∧ DefL K mg "_law_in_order" s__law_in_order pr__law_in_order c
  f__law_house : DefE K mg "_law_house" s__law_house pr__law_house
  f__law_released : DefE K mg "_law_released" s__law_released pr__law_released
  f__law_due_now : DefE K mg "_law_due_now" s__law_due_now pr__law_due_now
  f__law_times : DefE K mg "_law_times" s__law_times pr__law_times
  f__law_bad_plans : DefE K mg "_law_bad_plans" s__law_bad_plans pr__law_bad_plans
  f__law_right : DefE K mg "_law_right" s__law_right pr__law_right
  f_law : DefE K mg "law" s_law pr_law
  c_LETTERS : Kst K mg "LETTERS" c_LETTERS
  c_WORDS : Kst K mg "WORDS" c_WORDS
  c_MOST_LETTERS : Kst K mg "MOST_LETTERS" c_MOST_LETTERS
  c_OUTSIDE : Kst K mg "OUTSIDE" c_OUTSIDE
  c_MOST_IN_STRETCH : Kst K mg "MOST_IN_STRETCH" c_MOST_IN_STRETCH
  c_MOST_TOGETHER : Kst K mg "MOST_TOGETHER" c_MOST_TOGETHER
  c_MOST_STRETCHES : Kst K mg "MOST_STRETCHES" c_MOST_STRETCHES
  c_MOST_PROFILES : Kst K mg "MOST_PROFILES" c_MOST_PROFILES
  c_MOST_COST : Kst K mg "MOST_COST" c_MOST_COST
  c_MOST_PERIOD : Kst K mg "MOST_PERIOD" c_MOST_PERIOD
  c_MOST_ROUND : Kst K mg "MOST_ROUND" c_MOST_ROUND
  c_MOST_TASKS : Kst K mg "MOST_TASKS" c_MOST_TASKS
  c_MOST_TIME : Kst K mg "MOST_TIME" c_MOST_TIME
  n_abs : mg "abs" = none
  n_all : mg "all" = none
  n_bool : mg "bool" = none
  n_divmod : mg "divmod" = none
  n_enumerate : mg "enumerate" = none
  n_int : mg "int" = none
  n_isinstance : mg "isinstance" = none
  n_len : mg "len" = none
  n_list : mg "list" = none
  n_max : mg "max" = none
  n_min : mg "min" = none
  n_range : mg "range" = none
  n_repr : mg "repr" = none
  n_set : mg "set" = none
  n_sorted : mg "sorted" = none
  n_str : mg "str" = none
  n_sum : mg "sum" = none
  n_tuple : mg "tuple" = none
  n_zip : mg "zip" = none
theorem kw_times_0_plan : KwOk "times" s_times pr_times 0 ["plan"] [0] := fun _ _ _ _ _ _ us ws h1 h2 => match us, ws, h1, h2 with | [], [_], _, _ => rfl
theorem kw_round_of_0_plan : KwOk "round_of" s_round_of pr_round_of 0 ["plan"] [0] := fun _ _ _ _ _ _ us ws h1 h2 => match us, ws, h1, h2 with | [], [_], _, _ => rfl
theorem kw_is_plan_0_value : KwOk "is_plan" s_is_plan pr_is_plan 0 ["value"] [0] := fun _ _ _ _ _ _ us ws h1 h2 => match us, ws, h1, h2 with | [], [_], _, _ => rfl
theorem kw_dues_0_time_plan : KwOk "dues" s_dues pr_dues 0 ["time", "plan"] [1, 0] := fun _ _ _ _ _ _ us ws h1 h2 => match us, ws, h1, h2 with | [], [_, _], _, _ => rfl
theorem kw_releases_0_time_plan : KwOk "releases" s_releases pr_releases 0 ["time", "plan"] [1, 0] := fun _ _ _ _ _ _ us ws h1 h2 => match us, ws, h1, h2 with | [], [_, _], _, _ => rfl
theorem kw_jobs_ahead_0_time_plan : KwOk "jobs_ahead" s_jobs_ahead pr_jobs_ahead 0 ["time", "plan"] [1, 0] := fun _ _ _ _ _ _ us ws h1 h2 => match us, ws, h1, h2 with | [], [_, _], _, _ => rfl
theorem kw_are_profiles_0_value_plan : KwOk "are_profiles" s_are_profiles pr_are_profiles 0 ["value", "plan"] [1, 0] := fun _ _ _ _ _ _ us ws h1 h2 => match us, ws, h1, h2 with | [], [_, _], _, _ => rfl
end K34

namespace K34
open PySem PySem.Spec L2 PL

/-! # what the defs do, by data -/
/-- plain data: no well, no class, no script -/
def plain (d : D) : Prop := tyOf d ∈ kinds
def betw (d : D) (lo hi : Int) : Bool := match d with
  | .int n => decide (lo ≤ n) && decide (n ≤ hi)
  | _ => false
def isInt (d : D) : Bool := match d with
  | .int _ => true
  | _ => false
def tupLen (d : D) (m : Int) : Bool := match d with
  | .tup xs => decide ((xs.length : Int) = m)
  | _ => false
def tupIn (d : D) (lo hi : Int) : Bool := match d with
  | .tup xs => decide (lo ≤ (xs.length : Int)) && decide ((xs.length : Int) ≤ hi)
  | _ => false
def wordsS : List Str := ["call", "else", "end", "fun", "give", "hold", "if", "keep", "let", "out", "repeat", "sense", "table", "take", "task", "times"]
def lettersS : Str := "abcdefghijklmnopqrstuvwxyz"
def nameS (z : Str) : Bool := decide (1 ≤ z.length) && decide (z.length ≤ 8) && !(wordsS.any fun y => y == z) && z.cps.toList.all fun c => decide (c ∈ lettersS.cps.toList)
def nameD (d : D) : Bool := match d with
  | .str z => nameS z
  | _ => false
/-- a stretch, a profile -/
def sd (p : Str × Int) : D := .tup [.str p.1, .int p.2]
abbrev Pf := List (Str × Int)
def pf (p : Pf) : D := .tup (p.map sd)
def cyc (p : Pf) : Int := (p.map (·.2)).sum
def strD (most : Int) (d : D) : Bool := match d with
  | .tup [.str l, .int c] => decide (1 ≤ c) && decide (c ≤ most) && (l == "" || nameS l)
  | _ => false
/-- the stretches of a datum all of whose items are such -/
def asPf : List D → Pf
  | [] => []
  | .tup [.str l, .int c] :: r => (l, c) :: asPf r
  | _ :: r => asPf r
def asPfD : D → Pf
  | .tup xs => asPf xs
  | _ => []
def unlike : Pf → Bool
  | (a, _) :: (b, c) :: r => !(a == b) && unlike ((b, c) :: r)
  | _ => true
def okPf (p : Pf) : Bool := decide ((p.head?.map (·.1)) = some "") && decide ((p.getLast?.map (·.1)) = some "") && decide (cyc p ≤ 400) && unlike p
def profD (d : D) : Bool := match d with
  | .tup xs => decide (1 ≤ xs.length) && decide (xs.length ≤ 8) && xs.all (strD 200) && okPf (asPf xs)
  | _ => false
/-! strings are short and right, at any depth that matters -/
mutual
def okD : D → Bool
  | .str x => PyData.strOk x && decide (x.length ≤ 1000)
  | .tup xs => okDL xs && decide (xs.length ≤ 1000)
  | .lst xs => okDL xs && decide (xs.length ≤ 1000)
  | .non => true
  | .bl _ => true
  | .int _ => true
  | .well => false
  | .ty _ => false
  | .scr _ => false
def okDL : List D → Bool
  | [] => true
  | d :: ds => okD d && okDL ds
end
/-- a right profile -/
structure Rt (p : Pf) : Prop where
  len1 : 1 ≤ p.length
  len8 : p.length ≤ 8
  each : ∀ s ∈ p, 1 ≤ s.2 ∧ s.2 ≤ 200 ∧ (s.1 = "" ∨ nameS s.1 = true)
  ok : okPf p = true
/-- profiles in order: what they are sorted by, that it rises -/
def keyP (p : Pf) : D := .tup [.int (-(cyc p)), pf p]
def rise : List Pf → Bool
  | a :: b :: r => ltD (keyP a) (keyP b) && rise (b :: r)
  | _ => true
def taskD (d : D) : Bool := match d with
  | .tup xs => decide (1 ≤ xs.length) && decide (xs.length ≤ 12) && xs.all profD && rise (xs.map asPfD)
  | _ => false
def tasksD (n : Nat) (d : D) : Bool := match d with
  | .tup xs => decide (xs.length = n) && xs.all taskD
  | _ => false
/-- the profiles of a task -/
def td (ps : List Pf) : D := .tup (ps.map pf)
/-! rows, plans -/
abbrev Rw := Int × Int × Int
def rd (r : Rw) : D := .tup [.int r.1, .int r.2.1, .int r.2.2]
def rwD (rs : List Rw) : D := .tup (rs.map rd)
def rowD (d : D) : Bool := match d with
  | .tup [o, .int p, u] => decide (1 ≤ p) && decide (p ≤ 240) && betw o 0 (p - 1) && betw u 1 p
  | _ => false
def asRw : List D → List Rw
  | [] => []
  | .tup [.int o, .int p, .int u] :: r => (o, p, u) :: asRw r
  | _ :: r => asRw r
def costsD (d : D) : Bool := match d with
  | .tup [a, b] => betw a 0 9 && betw b 0 9
  | _ => false
def lcmF (f p : Int) : Int := f / (Int.gcd f p : Int) * p
def roundI (rs : List Rw) : Int := rs.foldl (fun f r => lcmF f r.2.1) 1
def planD (d : D) : Bool := match d with
  | .tup [c, .tup rs] => costsD c && decide (1 ≤ rs.length) && decide (rs.length ≤ 4) && rs.all rowD && decide (roundI (asRw rs) ≤ 240)
  | _ => false
def di (n : Nat) : D := .int (n : Int)
def relB (t : Int) (r : Rw) : Bool := decide (r.1 ≤ t) && decide ((t - r.1) % r.2.1 = 0)
def relAt (rs : List Rw) (t : Int) : List Nat := (List.range rs.length).filter fun i => relB t (rs.getD i (0, 1, 0))
def shiftR (r : Rw) : Rw := (r.1 + r.2.2, r.2.1, r.2.2)
def dueAt (rs : List Rw) (t : Int) : List Nat := relAt (rs.map shiftR) t
def momB (rs : List Rw) (t : Int) : Bool := !(relAt rs t).isEmpty || !(dueAt rs t).isEmpty
def timesL (rs : List Rw) : List Nat := (List.range (roundI rs).toNat).filter fun (t : Nat) => decide (t = 0) || momB rs ((t : Int) + 2 * roundI rs)
def jd (j : Nat × Nat) : D := .tup [di j.1, di j.2]
def jobsL (rs : List Rw) (t : Nat) : List (Nat × Nat) := (List.range t).flatMap fun (r : Nat) => (relAt rs (r : Int)).map fun i => (r, i)
/-- a right row, right rows, a right plan -/
structure RwOk (r : Rw) : Prop where
  o0 : 0 ≤ r.1
  op : r.1 < r.2.1
  p : r.2.1 ≤ 240
  u1 : 1 ≤ r.2.2
  up : r.2.2 ≤ r.2.1
def pd (a b : Int) (rs : List Rw) : D := .tup [.tup [.int a, .int b], rwD rs]
structure PlOk (a b : Int) (rs : List Rw) : Prop where
  a0 : 0 ≤ a
  a9 : a ≤ 9
  b0 : 0 ≤ b
  b9 : b ≤ 9
  n1 : 1 ≤ rs.length
  n3 : rs.length ≤ 4
  each : ∀ r ∈ rs, RwOk r
  big : ∀ r ∈ rs, 6 ≤ r.2.1
  div : ∃ M : Int, 0 < M ∧ M ≤ 48 ∧ ∀ r ∈ rs, r.2.1 ∣ M

def sp_is_whole : PSp := fun ds q _ => ∃ d, ds = [d] ∧ plain d ∧ q (.bl (isInt d))
def sp_is_between : PSp := fun ds q _ => ∃ d lo hi, ds = [d, .int lo, .int hi] ∧ plain d ∧ q (.bl (betw d lo hi))
def sp_is_tuple_of : PSp := fun ds q _ => ∃ d m, ds = [d, .int m] ∧ plain d ∧ (∀ xs, d = .tup xs → xs.length ≤ 1000) ∧ m.natAbs ≤ 1000 ∧ q (.bl (tupLen d m))
def sp_is_short_tuple : PSp := fun ds q _ => ∃ d lo hi, ds = [d, .int lo, .int hi] ∧ plain d ∧ q (.bl (tupIn d lo hi))
def sp_is_name : PSp := fun ds q _ => ∃ d, ds = [d] ∧ okD d = true ∧ q (.bl (nameD d))
def sp_is_stretch : PSp := fun ds q _ => ∃ d, ds = [d, .int 200] ∧ okD d = true ∧ q (.bl (strD 200 d))
def sp_cycles_in : PSp := fun ds q _ => ∃ p : Pf, ds = [pf p] ∧ p.length ≤ 1000 ∧ q (.int (cyc p))
def sp_is_profile_form : PSp := fun ds q _ => ∃ d, ds = [d] ∧ okD d = true ∧ q (.bl (profD d))
def sp_order_of : PSp := fun ds q _ => ∃ p : Pf, ds = [pf p] ∧ p.length ≤ 1000 ∧ q (keyP p)
def sp_is_rising_strictly : PSp := fun ds q _ => ∃ ps : List Pf, ds = [.lst (ps.map keyP)] ∧ ps.length ≤ 12 ∧ (∀ p ∈ ps, Rt p ∧ okD (pf p) = true) ∧ q (.bl (rise ps))
def sp_are_profiles_of_task : PSp := fun ds q _ => ∃ d, ds = [d] ∧ okD d = true ∧ q (.bl (taskD d))
def sp_is_row : PSp := fun ds q _ => ∃ d, ds = [d] ∧ okD d = true ∧ q (.bl (rowD d))
def sp_are_costs : PSp := fun ds q _ => ∃ d, ds = [d] ∧ okD d = true ∧ q (.bl (costsD d))
def sp_is_plan_form : PSp := fun ds q _ => ∃ d, ds = [d] ∧ okD d = true ∧ q (.bl (planD d))
def sp_divisor_of : PSp := fun ds q _ => ∃ a b : Int, ds = [.int a, .int b] ∧ 0 ≤ a ∧ 0 ≤ b ∧ q (.int (Int.gcd a b : Int))
def sp_round_by : PSp := fun ds q _ => ∃ rs : List Rw, ds = [rwD rs] ∧ rs.length ≤ 4 ∧ (∀ r ∈ rs, 1 ≤ r.2.1 ∧ r.2.1 ≤ 240) ∧ q (.int (roundI rs))
def sp_released_at : PSp := fun ds q _ => ∃ (rs : List Rw) (t : Int), (ds = [rwD rs, .int t] ∨ ds = [.lst (rs.map rd), .int t]) ∧ rs.length ≤ 4 ∧ (∀ r ∈ rs, 1 ≤ r.2.1) ∧ q (.lst ((relAt rs t).map di))
def sp_due_at : PSp := fun ds q _ => ∃ (rs : List Rw) (t : Int), ds = [rwD rs, .int t] ∧ rs.length ≤ 4 ∧ (∀ r ∈ rs, 1 ≤ r.2.1) ∧ q (.lst ((dueAt rs t).map di))
def sp_is_moment : PSp := fun ds q _ => ∃ (rs : List Rw) (t : Int), ds = [rwD rs, .int t] ∧ rs.length ≤ 4 ∧ (∀ r ∈ rs, 1 ≤ r.2.1) ∧ q (.bl (momB rs t))
def sp_times_by : PSp := fun ds q _ => ∃ rs : List Rw, ds = [rwD rs] ∧ rs.length ≤ 4 ∧ (∀ r ∈ rs, 1 ≤ r.2.1 ∧ r.2.1 ≤ 240) ∧ roundI rs ≤ 240 ∧ q (.tup ((timesL rs).map di))
def sp_jobs_before : PSp := fun ds q _ => ∃ (rs : List Rw) (t : Nat), ds = [rwD rs, di t] ∧ rs.length ≤ 4 ∧ (∀ r ∈ rs, 1 ≤ r.2.1) ∧ t ≤ 2000 ∧ q (.lst ((jobsL rs t).map jd))
def sp_check_plan : PSp := fun ds q _ => ∃ d, ds = [d] ∧ okD d = true ∧ planD d = true ∧ q .non
def sp_check_time : PSp := fun ds q _ => ∃ d, ds = [d] ∧ plain d ∧ betw d 0 2000 = true ∧ q .non
def sp_is_plan : PSp := sp_is_plan_form
def sp_round_of : PSp := fun ds q _ => ∃ a b rs, ds = [pd a b rs] ∧ PlOk a b rs ∧ q (.int (roundI rs))
def sp_times : PSp := fun ds q _ => ∃ a b rs, ds = [pd a b rs] ∧ PlOk a b rs ∧ q (.tup ((timesL rs).map di))
def sp_releases : PSp := fun ds q _ => ∃ a b rs, ∃ t : Nat, ds = [pd a b rs, di t] ∧ PlOk a b rs ∧ t ≤ 2000 ∧ q (.tup ((relAt rs t).map di))
def sp_dues : PSp := fun ds q _ => ∃ a b rs, ∃ t : Nat, ds = [pd a b rs, di t] ∧ PlOk a b rs ∧ t ≤ 2000 ∧ q (.tup ((dueAt rs t).map di))
def sp_jobs_ahead : PSp := fun ds q _ => ∃ a b rs, ∃ t : Nat, ds = [pd a b rs, di t] ∧ PlOk a b rs ∧ t ≤ 2000 ∧ q (.tup ((jobsL rs t).map jd))
def sp_are_profiles_form : PSp := fun ds q _ => ∃ a b rs d, ds = [pd a b rs, d] ∧ PlOk a b rs ∧ okD d = true ∧ q (.bl (tasksD rs.length d))
def sp_are_profiles : PSp := sp_are_profiles_form
def sp__law_pail : PSp := fun ds q _ => ∃ (ns : List Int) (t : Int), ds = [.scr ns, .int t] ∧ ns.length ≤ 63 ∧ 0 ≤ t ∧ ∀ i j k : Int, 0 ≤ i → 0 ≤ j → j < 2147483648 → q (.lst [.int i, .int j, .int k])
def sp__law_deal : PSp := fun ds q _ => ∃ top : Int, ds = [.well, .int top] ∧ 0 < top ∧ top < 1073741824 ∧ ∀ k : Int, 0 ≤ k → k < top → q (.int k)
def sp__law_any : PSp := fun ds q _ => ∃ xs : List D, ds = [.well, .lst xs] ∧ 0 < xs.length ∧ xs.length ≤ 1000 ∧ ∀ d, d ∈ xs → q d
def sp__law_gcd : PSp := fun ds q _ => ∃ a b : Int, ds = [.int a, .int b] ∧ 0 ≤ a ∧ 0 ≤ b ∧ b ≤ 50 ∧ q (.int (Int.gcd a b : Int))
def sp__law_round : PSp := fun ds q _ => ∃ a b rs, ds = [rwD rs] ∧ PlOk a b rs ∧ q (.int (roundI rs))
def sp__law_profile : PSp := fun ds q _ => ∃ m : Int, ds = [.well, .int m] ∧ 1 ≤ m ∧ m ≤ 200 ∧ ∀ p : Pf, Rt p → okD (pf p) = true → q (pf p)
def sp__law_in_order : PSp := fun ds q _ => ∃ ps : List Pf, ds = [.lst (ps.map pf)] ∧ 1 ≤ ps.length ∧ ps.length ≤ 3 ∧ (∀ p ∈ ps, Rt p ∧ okD (pf p) = true) ∧ ∀ os : List Pf, 1 ≤ os.length → os.length ≤ 3 → (∀ p ∈ os, p ∈ ps) → rise os = true → q (td os)
/-- the profiles of a house's tasks -/
structure TsOk (tss : List (List Pf)) : Prop where
  len : ∀ ps ∈ tss, 1 ≤ ps.length ∧ ps.length ≤ 3
  each : ∀ ps ∈ tss, ∀ p ∈ ps, Rt p ∧ okD (pf p) = true
  up : ∀ ps ∈ tss, rise ps = true
def sp__law_house : PSp := fun ds q _ => ∃ n : Int, ds = [.well, .int n] ∧ 1 ≤ n ∧ n ≤ 3 ∧ ∀ a b rs tss, PlOk a b rs → TsOk tss → tss.length = rs.length → rs.length ≤ 3 → q (.tup [pd a b rs, .tup (tss.map td)])
def sp__law_released : PSp := fun ds q _ => ∃ a b rs, ∃ t : Nat, ds = [pd a b rs, di t] ∧ PlOk a b rs ∧ q (.lst ((relAt rs t).map di))
def sp__law_due_now : PSp := fun ds q _ => ∃ a b rs, ∃ t : Nat, ds = [pd a b rs, di t] ∧ PlOk a b rs ∧ q (.lst ((dueAt rs t).map di))
def sp__law_times : PSp := fun ds q _ => ∃ a b rs, ds = [pd a b rs] ∧ PlOk a b rs ∧ rs.length ≤ 3 ∧ q (.lst ((timesL rs).map di))
def sp__law_bad_plans : PSp := fun ds q _ => ∃ a b rs, ds = [pd a b rs] ∧ PlOk a b rs ∧ rs.length ≤ 3 ∧ ∀ bad : List D, bad.length ≤ 100 → (∀ d ∈ bad, okD d = true ∧ planD d = false) → q (.lst bad)
def sp__law_right : PSp := fun ds q _ => ds = [.well] ∧ q (.bl true)
end K34

namespace K34
open PySem PySem.Spec L2 PL
section
variable {P : Program} {w : World} {K : PySem.W.Frag} {mg : Str → Option Value} {base : Heap} {tt : List (Addr × Str)}
def g_is_whole : PSt := sRet (fAnd (fCB isiG (fCons (fVar 0) (fCons (fC (.ty "int")) (fNil)))) (fNot (fCB isiG (fCons (fVar 0) (fCons (fC (.ty "bool")) (fNil))))))
theorem body_is_whole (T : Top K mg) : ∀ f, Bdy P w K mg base tt 0 "is_whole" s_is_whole nm_is_whole f g_is_whole := fun f cdv A outer s0 H E hr hgd tk hp => (dss_one (ds_ret (d_and (d_callB call_isi isi_ok (by rfl) T.n_isinstance (by decide +kernel) (da_cons (d_var 0) (da_cons (d_ty (n := "int") (by rfl) T.n_int (by decide +kernel)) da_nil))) (d_one (d_not (d_callB call_isi isi_ok (by rfl) T.n_isinstance (by decide +kernel) (da_cons (d_var 0) (da_cons (d_ty (n := "bool") (by rfl) T.n_bool (by decide +kernel)) da_nil))))))))
def g_is_tuple_of : PSt := sRet (fAnd (fCB isiG (fCons (fVar 0) (fCons (fC (.ty "tuple")) (fNil)))) (fBin eqG (fCB lenG (fCons (fVar 0) (fNil))) (fVar 1)))
theorem body_is_tuple_of (T : Top K mg) : ∀ f, Bdy P w K mg base tt 0 "is_tuple_of" s_is_tuple_of nm_is_tuple_of f g_is_tuple_of := fun f cdv A outer s0 H E hr hgd tk hp => (dss_one (ds_ret (d_and (d_callB call_isi isi_ok (by rfl) T.n_isinstance (by decide +kernel) (da_cons (d_var 0) (da_cons (d_ty (n := "tuple") (by rfl) T.n_tuple (by decide +kernel)) da_nil))) (d_one (d_cmp (op_eqS hr.units) eq_ok (d_callB c_len len_ok (by rfl) T.n_len (by decide +kernel) (da_cons (d_var 0) da_nil)) (d_var 1) (nomark _))))))
def g_is_short_tuple : PSt := sRet (fAnd (fCB isiG (fCons (fVar 0) (fCons (fC (.ty "tuple")) (fNil)))) (fChain leG leG (fVar 1) (fCB lenG (fCons (fVar 0) (fNil))) (fVar 2)))
theorem body_is_short_tuple (T : Top K mg) : ∀ f, Bdy P w K mg base tt 0 "is_short_tuple" s_is_short_tuple nm_is_short_tuple f g_is_short_tuple := fun f cdv A outer s0 H E hr hgd tk hp => (dss_one (ds_ret (d_and (d_callB call_isi isi_ok (by rfl) T.n_isinstance (by decide +kernel) (da_cons (d_var 0) (da_cons (d_ty (n := "tuple") (by rfl) T.n_tuple (by decide +kernel)) da_nil))) (d_one (d_chain op_le op_le le_ok le_ok (d_var 1) (d_callB c_len len_ok (by rfl) T.n_len (by decide +kernel) (da_cons (d_var 0) da_nil)) (d_var 2))))))
def g_is_rising_strictly : PSt := sSeq (sFor (fRng2 (fCons (fC (.int 1)) (fCons (fCB lenG (fCons (fVar 0) (fNil))) (fNil)))) (.nm 1) (sIf (tNot' (tB' (fBin ltDG (fBin ixG (fVar 0) (fBin subG (fVar 1) (fC (.int 1)))) (fBin ixG (fVar 0) (fVar 1))))) (sRet (fC (.bl false))) (sNil))) (sRet (fC (.bl true)))
theorem body_is_rising_strictly (T : Top K mg) : ∀ f, Bdy P w K mg base tt 0 "is_rising_strictly" s_is_rising_strictly nm_is_rising_strictly f g_is_rising_strictly := fun f cdv A outer s0 H E hr hgd tk hp => (dss_cons (ds_for hp rfl (di_rng2 (by rfl) T.n_range (da_cons d_int (da_cons (d_callB c_len len_ok (by rfl) T.n_len (by decide +kernel) (da_cons (d_var 0) da_nil)) da_nil))) (g_nm 1 sc_is_rising_strictly.nd rfl (by first | exact Or.inl rfl | exact Or.inr rfl)) (dss_one (ds_if (dt_not (dt_cmp (op_ltDt (u64 hr)) ltD_ok (d_ix ix_seq ix_ok (d_var 0) (d_op op_sub sub_ok (d_var 1) d_int) (fun _ _ => rfl)) (d_ix ix_seq ix_ok (d_var 0) (d_var 1) (fun _ _ => rfl)) (nomark _))) (dss_one (ds_ret d_bl)) dss_nil))) (dss_one (ds_ret d_bl)))
def g_is_name : PSt := sSeq (sIf (tOr' (tNot' (tB' (fCB isiG (fCons (fVar 0) (fCons (fC (.ty "str")) (fNil)))))) (tOr' (tNot' (tB' (fChain leG leG (fC (.int 1)) (fCB lenG (fCons (fVar 0) (fNil))) (fC c_MOST_LETTERS)))) (tB' (fBin (inG false) (fVar 0) (fC c_WORDS))))) (sRet (fC (.bl false))) (sNil)) (sRet (fCB allG (fCons (fLc (fItems (fVar 0)) (.nm 1) (tYes') (fBin (inG false) (fVar 1) (fC c_LETTERS)) [1]) (fNil))))
theorem body_is_name (T : Top K mg) : ∀ f, Bdy P w K mg base tt 0 "is_name" s_is_name nm_is_name f g_is_name := fun f cdv A outer s0 H E hr hgd tk hp => (dss_cons (ds_if (dw_pt (dw_or (dt_not (dt_val (d_callB call_isi isi_ok (by rfl) T.n_isinstance (by decide +kernel) (da_cons (d_var 0) (da_cons (d_ty (n := "str") (by rfl) T.n_str (by decide +kernel)) da_nil))))) (dw_or (dt_not (dt_chain op_le op_le le_ok le_ok d_int (d_callB c_len len_ok (by rfl) T.n_len (by decide +kernel) (da_cons (d_var 0) da_nil)) (d_glob (by rfl) T.c_MOST_LETTERS))) (dw_or1 (dt_cmp op_inA in_ok (d_var 0) (d_glob (by rfl) T.c_WORDS) rfl))))) (dss_one (ds_ret d_bl)) dss_nil) (dss_one (ds_ret (d_callB (cr_all rfl) all_ok (by rfl) T.n_all (by decide +kernel) (da_cons (d_lc (own := [("sign", 1)]) (t := .nm 1) rfl sc_is_name.nd (di_seq (d_var 0)) (blkOk_by (N := nm_is_name) (sc := defScope s_is_name) (by decide +kernel)) (fun _ _ _ _ _ => (g_nm 1 sc_is_name.nd rfl (by first | exact Or.inl rfl | exact Or.inr rfl))) (fun _ _ _ _ _ => dts_nil) (fun _ _ _ _ _ => (d_cmp op_inA in_ok (d_var 1) (d_glob (by rfl) T.c_LETTERS) rfl))) da_nil)))))
def g_cycles_in : PSt := sRet (fCB sumG (fCons (fLc (fItems (fVar 0)) (.tp [.nm 1, .nm 2]) (tYes') (fVar 2) [1, 2]) (fNil)))
theorem body_cycles_in (T : Top K mg) : ∀ f, Bdy P w K mg base tt 0 "cycles_in" s_cycles_in nm_cycles_in f g_cycles_in := fun f cdv A outer s0 H E hr hgd tk hp => (dss_one (ds_ret (d_callB (cr_sum rfl) sum_ok (by rfl) T.n_sum (by decide +kernel) (da_cons (d_lc (own := [("_", 1), ("cycles", 2)]) (t := .tp [.nm 1, .nm 2]) rfl sc_cycles_in.nd (di_seq (d_var 0)) (blkOk_by (N := nm_cycles_in) (sc := defScope s_cycles_in) (by decide +kernel)) (fun _ _ _ _ _ => (g_tp rfl (gs_cons (g_nm 1 sc_cycles_in.nd rfl (by first | exact Or.inl rfl | exact Or.inr rfl)) (gs_cons (g_nm 2 sc_cycles_in.nd rfl (by first | exact Or.inl rfl | exact Or.inr rfl)) gs_nil)))) (fun _ _ _ _ _ => dts_nil) (fun _ _ _ _ _ => (d_var 2))) da_nil))))
def g_divisor_of : PSt := sSeq (sWhile (tB' (fBin gtG (fVar 1) (fC (.int 0)))) (sPar 0 1 (fCons (fVar 1) (fCons (fBin modG (fVar 0) (fVar 1)) (fNil))))) (sRet (fVar 0))
theorem body_divisor_of (T : Top K mg) : ∀ f, Bdy P w K mg base tt 0 "divisor_of" s_divisor_of nm_divisor_of f g_divisor_of := fun f cdv A outer s0 H E hr hgd tk hp => (dss_cons (ds_while hp (dt_cmp op_gt gt_ok (d_var 1) d_int (nomark _)) (dss_one (ds_par (i := 0) (j := 1) rfl sc_divisor_of.nd rfl rfl (by decide) rfl rfl (da_cons (d_var 1) (da_cons (d_op op_mod mod_ok (d_var 0) (d_var 1)) da_nil))))) (dss_one (ds_ret (d_var 0))))
def g_released_at : PSt := sRet (fLc (fEnum (fCons (fVar 0) (fNil))) (.tp [.nm 2, .tp [.nm 3, .nm 4, .nm 5]]) (tAnd' (tB' (fBin geG (fVar 1) (fVar 3))) (tB' (fBin eqG (fBin modG (fBin subG (fVar 1) (fVar 3)) (fVar 4)) (fC (.int 0))))) (fVar 2) [2, 3, 4, 5])
theorem body_released_at (T : Top K mg) : ∀ f, Bdy P w K mg base tt 0 "released_at" s_released_at nm_released_at f g_released_at := fun f cdv A outer s0 H E hr hgd tk hp => (dss_one (ds_ret (d_lc (own := [("task", 2), ("offset", 3), ("period", 4), ("_", 5)]) (t := .tp [.nm 2, .tp [.nm 3, .nm 4, .nm 5]]) rfl sc_released_at.nd (di_enum (by rfl) T.n_enumerate (da_cons (d_var 0) da_nil)) (blkOk_by (N := nm_released_at) (sc := defScope s_released_at) (by decide +kernel)) (fun _ _ _ _ _ => (g_tp rfl (gs_cons (g_nm 2 sc_released_at.nd rfl (by first | exact Or.inl rfl | exact Or.inr rfl)) (gs_cons (g_tp rfl (gs_cons (g_nm 3 sc_released_at.nd rfl (by first | exact Or.inl rfl | exact Or.inr rfl)) (gs_cons (g_nm 4 sc_released_at.nd rfl (by first | exact Or.inl rfl | exact Or.inr rfl)) (gs_cons (g_nm 5 sc_released_at.nd rfl (by first | exact Or.inl rfl | exact Or.inr rfl)) gs_nil)))) gs_nil)))) (fun _ _ _ _ _ => (dts_one (dw_pt (dw_and (dt_cmp op_ge ge_ok (d_var 1) (d_var 3) (nomark _)) (dw_and1 (dt_cmp (op_eqS hr.units) eq_ok (d_op op_mod mod_ok (d_op op_sub sub_ok (d_var 1) (d_var 3)) (d_var 4)) d_int (nomark _))))))) (fun _ _ _ _ _ => (d_var 2)))))
def g__law_pail : PSt := sSeq (sSet 2 (fBin addG (fC (.int 1141269)) (fBin mulG (fC (.int 10867)) (fVar 1)))) (sSeq (sFor (fItems (fSl (fVar 0) (fNo) (fPart (fC (.int 12))))) (.nm 3) (sSet 2 (fBin modG (fCB toIntG (fCons (fBin addG (fBin addG (fBin mulG (fVar 2) (fC (.int 65071))) (fBin mulG (fBin modG (fCB toIntG (fCons (fVar 3) (fNil))) (fC (.int 2147483423))) (fC (.int 17)))) (fC (.int 5))) (fNil))) (fC (.int 2147483423))))) (sSeq (sSet 4 (fIf (tB' (fBin ltG (fVar 1) (fCB lenG (fCons (fVar 0) (fNil))))) (fCB toIntG (fCons (fBin ixG (fVar 0) (fVar 1)) (fNil))) (fC (.int 0)))) (sSeq (sSet 2 (fBin modG (fCB toIntG (fCons (fBin addG (fBin addG (fBin mulG (fVar 2) (fC (.int 97))) (fBin mulG (fBin modG (fVar 4) (fC (.int 2147483423))) (fC (.int 75029)))) (fC (.int 13))) (fNil))) (fC (.int 2147483423)))) (sRet (fLst (fCons (fIf (tOr' (tB' (fBin ltG (fVar 4) (fC (.int 0)))) (tB' (fBin geG (fVar 4) (fBin powG (fC (.int 10)) (fC (.int 15)))))) (fCB absG (fCons (fVar 4) (fNil))) (fC (.int 0))) (fCons (fVar 2) (fCons (fC (.int 0)) (fNil)))))))))
theorem body__law_pail (T : Top K mg) : ∀ f, Bdy P w K mg base tt 0 "_law_pail" s__law_pail nm__law_pail f g__law_pail := fun f cdv A outer s0 H E hr hgd tk hp => (dss_cons (ds_set 2 sc__law_pail.nd rfl (by first | exact Or.inl rfl | exact Or.inr rfl) (d_op op_addA add_ok d_int (d_op op_mul mul_ok d_int (d_var 1)))) (dss_cons (ds_for hp rfl (di_seq (d_slice (d_var 0) dp_none (dp_some d_int))) (g_nm 3 sc__law_pail.nd rfl (by first | exact Or.inl rfl | exact Or.inr rfl)) (dss_one (ds_set 2 sc__law_pail.nd rfl (by first | exact Or.inl rfl | exact Or.inr rfl) (d_op op_mod mod_ok (d_callT call_int1 toInt_ok (by rfl) T.n_int (by decide +kernel) (da_cons (d_op op_addA add_ok (d_op op_addA add_ok (d_op op_mul mul_ok (d_var 2) d_int) (d_op op_mul mul_ok (d_op op_mod mod_ok (d_callT call_int1 toInt_ok (by rfl) T.n_int (by decide +kernel) (da_cons (d_var 3) da_nil)) d_int) d_int)) d_int) da_nil)) d_int)))) (dss_cons (ds_set 4 sc__law_pail.nd rfl (by first | exact Or.inl rfl | exact Or.inr rfl) (d_if (dt_cmp op_lt lt_ok (d_var 1) (d_callB c_len len_ok (by rfl) T.n_len (by decide +kernel) (da_cons (d_var 0) da_nil)) (nomark _)) (d_callT call_int1 toInt_ok (by rfl) T.n_int (by decide +kernel) (da_cons (d_ix ix_seq ix_ok (d_var 0) (d_var 1) (fun _ _ => rfl)) da_nil)) d_int)) (dss_cons (ds_set 2 sc__law_pail.nd rfl (by first | exact Or.inl rfl | exact Or.inr rfl) (d_op op_mod mod_ok (d_callT call_int1 toInt_ok (by rfl) T.n_int (by decide +kernel) (da_cons (d_op op_addA add_ok (d_op op_addA add_ok (d_op op_mul mul_ok (d_var 2) d_int) (d_op op_mul mul_ok (d_op op_mod mod_ok (d_var 4) d_int) d_int)) d_int) da_nil)) d_int)) (dss_one (ds_ret (d_lst (da_cons (d_if (dw_pt (dw_or (dt_cmp op_lt lt_ok (d_var 4) d_int (nomark _)) (dw_or1 (dt_cmp op_ge ge_ok (d_var 4) (d_op op_pow pow_ok d_int d_int) (nomark _))))) (d_callB call_abs int1_ok (by rfl) T.n_abs (by decide +kernel) (da_cons (d_var 4) da_nil)) d_int) (da_cons (d_var 2) (da_cons d_int da_nil))))))))))
def g__law_deal : PSt := sSeq (sIf (tB' (fBin gtG (fBin ixG (fVar 0) (fC (.int 0))) (fC (.int 0)))) (sSeq (sAsg (.tp [.wl 0 0, .nm 2]) (fCB dmG (fCons (fBin ixG (fVar 0) (fC (.int 0))) (fCons (fVar 1) (fNil))))) (sRet (fVar 2))) (sNil)) (sSeq (sAsg (.wl 0 2) (fBin addG (fBin ixG (fVar 0) (fC (.int 2))) (fC (.int 1)))) (sSeq (sSet 3 (fBin modG (fCB toIntG (fCons (fBin addG (fBin mulG (fBin ixG (fVar 0) (fC (.int 1))) (fC (.int 15559))) (fBin mulG (fC (.int 11933)) (fBin ixG (fVar 0) (fC (.int 2))))) (fNil))) (fC (.int 2147483423)))) (sSeq (sAsg (.wl 0 1) (fBin modG (fCB toIntG (fCons (fBin addG (fBin mulG (fVar 3) (fBin addG (fBin modG (fCB toIntG (fCons (fVar 3) (fNil))) (fC (.int 5171))) (fC (.int 30029)))) (fBin mulG (fC (.int 37)) (fBin ixG (fVar 0) (fC (.int 2))))) (fNil))) (fC (.int 2147483423)))) (sRet (fBin modG (fCB toIntG (fCons (fBin fdivG (fBin ixG (fVar 0) (fC (.int 1))) (fC (.int 349))) (fNil))) (fVar 1))))))
theorem body__law_deal (T : Top K mg) : ∀ f, Bdy P w K mg base tt 0 "_law_deal" s__law_deal nm__law_deal f g__law_deal := fun f cdv A outer s0 H E hr hgd tk hp => (dss_cons (ds_if (dt_cmp op_gt gt_ok (d_ix ix_seq ix_ok (d_var 0) d_int (fun _ _ => rfl)) d_int (nomark _)) (dss_cons (ds_asg (d_callB call_divmod dm_ok (by rfl) T.n_divmod (by decide +kernel) (da_cons (d_ix ix_seq ix_ok (d_var 0) d_int (fun _ _ => rfl)) (da_cons (d_var 1) da_nil))) (g_tp rfl (gs_cons (g_wl 0 0) (gs_cons (g_nm 2 sc__law_deal.nd rfl (by first | exact Or.inl rfl | exact Or.inr rfl)) gs_nil)))) (dss_one (ds_ret (d_var 2)))) dss_nil) (dss_cons (ds_asg (d_op op_addA add_ok (d_ix ix_seq ix_ok (d_var 0) d_int (fun _ _ => rfl)) d_int) (g_wl 0 2)) (dss_cons (ds_set 3 sc__law_deal.nd rfl (by first | exact Or.inl rfl | exact Or.inr rfl) (d_op op_mod mod_ok (d_callT call_int1 toInt_ok (by rfl) T.n_int (by decide +kernel) (da_cons (d_op op_addA add_ok (d_op op_mul mul_ok (d_ix ix_seq ix_ok (d_var 0) d_int (fun _ _ => rfl)) d_int) (d_op op_mul mul_ok d_int (d_ix ix_seq ix_ok (d_var 0) d_int (fun _ _ => rfl)))) da_nil)) d_int)) (dss_cons (ds_asg (d_op op_mod mod_ok (d_callT call_int1 toInt_ok (by rfl) T.n_int (by decide +kernel) (da_cons (d_op op_addA add_ok (d_op op_mul mul_ok (d_var 3) (d_op op_addA add_ok (d_op op_mod mod_ok (d_callT call_int1 toInt_ok (by rfl) T.n_int (by decide +kernel) (da_cons (d_var 3) da_nil)) d_int) d_int)) (d_op op_mul mul_ok d_int (d_ix ix_seq ix_ok (d_var 0) d_int (fun _ _ => rfl)))) da_nil)) d_int) (g_wl 0 1)) (dss_one (ds_ret (d_op op_mod mod_ok (d_callT call_int1 toInt_ok (by rfl) T.n_int (by decide +kernel) (da_cons (d_op op_fdiv fdiv_ok (d_ix ix_seq ix_ok (d_var 0) d_int (fun _ _ => rfl)) d_int) da_nil)) (d_var 1))))))))
def g__law_gcd : PSt := sSeq (sFor (fRng1 (fCons (fC (.int 60)) (fNil))) (.nm 2) (sSeq (sIf (tB' (fBin eqG (fVar 1) (fC (.int 0)))) (sBrk) (sNil)) (sPar 0 1 (fCons (fVar 1) (fCons (fBin modG (fCB toIntG (fCons (fVar 0) (fNil))) (fVar 1)) (fNil)))))) (sRet (fVar 0))
theorem body__law_gcd (T : Top K mg) : ∀ f, Bdy P w K mg base tt 0 "_law_gcd" s__law_gcd nm__law_gcd f g__law_gcd := fun f cdv A outer s0 H E hr hgd tk hp => (dss_cons (ds_for hp rfl (di_rng1 (by rfl) T.n_range (da_cons d_int da_nil)) (g_nm 2 sc__law_gcd.nd rfl (by first | exact Or.inl rfl | exact Or.inr rfl)) (dss_cons (ds_if (dt_cmp (op_eqS hr.units) eq_ok (d_var 1) d_int (nomark _)) (dss_one ds_brk) dss_nil) (dss_one (ds_par (i := 0) (j := 1) rfl sc__law_gcd.nd rfl rfl (by decide) rfl rfl (da_cons (d_var 1) (da_cons (d_op op_mod mod_ok (d_callT call_int1 toInt_ok (by rfl) T.n_int (by decide +kernel) (da_cons (d_var 0) da_nil)) (d_var 1)) da_nil)))))) (dss_one (ds_ret (d_var 0))))
def g__law_released : PSt := sSeq (sOw 2 (fNil)) (sSeq (sFor (fRng1 (fCons (fCB lenG (fCons (fBin ixG (fVar 0) (fC (.int 1))) (fNil))) (fNil))) (.nm 3) (sSeq (sAsg (.tp [.nm 4, .nm 5, .nm 6]) (fBin ixG (fBin ixG (fVar 0) (fC (.int 1))) (fVar 3))) (sIf (tAnd' (tB' (fBin geG (fVar 1) (fVar 4))) (tB' (fBin eqG (fBin modG (fCB toIntG (fCons (fBin subG (fVar 1) (fVar 4)) (fNil))) (fVar 5)) (fC (.int 0))))) (sApp 2 (fVar 3)) (sNil)))) (sFrz 2 (sRet (fVar 2))))
theorem body__law_released (T : Top K mg) : ∀ f, Bdy P w K mg base tt 0 "_law_released" s__law_released nm__law_released f g__law_released := fun f cdv A outer s0 H E hr hgd tk hp => (dss_cons (ds_ow 2 sc__law_released.nd rfl (by first | exact Or.inl rfl | exact Or.inr rfl) da_nil) (dss_cons (ds_for hp rfl (di_rng1 (by rfl) T.n_range (da_cons (d_callB c_len len_ok (by rfl) T.n_len (by decide +kernel) (da_cons (d_ix ix_seq ix_ok (d_var 0) d_int (fun _ _ => rfl)) da_nil)) da_nil)) (g_nm 3 sc__law_released.nd rfl (by first | exact Or.inl rfl | exact Or.inr rfl)) (dss_cons (ds_asg (d_ix ix_seq ix_ok (d_ix ix_seq ix_ok (d_var 0) d_int (fun _ _ => rfl)) (d_var 3) (fun _ _ => rfl)) (g_tp rfl (gs_cons (g_nm 4 sc__law_released.nd rfl (by first | exact Or.inl rfl | exact Or.inr rfl)) (gs_cons (g_nm 5 sc__law_released.nd rfl (by first | exact Or.inl rfl | exact Or.inr rfl)) (gs_cons (g_nm 6 sc__law_released.nd rfl (by first | exact Or.inl rfl | exact Or.inr rfl)) gs_nil))))) (dss_one (ds_if (dw_pt (dw_and (dt_cmp op_ge ge_ok (d_var 1) (d_var 4) (nomark _)) (dw_and1 (dt_cmp (op_eqS hr.units) eq_ok (d_op op_mod mod_ok (d_callT call_int1 toInt_ok (by rfl) T.n_int (by decide +kernel) (da_cons (d_op op_sub sub_ok (d_var 1) (d_var 4)) da_nil)) (d_var 5)) d_int (nomark _))))) (dss_one (ds_app 2 rfl (by first | exact Or.inl rfl | exact Or.inr (Or.inl rfl) | exact Or.inr (Or.inr rfl)) (d_var 3))) dss_nil)))) (dss_one (ds_frz 2 (ds_ret (d_var 2))))))
def g__law_due_now : PSt := sSeq (sOw 2 (fNil)) (sSeq (sFor (fRng1 (fCons (fCB lenG (fCons (fBin ixG (fVar 0) (fC (.int 1))) (fNil))) (fNil))) (.nm 3) (sSeq (sAsg (.tp [.nm 4, .nm 5, .nm 6]) (fBin ixG (fBin ixG (fVar 0) (fC (.int 1))) (fVar 3))) (sIf (tAnd' (tB' (fBin geG (fVar 1) (fBin addG (fVar 4) (fVar 6)))) (tB' (fBin eqG (fBin modG (fCB toIntG (fCons (fBin subG (fBin subG (fVar 1) (fVar 4)) (fVar 6)) (fNil))) (fVar 5)) (fC (.int 0))))) (sApp 2 (fVar 3)) (sNil)))) (sFrz 2 (sRet (fVar 2))))
theorem body__law_due_now (T : Top K mg) : ∀ f, Bdy P w K mg base tt 0 "_law_due_now" s__law_due_now nm__law_due_now f g__law_due_now := fun f cdv A outer s0 H E hr hgd tk hp => (dss_cons (ds_ow 2 sc__law_due_now.nd rfl (by first | exact Or.inl rfl | exact Or.inr rfl) da_nil) (dss_cons (ds_for hp rfl (di_rng1 (by rfl) T.n_range (da_cons (d_callB c_len len_ok (by rfl) T.n_len (by decide +kernel) (da_cons (d_ix ix_seq ix_ok (d_var 0) d_int (fun _ _ => rfl)) da_nil)) da_nil)) (g_nm 3 sc__law_due_now.nd rfl (by first | exact Or.inl rfl | exact Or.inr rfl)) (dss_cons (ds_asg (d_ix ix_seq ix_ok (d_ix ix_seq ix_ok (d_var 0) d_int (fun _ _ => rfl)) (d_var 3) (fun _ _ => rfl)) (g_tp rfl (gs_cons (g_nm 4 sc__law_due_now.nd rfl (by first | exact Or.inl rfl | exact Or.inr rfl)) (gs_cons (g_nm 5 sc__law_due_now.nd rfl (by first | exact Or.inl rfl | exact Or.inr rfl)) (gs_cons (g_nm 6 sc__law_due_now.nd rfl (by first | exact Or.inl rfl | exact Or.inr rfl)) gs_nil))))) (dss_one (ds_if (dw_pt (dw_and (dt_cmp op_ge ge_ok (d_var 1) (d_op op_addA add_ok (d_var 4) (d_var 6)) (nomark _)) (dw_and1 (dt_cmp (op_eqS hr.units) eq_ok (d_op op_mod mod_ok (d_callT call_int1 toInt_ok (by rfl) T.n_int (by decide +kernel) (da_cons (d_op op_sub sub_ok (d_op op_sub sub_ok (d_var 1) (d_var 4)) (d_var 6)) da_nil)) (d_var 5)) d_int (nomark _))))) (dss_one (ds_app 2 rfl (by first | exact Or.inl rfl | exact Or.inr (Or.inl rfl) | exact Or.inr (Or.inr rfl)) (d_var 3))) dss_nil)))) (dss_one (ds_frz 2 (ds_ret (d_var 2))))))
def g__law_bad_plans : PSt := sSeq (sAsg (.tp [.nm 1, .nm 2]) (fVar 0)) (sSeq (sAsg (.tp [.tp [.nm 3, .nm 4, .nm 5], .nm 6]) (fTup (fCons (fBin ixG (fVar 2) (fC (.int 0))) (fCons (fSl (fVar 2) (fPart (fC (.int 1))) (fNo)) (fNil))))) (sSeq (sSet 7 (fLst (fCons (fC .non) (fCons (fTup (fNil)) (fCons (fTup (fCons (fVar 1) (fNil))) (fCons (fLst (fCons (fVar 1) (fCons (fVar 2) (fNil)))) (fCons (fTup (fCons (fVar 1) (fCons (fTup (fNil)) (fNil)))) (fCons (fTup (fCons (fVar 1) (fCons (fBin mulAG (fVar 2) (fC (.int 5))) (fNil)))) (fCons (fTup (fCons (fTup (fCons (fC (.int 10)) (fCons (fC (.int 0)) (fNil)))) (fCons (fVar 2) (fNil)))) (fCons (fTup (fCons (fTup (fCons (fNeg (fC (.int 1))) (fCons (fC (.int 0)) (fNil)))) (fCons (fVar 2) (fNil)))) (fNil))))))))))) (sSeq (sSet 7 (fBin addG (fVar 7) (fLst (fCons (fTup (fCons (fTup (fCons (fC (.int 0)) (fCons (fC (.bl true)) (fNil)))) (fCons (fVar 2) (fNil)))) (fNil))))) (sSeq (sSet 7 (fBin addG (fVar 7) (fLst (fCons (fTup (fCons (fVar 1) (fCons (fBin addG (fTup (fCons (fTup (fCons (fVar 3) (fCons (fVar 4) (fNil)))) (fNil))) (fVar 6)) (fNil)))) (fCons (fTup (fCons (fVar 1) (fCons (fBin addG (fTup (fCons (fTup (fCons (fVar 4) (fCons (fVar 4) (fCons (fVar 5) (fNil))))) (fNil))) (fVar 6)) (fNil)))) (fNil)))))) (sSeq (sSet 7 (fBin addG (fVar 7) (fLst (fCons (fTup (fCons (fVar 1) (fCons (fBin addG (fTup (fCons (fTup (fCons (fVar 3) (fCons (fVar 4) (fCons (fC (.int 0)) (fNil))))) (fNil))) (fVar 6)) (fNil)))) (fNil))))) (sSeq (sSet 7 (fBin addG (fVar 7) (fLst (fCons (fTup (fCons (fVar 1) (fCons (fBin addG (fTup (fCons (fTup (fCons (fVar 3) (fCons (fVar 4) (fCons (fBin addG (fVar 4) (fC (.int 1))) (fNil))))) (fNil))) (fVar 6)) (fNil)))) (fCons (fTup (fCons (fVar 1) (fCons (fBin addG (fTup (fCons (fTup (fCons (fC (.int 0)) (fCons (fC (.int 0)) (fCons (fC (.int 0)) (fNil))))) (fNil))) (fVar 6)) (fNil)))) (fNil)))))) (sSeq (sSet 7 (fBin addG (fVar 7) (fLst (fCons (fTup (fCons (fVar 1) (fCons (fBin addG (fTup (fCons (fTup (fCons (fC (.int 0)) (fCons (fC (.int 241)) (fCons (fC (.int 9)) (fNil))))) (fNil))) (fVar 6)) (fNil)))) (fNil))))) (sSeq (sSet 7 (fBin addG (fVar 7) (fLst (fCons (fTup (fCons (fVar 1) (fCons (fBin addG (fTup (fCons (fTup (fCons (fNeg (fC (.int 1))) (fCons (fVar 4) (fCons (fVar 5) (fNil))))) (fNil))) (fVar 6)) (fNil)))) (fCons (fTup (fCons (fVar 1) (fCons (fCB listG (fCons (fVar 2) (fNil))) (fNil)))) (fCons (fTup (fCons (fVar 1) (fCons (fTup (fCons (fTup (fCons (fC (.int 0)) (fCons (fC (.int 7)) (fCons (fC (.int 7)) (fNil))))) (fCons (fTup (fCons (fC (.int 0)) (fCons (fC (.int 239)) (fCons (fC (.int 9)) (fNil))))) (fNil)))) (fNil)))) (fNil))))))) (sRet (fBin addG (fVar 7) (fLst (fCons (fTup (fCons (fVar 1) (fCons (fVar 2) (fCons (fTup (fNil)) (fNil))))) (fNil)))))))))))))
theorem body__law_bad_plans (T : Top K mg) : ∀ f, Bdy P w K mg base tt 0 "_law_bad_plans" s__law_bad_plans nm__law_bad_plans f g__law_bad_plans := fun f cdv A outer s0 H E hr hgd tk hp => (dss_cons (ds_asg (d_var 0) (g_tp rfl (gs_cons (g_nm 1 sc__law_bad_plans.nd rfl (by first | exact Or.inl rfl | exact Or.inr rfl)) (gs_cons (g_nm 2 sc__law_bad_plans.nd rfl (by first | exact Or.inl rfl | exact Or.inr rfl)) gs_nil)))) (dss_cons (ds_asg (d_tup (da_cons (d_ix ix_seq ix_ok (d_var 2) d_int (fun _ _ => rfl)) (da_cons (d_slice (d_var 2) (dp_some d_int) dp_none) da_nil))) (g_tp rfl (gs_cons (g_tp rfl (gs_cons (g_nm 3 sc__law_bad_plans.nd rfl (by first | exact Or.inl rfl | exact Or.inr rfl)) (gs_cons (g_nm 4 sc__law_bad_plans.nd rfl (by first | exact Or.inl rfl | exact Or.inr rfl)) (gs_cons (g_nm 5 sc__law_bad_plans.nd rfl (by first | exact Or.inl rfl | exact Or.inr rfl)) gs_nil)))) (gs_cons (g_nm 6 sc__law_bad_plans.nd rfl (by first | exact Or.inl rfl | exact Or.inr rfl)) gs_nil)))) (dss_cons (ds_set 7 sc__law_bad_plans.nd rfl (by first | exact Or.inl rfl | exact Or.inr rfl) (d_lst (da_cons d_non (da_cons (d_tup da_nil) (da_cons (d_tup (da_cons (d_var 1) da_nil)) (da_cons (d_lst (da_cons (d_var 1) (da_cons (d_var 2) da_nil))) (da_cons (d_tup (da_cons (d_var 1) (da_cons (d_tup da_nil) da_nil))) (da_cons (d_tup (da_cons (d_var 1) (da_cons (d_op op_mulA mulA_ok (d_var 2) d_int) da_nil))) (da_cons (d_tup (da_cons (d_tup (da_cons d_int (da_cons d_int da_nil))) (da_cons (d_var 2) da_nil))) (da_cons (d_tup (da_cons (d_tup (da_cons (d_neg d_int) (da_cons d_int da_nil))) (da_cons (d_var 2) da_nil))) da_nil)))))))))) (dss_cons (ds_set 7 sc__law_bad_plans.nd rfl (by first | exact Or.inl rfl | exact Or.inr rfl) (d_op op_addA add_ok (d_var 7) (d_lst (da_cons (d_tup (da_cons (d_tup (da_cons d_int (da_cons d_bl da_nil))) (da_cons (d_var 2) da_nil))) da_nil)))) (dss_cons (ds_set 7 sc__law_bad_plans.nd rfl (by first | exact Or.inl rfl | exact Or.inr rfl) (d_op op_addA add_ok (d_var 7) (d_lst (da_cons (d_tup (da_cons (d_var 1) (da_cons (d_op op_addA add_ok (d_tup (da_cons (d_tup (da_cons (d_var 3) (da_cons (d_var 4) da_nil))) da_nil)) (d_var 6)) da_nil))) (da_cons (d_tup (da_cons (d_var 1) (da_cons (d_op op_addA add_ok (d_tup (da_cons (d_tup (da_cons (d_var 4) (da_cons (d_var 4) (da_cons (d_var 5) da_nil)))) da_nil)) (d_var 6)) da_nil))) da_nil))))) (dss_cons (ds_set 7 sc__law_bad_plans.nd rfl (by first | exact Or.inl rfl | exact Or.inr rfl) (d_op op_addA add_ok (d_var 7) (d_lst (da_cons (d_tup (da_cons (d_var 1) (da_cons (d_op op_addA add_ok (d_tup (da_cons (d_tup (da_cons (d_var 3) (da_cons (d_var 4) (da_cons d_int da_nil)))) da_nil)) (d_var 6)) da_nil))) da_nil)))) (dss_cons (ds_set 7 sc__law_bad_plans.nd rfl (by first | exact Or.inl rfl | exact Or.inr rfl) (d_op op_addA add_ok (d_var 7) (d_lst (da_cons (d_tup (da_cons (d_var 1) (da_cons (d_op op_addA add_ok (d_tup (da_cons (d_tup (da_cons (d_var 3) (da_cons (d_var 4) (da_cons (d_op op_addA add_ok (d_var 4) d_int) da_nil)))) da_nil)) (d_var 6)) da_nil))) (da_cons (d_tup (da_cons (d_var 1) (da_cons (d_op op_addA add_ok (d_tup (da_cons (d_tup (da_cons d_int (da_cons d_int (da_cons d_int da_nil)))) da_nil)) (d_var 6)) da_nil))) da_nil))))) (dss_cons (ds_set 7 sc__law_bad_plans.nd rfl (by first | exact Or.inl rfl | exact Or.inr rfl) (d_op op_addA add_ok (d_var 7) (d_lst (da_cons (d_tup (da_cons (d_var 1) (da_cons (d_op op_addA add_ok (d_tup (da_cons (d_tup (da_cons d_int (da_cons d_int (da_cons d_int da_nil)))) da_nil)) (d_var 6)) da_nil))) da_nil)))) (dss_cons (ds_set 7 sc__law_bad_plans.nd rfl (by first | exact Or.inl rfl | exact Or.inr rfl) (d_op op_addA add_ok (d_var 7) (d_lst (da_cons (d_tup (da_cons (d_var 1) (da_cons (d_op op_addA add_ok (d_tup (da_cons (d_tup (da_cons (d_neg d_int) (da_cons (d_var 4) (da_cons (d_var 5) da_nil)))) da_nil)) (d_var 6)) da_nil))) (da_cons (d_tup (da_cons (d_var 1) (da_cons (d_callT call_list_of list_ok (by rfl) T.n_list (by decide +kernel) (da_cons (d_var 2) da_nil)) da_nil))) (da_cons (d_tup (da_cons (d_var 1) (da_cons (d_tup (da_cons (d_tup (da_cons d_int (da_cons d_int (da_cons d_int da_nil)))) (da_cons (d_tup (da_cons d_int (da_cons d_int (da_cons d_int da_nil)))) da_nil))) da_nil))) da_nil)))))) (dss_one (ds_ret (d_op op_addA add_ok (d_var 7) (d_lst (da_cons (d_tup (da_cons (d_var 1) (da_cons (d_var 2) (da_cons (d_tup da_nil) da_nil)))) da_nil))))))))))))))
def g_is_between : PSt := sRet (fAnd (fCall sp_is_whole (fCons (fVar 0) (fNil))) (fChain leG leG (fVar 1) (fVar 0) (fVar 2)))
theorem body_is_between (T : Top K mg) (F_is_whole : FnD P w K mg base tt 1 "is_whole" s_is_whole pr_is_whole sp_is_whole) : ∀ f, Bdy P w K mg base tt 1 "is_between" s_is_between nm_is_between f g_is_between := fun f cdv A outer s0 H E hr hgd tk hp => (dss_one (ds_ret (d_and (d_call F_is_whole hgd (hr.mono (by decide)) tk (by rfl) (da_cons (d_var 0) da_nil)) (d_one (d_chain op_le op_le le_ok le_ok (d_var 1) (d_var 0) (d_var 2))))))
def g_order_of : PSt := sRet (fTup (fCons (fNeg (fCall sp_cycles_in (fCons (fVar 0) (fNil)))) (fCons (fVar 0) (fNil))))
theorem body_order_of (T : Top K mg) (F_cycles_in : FnD P w K mg base tt 1 "cycles_in" s_cycles_in pr_cycles_in sp_cycles_in) : ∀ f, Bdy P w K mg base tt 1 "order_of" s_order_of nm_order_of f g_order_of := fun f cdv A outer s0 H E hr hgd tk hp => (dss_one (ds_ret (d_tup (da_cons (d_neg (d_call F_cycles_in hgd (hr.mono (by decide)) tk (by rfl) (da_cons (d_var 0) da_nil))) (da_cons (d_var 0) da_nil)))))
def g_round_by : PSt := sSeq (sSet 1 (fC (.int 1))) (sSeq (sFor (fItems (fVar 0)) (.tp [.nm 2, .nm 3, .nm 2]) (sSet 1 (fBin mulG (fBin fdivG (fVar 1) (fCall sp_divisor_of (fCons (fVar 1) (fCons (fVar 3) (fNil))))) (fVar 3)))) (sRet (fVar 1)))
theorem body_round_by (T : Top K mg) (F_divisor_of : FnD P w K mg base tt 1 "divisor_of" s_divisor_of pr_divisor_of sp_divisor_of) : ∀ f, Bdy P w K mg base tt 1 "round_by" s_round_by nm_round_by f g_round_by := fun f cdv A outer s0 H E hr hgd tk hp => (dss_cons (ds_set 1 sc_round_by.nd rfl (by first | exact Or.inl rfl | exact Or.inr rfl) d_int) (dss_cons (ds_for hp rfl (di_seq (d_var 0)) (g_tp rfl (gs_cons (g_nm 2 sc_round_by.nd rfl (by first | exact Or.inl rfl | exact Or.inr rfl)) (gs_cons (g_nm 3 sc_round_by.nd rfl (by first | exact Or.inl rfl | exact Or.inr rfl)) (gs_cons (g_nm 2 sc_round_by.nd rfl (by first | exact Or.inl rfl | exact Or.inr rfl)) gs_nil)))) (dss_one (ds_set 1 sc_round_by.nd rfl (by first | exact Or.inl rfl | exact Or.inr rfl) (d_op op_mul mul_ok (d_op op_fdiv fdiv_ok (d_var 1) (d_call F_divisor_of hgd (hr.mono (by decide)) tk (by rfl) (da_cons (d_var 1) (da_cons (d_var 3) da_nil)))) (d_var 3))))) (dss_one (ds_ret (d_var 1)))))
def g_due_at : PSt := sRet (fCall sp_released_at (fCons (fLc (fItems (fVar 0)) (.tp [.nm 2, .nm 3, .nm 4]) (tYes') (fTup (fCons (fBin addG (fVar 2) (fVar 4)) (fCons (fVar 3) (fCons (fVar 4) (fNil))))) [2, 3, 4]) (fCons (fVar 1) (fNil))))
theorem body_due_at (T : Top K mg) (F_released_at : FnD P w K mg base tt 1 "released_at" s_released_at pr_released_at sp_released_at) : ∀ f, Bdy P w K mg base tt 1 "due_at" s_due_at nm_due_at f g_due_at := fun f cdv A outer s0 H E hr hgd tk hp => (dss_one (ds_ret (d_call F_released_at hgd (hr.mono (by decide)) tk (by rfl) (da_cons (d_lc (own := [("offset", 2), ("period", 3), ("due", 4)]) (t := .tp [.nm 2, .nm 3, .nm 4]) rfl sc_due_at.nd (di_seq (d_var 0)) (blkOk_by (N := nm_due_at) (sc := defScope s_due_at) (by decide +kernel)) (fun _ _ _ _ _ => (g_tp rfl (gs_cons (g_nm 2 sc_due_at.nd rfl (by first | exact Or.inl rfl | exact Or.inr rfl)) (gs_cons (g_nm 3 sc_due_at.nd rfl (by first | exact Or.inl rfl | exact Or.inr rfl)) (gs_cons (g_nm 4 sc_due_at.nd rfl (by first | exact Or.inl rfl | exact Or.inr rfl)) gs_nil))))) (fun _ _ _ _ _ => dts_nil) (fun _ _ _ _ _ => (d_tup (da_cons (d_op op_addA add_ok (d_var 2) (d_var 4)) (da_cons (d_var 3) (da_cons (d_var 4) da_nil)))))) (da_cons (d_var 1) da_nil)))))
def g_jobs_before : PSt := sRet (fLc2 (fRng1 (fCons (fVar 1) (fNil))) (.nm 2) (tYes') (fItems (fCall sp_released_at (fCons (fVar 0) (fCons (fVar 2) (fNil))))) (.nm 3) (tYes') (fTup (fCons (fVar 2) (fCons (fVar 3) (fNil)))) [2, 3] [3])
theorem body_jobs_before (T : Top K mg) (F_released_at : FnD P w K mg base tt 1 "released_at" s_released_at pr_released_at sp_released_at) : ∀ f, Bdy P w K mg base tt 1 "jobs_before" s_jobs_before nm_jobs_before f g_jobs_before := fun f cdv A outer s0 H E hr hgd tk hp => (dss_one (ds_ret (d_lc2 (own := [("release", 2), ("task", 3)]) (own1 := [3]) (t := .nm 2) (t1 := .nm 3) rfl sc_jobs_before.nd (di_rng1 (by rfl) T.n_range (da_cons (d_var 1) da_nil)) (blkOk_by (N := nm_jobs_before) (sc := defScope s_jobs_before) (by decide +kernel)) (fun _ _ _ _ _ => (g_nm 2 sc_jobs_before.nd rfl (by first | exact Or.inl rfl | exact Or.inr rfl))) (fun _ _ _ _ _ => dts_nil) (fun _ _ _ _ _ => (di_seq (d_call F_released_at hgd (hr.mono (by decide)) takes0 (by rfl) (da_cons (d_var 0) (da_cons (d_var 2) da_nil))))) (fun _ _ _ _ _ => (g_nm 3 sc_jobs_before.nd rfl (by first | exact Or.inl rfl | exact Or.inr rfl))) (fun _ _ _ _ _ => dts_nil) (fun _ _ _ _ _ => (d_tup (da_cons (d_var 2) (da_cons (d_var 3) da_nil)))))))
def g__law_any : PSt := sRet (fBin ixG (fVar 1) (fCall sp__law_deal (fCons (fVar 0) (fCons (fCB lenG (fCons (fVar 1) (fNil))) (fNil)))))
theorem body__law_any (T : Top K mg) (F__law_deal : FnD P w K mg base tt 1 "_law_deal" s__law_deal pr__law_deal sp__law_deal) : ∀ f, Bdy P w K mg base tt 1 "_law_any" s__law_any nm__law_any f g__law_any := fun f cdv A outer s0 H E hr hgd tk hp => (dss_one (ds_ret (d_ix ix_seq ix_ok (d_var 1) (d_call F__law_deal hgd (hr.mono (by decide)) tk (by rfl) (da_cons (d_var 0) (da_cons (d_callB c_len len_ok (by rfl) T.n_len (by decide +kernel) (da_cons (d_var 1) da_nil)) da_nil))) (fun _ _ => rfl))))
def g__law_round : PSt := sSeq (sSet 1 (fC (.int 1))) (sSeq (sFor (fItems (fVar 0)) (.tp [.nm 2, .nm 3, .nm 4]) (sSet 1 (fBin fdivG (fBin mulG (fVar 1) (fVar 3)) (fCall sp__law_gcd (fCons (fVar 1) (fCons (fVar 3) (fNil))))))) (sRet (fVar 1)))
theorem body__law_round (T : Top K mg) (F__law_gcd : FnD P w K mg base tt 1 "_law_gcd" s__law_gcd pr__law_gcd sp__law_gcd) : ∀ f, Bdy P w K mg base tt 1 "_law_round" s__law_round nm__law_round f g__law_round := fun f cdv A outer s0 H E hr hgd tk hp => (dss_cons (ds_set 1 sc__law_round.nd rfl (by first | exact Or.inl rfl | exact Or.inr rfl) d_int) (dss_cons (ds_for hp rfl (di_seq (d_var 0)) (g_tp rfl (gs_cons (g_nm 2 sc__law_round.nd rfl (by first | exact Or.inl rfl | exact Or.inr rfl)) (gs_cons (g_nm 3 sc__law_round.nd rfl (by first | exact Or.inl rfl | exact Or.inr rfl)) (gs_cons (g_nm 4 sc__law_round.nd rfl (by first | exact Or.inl rfl | exact Or.inr rfl)) gs_nil)))) (dss_one (ds_set 1 sc__law_round.nd rfl (by first | exact Or.inl rfl | exact Or.inr rfl) (d_op op_fdiv fdiv_ok (d_op op_mul mul_ok (d_var 1) (d_var 3)) (d_call F__law_gcd hgd (hr.mono (by decide)) tk (by rfl) (da_cons (d_var 1) (da_cons (d_var 3) da_nil))))))) (dss_one (ds_ret (d_var 1)))))
def g_is_stretch : PSt := sSeq (sIf (tOr' (tNot' (tB' (fCall sp_is_tuple_of (fCons (fVar 0) (fCons (fC (.int 2)) (fNil)))))) (tOr' (tNot' (tB' (fCB isiG (fCons (fBin ixG (fVar 0) (fC (.int 0))) (fCons (fC (.ty "str")) (fNil)))))) (tNot' (tB' (fCall sp_is_between (fCons (fBin ixG (fVar 0) (fC (.int 1))) (fCons (fC (.int 1)) (fCons (fVar 1) (fNil))))))))) (sRet (fC (.bl false))) (sNil)) (sRet (fOr (fBin eqG (fBin ixG (fVar 0) (fC (.int 0))) (fC c_OUTSIDE)) (fCall sp_is_name (fCons (fBin ixG (fVar 0) (fC (.int 0))) (fNil)))))
theorem body_is_stretch (T : Top K mg) (F_is_tuple_of : FnD P w K mg base tt 1 "is_tuple_of" s_is_tuple_of pr_is_tuple_of sp_is_tuple_of) (F_is_between : FnD P w K mg base tt 2 "is_between" s_is_between pr_is_between sp_is_between) (F_is_name : FnD P w K mg base tt 1 "is_name" s_is_name pr_is_name sp_is_name) : ∀ f, Bdy P w K mg base tt 2 "is_stretch" s_is_stretch nm_is_stretch f g_is_stretch := fun f cdv A outer s0 H E hr hgd tk hp => (dss_cons (ds_if (dw_pt (dw_or (dt_not (dt_val (d_call F_is_tuple_of hgd (hr.mono (by decide)) tk (by rfl) (da_cons (d_var 0) (da_cons d_int da_nil))))) (dw_or (dt_not (dt_val (d_callB call_isi isi_ok (by rfl) T.n_isinstance (by decide +kernel) (da_cons (d_ix ix_seq ix_ok (d_var 0) d_int (fun _ _ => rfl)) (da_cons (d_ty (n := "str") (by rfl) T.n_str (by decide +kernel)) da_nil))))) (dw_or1 (dt_not (dt_val (d_call F_is_between hgd (hr.mono (by decide)) tk (by rfl) (da_cons (d_ix ix_seq ix_ok (d_var 0) d_int (fun _ _ => rfl)) (da_cons d_int (da_cons (d_var 1) da_nil)))))))))) (dss_one (ds_ret d_bl)) dss_nil) (dss_one (ds_ret (d_or (d_cmp (op_eqS hr.units) eq_ok (d_ix ix_seq ix_ok (d_var 0) d_int (fun _ _ => rfl)) (d_glob (by rfl) T.c_OUTSIDE) (nomark _)) (d_one (d_call F_is_name hgd (hr.mono (by decide)) tk (by rfl) (da_cons (d_ix ix_seq ix_ok (d_var 0) d_int (fun _ _ => rfl)) da_nil)))))))
def g_is_row : PSt := sSeq (sIf (tOr' (tNot' (tB' (fCall sp_is_tuple_of (fCons (fVar 0) (fCons (fC (.int 3)) (fNil)))))) (tNot' (tB' (fCall sp_is_between (fCons (fBin ixG (fVar 0) (fC (.int 1))) (fCons (fC (.int 1)) (fCons (fC c_MOST_PERIOD) (fNil)))))))) (sRet (fC (.bl false))) (sNil)) (sRet (fAnd (fCall sp_is_between (fCons (fBin ixG (fVar 0) (fC (.int 0))) (fCons (fC (.int 0)) (fCons (fBin subG (fBin ixG (fVar 0) (fC (.int 1))) (fC (.int 1))) (fNil))))) (fCall sp_is_between (fCons (fBin ixG (fVar 0) (fC (.int 2))) (fCons (fC (.int 1)) (fCons (fBin ixG (fVar 0) (fC (.int 1))) (fNil)))))))
theorem body_is_row (T : Top K mg) (F_is_tuple_of : FnD P w K mg base tt 1 "is_tuple_of" s_is_tuple_of pr_is_tuple_of sp_is_tuple_of) (F_is_between : FnD P w K mg base tt 2 "is_between" s_is_between pr_is_between sp_is_between) : ∀ f, Bdy P w K mg base tt 2 "is_row" s_is_row nm_is_row f g_is_row := fun f cdv A outer s0 H E hr hgd tk hp => (dss_cons (ds_if (dw_pt (dw_or (dt_not (dt_val (d_call F_is_tuple_of hgd (hr.mono (by decide)) tk (by rfl) (da_cons (d_var 0) (da_cons d_int da_nil))))) (dw_or1 (dt_not (dt_val (d_call F_is_between hgd (hr.mono (by decide)) tk (by rfl) (da_cons (d_ix ix_seq ix_ok (d_var 0) d_int (fun _ _ => rfl)) (da_cons d_int (da_cons (d_glob (by rfl) T.c_MOST_PERIOD) da_nil))))))))) (dss_one (ds_ret d_bl)) dss_nil) (dss_one (ds_ret (d_and (d_call F_is_between hgd (hr.mono (by decide)) tk (by rfl) (da_cons (d_ix ix_seq ix_ok (d_var 0) d_int (fun _ _ => rfl)) (da_cons d_int (da_cons (d_op op_sub sub_ok (d_ix ix_seq ix_ok (d_var 0) d_int (fun _ _ => rfl)) d_int) da_nil)))) (d_one (d_call F_is_between hgd (hr.mono (by decide)) tk (by rfl) (da_cons (d_ix ix_seq ix_ok (d_var 0) d_int (fun _ _ => rfl)) (da_cons d_int (da_cons (d_ix ix_seq ix_ok (d_var 0) d_int (fun _ _ => rfl)) da_nil)))))))))
def g_are_costs : PSt := sRet (fAnd (fCall sp_is_tuple_of (fCons (fVar 0) (fCons (fC (.int 2)) (fNil)))) (fCB allG (fCons (fLc (fItems (fVar 0)) (.nm 1) (tYes') (fCall sp_is_between (fCons (fVar 1) (fCons (fC (.int 0)) (fCons (fC c_MOST_COST) (fNil))))) [1]) (fNil))))
theorem body_are_costs (T : Top K mg) (F_is_tuple_of : FnD P w K mg base tt 1 "is_tuple_of" s_is_tuple_of pr_is_tuple_of sp_is_tuple_of) (F_is_between : FnD P w K mg base tt 2 "is_between" s_is_between pr_is_between sp_is_between) : ∀ f, Bdy P w K mg base tt 2 "are_costs" s_are_costs nm_are_costs f g_are_costs := fun f cdv A outer s0 H E hr hgd tk hp => (dss_one (ds_ret (d_and (d_call F_is_tuple_of hgd (hr.mono (by decide)) tk (by rfl) (da_cons (d_var 0) (da_cons d_int da_nil))) (d_one (d_callB (cr_all rfl) all_ok (by rfl) T.n_all (by decide +kernel) (da_cons (d_lc (own := [("each", 1)]) (t := .nm 1) rfl sc_are_costs.nd (di_seq (d_var 0)) (blkOk_by (N := nm_are_costs) (sc := defScope s_are_costs) (by decide +kernel)) (fun _ _ _ _ _ => (g_nm 1 sc_are_costs.nd rfl (by first | exact Or.inl rfl | exact Or.inr rfl))) (fun _ _ _ _ _ => dts_nil) (fun _ _ _ _ _ => (d_call F_is_between hgd (hr.mono (by decide)) takes0 (by rfl) (da_cons (d_var 1) (da_cons d_int (da_cons (d_glob (by rfl) T.c_MOST_COST) da_nil)))))) da_nil))))))
def g_is_moment : PSt := sRet (fOr (fBin neG (fCall sp_released_at (fCons (fVar 0) (fCons (fVar 1) (fNil)))) (fLst (fNil))) (fBin neG (fCall sp_due_at (fCons (fVar 0) (fCons (fVar 1) (fNil)))) (fLst (fNil))))
theorem body_is_moment (T : Top K mg) (F_released_at : FnD P w K mg base tt 1 "released_at" s_released_at pr_released_at sp_released_at) (F_due_at : FnD P w K mg base tt 2 "due_at" s_due_at pr_due_at sp_due_at) : ∀ f, Bdy P w K mg base tt 2 "is_moment" s_is_moment nm_is_moment f g_is_moment := fun f cdv A outer s0 H E hr hgd tk hp => (dss_one (ds_ret (d_or (d_cmp (op_neS hr.units) ne_ok (d_call F_released_at hgd (hr.mono (by decide)) tk (by rfl) (da_cons (d_var 0) (da_cons (d_var 1) da_nil))) (d_lst da_nil) (nomark _)) (d_one (d_cmp (op_neS hr.units) ne_ok (d_call F_due_at hgd (hr.mono (by decide)) tk (by rfl) (da_cons (d_var 0) (da_cons (d_var 1) da_nil))) (d_lst da_nil) (nomark _))))))
def g_check_time : PSt := sIf (tNot' (tB' (fCall sp_is_between (fCons (fVar 0) (fCons (fC (.int 0)) (fCons (fC c_MOST_TIME) (fNil))))))) (sNever) (sNil)
theorem body_check_time (T : Top K mg) (F_is_between : FnD P w K mg base tt 2 "is_between" s_is_between pr_is_between sp_is_between) : ∀ f, Bdy P w K mg base tt 2 "check_time" s_check_time nm_check_time f g_check_time := fun f cdv A outer s0 H E hr hgd tk hp => (dss_one (ds_if (dt_not (dt_val (d_call F_is_between hgd (hr.mono (by decide)) tk (by rfl) (da_cons (d_var 0) (da_cons d_int (da_cons (d_glob (by rfl) T.c_MOST_TIME) da_nil)))))) (dss_one ds_never) dss_nil))
def g__law_profile : PSt := sSeq (sSet 2 (fLst (fCons (fTup (fCons (fC (.str "")) (fCons (fBin addG (fC (.int 1)) (fCall sp__law_deal (fCons (fVar 0) (fCons (fC (.int 3)) (fNil))))) (fNil)))) (fNil)))) (sSeq (sFor (fRng1 (fCons (fCall sp__law_any (fCons (fVar 0) (fCons (fLst (fCons (fC (.int 0)) (fCons (fC (.int 0)) (fCons (fC (.int 1)) (fCons (fC (.int 2)) (fNil)))))) (fNil)))) (fNil))) (.nm 3) (sSet 2 (fBin addG (fVar 2) (fLst (fCons (fTup (fCons (fCall sp__law_any (fCons (fVar 0) (fCons (fLst (fCons (fC (.str "a")) (fCons (fC (.str "b")) (fNil)))) (fNil)))) (fCons (fBin addG (fC (.int 1)) (fCall sp__law_deal (fCons (fVar 0) (fCons (fC (.int 3)) (fNil))))) (fNil)))) (fCons (fTup (fCons (fC (.str "")) (fCons (fBin addG (fC (.int 1)) (fCall sp__law_deal (fCons (fVar 0) (fCons (fC (.int 2)) (fNil))))) (fNil)))) (fNil))))))) (sRet (fIf (tB' (fBin leG (fCB sumG (fCons (fLc (fItems (fVar 2)) (.tp [.nm 4, .nm 5]) (tYes') (fVar 5) [4, 5]) (fNil))) (fVar 1))) (fCB tupleG (fCons (fVar 2) (fNil))) (fTup (fCons (fTup (fCons (fC (.str "")) (fCons (fVar 1) (fNil)))) (fNil))))))
theorem body__law_profile (T : Top K mg) (F__law_deal : FnD P w K mg base tt 1 "_law_deal" s__law_deal pr__law_deal sp__law_deal) (F__law_any : FnD P w K mg base tt 2 "_law_any" s__law_any pr__law_any sp__law_any) : ∀ f, Bdy P w K mg base tt 2 "_law_profile" s__law_profile nm__law_profile f g__law_profile := fun f cdv A outer s0 H E hr hgd tk hp => (dss_cons (ds_set 2 sc__law_profile.nd rfl (by first | exact Or.inl rfl | exact Or.inr rfl) (d_lst (da_cons (d_tup (da_cons d_str (da_cons (d_op op_addA add_ok d_int (d_call F__law_deal hgd (hr.mono (by decide)) tk (by rfl) (da_cons (d_var 0) (da_cons d_int da_nil)))) da_nil))) da_nil))) (dss_cons (ds_for hp rfl (di_rng1 (by rfl) T.n_range (da_cons (d_call F__law_any hgd (hr.mono (by decide)) tk (by rfl) (da_cons (d_var 0) (da_cons (d_lst (da_cons d_int (da_cons d_int (da_cons d_int (da_cons d_int da_nil))))) da_nil))) da_nil)) (g_nm 3 sc__law_profile.nd rfl (by first | exact Or.inl rfl | exact Or.inr rfl)) (dss_one (ds_set 2 sc__law_profile.nd rfl (by first | exact Or.inl rfl | exact Or.inr rfl) (d_op op_addA add_ok (d_var 2) (d_lst (da_cons (d_tup (da_cons (d_call F__law_any hgd (hr.mono (by decide)) tk (by rfl) (da_cons (d_var 0) (da_cons (d_lst (da_cons d_str (da_cons d_str da_nil))) da_nil))) (da_cons (d_op op_addA add_ok d_int (d_call F__law_deal hgd (hr.mono (by decide)) tk (by rfl) (da_cons (d_var 0) (da_cons d_int da_nil)))) da_nil))) (da_cons (d_tup (da_cons d_str (da_cons (d_op op_addA add_ok d_int (d_call F__law_deal hgd (hr.mono (by decide)) tk (by rfl) (da_cons (d_var 0) (da_cons d_int da_nil)))) da_nil))) da_nil))))))) (dss_one (ds_ret (d_if (dt_cmp op_le le_ok (d_callB (cr_sum rfl) sum_ok (by rfl) T.n_sum (by decide +kernel) (da_cons (d_lc (own := [("lock", 4), ("cycles", 5)]) (t := .tp [.nm 4, .nm 5]) rfl sc__law_profile.nd (di_seq (d_var 2)) (blkOk_by (N := nm__law_profile) (sc := defScope s__law_profile) (by decide +kernel)) (fun _ _ _ _ _ => (g_tp rfl (gs_cons (g_nm 4 sc__law_profile.nd rfl (by first | exact Or.inl rfl | exact Or.inr rfl)) (gs_cons (g_nm 5 sc__law_profile.nd rfl (by first | exact Or.inl rfl | exact Or.inr rfl)) gs_nil)))) (fun _ _ _ _ _ => dts_nil) (fun _ _ _ _ _ => (d_var 5))) da_nil)) (d_var 1) (nomark _)) (d_callT call_tuple_of tuple_ok (by rfl) T.n_tuple (by decide +kernel) (da_cons (d_var 2) da_nil)) (d_tup (da_cons (d_tup (da_cons d_str (da_cons (d_var 1) da_nil))) da_nil)))))))
def g__law_times : PSt := sSeq (sParOw 1 2 (fCall sp__law_round (fCons (fBin ixG (fVar 0) (fC (.int 1))) (fNil))) (fCons (fC (.int 0)) (fNil))) (sSeq (sFor (fItems (fBin ixG (fVar 0) (fC (.int 1)))) (.tp [.nm 3, .nm 4, .nm 5]) (sFor (fRng1 (fCons (fVar 1) (fNil))) (.nm 6) (sIf (tOr' (tB' (fBin eqG (fBin modG (fCB toIntG (fCons (fBin subG (fVar 6) (fVar 3)) (fNil))) (fVar 4)) (fC (.int 0)))) (tB' (fBin eqG (fBin modG (fCB toIntG (fCons (fBin subG (fBin subG (fVar 6) (fVar 3)) (fVar 5)) (fNil))) (fVar 4)) (fC (.int 0))))) (sApp 2 (fVar 6)) (sNil)))) (sFrz 2 (sRet (fSortSet (fCons (fVar 2) (fNil))))))
theorem body__law_times (T : Top K mg) (F__law_round : FnD P w K mg base tt 2 "_law_round" s__law_round pr__law_round sp__law_round) : ∀ f, Bdy P w K mg base tt 2 "_law_times" s__law_times nm__law_times f g__law_times := fun f cdv A outer s0 H E hr hgd tk hp => (dss_cons (ds_parOw (i := 1) (j := 2) rfl sc__law_times.nd rfl rfl (by decide) rfl rfl (d_call F__law_round hgd (hr.mono (by decide)) tk (by rfl) (da_cons (d_ix ix_seq ix_ok (d_var 0) d_int (fun _ _ => rfl)) da_nil)) (da_cons d_int da_nil)) (dss_cons (ds_for hp rfl (di_seq (d_ix ix_seq ix_ok (d_var 0) d_int (fun _ _ => rfl))) (g_tp rfl (gs_cons (g_nm 3 sc__law_times.nd rfl (by first | exact Or.inl rfl | exact Or.inr rfl)) (gs_cons (g_nm 4 sc__law_times.nd rfl (by first | exact Or.inl rfl | exact Or.inr rfl)) (gs_cons (g_nm 5 sc__law_times.nd rfl (by first | exact Or.inl rfl | exact Or.inr rfl)) gs_nil)))) (dss_one (ds_for hp rfl (di_rng1 (by rfl) T.n_range (da_cons (d_var 1) da_nil)) (g_nm 6 sc__law_times.nd rfl (by first | exact Or.inl rfl | exact Or.inr rfl)) (dss_one (ds_if (dw_pt (dw_or (dt_cmp (op_eqS hr.units) eq_ok (d_op op_mod mod_ok (d_callT call_int1 toInt_ok (by rfl) T.n_int (by decide +kernel) (da_cons (d_op op_sub sub_ok (d_var 6) (d_var 3)) da_nil)) (d_var 4)) d_int (nomark _)) (dw_or1 (dt_cmp (op_eqS hr.units) eq_ok (d_op op_mod mod_ok (d_callT call_int1 toInt_ok (by rfl) T.n_int (by decide +kernel) (da_cons (d_op op_sub sub_ok (d_op op_sub sub_ok (d_var 6) (d_var 3)) (d_var 5)) da_nil)) (d_var 4)) d_int (nomark _))))) (dss_one (ds_app 2 rfl (by first | exact Or.inl rfl | exact Or.inr (Or.inl rfl) | exact Or.inr (Or.inr rfl)) (d_var 6))) dss_nil))))) (dss_one (ds_frz 2 (ds_ret (d_sortSet rfl (by rfl) T.n_sorted (by rfl) T.n_set (da_cons (d_var 2) da_nil)))))))
def g_is_profile_form : PSt := sSeq (sIf (tOr' (tNot' (tB' (fCall sp_is_short_tuple (fCons (fVar 0) (fCons (fC (.int 1)) (fCons (fC c_MOST_STRETCHES) (fNil))))))) (tNot' (tB' (fCB allG (fCons (fLc (fItems (fVar 0)) (.nm 1) (tYes') (fCall sp_is_stretch (fCons (fVar 1) (fCons (fC c_MOST_IN_STRETCH) (fNil)))) [1]) (fNil)))))) (sRet (fC (.bl false))) (sNil)) (sSeq (sIf (tOr' (tB' (fBin neG (fBin ixG (fBin ixG (fVar 0) (fC (.int 0))) (fC (.int 0))) (fC c_OUTSIDE))) (tOr' (tB' (fBin neG (fBin ixG (fBin ixG (fVar 0) (fNeg (fC (.int 1)))) (fC (.int 0))) (fC c_OUTSIDE))) (tB' (fBin gtG (fCall sp_cycles_in (fCons (fVar 0) (fNil))) (fC c_MOST_TOGETHER))))) (sRet (fC (.bl false))) (sNil)) (sRet (fCB allG (fCons (fLc (fZip (fCons (fVar 0) (fCons (fSl (fVar 0) (fPart (fC (.int 1))) (fNo)) (fNil)))) (.tp [.nm 2, .nm 3]) (tYes') (fBin neG (fBin ixG (fVar 2) (fC (.int 0))) (fBin ixG (fVar 3) (fC (.int 0)))) [2, 3]) (fNil)))))
theorem body_is_profile_form (T : Top K mg) (F_is_short_tuple : FnD P w K mg base tt 1 "is_short_tuple" s_is_short_tuple pr_is_short_tuple sp_is_short_tuple) (F_is_stretch : FnD P w K mg base tt 3 "is_stretch" s_is_stretch pr_is_stretch sp_is_stretch) (F_cycles_in : FnD P w K mg base tt 1 "cycles_in" s_cycles_in pr_cycles_in sp_cycles_in) : ∀ f, Bdy P w K mg base tt 3 "is_profile_form" s_is_profile_form nm_is_profile_form f g_is_profile_form := fun f cdv A outer s0 H E hr hgd tk hp => (dss_cons (ds_if (dw_pt (dw_or (dt_not (dt_val (d_call F_is_short_tuple hgd (hr.mono (by decide)) tk (by rfl) (da_cons (d_var 0) (da_cons d_int (da_cons (d_glob (by rfl) T.c_MOST_STRETCHES) da_nil)))))) (dw_or1 (dt_not (dt_val (d_callB (cr_all rfl) all_ok (by rfl) T.n_all (by decide +kernel) (da_cons (d_lc (own := [("each", 1)]) (t := .nm 1) rfl sc_is_profile_form.nd (di_seq (d_var 0)) (blkOk_by (N := nm_is_profile_form) (sc := defScope s_is_profile_form) (by decide +kernel)) (fun _ _ _ _ _ => (g_nm 1 sc_is_profile_form.nd rfl (by first | exact Or.inl rfl | exact Or.inr rfl))) (fun _ _ _ _ _ => dts_nil) (fun _ _ _ _ _ => (d_call F_is_stretch hgd (hr.mono (by decide)) takes0 (by rfl) (da_cons (d_var 1) (da_cons (d_glob (by rfl) T.c_MOST_IN_STRETCH) da_nil))))) da_nil))))))) (dss_one (ds_ret d_bl)) dss_nil) (dss_cons (ds_if (dw_pt (dw_or (dt_cmp (op_neS hr.units) ne_ok (d_ix ix_seq ix_ok (d_ix ix_seq ix_ok (d_var 0) d_int (fun _ _ => rfl)) d_int (fun _ _ => rfl)) (d_glob (by rfl) T.c_OUTSIDE) (nomark _)) (dw_or (dt_cmp (op_neS hr.units) ne_ok (d_ix ix_seq ix_ok (d_ix ix_seq ix_ok (d_var 0) (d_neg d_int) (fun _ _ => rfl)) d_int (fun _ _ => rfl)) (d_glob (by rfl) T.c_OUTSIDE) (nomark _)) (dw_or1 (dt_cmp op_gt gt_ok (d_call F_cycles_in hgd (hr.mono (by decide)) tk (by rfl) (da_cons (d_var 0) da_nil)) (d_glob (by rfl) T.c_MOST_TOGETHER) (nomark _)))))) (dss_one (ds_ret d_bl)) dss_nil) (dss_one (ds_ret (d_callB (cr_all rfl) all_ok (by rfl) T.n_all (by decide +kernel) (da_cons (d_lc (own := [("one", 2), ("two", 3)]) (t := .tp [.nm 2, .nm 3]) rfl sc_is_profile_form.nd (di_zip (by rfl) T.n_zip (da_cons (d_var 0) (da_cons (d_slice (d_var 0) (dp_some d_int) dp_none) da_nil))) (blkOk_by (N := nm_is_profile_form) (sc := defScope s_is_profile_form) (by decide +kernel)) (fun _ _ _ _ _ => (g_tp rfl (gs_cons (g_nm 2 sc_is_profile_form.nd rfl (by first | exact Or.inl rfl | exact Or.inr rfl)) (gs_cons (g_nm 3 sc_is_profile_form.nd rfl (by first | exact Or.inl rfl | exact Or.inr rfl)) gs_nil)))) (fun _ _ _ _ _ => dts_nil) (fun _ _ _ _ _ => (d_cmp (op_neS hr.units) ne_ok (d_ix ix_seq ix_ok (d_var 2) d_int (fun _ _ => rfl)) (d_ix ix_seq ix_ok (d_var 3) d_int (fun _ _ => rfl)) (nomark _)))) da_nil))))))
def g_is_plan_form : PSt := sSeq (sIf (tOr' (tNot' (tB' (fCall sp_is_tuple_of (fCons (fVar 0) (fCons (fC (.int 2)) (fNil)))))) (tOr' (tNot' (tB' (fCall sp_are_costs (fCons (fBin ixG (fVar 0) (fC (.int 0))) (fNil))))) (tNot' (tB' (fCall sp_is_short_tuple (fCons (fBin ixG (fVar 0) (fC (.int 1))) (fCons (fC (.int 1)) (fCons (fC c_MOST_TASKS) (fNil))))))))) (sRet (fC (.bl false))) (sNil)) (sRet (fAnd (fCB allG (fCons (fLc (fItems (fBin ixG (fVar 0) (fC (.int 1)))) (.nm 1) (tYes') (fCall sp_is_row (fCons (fVar 1) (fNil))) [1]) (fNil))) (fBin leG (fCall sp_round_by (fCons (fBin ixG (fVar 0) (fC (.int 1))) (fNil))) (fC c_MOST_ROUND))))
theorem body_is_plan_form (T : Top K mg) (F_is_tuple_of : FnD P w K mg base tt 1 "is_tuple_of" s_is_tuple_of pr_is_tuple_of sp_is_tuple_of) (F_are_costs : FnD P w K mg base tt 3 "are_costs" s_are_costs pr_are_costs sp_are_costs) (F_is_short_tuple : FnD P w K mg base tt 1 "is_short_tuple" s_is_short_tuple pr_is_short_tuple sp_is_short_tuple) (F_is_row : FnD P w K mg base tt 3 "is_row" s_is_row pr_is_row sp_is_row) (F_round_by : FnD P w K mg base tt 2 "round_by" s_round_by pr_round_by sp_round_by) : ∀ f, Bdy P w K mg base tt 3 "is_plan_form" s_is_plan_form nm_is_plan_form f g_is_plan_form := fun f cdv A outer s0 H E hr hgd tk hp => (dss_cons (ds_if (dw_pt (dw_or (dt_not (dt_val (d_call F_is_tuple_of hgd (hr.mono (by decide)) tk (by rfl) (da_cons (d_var 0) (da_cons d_int da_nil))))) (dw_or (dt_not (dt_val (d_call F_are_costs hgd (hr.mono (by decide)) tk (by rfl) (da_cons (d_ix ix_seq ix_ok (d_var 0) d_int (fun _ _ => rfl)) da_nil)))) (dw_or1 (dt_not (dt_val (d_call F_is_short_tuple hgd (hr.mono (by decide)) tk (by rfl) (da_cons (d_ix ix_seq ix_ok (d_var 0) d_int (fun _ _ => rfl)) (da_cons d_int (da_cons (d_glob (by rfl) T.c_MOST_TASKS) da_nil)))))))))) (dss_one (ds_ret d_bl)) dss_nil) (dss_one (ds_ret (d_and (d_callB (cr_all rfl) all_ok (by rfl) T.n_all (by decide +kernel) (da_cons (d_lc (own := [("each", 1)]) (t := .nm 1) rfl sc_is_plan_form.nd (di_seq (d_ix ix_seq ix_ok (d_var 0) d_int (fun _ _ => rfl))) (blkOk_by (N := nm_is_plan_form) (sc := defScope s_is_plan_form) (by decide +kernel)) (fun _ _ _ _ _ => (g_nm 1 sc_is_plan_form.nd rfl (by first | exact Or.inl rfl | exact Or.inr rfl))) (fun _ _ _ _ _ => dts_nil) (fun _ _ _ _ _ => (d_call F_is_row hgd (hr.mono (by decide)) takes0 (by rfl) (da_cons (d_var 1) da_nil)))) da_nil)) (d_one (d_cmp op_le le_ok (d_call F_round_by hgd (hr.mono (by decide)) tk (by rfl) (da_cons (d_ix ix_seq ix_ok (d_var 0) d_int (fun _ _ => rfl)) da_nil)) (d_glob (by rfl) T.c_MOST_ROUND) (nomark _)))))))
def g_times_by : PSt := sSeq (sSet 1 (fCall sp_round_by (fCons (fVar 0) (fNil)))) (sRet (fCB tupleG (fCons (fLc (fRng1 (fCons (fVar 1) (fNil))) (.nm 2) (tOr' (tB' (fBin eqG (fVar 2) (fC (.int 0)))) (tB' (fCall sp_is_moment (fCons (fVar 0) (fCons (fBin addG (fVar 2) (fBin mulG (fC (.int 2)) (fVar 1))) (fNil)))))) (fVar 2) [2]) (fNil))))
theorem body_times_by (T : Top K mg) (F_round_by : FnD P w K mg base tt 2 "round_by" s_round_by pr_round_by sp_round_by) (F_is_moment : FnD P w K mg base tt 3 "is_moment" s_is_moment pr_is_moment sp_is_moment) : ∀ f, Bdy P w K mg base tt 3 "times_by" s_times_by nm_times_by f g_times_by := fun f cdv A outer s0 H E hr hgd tk hp => (dss_cons (ds_set 1 sc_times_by.nd rfl (by first | exact Or.inl rfl | exact Or.inr rfl) (d_call F_round_by hgd (hr.mono (by decide)) tk (by rfl) (da_cons (d_var 0) da_nil))) (dss_one (ds_ret (d_callT call_tuple_of tuple_ok (by rfl) T.n_tuple (by decide +kernel) (da_cons (d_lc (own := [("time", 2)]) (t := .nm 2) rfl sc_times_by.nd (di_rng1 (by rfl) T.n_range (da_cons (d_var 1) da_nil)) (blkOk_by (N := nm_times_by) (sc := defScope s_times_by) (by decide +kernel)) (fun _ _ _ _ _ => (g_nm 2 sc_times_by.nd rfl (by first | exact Or.inl rfl | exact Or.inr rfl))) (fun _ _ _ _ _ => (dts_one (dw_pt (dw_or (dt_cmp (op_eqS hr.units) eq_ok (d_var 2) d_int (nomark _)) (dw_or1 (dt_val (d_call F_is_moment hgd (hr.mono (by decide)) takes0 (by rfl) (da_cons (d_var 0) (da_cons (d_op op_addA add_ok (d_var 2) (d_op op_mul mul_ok d_int (d_var 1))) da_nil))))))))) (fun _ _ _ _ _ => (d_var 2))) da_nil)))))
def g__law_in_order : PSt := sSeq (sSet 1 (fLst (fNil))) (sSeq (sFor (fItems (fVar 0)) (.nm 2) (sSet 1 (fBin addG (fVar 1) (fIf (tB' (fBin (inDG true) (fVar 2) (fVar 1))) (fLst (fCons (fVar 2) (fNil))) (fLst (fNil)))))) (sRet (fCB tupleG (fCons (fSortL ln__law_in_order_0 (fTup (fCons (fBin subG (fC (.int 0)) (fCB sumG (fCons (fLc (fItems (fVar 0)) (.tp [.nm 1, .nm 2]) (tYes') (fVar 2) [1, 2]) (fNil)))) (fCons (fVar 0) (fNil)))) (fVar 1)) (fNil)))))
theorem body__law_in_order (T : Top K mg) : ∀ f, BdyL P w K mg base tt 3 "_law_in_order" s__law_in_order nm__law_in_order f "_law_in_order.<locals>.<lambda>" g__law_in_order := fun f cdv A outer s0 H E hr hgd tk hp hl => match hl with | ⟨c, P, hl1, hl2, hl3, hl4⟩ => (dss_cons (ds_set 1 sc__law_in_order.nd rfl (by first | exact Or.inl rfl | exact Or.inr rfl) (d_lst da_nil)) (dss_cons (ds_for hp rfl (di_seq (d_var 0)) (g_nm 2 sc__law_in_order.nd rfl (by first | exact Or.inl rfl | exact Or.inr rfl)) (dss_one (ds_set 1 sc__law_in_order.nd rfl (by first | exact Or.inl rfl | exact Or.inr rfl) (d_op op_addA add_ok (d_var 1) (d_if (dt_cmp (op_notInD (u65 hr)) niD_ok (d_var 2) (d_var 1) rfl) (d_lst (da_cons (d_var 2) da_nil)) (d_lst da_nil)))))) (dss_one (ds_ret (d_callT call_tuple_of tuple_ok (by rfl) T.n_tuple (by decide +kernel) (da_cons (d_sortL (N := ln__law_in_order_0) (k := 0) (pn := "own") (by rfl) T.n_sorted (d_var 1) (lm_mk hl1 hl2 hl3 hl4 (by rfl) (fun y hy e => absurd e (lsc__law_in_order_0.nofree y hy))) lsc__law_in_order_0 hgd (hr.mono (by decide)) (fun _ _ _ _ => rfl) (fun f c' A outer s H E hgd hr tk => (d_tup (da_cons (d_op op_sub sub_ok d_int (d_callB (cr_sum rfl) sum_ok (by rfl) T.n_sum (by decide +kernel) (da_cons (d_lc (own := [("lock", 1), ("cycles", 2)]) (t := .tp [.nm 1, .nm 2]) rfl lsc__law_in_order_0.nd (di_seq (d_var 0)) (blkOk_by (N := ln__law_in_order_0) (sc := ls__law_in_order_0) (by decide +kernel)) (fun _ _ _ _ _ => (g_tp rfl (gs_cons (g_nm 1 lsc__law_in_order_0.nd rfl (by first | exact Or.inl rfl | exact Or.inr rfl)) (gs_cons (g_nm 2 lsc__law_in_order_0.nd rfl (by first | exact Or.inl rfl | exact Or.inr rfl)) gs_nil)))) (fun _ _ _ _ _ => dts_nil) (fun _ _ _ _ _ => (d_var 2))) da_nil))) (da_cons (d_var 0) da_nil))))) da_nil))))))
def g_are_profiles_of_task : PSt := sSeq (sIf (tOr' (tNot' (tB' (fCall sp_is_short_tuple (fCons (fVar 0) (fCons (fC (.int 1)) (fCons (fC c_MOST_PROFILES) (fNil))))))) (tNot' (tB' (fCB allG (fCons (fLc (fItems (fVar 0)) (.nm 1) (tYes') (fCall sp_is_profile_form (fCons (fVar 1) (fNil))) [1]) (fNil)))))) (sRet (fC (.bl false))) (sNil)) (sRet (fCall sp_is_rising_strictly (fCons (fLc (fItems (fVar 0)) (.nm 1) (tYes') (fCall sp_order_of (fCons (fVar 1) (fNil))) [1]) (fNil))))
theorem body_are_profiles_of_task (T : Top K mg) (F_is_short_tuple : FnD P w K mg base tt 1 "is_short_tuple" s_is_short_tuple pr_is_short_tuple sp_is_short_tuple) (F_is_profile_form : FnD P w K mg base tt 4 "is_profile_form" s_is_profile_form pr_is_profile_form sp_is_profile_form) (F_is_rising_strictly : FnD P w K mg base tt 1 "is_rising_strictly" s_is_rising_strictly pr_is_rising_strictly sp_is_rising_strictly) (F_order_of : FnD P w K mg base tt 2 "order_of" s_order_of pr_order_of sp_order_of) : ∀ f, Bdy P w K mg base tt 4 "are_profiles_of_task" s_are_profiles_of_task nm_are_profiles_of_task f g_are_profiles_of_task := fun f cdv A outer s0 H E hr hgd tk hp => (dss_cons (ds_if (dw_pt (dw_or (dt_not (dt_val (d_call F_is_short_tuple hgd (hr.mono (by decide)) tk (by rfl) (da_cons (d_var 0) (da_cons d_int (da_cons (d_glob (by rfl) T.c_MOST_PROFILES) da_nil)))))) (dw_or1 (dt_not (dt_val (d_callB (cr_all rfl) all_ok (by rfl) T.n_all (by decide +kernel) (da_cons (d_lc (own := [("each", 1)]) (t := .nm 1) rfl sc_are_profiles_of_task.nd (di_seq (d_var 0)) (blkOk_by (N := nm_are_profiles_of_task) (sc := defScope s_are_profiles_of_task) (by decide +kernel)) (fun _ _ _ _ _ => (g_nm 1 sc_are_profiles_of_task.nd rfl (by first | exact Or.inl rfl | exact Or.inr rfl))) (fun _ _ _ _ _ => dts_nil) (fun _ _ _ _ _ => (d_call F_is_profile_form hgd (hr.mono (by decide)) takes0 (by rfl) (da_cons (d_var 1) da_nil)))) da_nil))))))) (dss_one (ds_ret d_bl)) dss_nil) (dss_one (ds_ret (d_call F_is_rising_strictly hgd (hr.mono (by decide)) tk (by rfl) (da_cons (d_lc (own := [("each", 1)]) (t := .nm 1) rfl sc_are_profiles_of_task.nd (di_seq (d_var 0)) (blkOk_by (N := nm_are_profiles_of_task) (sc := defScope s_are_profiles_of_task) (by decide +kernel)) (fun _ _ _ _ _ => (g_nm 1 sc_are_profiles_of_task.nd rfl (by first | exact Or.inl rfl | exact Or.inr rfl))) (fun _ _ _ _ _ => dts_nil) (fun _ _ _ _ _ => (d_call F_order_of hgd (hr.mono (by decide)) takes0 (by rfl) (da_cons (d_var 1) da_nil)))) da_nil)))))
def g_check_plan : PSt := sIf (tNot' (tB' (fCall sp_is_plan_form (fCons (fVar 0) (fNil))))) (sNever) (sNil)
theorem body_check_plan (T : Top K mg) (F_is_plan_form : FnD P w K mg base tt 4 "is_plan_form" s_is_plan_form pr_is_plan_form sp_is_plan_form) : ∀ f, Bdy P w K mg base tt 4 "check_plan" s_check_plan nm_check_plan f g_check_plan := fun f cdv A outer s0 H E hr hgd tk hp => (dss_one (ds_if (dt_not (dt_val (d_call F_is_plan_form hgd (hr.mono (by decide)) tk (by rfl) (da_cons (d_var 0) da_nil)))) (dss_one ds_never) dss_nil))
def g_is_plan : PSt := sRet (fCall sp_is_plan_form (fCons (fVar 0) (fNil)))
theorem body_is_plan (T : Top K mg) (F_is_plan_form : FnD P w K mg base tt 4 "is_plan_form" s_is_plan_form pr_is_plan_form sp_is_plan_form) : ∀ f, Bdy P w K mg base tt 4 "is_plan" s_is_plan nm_is_plan f g_is_plan := fun f cdv A outer s0 H E hr hgd tk hp => (dss_one (ds_ret (d_call F_is_plan_form hgd (hr.mono (by decide)) tk (by rfl) (da_cons (d_var 0) da_nil))))
def g__law_house : PSt := sSeq (sPar3 2 3 4 (fCons (fTup (fNil)) (fCons (fTup (fNil)) (fCons (fCall sp__law_any (fCons (fVar 0) (fCons (fLst (fCons (fC (.int 12)) (fCons (fC (.int 16)) (fCons (fC (.int 24)) (fNil))))) (fNil)))) (fNil))))) (sSeq (sFor (fRng1 (fCons (fVar 1) (fNil))) (.nm 5) (sSeq (sSet 6 (fCall sp__law_any (fCons (fVar 0) (fCons (fLst (fCons (fVar 4) (fCons (fVar 4) (fCons (fBin mulG (fC (.int 2)) (fVar 4)) (fCons (fBin fdivG (fVar 4) (fC (.int 2))) (fNil)))))) (fNil))))) (sSeq (sSet 7 (fCB maxG (fCons (fC (.int 4)) (fCons (fBin subG (fVar 6) (fCall sp__law_deal (fCons (fVar 0) (fCons (fBin fdivG (fVar 6) (fC (.int 2))) (fNil))))) (fNil))))) (sSeq (sSet 2 (fBin addG (fVar 2) (fTup (fCons (fTup (fCons (fCall sp__law_deal (fCons (fVar 0) (fCons (fCB minG (fCons (fVar 6) (fCons (fC (.int 6)) (fNil)))) (fNil)))) (fCons (fVar 6) (fCons (fVar 7) (fNil))))) (fNil))))) (sSeq (sSet 8 (fCB maxG (fCons (fC (.int 2)) (fCons (fBin fdivG (fVar 6) (fBin addG (fVar 1) (fC (.int 1)))) (fNil))))) (sSet 3 (fBin addG (fVar 3) (fTup (fCons (fCall sp__law_in_order (fCons (fLc (fRng1 (fCons (fBin addG (fC (.int 1)) (fCall sp__law_deal (fCons (fVar 0) (fCons (fC (.int 3)) (fNil))))) (fNil))) (.nm 9) (tYes') (fCall sp__law_profile (fCons (fVar 0) (fCons (fVar 8) (fNil)))) [9]) (fNil))) (fNil)))))))))) (sRet (fTup (fCons (fTup (fCons (fTup (fCons (fCall sp__law_any (fCons (fVar 0) (fCons (fLst (fCons (fC (.int 0)) (fCons (fC (.int 0)) (fCons (fC (.int 1)) (fNil))))) (fNil)))) (fCons (fCall sp__law_any (fCons (fVar 0) (fCons (fLst (fCons (fC (.int 0)) (fCons (fC (.int 1)) (fCons (fC (.int 1)) (fCons (fC (.int 2)) (fNil)))))) (fNil)))) (fNil)))) (fCons (fVar 2) (fNil)))) (fCons (fVar 3) (fNil))))))
theorem body__law_house (T : Top K mg) (F__law_any : FnD P w K mg base tt 2 "_law_any" s__law_any pr__law_any sp__law_any) (F__law_deal : FnD P w K mg base tt 1 "_law_deal" s__law_deal pr__law_deal sp__law_deal) (F__law_in_order : FnD P w K mg base tt 4 "_law_in_order" s__law_in_order pr__law_in_order sp__law_in_order) (F__law_profile : FnD P w K mg base tt 3 "_law_profile" s__law_profile pr__law_profile sp__law_profile) : ∀ f, Bdy P w K mg base tt 4 "_law_house" s__law_house nm__law_house f g__law_house := fun f cdv A outer s0 H E hr hgd tk hp => (dss_cons (ds_par3 (i := 2) (j := 3) (l := 4) rfl sc__law_house.nd rfl rfl rfl (by decide) (by decide) (by decide) rfl rfl rfl (da_cons (d_tup da_nil) (da_cons (d_tup da_nil) (da_cons (d_call F__law_any hgd (hr.mono (by decide)) tk (by rfl) (da_cons (d_var 0) (da_cons (d_lst (da_cons d_int (da_cons d_int (da_cons d_int da_nil)))) da_nil))) da_nil)))) (dss_cons (ds_for hp rfl (di_rng1 (by rfl) T.n_range (da_cons (d_var 1) da_nil)) (g_nm 5 sc__law_house.nd rfl (by first | exact Or.inl rfl | exact Or.inr rfl)) (dss_cons (ds_set 6 sc__law_house.nd rfl (by first | exact Or.inl rfl | exact Or.inr rfl) (d_call F__law_any hgd (hr.mono (by decide)) tk (by rfl) (da_cons (d_var 0) (da_cons (d_lst (da_cons (d_var 4) (da_cons (d_var 4) (da_cons (d_op op_mul mul_ok d_int (d_var 4)) (da_cons (d_op op_fdiv fdiv_ok (d_var 4) d_int) da_nil))))) da_nil)))) (dss_cons (ds_set 7 sc__law_house.nd rfl (by first | exact Or.inl rfl | exact Or.inr rfl) (d_callB (call_max2 rfl) int2_ok (by rfl) T.n_max (by decide +kernel) (da_cons d_int (da_cons (d_op op_sub sub_ok (d_var 6) (d_call F__law_deal hgd (hr.mono (by decide)) tk (by rfl) (da_cons (d_var 0) (da_cons (d_op op_fdiv fdiv_ok (d_var 6) d_int) da_nil)))) da_nil)))) (dss_cons (ds_set 2 sc__law_house.nd rfl (by first | exact Or.inl rfl | exact Or.inr rfl) (d_op op_addA add_ok (d_var 2) (d_tup (da_cons (d_tup (da_cons (d_call F__law_deal hgd (hr.mono (by decide)) tk (by rfl) (da_cons (d_var 0) (da_cons (d_callB (call_min2 rfl) int2_ok (by rfl) T.n_min (by decide +kernel) (da_cons (d_var 6) (da_cons d_int da_nil))) da_nil))) (da_cons (d_var 6) (da_cons (d_var 7) da_nil)))) da_nil)))) (dss_cons (ds_set 8 sc__law_house.nd rfl (by first | exact Or.inl rfl | exact Or.inr rfl) (d_callB (call_max2 rfl) int2_ok (by rfl) T.n_max (by decide +kernel) (da_cons d_int (da_cons (d_op op_fdiv fdiv_ok (d_var 6) (d_op op_addA add_ok (d_var 1) d_int)) da_nil)))) (dss_one (ds_set 3 sc__law_house.nd rfl (by first | exact Or.inl rfl | exact Or.inr rfl) (d_op op_addA add_ok (d_var 3) (d_tup (da_cons (d_call F__law_in_order hgd (hr.mono (by decide)) tk (by rfl) (da_cons (d_lc (own := [("lap", 9)]) (t := .nm 9) rfl sc__law_house.nd (di_rng1 (by rfl) T.n_range (da_cons (d_op op_addA add_ok d_int (d_call F__law_deal hgd (hr.mono (by decide)) tk (by rfl) (da_cons (d_var 0) (da_cons d_int da_nil)))) da_nil)) (blkOk_by (N := nm__law_house) (sc := defScope s__law_house) (by decide +kernel)) (fun _ _ _ _ _ => (g_nm 9 sc__law_house.nd rfl (by first | exact Or.inl rfl | exact Or.inr rfl))) (fun _ _ _ _ _ => dts_nil) (fun _ _ _ _ _ => (d_call F__law_profile hgd (hr.mono (by decide)) takes0 (by rfl) (da_cons (d_var 0) (da_cons (d_var 8) da_nil))))) da_nil)) da_nil)))))))))) (dss_one (ds_ret (d_tup (da_cons (d_tup (da_cons (d_tup (da_cons (d_call F__law_any hgd (hr.mono (by decide)) tk (by rfl) (da_cons (d_var 0) (da_cons (d_lst (da_cons d_int (da_cons d_int (da_cons d_int da_nil)))) da_nil))) (da_cons (d_call F__law_any hgd (hr.mono (by decide)) tk (by rfl) (da_cons (d_var 0) (da_cons (d_lst (da_cons d_int (da_cons d_int (da_cons d_int (da_cons d_int da_nil))))) da_nil))) da_nil))) (da_cons (d_var 2) da_nil))) (da_cons (d_var 3) da_nil)))))))
def g_are_profiles_form : PSt := sRet (fAnd (fCall sp_is_tuple_of (fCons (fVar 1) (fCons (fCB lenG (fCons (fBin ixG (fVar 0) (fC (.int 1))) (fNil))) (fNil)))) (fCB allG (fCons (fLc (fItems (fVar 1)) (.nm 2) (tYes') (fCall sp_are_profiles_of_task (fCons (fVar 2) (fNil))) [2]) (fNil))))
theorem body_are_profiles_form (T : Top K mg) (F_is_tuple_of : FnD P w K mg base tt 1 "is_tuple_of" s_is_tuple_of pr_is_tuple_of sp_is_tuple_of) (F_are_profiles_of_task : FnD P w K mg base tt 5 "are_profiles_of_task" s_are_profiles_of_task pr_are_profiles_of_task sp_are_profiles_of_task) : ∀ f, Bdy P w K mg base tt 5 "are_profiles_form" s_are_profiles_form nm_are_profiles_form f g_are_profiles_form := fun f cdv A outer s0 H E hr hgd tk hp => (dss_one (ds_ret (d_and (d_call F_is_tuple_of hgd (hr.mono (by decide)) tk (by rfl) (da_cons (d_var 1) (da_cons (d_callB c_len len_ok (by rfl) T.n_len (by decide +kernel) (da_cons (d_ix ix_seq ix_ok (d_var 0) d_int (fun _ _ => rfl)) da_nil)) da_nil))) (d_one (d_callB (cr_all rfl) all_ok (by rfl) T.n_all (by decide +kernel) (da_cons (d_lc (own := [("each", 2)]) (t := .nm 2) rfl sc_are_profiles_form.nd (di_seq (d_var 1)) (blkOk_by (N := nm_are_profiles_form) (sc := defScope s_are_profiles_form) (by decide +kernel)) (fun _ _ _ _ _ => (g_nm 2 sc_are_profiles_form.nd rfl (by first | exact Or.inl rfl | exact Or.inr rfl))) (fun _ _ _ _ _ => dts_nil) (fun _ _ _ _ _ => (d_call F_are_profiles_of_task hgd (hr.mono (by decide)) takes0 (by rfl) (da_cons (d_var 2) da_nil)))) da_nil))))))
def g_round_of : PSt := sSeq (sDrop (fCall sp_check_plan (fCons (fVar 0) (fNil)))) (sRet (fCall sp_round_by (fCons (fBin ixG (fVar 0) (fC (.int 1))) (fNil))))
theorem body_round_of (T : Top K mg) (F_check_plan : FnD P w K mg base tt 5 "check_plan" s_check_plan pr_check_plan sp_check_plan) (F_round_by : FnD P w K mg base tt 2 "round_by" s_round_by pr_round_by sp_round_by) : ∀ f, Bdy P w K mg base tt 5 "round_of" s_round_of nm_round_of f g_round_of := fun f cdv A outer s0 H E hr hgd tk hp => (dss_cons (ds_expr (d_call F_check_plan hgd (hr.mono (by decide)) tk (by rfl) (da_cons (d_var 0) da_nil))) (dss_one (ds_ret (d_call F_round_by hgd (hr.mono (by decide)) tk (by rfl) (da_cons (d_ix ix_seq ix_ok (d_var 0) d_int (fun _ _ => rfl)) da_nil)))))
def g_times : PSt := sSeq (sDrop (fCall sp_check_plan (fCons (fVar 0) (fNil)))) (sRet (fCall sp_times_by (fCons (fBin ixG (fVar 0) (fC (.int 1))) (fNil))))
theorem body_times (T : Top K mg) (F_check_plan : FnD P w K mg base tt 5 "check_plan" s_check_plan pr_check_plan sp_check_plan) (F_times_by : FnD P w K mg base tt 4 "times_by" s_times_by pr_times_by sp_times_by) : ∀ f, Bdy P w K mg base tt 5 "times" s_times nm_times f g_times := fun f cdv A outer s0 H E hr hgd tk hp => (dss_cons (ds_expr (d_call F_check_plan hgd (hr.mono (by decide)) tk (by rfl) (da_cons (d_var 0) da_nil))) (dss_one (ds_ret (d_call F_times_by hgd (hr.mono (by decide)) tk (by rfl) (da_cons (d_ix ix_seq ix_ok (d_var 0) d_int (fun _ _ => rfl)) da_nil)))))
def g_releases : PSt := sSeq (sDrop (fCall sp_check_plan (fCons (fVar 0) (fNil)))) (sSeq (sDrop (fCall sp_check_time (fCons (fVar 1) (fNil)))) (sRet (fCB tupleG (fCons (fCall sp_released_at (fCons (fBin ixG (fVar 0) (fC (.int 1))) (fCons (fVar 1) (fNil)))) (fNil)))))
theorem body_releases (T : Top K mg) (F_check_plan : FnD P w K mg base tt 5 "check_plan" s_check_plan pr_check_plan sp_check_plan) (F_check_time : FnD P w K mg base tt 3 "check_time" s_check_time pr_check_time sp_check_time) (F_released_at : FnD P w K mg base tt 1 "released_at" s_released_at pr_released_at sp_released_at) : ∀ f, Bdy P w K mg base tt 5 "releases" s_releases nm_releases f g_releases := fun f cdv A outer s0 H E hr hgd tk hp => (dss_cons (ds_expr (d_call F_check_plan hgd (hr.mono (by decide)) tk (by rfl) (da_cons (d_var 0) da_nil))) (dss_cons (ds_expr (d_call F_check_time hgd (hr.mono (by decide)) tk (by rfl) (da_cons (d_var 1) da_nil))) (dss_one (ds_ret (d_callT call_tuple_of tuple_ok (by rfl) T.n_tuple (by decide +kernel) (da_cons (d_call F_released_at hgd (hr.mono (by decide)) tk (by rfl) (da_cons (d_ix ix_seq ix_ok (d_var 0) d_int (fun _ _ => rfl)) (da_cons (d_var 1) da_nil))) da_nil))))))
def g_dues : PSt := sSeq (sDrop (fCall sp_check_plan (fCons (fVar 0) (fNil)))) (sSeq (sDrop (fCall sp_check_time (fCons (fVar 1) (fNil)))) (sRet (fCB tupleG (fCons (fCall sp_due_at (fCons (fBin ixG (fVar 0) (fC (.int 1))) (fCons (fVar 1) (fNil)))) (fNil)))))
theorem body_dues (T : Top K mg) (F_check_plan : FnD P w K mg base tt 5 "check_plan" s_check_plan pr_check_plan sp_check_plan) (F_check_time : FnD P w K mg base tt 3 "check_time" s_check_time pr_check_time sp_check_time) (F_due_at : FnD P w K mg base tt 2 "due_at" s_due_at pr_due_at sp_due_at) : ∀ f, Bdy P w K mg base tt 5 "dues" s_dues nm_dues f g_dues := fun f cdv A outer s0 H E hr hgd tk hp => (dss_cons (ds_expr (d_call F_check_plan hgd (hr.mono (by decide)) tk (by rfl) (da_cons (d_var 0) da_nil))) (dss_cons (ds_expr (d_call F_check_time hgd (hr.mono (by decide)) tk (by rfl) (da_cons (d_var 1) da_nil))) (dss_one (ds_ret (d_callT call_tuple_of tuple_ok (by rfl) T.n_tuple (by decide +kernel) (da_cons (d_call F_due_at hgd (hr.mono (by decide)) tk (by rfl) (da_cons (d_ix ix_seq ix_ok (d_var 0) d_int (fun _ _ => rfl)) (da_cons (d_var 1) da_nil))) da_nil))))))
def g_jobs_ahead : PSt := sSeq (sDrop (fCall sp_check_plan (fCons (fVar 0) (fNil)))) (sSeq (sDrop (fCall sp_check_time (fCons (fVar 1) (fNil)))) (sRet (fCB tupleG (fCons (fCall sp_jobs_before (fCons (fBin ixG (fVar 0) (fC (.int 1))) (fCons (fVar 1) (fNil)))) (fNil)))))
theorem body_jobs_ahead (T : Top K mg) (F_check_plan : FnD P w K mg base tt 5 "check_plan" s_check_plan pr_check_plan sp_check_plan) (F_check_time : FnD P w K mg base tt 3 "check_time" s_check_time pr_check_time sp_check_time) (F_jobs_before : FnD P w K mg base tt 2 "jobs_before" s_jobs_before pr_jobs_before sp_jobs_before) : ∀ f, Bdy P w K mg base tt 5 "jobs_ahead" s_jobs_ahead nm_jobs_ahead f g_jobs_ahead := fun f cdv A outer s0 H E hr hgd tk hp => (dss_cons (ds_expr (d_call F_check_plan hgd (hr.mono (by decide)) tk (by rfl) (da_cons (d_var 0) da_nil))) (dss_cons (ds_expr (d_call F_check_time hgd (hr.mono (by decide)) tk (by rfl) (da_cons (d_var 1) da_nil))) (dss_one (ds_ret (d_callT call_tuple_of tuple_ok (by rfl) T.n_tuple (by decide +kernel) (da_cons (d_call F_jobs_before hgd (hr.mono (by decide)) tk (by rfl) (da_cons (d_ix ix_seq ix_ok (d_var 0) d_int (fun _ _ => rfl)) (da_cons (d_var 1) da_nil))) da_nil))))))
def g_are_profiles : PSt := sSeq (sDrop (fCall sp_check_plan (fCons (fVar 0) (fNil)))) (sRet (fCall sp_are_profiles_form (fCons (fVar 0) (fCons (fVar 1) (fNil)))))
theorem body_are_profiles (T : Top K mg) (F_check_plan : FnD P w K mg base tt 5 "check_plan" s_check_plan pr_check_plan sp_check_plan) (F_are_profiles_form : FnD P w K mg base tt 6 "are_profiles_form" s_are_profiles_form pr_are_profiles_form sp_are_profiles_form) : ∀ f, Bdy P w K mg base tt 6 "are_profiles" s_are_profiles nm_are_profiles f g_are_profiles := fun f cdv A outer s0 H E hr hgd tk hp => (dss_cons (ds_expr (d_call F_check_plan hgd (hr.mono (by decide)) tk (by rfl) (da_cons (d_var 0) da_nil))) (dss_one (ds_ret (d_call F_are_profiles_form hgd (hr.mono (by decide)) tk (by rfl) (da_cons (d_var 0) (da_cons (d_var 1) da_nil))))))
def g__law_right : PSt := sSeq (sFor (fRng1 (fCons (fC (.int 6)) (fNil))) (.nm 1) (sSeq (sAsg (.tp [.nm 2, .nm 3]) (fCall sp__law_house (fCons (fVar 0) (fCons (fBin addG (fC (.int 1)) (fCall sp__law_deal (fCons (fVar 0) (fCons (fC (.int 3)) (fNil))))) (fNil))))) (sSeq (sPar 4 5 (fCons (fCall sp__law_round (fCons (fBin ixG (fVar 2) (fC (.int 1))) (fNil))) (fCons (fCB tupleG (fCons (fCall sp__law_times (fCons (fVar 2) (fNil))) (fNil))) (fNil)))) (sSeq (sSet 6 (fLst (fCons (fCall sp_is_plan (fCons (fVar 2) (fNil))) (fCons (fCallK 0 1 [0] sp_is_plan fNil (fCons (fVar 2) (fNil))) (fCons (fCall sp_round_of (fCons (fVar 2) (fNil))) (fCons (fCallK 0 1 [0] sp_round_of fNil (fCons (fVar 2) (fNil))) (fCons (fCall sp_times (fCons (fVar 2) (fNil))) (fCons (fCallK 0 1 [0] sp_times fNil (fCons (fVar 2) (fNil))) (fNil))))))))) (sSeq (sIf (tB' (fBin neG (fCB reprG (fCons (fBin addG (fVar 6) (fLst (fCons (fCall sp_are_profiles (fCons (fVar 2) (fCons (fVar 3) (fNil)))) (fNil)))) (fNil))) (fCB reprG (fCons (fLst (fCons (fC (.bl true)) (fCons (fC (.bl true)) (fCons (fVar 4) (fCons (fVar 4) (fCons (fVar 5) (fCons (fVar 5) (fCons (fC (.bl true)) (fNil))))))))) (fNil))))) (sRet (fC (.bl false))) (sNil)) (sSeq (sFor (fItems (fLst (fCons (fC (.int 0)) (fCons (fVar 4) (fCons (fCall sp__law_deal (fCons (fVar 0) (fCons (fBin mulG (fC (.int 3)) (fVar 4)) (fNil)))) (fCons (fCall sp__law_deal (fCons (fVar 0) (fCons (fC (.int 900)) (fNil)))) (fNil))))))) (.nm 7) (sSeq (sSet 8 (fLst (fNil))) (sSeq (sFor (fRng1 (fCons (fVar 7) (fNil))) (.nm 9) (sSet 8 (fBin addG (fVar 8) (fLc (fItems (fCall sp__law_released (fCons (fVar 2) (fCons (fVar 9) (fNil))))) (.nm 13) (tYes') (fTup (fCons (fVar 9) (fCons (fVar 13) (fNil)))) [13])))) (sSeq (sSet 6 (fLst (fCons (fCall sp_releases (fCons (fVar 2) (fCons (fVar 7) (fNil)))) (fCons (fCallK 0 2 [1, 0] sp_releases fNil (fCons (fVar 7) (fCons (fVar 2) (fNil)))) (fCons (fCall sp_dues (fCons (fVar 2) (fCons (fVar 7) (fNil)))) (fCons (fCallK 0 2 [1, 0] sp_dues fNil (fCons (fVar 7) (fCons (fVar 2) (fNil)))) (fNil))))))) (sSeq (sSet 10 (fBin addG (fBin mulAG (fLst (fCons (fCB tupleG (fCons (fCall sp__law_released (fCons (fVar 2) (fCons (fVar 7) (fNil)))) (fNil))) (fNil))) (fC (.int 2))) (fBin mulAG (fLst (fCons (fCB tupleG (fCons (fCall sp__law_due_now (fCons (fVar 2) (fCons (fVar 7) (fNil)))) (fNil))) (fNil))) (fC (.int 2))))) (sSeq (sSet 6 (fBin addG (fVar 6) (fLst (fCons (fCall sp_jobs_ahead (fCons (fVar 2) (fCons (fVar 7) (fNil)))) (fCons (fCallK 0 2 [1, 0] sp_jobs_ahead fNil (fCons (fVar 7) (fCons (fVar 2) (fNil)))) (fNil)))))) (sIf (tB' (fBin neG (fCB reprG (fCons (fVar 6) (fNil))) (fCB reprG (fCons (fBin addG (fVar 10) (fBin mulAG (fLst (fCons (fCB tupleG (fCons (fVar 8) (fNil))) (fNil))) (fC (.int 2)))) (fNil))))) (sRet (fC (.bl false))) (sNil)))))))) (sSeq (sFor (fItems (fCall sp__law_bad_plans (fCons (fVar 2) (fNil)))) (.nm 11) (sIf (tB' (fBin (isG true) (fCall sp_is_plan (fCons (fVar 11) (fNil))) (fC (.bl false)))) (sRet (fC (.bl false))) (sNil))) (sSeq (sSet 12 (fLst (fCons (fC .non) (fCons (fTup (fNil)) (fCons (fSl (fVar 3) (fPart (fC (.int 1))) (fNo)) (fCons (fCB listG (fCons (fVar 3) (fNil))) (fCons (fBin addG (fVar 3) (fTup (fCons (fBin ixG (fVar 3) (fC (.int 0))) (fNil)))) (fCons (fBin addG (fTup (fCons (fTup (fNil)) (fNil))) (fSl (fVar 3) (fPart (fC (.int 1))) (fNo))) (fCons (fBin addG (fTup (fCons (fCB listG (fCons (fBin ixG (fVar 3) (fC (.int 0))) (fNil))) (fNil))) (fSl (fVar 3) (fPart (fC (.int 1))) (fNo))) (fNil)))))))))) (sSeq (sSet 12 (fBin addG (fVar 12) (fLst (fCons (fBin addG (fTup (fCons (fTup (fCons (fTup (fCons (fTup (fCons (fC (.str "")) (fCons (fC (.int 0)) (fNil)))) (fNil))) (fNil))) (fNil))) (fSl (fVar 3) (fPart (fC (.int 1))) (fNo))) (fNil))))) (sSeq (sSet 12 (fBin addG (fVar 12) (fLst (fCons (fBin addG (fTup (fCons (fTup (fCons (fTup (fCons (fTup (fCons (fC (.str "a")) (fCons (fC (.int 2)) (fNil)))) (fNil))) (fNil))) (fNil))) (fSl (fVar 3) (fPart (fC (.int 1))) (fNo))) (fCons (fBin addG (fTup (fCons (fTup (fCons (fTup (fCons (fTup (fCons (fC (.str "")) (fCons (fC (.int 1)) (fNil)))) (fCons (fTup (fCons (fC (.str "a")) (fCons (fC (.int 2)) (fNil)))) (fNil)))) (fNil))) (fNil))) (fSl (fVar 3) (fPart (fC (.int 1))) (fNo))) (fNil)))))) (sSeq (sSet 12 (fBin addG (fVar 12) (fLst (fCons (fBin addG (fTup (fCons (fTup (fCons (fTup (fCons (fTup (fCons (fC (.str "")) (fCons (fC (.int 1)) (fNil)))) (fCons (fTup (fCons (fC (.str "")) (fCons (fC (.int 2)) (fNil)))) (fNil)))) (fNil))) (fNil))) (fSl (fVar 3) (fPart (fC (.int 1))) (fNo))) (fNil))))) (sSeq (sSet 12 (fBin addG (fVar 12) (fLst (fCons (fBin addG (fTup (fCons (fBin addG (fTup (fCons (fBin ixG (fBin ixG (fVar 3) (fC (.int 0))) (fC (.int 0))) (fCons (fBin ixG (fBin ixG (fVar 3) (fC (.int 0))) (fC (.int 0))) (fNil)))) (fSl (fBin ixG (fVar 3) (fC (.int 0))) (fPart (fC (.int 1))) (fNo))) (fNil))) (fSl (fVar 3) (fPart (fC (.int 1))) (fNo))) (fCons (fBin addG (fTup (fCons (fTup (fCons (fTup (fCons (fTup (fCons (fC (.str "")) (fCons (fC (.int 201)) (fNil)))) (fNil))) (fNil))) (fNil))) (fSl (fVar 3) (fPart (fC (.int 1))) (fNo))) (fNil)))))) (sSeq (sSet 12 (fBin addG (fVar 12) (fLst (fCons (fBin addG (fTup (fCons (fTup (fCons (fTup (fCons (fTup (fCons (fC (.str "")) (fCons (fC (.bl true)) (fNil)))) (fNil))) (fNil))) (fNil))) (fSl (fVar 3) (fPart (fC (.int 1))) (fNo))) (fNil))))) (sFor (fItems (fVar 12)) (.nm 11) (sIf (tOr' (tB' (fBin (isG true) (fCall sp_are_profiles (fCons (fVar 2) (fCons (fVar 11) (fNil)))) (fC (.bl false)))) (tB' (fBin (isG true) (fCallK 0 2 [1, 0] sp_are_profiles fNil (fCons (fVar 11) (fCons (fVar 2) (fNil)))) (fC (.bl false))))) (sRet (fC (.bl false))) (sNil)))))))))))))))) (sRet (fC (.bl true)))
theorem body__law_right (T : Top K mg) (F__law_house : FnD P w K mg base tt 5 "_law_house" s__law_house pr__law_house sp__law_house) (F__law_deal : FnD P w K mg base tt 1 "_law_deal" s__law_deal pr__law_deal sp__law_deal) (F__law_times : FnD P w K mg base tt 3 "_law_times" s__law_times pr__law_times sp__law_times) (F__law_round : FnD P w K mg base tt 2 "_law_round" s__law_round pr__law_round sp__law_round) (F_times : FnD P w K mg base tt 6 "times" s_times pr_times sp_times) (F_round_of : FnD P w K mg base tt 6 "round_of" s_round_of pr_round_of sp_round_of) (F_is_plan : FnD P w K mg base tt 5 "is_plan" s_is_plan pr_is_plan sp_is_plan) (F_are_profiles : FnD P w K mg base tt 7 "are_profiles" s_are_profiles pr_are_profiles sp_are_profiles) (F__law_released : FnD P w K mg base tt 1 "_law_released" s__law_released pr__law_released sp__law_released) (F_dues : FnD P w K mg base tt 6 "dues" s_dues pr_dues sp_dues) (F_releases : FnD P w K mg base tt 6 "releases" s_releases pr_releases sp_releases) (F__law_due_now : FnD P w K mg base tt 1 "_law_due_now" s__law_due_now pr__law_due_now sp__law_due_now) (F_jobs_ahead : FnD P w K mg base tt 6 "jobs_ahead" s_jobs_ahead pr_jobs_ahead sp_jobs_ahead) (F__law_bad_plans : FnD P w K mg base tt 1 "_law_bad_plans" s__law_bad_plans pr__law_bad_plans sp__law_bad_plans) : ∀ f, Bdy P w K mg base tt 7 "_law_right" s__law_right nm__law_right f g__law_right := fun f cdv A outer s0 H E hr hgd tk hp => (dss_cons (ds_for hp rfl (di_rng1 (by rfl) T.n_range (da_cons d_int da_nil)) (g_nm 1 sc__law_right.nd rfl (by first | exact Or.inl rfl | exact Or.inr rfl)) (dss_cons (ds_asg (d_call F__law_house hgd (hr.mono (by decide)) tk (by rfl) (da_cons (d_var 0) (da_cons (d_op op_addA add_ok d_int (d_call F__law_deal hgd (hr.mono (by decide)) tk (by rfl) (da_cons (d_var 0) (da_cons d_int da_nil)))) da_nil))) (g_tp rfl (gs_cons (g_nm 2 sc__law_right.nd rfl (by first | exact Or.inl rfl | exact Or.inr rfl)) (gs_cons (g_nm 3 sc__law_right.nd rfl (by first | exact Or.inl rfl | exact Or.inr rfl)) gs_nil)))) (dss_cons (ds_par (i := 4) (j := 5) rfl sc__law_right.nd rfl rfl (by decide) rfl rfl (da_cons (d_call F__law_round hgd (hr.mono (by decide)) tk (by rfl) (da_cons (d_ix ix_seq ix_ok (d_var 2) d_int (fun _ _ => rfl)) da_nil)) (da_cons (d_callT call_tuple_of tuple_ok (by rfl) T.n_tuple (by decide +kernel) (da_cons (d_call F__law_times hgd (hr.mono (by decide)) tk (by rfl) (da_cons (d_var 2) da_nil)) da_nil)) da_nil))) (dss_cons (ds_set 6 sc__law_right.nd rfl (by first | exact Or.inl rfl | exact Or.inr rfl) (d_lst (da_cons (d_call F_is_plan hgd (hr.mono (by decide)) tk (by rfl) (da_cons (d_var 2) da_nil)) (da_cons (d_callK0 F_is_plan kw_is_plan_0_value hgd (hr.mono (by decide)) tk (by rfl) (dk_cons (d_var 2) dk_nil)) (da_cons (d_call F_round_of hgd (hr.mono (by decide)) tk (by rfl) (da_cons (d_var 2) da_nil)) (da_cons (d_callK0 F_round_of kw_round_of_0_plan hgd (hr.mono (by decide)) tk (by rfl) (dk_cons (d_var 2) dk_nil)) (da_cons (d_call F_times hgd (hr.mono (by decide)) tk (by rfl) (da_cons (d_var 2) da_nil)) (da_cons (d_callK0 F_times kw_times_0_plan hgd (hr.mono (by decide)) tk (by rfl) (dk_cons (d_var 2) dk_nil)) da_nil)))))))) (dss_cons (ds_if (dt_cmp (op_neS hr.units) ne_ok (d_callB (c_repr hgd (u200 hr)) repr_ok (by rfl) T.n_repr (by decide +kernel) (da_cons (d_op op_addA add_ok (d_var 6) (d_lst (da_cons (d_call F_are_profiles hgd (hr.mono (by decide)) tk (by rfl) (da_cons (d_var 2) (da_cons (d_var 3) da_nil))) da_nil))) da_nil)) (d_callB (c_repr hgd (u200 hr)) repr_ok (by rfl) T.n_repr (by decide +kernel) (da_cons (d_lst (da_cons d_bl (da_cons d_bl (da_cons (d_var 4) (da_cons (d_var 4) (da_cons (d_var 5) (da_cons (d_var 5) (da_cons d_bl da_nil)))))))) da_nil)) (nomark _)) (dss_one (ds_ret d_bl)) dss_nil) (dss_cons (ds_for hp rfl (di_seq (d_lst (da_cons d_int (da_cons (d_var 4) (da_cons (d_call F__law_deal hgd (hr.mono (by decide)) tk (by rfl) (da_cons (d_var 0) (da_cons (d_op op_mul mul_ok d_int (d_var 4)) da_nil))) (da_cons (d_call F__law_deal hgd (hr.mono (by decide)) tk (by rfl) (da_cons (d_var 0) (da_cons d_int da_nil))) da_nil)))))) (g_nm 7 sc__law_right.nd rfl (by first | exact Or.inl rfl | exact Or.inr rfl)) (dss_cons (ds_set 8 sc__law_right.nd rfl (by first | exact Or.inl rfl | exact Or.inr rfl) (d_lst da_nil)) (dss_cons (ds_for hp rfl (di_rng1 (by rfl) T.n_range (da_cons (d_var 7) da_nil)) (g_nm 9 sc__law_right.nd rfl (by first | exact Or.inl rfl | exact Or.inr rfl)) (dss_one (ds_set 8 sc__law_right.nd rfl (by first | exact Or.inl rfl | exact Or.inr rfl) (d_op op_addA add_ok (d_var 8) (d_lc (own := [("task", 13)]) (t := .nm 13) rfl sc__law_right.nd (di_seq (d_call F__law_released hgd (hr.mono (by decide)) tk (by rfl) (da_cons (d_var 2) (da_cons (d_var 9) da_nil)))) (blkOk_by (N := nm__law_right) (sc := defScope s__law_right) (by decide +kernel)) (fun _ _ _ _ _ => (g_nm 13 sc__law_right.nd rfl (by first | exact Or.inl rfl | exact Or.inr rfl))) (fun _ _ _ _ _ => dts_nil) (fun _ _ _ _ _ => (d_tup (da_cons (d_var 9) (da_cons (d_var 13) da_nil))))))))) (dss_cons (ds_set 6 sc__law_right.nd rfl (by first | exact Or.inl rfl | exact Or.inr rfl) (d_lst (da_cons (d_call F_releases hgd (hr.mono (by decide)) tk (by rfl) (da_cons (d_var 2) (da_cons (d_var 7) da_nil))) (da_cons (d_callK0 F_releases kw_releases_0_time_plan hgd (hr.mono (by decide)) tk (by rfl) (dk_cons (d_var 7) (dk_cons (d_var 2) dk_nil))) (da_cons (d_call F_dues hgd (hr.mono (by decide)) tk (by rfl) (da_cons (d_var 2) (da_cons (d_var 7) da_nil))) (da_cons (d_callK0 F_dues kw_dues_0_time_plan hgd (hr.mono (by decide)) tk (by rfl) (dk_cons (d_var 7) (dk_cons (d_var 2) dk_nil))) da_nil)))))) (dss_cons (ds_set 10 sc__law_right.nd rfl (by first | exact Or.inl rfl | exact Or.inr rfl) (d_op op_addA add_ok (d_op op_mulA mulA_ok (d_lst (da_cons (d_callT call_tuple_of tuple_ok (by rfl) T.n_tuple (by decide +kernel) (da_cons (d_call F__law_released hgd (hr.mono (by decide)) tk (by rfl) (da_cons (d_var 2) (da_cons (d_var 7) da_nil))) da_nil)) da_nil)) d_int) (d_op op_mulA mulA_ok (d_lst (da_cons (d_callT call_tuple_of tuple_ok (by rfl) T.n_tuple (by decide +kernel) (da_cons (d_call F__law_due_now hgd (hr.mono (by decide)) tk (by rfl) (da_cons (d_var 2) (da_cons (d_var 7) da_nil))) da_nil)) da_nil)) d_int))) (dss_cons (ds_set 6 sc__law_right.nd rfl (by first | exact Or.inl rfl | exact Or.inr rfl) (d_op op_addA add_ok (d_var 6) (d_lst (da_cons (d_call F_jobs_ahead hgd (hr.mono (by decide)) tk (by rfl) (da_cons (d_var 2) (da_cons (d_var 7) da_nil))) (da_cons (d_callK0 F_jobs_ahead kw_jobs_ahead_0_time_plan hgd (hr.mono (by decide)) tk (by rfl) (dk_cons (d_var 7) (dk_cons (d_var 2) dk_nil))) da_nil))))) (dss_one (ds_if (dt_cmp (op_neS hr.units) ne_ok (d_callB (c_repr hgd (u200 hr)) repr_ok (by rfl) T.n_repr (by decide +kernel) (da_cons (d_var 6) da_nil)) (d_callB (c_repr hgd (u200 hr)) repr_ok (by rfl) T.n_repr (by decide +kernel) (da_cons (d_op op_addA add_ok (d_var 10) (d_op op_mulA mulA_ok (d_lst (da_cons (d_callT call_tuple_of tuple_ok (by rfl) T.n_tuple (by decide +kernel) (da_cons (d_var 8) da_nil)) da_nil)) d_int)) da_nil)) (nomark _)) (dss_one (ds_ret d_bl)) dss_nil)))))))) (dss_cons (ds_for hp rfl (di_seq (d_call F__law_bad_plans hgd (hr.mono (by decide)) tk (by rfl) (da_cons (d_var 2) da_nil))) (g_nm 11 sc__law_right.nd rfl (by first | exact Or.inl rfl | exact Or.inr rfl)) (dss_one (ds_if (dt_cmp op_isNA isN_ok (d_call F_is_plan hgd (hr.mono (by decide)) tk (by rfl) (da_cons (d_var 11) da_nil)) d_bl (nomark _)) (dss_one (ds_ret d_bl)) dss_nil))) (dss_cons (ds_set 12 sc__law_right.nd rfl (by first | exact Or.inl rfl | exact Or.inr rfl) (d_lst (da_cons d_non (da_cons (d_tup da_nil) (da_cons (d_slice (d_var 3) (dp_some d_int) dp_none) (da_cons (d_callT call_list_of list_ok (by rfl) T.n_list (by decide +kernel) (da_cons (d_var 3) da_nil)) (da_cons (d_op op_addA add_ok (d_var 3) (d_tup (da_cons (d_ix ix_seq ix_ok (d_var 3) d_int (fun _ _ => rfl)) da_nil))) (da_cons (d_op op_addA add_ok (d_tup (da_cons (d_tup da_nil) da_nil)) (d_slice (d_var 3) (dp_some d_int) dp_none)) (da_cons (d_op op_addA add_ok (d_tup (da_cons (d_callT call_list_of list_ok (by rfl) T.n_list (by decide +kernel) (da_cons (d_ix ix_seq ix_ok (d_var 3) d_int (fun _ _ => rfl)) da_nil)) da_nil)) (d_slice (d_var 3) (dp_some d_int) dp_none)) da_nil))))))))) (dss_cons (ds_set 12 sc__law_right.nd rfl (by first | exact Or.inl rfl | exact Or.inr rfl) (d_op op_addA add_ok (d_var 12) (d_lst (da_cons (d_op op_addA add_ok (d_tup (da_cons (d_tup (da_cons (d_tup (da_cons (d_tup (da_cons d_str (da_cons d_int da_nil))) da_nil)) da_nil)) da_nil)) (d_slice (d_var 3) (dp_some d_int) dp_none)) da_nil)))) (dss_cons (ds_set 12 sc__law_right.nd rfl (by first | exact Or.inl rfl | exact Or.inr rfl) (d_op op_addA add_ok (d_var 12) (d_lst (da_cons (d_op op_addA add_ok (d_tup (da_cons (d_tup (da_cons (d_tup (da_cons (d_tup (da_cons d_str (da_cons d_int da_nil))) da_nil)) da_nil)) da_nil)) (d_slice (d_var 3) (dp_some d_int) dp_none)) (da_cons (d_op op_addA add_ok (d_tup (da_cons (d_tup (da_cons (d_tup (da_cons (d_tup (da_cons d_str (da_cons d_int da_nil))) (da_cons (d_tup (da_cons d_str (da_cons d_int da_nil))) da_nil))) da_nil)) da_nil)) (d_slice (d_var 3) (dp_some d_int) dp_none)) da_nil))))) (dss_cons (ds_set 12 sc__law_right.nd rfl (by first | exact Or.inl rfl | exact Or.inr rfl) (d_op op_addA add_ok (d_var 12) (d_lst (da_cons (d_op op_addA add_ok (d_tup (da_cons (d_tup (da_cons (d_tup (da_cons (d_tup (da_cons d_str (da_cons d_int da_nil))) (da_cons (d_tup (da_cons d_str (da_cons d_int da_nil))) da_nil))) da_nil)) da_nil)) (d_slice (d_var 3) (dp_some d_int) dp_none)) da_nil)))) (dss_cons (ds_set 12 sc__law_right.nd rfl (by first | exact Or.inl rfl | exact Or.inr rfl) (d_op op_addA add_ok (d_var 12) (d_lst (da_cons (d_op op_addA add_ok (d_tup (da_cons (d_op op_addA add_ok (d_tup (da_cons (d_ix ix_seq ix_ok (d_ix ix_seq ix_ok (d_var 3) d_int (fun _ _ => rfl)) d_int (fun _ _ => rfl)) (da_cons (d_ix ix_seq ix_ok (d_ix ix_seq ix_ok (d_var 3) d_int (fun _ _ => rfl)) d_int (fun _ _ => rfl)) da_nil))) (d_slice (d_ix ix_seq ix_ok (d_var 3) d_int (fun _ _ => rfl)) (dp_some d_int) dp_none)) da_nil)) (d_slice (d_var 3) (dp_some d_int) dp_none)) (da_cons (d_op op_addA add_ok (d_tup (da_cons (d_tup (da_cons (d_tup (da_cons (d_tup (da_cons d_str (da_cons d_int da_nil))) da_nil)) da_nil)) da_nil)) (d_slice (d_var 3) (dp_some d_int) dp_none)) da_nil))))) (dss_cons (ds_set 12 sc__law_right.nd rfl (by first | exact Or.inl rfl | exact Or.inr rfl) (d_op op_addA add_ok (d_var 12) (d_lst (da_cons (d_op op_addA add_ok (d_tup (da_cons (d_tup (da_cons (d_tup (da_cons (d_tup (da_cons d_str (da_cons d_bl da_nil))) da_nil)) da_nil)) da_nil)) (d_slice (d_var 3) (dp_some d_int) dp_none)) da_nil)))) (dss_one (ds_for hp rfl (di_seq (d_var 12)) (g_nm 11 sc__law_right.nd rfl (by first | exact Or.inl rfl | exact Or.inr rfl)) (dss_one (ds_if (dw_pt (dw_or (dt_cmp op_isNA isN_ok (d_call F_are_profiles hgd (hr.mono (by decide)) tk (by rfl) (da_cons (d_var 2) (da_cons (d_var 11) da_nil))) d_bl (nomark _)) (dw_or1 (dt_cmp op_isNA isN_ok (d_callK0 F_are_profiles kw_are_profiles_0_value_plan hgd (hr.mono (by decide)) tk (by rfl) (dk_cons (d_var 11) (dk_cons (d_var 2) dk_nil))) d_bl (nomark _))))) (dss_one (ds_ret d_bl)) dss_nil))))))))))))))))) (dss_one (ds_ret d_bl)))
def g_law : PSt := sRet (fCB allG (fCons (fLc (fRng1 (fCons (fCB maxG (fCons (fC (.int 1)) (fCons (fCB minG (fCons (fCB lenG (fCons (fVar 0) (fNil))) (fCons (fC (.int 4)) (fNil)))) (fNil)))) (fNil))) (.nm 1) (tYes') (fWell sp__law_right sp__law_pail (fCons (fVar 0) (fCons (fVar 1) (fNil)))) [1]) (fNil)))
theorem body_law (T : Top K mg) (F__law_right : FnD P w K mg base tt 8 "_law_right" s__law_right pr__law_right sp__law_right) (F__law_pail : FnD P w K mg base tt 1 "_law_pail" s__law_pail pr__law_pail sp__law_pail) : ∀ f, Bdy P w K mg base tt 8 "law" s_law nm_law f g_law := fun f cdv A outer s0 H E hr hgd tk hp => (dss_one (ds_ret (d_callB (cr_all rfl) all_ok (by rfl) T.n_all (by decide +kernel) (da_cons (d_lc (own := [("turn", 1)]) (t := .nm 1) rfl sc_law.nd (di_rng1 (by rfl) T.n_range (da_cons (d_callB (call_max2 rfl) int2_ok (by rfl) T.n_max (by decide +kernel) (da_cons d_int (da_cons (d_callB (call_min2 rfl) int2_ok (by rfl) T.n_min (by decide +kernel) (da_cons (d_callB c_len len_ok (by rfl) T.n_len (by decide +kernel) (da_cons (d_var 0) da_nil)) (da_cons d_int da_nil))) da_nil))) da_nil)) (blkOk_by (N := nm_law) (sc := defScope s_law) (by decide +kernel)) (fun _ _ _ _ _ => (g_nm 1 sc_law.nd rfl (by first | exact Or.inl rfl | exact Or.inr rfl))) (fun _ _ _ _ _ => dts_nil) (fun _ _ _ _ _ => (d_well F__law_right F__law_pail hgd (hr.mono (by decide)) (hr.mono (by decide)) takes0 (by rfl) (by rfl) (da_cons (d_var 0) (da_cons (d_var 1) da_nil))))) da_nil))))
end
end K34

namespace K34
open PySem PySem.Spec L2 PL
local macro_rules | `(tactic| walk_at "pl") => `(tactic| simp only [sNil, sSeq, sRet, sDrop, sIf, sSet, sAsg, sNever, fVar, fC, fBin, fChain, fNot, fAnd, fOr, fNeg, fCB, fCall, fCallK, fNil, fCons, fStar, fTup, fLst, fIf, fSl, fPart, fNo, tB', tNot', tAnd', tOr', tYes', fLc, fItems, fRng1, fRng2, fZip,
  List.getElem?_cons_zero, List.getElem?_cons_succ, Option.some.injEq, Sl.dt.injEq, Sl.ow.injEq, exists_eq_left', exists_eq_left, List.set_cons_zero, List.set_cons_succ])
abbrev Pq (q : D → Prop) (x : Xn → Prop) : Pn := ⟨fun _ => q .non, q, fun _ => False, fun _ => False, fun _ e => x e⟩
theorem isi_k {d : D} {T : String} {q : D → Prop} (h : plain d) (hT : T ∈ (["int", "bool", "str", "tuple", "list"] : List String)) (hq : q (.bl (isiT (tyOf d) T))) : isiG [d, .ty T] q := ⟨h, hT, hq⟩
theorem sat_is_whole : ∀ ds q x, sp_is_whole ds q x → ds.length = pr_is_whole.length ∧ g_is_whole ⟨fun _ => q .non, q, fun _ => False, fun _ => False, fun _ e => x e⟩ (startD nm_is_whole ds) := by
  rintro ds q x ⟨d, rfl, hp, hq⟩
  refine ⟨rfl, ?_⟩
  show g_is_whole _ [.dt d]
  unfold g_is_whole
  walk_at "pl"
  refine isi_k hp (by decide) ⟨_, rfl, fun h1 => isi_k hp (by decide) ⟨_, rfl, ?_⟩, fun h1 => ?_⟩
  · cases d <;> first | (simp [isiT, tyOf] at h1; done) | exact hq
  · cases d <;> first | (simp [isiT, tyOf] at h1; done) | exact hq
theorem sat_is_between : ∀ ds q x, sp_is_between ds q x → ds.length = pr_is_between.length ∧ g_is_between ⟨fun _ => q .non, q, fun _ => False, fun _ => False, fun _ e => x e⟩ (startD nm_is_between ds) := by
  rintro ds q x ⟨d, lo, hi, rfl, hp, hq⟩
  refine ⟨rfl, ?_⟩
  show g_is_between _ [.dt d, .dt (.int lo), .dt (.int hi)]
  unfold g_is_between
  walk_at "pl"
  refine ⟨d, rfl, hp, _, rfl, fun h => ?_, fun h => ?_⟩
  · cases d <;> first | (simp [isInt] at h; done) | skip
    case int n =>
      refine ⟨trivial, _, rfl, fun h2 => ⟨trivial, ?_⟩, fun h2 => ?_⟩
      · have e : betw (.int n) lo hi = decide (n ≤ hi) := by simp [betw, h2]
        rw [e] at hq; exact hq
      · have e : betw (.int n) lo hi = false := by simp [betw, h2]
        rw [e] at hq; exact hq
  · cases d <;> first | (simp [isInt] at h; done) | exact hq
theorem sat_is_tuple_of : ∀ ds q x, sp_is_tuple_of ds q x → ds.length = pr_is_tuple_of.length ∧ g_is_tuple_of ⟨fun _ => q .non, q, fun _ => False, fun _ => False, fun _ e => x e⟩ (startD nm_is_tuple_of ds) := by
  rintro ds q x ⟨d, m, rfl, hp, hl, hm, hq⟩
  refine ⟨rfl, ?_⟩
  show g_is_tuple_of _ [.dt d, .dt (.int m)]
  unfold g_is_tuple_of
  walk_at "pl"
  refine isi_k hp (by decide) ⟨_, rfl, fun h1 => ?_, fun h1 => ?_⟩
  · cases d <;> first | (simp [isiT, tyOf] at h1; done) | skip
    case tup xs =>
      refine ⟨.i, ?_⟩
      rw [eqv_int]; exact hq
  · cases d <;> first | (simp [isiT, tyOf] at h1; done) | exact hq
theorem sat_is_short_tuple : ∀ ds q x, sp_is_short_tuple ds q x → ds.length = pr_is_short_tuple.length ∧ g_is_short_tuple ⟨fun _ => q .non, q, fun _ => False, fun _ => False, fun _ e => x e⟩ (startD nm_is_short_tuple ds) := by
  rintro ds q x ⟨d, lo, hi, rfl, hp, hq⟩
  refine ⟨rfl, ?_⟩
  show g_is_short_tuple _ [.dt d, .dt (.int lo), .dt (.int hi)]
  unfold g_is_short_tuple
  walk_at "pl"
  refine isi_k hp (by decide) ⟨_, rfl, fun h1 => ?_, fun h1 => ?_⟩
  · cases d <;> first | (simp [isiT, tyOf] at h1; done) | skip
    case tup xs =>
      refine ⟨trivial, _, rfl, fun h2 => ⟨trivial, ?_⟩, fun h2 => ?_⟩
      · have e : tupIn (.tup xs) lo hi = decide ((xs.length : Int) ≤ hi) := by simp [tupIn, h2]
        rw [e] at hq; exact hq
      · have e : tupIn (.tup xs) lo hi = false := by simp [tupIn, h2]
        rw [e] at hq; exact hq
  · cases d <;> first | (simp [isiT, tyOf] at h1; done) | exact hq

/-! ### names -/
theorem strOk_name {z : Str} (h : okD (.str z) = true) : PyData.strOk z = true ∧ z.length ≤ 1000 := by
  have h2 : (PyData.strOk z && decide (z.length ≤ 1000)) = true := h
  rw [Bool.and_eq_true] at h2
  exact ⟨h2.1, of_decide_eq_true h2.2⟩
theorem in_words {z : Str} {q : D → Prop} : inG false (.str z) c_WORDS q ↔ q (.bl (wordsS.any fun y => y == z)) := ⟨fun h => h.2.2, fun h => ⟨rfl, by decide, h⟩⟩
theorem all_signs {z : Str} {q : D → Prop} (hl : z.length ≤ 1000) (h : q (.bl (z.cps.toList.all fun c => decide (c ∈ lettersS.cps.toList)))) :
    fLcLoop (.nm 1) tYes' (fBin (inG false) (fVar 1) (fC c_LETTERS)) [1] [.dt (.str z), .no] (fun d => allG [d] q) (signs z) [] := by
  refine lc_map (fun c => D.bl (decide (c ∈ lettersS.cps.toList))) z.cps.toList (fun c _ Q hQ => ?_) ?_ ?_
  · exact ⟨_, rfl, c, rfl, hQ⟩
  · have e : z.length = z.cps.toList.length := by rw [Array.length_toList]; rfl
    rw [← e]; exact Nat.le_trans hl (by decide)
  · refine ⟨z.cps.toList.map fun c => decide (c ∈ lettersS.cps.toList), by rw [List.map_map]; rfl, ?_⟩
    rw [List.all_map]
    exact h
theorem sat_is_name : ∀ ds q x, sp_is_name ds q x → ds.length = pr_is_name.length ∧ g_is_name ⟨fun _ => q .non, q, fun _ => False, fun _ => False, fun _ e => x e⟩ (startD nm_is_name ds) := by
  rintro ds q x ⟨d, rfl, hd, hq⟩
  have hp : plain d := by cases d <;> first | (simp [okD] at hd; done) | (simp [plain, tyOf, kinds])
  refine ⟨rfl, ?_⟩
  show g_is_name _ [.dt d, .no]
  unfold g_is_name
  walk_at "pl"
  refine isi_k hp (by decide) ⟨_, rfl, ?_⟩
  cases d <;> first | (simp [okD] at hd; done) | skip
  case str z =>
    obtain ⟨ok, hl⟩ := strOk_name hd
    have hl1 : z.length ≤ LIM := Nat.le_trans hl (by decide)
    simp only [in_words]
    have hq2 : q (.bl (nameS z)) := hq
    unfold nameS at hq2
    by_cases h1 : 1 ≤ z.length
    · have h1' : (1 : Int) ≤ (z.length : Int) := by omega
      by_cases h2 : z.length ≤ 8
      · have h2' : (z.length : Int) ≤ 8 := by omega
        cases hw : wordsS.any fun y => y == z
        · simp only [h1, h2, hw, decide_true, Bool.true_and, Bool.not_false] at hq2
          simp [isiT, tyOf, leG, intG, lenG, hl1, c_MOST_LETTERS, h1', h2', itemsOf]
          exact all_signs hl hq2
        · simp [h1, h2, hw] at hq2
          simp [isiT, tyOf, leG, intG, lenG, hl1, c_MOST_LETTERS, h1', h2', hq2]
      · have h2' : ¬ (z.length : Int) ≤ 8 := by omega
        simp [h2] at hq2
        simp [isiT, tyOf, leG, intG, lenG, hl1, c_MOST_LETTERS, h1', h2', hq2]
    · have h1' : ¬ (1 : Int) ≤ (z.length : Int) := by omega
      simp [h1] at hq2
      simp [isiT, tyOf, leG, intG, lenG, hl1, c_MOST_LETTERS, h1', hq2]
  all_goals (simp [isiT, tyOf]; exact hq)
/-! ### ways -/
theorem w_t {A B : Prop} (h : A) : (true = true → A) ∧ (true = false → B) := ⟨fun _ => h, (fun z => by cases z)⟩
theorem w_f {A B : Prop} (h : B) : (false = true → A) ∧ (false = false → B) := ⟨(fun z => by cases z), fun _ => h⟩
theorem isi_str {d : D} (h : (∀ z, d ≠ .str z)) : isiT (tyOf d) "str" = false := by cases d <;> first | rfl | exact absurd rfl (h _)
theorem isi_str' {z : Str} : isiT (tyOf (.str z)) "str" = true := rfl
theorem isi_tup' {z : List D} : isiT (tyOf (.tup z)) "tuple" = true := rfl
theorem isi_tup {d : D} (h : (∀ z, d ≠ .tup z)) : isiT (tyOf d) "tuple" = false := by cases d <;> first | rfl | exact absurd rfl (h _)
theorem tame_empty : tame c_OUTSIDE := tame_str (by decide +kernel) (by decide)
/-! ### stretches -/
theorem okD_plain {d : D} (hd : okD d = true) : plain d := by cases d <;> first | (simp [okD] at hd; done) | (simp [plain, tyOf, kinds])
theorem tame_ok_str {z : Str} (h : okD (.str z) = true) : tame (.str z) := tame_str (strOk_name h).1 (by have := (strOk_name h).2; omega)
theorem strD_pair (m : Int) (l : Str) (b : D) : strD m (.tup [.str l, b]) = (betw b 1 m && (l == "" || nameS l)) := by cases b <;> rfl
theorem sat_is_stretch : ∀ ds q x, sp_is_stretch ds q x → ds.length = pr_is_stretch.length ∧ g_is_stretch ⟨fun _ => q .non, q, fun _ => False, fun _ => False, fun _ e => x e⟩ (startD nm_is_stretch ds) := by
  rintro ds q x ⟨d, rfl, hd, hq⟩
  have hp : plain d := okD_plain hd
  refine ⟨rfl, ?_⟩
  show g_is_stretch _ [.dt d, .dt (.int 200)]
  unfold g_is_stretch
  walk_at "pl"
  have hlen : ∀ xs, d = .tup xs → okDL xs = true ∧ xs.length ≤ 1000 := fun xs e => by
    subst e
    have h2 : (okDL xs && decide (xs.length ≤ 1000)) = true := hd
    rw [Bool.and_eq_true] at h2
    exact ⟨h2.1, of_decide_eq_true h2.2⟩
  refine ⟨d, 2, rfl, hp, fun xs e => (hlen xs e).2, by decide, _, rfl, ?_⟩
  by_cases ht : tupLen d 2 = true
  · obtain ⟨a, b, rfl⟩ : ∃ a b, d = .tup [a, b] := by
      cases d <;> first | (simp [tupLen] at ht; done) | skip
      case tup xs =>
        match xs, ht with
        | [a, b], _ => exact ⟨a, b, rfl⟩
        | [], h => simp [tupLen] at h
        | [a], h => simp [tupLen] at h
        | a :: b :: c :: r, h => simp [tupLen] at h; omega
    obtain ⟨h3, _⟩ := hlen _ rfl
    have h4 : (okD a && (okD b && true)) = true := h3
    simp only [Bool.and_eq_true, and_true] at h4
    have pa := okD_plain h4.1
    have pb := okD_plain h4.2
    rw [ht]
    refine w_f ⟨a, rfl, isi_k pa (by decide) ⟨_, rfl, ?_⟩⟩
    by_cases hs : ∃ l, a = .str l
    · obtain ⟨l, rfl⟩ := hs
      rw [isi_str']
      refine w_f ⟨b, rfl, b, 1, 200, rfl, pb, _, rfl, ?_⟩
      cases hb : betw b 1 200
      · rw [strD_pair, hb] at hq
        exact w_t hq
      · rw [strD_pair, hb, Bool.true_and] at hq
        refine w_f ⟨.str l, rfl, .s, ?_⟩
        have e2 : eqvD (.str l) c_OUTSIDE = (l == "") := by
          show eqvD (.str l) (.str "") = _
          rw [eqv_str, Bool.beq_eq_decide_eq]
        rw [e2]
        cases hl : l == ""
        · rw [hl] at hq
          exact ⟨false, rfl, w_f ⟨_, rfl, .str l, rfl, h4.1, hq⟩⟩
        · rw [hl] at hq
          exact ⟨true, rfl, w_t hq⟩
    · rw [isi_str fun z e => hs ⟨z, e⟩]
      have e : strD 200 (.tup [a, b]) = false := by
        cases a <;> first | rfl | exact absurd ⟨_, rfl⟩ hs
      rw [e] at hq
      exact w_t ⟨fun _ => hq, (fun z => by cases z)⟩
  · simp only [Bool.not_eq_true] at ht
    have e : strD 200 d = false := by
      cases d <;> first | rfl | skip
      case tup xs =>
        match xs, ht with
        | [a, b], h => simp [tupLen] at h
        | [], _ => rfl
        | [a], _ => simp [strD]
        | a :: b :: c :: r, _ => simp [strD]
    rw [e] at hq
    simp [ht, hq]
end K34

namespace K34
open PySem PySem.Spec L2 PL
local macro_rules | `(tactic| walk_at "pl") => `(tactic| simp only [sNil, sSeq, sRet, sDrop, sIf, sSet, sAsg, sNever, fVar, fC, fBin, fChain, fNot, fAnd, fOr, fNeg, fCB, fCall, fCallK, fNil, fCons, fStar, fTup, fLst, fIf, fSl, fPart, fNo, tB', tNot', tAnd', tOr', tYes', fLc, fItems, fRng1, fRng2, fZip,
  List.getElem?_cons_zero, List.getElem?_cons_succ, Option.some.injEq, Sl.dt.injEq, Sl.ow.injEq, exists_eq_left', exists_eq_left, List.set_cons_zero, List.set_cons_succ])
theorem w_T {A B : Prop} (h : A) : (True → A) ∧ (true = false → B) := ⟨fun _ => h, (fun z => by cases z)⟩
theorem sat_cycles_in : ∀ ds q x, sp_cycles_in ds q x → ds.length = pr_cycles_in.length ∧ g_cycles_in ⟨fun _ => q .non, q, fun _ => False, fun _ => False, fun _ e => x e⟩ (startD nm_cycles_in ds) := by
  rintro ds q x ⟨p, rfl, hl, hq⟩
  refine ⟨rfl, ?_⟩
  show g_cycles_in _ [.dt (pf p), .no, .no]
  unfold g_cycles_in
  walk_at "pl"
  refine ⟨p.map sd, rfl, ?_⟩
  refine lc_map (e := sd) (fun s => .int s.2) p (fun s _ Q hQ => ?_) (Nat.le_trans hl (by decide)) ?_
  · exact ⟨_, rfl, rfl, _, _, rfl, _, _, rfl, rfl, _, rfl, hQ⟩
  · exact ⟨p.map (fun s : Str × Int => s.2), by rw [List.map_map]; rfl, hq⟩
theorem asPf_pf : ∀ p : Pf, asPf (p.map sd) = p
  | [] => rfl
  | (l, c) :: r => by show (l, c) :: asPf (r.map sd) = _; rw [asPf_pf r]
theorem pf_asPf : ∀ xs : List D, xs.all (strD 200) = true → (asPf xs).map sd = xs
  | [], _ => rfl
  | d :: r, h => by
    rw [List.all_cons, Bool.and_eq_true] at h
    have ih := pf_asPf r h.2
    have h1 := h.1
    unfold strD at h1
    split at h1
    · rename_i l c
      show sd (l, c) :: (asPf r).map sd = _
      rw [ih]; rfl
    · cases h1
theorem unlike_zip : ∀ (a : Str × Int) (r : Pf), (((a :: r).zip r).map fun p => !decide (p.1.1 = p.2.1)).all id = unlike (a :: r)
  | a, [] => rfl
  | a, b :: r => by
    have ih := unlike_zip b r
    obtain ⟨a1, a2⟩ := a
    obtain ⟨b1, b2⟩ := b
    show ((!decide (a1 = b1)) && _) = (!(a1 == b1) && unlike ((b1, b2) :: r))
    rw [← ih, Bool.beq_eq_decide_eq]; rfl
theorem sat_is_profile_form : ∀ ds q x, sp_is_profile_form ds q x → ds.length = pr_is_profile_form.length ∧ g_is_profile_form ⟨fun _ => q .non, q, fun _ => False, fun _ => False, fun _ e => x e⟩ (startD nm_is_profile_form ds) := by
  rintro ds q x ⟨d, rfl, hd, hq⟩
  have hp : plain d := okD_plain hd
  refine ⟨rfl, ?_⟩
  show g_is_profile_form _ [.dt d, .no, .no, .no]
  unfold g_is_profile_form
  walk_at "pl"
  refine ⟨d, 1, 8, rfl, hp, _, rfl, ?_⟩
  cases ht : tupIn d 1 8
  · have e : profD d = false := by
      cases d <;> first | rfl | skip
      case tup xs =>
        have h2 : (decide ((1 : Int) ≤ (xs.length : Int)) && decide ((xs.length : Int) ≤ 8)) = false := ht
        by_cases h1 : 1 ≤ xs.length <;> by_cases h8 : xs.length ≤ 8 <;> simp [profD, h1, h8]
        simp at h2; omega
    rw [e] at hq
    exact w_t (w_T hq)
  obtain ⟨xs, rfl⟩ : ∃ xs, d = .tup xs := by
    cases d <;> first | (simp [tupIn] at ht; done) | exact ⟨_, rfl⟩
  have h2 : (decide ((1 : Int) ≤ (xs.length : Int)) && decide ((xs.length : Int) ≤ 8)) = true := ht
  simp only [Bool.and_eq_true, decide_eq_true_eq] at h2
  have hL : okDL xs = true := by
    have h3 : (okDL xs && decide (xs.length ≤ 1000)) = true := hd
    rw [Bool.and_eq_true] at h3
    exact h3.1
  have hmem : ∀ (ys : List D) y, okDL ys = true → y ∈ ys → okD y = true := by
    intro ys
    induction ys with
    | nil => intro y _ z; cases z
    | cons a r ih =>
      intro y h z
      have h : (okD a && okDL r) = true := h
      rw [Bool.and_eq_true] at h
      rcases List.mem_cons.mp z with rfl | z
      · exact h.1
      · exact ih y h.2 z
  refine w_f ⟨xs, rfl, ?_⟩
  rw [show xs = xs.map id from (List.map_id _).symm]
  refine lc_map (e := id) (fun y => .bl (strD 200 y)) xs (fun y hy Q hQ => ?_) (Nat.le_trans (m := 8) (by omega) (by decide)) ?_
  · exact ⟨_, rfl, ⟨y, rfl, hmem xs y hL hy, hQ⟩⟩
  refine ⟨xs.map (strD 200), by rw [List.map_map]; rfl, _, rfl, ?_⟩
  rw [List.all_map, List.map_id]
  have hc : (xs.all (id ∘ strD 200)) = xs.all (strD 200) := rfl
  rw [hc]
  cases ha : xs.all (strD 200)
  · have e : profD (.tup xs) = false := by simp [profD, ha]
    rw [e] at hq
    exact wt hq
  refine wf ?_
  have e : profD (.tup xs) = okPf (asPf xs) := by
    have h1 : 1 ≤ xs.length := by omega
    have h8 : xs.length ≤ 8 := by omega
    simp [profD, ha, h1, h8]
  rw [e] at hq
  obtain ⟨p, rfl⟩ : ∃ p : Pf, xs = p.map sd := ⟨asPf xs, (pf_asPf xs ha).symm⟩
  rw [asPf_pf] at hq
  rw [List.length_map] at h2
  have hstr : ∀ s ∈ p, PyData.strOk s.1 = true ∧ s.1.length ≤ 1000 := by
    intro s hs
    have h5 : (okD (.str s.1) && (okD (.int s.2) && true)) = true := by
      have h6 := hmem _ (sd s) hL (List.mem_map.mpr ⟨s, hs, rfl⟩)
      have h6 : (okDL [.str s.1, .int s.2] && decide (2 ≤ 1000)) = true := h6
      rw [Bool.and_eq_true] at h6
      exact h6.1
    rw [Bool.and_eq_true] at h5
    exact strOk_name h5.1
  have htame : ∀ s ∈ p, tame (.str s.1) := fun s hs => tame_str (hstr s hs).1 (by have := (hstr s hs).2; omega)
  obtain ⟨a, r, rfl⟩ : ∃ a r, p = a :: r := by
    cases p with
    | nil => simp at h2
    | cons a r => exact ⟨a, r, rfl⟩
  obtain ⟨z, hz⟩ : ∃ z, (a :: r).getLast? = some z := ⟨_, List.getLast?_eq_some_getLast (List.cons_ne_nil a r)⟩
  have hzm : z ∈ a :: r := List.mem_of_getLast? hz
  refine ix_t (j := 0) (d := sd a) rfl (ix_t (j := 0) (d := .str a.1) rfl ⟨.s, _, rfl, ?_⟩)
  have e1 : eqvD (.str a.1) c_OUTSIDE = decide (a.1 = "") := eqv_str
  rw [e1]
  by_cases h1 : a.1 = ""
  rotate_left
  · rw [show decide (a.1 = "") = false from decide_eq_false h1]
    have e : okPf (a :: r) = false := by simp [okPf, h1]
    rw [e] at hq
    exact wt (wT hq)
  rw [show decide (a.1 = "") = true from decide_eq_true h1]
  refine wf ⟨1, rfl, ?_⟩
  refine ix_end (d := sd z) (by rw [List.getLast?_map, hz]; rfl) (ix_t (j := 0) (d := .str z.1) rfl ⟨.s, _, rfl, ?_⟩)
  have e2 : eqvD (.str z.1) c_OUTSIDE = decide (z.1 = "") := eqv_str
  rw [e2]
  by_cases h3 : z.1 = ""
  rotate_left
  · rw [show decide (z.1 = "") = false from decide_eq_false h3]
    have e : okPf (a :: r) = false := by simp [okPf, hz, h3]
    rw [e] at hq
    exact wt (wT hq)
  rw [show decide (z.1 = "") = true from decide_eq_true h3]
  refine wf ⟨a :: r, rfl, by omega, ?_⟩
  refine ⟨trivial, _, rfl, ?_⟩
  by_cases h4 : cyc (a :: r) ≤ 400
  rotate_left
  · rw [show decide (400 < cyc (a :: r)) = true from decide_eq_true (by omega)]
    have e : okPf (a :: r) = false := by simp [okPf, hz, h3, h4]
    rw [e] at hq
    exact wt hq
  rw [show decide (400 < cyc (a :: r)) = false from decide_eq_false (by omega)]
  have e : okPf (a :: r) = unlike (a :: r) := by simp [okPf, hz, h3, h1, h4]
  rw [e] at hq
  refine wf ⟨1, rfl, ?_⟩
  refine ⟨_, _, .inl rfl, ?_⟩
  rw [show cutD ((a :: r).map sd) (some 1) none = r.map sd from cut_from _ 1]
  rw [show pairs ((a :: r).map sd) (r.map sd) = ((a :: r).zip r).map (fun p => D.tup [sd p.1, sd p.2]) by unfold pairs; rw [List.zip_map, List.map_map]; rfl]
  refine lc_map (e := fun p : (Str × Int) × (Str × Int) => D.tup [sd p.1, sd p.2]) (fun p => .bl (!decide (p.1.1 = p.2.1))) ((a :: r).zip r) (fun p hp2 Q hQ => ?_) ?_ ?_
  · have m1 := (List.of_mem_zip hp2).1
    have m2 := List.mem_cons_of_mem a (List.of_mem_zip hp2).2
    rw [← eqv_str] at hQ
    exact ⟨_, rfl, rfl, _, _, rfl, _, _, rfl, rfl, _, rfl, ix_t (j := 0) rfl ⟨_, rfl, ix_t (j := 0) rfl ⟨.s, hQ⟩⟩⟩
  · rw [List.length_zip]
    simp only [List.length_cons] at h2 ⊢
    exact Nat.le_trans (m := 8) (by omega) (by decide)
  · refine ⟨((a :: r).zip r).map fun p => !decide (p.1.1 = p.2.1), by rw [List.map_map]; rfl, ?_⟩
    rw [unlike_zip]
    exact hq
end K34

namespace K34
open PySem PySem.Spec L2 PL
local macro_rules | `(tactic| walk_at "pl") => `(tactic| simp only [sNil, sSeq, sRet, sDrop, sIf, sSet, sAsg, sNever, fVar, fC, fBin, fChain, fNot, fAnd, fOr, fNeg, fCB, fCall, fCallK, fNil, fCons, fStar, fTup, fLst, fIf, fSl, fPart, fNo, tB', tNot', tAnd', tOr', tYes', fLc, fItems, fRng1, fRng2, fZip,
  List.getElem?_cons_zero, List.getElem?_cons_succ, Option.some.injEq, Sl.dt.injEq, Sl.ow.injEq, exists_eq_left', exists_eq_left, List.set_cons_zero, List.set_cons_succ])
theorem right_profD {p : Pf} (h : Rt p) : profD (pf p) = true := by
  have e : ∀ r : Pf, (∀ s ∈ r, 1 ≤ s.2 ∧ s.2 ≤ 200 ∧ (s.1 = "" ∨ nameS s.1 = true)) → (r.map sd).all (strD 200) = true := by
    intro r hr
    rw [List.all_map, List.all_eq_true]
    intro s hs
    obtain ⟨h1, h2, h3⟩ := hr s hs
    show strD 200 (.tup [.str s.1, .int s.2]) = true
    rw [strD_pair]
    rcases h3 with h3 | h3 <;> simp [betw, h1, h2, h3]
  have h1 := h.len1
  have h8 := h.len8
  show (decide (1 ≤ (p.map sd).length) && decide ((p.map sd).length ≤ 8) && (p.map sd).all (strD 200) && okPf (asPf (p.map sd))) = true
  rw [List.length_map, asPf_pf, e p h.each, h.ok]
  simp [h1, h8]
theorem cyc_le {p : Pf} (h : Rt p) : cyc p ≤ 400 := by
  have := h.ok
  simp only [okPf, Bool.and_eq_true, decide_eq_true_eq] at this
  exact this.1.2
theorem okDL_mem : ∀ (ys : List D) y, okDL ys = true → y ∈ ys → okD y = true := by
  intro ys
  induction ys with
  | nil => intro y _ z; cases z
  | cons a r ih =>
    intro y h z
    have h : (okD a && okDL r) = true := h
    rw [Bool.and_eq_true] at h
    rcases List.mem_cons.mp z with rfl | z
    · exact h.1
    · exact ih y h.2 z
theorem okDL_all : ∀ (ys : List D), (∀ y ∈ ys, okD y = true) → okDL ys = true
  | [], _ => rfl
  | a :: r, h => by
    show (okD a && okDL r) = true
    rw [h a (List.mem_cons_self ..), okDL_all r fun y hy => h y (List.mem_cons_of_mem _ hy)]
    rfl
theorem okD_sd {s : Str × Int} : okD (sd s) = okD (.str s.1) := by
  show ((okD (.str s.1) && (true && true)) && decide (2 ≤ 1000)) = _
  simp
theorem okD_pf {p : Pf} : okD (pf p) = true ↔ p.length ≤ 1000 ∧ ∀ s ∈ p, okD (.str s.1) = true := by
  show (okDL (p.map sd) && decide ((p.map sd).length ≤ 1000)) = true ↔ _
  rw [Bool.and_eq_true, decide_eq_true_eq, List.length_map]
  constructor
  · rintro ⟨h1, h2⟩
    exact ⟨h2, fun s hs => by rw [← okD_sd]; exact okDL_mem _ _ h1 (List.mem_map.mpr ⟨s, hs, rfl⟩)⟩
  · rintro ⟨h1, h2⟩
    exact ⟨okDL_all _ fun y hy => by
      obtain ⟨s, hs, rfl⟩ := List.mem_map.mp hy
      rw [okD_sd]; exact h2 s hs, h1⟩
theorem last_of {p : Pf} (h : 1 ≤ p.length) : ∃ r l c, p = r ++ [(l, c)] := by
  refine ⟨p.dropLast, (p.getLast (by intro e; subst e; simp at h)).1, (p.getLast (by intro e; subst e; simp at h)).2, ?_⟩
  rw [List.dropLast_concat_getLast]
def Sm (z : Str) : Prop := PyData.strOk z = true ∧ z.length ≤ 8
structure SmP (p : Pf) : Prop where
  len : p.length ≤ 9
  each : ∀ s ∈ p, Sm s.1 ∧ s.2.natAbs < 1000000000000
theorem sm_nil : Sm "" := ⟨by decide +kernel, by decide⟩
theorem SmP.tame {p : Pf} (h : SmP p) : cost (pf p) ≤ 100 ∧ dep (pf p) ≤ 2 := by
  have h1 : costL (p.map sd) ≤ (p.map sd).length * 11 := costL_le _ (fun d hd => by
    obtain ⟨s, hs, rfl⟩ := List.mem_map.mp hd
    obtain ⟨⟨a, b⟩, c⟩ := h.each s hs
    show cost (.str s.1) + (cost (.int s.2) + 0) + 1 ≤ 11
    rw [cost_str a, cost_int c]; omega)
  have h2 : depL (p.map sd) ≤ 1 := depL_le _ (fun d hd => by
    obtain ⟨s, hs, rfl⟩ := List.mem_map.mp hd
    exact Nat.le_refl 1)
  rw [List.length_map] at h1
  refine ⟨?_, ?_⟩
  · show costL (p.map sd) + 1 ≤ _
    have : p.length * 11 ≤ 9 * 11 := Nat.mul_le_mul_right _ h.len
    omega
  · show depL (p.map sd) + 1 ≤ 2
    omega
theorem name_len {z : Str} (h : nameS z = true) : z.length ≤ 8 := by
  unfold nameS at h
  simp only [Bool.and_eq_true, decide_eq_true_eq] at h
  exact h.1.1.2
theorem Rt.sm {p : Pf} (h : Rt p) (hd : okD (pf p) = true) : SmP p := by
  refine ⟨by have := h.len8; omega, fun s hs => ?_⟩
  obtain ⟨h1, h2, h3⟩ := h.each s hs
  refine ⟨⟨(strOk_name ((okD_pf.mp hd).2 s hs)).1, ?_⟩, by omega⟩
  rcases h3 with h3 | h3
  · rw [h3]; decide
  · exact name_len h3
theorem cost_sm {z : Str} (h : Sm z) : cost (.str z) ≤ 9 ∧ dep (.str z) = 0 := by rw [cost_str h.1]; exact ⟨by have := h.2; omega, rfl⟩
theorem unlike_more : ∀ (p : Pf) (a b c : Int) (z : Str), z ≠ "" → unlike (p ++ [(("" : Str), a)]) = true → unlike (p ++ [(("" : Str), a), (z, b), ("", c)]) = true
  | [], a, b, c, z, hz, _ => by
    have h1 : (("" : Str) == z) = false := by rw [Bool.beq_eq_decide_eq]; exact decide_eq_false fun e => hz e.symm
    have h2 : (z == ("" : Str)) = false := by rw [Bool.beq_eq_decide_eq]; exact decide_eq_false hz
    simp [unlike, h1, h2]
  | [s], a, b, c, z, hz, h => by
    have ih := unlike_more [] a b c z hz rfl
    have h : (!(s.1 == "") && true) = true := h
    rw [Bool.and_true] at h
    show (!(s.1 == "") && unlike (([] : Pf) ++ [(("" : Str), a), (z, b), ("", c)])) = true
    rw [h, ih]; rfl
  | s :: t :: p, a, b, c, z, hz, h => by
    have h : (!(s.1 == t.1) && unlike (t :: p ++ [(("" : Str), a)])) = true := h
    rw [Bool.and_eq_true] at h
    have ih := unlike_more (t :: p) a b c z hz h.2
    show (!(s.1 == t.1) && unlike (t :: p ++ [(("" : Str), a), (z, b), ("", c)])) = true
    rw [h.1, ih]; rfl
structure Drawn (p : Pf) (i : Nat) : Prop where
  len : p.length = 2 * i + 1
  each : ∀ s ∈ p, 1 ≤ s.2 ∧ s.2 ≤ 3 ∧ (s.1 = "" ∨ s.1 = "a" ∨ s.1 = "b")
  head : p.head?.map (·.1) = some ""
  last : p.getLast?.map (·.1) = some ""
  alt : unlike p = true
theorem name_ab : nameS "a" = true ∧ nameS "b" = true ∧ okD (.str "") = true ∧ okD (.str "a") = true ∧ okD (.str "b") = true := by decide +kernel
theorem Drawn.rt {p : Pf} {i : Nat} (h : Drawn p i) (hi : i ≤ 2) (hc : cyc p ≤ 400) : Rt p ∧ okD (pf p) = true := by
  have := h.len
  refine ⟨⟨by omega, by omega, fun s hs => ?_, ?_⟩, okD_pf.mpr ⟨by omega, fun s hs => ?_⟩⟩
  · obtain ⟨h1, h2, h3⟩ := h.each s hs
    refine ⟨h1, by omega, ?_⟩
    rcases h3 with h3 | h3 | h3
    · exact .inl h3
    · right; rw [h3]; exact name_ab.1
    · right; rw [h3]; exact name_ab.2.1
  · simp [okPf, h.head, h.last, h.alt, hc]
  · obtain ⟨h1, h2, h3⟩ := h.each s hs
    rcases h3 with h3 | h3 | h3 <;> rw [h3]
    · exact name_ab.2.2.1
    · exact name_ab.2.2.2.1
    · exact name_ab.2.2.2.2
theorem Drawn.more {p : Pf} {i : Nat} (h : Drawn p i) {z : Str} {b c : Int} (hz : z = "a" ∨ z = "b") (hb : 1 ≤ b ∧ b ≤ 3) (hc : 1 ≤ c ∧ c ≤ 3) : Drawn (p ++ [(z, b), ("", c)]) (i + 1) := by
  have hl := h.len
  obtain ⟨r, l, a, rfl⟩ := last_of (show 1 ≤ p.length by omega)
  have el : l = "" := by have := h.last; simp at this; exact this
  subst el
  refine ⟨by simp at hl ⊢; omega, fun s hs => ?_, ?_, by simp, ?_⟩
  · rcases List.mem_append.mp hs with h2 | h2
    · exact h.each s h2
    · rcases List.mem_cons.mp h2 with rfl | h2
      · exact ⟨hb.1, hb.2, .inr hz⟩
      · obtain rfl := List.mem_singleton.mp h2
        exact ⟨hc.1, hc.2, .inl rfl⟩
  · have := h.head
    cases r with
    | nil => rfl
    | cons t r => exact this
  · rw [List.append_assoc]
    exact unlike_more r a b c z (by rcases hz with rfl | rfl <;> decide) h.alt
theorem drawn_one {a : Int} (h : 1 ≤ a ∧ a ≤ 3) : Drawn [("", a)] 0 := ⟨rfl, fun s hs => by obtain rfl := List.mem_singleton.mp hs; exact ⟨h.1, h.2, .inl rfl⟩, rfl, rfl, rfl⟩
theorem rt_one {a : Int} (h : 1 ≤ a ∧ a ≤ 200) : Rt [("", a)] ∧ okD (pf [("", a)]) = true := by
  refine ⟨⟨Nat.le_refl 1, by show 1 ≤ 8; decide, fun s hs => by obtain rfl := List.mem_singleton.mp hs; exact ⟨h.1, h.2, .inl rfl⟩, ?_⟩, okD_pf.mpr ⟨by show 1 ≤ 1000; decide, fun s hs => by obtain rfl := List.mem_singleton.mp hs; exact name_ab.2.2.1⟩⟩
  have : cyc [("", a)] ≤ 400 := by simp [cyc]; omega
  simp [okPf, this, unlike]
theorem sat__law_deal : ∀ ds q x, sp__law_deal ds q x → ds.length = pr__law_deal.length ∧ g__law_deal ⟨fun _ => q .non, q, fun _ => False, fun _ => False, fun _ e => x e⟩ (startD nm__law_deal ds) := by
  rintro ds q x ⟨top, rfl, h0, h1, hq⟩
  refine ⟨rfl, ?_⟩
  show g__law_deal _ [.dt .well, .dt (.int top), .no, .no]
  unfold g__law_deal
  walk_at "pl"
  have htop : 0 < top := h0
  have q1 : ∀ n : Int, q (.int (n % top)) := fun n => hq _ (Int.emod_nonneg _ (by omega)) (Int.emod_lt_of_pos _ htop)
  refine .inl ⟨rfl, fun n0 hn0 => ⟨trivial, _, rfl, fun _ => .inl ⟨rfl, fun n0 hn0 => ⟨⟨htop, h1⟩, ?_⟩⟩, fun _ => ?_⟩⟩
  · exact ⟨_, rfl, rfl, _, _, rfl, rfl, n0 / top, rfl, .inl ⟨rfl, Int.ediv_nonneg hn0 (by omega)⟩, _, _, rfl, rfl, _, rfl, q1 _⟩
  refine well2 fun n2 => ⟨rfl, _, rfl, .inr (.inr rfl), ?_⟩
  walk_at "pl"
  refine well1 fun n1 h10 h11 => mul_i (.inr (by decide)) (well2 fun n2 => mul_i (.inl (by decide)) (toI (mod_i (by decide) ?_)))
  generalize hm : (n1 * 15559 + 11933 * n2) % 2147483423 = m
  have hm0 : 0 ≤ m ∧ m < 2147483423 := by subst hm; exact ⟨Int.emod_nonneg _ (by decide), Int.emod_lt_of_pos _ (by decide)⟩
  refine toI (mod_i (by decide) (mul_i (.inl ⟨by omega, by omega⟩) (well2 fun n2 => mul_i (.inl (by decide)) (toI (mod_i (by decide) ?_)))))
  refine ⟨rfl, _, rfl, .inr (.inl ⟨rfl, Int.emod_nonneg _ (by decide), Int.lt_trans (Int.emod_lt_of_pos _ (by decide)) (by decide)⟩), ?_⟩
  walk_at "pl"
  exact well1 fun n1 h10 h11 => div_i ⟨by decide, by decide⟩ (toI (mod_i htop (q1 _)))
theorem sat__law_any : ∀ ds q x, sp__law_any ds q x → ds.length = pr__law_any.length ∧ g__law_any ⟨fun _ => q .non, q, fun _ => False, fun _ => False, fun _ e => x e⟩ (startD nm__law_any ds) := by
  rintro ds q x ⟨xs, rfl, h0, h1, hq⟩
  refine ⟨rfl, ?_⟩
  show g__law_any _ [.dt .well, .dt (.lst xs)]
  unfold g__law_any
  walk_at "pl"
  refine ⟨_, rfl, by omega, by omega, fun k hk0 hk1 => ?_⟩
  obtain ⟨j, rfl⟩ : ∃ j : Nat, k = j := ⟨k.toNat, by omega⟩
  have hj : j < xs.length := by omega
  exact ix_l (j := j) (List.getElem?_eq_getElem hj) (hq _ (List.getElem_mem hj))
theorem sat__law_pail : ∀ ds q x, sp__law_pail ds q x → ds.length = pr__law_pail.length ∧ g__law_pail ⟨fun _ => q .non, q, fun _ => False, fun _ => False, fun _ e => x e⟩ (startD nm__law_pail ds) := by
  rintro ds q x ⟨ns, t, rfl, hl, h0, hq⟩
  refine ⟨rfl, ?_⟩
  show g__law_pail _ [.dt (.scr ns), .dt (.int t), .no, .no, .no]
  unfold g__law_pail
  walk_at "pl"
  refine mul_i (.inl (by decide)) (add_int ?_)
  unfold sFor
  walk_at "pl"
  refine ⟨12, rfl, _, rfl, ?_⟩
  have e12 : cutD (ns.map D.int) none (some 12) = (ns.take 12).map D.int := by rw [List.map_take]; exact cut_to _ 12
  rw [e12]
  refine loop_inv (fun i ρ => ∃ (m : Int) (c : Sl), ρ = [.dt (.scr ns), .dt (.int t), .dt (.int m), c, .no]) _ 0 _ ⟨_, _, rfl⟩ ?_ ?_
  · rintro i d ρ hd ⟨m, c, rfl⟩ N hN
    rw [List.getElem?_map] at hd
    obtain ⟨n, hn, rfl⟩ := Option.map_eq_some_iff.mp hd
    simp only [tgE]
    walk_at "pl"
    refine mul_i (.inr (by decide)) (toI (mod_i (by decide) (mul_i (.inr (by decide)) (add_int (add_int (toI (mod_i (by decide) (hN _ ⟨_, _, rfl⟩))))))))
  · rintro ρ ⟨m, c, rfl⟩
    walk_at "pl"
    have ab : ∀ n : Int, 0 ≤ (if n < 0 then -n else n) := fun n => by split <;> omega
    have b0 : ∀ n : Int, 0 ≤ n % 2147483423 := fun n => Int.emod_nonneg _ (by decide)
    have b1 : ∀ n : Int, n % 2147483423 < 2147483648 := fun n => Int.lt_trans (Int.emod_lt_of_pos _ (by decide)) (by decide)
    refine ⟨trivial, _, rfl, wq (fun h => ?_) (fun h => ?_)⟩
    · have ht : t < (ns.length : Int) := of_decide_eq_true h
      obtain ⟨j, rfl⟩ : ∃ j : Nat, t = j := ⟨t.toNat, by omega⟩
      have hj : j < ns.length := by omega
      refine ⟨ns[j], atI_nat (List.getElem?_eq_getElem hj), toI ?_⟩
      refine mul_i (.inr (by decide)) (mod_i (by decide) (mul_i (.inr (by decide)) (add_int (add_int (toI (mod_i (by decide) ⟨trivial, _, rfl, wq (fun _ => wT ⟨limN (by simp), hq _ _ _ (ab _) (b0 _) (b1 _)⟩) (fun _ => ⟨⟨by decide, by decide, by decide⟩, trivial, _, rfl, wq (fun _ => ⟨limN (by simp), hq _ _ _ (ab _) (b0 _) (b1 _)⟩) (fun _ => ⟨limN (by simp), hq _ _ _ (Int.le_refl _) (b0 _) (b1 _)⟩)⟩)⟩))))))
    · refine mul_i (.inr (by decide)) (mod_i (by decide) (mul_i (.inr (by decide)) (add_int (add_int (toI (mod_i (by decide) ⟨trivial, _, rfl, wq (fun _ => wT ⟨limN (by simp), hq _ _ _ (ab _) (b0 _) (b1 _)⟩) (fun _ => ⟨⟨by decide, by decide, by decide⟩, trivial, _, rfl, wq (fun _ => ⟨limN (by simp), hq _ _ _ (ab _) (b0 _) (b1 _)⟩) (fun _ => ⟨limN (by simp), hq _ _ _ (Int.le_refl _) (b0 _) (b1 _)⟩)⟩)⟩))))))
theorem sat__law_profile : ∀ ds q x, sp__law_profile ds q x → ds.length = pr__law_profile.length ∧ g__law_profile ⟨fun _ => q .non, q, fun _ => False, fun _ => False, fun _ e => x e⟩ (startD nm__law_profile ds) := by
  rintro ds q x ⟨most, rfl, hm1, hm2, hq⟩
  refine ⟨rfl, ?_⟩
  show g__law_profile _ [.dt .well, .dt (.int most), .no, .no, .no, .no]
  unfold g__law_profile
  walk_at "pl"
  refine ⟨3, rfl, by decide, by decide, fun k hk0 hk3 => add_int ⟨limN (by simp), limN (by simp), ?_⟩⟩
  unfold sFor
  walk_at "pl"
  refine ⟨limN (by simp), _, rfl, by decide, by decide, fun d hd => ?_⟩
  obtain ⟨m, rfl, hm⟩ : ∃ m : Nat, d = .int m ∧ m ≤ 2 := by
    simp only [List.mem_cons, List.mem_nil_iff, or_false] at hd
    rcases hd with rfl | rfl | rfl | rfl
    · exact ⟨0, rfl, by decide⟩
    · exact ⟨0, rfl, by decide⟩
    · exact ⟨1, rfl, by decide⟩
    · exact ⟨2, rfl, by decide⟩
  refine ⟨m, rfl, by omega, by omega, ?_⟩
  refine loop_inv (fun i ρ => ∃ (p : Pf) (a : Sl), Drawn p i ∧ ρ = [.dt .well, .dt (.int most), .dt (.lst (p.map sd)), a, .no, .no]) _ 0 _ ⟨[("", 1 + k)], _, drawn_one (by omega), rfl⟩ ?_ ?_
  · rintro i d ρ hd ⟨p, a, hp, rfl⟩ N hN
    have hi : i < m := by
      have := (List.getElem?_eq_some_iff.mp hd).1
      rw [rng_length] at this; omega
    simp only [tgE]
    walk_at "pl"
    refine ⟨limN (by simp), _, rfl, by decide, by decide, fun d2 hd2 => ?_⟩
    obtain ⟨z, rfl, hz⟩ : ∃ z, d2 = .str z ∧ (z = "a" ∨ z = "b") := by
      simp only [List.mem_cons, List.mem_nil_iff, or_false] at hd2
      rcases hd2 with rfl | rfl
      · exact ⟨_, rfl, .inl rfl⟩
      · exact ⟨_, rfl, .inr rfl⟩
    refine ⟨3, rfl, by decide, by decide, fun k hk0 hk3 => add_int ⟨limN (by simp), 2, rfl, by decide, by decide, fun k2 hk20 hk22 => add_int ⟨limN (by simp), limN (by simp), ?_⟩⟩⟩
    have h2 := hp.more (b := 1 + k) (c := 1 + k2) hz (by omega) (by omega)
    have hl := hp.len
    refine ⟨limN (by simp; omega), hN _ ⟨_, .dt d, h2, ?_⟩⟩
    rw [List.map_append]; rfl
  · rintro ρ ⟨p, a, hp, rfl⟩
    rw [rng_length] at hp
    have hl := hp.len
    walk_at "pl"
    refine ⟨p.map sd, rfl, ?_⟩
    refine lc_map (e := sd) (fun s => .int s.2) p (fun s _ Q hQ => ?_) (limN (by omega)) ?_
    · exact ⟨_, rfl, rfl, _, _, rfl, _, _, rfl, rfl, _, rfl, hQ⟩
    refine ⟨p.map (fun s : Str × Int => s.2), by rw [List.map_map]; rfl, trivial, _, rfl, wq (fun h => ?_) (fun h => ?_)⟩
    · have hc : cyc p ≤ most := of_decide_eq_true h
      obtain ⟨h1, h2⟩ := hp.rt (by omega) (by omega)
      exact hq p h1 h2
    · obtain ⟨h1, h2⟩ := rt_one (a := most) ⟨hm1, hm2⟩
      exact ⟨limN (by simp), limN (by simp), hq [("", most)] h1 h2⟩
end K34

namespace K34
open PySem PySem.Spec L2 PL
local macro_rules | `(tactic| walk_at "pl") => `(tactic| simp only [sNil, sSeq, sRet, sDrop, sIf, sSet, sAsg, sNever, fVar, fC, fBin, fChain, fNot, fAnd, fOr, fNeg, fCB, fCall, fCallK, fNil, fCons, fStar, fTup, fLst, fIf, fSl, fPart, fNo, tB', tNot', tAnd', tOr', tYes', fLc, fItems, fRng1, fRng2, fZip,
  List.getElem?_cons_zero, List.getElem?_cons_succ, Option.some.injEq, Sl.dt.injEq, Sl.ow.injEq, exists_eq_left', exists_eq_left, List.set_cons_zero, List.set_cons_succ])
theorem sat_order_of : ∀ ds q x, sp_order_of ds q x → ds.length = pr_order_of.length ∧ g_order_of ⟨fun _ => q .non, q, fun _ => False, fun _ => False, fun _ e => x e⟩ (startD nm_order_of ds) := by
  rintro ds q x ⟨p, rfl, hl, hq⟩
  refine ⟨rfl, ?_⟩
  show g_order_of _ [.dt (pf p)]
  unfold g_order_of
  walk_at "pl"
  exact ⟨p, rfl, hl, _, rfl, limN (by simp), hq⟩
theorem sat_check_plan : ∀ ds q x, sp_check_plan ds q x → ds.length = pr_check_plan.length ∧ g_check_plan ⟨fun _ => q .non, q, fun _ => False, fun _ => False, fun _ e => x e⟩ (startD nm_check_plan ds) := by
  rintro ds q x ⟨d, rfl, hp, hb, hq⟩
  refine ⟨rfl, ?_⟩
  show g_check_plan _ [.dt d]
  unfold g_check_plan
  walk_at "pl"
  refine ⟨d, rfl, hp, _, rfl, ?_⟩
  rw [hb]
  exact wf hq
theorem sat_check_time : ∀ ds q x, sp_check_time ds q x → ds.length = pr_check_time.length ∧ g_check_time ⟨fun _ => q .non, q, fun _ => False, fun _ => False, fun _ e => x e⟩ (startD nm_check_time ds) := by
  rintro ds q x ⟨d, rfl, hp, hb, hq⟩
  refine ⟨rfl, ?_⟩
  show g_check_time _ [.dt d]
  unfold g_check_time
  walk_at "pl"
  refine ⟨d, 0, 2000, rfl, hp, _, rfl, ?_⟩
  rw [hb]
  exact wf hq
theorem sat_is_plan : ∀ ds q x, sp_is_plan ds q x → ds.length = pr_is_plan.length ∧ g_is_plan ⟨fun _ => q .non, q, fun _ => False, fun _ => False, fun _ e => x e⟩ (startD nm_is_plan ds) := by
  rintro ds q x ⟨d, rfl, hp, hq⟩
  refine ⟨rfl, ?_⟩
  show g_is_plan _ [.dt d]
  unfold g_is_plan
  walk_at "pl"
  exact ⟨d, rfl, hp, hq⟩
theorem gcd_step {c d : Int} (hc : 0 ≤ c) (hd : 0 ≤ d) : Int.gcd d (c % d) = Int.gcd c d := by
  obtain ⟨c, rfl⟩ := Int.eq_ofNat_of_zero_le hc
  obtain ⟨d, rfl⟩ := Int.eq_ofNat_of_zero_le hd
  show Nat.gcd d (c % d) = Nat.gcd c d
  rw [Nat.gcd_comm c d, Nat.gcd_rec d c, Nat.gcd_comm]
theorem gcd_end {c : Int} (hc : 0 ≤ c) : (Int.gcd c 0 : Int) = c := by
  rw [Int.gcd_zero_right]; omega
theorem sat_divisor_of : ∀ ds q x, sp_divisor_of ds q x → ds.length = pr_divisor_of.length ∧ g_divisor_of ⟨fun _ => q .non, q, fun _ => False, fun _ => False, fun _ e => x e⟩ (startD nm_divisor_of ds) := by
  rintro ds q x ⟨a, b, rfl, h0, h1, hq⟩
  refine ⟨rfl, ?_⟩
  show g_divisor_of _ [.dt (.int a), .dt (.int b)]
  unfold g_divisor_of
  walk_at "pl"
  unfold sWhile
  refine ⟨fun m ρ => ∃ c d : Int, ρ = [.dt (.int c), .dt (.int d)] ∧ 0 ≤ c ∧ 0 ≤ d ∧ m = d.toNat ∧ Int.gcd c d = Int.gcd a b, ⟨_, a, b, rfl, h0, h1, rfl, rfl⟩, ?_⟩
  rintro m ρ ⟨c, d, rfl, hc, hd, rfl, hg⟩
  unfold sPar
  walk_at "pl"
  refine ⟨trivial, _, rfl, wq (fun h => ?_) (fun h => ?_)⟩
  · have h : 0 < d := of_decide_eq_true h
    refine mod_i h ⟨_, _, rfl, (c % d).toNat, ?_, d, c % d, rfl, hd, Int.emod_nonneg _ (by omega), rfl, ?_⟩
    · have := Int.emod_lt_of_pos c h
      have := Int.emod_nonneg c (show d ≠ 0 by omega)
      omega
    · rw [← hg]; exact gcd_step hc hd
  · have h : ¬ 0 < d := of_decide_eq_false h
    obtain rfl : d = 0 := by omega
    rw [← hg, gcd_end hc] at hq
    exact hq
theorem sat__law_gcd : ∀ ds q x, sp__law_gcd ds q x → ds.length = pr__law_gcd.length ∧ g__law_gcd ⟨fun _ => q .non, q, fun _ => False, fun _ => False, fun _ e => x e⟩ (startD nm__law_gcd ds) := by
  rintro ds q x ⟨a, b, rfl, h0, h1, hb, hq⟩
  refine ⟨rfl, ?_⟩
  show g__law_gcd _ [.dt (.int a), .dt (.int b), .no]
  unfold g__law_gcd
  walk_at "pl"
  unfold sFor
  walk_at "pl"
  refine ⟨60, rfl, by decide, by decide, ?_⟩
  refine loop_inv (fun i ρ => ∃ (c d : Int) (z : Sl), ρ = [.dt (.int c), .dt (.int d), z] ∧ 0 ≤ c ∧ 0 ≤ d ∧ d + i ≤ 50 ∧ Int.gcd c d = Int.gcd a b) _ 0 _ ⟨a, b, _, rfl, h0, h1, by omega, rfl⟩ ?_ ?_
  · rintro i e ρ he ⟨c, d, z, rfl, hc, hd, hi, hg⟩ N hN
    simp only [tgE]
    unfold sPar sBrk
    walk_at "pl"
    refine ⟨.i, _, rfl, ?_⟩
    rw [eqv_int]
    refine wq (fun h => ?_) (fun h => ?_)
    · obtain rfl : d = 0 := of_decide_eq_true h
      rw [← hg, gcd_end hc] at hq
      exact hq
    · have h : ¬ d = 0 := of_decide_eq_false h
      have h2 : 0 < d := by omega
      refine toI (mod_i h2 ⟨_, _, rfl, hN _ ⟨d, c % d, _, rfl, hd, Int.emod_nonneg _ h, ?_, ?_⟩⟩)
      · have := Int.emod_lt_of_pos c h2
        omega
      · rw [← hg]; exact gcd_step hc hd
  · rintro ρ ⟨c, d, z, rfl, hc, hd, hi, hg⟩
    rw [rng_length] at hi
    omega
/-! rounds -/
theorem round_next {rs : List Rw} {i : Nat} {r : Rw} (h : rs[i]? = some r) : roundI (rs.take (i + 1)) = lcmF (roundI (rs.take i)) r.2.1 := by
  have e : rs.take (i + 1) = rs.take i ++ [r] := by rw [List.take_succ, h]; rfl
  rw [e]
  unfold roundI
  rw [List.foldl_append]; rfl
theorem gcd_pos {f p : Int} (hp : 0 < p) : 0 < (Int.gcd f p : Int) ∧ (Int.gcd f p : Int) ≤ p := by
  have h1 : 0 < Int.gcd f p := Int.gcd_pos_of_ne_zero_right f (by omega)
  have h2 : (Int.gcd f p : Int) ≤ p := Int.le_of_dvd hp (Int.gcd_dvd_right ..)
  omega
theorem lcm_pos {f p : Int} (hf : 0 < f) (hp : 0 < p) : 0 < lcmF f p := by
  have h1 := (gcd_pos (f := f) hp).1
  have h2 : (Int.gcd f p : Int) ≤ f := Int.le_of_dvd hf (Int.gcd_dvd_left ..)
  have h3 : 0 < f / (Int.gcd f p : Int) := Int.ediv_pos_of_pos_of_dvd hf (by omega) (Int.gcd_dvd_left ..)
  exact Int.mul_pos h3 hp
theorem round_pos : ∀ (rs : List Rw) (n : Nat), (∀ r ∈ rs, 1 ≤ r.2.1) → 0 < roundI (rs.take n) := by
  intro rs n h
  induction n with
  | zero => exact Int.one_pos
  | succ n ih =>
    cases e : rs[n]? with
    | none => rw [List.take_succ, e]; simpa using ih
    | some r => rw [round_next e]; exact lcm_pos ih (h r (List.mem_of_getElem? e))
theorem row_at {rs : List Rw} {i : Nat} {d : D} (h : (rs.map rd)[i]? = some d) : ∃ r, rs[i]? = some r ∧ d = rd r ∧ r ∈ rs := by
  rw [List.getElem?_map] at h
  obtain ⟨r, hr, rfl⟩ := Option.map_eq_some_iff.mp h
  exact ⟨r, hr, rfl, List.mem_of_getElem? hr⟩
theorem sat_round_by : ∀ ds q x, sp_round_by ds q x → ds.length = pr_round_by.length ∧ g_round_by ⟨fun _ => q .non, q, fun _ => False, fun _ => False, fun _ e => x e⟩ (startD nm_round_by ds) := by
  rintro ds q x ⟨rs, rfl, hl, hp, hq⟩
  refine ⟨rfl, ?_⟩
  show g_round_by _ [.dt (rwD rs), .no, .no, .no]
  unfold g_round_by
  walk_at "pl"
  unfold sFor
  walk_at "pl"
  refine ⟨rs.map rd, rfl, ?_⟩
  refine loop_inv (fun i ρ => ∃ y z, ρ = [.dt (rwD rs), .dt (.int (roundI (rs.take i))), y, z]) _ 0 _ ⟨_, _, rfl⟩ ?_ ?_
  · rintro i d ρ hd ⟨y, z, rfl⟩ N hN
    obtain ⟨r, hr, rfl, hm⟩ := row_at hd
    have hr1 := hp r hm
    rw [Nat.zero_add] at *
    refine ⟨_, rfl, rfl, _, _, rfl, _, _, rfl, _, _, rfl, rfl, ?_⟩
    walk_at "pl"
    have hpos := round_pos rs i (fun r h => (hp r h).1)
    have hg := gcd_pos (f := roundI (rs.take i)) (p := r.2.1) (by omega)
    refine ⟨_, _, rfl, by omega, by omega, div_i ⟨by omega, by omega⟩ (mul_i (.inr ⟨by omega, by omega⟩) (hN _ ⟨.dt (.int r.2.2), .dt (.int r.2.1), ?_⟩))⟩
    rw [round_next hr]; rfl
  · rintro ρ ⟨y, z, rfl⟩
    rw [List.length_map, Nat.zero_add, List.take_length]
    walk_at "pl"
    exact hq
end K34

namespace K34
open PySem PySem.Spec L2 PL
local macro_rules | `(tactic| walk_at "pl") => `(tactic| simp only [sNil, sSeq, sRet, sDrop, sIf, sSet, sAsg, sNever, fVar, fC, fBin, fChain, fNot, fAnd, fOr, fNeg, fCB, fCall, fCallK, fNil, fCons, fStar, fTup, fLst, fIf, fSl, fPart, fNo, tB', tNot', tAnd', tOr', tYes', fLc, fItems, fRng1, fRng2, fZip,
  List.getElem?_cons_zero, List.getElem?_cons_succ, Option.some.injEq, Sl.dt.injEq, Sl.ow.injEq, exists_eq_left', exists_eq_left, List.set_cons_zero, List.set_cons_succ])
theorem okD_tup {xs : List D} (h : okD (.tup xs) = true) : okDL xs = true ∧ xs.length ≤ 1000 := by
  have h2 : (okDL xs && decide (xs.length ≤ 1000)) = true := h
  rw [Bool.and_eq_true] at h2
  exact ⟨h2.1, of_decide_eq_true h2.2⟩
theorem tupLen_2 {d : D} (h : tupLen d 2 = true) : ∃ a b, d = .tup [a, b] := by
  cases d <;> first | (simp [tupLen] at h; done) | skip
  case tup xs =>
    match xs, h with
    | [a, b], _ => exact ⟨a, b, rfl⟩
    | [], h => simp [tupLen] at h
    | [a], h => simp [tupLen] at h
    | a :: b :: c :: r, h => simp [tupLen] at h; omega
theorem tupLen_3 {d : D} (h : tupLen d 3 = true) : ∃ a b c, d = .tup [a, b, c] := by
  cases d <;> first | (simp [tupLen] at h; done) | skip
  case tup xs =>
    match xs, h with
    | [a, b, c], _ => exact ⟨a, b, c, rfl⟩
    | [], h => simp [tupLen] at h
    | [a], h => simp [tupLen] at h
    | [a, b], h => simp [tupLen] at h
    | a :: b :: c :: e :: r, h => simp [tupLen] at h; omega
theorem betw_int {d : D} {lo hi : Int} (h : betw d lo hi = true) : ∃ n, d = .int n ∧ lo ≤ n ∧ n ≤ hi := by
  cases d <;> first | (simp [betw] at h; done) | skip
  case int n =>
    simp only [betw, Bool.and_eq_true, decide_eq_true_eq] at h
    exact ⟨n, rfl, h⟩
theorem rowD_not3 {d : D} (h : tupLen d 3 = false) : rowD d = false := by
  unfold rowD
  split
  · simp [tupLen] at h
  · rfl
theorem rowD_3 (a b c : D) : rowD (.tup [a, b, c]) = (betw b 1 240 && (match b with | .int p => betw a 0 (p - 1) && betw c 1 p | _ => false)) := by
  cases b <;> first | rfl | skip
  case int p => show (decide (1 ≤ p) && decide (p ≤ 240) && betw a 0 (p - 1) && betw c 1 p) = (decide (1 ≤ p) && decide (p ≤ 240) && (betw a 0 (p - 1) && betw c 1 p)); rw [Bool.and_assoc (decide (1 ≤ p) && decide (p ≤ 240))]
theorem sat_is_row : ∀ ds q x, sp_is_row ds q x → ds.length = pr_is_row.length ∧ g_is_row ⟨fun _ => q .non, q, fun _ => False, fun _ => False, fun _ e => x e⟩ (startD nm_is_row ds) := by
  rintro ds q x ⟨d, rfl, hd, hq⟩
  have hp : plain d := okD_plain hd
  refine ⟨rfl, ?_⟩
  show g_is_row _ [.dt d]
  unfold g_is_row
  walk_at "pl"
  refine ⟨d, 3, rfl, hp, fun xs e => (okD_tup (e ▸ hd)).2, by decide, _, rfl, ?_⟩
  cases ht : tupLen d 3
  · rw [rowD_not3 ht] at hq
    exact wt (wT hq)
  obtain ⟨a, b, c, rfl⟩ := tupLen_3 ht
  have h4 : (okD a && (okD b && (okD c && true))) = true := (okD_tup hd).1
  simp only [Bool.and_eq_true, and_true] at h4
  have pa := okD_plain h4.1
  have pb := okD_plain h4.2.1
  have pc := okD_plain h4.2.2
  refine wf (ix_t (j := 1) rfl ⟨b, 1, 240, rfl, pb, _, rfl, ?_⟩)
  rw [rowD_3] at hq
  cases hb : betw b 1 240
  · rw [hb] at hq
    exact wt hq
  obtain ⟨p, rfl, h1, h2⟩ := betw_int hb
  rw [hb] at hq
  refine wf (ix_t (j := 0) rfl (ix_t (j := 1) rfl ⟨a, 0, p - 1, rfl, pa, _, rfl, ?_⟩))
  have hq : q (.bl (betw a 0 (p - 1) && betw c 1 p)) := hq
  cases ha : betw a 0 (p - 1)
  · rw [ha] at hq
    exact wf hq
  rw [ha] at hq
  exact wt (ix_t (j := 2) rfl (ix_t (j := 1) rfl ⟨c, 1, p, rfl, pc, hq⟩))
theorem costsD_not2 {d : D} (h : tupLen d 2 = false) : costsD d = false := by
  unfold costsD
  split
  · simp [tupLen] at h
  · rfl
theorem sat_are_costs : ∀ ds q x, sp_are_costs ds q x → ds.length = pr_are_costs.length ∧ g_are_costs ⟨fun _ => q .non, q, fun _ => False, fun _ => False, fun _ e => x e⟩ (startD nm_are_costs ds) := by
  rintro ds q x ⟨d, rfl, hd, hq⟩
  have hp : plain d := okD_plain hd
  refine ⟨rfl, ?_⟩
  show g_are_costs _ [.dt d, .no]
  unfold g_are_costs
  walk_at "pl"
  refine ⟨d, 2, rfl, hp, fun xs e => (okD_tup (e ▸ hd)).2, by decide, _, rfl, ?_⟩
  cases ht : tupLen d 2
  · rw [costsD_not2 ht] at hq
    exact wf hq
  obtain ⟨a, b, rfl⟩ := tupLen_2 ht
  have h4 : (okD a && (okD b && true)) = true := (okD_tup hd).1
  simp only [Bool.and_eq_true, and_true] at h4
  refine wt ⟨[a, b], rfl, ?_⟩
  rw [show [a, b] = [a, b].map id from (List.map_id _).symm]
  refine lc_map (e := id) (fun y => .bl (betw y 0 9)) [a, b] (fun y hy Q hQ => ?_) (limN (by simp)) ?_
  · have py : plain y := by
      simp only [List.mem_cons, List.mem_nil_iff, or_false] at hy
      rcases hy with rfl | rfl
      · exact okD_plain h4.1
      · exact okD_plain h4.2
    exact ⟨_, rfl, y, 0, 9, rfl, py, hQ⟩
  · refine ⟨[betw a 0 9, betw b 0 9], rfl, ?_⟩
    have e : ([betw a 0 9, betw b 0 9].all id) = costsD (.tup [a, b]) := by simp [costsD]
    rw [e]; exact hq
/-! rows that are read back -/
theorem asRw_rd : ∀ rs : List Rw, asRw (rs.map rd) = rs
  | [] => rfl
  | (o, p, u) :: r => by show (o, p, u) :: asRw (r.map rd) = _; rw [asRw_rd r]
theorem rowD_ok {d : D} (h : rowD d = true) : ∃ r : Rw, d = rd r ∧ RwOk r := by
  unfold rowD at h
  split at h
  · rename_i o p u
    simp only [Bool.and_eq_true, decide_eq_true_eq] at h
    obtain ⟨⟨⟨h1, h2⟩, h3⟩, h4⟩ := h
    obtain ⟨n, rfl, a1, a2⟩ := betw_int h3
    obtain ⟨m, rfl, b1, b2⟩ := betw_int h4
    exact ⟨(n, p, m), rfl, ⟨a1, by show n < p; omega, h2, b1, b2⟩⟩
  · cases h
theorem rows_ok : ∀ xs : List D, xs.all rowD = true → ∃ rs : List Rw, xs = rs.map rd ∧ ∀ r ∈ rs, RwOk r
  | [], _ => ⟨[], rfl, fun _ h => by cases h⟩
  | d :: r, h => by
    rw [List.all_cons, Bool.and_eq_true] at h
    obtain ⟨a, rfl, ha⟩ := rowD_ok h.1
    obtain ⟨rs, rfl, hr⟩ := rows_ok r h.2
    exact ⟨a :: rs, rfl, fun z hz => by
      rcases List.mem_cons.mp hz with rfl | hz
      · exact ha
      · exact hr z hz⟩
theorem planD_not2 {d : D} (h : tupLen d 2 = false) : planD d = false := by
  unfold planD
  split
  · simp [tupLen] at h
  · rfl
theorem planD_2 (a b : D) : planD (.tup [a, b]) = (costsD a && (tupIn b 1 4 && (match b with | .tup rs => rs.all rowD && decide (roundI (asRw rs) ≤ 240) | _ => false))) := by
  cases b <;> first | (simp [planD, tupIn]; done) | skip
  case tup rs =>
    show (costsD a && decide (1 ≤ rs.length) && decide (rs.length ≤ 4) && rs.all rowD && decide (roundI (asRw rs) ≤ 240)) = (costsD a && ((decide ((1 : Int) ≤ (rs.length : Int)) && decide ((rs.length : Int) ≤ 4)) && (rs.all rowD && decide (roundI (asRw rs) ≤ 240))))
    have e1 : decide ((1 : Int) ≤ (rs.length : Int)) = decide (1 ≤ rs.length) := decide_eq_decide.mpr (by omega)
    have e2 : decide ((rs.length : Int) ≤ 4) = decide (rs.length ≤ 4) := decide_eq_decide.mpr (by omega)
    rw [e1, e2]
    simp only [Bool.and_assoc]
theorem tupIn_tup {d : D} {lo hi : Int} (h : tupIn d lo hi = true) : ∃ xs, d = .tup xs ∧ lo ≤ (xs.length : Int) ∧ (xs.length : Int) ≤ hi := by
  cases d <;> first | (simp [tupIn] at h; done) | skip
  case tup xs =>
    simp only [tupIn, Bool.and_eq_true, decide_eq_true_eq] at h
    exact ⟨xs, rfl, h⟩
theorem sat_is_plan_form : ∀ ds q x, sp_is_plan_form ds q x → ds.length = pr_is_plan_form.length ∧ g_is_plan_form ⟨fun _ => q .non, q, fun _ => False, fun _ => False, fun _ e => x e⟩ (startD nm_is_plan_form ds) := by
  rintro ds q x ⟨d, rfl, hd, hq⟩
  have hp : plain d := okD_plain hd
  refine ⟨rfl, ?_⟩
  show g_is_plan_form _ [.dt d, .no]
  unfold g_is_plan_form
  walk_at "pl"
  refine ⟨d, 2, rfl, hp, fun xs e => (okD_tup (e ▸ hd)).2, by decide, _, rfl, ?_⟩
  cases ht : tupLen d 2
  · rw [planD_not2 ht] at hq
    exact wt (wT hq)
  obtain ⟨a, b, rfl⟩ := tupLen_2 ht
  have h4 : (okD a && (okD b && true)) = true := (okD_tup hd).1
  simp only [Bool.and_eq_true, and_true] at h4
  rw [planD_2] at hq
  refine wf (ix_t (j := 0) rfl ⟨a, rfl, h4.1, _, rfl, ?_⟩)
  cases hc : costsD a
  · rw [hc] at hq
    exact wt (wT hq)
  rw [hc] at hq
  refine wf (ix_t (j := 1) rfl ⟨b, 1, 4, rfl, okD_plain h4.2, _, rfl, ?_⟩)
  cases hi : tupIn b 1 4
  · rw [hi] at hq
    exact wt hq
  rw [hi] at hq
  obtain ⟨xs, rfl, hx1, hx2⟩ := tupIn_tup hi
  have hq : q (.bl (xs.all rowD && decide (roundI (asRw xs) ≤ 240))) := hq
  have hL := (okD_tup h4.2).1
  refine wf (ix_t (j := 1) rfl ⟨xs, rfl, ?_⟩)
  rw [show xs = xs.map id from (List.map_id _).symm]
  refine lc_map (e := id) (fun y => .bl (rowD y)) xs (fun y hy Q hQ => ?_) (limN (by omega)) ?_
  · exact ⟨_, rfl, y, rfl, okDL_mem xs y hL hy, hQ⟩
  refine ⟨xs.map rowD, by rw [List.map_map]; rfl, _, rfl, ?_⟩
  rw [List.all_map, List.map_id]
  have he : (xs.all (id ∘ rowD)) = xs.all rowD := rfl
  rw [he]
  cases ha : xs.all rowD
  · rw [ha] at hq
    exact wf hq
  rw [ha] at hq
  obtain ⟨rs, rfl, hr⟩ := rows_ok xs ha
  rw [asRw_rd] at hq
  rw [List.length_map] at hx2
  exact wt (ix_t (j := 1) rfl ⟨rs, rfl, by omega, fun r h => ⟨by have := hr r h; have := this.o0; have := (hr r h).op; omega, (hr r h).p⟩, trivial, hq⟩)
end K34

namespace K34
open PySem PySem.Spec L2 PL
local macro_rules | `(tactic| walk_at "pl") => `(tactic| simp only [sNil, sSeq, sRet, sDrop, sIf, sSet, sAsg, sNever, fVar, fC, fBin, fChain, fNot, fAnd, fOr, fNeg, fCB, fCall, fCallK, fNil, fCons, fStar, fTup, fLst, fIf, fSl, fPart, fNo, tB', tNot', tAnd', tOr', tYes', fLc, fItems, fRng1, fRng2, fZip,
  List.getElem?_cons_zero, List.getElem?_cons_succ, Option.some.injEq, Sl.dt.injEq, Sl.ow.injEq, exists_eq_left', exists_eq_left, List.set_cons_zero, List.set_cons_succ])
theorem fm_if {α β : Type} (p : α → Bool) (f : α → β) : ∀ l : List α, l.filterMap (fun a => if p a then some (f a) else none) = (l.filter p).map f
  | [] => rfl
  | a :: l => by
    rw [List.filterMap_cons, List.filter_cons]
    cases h : p a
    · simpa using fm_if p f l
    · simpa using fm_if p f l
theorem getD_rd {rs : List Rw} {i : Nat} (h : i < rs.length) : (rs.map rd).getD i .non = rd (rs.getD i (0, 1, 0)) := by
  rw [List.getD_eq_getElem?_getD, List.getElem?_map, List.getD_eq_getElem?_getD, List.getElem?_eq_getElem h]; rfl
theorem getD_mem {rs : List Rw} {i : Nat} (h : i < rs.length) : rs.getD i (0, 1, 0) ∈ rs := by
  rw [List.getD_eq_getElem?_getD, List.getElem?_eq_getElem h]; exact List.getElem_mem h
theorem sat_released_at : ∀ ds q x, sp_released_at ds q x → ds.length = pr_released_at.length ∧ g_released_at ⟨fun _ => q .non, q, fun _ => False, fun _ => False, fun _ e => x e⟩ (startD nm_released_at ds) := by
  rintro ds q x ⟨rs, t, he, hl, hp, hq⟩
  have key : ∀ d : D, (d = rwD rs ∨ d = .lst (rs.map rd)) → g_released_at ⟨fun _ => q .non, q, fun _ => False, fun _ => False, fun _ e => x e⟩ [.dt d, .dt (.int t), .no, .no, .no, .no] := by
    intro d hd
    unfold g_released_at
    walk_at "pl"
    unfold fEnum
    walk_at "pl"
    refine ⟨rs.map rd, by rcases hd with rfl | rfl <;> simp [rwD], ?_⟩
    unfold enums
    refine lc_fm (e := fun i => D.tup [.int (i : Nat), (rs.map rd).getD i .non]) (fun i => if relB t (rs.getD i (0, 1, 0)) then some (di i) else none) _ [] (fun i hi Q n h1 h2 => ?_) (by rw [List.length_range, List.length_map]; exact limN (by simp; omega)) ?_
    · rw [List.mem_range, List.length_map] at hi
      rw [getD_rd hi]
      have hr := hp _ (getD_mem hi)
      generalize rs.getD i (0, 1, 0) = r at *
      obtain ⟨o, p, u⟩ := r
      dsimp only at hr
      refine ⟨_, rfl, rfl, _, _, rfl, _, _, rfl, _, rfl, rfl, _, _, rfl, _, _, rfl, _, _, rfl, rfl, rfl, ?_⟩
      walk_at "pl"
      refine ⟨_, rfl, _, rfl, trivial, _, rfl, wq (fun h => ?_) (fun h => ⟨(fun z => by cases z), fun _ => h2 (by simp [relB, show ¬ o ≤ t from of_decide_eq_false h])⟩)⟩
      have ho : o ≤ t := of_decide_eq_true h
      refine ⟨_, rfl, _, rfl, _, rfl, mod_i (by omega) ⟨.i, _, rfl, ?_⟩⟩
      rw [eqv_int]
      refine ⟨fun h3 => ?_, fun h3 => ?_⟩
      · have h3 : (t - o) % p = 0 := of_decide_eq_true h3
        exact ⟨_, rfl, h1 _ (by simp [relB, h3, ho, di])⟩
      · have h3 : ¬ (t - o) % p = 0 := of_decide_eq_false h3
        exact h2 (by simp [relB, h3])
    · rw [List.nil_append, fm_if, List.length_map]
      exact hq
  rcases he with rfl | rfl
  · exact ⟨rfl, key _ (.inl rfl)⟩
  · exact ⟨rfl, key _ (.inr rfl)⟩
theorem sat_due_at : ∀ ds q x, sp_due_at ds q x → ds.length = pr_due_at.length ∧ g_due_at ⟨fun _ => q .non, q, fun _ => False, fun _ => False, fun _ e => x e⟩ (startD nm_due_at ds) := by
  rintro ds q x ⟨rs, t, rfl, hl, hp, hq⟩
  refine ⟨rfl, ?_⟩
  show g_due_at _ [.dt (rwD rs), .dt (.int t), .no, .no, .no]
  unfold g_due_at
  walk_at "pl"
  refine ⟨rs.map rd, rfl, ?_⟩
  refine lc_map (e := rd) (fun r => rd (shiftR r)) rs (fun r hr Q hQ => ?_) (limN (by omega)) ?_
  · obtain ⟨o, p, u⟩ := r
    refine ⟨_, rfl, rfl, _, _, rfl, _, _, rfl, _, _, rfl, rfl, ?_⟩
    walk_at "pl"
    exact ⟨_, rfl, _, rfl, add_int ⟨_, rfl, _, rfl, limN (by simp), hQ⟩⟩
  · refine ⟨rs.map shiftR, t, .inr (by rw [List.map_map]; rfl), by rw [List.length_map]; exact hl, fun r hr => ?_, hq⟩
    obtain ⟨s, hs, rfl⟩ := List.mem_map.mp hr
    exact hp s hs
theorem rel_len (rs : List Rw) (t : Int) : (relAt rs t).length ≤ rs.length := by
  unfold relAt
  exact Nat.le_trans (List.length_filter_le ..) (by rw [List.length_range]; exact Nat.le_refl _)
theorem rel_lt {rs : List Rw} {t : Int} {i : Nat} (h : i ∈ relAt rs t) : i < rs.length := by
  unfold relAt at h
  exact List.mem_range.mp (List.mem_filter.mp h).1
theorem due_len (rs : List Rw) (t : Int) : (dueAt rs t).length ≤ rs.length := by
  have := rel_len (rs.map shiftR) t
  rw [List.length_map] at this; exact this
theorem cost_di {n : Nat} (h : n < 1000000000000) : cost (di n) = 1 := cost_int (by omega)
theorem tame_dis {l : List Nat} (h : ∀ n ∈ l, n < 1000000000000) (hl : l.length ≤ 1000) : tame (.lst (l.map di)) := by
  have h1 : costL (l.map di) ≤ (l.map di).length * 1 := costL_le _ fun d hd => by
    obtain ⟨n, hn, rfl⟩ := List.mem_map.mp hd
    rw [cost_di (h n hn)]; exact Nat.le_refl 1
  have h2 : depL (l.map di) ≤ 0 := depL_le _ fun d hd => by
    obtain ⟨n, hn, rfl⟩ := List.mem_map.mp hd
    exact Nat.le_refl 0
  rw [List.length_map] at h1
  refine ⟨?_, ?_⟩
  · show costL (l.map di) + 1 ≤ _
    omega
  · show depL (l.map di) + 1 ≤ _
    omega
theorem ne_empty (l : List Nat) : eqvD (.lst (l.map di)) (.lst []) = l.isEmpty := by
  cases l with
  | nil => rfl
  | cons a r => rfl
theorem sat_is_moment : ∀ ds q x, sp_is_moment ds q x → ds.length = pr_is_moment.length ∧ g_is_moment ⟨fun _ => q .non, q, fun _ => False, fun _ => False, fun _ e => x e⟩ (startD nm_is_moment ds) := by
  rintro ds q x ⟨rs, t, rfl, hl, hp, hq⟩
  refine ⟨rfl, ?_⟩
  show g_is_moment _ [.dt (rwD rs), .dt (.int t)]
  unfold g_is_moment
  walk_at "pl"
  have te : tame (.lst []) := ⟨by decide, by decide⟩
  have small : ∀ l : List Nat, l.length ≤ 4 → (∀ i ∈ l, i < 4) → tame (.lst (l.map di)) := fun l h1 h2 => tame_dis (fun n hn => by have := h2 n hn; omega) (by omega)
  have t1 := small (relAt rs t) (Nat.le_trans (rel_len rs t) hl) fun i hi => by have := rel_lt hi; omega
  have t2 := small (dueAt rs t) (Nat.le_trans (due_len rs t) hl) fun i hi => by have := rel_lt (rs := rs.map shiftR) hi; rw [List.length_map] at this; omega
  refine ⟨rs, t, .inl rfl, hl, hp, limN (by simp), .t t1 te, _, rfl, ?_⟩
  rw [ne_empty]
  unfold momB at hq
  cases h1 : (relAt rs t).isEmpty
  · rw [h1] at hq
    exact wt hq
  rw [h1] at hq
  refine wf ⟨rs, t, rfl, hl, hp, limN (by simp), .t t2 te, ?_⟩
  rw [ne_empty]
  exact hq
end K34

namespace K34
open PySem PySem.Spec L2 PL
local macro_rules | `(tactic| walk_at "pl") => `(tactic| simp only [sNil, sSeq, sRet, sDrop, sIf, sSet, sAsg, sNever, fVar, fC, fBin, fChain, fNot, fAnd, fOr, fNeg, fCB, fCall, fCallK, fNil, fCons, fStar, fTup, fLst, fIf, fSl, fPart, fNo, tB', tNot', tAnd', tOr', tYes', fLc, fItems, fRng1, fRng2, fZip,
  List.getElem?_cons_zero, List.getElem?_cons_succ, Option.some.injEq, Sl.dt.injEq, Sl.ow.injEq, exists_eq_left', exists_eq_left, List.set_cons_zero, List.set_cons_succ])
theorem lcIn_map {β : Type} {t : Tg} {f : PX} {own : List Nat} {ρ : Ev} {k : List D → Prop} {e : β → D} (F : β → D) : ∀ (l : List β) (acc : List D),
    (∀ b ∈ l, ∀ Q : D → Prop, Q (F b) → tgE t (e b) (wipeE ρ own) fun ρ2 => f ρ2 Q fun _ => False) → acc.length + l.length ≤ LIM → k (acc ++ l.map F) → fLcIn t tYes' f own ρ k (l.map e) acc
  | [], acc, _, _, h => by
    show k acc
    simpa using h
  | b :: l, acc, hs, hl, h => by
    rw [List.length_cons] at hl
    show tgE t (e b) (wipeE ρ own) fun ρ2 => (true = true → f ρ2 (fun y => acc.length < LIM ∧ fLcIn t tYes' f own ρ k (l.map e) (acc ++ [y])) fun _ => False) ∧ (true = false → fLcIn t tYes' f own ρ k (l.map e) acc)
    refine tgE_mono t _ _ _ _ (fun ρ2 h3 => ⟨fun _ => h3, fun z => by cases z⟩) (hs b (List.mem_cons_self ..) _ ⟨by omega, ?_⟩)
    refine lcIn_map F l (acc ++ [F b]) (fun c hc => hs c (List.mem_cons_of_mem _ hc)) (by rw [List.length_append, List.length_singleton]; omega) ?_
    rw [List.append_assoc]; exact h
theorem lc2_map {α β : Type} {t t1 : Tg} {fi1 : PAx} {f : PX} {own own1 : List Nat} {ρ : Ev} {q : D → Prop} {e : α → D} {e1 : β → D} (G : α → List β) (F : α → β → D) : ∀ (l : List α) (acc : List D),
    (∀ a ∈ l, tgE t (e a) (wipeE ρ own) fun ρ2 => (∀ post : List D → Prop, post ((G a).map e1) → fi1 ρ2 post fun _ => False) ∧ ∀ b ∈ G a, ∀ Q : D → Prop, Q (F a b) → tgE t1 (e1 b) (wipeE ρ2 own1) fun ρ3 => f ρ3 Q fun _ => False) →
    acc.length + (l.flatMap G).length ≤ LIM → q (.lst (acc ++ l.flatMap fun a => (G a).map (F a))) → fLc2Loop t tYes' fi1 t1 tYes' f own own1 ρ q (l.map e) acc
  | [], acc, _, _, h => by
    show q (.lst acc)
    simpa using h
  | a :: l, acc, hs, hl, h => by
    rw [List.flatMap_cons, List.length_append] at hl
    show tgE t (e a) (wipeE ρ own) fun ρ2 => (true = true → fi1 ρ2 (fun ds1 => fLcIn t1 tYes' f own1 ρ2 (fun acc2 => fLc2Loop t tYes' fi1 t1 tYes' f own own1 ρ q (l.map e) acc2) ds1 acc) fun _ => False) ∧ (true = false → fLc2Loop t tYes' fi1 t1 tYes' f own own1 ρ q (l.map e) acc)
    refine tgE_mono t _ _ _ _ (fun ρ2 h3 => ⟨fun _ => h3.1 _ ?_, fun z => by cases z⟩) (hs a (List.mem_cons_self ..))
    refine lcIn_map (F a) (G a) acc h3.2 (by omega) ?_
    refine lc2_map G F l _ (fun b hb => hs b (List.mem_cons_of_mem _ hb)) (by rw [List.length_append, List.length_map]; omega) ?_
    rw [List.flatMap_cons] at h
    rw [List.append_assoc]; exact h
theorem jobs_len (rs : List Rw) : ∀ (l : List Nat), (l.flatMap fun (r : Nat) => relAt rs (r : Int)).length ≤ l.length * rs.length
  | [] => Nat.zero_le _
  | a :: l => by
    have := jobs_len rs l
    have h2 := rel_len rs (a : Int)
    rw [List.flatMap_cons, List.length_append, List.length_cons, Nat.add_mul, Nat.one_mul]
    omega
theorem sat_jobs_before : ∀ ds q x, sp_jobs_before ds q x → ds.length = pr_jobs_before.length ∧ g_jobs_before ⟨fun _ => q .non, q, fun _ => False, fun _ => False, fun _ e => x e⟩ (startD nm_jobs_before ds) := by
  rintro ds q x ⟨rs, t, rfl, hl, hp, ht, hq⟩
  refine ⟨rfl, ?_⟩
  show g_jobs_before _ [.dt (rwD rs), .dt (di t), .no, .no]
  unfold g_jobs_before
  walk_at "pl"
  unfold fLc2
  walk_at "pl"
  refine ⟨(t : Int), rfl, by omega, by omega, ?_⟩
  unfold rng
  rw [Int.toNat_natCast]
  refine lc2_map (e := fun (i : Nat) => D.int (0 + (i : Int))) (e1 := di) (fun (r : Nat) => relAt rs (r : Int)) (fun r i => jd (r, i)) (List.range t) [] (fun r hr => ?_) ?_ ?_
  · refine ⟨fun post hpost => ?_, fun b hb Q hQ => ?_⟩
    · walk_at "pl"
      refine ⟨_, rfl, _, rfl, rs, (r : Int), .inl (by rw [Int.zero_add]), hl, hp, _, rfl, hpost⟩
    · simp only [tgE]
      walk_at "pl"
      refine ⟨_, rfl, _, rfl, limN (by simp), ?_⟩
      rw [Int.zero_add]
      exact hQ
  · have h1 := jobs_len rs (List.range t)
    rw [List.length_range] at h1
    have h2 : t * rs.length ≤ 2000 * 4 := Nat.mul_le_mul ht hl
    have : LIM = 1000000 := rfl
    simp only [List.length_nil]
    omega
  · rw [List.nil_append]
    have e : (List.range t).flatMap (fun (a : Nat) => (relAt rs (a : Int)).map fun i => jd (a, i)) = (jobsL rs t).map jd := by
      unfold jobsL
      rw [List.map_flatMap]
      congr 1
      funext a
      rw [List.map_map]; rfl
    rw [e]; exact hq
theorem sat_times_by : ∀ ds q x, sp_times_by ds q x → ds.length = pr_times_by.length ∧ g_times_by ⟨fun _ => q .non, q, fun _ => False, fun _ => False, fun _ e => x e⟩ (startD nm_times_by ds) := by
  rintro ds q x ⟨rs, rfl, hl, hp, hr, hq⟩
  refine ⟨rfl, ?_⟩
  show g_times_by _ [.dt (rwD rs), .no, .no]
  unfold g_times_by
  walk_at "pl"
  have hpos : 0 < roundI rs := by have := round_pos rs rs.length (fun r h => (hp r h).1); rwa [List.take_length] at this
  refine ⟨rs, rfl, hl, hp, _, rfl, by omega, by omega, ?_⟩
  unfold rng
  refine lc_fm (e := fun (i : Nat) => D.int (0 + (i : Int))) (fun i => if decide (i = 0) || momB rs ((i : Int) + 2 * roundI rs) then some (di i) else none) _ [] (fun i hi Q n h1 h2 => ?_) (by rw [List.length_range]; exact limN (by simp; omega)) ?_
  · simp only [tgE]
    walk_at "pl"
    refine ⟨_, rfl, .i, _, rfl, ?_⟩
    rw [eqv_int]
    refine wq (fun h => ?_) (fun h => ?_)
    · have h : 0 + (i : Int) = 0 := of_decide_eq_true h
      refine ⟨fun _ => ⟨_, rfl, h1 _ ?_⟩, fun z => by cases z⟩
      have h : i = 0 := by omega
      subst h
      rfl
    · have h : ¬ (0 + (i : Int) = 0) := of_decide_eq_false h
      have h : ¬ i = 0 := by omega
      refine ⟨_, rfl, _, rfl, _, rfl, mul_i (.inl (by decide)) (add_int ⟨rs, _, rfl, hl, fun r hr => (hp r hr).1, _, rfl, ?_⟩)⟩
      rw [Int.zero_add]
      rw [decide_eq_false h, Bool.false_or] at h1 h2
      refine wq (fun h3 => ⟨_, rfl, h1 _ ?_⟩) (fun h3 => h2 ?_)
      · rw [h3]; rfl
      · rw [h3]; rfl
  · rw [List.nil_append, fm_if]
    exact hq
end K34

namespace K34
open PySem PySem.Spec L2 PL
local macro_rules | `(tactic| walk_at "pl") => `(tactic| simp only [sNil, sSeq, sRet, sDrop, sIf, sSet, sAsg, sNever, fVar, fC, fBin, fChain, fNot, fAnd, fOr, fNeg, fCB, fCall, fCallK, fNil, fCons, fStar, fTup, fLst, fIf, fSl, fPart, fNo, tB', tNot', tAnd', tOr', tYes', fLc, fItems, fRng1, fRng2, fZip,
  List.getElem?_cons_zero, List.getElem?_cons_succ, Option.some.injEq, Sl.dt.injEq, Sl.ow.injEq, exists_eq_left', exists_eq_left, List.set_cons_zero, List.set_cons_succ])
/-! right plans -/
theorem lcm_dvd {f p M : Int} (hf : 0 < f) (hp : 0 < p) (hM : 0 < M) (h1 : f ∣ M) (h2 : p ∣ M) : lcmF f p ∣ M := by
  obtain ⟨F, rfl⟩ := Int.eq_ofNat_of_zero_le (Int.le_of_lt hf)
  obtain ⟨P, rfl⟩ := Int.eq_ofNat_of_zero_le (Int.le_of_lt hp)
  obtain ⟨N, rfl⟩ := Int.eq_ofNat_of_zero_le (Int.le_of_lt hM)
  have d1 : F ∣ N := Int.natCast_dvd_natCast.mp h1
  have d2 : P ∣ N := Int.natCast_dvd_natCast.mp h2
  have e : lcmF (F : Int) (P : Int) = ((Nat.lcm F P : Nat) : Int) := by
    show ((F / Nat.gcd F P * P : Nat) : Int) = _
    rw [Nat.lcm, Nat.div_mul_right_comm (Nat.gcd_dvd_left F P)]
  rw [e]
  exact Int.natCast_dvd_natCast.mpr (Nat.lcm_dvd d1 d2)
theorem round_dvd (rs : List Rw) (M : Int) (hM : 0 < M) (h : ∀ r ∈ rs, 1 ≤ r.2.1 ∧ r.2.1 ∣ M) : ∀ n, roundI (rs.take n) ∣ M := by
  intro n
  induction n with
  | zero => exact ⟨M, by show M = 1 * M; omega⟩
  | succ n ih =>
    cases e : rs[n]? with
    | none => rw [List.take_succ, e]; simpa using ih
    | some r =>
      rw [round_next e]
      have hr := h r (List.mem_of_getElem? e)
      exact lcm_dvd (round_pos rs n fun r h2 => (h r h2).1) (by omega) hM ih hr.2
section
variable {a b : Int} {rs : List Rw}
theorem PlOk.per (h : PlOk a b rs) : ∀ r ∈ rs, 1 ≤ r.2.1 ∧ r.2.1 ≤ 48 := fun r hr => by
  obtain ⟨M, h1, h2, h3⟩ := h.div
  have := Int.le_of_dvd h1 (h3 r hr)
  have := h.big r hr
  omega
theorem PlOk.round (h : PlOk a b rs) : 0 < roundI rs ∧ roundI rs ≤ 48 := by
  obtain ⟨M, h1, h2, h3⟩ := h.div
  have e := round_dvd rs M h1 (fun r hr => ⟨(h.per r hr).1, h3 r hr⟩) rs.length
  have p := round_pos rs rs.length (fun r hr => (h.per r hr).1)
  rw [List.take_length] at e p
  have := Int.le_of_dvd h1 e
  omega
theorem rowD_rd {r : Rw} (h : RwOk r) : rowD (rd r) = true := by
  have h1 := h.o0
  have h2 := h.op
  have h3 := h.p
  have h4 := h.u1
  have h5 := h.up
  show rowD (.tup [.int r.1, .int r.2.1, .int r.2.2]) = true
  simp only [rowD, betw, Bool.and_eq_true, decide_eq_true_eq]
  omega
theorem rows_all (h : ∀ r ∈ rs, RwOk r) : (rs.map rd).all rowD = true := by
  rw [List.all_map, List.all_eq_true]
  exact fun r hr => rowD_rd (h r hr)
theorem okD_rows (h : rs.length ≤ 1000) : okD (rwD rs) = true := by
  show (okDL (rs.map rd) && decide ((rs.map rd).length ≤ 1000)) = true
  rw [Bool.and_eq_true, decide_eq_true_eq, List.length_map]
  exact ⟨okDL_all _ fun y hy => by
    obtain ⟨r, hr, rfl⟩ := List.mem_map.mp hy
    rfl, h⟩
theorem PlOk.plan (h : PlOk a b rs) : planD (pd a b rs) = true := by
  show planD (.tup [.tup [.int a, .int b], .tup (rs.map rd)]) = true
  have h1 := h.a0
  have h2 := h.a9
  have h3 := h.b0
  have h4 := h.b9
  have h5 := h.n1
  have h6 := h.n3
  have h7 := h.round.2
  simp only [planD, costsD, betw, Bool.and_eq_true, decide_eq_true_eq, List.length_map, asRw_rd]
  exact ⟨⟨⟨⟨⟨⟨h1, h2⟩, h3, h4⟩, h5⟩, h6⟩, rows_all h.each⟩, by omega⟩
theorem PlOk.okd (h : PlOk a b rs) : okD (pd a b rs) = true := by
  have e := okD_rows (rs := rs) (by have := h.n3; omega)
  show ((true && (okD (rwD rs) && true)) && decide (2 ≤ 1000)) = true
  rw [e]; rfl
end
theorem sat_round_of : ∀ ds q x, sp_round_of ds q x → ds.length = pr_round_of.length ∧ g_round_of ⟨fun _ => q .non, q, fun _ => False, fun _ => False, fun _ e => x e⟩ (startD nm_round_of ds) := by
  rintro ds q x ⟨a, b, rs, rfl, h, hq⟩
  refine ⟨rfl, ?_⟩
  show g_round_of _ [.dt (pd a b rs)]
  unfold g_round_of
  walk_at "pl"
  exact ⟨_, rfl, h.okd, h.plan, ix_t (j := 1) rfl ⟨rs, rfl, h.n3, fun r hr => by have := h.per r hr; omega, hq⟩⟩
theorem sat_times : ∀ ds q x, sp_times ds q x → ds.length = pr_times.length ∧ g_times ⟨fun _ => q .non, q, fun _ => False, fun _ => False, fun _ e => x e⟩ (startD nm_times ds) := by
  rintro ds q x ⟨a, b, rs, rfl, h, hq⟩
  refine ⟨rfl, ?_⟩
  show g_times _ [.dt (pd a b rs)]
  unfold g_times
  walk_at "pl"
  exact ⟨_, rfl, h.okd, h.plan, ix_t (j := 1) rfl ⟨rs, rfl, h.n3, fun r hr => by have := h.per r hr; omega, by have := h.round; omega, hq⟩⟩
theorem plain_di (n : Nat) : plain (di n) := by simp [plain, di, tyOf, kinds]
theorem betw_di {n : Nat} (h : n ≤ 2000) : betw (di n) 0 2000 = true := by
  simp only [betw, di, Bool.and_eq_true, decide_eq_true_eq]; omega
theorem sat_releases : ∀ ds q x, sp_releases ds q x → ds.length = pr_releases.length ∧ g_releases ⟨fun _ => q .non, q, fun _ => False, fun _ => False, fun _ e => x e⟩ (startD nm_releases ds) := by
  rintro ds q x ⟨a, b, rs, t, rfl, h, ht, hq⟩
  refine ⟨rfl, ?_⟩
  show g_releases _ [.dt (pd a b rs), .dt (di t)]
  unfold g_releases
  walk_at "pl"
  exact ⟨_, rfl, h.okd, h.plan, _, rfl, plain_di t, betw_di ht, ix_t (j := 1) rfl ⟨rs, t, .inl rfl, h.n3, fun r hr => (h.per r hr).1, hq⟩⟩
theorem sat_dues : ∀ ds q x, sp_dues ds q x → ds.length = pr_dues.length ∧ g_dues ⟨fun _ => q .non, q, fun _ => False, fun _ => False, fun _ e => x e⟩ (startD nm_dues ds) := by
  rintro ds q x ⟨a, b, rs, t, rfl, h, ht, hq⟩
  refine ⟨rfl, ?_⟩
  show g_dues _ [.dt (pd a b rs), .dt (di t)]
  unfold g_dues
  walk_at "pl"
  exact ⟨_, rfl, h.okd, h.plan, _, rfl, plain_di t, betw_di ht, ix_t (j := 1) rfl ⟨rs, t, rfl, h.n3, fun r hr => (h.per r hr).1, hq⟩⟩
theorem sat_jobs_ahead : ∀ ds q x, sp_jobs_ahead ds q x → ds.length = pr_jobs_ahead.length ∧ g_jobs_ahead ⟨fun _ => q .non, q, fun _ => False, fun _ => False, fun _ e => x e⟩ (startD nm_jobs_ahead ds) := by
  rintro ds q x ⟨a, b, rs, t, rfl, h, ht, hq⟩
  refine ⟨rfl, ?_⟩
  show g_jobs_ahead _ [.dt (pd a b rs), .dt (di t)]
  unfold g_jobs_ahead
  walk_at "pl"
  exact ⟨_, rfl, h.okd, h.plan, _, rfl, plain_di t, betw_di ht, ix_t (j := 1) rfl ⟨rs, t, rfl, h.n3, fun r hr => (h.per r hr).1, ht, hq⟩⟩
theorem sat_are_profiles : ∀ ds q x, sp_are_profiles ds q x → ds.length = pr_are_profiles.length ∧ g_are_profiles ⟨fun _ => q .non, q, fun _ => False, fun _ => False, fun _ e => x e⟩ (startD nm_are_profiles ds) := by
  rintro ds q x ⟨a, b, rs, d, rfl, h, hd, hq⟩
  refine ⟨rfl, ?_⟩
  show g_are_profiles _ [.dt (pd a b rs), .dt d]
  unfold g_are_profiles
  walk_at "pl"
  exact ⟨_, rfl, h.okd, h.plan, a, b, rs, d, rfl, h, hd, hq⟩
theorem sat__law_round : ∀ ds q x, sp__law_round ds q x → ds.length = pr__law_round.length ∧ g__law_round ⟨fun _ => q .non, q, fun _ => False, fun _ => False, fun _ e => x e⟩ (startD nm__law_round ds) := by
  rintro ds q x ⟨a, b, rs, rfl, h, hq⟩
  refine ⟨rfl, ?_⟩
  show g__law_round _ [.dt (rwD rs), .no, .no, .no, .no]
  unfold g__law_round
  walk_at "pl"
  unfold sFor
  walk_at "pl"
  refine ⟨rs.map rd, rfl, ?_⟩
  refine loop_inv (fun i ρ => ∃ y z w, ρ = [.dt (rwD rs), .dt (.int (roundI (rs.take i))), y, z, w]) _ 0 _ ⟨_, _, _, rfl⟩ ?_ ?_
  · rintro i d ρ hd ⟨y, z, w, rfl⟩ N hN
    obtain ⟨r, hr, rfl, hm⟩ := row_at hd
    have hr1 := h.per r hm
    rw [Nat.zero_add] at *
    refine ⟨_, rfl, rfl, _, _, rfl, _, _, rfl, _, _, rfl, rfl, ?_⟩
    walk_at "pl"
    have hpos := round_pos rs i (fun r hr => (h.per r hr).1)
    have hg := gcd_pos (f := roundI (rs.take i)) (p := r.2.1) (by omega)
    refine mul_i (.inr ⟨by omega, by omega⟩) ⟨_, _, rfl, by omega, by omega, by omega, div_i ⟨by omega, by omega⟩ (hN _ ⟨.dt (.int r.1), .dt (.int r.2.1), .dt (.int r.2.2), ?_⟩)⟩
    have e : roundI (rs.take i) * r.2.1 / (Int.gcd (roundI (rs.take i)) r.2.1 : Int) = roundI (rs.take (i + 1)) := by
      rw [round_next hr]
      exact Int.mul_ediv_assoc' _ (Int.gcd_dvd_left ..)
    rw [e]
  · rintro ρ ⟨y, z, w, rfl⟩
    rw [List.length_map, Nat.zero_add, List.take_length]
    walk_at "pl"
    exact hq
end K34

namespace K34
open PySem PySem.Spec L2 PL
local macro_rules | `(tactic| walk_at "pl") => `(tactic| simp only [sNil, sSeq, sRet, sDrop, sIf, sSet, sAsg, sNever, fVar, fC, fBin, fChain, fNot, fAnd, fOr, fNeg, fCB, fCall, fCallK, fNil, fCons, fStar, fTup, fLst, fIf, fSl, fPart, fNo, tB', tNot', tAnd', tOr', tYes', fLc, fItems, fRng1, fRng2, fZip,
  List.getElem?_cons_zero, List.getElem?_cons_succ, Option.some.injEq, Sl.dt.injEq, Sl.ow.injEq, exists_eq_left', exists_eq_left, List.set_cons_zero, List.set_cons_succ])
theorem sub_int {i j : Int} {q : D → Prop} (h : q (.int (i - j))) : subG (.int i) (.int j) q := h
theorem rel_take (rs : List Rw) (p : Nat → Bool) (i : Nat) : (List.range (i + 1)).filter p = (List.range i).filter p ++ if p i then [i] else [] := by
  rw [List.range_succ, List.filter_append]
  congr 1
  cases h : p i <;> simp [h]
theorem rng_at {n i : Nat} {d : D} (h : ((List.range n).map fun (i : Nat) => D.int (0 + (i : Int)))[i]? = some d) : i < n ∧ d = .int (i : Int) := by
  rw [List.getElem?_map] at h
  obtain ⟨k, hk, rfl⟩ := Option.map_eq_some_iff.mp h
  obtain ⟨h1, h2⟩ := List.getElem?_eq_some_iff.mp hk
  rw [List.length_range] at h1
  rw [List.getElem_range] at h2
  subst h2
  exact ⟨h1, by rw [Int.zero_add]⟩
theorem row_ix {rs : List Rw} {i : Nat} (h : i < rs.length) : (rs.map rd)[i]? = some (rd (rs.getD i (0, 1, 0))) := by
  rw [List.getElem?_map, List.getD_eq_getElem?_getD, List.getElem?_eq_getElem h]; rfl
theorem filt_le (p : Nat → Bool) (i : Nat) : ((List.range i).filter p).length ≤ i := Nat.le_trans (List.length_filter_le ..) (by rw [List.length_range]; exact Nat.le_refl _)
theorem sat__law_released : ∀ ds q x, sp__law_released ds q x → ds.length = pr__law_released.length ∧ g__law_released ⟨fun _ => q .non, q, fun _ => False, fun _ => False, fun _ e => x e⟩ (startD nm__law_released ds) := by
  rintro ds q x ⟨a, b, rs, t, rfl, h, hq⟩
  refine ⟨rfl, ?_⟩
  show g__law_released _ [.dt (pd a b rs), .dt (di t), .no, .no, .no, .no, .no]
  unfold g__law_released
  unfold sOw
  walk_at "pl"
  refine ⟨limN (by simp), ?_⟩
  unfold sFor
  walk_at "pl"
  refine ix_t (j := 1) rfl ⟨((rs.map rd).length : Int), rfl, by rw [List.length_map]; have := h.n3; omega, by rw [List.length_map]; have := h.n3; omega, ?_⟩
  unfold rng
  rw [Int.toNat_natCast, List.length_map]
  refine loop_inv (fun i ρ => ∃ u v w z, ρ = [.dt (pd a b rs), .dt (di t), .ow (((List.range i).filter fun i => relB t (rs.getD i (0, 1, 0))).map di), u, v, w, z]) _ 0 _ ⟨_, _, _, _, rfl⟩ ?_ ?_
  · rintro i d ρ hd ⟨u, v, w, z, rfl⟩ N hN
    obtain ⟨hi, rfl⟩ := rng_at hd
    have hr := h.per _ (getD_mem hi)
    have ix := row_ix hi
    have hN : ∀ (l : List D) (u v w z : Sl), l = ((List.range i).filter (fun i => relB t (rs.getD i (0, 1, 0))) ++ if relB t (rs.getD i (0, 1, 0)) then [i] else []).map di → N [.dt (pd a b rs), .dt (di t), .ow l, u, v, w, z] := fun l u v w z e => hN _ ⟨u, v, w, z, by rw [e, ← rel_take rs (fun i => relB t (rs.getD i (0, 1, 0))) i, Nat.zero_add]⟩
    rw [Nat.zero_add]
    have fl := filt_le (fun i => relB t (rs.getD i (0, 1, 0))) i
    generalize rs.getD i (0, 1, 0) = r at *
    obtain ⟨o, p, e⟩ := r
    dsimp only at hr
    unfold tgE
    walk_at "pl"
    refine ix_t (j := 1) rfl (ix_t (j := i) ix ⟨_, rfl, rfl, _, _, rfl, _, _, rfl, _, _, rfl, rfl, ?_⟩)
    walk_at "pl"
    refine ⟨trivial, _, rfl, wq (fun h1 => ?_) (fun h1 => ⟨(fun z => by cases z), fun _ => hN _ _ _ _ _ ?_⟩)⟩
    · have h1 : o ≤ (t : Int) := of_decide_eq_true h1
      refine toI (mod_i (by omega) ⟨.i, _, rfl, ?_⟩)
      rw [eqv_int]
      refine wq (fun h2 => ?_) (fun h2 => hN _ _ _ _ _ ?_)
      · have h2 : ((t : Int) - o) % p = 0 := of_decide_eq_true h2
        unfold sApp
        walk_at "pl"
        refine ⟨by rw [List.length_map]; have := h.n3; have : LIM = 1000000 := rfl; omega, hN _ _ _ _ _ ?_⟩
        rw [show relB t (o, p, e) = true by simp [relB, h1, h2], if_pos rfl, List.map_append]
        rfl
      · have h2 : ¬ ((t : Int) - o) % p = 0 := of_decide_eq_false h2
        rw [show relB t (o, p, e) = false by simp [relB, h2], if_neg Bool.false_ne_true, List.append_nil]
    · have h1 : ¬ o ≤ (t : Int) := of_decide_eq_false h1
      rw [show relB t (o, p, e) = false by simp [relB, h1], if_neg Bool.false_ne_true, List.append_nil]
  · rintro ρ ⟨u, v, w, z, rfl⟩
    unfold sFrz
    walk_at "pl"
    rw [List.length_map, List.length_range, Nat.zero_add]
    exact hq
theorem sat__law_due_now : ∀ ds q x, sp__law_due_now ds q x → ds.length = pr__law_due_now.length ∧ g__law_due_now ⟨fun _ => q .non, q, fun _ => False, fun _ => False, fun _ e => x e⟩ (startD nm__law_due_now ds) := by
  rintro ds q x ⟨a, b, rs, t, rfl, h, hq⟩
  refine ⟨rfl, ?_⟩
  show g__law_due_now _ [.dt (pd a b rs), .dt (di t), .no, .no, .no, .no, .no]
  unfold g__law_due_now
  unfold sOw
  walk_at "pl"
  refine ⟨limN (by simp), ?_⟩
  unfold sFor
  walk_at "pl"
  refine ix_t (j := 1) rfl ⟨((rs.map rd).length : Int), rfl, by rw [List.length_map]; have := h.n3; omega, by rw [List.length_map]; have := h.n3; omega, ?_⟩
  unfold rng
  rw [Int.toNat_natCast, List.length_map]
  refine loop_inv (fun i ρ => ∃ u v w z, ρ = [.dt (pd a b rs), .dt (di t), .ow (((List.range i).filter fun i => relB t (shiftR (rs.getD i (0, 1, 0)))).map di), u, v, w, z]) _ 0 _ ⟨_, _, _, _, rfl⟩ ?_ ?_
  · rintro i d ρ hd ⟨u, v, w, z, rfl⟩ N hN
    obtain ⟨hi, rfl⟩ := rng_at hd
    have hr := h.per _ (getD_mem hi)
    have ix := row_ix hi
    have hN : ∀ (l : List D) (u v w z : Sl), l = ((List.range i).filter (fun i => relB t (shiftR (rs.getD i (0, 1, 0)))) ++ if relB t (shiftR (rs.getD i (0, 1, 0))) then [i] else []).map di → N [.dt (pd a b rs), .dt (di t), .ow l, u, v, w, z] := fun l u v w z e => hN _ ⟨u, v, w, z, by rw [e, ← rel_take rs (fun i => relB t (shiftR (rs.getD i (0, 1, 0)))) i, Nat.zero_add]⟩
    rw [Nat.zero_add]
    have fl := filt_le (fun i => relB t (shiftR (rs.getD i (0, 1, 0)))) i
    generalize rs.getD i (0, 1, 0) = r at *
    obtain ⟨o, p, e⟩ := r
    dsimp only at hr
    unfold tgE
    walk_at "pl"
    refine ix_t (j := 1) rfl (ix_t (j := i) ix ⟨_, rfl, rfl, _, _, rfl, _, _, rfl, _, _, rfl, rfl, ?_⟩)
    walk_at "pl"
    refine ⟨trivial, _, rfl, wq (fun h1 => ?_) (fun h1 => ⟨(fun z => by cases z), fun _ => hN _ _ _ _ _ ?_⟩)⟩
    · have h1 : o + e ≤ (t : Int) := of_decide_eq_true h1
      refine sub_int (i := (t : Int)) (sub_int (toI (mod_i (by omega) ⟨.i, _, rfl, ?_⟩)))
      rw [eqv_int]
      refine wq (fun h2 => ?_) (fun h2 => hN _ _ _ _ _ ?_)
      · have h2 : ((t : Int) - o - e) % p = 0 := of_decide_eq_true h2
        unfold sApp
        walk_at "pl"
        refine ⟨by rw [List.length_map]; have := h.n3; have : LIM = 1000000 := rfl; omega, hN _ _ _ _ _ ?_⟩
        rw [show relB t (shiftR (o, p, e)) = true by simp [relB, shiftR, h1, ← Int.sub_sub, h2], if_pos rfl, List.map_append]
        rfl
      · have h2 : ¬ ((t : Int) - o - e) % p = 0 := of_decide_eq_false h2
        rw [show relB t (shiftR (o, p, e)) = false by simp [relB, shiftR, ← Int.sub_sub, h2], if_neg Bool.false_ne_true, List.append_nil]
    · have h1 : ¬ o + e ≤ (t : Int) := of_decide_eq_false h1
      rw [show relB t (shiftR (o, p, e)) = false by simp [relB, shiftR, h1], if_neg Bool.false_ne_true, List.append_nil]
  · rintro ρ ⟨u, v, w, z, rfl⟩
    unfold sFrz
    walk_at "pl"
    rw [List.length_map, List.length_range, Nat.zero_add]
    have e : dueAt rs t = (List.range rs.length).filter fun i => relB t (shiftR (rs.getD i (0, 1, 0))) := by
      unfold dueAt relAt
      rw [List.length_map]
      refine List.filter_congr fun i hi => ?_
      have hi := List.mem_range.mp hi
      rw [List.getD_eq_getElem?_getD, List.getElem?_map, List.getD_eq_getElem?_getD, List.getElem?_eq_getElem hi]; rfl
    rw [e] at hq
    exact hq
end K34

namespace K34
open PySem PySem.Spec L2 PL
local macro_rules | `(tactic| walk_at "pl") => `(tactic| simp only [sNil, sSeq, sRet, sDrop, sIf, sSet, sAsg, sNever, fVar, fC, fBin, fChain, fNot, fAnd, fOr, fNeg, fCB, fCall, fCallK, fNil, fCons, fStar, fTup, fLst, fIf, fSl, fPart, fNo, tB', tNot', tAnd', tOr', tYes', fLc, fItems, fRng1, fRng2, fZip,
  List.getElem?_cons_zero, List.getElem?_cons_succ, Option.some.injEq, Sl.dt.injEq, Sl.ow.injEq, exists_eq_left', exists_eq_left, List.set_cons_zero, List.set_cons_succ])
/-! profiles in order -/
theorem alike_sd : ∀ (p r : Pf), PySem.W.alikeAll (toPyL (p.map sd)) (toPyL (r.map sd)) = true
  | [], _ => by rw [List.map_nil]; simp only [toPyL, PySem.W.alikeAll]
  | _ :: _, [] => by rw [List.map_nil, List.map_cons]; simp only [toPyL, PySem.W.alikeAll]
  | a :: p, b :: r => by
    have ih := alike_sd p r
    rw [List.map_cons, List.map_cons]
    simp only [toPyL, PySem.W.alikeAll, sd, toPy, PySem.W.alike, Bool.and_true, Bool.true_and]
    exact ih
theorem alike_key (p r : Pf) : PySem.W.alike (toPy (keyP p)) (toPy (keyP r)) = true := by
  have := alike_sd p r
  simp only [keyP, pf, toPy, toPyL, PySem.W.alike, PySem.W.alikeAll, Bool.and_true, Bool.true_and]
  exact this
theorem cyc_nonneg {p : Pf} (h : Rt p) : 0 ≤ cyc p := by
  have : ∀ l : Pf, (∀ s ∈ l, 1 ≤ s.2) → 0 ≤ (l.map (·.2)).sum := by
    intro l
    induction l with
    | nil => intro _; exact Int.le_refl 0
    | cons a r ih =>
      intro h
      have h1 := h a (List.mem_cons_self ..)
      have h2 := ih fun s hs => h s (List.mem_cons_of_mem _ hs)
      rw [List.map_cons, List.sum_cons]
      omega
  exact this p fun s hs => (h.each s hs).1
theorem tame_key {p : Pf} (h : Rt p) (hd : okD (pf p) = true) : tame (keyP p) := by
  have t := (h.sm hd).tame
  have c1 := cyc_nonneg h
  have c2 := cyc_le h
  refine ⟨?_, ?_⟩
  · show cost (.int (-(cyc p))) + (cost (pf p) + 0) + 1 ≤ 20000
    rw [cost_int (by omega)]; omega
  · show max (dep (.int (-(cyc p)))) (max (dep (pf p)) 0) + 1 ≤ 60
    have : dep (.int (-(cyc p))) = 0 := rfl
    omega
theorem rise_take : ∀ (ps : List Pf), (∀ i : Nat, ∀ a b, ps[i]? = some a → ps[i + 1]? = some b → ltD (keyP a) (keyP b) = true) → rise ps = true
  | [], _ => rfl
  | [a], _ => rfl
  | a :: b :: r, h => by
    show (ltD (keyP a) (keyP b) && rise (b :: r)) = true
    rw [h 0 a b rfl rfl, rise_take (b :: r) fun i c d h1 h2 => h (i + 1) c d h1 h2]
    rfl
theorem rise_not : ∀ (ps : List Pf) (i : Nat) (a b : Pf), ps[i]? = some a → ps[i + 1]? = some b → ltD (keyP a) (keyP b) = false → rise ps = false
  | [], i, a, b, h, _, _ => by simp at h
  | [c], i, a, b, _, h, _ => by simp at h
  | c :: d :: r, 0, a, b, h1, h2, h3 => by
    cases h1; cases h2
    show (ltD (keyP c) (keyP d) && rise (d :: r)) = false
    rw [h3]; rfl
  | c :: d :: r, i + 1, a, b, h1, h2, h3 => by
    show (ltD (keyP c) (keyP d) && rise (d :: r)) = false
    rw [rise_not (d :: r) i a b h1 h2 h3, Bool.and_false]
theorem sat_is_rising_strictly : ∀ ds q x, sp_is_rising_strictly ds q x → ds.length = pr_is_rising_strictly.length ∧ g_is_rising_strictly ⟨fun _ => q .non, q, fun _ => False, fun _ => False, fun _ e => x e⟩ (startD nm_is_rising_strictly ds) := by
  rintro ds q x ⟨ps, rfl, hl, hp, hq⟩
  refine ⟨rfl, ?_⟩
  show g_is_rising_strictly _ [.dt (.lst (ps.map keyP)), .no]
  unfold g_is_rising_strictly
  walk_at "pl"
  unfold sFor
  walk_at "pl"
  refine ⟨1, ((ps.map keyP).length : Int), rfl, by rw [List.length_map]; omega, ?_⟩
  unfold rng
  refine loop_inv (fun i ρ => ∃ z, ρ = [.dt (.lst (ps.map keyP)), z] ∧ ∀ j : Nat, j < i → ∀ a b, ps[j]? = some a → ps[j + 1]? = some b → ltD (keyP a) (keyP b) = true) _ 0 _ ⟨_, rfl, fun j hj => by omega⟩ ?_ ?_
  · rintro i d ρ hd ⟨z, rfl, hz⟩ N hN
    rw [List.getElem?_map] at hd
    obtain ⟨k, hk, rfl⟩ := Option.map_eq_some_iff.mp hd
    obtain ⟨h1, h2⟩ := List.getElem?_eq_some_iff.mp hk
    rw [List.length_range, List.length_map] at h1
    rw [List.getElem_range] at h2
    subst h2
    have hi : i + 1 < ps.length := by omega
    have g1 := List.getElem?_eq_getElem (show i < ps.length by omega)
    have g2 := List.getElem?_eq_getElem hi
    simp only [tgE]
    walk_at "pl"
    refine sub_int ?_
    rw [show (1 : Int) + (i : Int) - 1 = (i : Int) by omega, show (1 : Int) + (i : Int) = ((i + 1 : Nat) : Int) by omega]
    refine ix_l (j := i) (by rw [List.getElem?_map, g1]; rfl) (ix_l (j := i + 1) (by rw [List.getElem?_map, g2]; rfl) ?_)
    have ma := hp _ (List.getElem_mem (show i < ps.length by omega))
    have mb := hp _ (List.getElem_mem hi)
    refine ⟨⟨tame_key ma.1 ma.2, tame_key mb.1 mb.2⟩, rfl, alike_key _ _, _, rfl, ?_⟩
    cases hc : ltD (keyP ps[i]) (keyP ps[i + 1])
    · have e := rise_not ps i _ _ g1 g2 hc
      rw [e] at hq
      exact wt hq
    · refine wf (hN _ ⟨_, rfl, fun j hj a b ha hb => ?_⟩)
      by_cases hji : j < i
      · exact hz j (by omega) a b ha hb
      · obtain rfl : j = i := by omega
        rw [g1] at ha
        rw [g2] at hb
        cases ha; cases hb
        exact hc
  · rintro ρ ⟨z, rfl, hz⟩
    walk_at "pl"
    have e : rise ps = true := rise_take ps fun i a b h1 h2 => hz i (by
      have := (List.getElem?_eq_some_iff.mp h2).1
      rw [List.length_map, List.length_range, List.length_map]
      omega) a b h1 h2
    rw [e] at hq
    exact hq
end K34

namespace K34
open PySem PySem.Spec L2 PL
local macro_rules | `(tactic| walk_at "pl") => `(tactic| simp only [sNil, sSeq, sRet, sDrop, sIf, sSet, sAsg, sNever, fVar, fC, fBin, fChain, fNot, fAnd, fOr, fNeg, fCB, fCall, fCallK, fNil, fCons, fStar, fTup, fLst, fIf, fSl, fPart, fNo, tB', tNot', tAnd', tOr', tYes', fLc, fItems, fRng1, fRng2, fZip,
  List.getElem?_cons_zero, List.getElem?_cons_succ, Option.some.injEq, Sl.dt.injEq, Sl.ow.injEq, exists_eq_left', exists_eq_left, List.set_cons_zero, List.set_cons_succ])
theorem profD_pf {d : D} (h : profD d = true) (hd : okD d = true) : ∃ p : Pf, d = pf p ∧ Rt p ∧ asPfD d = p := by
  cases d <;> first | (simp [profD] at h; done) | skip
  case tup xs =>
    simp only [profD, Bool.and_eq_true, decide_eq_true_eq] at h
    obtain ⟨⟨⟨h1, h2⟩, h3⟩, h4⟩ := h
    have e := pf_asPf xs h3
    refine ⟨asPf xs, by show D.tup xs = D.tup _; rw [e], ⟨by rw [← e, List.length_map] at h1; exact h1, by rw [← e, List.length_map] at h2; exact h2, fun s hs => ?_, h4⟩, rfl⟩
    have h5 := List.all_eq_true.mp h3 (sd s) (by rw [← e]; exact List.mem_map.mpr ⟨s, hs, rfl⟩)
    obtain ⟨l, c⟩ := s
    have h5 : (decide (1 ≤ c) && decide (c ≤ 200) && (l == "" || nameS l)) = true := h5
    simp only [Bool.and_eq_true, decide_eq_true_eq, Bool.or_eq_true, beq_iff_eq] at h5
    exact ⟨h5.1.1, h5.1.2, h5.2⟩
theorem profs_pf : ∀ xs : List D, xs.all profD = true → okDL xs = true → ∃ ps : List Pf, xs = ps.map pf ∧ xs.map asPfD = ps ∧ ∀ p ∈ ps, Rt p ∧ okD (pf p) = true
  | [], _, _ => ⟨[], rfl, rfl, fun _ h => by cases h⟩
  | d :: r, h, hd => by
    rw [List.all_cons, Bool.and_eq_true] at h
    have hd : (okD d && okDL r) = true := hd
    rw [Bool.and_eq_true] at hd
    obtain ⟨p, e1, hr, e2⟩ := profD_pf h.1 hd.1
    obtain ⟨ps, rfl, e3, h3⟩ := profs_pf r h.2 hd.2
    refine ⟨p :: ps, by rw [e1]; rfl, by rw [List.map_cons, e2, e3], fun z hz => ?_⟩
    rcases List.mem_cons.mp hz with rfl | hz
    · exact ⟨hr, by rw [← e1]; exact hd.1⟩
    · exact h3 z hz
theorem sat_are_profiles_of_task : ∀ ds q x, sp_are_profiles_of_task ds q x → ds.length = pr_are_profiles_of_task.length ∧ g_are_profiles_of_task ⟨fun _ => q .non, q, fun _ => False, fun _ => False, fun _ e => x e⟩ (startD nm_are_profiles_of_task ds) := by
  rintro ds q x ⟨d, rfl, hd, hq⟩
  have hp : plain d := okD_plain hd
  refine ⟨rfl, ?_⟩
  show g_are_profiles_of_task _ [.dt d, .no]
  unfold g_are_profiles_of_task
  walk_at "pl"
  refine ⟨d, 1, 12, rfl, hp, _, rfl, ?_⟩
  cases ht : tupIn d 1 12
  · have e : taskD d = false := by
      cases d <;> first | rfl | skip
      case tup xs =>
        have h2 : (decide ((1 : Int) ≤ (xs.length : Int)) && decide ((xs.length : Int) ≤ 12)) = false := ht
        by_cases h1 : 1 ≤ xs.length <;> by_cases h8 : xs.length ≤ 12 <;> simp [taskD, h1, h8]
        simp at h2; omega
    rw [e] at hq
    exact wt (wT hq)
  obtain ⟨xs, rfl, hx1, hx2⟩ := tupIn_tup ht
  have hL := (okD_tup hd).1
  have e0 : taskD (.tup xs) = (xs.all profD && rise (xs.map asPfD)) := by
    have h1 : 1 ≤ xs.length := by omega
    have h8 : xs.length ≤ 12 := by omega
    simp [taskD, h1, h8]
  rw [e0] at hq
  refine wf ⟨xs, rfl, ?_⟩
  have lc : ∀ Q : D → Prop, Q (.lst (xs.map fun y => .bl (profD y))) → fLcLoop (.nm 1) tYes' (fCall sp_is_profile_form (fCons (fVar 1) fNil)) [1] [.dt (.tup xs), .no] Q xs [] := fun Q hQ => by
    have := lc_map (t := .nm 1) (f := fCall sp_is_profile_form (fCons (fVar 1) fNil)) (own := [1]) (ρ := [.dt (.tup xs), .no]) (q := Q) (e := id) (fun y => .bl (profD y)) xs (fun y hy Q hQ => ⟨_, rfl, y, rfl, okDL_mem xs y hL hy, hQ⟩) (limN (by omega)) hQ
    rw [List.map_id] at this
    exact this
  refine lc _ ⟨xs.map profD, by rw [List.map_map]; rfl, _, rfl, ?_⟩
  rw [List.all_map]
  have he : (xs.all (id ∘ profD)) = xs.all profD := rfl
  rw [he]
  cases ha : xs.all profD
  · rw [ha] at hq
    exact wt hq
  rw [ha, Bool.true_and] at hq
  obtain ⟨ps, rfl, e2, hps⟩ := profs_pf xs ha hL
  rw [e2] at hq
  rw [List.length_map] at hx2
  refine wf ⟨ps.map pf, rfl, ?_⟩
  refine lc_map (e := pf) keyP ps (fun p hp Q hQ => ?_) (limN (by omega)) ?_
  · exact ⟨_, rfl, p, rfl, by have := (hps p hp).1.len8; omega, hQ⟩
  · exact ⟨ps, rfl, by omega, hps, hq⟩
theorem sat_are_profiles_form : ∀ ds q x, sp_are_profiles_form ds q x → ds.length = pr_are_profiles_form.length ∧ g_are_profiles_form ⟨fun _ => q .non, q, fun _ => False, fun _ => False, fun _ e => x e⟩ (startD nm_are_profiles_form ds) := by
  rintro ds q x ⟨a, b, rs, d, rfl, h, hd, hq⟩
  have hp : plain d := okD_plain hd
  have h3 := h.n3
  refine ⟨rfl, ?_⟩
  show g_are_profiles_form _ [.dt (pd a b rs), .dt d, .no]
  unfold g_are_profiles_form
  walk_at "pl"
  refine ix_t (j := 1) rfl ⟨d, ((rs.map rd).length : Int), rfl, hp, fun xs e => (okD_tup (e ▸ hd)).2, by rw [List.length_map]; omega, _, rfl, ?_⟩
  rw [List.length_map]
  cases ht : tupLen d (rs.length : Int)
  · have e : tasksD rs.length d = false := by
      cases d <;> first | rfl | skip
      case tup xs =>
        have h2 : decide ((xs.length : Int) = (rs.length : Int)) = false := ht
        have h2 := of_decide_eq_false h2
        have h4 : ¬ xs.length = rs.length := by omega
        simp [tasksD, h4]
    rw [e] at hq
    exact wf hq
  obtain ⟨xs, rfl⟩ : ∃ xs, d = .tup xs := by
    cases d <;> first | (simp [tupLen] at ht; done) | exact ⟨_, rfl⟩
  have h2 : (xs.length : Int) = (rs.length : Int) := of_decide_eq_true (show decide ((xs.length : Int) = (rs.length : Int)) = true from ht)
  have hL := (okD_tup hd).1
  have e0 : tasksD rs.length (.tup xs) = xs.all taskD := by
    have h4 : xs.length = rs.length := by omega
    simp [tasksD, h4]
  rw [e0] at hq
  refine wt ⟨xs, rfl, ?_⟩
  have lc : ∀ Q : D → Prop, Q (.lst (xs.map fun y => .bl (taskD y))) → fLcLoop (.nm 2) tYes' (fCall sp_are_profiles_of_task (fCons (fVar 2) fNil)) [2] [.dt (pd a b rs), .dt (.tup xs), .no] Q xs [] := fun Q hQ => by
    have := lc_map (t := .nm 2) (f := fCall sp_are_profiles_of_task (fCons (fVar 2) fNil)) (own := [2]) (ρ := [.dt (pd a b rs), .dt (.tup xs), .no]) (q := Q) (e := id) (fun y => .bl (taskD y)) xs (fun y hy Q hQ => ⟨_, rfl, y, rfl, okDL_mem xs y hL hy, hQ⟩) (limN (by omega)) hQ
    rw [List.map_id] at this
    exact this
  refine lc _ ⟨xs.map taskD, by rw [List.map_map]; rfl, ?_⟩
  rw [List.all_map]
  exact hq
end K34

namespace K34
open PySem PySem.Spec L2 PL
local macro_rules | `(tactic| walk_at "pl") => `(tactic| simp only [sNil, sSeq, sRet, sDrop, sIf, sSet, sAsg, sNever, fVar, fC, fBin, fChain, fNot, fAnd, fOr, fNeg, fCB, fCall, fCallK, fNil, fCons, fStar, fTup, fLst, fIf, fSl, fPart, fNo, tB', tNot', tAnd', tOr', tYes', fLc, fItems, fRng1, fRng2, fZip,
  List.getElem?_cons_zero, List.getElem?_cons_succ, Option.some.injEq, Sl.dt.injEq, Sl.ow.injEq, exists_eq_left', exists_eq_left, List.set_cons_zero, List.set_cons_succ])
/-! plain: the spots of a round -/
theorem dvd_lcm {f p : Int} (hf : 0 < f) (hp : 0 < p) : f ∣ lcmF f p ∧ p ∣ lcmF f p := by
  refine ⟨?_, Int.dvd_mul_left ..⟩
  obtain ⟨c, hc⟩ : (Int.gcd f p : Int) ∣ p := Int.gcd_dvd_right ..
  have e : f / (Int.gcd f p : Int) * (Int.gcd f p : Int) = f := Int.ediv_mul_cancel (Int.gcd_dvd_left ..)
  refine ⟨c, ?_⟩
  show f / (Int.gcd f p : Int) * p = f * c
  calc f / (Int.gcd f p : Int) * p = f / (Int.gcd f p : Int) * ((Int.gcd f p : Int) * c) := by rw [← hc]
    _ = f * c := by rw [← Int.mul_assoc, e]
theorem per_dvd (rs : List Rw) (h : ∀ r ∈ rs, 1 ≤ r.2.1) : ∀ (n j : Nat) (r : Rw), j < n → rs[j]? = some r → r.2.1 ∣ roundI (rs.take n) := by
  intro n
  induction n with
  | zero => intro j r hj; omega
  | succ n ih =>
    intro j r hj hr
    cases e : rs[n]? with
    | none =>
      rw [List.take_succ, e]
      have hjn : j < n := by
        by_cases hjn : j = n
        · subst hjn; rw [e] at hr; cases hr
        · omega
      simpa using ih j r hjn hr
    | some s =>
      rw [round_next e]
      have d := dvd_lcm (round_pos rs n h) (show 0 < s.2.1 by have := h s (List.mem_of_getElem? e); omega)
      by_cases hjn : j = n
      · subst hjn
        rw [e] at hr; cases hr
        exact d.2
      · exact Int.dvd_trans (ih j r (by omega) hr) d.1
theorem dvd_round {rs : List Rw} (h : ∀ r ∈ rs, 1 ≤ r.2.1) {r : Rw} (hr : r ∈ rs) : r.2.1 ∣ roundI rs := by
  obtain ⟨j, hj, e⟩ := List.getElem_of_mem hr
  have := per_dvd rs h rs.length j r hj (by rw [List.getElem?_eq_getElem hj, e])
  rwa [List.take_length] at this
theorem few_ints : ∀ (n : Nat) (ms : List Int), ms.Nodup → (∀ k ∈ ms, 0 ≤ k ∧ k < n) → ms.length ≤ n
  | 0, [], _, _ => Nat.le_refl _
  | 0, a :: r, _, h => by have := h a (List.mem_cons_self ..); omega
  | n + 1, ms, hn, h => by
    by_cases hm : (n : Int) ∈ ms
    · have := few_ints n (ms.erase (n : Int)) (hn.erase _) fun k hk => by
        have h1 := (hn.mem_erase_iff).mp hk
        have := h k h1.2
        have := h1.1
        omega
      rw [List.length_erase_of_mem hm] at this
      omega
    · have := few_ints n ms hn fun k hk => by
        have := h k hk
        have : k ≠ n := fun e => hm (e ▸ hk)
        omega
      omega
theorem same_sorted : ∀ (a b : List Int), a.Pairwise (· < ·) → b.Pairwise (· < ·) → (∀ k, k ∈ a ↔ k ∈ b) → a = b
  | [], [], _, _, _ => rfl
  | [], y :: b, _, _, h => by have := (h y).mpr (List.mem_cons_self ..); cases this
  | x :: a, [], _, _, h => by have := (h x).mp (List.mem_cons_self ..); cases this
  | x :: a, y :: b, ha, hb, h => by
    have ha' := List.pairwise_cons.mp ha
    have hb' := List.pairwise_cons.mp hb
    have e : x = y := by
      rcases List.mem_cons.mp ((h x).mp (List.mem_cons_self ..)) with e | hx
      · exact e
      · rcases List.mem_cons.mp ((h y).mpr (List.mem_cons_self ..)) with e | hy
        · exact e.symm
        · have := hb'.1 x hx
          have := ha'.1 y hy
          omega
    subst e
    have := same_sorted a b ha'.2 hb'.2 fun k => by
      constructor
      · intro hk
        rcases List.mem_cons.mp ((h k).mp (List.mem_cons_of_mem _ hk)) with e | hk2
        · have := ha'.1 k hk; omega
        · exact hk2
      · intro hk
        rcases List.mem_cons.mp ((h k).mpr (List.mem_cons_of_mem _ hk)) with e | hk2
        · have := hb'.1 k hk; omega
        · exact hk2
    rw [this]
def hit (r : Rw) (k : Int) : Prop := (k - r.1) % r.2.1 = 0 ∨ (k - r.1 - r.2.2) % r.2.1 = 0
theorem rel_ne {rs : List Rw} {t : Int} : (!(relAt rs t).isEmpty) = true ↔ ∃ r ∈ rs, relB t r = true := by
  constructor
  · intro h
    cases e : relAt rs t with
    | nil => rw [e] at h; cases h
    | cons i l =>
      have hi : i ∈ relAt rs t := by rw [e]; exact List.mem_cons_self ..
      exact ⟨_, getD_mem (rel_lt hi), (List.mem_filter.mp hi).2⟩
  · rintro ⟨r, hr, h⟩
    obtain ⟨j, hj, e⟩ := List.getElem_of_mem hr
    have hm : j ∈ relAt rs t := List.mem_filter.mpr ⟨List.mem_range.mpr hj, by
      rw [List.getD_eq_getElem?_getD, List.getElem?_eq_getElem hj]
      show relB t rs[j] = true
      rw [e]; exact h⟩
    cases e2 : relAt rs t with
    | nil => rw [e2] at hm; cases hm
    | cons i l => rfl
theorem mod_add {k W p : Int} (h : p ∣ W) : (k + 2 * W) % p = k % p := by
  obtain ⟨c, rfl⟩ := h
  rw [show k + 2 * (p * c) = k + p * (2 * c) by rw [Int.mul_left_comm], Int.add_mul_emod_self_left]
theorem mom_iff {a b : Int} {rs : List Rw} (h : PlOk a b rs) {k : Int} (h0 : 0 ≤ k) : momB rs (k + 2 * roundI rs) = true ↔ ∃ r ∈ rs, hit r k := by
  have hper := fun r hr => (h.per r hr).1
  have key : ∀ r ∈ rs, (relB (k + 2 * roundI rs) r = true ↔ (k - r.1) % r.2.1 = 0) ∧ (relB (k + 2 * roundI rs) (shiftR r) = true ↔ (k - r.1 - r.2.2) % r.2.1 = 0) := fun r hr => by
    have dv := dvd_round hper hr
    have hle := Int.le_of_dvd h.round.1 dv
    have ok := h.each r hr
    have o1 := ok.o0
    have o2 := ok.op
    have o3 := ok.u1
    have o4 := ok.up
    have m1 := mod_add (k := k - r.1) dv
    have m2 := mod_add (k := k - r.1 - r.2.2) dv
    refine ⟨?_, ?_⟩
    · unfold relB
      rw [decide_eq_true (show r.1 ≤ k + 2 * roundI rs by omega), Bool.true_and, decide_eq_true_eq, show k + 2 * roundI rs - r.1 = k - r.1 + 2 * roundI rs by omega, m1]
    · unfold relB shiftR
      dsimp only
      rw [decide_eq_true (show r.1 + r.2.2 ≤ k + 2 * roundI rs by omega), Bool.true_and, decide_eq_true_eq, show k + 2 * roundI rs - (r.1 + r.2.2) = k - r.1 - r.2.2 + 2 * roundI rs by omega, m2]
  unfold momB
  rw [Bool.or_eq_true, rel_ne]
  unfold dueAt
  rw [rel_ne]
  constructor
  · rintro (⟨r, hr, e⟩ | ⟨s, hs, e⟩)
    · exact ⟨r, hr, .inl ((key r hr).1.mp e)⟩
    · obtain ⟨r, hr, rfl⟩ := List.mem_map.mp hs
      exact ⟨r, hr, .inr ((key r hr).2.mp e)⟩
  · rintro ⟨r, hr, e | e⟩
    · exact .inl ⟨r, hr, (key r hr).1.mpr e⟩
    · exact .inr ⟨shiftR r, List.mem_map.mpr ⟨r, hr, rfl⟩, (key r hr).2.mpr e⟩
theorem times_sorted (rs : List Rw) : ((timesL rs).map fun (n : Nat) => (n : Int)).Pairwise (· < ·) := by
  unfold timesL
  rw [List.pairwise_map]
  refine List.Pairwise.imp (fun {x y} h => by show (x : Int) < (y : Int); omega) (List.Pairwise.filter _ List.pairwise_lt_range)
theorem times_mem {a b : Int} {rs : List Rw} (h : PlOk a b rs) (k : Int) : k ∈ ((timesL rs).map fun (n : Nat) => (n : Int)) ↔ k = 0 ∨ (0 ≤ k ∧ k < roundI rs ∧ ∃ r ∈ rs, hit r k) := by
  have hp := h.round.1
  rw [List.mem_map]
  unfold timesL
  constructor
  · rintro ⟨n, hn, rfl⟩
    obtain ⟨h1, h2⟩ := List.mem_filter.mp hn
    have h1 := List.mem_range.mp h1
    rw [Bool.or_eq_true, decide_eq_true_eq] at h2
    rcases h2 with h2 | h2
    · exact .inl (by omega)
    · exact .inr ⟨by omega, by omega, (mom_iff h (by omega)).mp h2⟩
  · rintro (rfl | ⟨h1, h2, h3⟩)
    · exact ⟨0, List.mem_filter.mpr ⟨List.mem_range.mpr (by omega), by simp⟩, rfl⟩
    · refine ⟨k.toNat, List.mem_filter.mpr ⟨List.mem_range.mpr (by omega), ?_⟩, by omega⟩
      rw [Bool.or_eq_true]
      right
      rw [show ((k.toNat : Nat) : Int) = k by omega]
      exact (mom_iff h h1).mpr h3
end K34

namespace K34
open PySem PySem.Spec L2 PL
local macro_rules | `(tactic| walk_at "pl") => `(tactic| simp only [sNil, sSeq, sRet, sDrop, sIf, sSet, sAsg, sNever, fVar, fC, fBin, fChain, fNot, fAnd, fOr, fNeg, fCB, fCall, fCallK, fNil, fCons, fStar, fTup, fLst, fIf, fSl, fPart, fNo, tB', tNot', tAnd', tOr', tYes', fLc, fItems, fRng1, fRng2, fZip,
  List.getElem?_cons_zero, List.getElem?_cons_succ, Option.some.injEq, Sl.dt.injEq, Sl.ow.injEq, exists_eq_left', exists_eq_left, List.set_cons_zero, List.set_cons_succ])
theorem or_none {A B : Prop} (h : ¬ B) : A ↔ A ∨ B := ⟨.inl, fun z => z.elim id fun b => (h b).elim⟩
theorem sat__law_times : ∀ ds q x, sp__law_times ds q x → ds.length = pr__law_times.length ∧ g__law_times ⟨fun _ => q .non, q, fun _ => False, fun _ => False, fun _ e => x e⟩ (startD nm__law_times ds) := by
  rintro ds q x ⟨a, b, rs, rfl, h, h3, hq⟩
  refine ⟨rfl, ?_⟩
  show g__law_times _ [.dt (pd a b rs), .no, .no, .no, .no, .no, .no]
  unfold g__law_times
  unfold sParOw
  walk_at "pl"
  have hW := h.round
  refine ix_t (j := 1) rfl ⟨a, b, rs, rfl, h, limN (by simp), ?_⟩
  unfold sFor
  walk_at "pl"
  refine ix_t (j := 1) rfl ⟨rs.map rd, rfl, ?_⟩
  refine loop_inv (fun i ρ => ∃ (ns : List Int) (u v w z : Sl), ρ = [.dt (pd a b rs), .dt (.int (roundI rs)), .ow (ns.map D.int), u, v, w, z] ∧ ns.length ≤ 1 + i * 48 ∧ ∀ k : Int, k ∈ ns ↔ k = 0 ∨ (0 ≤ k ∧ k < roundI rs ∧ ∃ r ∈ rs.take i, hit r k)) _ 0 _ ⟨[0], _, _, _, _, rfl, by simp, fun k => by simp⟩ ?_ ?_
  · rintro i d ρ hd ⟨ns, u, v, w, z, rfl, hn, hm⟩ N hN
    obtain ⟨r, hr, rfl, hrm⟩ := row_at hd
    have hr1 := h.per r hrm
    rw [Nat.zero_add] at hn hm
    refine ⟨_, rfl, rfl, _, _, rfl, _, _, rfl, _, _, rfl, rfl, ?_⟩
    walk_at "pl"
    refine ⟨roundI rs, rfl, by omega, by omega, ?_⟩
    unfold rng
    refine loop_inv (fun j ρ => ∃ (ns : List Int) (z : Sl), ρ = [.dt (pd a b rs), .dt (.int (roundI rs)), .ow (ns.map D.int), .dt (.int r.1), .dt (.int r.2.1), .dt (.int r.2.2), z] ∧ ns.length ≤ 1 + i * 48 + j ∧ ∀ k : Int, k ∈ ns ↔ (k = 0 ∨ (0 ≤ k ∧ k < roundI rs ∧ ∃ r ∈ rs.take i, hit r k)) ∨ (0 ≤ k ∧ k < j ∧ hit r k)) _ 0 _ ⟨ns, z, rfl, by omega, fun k => (hm k).trans (or_none (by omega))⟩ ?_ ?_
    · rintro j d ρ hd ⟨ns, z, rfl, hn, hm⟩ N hN
      obtain ⟨hj, rfl⟩ := rng_at hd
      rw [Nat.zero_add] at hn hm
      have hN : ∀ (l : List Int), (l.length ≤ ns.length + 1) → (∀ k : Int, k ∈ l ↔ k ∈ ns ∨ (k = (j : Int) ∧ hit r k)) → N [.dt (pd a b rs), .dt (.int (roundI rs)), .ow (l.map D.int), .dt (.int r.1), .dt (.int r.2.1), .dt (.int r.2.2), .dt (.int (j : Int))] := fun l h1 h2 => hN _ ⟨l, _, rfl, by omega, fun k => by
        rw [h2 k, hm k]
        have e : (0 ≤ k ∧ k < ((0 + j + 1 : Nat) : Int) ∧ hit r k) ↔ (0 ≤ k ∧ k < (j : Int) ∧ hit r k) ∨ (k = (j : Int) ∧ hit r k) := by
          by_cases hk : k = (j : Int)
          · subst hk
            constructor
            · exact fun z => .inr ⟨rfl, z.2.2⟩
            · rintro (z | z)
              · exact ⟨z.1, by omega, z.2.2⟩
              · exact ⟨by omega, by omega, z.2⟩
          · constructor
            · exact fun z => .inl ⟨z.1, by omega, z.2.2⟩
            · rintro (z | z)
              · exact ⟨z.1, by omega, z.2.2⟩
              · exact absurd z.1 hk
        rw [e, or_assoc]⟩
      unfold tgE
      walk_at "pl"
      have hjW : (j : Int) < 48 := by omega
      have app : hit r (j : Int) → (ns.map D.int).length < LIM ∧ N [.dt (pd a b rs), .dt (.int (roundI rs)), .ow (ns.map D.int ++ [.int (j : Int)]), .dt (.int r.1), .dt (.int r.2.1), .dt (.int r.2.2), .dt (.int (j : Int))] := fun hh => by
        have i3 : i < rs.length := (List.getElem?_eq_some_iff.mp hr).1
        refine ⟨by rw [List.length_map]; have : LIM = 1000000 := rfl; omega, ?_⟩
        have := hN (ns ++ [(j : Int)]) (by simp) fun k => by
          rw [List.mem_append, List.mem_singleton]
          constructor
          · rintro (z | z)
            · exact .inl z
            · subst z; exact .inr ⟨rfl, hh⟩
          · rintro (z | z)
            · exact .inl z
            · exact .inr z.1
        rw [List.map_append] at this
        exact this
      have skip : ¬ hit r (j : Int) → N [.dt (pd a b rs), .dt (.int (roundI rs)), .ow (ns.map D.int), .dt (.int r.1), .dt (.int r.2.1), .dt (.int r.2.2), .dt (.int (j : Int))] := fun hh => hN ns (Nat.le_succ _) fun k => or_none (fun z => hh (z.1 ▸ z.2))
      refine sub_int (toI (mod_i (by omega) ⟨.i, _, rfl, ?_⟩))
      rw [eqv_int]
      refine wq (fun h1 => ?_) (fun h1 => ?_)
      · have h1 : ((j : Int) - r.1) % r.2.1 = 0 := of_decide_eq_true h1
        refine ⟨fun _ => ?_, fun z => by cases z⟩
        unfold sApp
        walk_at "pl"
        exact app (.inl h1)
      · have h1 : ¬ ((j : Int) - r.1) % r.2.1 = 0 := of_decide_eq_false h1
        refine sub_int (sub_int (toI (mod_i (by omega) ⟨.i, _, rfl, ?_⟩)))
        rw [eqv_int]
        refine wq (fun h2 => ?_) (fun h2 => ?_)
        · have h2 : ((j : Int) - r.1 - r.2.2) % r.2.1 = 0 := of_decide_eq_true h2
          unfold sApp
          walk_at "pl"
          exact app (.inr h2)
        · have h2 : ¬ ((j : Int) - r.1 - r.2.2) % r.2.1 = 0 := of_decide_eq_false h2
          exact skip fun z => z.elim h1 h2
    · rintro ρ ⟨ns, z, rfl, hn, hm⟩
      rw [List.length_map, List.length_range] at hn hm
      refine hN _ ⟨ns, _, _, _, _, rfl, by omega, fun k => ?_⟩
      rw [hm k, Nat.zero_add, Nat.zero_add]
      have e : rs.take (i + 1) = rs.take i ++ [r] := by rw [List.take_succ, hr]; rfl
      rw [e]
      constructor
      · rintro ((z | ⟨z1, z2, s, z3, z4⟩) | ⟨z1, z2, z3⟩)
        · exact .inl z
        · exact .inr ⟨z1, z2, s, List.mem_append_left _ z3, z4⟩
        · exact .inr ⟨z1, by omega, r, List.mem_append_right _ (List.mem_singleton.mpr rfl), z3⟩
      · rintro (z | ⟨z1, z2, s, z3, z4⟩)
        · exact .inl (.inl z)
        · rcases List.mem_append.mp z3 with z3 | z3
          · exact .inl (.inr ⟨z1, z2, s, z3, z4⟩)
          · obtain rfl := List.mem_singleton.mp z3
            exact .inr ⟨z1, by omega, z4⟩
  · rintro ρ ⟨ns, u, v, w, z, rfl, hn, hm⟩
    rw [List.length_map, Nat.zero_add] at hn hm
    rw [List.take_length] at hm
    unfold sFrz
    walk_at "pl"
    unfold fSortSet
    walk_at "pl"
    have hb : ∀ k ∈ ns, 0 ≤ k ∧ k < ((48 : Nat) : Int) := fun k hk => by
      rcases (hm k).mp hk with z | z <;> omega
    refine ⟨ns, rfl, by omega, fun ms m1 m2 => ?_, fun os o1 o2 => ?_⟩
    · have := few_ints 48 ms m1 fun k hk => hb k ((m2 k).mp hk)
      omega
    · have e := same_sorted os _ o1 (times_sorted rs) fun k => by rw [o2 k, hm k, times_mem h k]
      rw [e, List.map_map]
      exact hq
end K34

namespace K34
open PySem PySem.Spec L2 PL
local macro_rules | `(tactic| walk_at "pl") => `(tactic| simp only [sNil, sSeq, sRet, sDrop, sIf, sSet, sAsg, sNever, fVar, fC, fBin, fChain, fNot, fAnd, fOr, fNeg, fCB, fCall, fCallK, fNil, fCons, fStar, fTup, fLst, fIf, fSl, fPart, fNo, tB', tNot', tAnd', tOr', tYes', fLc, fItems, fRng1, fRng2, fZip,
  List.getElem?_cons_zero, List.getElem?_cons_succ, Option.some.injEq, Sl.dt.injEq, Sl.ow.injEq, exists_eq_left', exists_eq_left, List.set_cons_zero, List.set_cons_succ])
open PySem.W PyProof.Rows in
theorem lt_either {x y : PyData} (al : PySem.W.alike x y = true) (ne : PyData.eqv x y = false) (h : dataLt y x = false) : dataLt x y = true := by
  cases h2 : dataLt x y with
  | true => rfl
  | false =>
    have e : keyToks x = keyToks y := lex_total _ _ h2 h
    have e2 := (toks_eqv x y al).2 ne [.inl 0] [.inl 1]
    rw [e, lex_pre, lex_irrefl] at e2
    exact absurd e2 (by decide)
theorem toPy_pf (p : Pf) : toPy (keyP p) = .tuple [.int (-(cyc p)), toPy (pf p)] := rfl
theorem eqv_key {p r : Pf} (h : eqvD (pf p) (pf r) = false) : PyData.eqv (toPy (keyP p)) (toPy (keyP r)) = false := by
  rw [toPy_pf, toPy_pf]
  simp only [PyData.eqv, PyData.eqvAll]
  have h : PyData.eqv (toPy (pf p)) (toPy (pf r)) = false := h
  rw [h]
  simp
theorem lt_key {p r : Pf} (h : eqvD (pf p) (pf r) = false) (h2 : ltD (keyP r) (keyP p) = false) : ltD (keyP p) (keyP r) = true := lt_either (alike_key p r) (eqv_key h) h2
theorem rise_pairs : ∀ ps : List Pf, ps.Pairwise (fun a b => ltD (keyP a) (keyP b) = true) → rise ps = true
  | [], _ => rfl
  | [_], _ => rfl
  | a :: b :: r, h => by
    have h' := List.pairwise_cons.mp h
    show (ltD (keyP a) (keyP b) && rise (b :: r)) = true
    rw [h'.1 b (List.mem_cons_self ..), rise_pairs (b :: r) h'.2]
    rfl
def keyD (d : D) : D := .tup [.int (-(cyc (asPfD d))), d]
theorem keyD_pf (p : Pf) : keyD (pf p) = keyP p := by
  show D.tup [.int (-(cyc (asPf (p.map sd)))), pf p] = _
  rw [asPf_pf]; rfl
def leP (a b : Pf) : Bool := PySem.W.dataLe false (pyk keyD) (pf a) (pf b)
theorem leP_eq (a b : Pf) : leP a b = !ltD (keyP b) (keyP a) := by
  show (!PySem.W.dataLt (toPy (keyD (pf b))) (toPy (keyD (pf a)))) = _
  rw [keyD_pf, keyD_pf]; rfl
theorem sort_pf (us : List Pf) : sortK keyD (us.map pf) = (us.mergeSort leP).map pf := (PySem.W.sort_maps (r := leP) (s := PySem.W.dataLe false (pyk keyD)) pf (l := us) fun a _ b _ => rfl).symm
open PySem.W PyProof.Rows in
theorem leP_total : TotalLe leP := by
  have T : TotalLe (PySem.W.dataLe false (pyk keyD)) := sortLe_total _ false _
  exact ⟨fun a b c => T.trans _ _ _, fun a b => T.total _ _⟩
theorem sorted_rise (us : List Pf) (h : us.Pairwise fun a b => eqvD (pf a) (pf b) = false ∧ eqvD (pf b) (pf a) = false) : rise (us.mergeSort leP) = true := by
  have h1 := PySem.W.sort_pairwise leP_total us
  have h2 : (us.mergeSort leP).Pairwise fun a b => eqvD (pf a) (pf b) = false ∧ eqvD (pf b) (pf a) = false :=
    ((List.mergeSort_perm us leP).pairwise_iff fun {a b} z => ⟨z.2, z.1⟩).mpr h
  refine rise_pairs _ ((h1.and h2).imp fun {a b} z => ?_)
  have e := z.1
  rw [leP_eq, Bool.not_eq_true'] at e
  exact lt_key z.2.1 e
end K34

namespace K34
open PySem PySem.Spec L2 PL
local macro_rules | `(tactic| walk_at "pl") => `(tactic| simp only [sNil, sSeq, sRet, sDrop, sIf, sSet, sAsg, sNever, fVar, fC, fBin, fChain, fNot, fAnd, fOr, fNeg, fCB, fCall, fCallK, fNil, fCons, fStar, fTup, fLst, fIf, fSl, fPart, fNo, tB', tNot', tAnd', tOr', tYes', fLc, fItems, fRng1, fRng2, fZip,
  List.getElem?_cons_zero, List.getElem?_cons_succ, Option.some.injEq, Sl.dt.injEq, Sl.ow.injEq, exists_eq_left', exists_eq_left, List.set_cons_zero, List.set_cons_succ])
theorem tame_pf {p : Pf} (h : Rt p) (hd : okD (pf p) = true) : cost (pf p) ≤ 100 ∧ dep (pf p) ≤ 2 := (h.sm hd).tame
theorem tame_pfs {us : List Pf} (hl : us.length ≤ 3) (h : ∀ p ∈ us, Rt p ∧ okD (pf p) = true) : tame (.lst (us.map pf)) := by
  have h1 : costL (us.map pf) ≤ (us.map pf).length * 100 := costL_le _ fun d hd => by
    obtain ⟨p, hp, rfl⟩ := List.mem_map.mp hd
    exact (tame_pf (h p hp).1 (h p hp).2).1
  have h2 : depL (us.map pf) ≤ 2 := depL_le _ fun d hd => by
    obtain ⟨p, hp, rfl⟩ := List.mem_map.mp hd
    exact (tame_pf (h p hp).1 (h p hp).2).2
  rw [List.length_map] at h1
  refine ⟨?_, ?_⟩
  · show costL (us.map pf) + 1 ≤ _
    omega
  · show depL (us.map pf) + 1 ≤ _
    omega
theorem ne_comm {a b : D} (h : eqvD a b = false) : eqvD b a = false := by
  have e : eqvD b a = eqvD a b := PySem.W.eqv_comm _ _
  rw [e]; exact h
theorem any_false {us : List Pf} {p : Pf} (h : (!((us.map pf).any fun z => eqvD z (pf p))) = true) : ∀ u ∈ us, eqvD (pf u) (pf p) = false := by
  intro u hu
  rw [Bool.not_eq_true', List.any_eq_false] at h
  have := h (pf u) (List.mem_map.mpr ⟨u, hu, rfl⟩)
  simpa using this
theorem any_true {us : List Pf} {p : Pf} (h : (!((us.map pf).any fun z => eqvD z (pf p))) = false) : 1 ≤ us.length := by
  cases us with
  | nil => exact absurd h (by simp)
  | cons a r => rw [List.length_cons]; omega
theorem sat__law_in_order : ∀ ds q x, sp__law_in_order ds q x → ds.length = pr__law_in_order.length ∧ g__law_in_order ⟨fun _ => q .non, q, fun _ => False, fun _ => False, fun _ e => x e⟩ (startD nm__law_in_order ds) := by
  rintro ds q x ⟨ps, rfl, h1, h3, hp, hq⟩
  refine ⟨rfl, ?_⟩
  show g__law_in_order _ [.dt (.lst (ps.map pf)), .no, .no]
  unfold g__law_in_order
  walk_at "pl"
  refine ⟨limN (by simp), ?_⟩
  unfold sFor
  walk_at "pl"
  refine ⟨ps.map pf, rfl, ?_⟩
  refine loop_inv (fun i ρ => ∃ (us : List Pf) (z : Sl), ρ = [.dt (.lst (ps.map pf)), .dt (.lst (us.map pf)), z] ∧ us.length ≤ i ∧ (1 ≤ i → 1 ≤ us.length) ∧ (∀ u ∈ us, u ∈ ps) ∧ us.Pairwise fun a b => eqvD (pf a) (pf b) = false ∧ eqvD (pf b) (pf a) = false) _ 0 _ ⟨[], _, rfl, Nat.le_refl _, fun z => absurd z (by decide), (fun _ z => by cases z), List.Pairwise.nil⟩ ?_ ?_
  · rintro i d ρ hd ⟨us, z, rfl, hl, hn, hu, hw⟩ N hN
    rw [List.getElem?_map] at hd
    obtain ⟨p, hp1, rfl⟩ := Option.map_eq_some_iff.mp hd
    have hm := List.mem_of_getElem? hp1
    have hi : i < ps.length := (List.getElem?_eq_some_iff.mp hp1).1
    rw [Nat.zero_add] at hl hn
    have tp := tame_pf (hp p hm).1 (hp p hm).2
    unfold tgE
    walk_at "pl"
    refine ⟨us.map pf, rfl, ⟨by omega, by omega⟩, tame_pfs (by omega) fun u h => hp u (hu u h), _, rfl, wq (fun h => ?_) (fun h => ?_)⟩
    · have hne := any_false h
      refine ⟨limN (by simp), by rw [List.length_map]; exact limN (by simp; omega), hN _ ⟨us ++ [p], .dt (pf p), ?_, ?_, fun _ => ?_, fun u h => ?_, ?_⟩⟩
      · rw [List.map_append]; rfl
      · rw [List.length_append, List.length_singleton]; omega
      · rw [List.length_append, List.length_singleton]; omega
      · rcases List.mem_append.mp h with h | h
        · exact hu u h
        · obtain rfl := List.mem_singleton.mp h
          exact hm
      · refine List.pairwise_append.mpr ⟨hw, List.pairwise_singleton _ _, fun u h2 v h3 => ?_⟩
        obtain rfl := List.mem_singleton.mp h3
        exact ⟨hne u h2, ne_comm (hne u h2)⟩
    · have h1 := any_true h
      refine ⟨limN (by simp), by rw [List.length_map]; exact limN (by simp; omega), hN _ ⟨us, .dt (pf p), ?_, by omega, fun _ => h1, hu, hw⟩⟩
      rw [List.append_nil]
  · rintro ρ ⟨us, z, rfl, hl, hn, hu, hw⟩
    walk_at "pl"
    unfold fSortL
    walk_at "pl"
    rw [List.length_map, Nat.zero_add] at hl hn
    have hus : ∀ p ∈ us, Rt p ∧ okD (pf p) = true := fun p h => hp p (hu p h)
    refine ⟨us.map pf, fun d => ∃ p, d = pf p ∧ Rt p ∧ okD (pf p) = true, keyD, rfl, ?_, ⟨by rw [List.length_map]; exact limN (by omega), ?_, ?_, ?_⟩, ?_⟩
    · rintro y q ⟨p, rfl, hr, ho⟩ hq
      have e : startD ln__law_in_order_0 [pf p] = [.dt (pf p), .no, .no] := rfl
      rw [e]
      walk_at "pl"
      refine ⟨p.map sd, rfl, ?_⟩
      have h8 := hr.len8
      refine lc_map (e := sd) (fun s => .int s.2) p (fun s _ Q hQ => ?_) (limN (by omega)) ?_
      · exact ⟨_, rfl, rfl, _, _, rfl, _, _, rfl, rfl, _, rfl, hQ⟩
      refine ⟨p.map (fun s : Str × Int => s.2), by rw [List.map_map]; rfl, sub_int ⟨limN (by simp), ?_⟩⟩
      rw [keyD_pf] at hq
      rw [Int.zero_sub]
      exact hq
    · intro y hy
      obtain ⟨p, hp, rfl⟩ := List.mem_map.mp hy
      exact ⟨⟨p, rfl, hus p hp⟩, by rw [keyD_pf]; exact tame_key (hus p hp).1 (hus p hp).2⟩
    · intro d hd d' hd'
      obtain ⟨y, hy, rfl⟩ := List.mem_map.mp hd
      obtain ⟨p, hp, rfl⟩ := List.mem_map.mp hy
      obtain ⟨y', hy', rfl⟩ := List.mem_map.mp hd'
      obtain ⟨p', hp', rfl⟩ := List.mem_map.mp hy'
      unfold pyk
      rw [keyD_pf, keyD_pf]
      exact alike_key p p'
    · refine .inl fun d hd => ?_
      obtain ⟨y, hy, rfl⟩ := List.mem_map.mp hd
      exact ⟨_, _, rfl⟩
    · rw [sort_pf]
      refine hq (us.mergeSort leP) ?_ ?_ (fun p h => hu p (List.mem_mergeSort.mp h)) (sorted_rise us hw)
      · rw [List.length_mergeSort]; exact hn h1
      · rw [List.length_mergeSort]; omega
end K34

namespace K34
open PySem PySem.Spec L2 PL
local macro_rules | `(tactic| walk_at "pl") => `(tactic| simp only [sNil, sSeq, sRet, sDrop, sIf, sSet, sAsg, sNever, fVar, fC, fBin, fChain, fNot, fAnd, fOr, fNeg, fCB, fCall, fCallK, fNil, fCons, fStar, fTup, fLst, fIf, fSl, fPart, fNo, tB', tNot', tAnd', tOr', tYes', fLc, fItems, fRng1, fRng2, fZip,
  List.getElem?_cons_zero, List.getElem?_cons_succ, Option.some.injEq, Sl.dt.injEq, Sl.ow.injEq, exists_eq_left', exists_eq_left, List.set_cons_zero, List.set_cons_succ])
theorem own_facts {per own : Int} (hp : per = 12 ∨ per = 16 ∨ per = 24) (ho : own = per ∨ own = 2 * per ∨ own = per / 2) : 6 ≤ own ∧ own ≤ 48 ∧ own ∣ 2 * per := by
  rcases hp with rfl | rfl | rfl <;> rcases ho with rfl | rfl | rfl <;> decide
theorem TsOk.nil : TsOk [] := ⟨(fun _ h => by cases h), (fun _ h => by cases h), (fun _ h => by cases h)⟩
theorem TsOk.add {tss : List (List Pf)} {ps : List Pf} (h : TsOk tss) (h1 : 1 ≤ ps.length) (h2 : ps.length ≤ 3) (h3 : ∀ p ∈ ps, Rt p ∧ okD (pf p) = true) (h4 : rise ps = true) : TsOk (tss ++ [ps]) := by
  refine ⟨fun qs hq => ?_, fun qs hq => ?_, fun qs hq => ?_⟩
  all_goals rcases List.mem_append.mp hq with hq | hq
  · exact h.len qs hq
  · obtain rfl := List.mem_singleton.mp hq; exact ⟨h1, h2⟩
  · exact h.each qs hq
  · obtain rfl := List.mem_singleton.mp hq; exact h3
  · exact h.up qs hq
  · obtain rfl := List.mem_singleton.mp hq; exact h4
theorem pfs_of : ∀ (ys : List D), (∀ y ∈ ys, ∃ p : Pf, y = pf p ∧ Rt p ∧ okD (pf p) = true) → ∃ ps : List Pf, ys = ps.map pf ∧ ∀ p ∈ ps, Rt p ∧ okD (pf p) = true
  | [], _ => ⟨[], rfl, (fun _ h => by cases h)⟩
  | y :: ys, h => by
    obtain ⟨p, rfl, h1⟩ := h _ (List.mem_cons_self ..)
    obtain ⟨ps, rfl, h2⟩ := pfs_of ys fun z hz => h z (List.mem_cons_of_mem _ hz)
    exact ⟨p :: ps, rfl, fun r hr => by
      rcases List.mem_cons.mp hr with rfl | hr
      · exact h1
      · exact h2 r hr⟩
theorem sat__law_house : ∀ ds q x, sp__law_house ds q x → ds.length = pr__law_house.length ∧ g__law_house ⟨fun _ => q .non, q, fun _ => False, fun _ => False, fun _ e => x e⟩ (startD nm__law_house ds) := by
  rintro ds q x ⟨n, rfl, hn1, hn3, hq⟩
  refine ⟨rfl, ?_⟩
  show g__law_house _ [.dt .well, .dt (.int n), .no, .no, .no, .no, .no, .no, .no, .no]
  unfold g__law_house
  unfold sPar3
  walk_at "pl"
  refine ⟨limN (by simp), limN (by simp), limN (by simp), _, rfl, by decide, by decide, fun d hd => ?_⟩
  obtain ⟨per, rfl, hper⟩ : ∃ per : Int, d = .int per ∧ (per = 12 ∨ per = 16 ∨ per = 24) := by
    simp only [List.mem_cons, List.mem_nil_iff, or_false] at hd
    rcases hd with rfl | rfl | rfl
    · exact ⟨12, rfl, by decide⟩
    · exact ⟨16, rfl, by decide⟩
    · exact ⟨24, rfl, by decide⟩
  refine ⟨_, _, _, rfl, ?_⟩
  unfold sFor
  walk_at "pl"
  refine ⟨n, rfl, by omega, by omega, ?_⟩
  refine loop_inv (fun i ρ => ∃ (rs : List Rw) (tss : List (List Pf)) (u v w z : Sl), ρ = [.dt .well, .dt (.int n), .dt (rwD rs), .dt (.tup (tss.map td)), .dt (.int per), u, v, w, z, .no] ∧ rs.length = i ∧ tss.length = i ∧ (∀ r ∈ rs, RwOk r ∧ 6 ≤ r.2.1 ∧ r.2.1 ∣ 2 * per) ∧ TsOk tss) _ 0 _ ⟨[], [], _, _, _, _, rfl, rfl, rfl, (fun _ h => by cases h), TsOk.nil⟩ ?_ ?_
  · rintro i d ρ hd ⟨rs, tss, u, v, w, z, rfl, h1, h2, h3, h4⟩ N hN
    have hi : i < n.toNat := by
      have := (List.getElem?_eq_some_iff.mp hd).1
      rw [rng_length] at this; exact this
    unfold tgE
    walk_at "pl"
    refine mul_i (.inl (by decide)) (div_i ⟨by decide, by decide⟩ ⟨limN (by simp), _, rfl, by simp, by simp, fun d2 hd2 => ?_⟩)
    obtain ⟨own, rfl, hown⟩ : ∃ own : Int, d2 = .int own ∧ (own = per ∨ own = 2 * per ∨ own = per / 2) := by
      simp only [List.mem_cons, List.mem_nil_iff, or_false] at hd2
      rcases hd2 with rfl | rfl | rfl | rfl
      · exact ⟨_, rfl, .inl rfl⟩
      · exact ⟨_, rfl, .inl rfl⟩
      · exact ⟨_, rfl, .inr (.inl rfl)⟩
      · exact ⟨_, rfl, .inr (.inr rfl)⟩
    obtain ⟨ho1, ho2, ho3⟩ := own_facts hper hown
    refine div_i ⟨by decide, by decide⟩ ⟨own / 2, rfl, by omega, by omega, fun k hk0 hk1 => sub_int (max_i fun due hd1 hd2 hd3 => ?_)⟩
    refine min_i fun m hm1 hm2 hm3 => ⟨m, rfl, by omega, by omega, fun o ho0 ho1' => ⟨limN (by simp), limN (by simp), ?_⟩⟩
    refine ⟨by rw [List.length_map]; exact limN (by simp; omega), ?_⟩
    refine add_int (div_i ⟨by omega, by omega⟩ (max_i fun most hs1 hs2 hs3 => ?_))
    have hmost : own / (n + 1) ≤ own := Int.ediv_le_self _ (by omega)
    refine ⟨3, rfl, by decide, by decide, fun lp hl0 hl1 => add_int ⟨1 + lp, rfl, by omega, by omega, ?_⟩⟩
    refine lc_rel (e := fun (i : Nat) => D.int (0 + (i : Int))) (fun _ y => ∃ p : Pf, y = pf p ∧ Rt p ∧ okD (pf p) = true) (List.range (1 + lp).toNat) [] (fun a _ Q hQ => ?_) (limN (by rw [List.length_range]; simp; omega)) ?_
    · unfold tgE
      walk_at "pl"
      exact ⟨_, rfl, _, rfl, most, rfl, by omega, by omega, fun p h1 h2 => hQ _ ⟨p, rfl, h1, h2⟩⟩
    · intro ys hys hy
      rw [List.length_range] at hys
      obtain ⟨ps, rfl, hps⟩ := pfs_of ys fun y hy2 => by
        obtain ⟨j, hj⟩ := List.mem_iff_getElem?.mp hy2
        have hj2 := (List.getElem?_eq_some_iff.mp hj).1
        exact hy j j y (by rw [List.getElem?_range (by omega)]) hj
      rw [List.length_map] at hys
      refine ⟨ps, rfl, by omega, by omega, hps, fun os o1 o2 o3 o4 => ⟨limN (by simp), by rw [List.length_map]; exact limN (by simp; omega), ?_⟩⟩
      refine hN _ ⟨rs ++ [(o, own, due)], tss ++ [os], .dt d, .dt (.int own), .dt (.int due), .dt (.int most), ?_, by simp; omega, by simp; omega, fun r hr => ?_, h4.add o1 o2 (fun p hp => hps p (o3 p hp)) o4⟩
      · unfold rwD
        rw [List.map_append, List.map_append]; rfl
      · rcases List.mem_append.mp hr with hr | hr
        · exact h3 r hr
        · obtain rfl := List.mem_singleton.mp hr
          exact ⟨⟨ho0, by dsimp only; omega, by dsimp only; omega, by dsimp only; omega, by dsimp only; omega⟩, ho1, ho3⟩
  · rintro ρ ⟨rs, tss, u, v, w, z, rfl, h1, h2, h3, h4⟩
    rw [rng_length, Nat.zero_add] at h1 h2
    walk_at "pl"
    refine ⟨limN (by simp), _, rfl, by decide, by decide, fun d3 hd3 => ?_⟩
    refine ⟨limN (by simp), _, rfl, by decide, by decide, fun d4 hd4 => ?_⟩
    obtain ⟨a, rfl, ha0, ha1⟩ : ∃ a : Int, d3 = .int a ∧ 0 ≤ a ∧ a ≤ 9 := by
      simp only [List.mem_cons, List.mem_nil_iff, or_false] at hd3
      rcases hd3 with rfl | rfl | rfl <;> exact ⟨_, rfl, by decide, by decide⟩
    obtain ⟨b, rfl, hb0, hb1⟩ : ∃ b : Int, d4 = .int b ∧ 0 ≤ b ∧ b ≤ 9 := by
      simp only [List.mem_cons, List.mem_nil_iff, or_false] at hd4
      rcases hd4 with rfl | rfl | rfl | rfl <;> exact ⟨_, rfl, by decide, by decide⟩
    refine ⟨limN (by simp), limN (by simp), limN (by simp), ?_⟩
    refine hq a b rs tss ⟨ha0, ha1, hb0, hb1, by omega, by omega, fun r hr => (h3 r hr).1, fun r hr => (h3 r hr).2.1, 2 * per, by omega, by omega, fun r hr => (h3 r hr).2.2⟩ h4 (by omega) (by omega)
end K34

namespace K34
open PySem PySem.Spec L2 PL
local macro_rules | `(tactic| walk_at "pl") => `(tactic| simp only [sNil, sSeq, sRet, sDrop, sIf, sSet, sAsg, sNever, fVar, fC, fBin, fChain, fNot, fAnd, fOr, fNeg, fCB, fCall, fCallK, fNil, fCons, fStar, fTup, fLst, fIf, fSl, fPart, fNo, tB', tNot', tAnd', tOr', tYes', fLc, fItems, fRng1, fRng2, fZip,
  List.getElem?_cons_zero, List.getElem?_cons_succ, Option.some.injEq, Sl.dt.injEq, Sl.ow.injEq, exists_eq_left', exists_eq_left, List.set_cons_zero, List.set_cons_succ])
theorem okD2 {x y : D} (hx : okD x = true) (hy : okD y = true) : okD (.tup [x, y]) = true ∧ okD (.lst [x, y]) = true := by
  have e : ((okD x && (okD y && true)) && decide (2 ≤ 1000)) = true := by rw [hx, hy]; rfl
  exact ⟨e, e⟩
theorem okD_rest {d : D} {rest : List Rw} (hd : okD d = true) (hl : rest.length ≤ 3) : okD (.tup (d :: rest.map rd)) = true := by
  have e : (okDL (rest.map rd) && decide ((rest.map rd).length ≤ 1000)) = true := okD_rows (rs := rest) (by omega)
  rw [Bool.and_eq_true] at e
  show ((okD d && okDL (rest.map rd)) && decide ((d :: rest.map rd).length ≤ 1000)) = true
  rw [hd, e.1, List.length_cons, List.length_map, Bool.and_true, Bool.true_and, decide_eq_true_eq]
  omega
theorem bad_row {c d : D} {rest : List Rw} (hc : okD c = true) (hd : okD d = true) (hl : rest.length ≤ 3) (h : rowD d = false) : okD (.tup [c, .tup (d :: rest.map rd)]) = true ∧ planD (.tup [c, .tup (d :: rest.map rd)]) = false := by
  refine ⟨(okD2 hc (okD_rest hd hl)).1, ?_⟩
  rw [planD_2]
  dsimp only
  rw [List.all_cons, h, Bool.false_and, Bool.false_and, Bool.and_false, Bool.and_false]
theorem bad_cost {c : D} {rs : List Rw} (hc : okD c = true) (hl : rs.length ≤ 4) (h : costsD c = false) : okD (.tup [c, rwD rs]) = true ∧ planD (.tup [c, rwD rs]) = false := by
  refine ⟨(okD2 hc (okD_rows (by omega))).1, ?_⟩
  rw [planD_2, h]; rfl
theorem row_bad {o p u : Int} (h : ¬ (1 ≤ p ∧ p ≤ 240 ∧ 0 ≤ o ∧ o ≤ p - 1 ∧ 1 ≤ u ∧ u ≤ p)) : rowD (.tup [.int o, .int p, .int u]) = false := Bool.eq_false_iff.mpr fun e => h (by
  simp only [rowD, betw, Bool.and_eq_true, decide_eq_true_eq] at e
  omega)
theorem bad_times {c : D} {rs : List Rw} (hc : okD c = true) (h1 : 1 ≤ rs.length) (hl : rs.length ≤ 4) : okD (.tup [c, .tup (timesD (rs.map rd) 5)]) = true ∧ planD (.tup [c, .tup (timesD (rs.map rd) 5)]) = false := by
  have e : timesD (rs.map rd) 5 = (rs ++ (rs ++ (rs ++ (rs ++ (rs ++ []))))).map rd := by
    simp only [List.map_append]; rfl
  rw [e]
  refine ⟨(okD2 hc (okD_rows (by simp; omega))).1, ?_⟩
  rw [planD_2]
  have : tupIn (.tup ((rs ++ (rs ++ (rs ++ (rs ++ (rs ++ []))))).map rd)) 1 4 = false := Bool.eq_false_iff.mpr fun e => by
    simp only [tupIn, Bool.and_eq_true, decide_eq_true_eq, List.length_map, List.length_append, List.length_nil] at e
    omega
  rw [this, Bool.false_and, Bool.and_false]
theorem bad_far {c : D} (hc : okD c = true) : okD (.tup [c, .tup [.tup [.int 0, .int 7, .int 7], .tup [.int 0, .int 239, .int 9]]]) = true ∧ planD (.tup [c, .tup [.tup [.int 0, .int 7, .int 7], .tup [.int 0, .int 239, .int 9]]]) = false := by
  refine ⟨(okD2 hc (by decide +kernel)).1, ?_⟩
  rw [planD_2]
  dsimp only
  have e : decide (roundI (asRw [.tup [.int 0, .int 7, .int 7], .tup [.int 0, .int 239, .int 9]]) ≤ 240) = false := by decide +kernel
  rw [e, Bool.and_false, Bool.and_false, Bool.and_false]
theorem sat__law_bad_plans : ∀ ds q x, sp__law_bad_plans ds q x → ds.length = pr__law_bad_plans.length ∧ g__law_bad_plans ⟨fun _ => q .non, q, fun _ => False, fun _ => False, fun _ e => x e⟩ (startD nm__law_bad_plans ds) := by
  rintro ds q x ⟨a, b, rs, rfl, h, h3, hq⟩
  refine ⟨rfl, ?_⟩
  have hn1 := h.n1
  cases rs with
  | nil => exact absurd hn1 (by decide)
  | cons r0 rest =>
  obtain ⟨o, p, u⟩ := r0
  rw [List.length_cons] at h3
  have hr := h.each _ (List.mem_cons_self ..)
  have r1 : 0 ≤ o := hr.o0
  have r2 : o < p := hr.op
  have r3 : p ≤ 240 := hr.p
  have r4 : 1 ≤ u := hr.u1
  have r5 : u ≤ p := hr.up
  show g__law_bad_plans _ [.dt (.tup [.tup [.int a, .int b], .tup (.tup [.int o, .int p, .int u] :: rest.map rd)]), .no, .no, .no, .no, .no, .no, .no]
  have hc : okD (.tup [.int a, .int b]) = true := rfl
  generalize D.tup [.int a, .int b] = c at *
  unfold g__law_bad_plans
  walk_at "pl"
  refine ⟨_, rfl, rfl, _, _, rfl, _, _, rfl, rfl, ?_⟩
  walk_at "pl"
  refine ix_t (j := 0) rfl ⟨1, rfl, sl_from (k := 1) ⟨limN (by simp), ?_⟩⟩
  rw [List.drop_succ_cons, List.drop_zero]
  refine ⟨_, rfl, rfl, _, _, rfl, _, rfl, rfl, _, _, rfl, _, _, rfl, _, _, rfl, rfl, _, _, rfl, rfl, ?_⟩
  walk_at "pl"
  repeat' (first | refine ⟨limN (by simp <;> omega), ?_⟩ | refine ⟨1, rfl, ?_⟩ | refine ⟨⟨by simp, by decide, by decide, by simp <;> omega⟩, ?_⟩ | refine list_t ?_ | refine add_int ?_)
  refine hq _ (by simp) fun d hd => ?_
  simp only [List.mem_append, List.mem_cons, List.not_mem_nil, or_false, List.cons_append, List.nil_append] at hd
  have R : okD (.tup (.tup [.int o, .int p, .int u] :: rest.map rd)) = true := okD_rest rfl (by omega)
  have L1 : 1 ≤ ((o, p, u) :: rest).length := by rw [List.length_cons]; omega
  have L4 : ((o, p, u) :: rest).length ≤ 4 := by rw [List.length_cons]; omega
  rcases hd with rfl | rfl | rfl | rfl | rfl | rfl | rfl | rfl | rfl | rfl | rfl | rfl | rfl | rfl | rfl | rfl | rfl | rfl | rfl
  · exact ⟨rfl, rfl⟩
  · exact ⟨rfl, rfl⟩
  · exact ⟨by show ((okD c && true) && decide (1 ≤ 1000)) = true; rw [hc]; rfl, rfl⟩
  · exact ⟨(okD2 hc R).2, rfl⟩
  · exact ⟨(okD2 hc rfl).1, by rw [planD_2, show tupIn (.tup []) 1 4 = false from by decide, Bool.false_and, Bool.and_false]⟩
  · exact bad_times (rs := (o, p, u) :: rest) hc L1 L4
  · exact bad_cost (c := .tup [.int 10, .int 0]) (rs := (o, p, u) :: rest) rfl L4 (by decide +kernel)
  · exact bad_cost (c := .tup [.int (-1), .int 0]) (rs := (o, p, u) :: rest) rfl L4 (by decide +kernel)
  · exact bad_cost (c := .tup [.int 0, .bl true]) (rs := (o, p, u) :: rest) rfl L4 (by decide +kernel)
  · exact bad_row (d := .tup [.int o, .int p]) hc rfl (by omega) rfl
  · exact bad_row (d := .tup [.int p, .int p, .int u]) hc rfl (by omega) (row_bad (by omega))
  · exact bad_row (d := .tup [.int o, .int p, .int 0]) hc rfl (by omega) (row_bad (by omega))
  · exact bad_row (d := .tup [.int o, .int p, .int (p + 1)]) hc rfl (by omega) (row_bad (by omega))
  · exact bad_row (d := .tup [.int 0, .int 0, .int 0]) hc rfl (by omega) (row_bad (by omega))
  · exact bad_row (d := .tup [.int 0, .int 241, .int 9]) hc rfl (by omega) (row_bad (by omega))
  · exact bad_row (d := .tup [.int (-1), .int p, .int u]) hc rfl (by omega) (row_bad (by omega))
  · exact ⟨(okD2 hc (y := .lst (.tup [.int o, .int p, .int u] :: rest.map rd)) R).1, rfl⟩
  · exact bad_far hc
  · exact ⟨by show ((okD c && (okD (.tup (.tup [.int o, .int p, .int u] :: rest.map rd)) && (true && true))) && decide (3 ≤ 1000)) = true; rw [hc, R]; rfl, rfl⟩
end K34

namespace K34
open PySem PySem.Spec L2 PL
local macro_rules | `(tactic| walk_at "pl") => `(tactic| simp only [sNil, sSeq, sRet, sDrop, sIf, sSet, sAsg, sNever, fVar, fC, fBin, fChain, fNot, fAnd, fOr, fNeg, fCB, fCall, fCallK, fNil, fCons, fStar, fTup, fLst, fIf, fSl, fPart, fNo, tB', tNot', tAnd', tOr', tYes', fLc, fItems, fRng1, fRng2, fZip,
  List.getElem?_cons_zero, List.getElem?_cons_succ, Option.some.injEq, Sl.dt.injEq, Sl.ow.injEq, exists_eq_left', exists_eq_left, List.set_cons_zero, List.set_cons_succ])
/-! what the law asks of a house, in plain words -/
theorem okD_td {ps : List Pf} (hl : ps.length ≤ 1000) (h : ∀ p ∈ ps, okD (pf p) = true) : okD (td ps) = true := by
  show (okDL (ps.map pf) && decide ((ps.map pf).length ≤ 1000)) = true
  rw [Bool.and_eq_true, decide_eq_true_eq, List.length_map]
  exact ⟨okDL_all _ fun y hy => by
    obtain ⟨p, hp, rfl⟩ := List.mem_map.mp hy
    exact h p hp, hl⟩
theorem okDL_tds {tss : List (List Pf)} (h : TsOk tss) : okDL (tss.map td) = true := okDL_all _ fun y hy => by
  obtain ⟨ps, hp, rfl⟩ := List.mem_map.mp hy
  exact okD_td (by have := h.len ps hp; omega) fun p hq => (h.each ps hp p hq).2
theorem okDt {xs : List D} (h : okDL xs = true) (hl : xs.length ≤ 1000) : okD (.tup xs) = true ∧ okD (.lst xs) = true := by
  have e : (okDL xs && decide (xs.length ≤ 1000)) = true := by rw [h, Bool.true_and, decide_eq_true_eq]; exact hl
  exact ⟨e, e⟩
theorem as_pf (ps : List Pf) : (ps.map pf).map asPfD = ps := by
  rw [List.map_map]
  conv => rhs; rw [← List.map_id ps]
  refine List.map_congr_left fun p _ => ?_
  show asPf (p.map sd) = p
  exact asPf_pf p
theorem taskD_td {ps : List Pf} (h1 : 1 ≤ ps.length) (h3 : ps.length ≤ 12) (h : ∀ p ∈ ps, Rt p) (hr : rise ps = true) : taskD (td ps) = true := by
  show (decide (1 ≤ (ps.map pf).length) && decide ((ps.map pf).length ≤ 12) && (ps.map pf).all profD && rise ((ps.map pf).map asPfD)) = true
  rw [as_pf, hr, List.length_map]
  have e : (ps.map pf).all profD = true := by
    rw [List.all_map, List.all_eq_true]
    exact fun p hp => right_profD (h p hp)
  rw [e]
  simp [h1, h3]
theorem tasksD_own {tss : List (List Pf)} {n : Nat} (h : TsOk tss) (hn : tss.length = n) : tasksD n (.tup (tss.map td)) = true := by
  show (decide ((tss.map td).length = n) && (tss.map td).all taskD) = true
  rw [List.length_map, hn, decide_eq_true rfl, Bool.true_and, List.all_map, List.all_eq_true]
  exact fun ps hp => taskD_td (h.len ps hp).1 (by have := h.len ps hp; omega) (fun p hq => (h.each ps hp p hq).1) (h.up ps hp)
theorem odd_head {d : D} {xs : List D} {n : Nat} (hd : okD d = true) (hx : okDL xs = true) (hl : xs.length ≤ 900) (h : taskD d = false) : okD (.tup (d :: xs)) = true ∧ tasksD n (.tup (d :: xs)) = false := by
  refine ⟨(okDt (by show (okD d && okDL xs) = true; rw [hd, hx]; rfl) (by rw [List.length_cons]; omega)).1, ?_⟩
  show (_ && (taskD d && _)) = false
  rw [h, Bool.false_and, Bool.and_false]
theorem odd_len {xs : List D} {n : Nat} (hx : okDL xs = true) (hl : xs.length ≤ 900) (h : xs.length ≠ n) : okD (.tup xs) = true ∧ tasksD n (.tup xs) = false := by
  refine ⟨(okDt hx (by omega)).1, ?_⟩
  show (decide (xs.length = n) && _) = false
  rw [decide_eq_false h, Bool.false_and]
theorem twice_bad (p : Pf) (ps : List Pf) : taskD (.tup (pf p :: pf p :: ps.map pf)) = false := by
  show (_ && rise ((pf p :: pf p :: ps.map pf).map asPfD)) = false
  have e : (pf p :: pf p :: ps.map pf).map asPfD = p :: p :: ps := as_pf (p :: p :: ps)
  rw [e]
  show (_ && (ltD (keyP p) (keyP p) && _)) = false
  have l : ltD (keyP p) (keyP p) = false := PyProof.Rows.lex_irrefl _
  rw [l, Bool.false_and, Bool.and_false]
theorem cost_dis {l : List Nat} {m : Nat} (hl : l.length ≤ m) (h : ∀ n ∈ l, n < 1000000000000) : cost (.tup (l.map di)) ≤ m + 1 ∧ dep (.tup (l.map di)) ≤ 1 := by
  have h1 : costL (l.map di) ≤ (l.map di).length * 1 := costL_le _ fun d hd => by
    obtain ⟨n, hn, rfl⟩ := List.mem_map.mp hd
    rw [cost_di (h n hn)]; exact Nat.le_refl 1
  have h2 : depL (l.map di) ≤ 0 := depL_le _ fun d hd => by
    obtain ⟨n, hn, rfl⟩ := List.mem_map.mp hd
    exact Nat.le_refl 0
  rw [List.length_map] at h1
  refine ⟨?_, ?_⟩
  · show costL (l.map di) + 1 ≤ _
    omega
  · show depL (l.map di) + 1 ≤ _
    omega
theorem cost_jds {l : List (Nat × Nat)} {m : Nat} (hl : l.length ≤ m) (h : ∀ j ∈ l, j.1 < 1000000000000 ∧ j.2 < 1000000000000) : cost (.tup (l.map jd)) ≤ m * 3 + 1 ∧ dep (.tup (l.map jd)) ≤ 2 := by
  have h1 : costL (l.map jd) ≤ (l.map jd).length * 3 := costL_le _ fun d hd => by
    obtain ⟨j, hj, rfl⟩ := List.mem_map.mp hd
    show cost (di j.1) + (cost (di j.2) + 0) + 1 ≤ 3
    rw [cost_di (h j hj).1, cost_di (h j hj).2]; omega
  have h2 : depL (l.map jd) ≤ 1 := depL_le _ fun d hd => by
    obtain ⟨j, hj, rfl⟩ := List.mem_map.mp hd
    exact Nat.le_refl 1
  rw [List.length_map] at h1
  refine ⟨?_, ?_⟩
  · show costL (l.map jd) + 1 ≤ _
    omega
  · show depL (l.map jd) + 1 ≤ _
    omega
theorem jobs_next (rs : List Rw) (i : Nat) : jobsL rs (i + 1) = jobsL rs i ++ (relAt rs (i : Int)).map fun k => (i, k) := by
  unfold jobsL
  rw [List.range_succ, List.flatMap_append, List.flatMap_singleton]
theorem jobs_le (rs : List Rw) : ∀ t : Nat, (jobsL rs t).length ≤ t * rs.length
  | 0 => Nat.zero_le _
  | t + 1 => by
    have := jobs_le rs t
    have h2 := rel_len rs (t : Int)
    rw [jobs_next, List.length_append, List.length_map, Nat.add_mul, Nat.one_mul]
    omega
theorem jobs_mem {rs : List Rw} {t : Nat} {j : Nat × Nat} (h : j ∈ jobsL rs t) : j.1 < t ∧ j.2 < rs.length := by
  unfold jobsL at h
  obtain ⟨r, h1, h2⟩ := List.mem_flatMap.mp h
  obtain ⟨i, h3, rfl⟩ := List.mem_map.mp h2
  exact ⟨List.mem_range.mp h1, rel_lt h3⟩
theorem due_lt {rs : List Rw} {t : Int} {i : Nat} (h : i ∈ dueAt rs t) : i < rs.length := by
  have := rel_lt (rs := rs.map shiftR) h
  rw [List.length_map] at this; exact this
theorem times_le (rs : List Rw) (h : 0 < roundI rs ∧ roundI rs ≤ 48) : (timesL rs).length ≤ 48 ∧ ∀ n ∈ timesL rs, n < 1000000000000 := by
  unfold timesL
  refine ⟨Nat.le_trans (List.length_filter_le ..) (by rw [List.length_range]; omega), fun n hn => ?_⟩
  have := List.mem_range.mp (List.mem_filter.mp hn).1
  omega
theorem tame_first (x y z : Bool) {W : Int} (hW : W.natAbs < 1000000000000) {l : List Nat} (hl : l.length ≤ 48) (h : ∀ n ∈ l, n < 1000000000000) : tame (.lst [.bl x, .bl y, .int W, .int W, .tup (l.map di), .tup (l.map di), .bl z]) := by
  have c := cost_dis hl h
  have w := cost_int hW
  refine ⟨?_, ?_⟩
  · show 1 + (1 + (cost (.int W) + (cost (.int W) + (cost (.tup (l.map di)) + (cost (.tup (l.map di)) + (1 + 0)))))) + 1 ≤ 20000
    omega
  · show max 0 (max 0 (max 0 (max 0 (max (dep (.tup (l.map di))) (max (dep (.tup (l.map di))) (max 0 0)))))) + 1 ≤ 60
    omega
theorem tame_second {r d : List Nat} {j : List (Nat × Nat)} (hr : r.length ≤ 3) (hr2 : ∀ n ∈ r, n < 1000000000000) (hd : d.length ≤ 3) (hd2 : ∀ n ∈ d, n < 1000000000000) (hj : j.length ≤ 2697) (hj2 : ∀ i ∈ j, i.1 < 1000000000000 ∧ i.2 < 1000000000000) :
    tame (.lst [.tup (r.map di), .tup (r.map di), .tup (d.map di), .tup (d.map di), .tup (j.map jd), .tup (j.map jd)]) := by
  have c1 := cost_dis hr hr2
  have c2 := cost_dis hd hd2
  have c3 := cost_jds hj hj2
  refine ⟨?_, ?_⟩
  · show cost (.tup (r.map di)) + (cost (.tup (r.map di)) + (cost (.tup (d.map di)) + (cost (.tup (d.map di)) + (cost (.tup (j.map jd)) + (cost (.tup (j.map jd)) + 0))))) + 1 ≤ 20000
    omega
  · show max (dep (.tup (r.map di))) (max (dep (.tup (r.map di))) (max (dep (.tup (d.map di))) (max (dep (.tup (d.map di))) (max (dep (.tup (j.map jd))) (max (dep (.tup (j.map jd))) 0))))) + 1 ≤ 60
    omega
end K34

namespace K34
open PySem PySem.Spec L2 PL
local macro_rules | `(tactic| walk_at "pl") => `(tactic| simp only [sNil, sSeq, sRet, sDrop, sIf, sSet, sAsg, sNever, fVar, fC, fBin, fChain, fNot, fAnd, fOr, fNeg, fCB, fCall, fCallK, fNil, fCons, fStar, fTup, fLst, fIf, fSl, fPart, fNo, tB', tNot', tAnd', tOr', tYes', fLc, fItems, fRng1, fRng2, fZip,
  List.getElem?_cons_zero, List.getElem?_cons_succ, Option.some.injEq, Sl.dt.injEq, Sl.ow.injEq, exists_eq_left', exists_eq_left, List.set_cons_zero, List.set_cons_succ])
theorem sat__law_right : ∀ ds q x, sp__law_right ds q x → ds.length = pr__law_right.length ∧ g__law_right ⟨fun _ => q .non, q, fun _ => False, fun _ => False, fun _ e => x e⟩ (startD nm__law_right ds) := by
  rintro ds q x ⟨rfl, hq⟩
  refine ⟨rfl, ?_⟩
  show g__law_right _ [.dt .well, .no, .no, .no, .no, .no, .no, .no, .no, .no, .no, .no, .no, .no]
  unfold g__law_right
  walk_at "pl"
  refine for_i ?_
  walk_at "pl"
  refine ⟨6, rfl, by decide, by decide, ?_⟩
  refine loop_inv (fun i ρ => ∃ (s1 s2 s3 s4 s5 s6 s7 s8 s9 s10 s11 s12 : Sl), ρ = [.dt .well, s1, s2, s3, s4, s5, s6, s7, s8, s9, s10, s11, s12, .no]) _ 0 _ ⟨_, _, _, _, _, _, _, _, _, _, _, _, rfl⟩ ?_ ?_
  rotate_left
  · rintro ρ ⟨s1, s2, s3, s4, s5, s6, s7, s8, s9, s10, s11, s12, rfl⟩
    walk_at "pl"
    exact hq
  rintro i0 d0 ρ _ ⟨s1, s2, s3, s4, s5, s6, s7, s8, s9, s10, s11, s12, rfl⟩ N hN
  unfold tgE
  walk_at "pl"
  refine ⟨3, rfl, by decide, by decide, fun k hk0 hk1 => add_int ⟨1 + k, rfl, by omega, by omega, fun a b rs tss h ht hl h3 => ?_⟩⟩
  refine ⟨_, rfl, rfl, _, _, rfl, _, _, rfl, rfl, ?_⟩
  unfold sPar
  walk_at "pl"
  have hW := h.round
  have hpl := h.plan
  have hok := h.okd
  have hn1 := h.n1
  have hta := tasksD_own ht hl
  have hot : okD (.tup (tss.map td)) = true := (okDt (okDL_tds ht) (by rw [List.length_map]; omega)).1
  obtain ⟨ht1, ht2⟩ := times_le rs hW
  refine ix_t (j := 1) rfl ⟨a, b, rs, rfl, h, a, b, rs, rfl, h, h3, _, _, rfl, ?_⟩
  try walk_at "pl"
  refine ⟨_, rfl, hok, rfl, rfl, _, rfl, hok, a, b, rs, rfl, h, rfl, rfl, a, b, rs, rfl, h, a, b, rs, rfl, h, rfl, rfl, a, b, rs, rfl, h, limN (by simp), ?_⟩
  refine ⟨a, b, rs, _, rfl, h, hot, limN (by simp), limN (by simp), ?_⟩
  rw [hpl, hta]
  have T1 := tame_first true true true (W := roundI rs) (by omega) ht1 ht2
  refine repr_l T1 ⟨limN (by simp), repr_l T1 (ne_str rfl ⟨_, rfl, wf ?_⟩)⟩
  refine for_i ?_
  walk_at "pl"
  refine mul_i (.inl (by decide)) ⟨3 * roundI rs, rfl, by omega, by omega, fun k1 hk10 hk11 => ⟨900, rfl, by decide, by decide, fun k2 hk20 hk21 => ⟨limN (by simp), _, rfl, ?_⟩⟩⟩
  refine loop_inv (fun i ρ => ∃ (s1 s6 s7 s8 s9 s10 s11 s12 : Sl), ρ = [.dt .well, s1, .dt (pd a b rs), .dt (.tup (tss.map td)), .dt (.int (roundI rs)), .dt (.tup ((timesL rs).map di)), s6, s7, s8, s9, s10, s11, s12, .no]) _ 0 _ ⟨_, _, _, _, _, _, _, _, rfl⟩ ?_ ?_
  · rintro i1 d1 ρ hd1 ⟨s1, s6, s7, s8, s9, s10, s11, s12, rfl⟩ N1 hN1
    obtain ⟨t, rfl, ht899⟩ : ∃ t : Nat, d1 = di t ∧ t ≤ 899 := by
      have hm := List.mem_of_getElem? hd1
      have nat : ∀ n : Int, 0 ≤ n → n ≤ 899 → ∃ t : Nat, D.int n = di t ∧ t ≤ 899 := fun n h1 h2 => ⟨n.toNat, by show D.int n = D.int (n.toNat : Int); rw [Int.toNat_of_nonneg h1], by omega⟩
      simp only [List.mem_cons, List.mem_nil_iff, or_false] at hm
      rcases hm with rfl | rfl | rfl | rfl
      · exact nat _ (by decide) (by decide)
      · exact nat _ (by omega) (by omega)
      · exact nat _ (by omega) (by omega)
      · exact nat _ (by omega) (by omega)
    have ht2000 : t ≤ 2000 := by omega
    unfold tgE
    walk_at "pl"
    refine ⟨limN (by simp), ?_⟩
    refine for_i ?_
    walk_at "pl"
    refine ⟨(t : Int), rfl, by omega, by omega, ?_⟩
    unfold rng
    rw [Int.toNat_natCast]
    refine loop_inv (fun i ρ => ∃ (s1 s6 s9 s10 s11 s12 : Sl), ρ = [.dt .well, s1, .dt (pd a b rs), .dt (.tup (tss.map td)), .dt (.int (roundI rs)), .dt (.tup ((timesL rs).map di)), s6, .dt (di t), .dt (.lst ((jobsL rs i).map jd)), s9, s10, s11, s12, .no]) _ 0 _ ⟨_, _, _, _, _, _, rfl⟩ ?_ ?_
    · rintro i2 d2 ρ hd2 ⟨s1, s6, s9, s10, s11, s12, rfl⟩ N2 hN2
      obtain ⟨hi2, rfl⟩ := rng_at hd2
      rw [Nat.zero_add]
      unfold tgE
      walk_at "pl"
      have r3 := rel_len rs (i2 : Int)
      have j3 := jobs_le rs i2
      have j4 : i2 * rs.length ≤ 899 * 3 := Nat.mul_le_mul (by omega) h3
      refine ⟨a, b, rs, i2, rfl, h, _, rfl, ?_⟩
      refine lc_map (e := di) (fun (k : Nat) => jd (i2, k)) (relAt rs (i2 : Int)) (fun k _ Q hQ => ?_) (limN (by omega)) ?_
      · unfold tgE
        walk_at "pl"
        exact ⟨_, rfl, _, rfl, limN (by simp), hQ⟩
      refine ⟨by rw [List.length_map, List.length_map]; have : LIM = 1000000 := rfl; omega, hN2 _ ⟨s1, s6, .dt (.int (i2 : Int)), s10, s11, s12, ?_⟩⟩
      rw [Nat.zero_add, jobs_next, List.map_append, List.map_map]
      rfl
    rintro ρ ⟨s1, s6, s9, s10, s11, s12, rfl⟩
    rw [List.length_map, List.length_range, Nat.zero_add]
    walk_at "pl"
    refine ⟨a, b, rs, t, rfl, h, ht2000, rfl, rfl, a, b, rs, t, rfl, h, ht2000, a, b, rs, t, rfl, h, ht2000, rfl, rfl, a, b, rs, t, rfl, h, ht2000, limN (by simp), ?_⟩
    refine ⟨a, b, rs, t, rfl, h, limN (by simp), ⟨by decide, by decide, by simp⟩, a, b, rs, t, rfl, h, limN (by simp), ⟨by decide, by decide, by simp⟩, limN (by show 2 + 2 ≤ 1000; decide), ?_⟩
    refine ⟨a, b, rs, t, rfl, h, ht2000, rfl, rfl, a, b, rs, t, rfl, h, ht2000, limN (by simp), limN (by simp), ?_⟩
    have r3 := rel_len rs (t : Int)
    have d3 := due_len rs (t : Int)
    have j3 := jobs_le rs t
    have j4 : t * rs.length ≤ 899 * 3 := Nat.mul_le_mul ht899 h3
    have T2 := tame_second (r := relAt rs t) (d := dueAt rs t) (j := jobsL rs t) (by omega) (fun n hn => by have := rel_lt hn; omega) (by omega) (fun n hn => by have := due_lt hn; omega) (by omega) (fun j hj => by have := jobs_mem hj; omega)
    refine repr_l T2 ⟨limN (by simp), ⟨by decide, by decide, by simp⟩, limN (by show 4 + 2 ≤ 1000; decide), repr_l T2 (ne_str rfl ⟨_, rfl, wf (hN1 _ ⟨_, _, _, _, _, _, _, _, rfl⟩)⟩)⟩
  rintro ρ ⟨s1, s6, s7, s8, s9, s10, s11, s12, rfl⟩
  walk_at "pl"
  refine for_i ?_
  walk_at "pl"
  refine ⟨a, b, rs, rfl, h, h3, fun bad hb1 hb2 => ⟨_, rfl, ?_⟩⟩
  refine loop_inv (fun i ρ => ∃ (s1 s6 s7 s8 s9 s10 s11 s12 : Sl), ρ = [.dt .well, s1, .dt (pd a b rs), .dt (.tup (tss.map td)), .dt (.int (roundI rs)), .dt (.tup ((timesL rs).map di)), s6, s7, s8, s9, s10, s11, s12, .no]) _ 0 _ ⟨_, _, _, _, _, _, _, _, rfl⟩ ?_ ?_
  · rintro i1 d1 ρ hd1 ⟨s1, s6, s7, s8, s9, s10, s11, s12, rfl⟩ N1 hN1
    obtain ⟨o1, o2⟩ := hb2 d1 (List.mem_of_getElem? hd1)
    unfold tgE
    walk_at "pl"
    refine ⟨d1, rfl, o1, ?_⟩
    rw [o2]
    exact ⟨_, rfl, wf (hN1 _ ⟨_, _, _, _, _, _, _, _, rfl⟩)⟩
  rintro ρ ⟨s1, s6, s7, s8, s9, s10, s11, s12, rfl⟩
  walk_at "pl"
  cases tss with
  | nil => rw [← hl] at hn1; exact absurd hn1 (by decide)
  | cons ts0 tss =>
  have hl0 := ht.len ts0 (List.mem_cons_self ..)
  cases ts0 with
  | nil => exact absurd hl0.1 (by decide)
  | cons p0 ts0 =>
  have hall : okDL ((td (p0 :: ts0)) :: tss.map td) = true := okDL_tds ht
  have hall2 := hall
  rw [show okDL ((td (p0 :: ts0)) :: tss.map td) = (okD (td (p0 :: ts0)) && okDL (tss.map td)) from rfl, Bool.and_eq_true] at hall2
  rw [List.length_cons] at hl hl0
  rw [List.map_cons]
  have hp0 := ht.each _ (List.mem_cons_self ..) p0 (List.mem_cons_self ..)
  have hps : ∀ p ∈ ts0, okD (pf p) = true := fun p hp => (ht.each _ (List.mem_cons_self ..) p (List.mem_cons_of_mem _ hp)).2
  have hlt : (tss.map td).length ≤ 900 := by rw [List.length_map]; omega
  repeat' (first | refine ⟨limN (by simp <;> omega), ?_⟩ | refine ⟨1, rfl, sl_from (k := 1) ?_⟩ | refine list_t ?_ | refine ix_t (j := 0) rfl ?_)
  refine for_i ?_
  walk_at "pl"
  refine ⟨_, rfl, ?_⟩
  refine loop_inv (fun i ρ => ∃ (s1 s6 s7 s8 s9 s10 s11 s12 : Sl), ρ = [.dt .well, s1, .dt (pd a b rs), .dt (.tup (td (p0 :: ts0) :: tss.map td)), .dt (.int (roundI rs)), .dt (.tup ((timesL rs).map di)), s6, s7, s8, s9, s10, s11, s12, .no]) _ 0 _ ⟨_, _, _, _, _, _, _, _, rfl⟩ ?_ ?_
  · rintro i1 d1 ρ hd1 ⟨s1, s6, s7, s8, s9, s10, s11, s12, rfl⟩ N1 hN1
    have hm := List.mem_of_getElem? hd1
    have hod : okD d1 = true ∧ tasksD rs.length d1 = false := by
      simp only [List.mem_append, List.mem_cons, List.not_mem_nil, or_false, List.cons_append, List.nil_append, List.drop_succ_cons, List.drop_zero] at hm
      rcases hm with rfl | rfl | rfl | rfl | rfl | rfl | rfl | rfl | rfl | rfl | rfl | rfl | rfl | rfl
      · exact ⟨rfl, rfl⟩
      · exact odd_len (xs := []) rfl (by decide) (by rw [List.length_nil]; omega)
      · exact odd_len hall2.2 hlt (by rw [List.length_map]; omega)
      · exact ⟨(okDt hall (by rw [List.length_cons]; omega)).2, rfl⟩
      · refine odd_len (okDL_all _ fun y hy => okDL_mem _ y hall ?_) ?_ ?_
        · simp only [List.mem_append, List.mem_cons, List.not_mem_nil, or_false] at hy ⊢
          rcases hy with hy | hy | hy
          · exact .inl hy
          · exact .inr hy
          · exact .inl hy
        · simp; omega
        · simp; omega
      · exact odd_head (d := .tup []) rfl hall2.2 hlt rfl
      · exact odd_head (d := .lst (pf p0 :: ts0.map pf)) hall2.1 hall2.2 hlt rfl
      · exact odd_head (by decide +kernel) hall2.2 hlt (by decide +kernel)
      · exact odd_head (by decide +kernel) hall2.2 hlt (by decide +kernel)
      · exact odd_head (by decide +kernel) hall2.2 hlt (by decide +kernel)
      · exact odd_head (by decide +kernel) hall2.2 hlt (by decide +kernel)
      · refine odd_head (d := .tup (pf p0 :: pf p0 :: ts0.map pf)) ?_ hall2.2 hlt (twice_bad p0 ts0)
        exact okD_td (ps := p0 :: p0 :: ts0) (by simp; omega) fun p hp => by
          simp only [List.mem_cons] at hp
          rcases hp with rfl | rfl | hp
          · exact hp0.2
          · exact hp0.2
          · exact hps p hp
      · exact odd_head (by decide +kernel) hall2.2 hlt (by decide +kernel)
      · exact odd_head (by decide +kernel) hall2.2 hlt (by decide +kernel)
    obtain ⟨o1, o2⟩ := hod
    unfold tgE
    walk_at "pl"
    refine ⟨a, b, rs, d1, rfl, h, o1, ?_⟩
    rw [o2]
    refine ⟨_, rfl, wf ?_⟩
    refine ⟨rfl, rfl, a, b, rs, d1, rfl, h, o1, ?_⟩
    rw [o2]
    exact ⟨_, rfl, wf (hN1 _ ⟨_, _, _, _, _, _, _, _, rfl⟩)⟩
  rintro ρ ⟨s1, s6, s7, s8, s9, s10, s11, s12, rfl⟩
  exact hN _ ⟨_, _, _, _, _, _, _, _, _, _, _, _, rfl⟩
end K34

namespace K34
open PySem PySem.Spec L2 PL
local macro_rules | `(tactic| walk_at "pl") => `(tactic| simp only [sNil, sSeq, sRet, sDrop, sIf, sSet, sAsg, sNever, fVar, fC, fBin, fChain, fNot, fAnd, fOr, fNeg, fCB, fCall, fCallK, fNil, fCons, fStar, fTup, fLst, fIf, fSl, fPart, fNo, tB', tNot', tAnd', tOr', tYes', fLc, fItems, fRng1, fRng2, fZip,
  List.getElem?_cons_zero, List.getElem?_cons_succ, Option.some.injEq, Sl.dt.injEq, Sl.ow.injEq, exists_eq_left', exists_eq_left, List.set_cons_zero, List.set_cons_succ])
theorem sat_law : ∀ ds q x, sLaw 63 ds q x → ds.length = pr_law.length ∧ g_law ⟨fun _ => q .non, q, fun _ => False, fun _ => False, fun _ e => x e⟩ (startD nm_law ds) := by
  rintro ds q x ⟨ns, rfl, hl, hq⟩
  refine ⟨rfl, ?_⟩
  show g_law _ [.dt (.scr ns), .no]
  unfold g_law
  walk_at "pl"
  refine (show lenG [.scr ns] _ from ?_)
  refine min_i fun m _ _ hm => max_i fun m2 h1 _ hm2 => ⟨m2, rfl, by omega, by omega, ?_⟩
  refine lc_map (e := fun (i : Nat) => D.int (0 + (i : Int))) (fun _ => .bl true) (List.range m2.toNat) (fun i hi Q hQ => ?_) (limN (by rw [List.length_range]; omega)) ?_
  · unfold tgE
    walk_at "pl"
    refine ⟨.scr ns, rfl, .int (0 + (i : Int)), rfl, rfl, ns, 0 + (i : Int), rfl, hl, by omega, fun i j k h1 h2 h3 => ⟨i, j, k, rfl, h1, h2, h3, rfl, rfl, hQ⟩⟩
  · refine ⟨(List.range m2.toNat).map fun _ => true, by rw [List.map_map]; rfl, ?_⟩
    rw [show ∀ l : List Nat, (l.map fun _ => true).all id = true from fun l => by induction l with
      | nil => rfl
      | cons a l ih => exact ih]
    exact hq
end K34

namespace K34
open PySem PySem.Spec L2 PL
theorem top_mk {K : PySem.W.Frag} {h : Heap} {mg : Str → Option Value} (X : K.In h) (G : h.Ns mainGlobals mg)
    {f0 : Addr} {oc0 kV0 dc0 pm0 cd0 ct0 : Value} {od0 an0 : Option Addr} {sl0 : Array (Option Value)} (a0 : PySem.W.nsIn K mainGlobals "is_whole" = some (some (.ref f0))) (l0 : K.lookup f0 = some ⟨oc0, od0, .func (PySem.W.fnOf "is_whole" "is_whole" (defArgs s_is_whole) (defBody s_is_whole) (defScope s_is_whole) .none kV0 dc0 pm0 an0 cd0 ct0), sl0⟩) (c0 : PySem.W.codeIn K cd0 "is_whole" = true) (k0 : PySem.W.keepIn K (.ref f0) = true)
    {f1 : Addr} {oc1 kV1 dc1 pm1 cd1 ct1 : Value} {od1 an1 : Option Addr} {sl1 : Array (Option Value)} (a1 : PySem.W.nsIn K mainGlobals "is_between" = some (some (.ref f1))) (l1 : K.lookup f1 = some ⟨oc1, od1, .func (PySem.W.fnOf "is_between" "is_between" (defArgs s_is_between) (defBody s_is_between) (defScope s_is_between) .none kV1 dc1 pm1 an1 cd1 ct1), sl1⟩) (c1 : PySem.W.codeIn K cd1 "is_between" = true) (k1 : PySem.W.keepIn K (.ref f1) = true)
    {f2 : Addr} {oc2 kV2 dc2 pm2 cd2 ct2 : Value} {od2 an2 : Option Addr} {sl2 : Array (Option Value)} (a2 : PySem.W.nsIn K mainGlobals "is_tuple_of" = some (some (.ref f2))) (l2 : K.lookup f2 = some ⟨oc2, od2, .func (PySem.W.fnOf "is_tuple_of" "is_tuple_of" (defArgs s_is_tuple_of) (defBody s_is_tuple_of) (defScope s_is_tuple_of) .none kV2 dc2 pm2 an2 cd2 ct2), sl2⟩) (c2 : PySem.W.codeIn K cd2 "is_tuple_of" = true) (k2 : PySem.W.keepIn K (.ref f2) = true)
    {f3 : Addr} {oc3 kV3 dc3 pm3 cd3 ct3 : Value} {od3 an3 : Option Addr} {sl3 : Array (Option Value)} (a3 : PySem.W.nsIn K mainGlobals "is_short_tuple" = some (some (.ref f3))) (l3 : K.lookup f3 = some ⟨oc3, od3, .func (PySem.W.fnOf "is_short_tuple" "is_short_tuple" (defArgs s_is_short_tuple) (defBody s_is_short_tuple) (defScope s_is_short_tuple) .none kV3 dc3 pm3 an3 cd3 ct3), sl3⟩) (c3 : PySem.W.codeIn K cd3 "is_short_tuple" = true) (k3 : PySem.W.keepIn K (.ref f3) = true)
    {f4 : Addr} {oc4 kV4 dc4 pm4 cd4 ct4 : Value} {od4 an4 : Option Addr} {sl4 : Array (Option Value)} (a4 : PySem.W.nsIn K mainGlobals "is_rising_strictly" = some (some (.ref f4))) (l4 : K.lookup f4 = some ⟨oc4, od4, .func (PySem.W.fnOf "is_rising_strictly" "is_rising_strictly" (defArgs s_is_rising_strictly) (defBody s_is_rising_strictly) (defScope s_is_rising_strictly) .none kV4 dc4 pm4 an4 cd4 ct4), sl4⟩) (c4 : PySem.W.codeIn K cd4 "is_rising_strictly" = true) (k4 : PySem.W.keepIn K (.ref f4) = true)
    {f5 : Addr} {oc5 kV5 dc5 pm5 cd5 ct5 : Value} {od5 an5 : Option Addr} {sl5 : Array (Option Value)} (a5 : PySem.W.nsIn K mainGlobals "is_name" = some (some (.ref f5))) (l5 : K.lookup f5 = some ⟨oc5, od5, .func (PySem.W.fnOf "is_name" "is_name" (defArgs s_is_name) (defBody s_is_name) (defScope s_is_name) .none kV5 dc5 pm5 an5 cd5 ct5), sl5⟩) (c5 : PySem.W.codeIn K cd5 "is_name" = true) (k5 : PySem.W.keepIn K (.ref f5) = true)
    {f6 : Addr} {oc6 kV6 dc6 pm6 cd6 ct6 : Value} {od6 an6 : Option Addr} {sl6 : Array (Option Value)} (a6 : PySem.W.nsIn K mainGlobals "is_stretch" = some (some (.ref f6))) (l6 : K.lookup f6 = some ⟨oc6, od6, .func (PySem.W.fnOf "is_stretch" "is_stretch" (defArgs s_is_stretch) (defBody s_is_stretch) (defScope s_is_stretch) .none kV6 dc6 pm6 an6 cd6 ct6), sl6⟩) (c6 : PySem.W.codeIn K cd6 "is_stretch" = true) (k6 : PySem.W.keepIn K (.ref f6) = true)
    {f7 : Addr} {oc7 kV7 dc7 pm7 cd7 ct7 : Value} {od7 an7 : Option Addr} {sl7 : Array (Option Value)} (a7 : PySem.W.nsIn K mainGlobals "is_profile_form" = some (some (.ref f7))) (l7 : K.lookup f7 = some ⟨oc7, od7, .func (PySem.W.fnOf "is_profile_form" "is_profile_form" (defArgs s_is_profile_form) (defBody s_is_profile_form) (defScope s_is_profile_form) .none kV7 dc7 pm7 an7 cd7 ct7), sl7⟩) (c7 : PySem.W.codeIn K cd7 "is_profile_form" = true) (k7 : PySem.W.keepIn K (.ref f7) = true)
    {f8 : Addr} {oc8 kV8 dc8 pm8 cd8 ct8 : Value} {od8 an8 : Option Addr} {sl8 : Array (Option Value)} (a8 : PySem.W.nsIn K mainGlobals "are_profiles_of_task" = some (some (.ref f8))) (l8 : K.lookup f8 = some ⟨oc8, od8, .func (PySem.W.fnOf "are_profiles_of_task" "are_profiles_of_task" (defArgs s_are_profiles_of_task) (defBody s_are_profiles_of_task) (defScope s_are_profiles_of_task) .none kV8 dc8 pm8 an8 cd8 ct8), sl8⟩) (c8 : PySem.W.codeIn K cd8 "are_profiles_of_task" = true) (k8 : PySem.W.keepIn K (.ref f8) = true)
    {f9 : Addr} {oc9 kV9 dc9 pm9 cd9 ct9 : Value} {od9 an9 : Option Addr} {sl9 : Array (Option Value)} (a9 : PySem.W.nsIn K mainGlobals "cycles_in" = some (some (.ref f9))) (l9 : K.lookup f9 = some ⟨oc9, od9, .func (PySem.W.fnOf "cycles_in" "cycles_in" (defArgs s_cycles_in) (defBody s_cycles_in) (defScope s_cycles_in) .none kV9 dc9 pm9 an9 cd9 ct9), sl9⟩) (c9 : PySem.W.codeIn K cd9 "cycles_in" = true) (k9 : PySem.W.keepIn K (.ref f9) = true)
    {f10 : Addr} {oc10 kV10 dc10 pm10 cd10 ct10 : Value} {od10 an10 : Option Addr} {sl10 : Array (Option Value)} (a10 : PySem.W.nsIn K mainGlobals "order_of" = some (some (.ref f10))) (l10 : K.lookup f10 = some ⟨oc10, od10, .func (PySem.W.fnOf "order_of" "order_of" (defArgs s_order_of) (defBody s_order_of) (defScope s_order_of) .none kV10 dc10 pm10 an10 cd10 ct10), sl10⟩) (c10 : PySem.W.codeIn K cd10 "order_of" = true) (k10 : PySem.W.keepIn K (.ref f10) = true)
    {f11 : Addr} {oc11 kV11 dc11 pm11 cd11 ct11 : Value} {od11 an11 : Option Addr} {sl11 : Array (Option Value)} (a11 : PySem.W.nsIn K mainGlobals "is_row" = some (some (.ref f11))) (l11 : K.lookup f11 = some ⟨oc11, od11, .func (PySem.W.fnOf "is_row" "is_row" (defArgs s_is_row) (defBody s_is_row) (defScope s_is_row) .none kV11 dc11 pm11 an11 cd11 ct11), sl11⟩) (c11 : PySem.W.codeIn K cd11 "is_row" = true) (k11 : PySem.W.keepIn K (.ref f11) = true)
    {f12 : Addr} {oc12 kV12 dc12 pm12 cd12 ct12 : Value} {od12 an12 : Option Addr} {sl12 : Array (Option Value)} (a12 : PySem.W.nsIn K mainGlobals "are_costs" = some (some (.ref f12))) (l12 : K.lookup f12 = some ⟨oc12, od12, .func (PySem.W.fnOf "are_costs" "are_costs" (defArgs s_are_costs) (defBody s_are_costs) (defScope s_are_costs) .none kV12 dc12 pm12 an12 cd12 ct12), sl12⟩) (c12 : PySem.W.codeIn K cd12 "are_costs" = true) (k12 : PySem.W.keepIn K (.ref f12) = true)
    {f13 : Addr} {oc13 kV13 dc13 pm13 cd13 ct13 : Value} {od13 an13 : Option Addr} {sl13 : Array (Option Value)} (a13 : PySem.W.nsIn K mainGlobals "is_plan_form" = some (some (.ref f13))) (l13 : K.lookup f13 = some ⟨oc13, od13, .func (PySem.W.fnOf "is_plan_form" "is_plan_form" (defArgs s_is_plan_form) (defBody s_is_plan_form) (defScope s_is_plan_form) .none kV13 dc13 pm13 an13 cd13 ct13), sl13⟩) (c13 : PySem.W.codeIn K cd13 "is_plan_form" = true) (k13 : PySem.W.keepIn K (.ref f13) = true)
    {f14 : Addr} {oc14 kV14 dc14 pm14 cd14 ct14 : Value} {od14 an14 : Option Addr} {sl14 : Array (Option Value)} (a14 : PySem.W.nsIn K mainGlobals "are_profiles_form" = some (some (.ref f14))) (l14 : K.lookup f14 = some ⟨oc14, od14, .func (PySem.W.fnOf "are_profiles_form" "are_profiles_form" (defArgs s_are_profiles_form) (defBody s_are_profiles_form) (defScope s_are_profiles_form) .none kV14 dc14 pm14 an14 cd14 ct14), sl14⟩) (c14 : PySem.W.codeIn K cd14 "are_profiles_form" = true) (k14 : PySem.W.keepIn K (.ref f14) = true)
    {f15 : Addr} {oc15 kV15 dc15 pm15 cd15 ct15 : Value} {od15 an15 : Option Addr} {sl15 : Array (Option Value)} (a15 : PySem.W.nsIn K mainGlobals "divisor_of" = some (some (.ref f15))) (l15 : K.lookup f15 = some ⟨oc15, od15, .func (PySem.W.fnOf "divisor_of" "divisor_of" (defArgs s_divisor_of) (defBody s_divisor_of) (defScope s_divisor_of) .none kV15 dc15 pm15 an15 cd15 ct15), sl15⟩) (c15 : PySem.W.codeIn K cd15 "divisor_of" = true) (k15 : PySem.W.keepIn K (.ref f15) = true)
    {f16 : Addr} {oc16 kV16 dc16 pm16 cd16 ct16 : Value} {od16 an16 : Option Addr} {sl16 : Array (Option Value)} (a16 : PySem.W.nsIn K mainGlobals "round_by" = some (some (.ref f16))) (l16 : K.lookup f16 = some ⟨oc16, od16, .func (PySem.W.fnOf "round_by" "round_by" (defArgs s_round_by) (defBody s_round_by) (defScope s_round_by) .none kV16 dc16 pm16 an16 cd16 ct16), sl16⟩) (c16 : PySem.W.codeIn K cd16 "round_by" = true) (k16 : PySem.W.keepIn K (.ref f16) = true)
    {f17 : Addr} {oc17 kV17 dc17 pm17 cd17 ct17 : Value} {od17 an17 : Option Addr} {sl17 : Array (Option Value)} (a17 : PySem.W.nsIn K mainGlobals "released_at" = some (some (.ref f17))) (l17 : K.lookup f17 = some ⟨oc17, od17, .func (PySem.W.fnOf "released_at" "released_at" (defArgs s_released_at) (defBody s_released_at) (defScope s_released_at) .none kV17 dc17 pm17 an17 cd17 ct17), sl17⟩) (c17 : PySem.W.codeIn K cd17 "released_at" = true) (k17 : PySem.W.keepIn K (.ref f17) = true)
    {f18 : Addr} {oc18 kV18 dc18 pm18 cd18 ct18 : Value} {od18 an18 : Option Addr} {sl18 : Array (Option Value)} (a18 : PySem.W.nsIn K mainGlobals "due_at" = some (some (.ref f18))) (l18 : K.lookup f18 = some ⟨oc18, od18, .func (PySem.W.fnOf "due_at" "due_at" (defArgs s_due_at) (defBody s_due_at) (defScope s_due_at) .none kV18 dc18 pm18 an18 cd18 ct18), sl18⟩) (c18 : PySem.W.codeIn K cd18 "due_at" = true) (k18 : PySem.W.keepIn K (.ref f18) = true)
    {f19 : Addr} {oc19 kV19 dc19 pm19 cd19 ct19 : Value} {od19 an19 : Option Addr} {sl19 : Array (Option Value)} (a19 : PySem.W.nsIn K mainGlobals "times_by" = some (some (.ref f19))) (l19 : K.lookup f19 = some ⟨oc19, od19, .func (PySem.W.fnOf "times_by" "times_by" (defArgs s_times_by) (defBody s_times_by) (defScope s_times_by) .none kV19 dc19 pm19 an19 cd19 ct19), sl19⟩) (c19 : PySem.W.codeIn K cd19 "times_by" = true) (k19 : PySem.W.keepIn K (.ref f19) = true)
    {f20 : Addr} {oc20 kV20 dc20 pm20 cd20 ct20 : Value} {od20 an20 : Option Addr} {sl20 : Array (Option Value)} (a20 : PySem.W.nsIn K mainGlobals "is_moment" = some (some (.ref f20))) (l20 : K.lookup f20 = some ⟨oc20, od20, .func (PySem.W.fnOf "is_moment" "is_moment" (defArgs s_is_moment) (defBody s_is_moment) (defScope s_is_moment) .none kV20 dc20 pm20 an20 cd20 ct20), sl20⟩) (c20 : PySem.W.codeIn K cd20 "is_moment" = true) (k20 : PySem.W.keepIn K (.ref f20) = true)
    {f21 : Addr} {oc21 kV21 dc21 pm21 cd21 ct21 : Value} {od21 an21 : Option Addr} {sl21 : Array (Option Value)} (a21 : PySem.W.nsIn K mainGlobals "jobs_before" = some (some (.ref f21))) (l21 : K.lookup f21 = some ⟨oc21, od21, .func (PySem.W.fnOf "jobs_before" "jobs_before" (defArgs s_jobs_before) (defBody s_jobs_before) (defScope s_jobs_before) .none kV21 dc21 pm21 an21 cd21 ct21), sl21⟩) (c21 : PySem.W.codeIn K cd21 "jobs_before" = true) (k21 : PySem.W.keepIn K (.ref f21) = true)
    {f22 : Addr} {oc22 kV22 dc22 pm22 cd22 ct22 : Value} {od22 an22 : Option Addr} {sl22 : Array (Option Value)} (a22 : PySem.W.nsIn K mainGlobals "check_plan" = some (some (.ref f22))) (l22 : K.lookup f22 = some ⟨oc22, od22, .func (PySem.W.fnOf "check_plan" "check_plan" (defArgs s_check_plan) (defBody s_check_plan) (defScope s_check_plan) .none kV22 dc22 pm22 an22 cd22 ct22), sl22⟩) (c22 : PySem.W.codeIn K cd22 "check_plan" = true) (k22 : PySem.W.keepIn K (.ref f22) = true)
    {f23 : Addr} {oc23 kV23 dc23 pm23 cd23 ct23 : Value} {od23 an23 : Option Addr} {sl23 : Array (Option Value)} (a23 : PySem.W.nsIn K mainGlobals "check_time" = some (some (.ref f23))) (l23 : K.lookup f23 = some ⟨oc23, od23, .func (PySem.W.fnOf "check_time" "check_time" (defArgs s_check_time) (defBody s_check_time) (defScope s_check_time) .none kV23 dc23 pm23 an23 cd23 ct23), sl23⟩) (c23 : PySem.W.codeIn K cd23 "check_time" = true) (k23 : PySem.W.keepIn K (.ref f23) = true)
    {f24 : Addr} {oc24 kV24 dc24 pm24 cd24 ct24 : Value} {od24 an24 : Option Addr} {sl24 : Array (Option Value)} (a24 : PySem.W.nsIn K mainGlobals "is_plan" = some (some (.ref f24))) (l24 : K.lookup f24 = some ⟨oc24, od24, .func (PySem.W.fnOf "is_plan" "is_plan" (defArgs s_is_plan) (defBody s_is_plan) (defScope s_is_plan) .none kV24 dc24 pm24 an24 cd24 ct24), sl24⟩) (c24 : PySem.W.codeIn K cd24 "is_plan" = true) (k24 : PySem.W.keepIn K (.ref f24) = true)
    {f25 : Addr} {oc25 kV25 dc25 pm25 cd25 ct25 : Value} {od25 an25 : Option Addr} {sl25 : Array (Option Value)} (a25 : PySem.W.nsIn K mainGlobals "round_of" = some (some (.ref f25))) (l25 : K.lookup f25 = some ⟨oc25, od25, .func (PySem.W.fnOf "round_of" "round_of" (defArgs s_round_of) (defBody s_round_of) (defScope s_round_of) .none kV25 dc25 pm25 an25 cd25 ct25), sl25⟩) (c25 : PySem.W.codeIn K cd25 "round_of" = true) (k25 : PySem.W.keepIn K (.ref f25) = true)
    {f26 : Addr} {oc26 kV26 dc26 pm26 cd26 ct26 : Value} {od26 an26 : Option Addr} {sl26 : Array (Option Value)} (a26 : PySem.W.nsIn K mainGlobals "times" = some (some (.ref f26))) (l26 : K.lookup f26 = some ⟨oc26, od26, .func (PySem.W.fnOf "times" "times" (defArgs s_times) (defBody s_times) (defScope s_times) .none kV26 dc26 pm26 an26 cd26 ct26), sl26⟩) (c26 : PySem.W.codeIn K cd26 "times" = true) (k26 : PySem.W.keepIn K (.ref f26) = true)
    {f27 : Addr} {oc27 kV27 dc27 pm27 cd27 ct27 : Value} {od27 an27 : Option Addr} {sl27 : Array (Option Value)} (a27 : PySem.W.nsIn K mainGlobals "releases" = some (some (.ref f27))) (l27 : K.lookup f27 = some ⟨oc27, od27, .func (PySem.W.fnOf "releases" "releases" (defArgs s_releases) (defBody s_releases) (defScope s_releases) .none kV27 dc27 pm27 an27 cd27 ct27), sl27⟩) (c27 : PySem.W.codeIn K cd27 "releases" = true) (k27 : PySem.W.keepIn K (.ref f27) = true)
    {f28 : Addr} {oc28 kV28 dc28 pm28 cd28 ct28 : Value} {od28 an28 : Option Addr} {sl28 : Array (Option Value)} (a28 : PySem.W.nsIn K mainGlobals "dues" = some (some (.ref f28))) (l28 : K.lookup f28 = some ⟨oc28, od28, .func (PySem.W.fnOf "dues" "dues" (defArgs s_dues) (defBody s_dues) (defScope s_dues) .none kV28 dc28 pm28 an28 cd28 ct28), sl28⟩) (c28 : PySem.W.codeIn K cd28 "dues" = true) (k28 : PySem.W.keepIn K (.ref f28) = true)
    {f29 : Addr} {oc29 kV29 dc29 pm29 cd29 ct29 : Value} {od29 an29 : Option Addr} {sl29 : Array (Option Value)} (a29 : PySem.W.nsIn K mainGlobals "jobs_ahead" = some (some (.ref f29))) (l29 : K.lookup f29 = some ⟨oc29, od29, .func (PySem.W.fnOf "jobs_ahead" "jobs_ahead" (defArgs s_jobs_ahead) (defBody s_jobs_ahead) (defScope s_jobs_ahead) .none kV29 dc29 pm29 an29 cd29 ct29), sl29⟩) (c29 : PySem.W.codeIn K cd29 "jobs_ahead" = true) (k29 : PySem.W.keepIn K (.ref f29) = true)
    {f30 : Addr} {oc30 kV30 dc30 pm30 cd30 ct30 : Value} {od30 an30 : Option Addr} {sl30 : Array (Option Value)} (a30 : PySem.W.nsIn K mainGlobals "are_profiles" = some (some (.ref f30))) (l30 : K.lookup f30 = some ⟨oc30, od30, .func (PySem.W.fnOf "are_profiles" "are_profiles" (defArgs s_are_profiles) (defBody s_are_profiles) (defScope s_are_profiles) .none kV30 dc30 pm30 an30 cd30 ct30), sl30⟩) (c30 : PySem.W.codeIn K cd30 "are_profiles" = true) (k30 : PySem.W.keepIn K (.ref f30) = true)
    {f31 : Addr} {oc31 kV31 dc31 pm31 cd31 ct31 : Value} {od31 an31 : Option Addr} {sl31 : Array (Option Value)} (a31 : PySem.W.nsIn K mainGlobals "_law_pail" = some (some (.ref f31))) (l31 : K.lookup f31 = some ⟨oc31, od31, .func (PySem.W.fnOf "_law_pail" "_law_pail" (defArgs s__law_pail) (defBody s__law_pail) (defScope s__law_pail) .none kV31 dc31 pm31 an31 cd31 ct31), sl31⟩) (c31 : PySem.W.codeIn K cd31 "_law_pail" = true) (k31 : PySem.W.keepIn K (.ref f31) = true)
    {f32 : Addr} {oc32 kV32 dc32 pm32 cd32 ct32 : Value} {od32 an32 : Option Addr} {sl32 : Array (Option Value)} (a32 : PySem.W.nsIn K mainGlobals "_law_deal" = some (some (.ref f32))) (l32 : K.lookup f32 = some ⟨oc32, od32, .func (PySem.W.fnOf "_law_deal" "_law_deal" (defArgs s__law_deal) (defBody s__law_deal) (defScope s__law_deal) .none kV32 dc32 pm32 an32 cd32 ct32), sl32⟩) (c32 : PySem.W.codeIn K cd32 "_law_deal" = true) (k32 : PySem.W.keepIn K (.ref f32) = true)
    {f33 : Addr} {oc33 kV33 dc33 pm33 cd33 ct33 : Value} {od33 an33 : Option Addr} {sl33 : Array (Option Value)} (a33 : PySem.W.nsIn K mainGlobals "_law_any" = some (some (.ref f33))) (l33 : K.lookup f33 = some ⟨oc33, od33, .func (PySem.W.fnOf "_law_any" "_law_any" (defArgs s__law_any) (defBody s__law_any) (defScope s__law_any) .none kV33 dc33 pm33 an33 cd33 ct33), sl33⟩) (c33 : PySem.W.codeIn K cd33 "_law_any" = true) (k33 : PySem.W.keepIn K (.ref f33) = true)
    {f34 : Addr} {oc34 kV34 dc34 pm34 cd34 ct34 : Value} {od34 an34 : Option Addr} {sl34 : Array (Option Value)} (a34 : PySem.W.nsIn K mainGlobals "_law_gcd" = some (some (.ref f34))) (l34 : K.lookup f34 = some ⟨oc34, od34, .func (PySem.W.fnOf "_law_gcd" "_law_gcd" (defArgs s__law_gcd) (defBody s__law_gcd) (defScope s__law_gcd) .none kV34 dc34 pm34 an34 cd34 ct34), sl34⟩) (c34 : PySem.W.codeIn K cd34 "_law_gcd" = true) (k34 : PySem.W.keepIn K (.ref f34) = true)
    {f35 : Addr} {oc35 kV35 dc35 pm35 cd35 ct35 : Value} {od35 an35 : Option Addr} {sl35 : Array (Option Value)} (a35 : PySem.W.nsIn K mainGlobals "_law_round" = some (some (.ref f35))) (l35 : K.lookup f35 = some ⟨oc35, od35, .func (PySem.W.fnOf "_law_round" "_law_round" (defArgs s__law_round) (defBody s__law_round) (defScope s__law_round) .none kV35 dc35 pm35 an35 cd35 ct35), sl35⟩) (c35 : PySem.W.codeIn K cd35 "_law_round" = true) (k35 : PySem.W.keepIn K (.ref f35) = true)
    {f36 : Addr} {oc36 kV36 dc36 pm36 cd36 ct36 : Value} {od36 an36 : Option Addr} {sl36 : Array (Option Value)} (a36 : PySem.W.nsIn K mainGlobals "_law_profile" = some (some (.ref f36))) (l36 : K.lookup f36 = some ⟨oc36, od36, .func (PySem.W.fnOf "_law_profile" "_law_profile" (defArgs s__law_profile) (defBody s__law_profile) (defScope s__law_profile) .none kV36 dc36 pm36 an36 cd36 ct36), sl36⟩) (c36 : PySem.W.codeIn K cd36 "_law_profile" = true) (k36 : PySem.W.keepIn K (.ref f36) = true)
    {f37 : Addr} {oc37 kV37 dc37 pm37 cd37 ct37 : Value} {od37 an37 : Option Addr} {sl37 : Array (Option Value)} (a37 : PySem.W.nsIn K mainGlobals "_law_in_order" = some (some (.ref f37))) (l37 : K.lookup f37 = some ⟨oc37, od37, .func (PySem.W.fnOf "_law_in_order" "_law_in_order" (defArgs s__law_in_order) (defBody s__law_in_order) (defScope s__law_in_order) .none kV37 dc37 pm37 an37 cd37 ct37), sl37⟩) (c37 : PySem.W.codeIn K cd37 "_law_in_order" = true) (k37 : PySem.W.keepIn K (.ref f37) = true)
    {cc37 P37 : Addr} (tb37 : PySem.W.tabIn K "_law_in_order" = some (cc37, P37))
    {f38 : Addr} {oc38 kV38 dc38 pm38 cd38 ct38 : Value} {od38 an38 : Option Addr} {sl38 : Array (Option Value)} (a38 : PySem.W.nsIn K mainGlobals "_law_house" = some (some (.ref f38))) (l38 : K.lookup f38 = some ⟨oc38, od38, .func (PySem.W.fnOf "_law_house" "_law_house" (defArgs s__law_house) (defBody s__law_house) (defScope s__law_house) .none kV38 dc38 pm38 an38 cd38 ct38), sl38⟩) (c38 : PySem.W.codeIn K cd38 "_law_house" = true) (k38 : PySem.W.keepIn K (.ref f38) = true)
    {f39 : Addr} {oc39 kV39 dc39 pm39 cd39 ct39 : Value} {od39 an39 : Option Addr} {sl39 : Array (Option Value)} (a39 : PySem.W.nsIn K mainGlobals "_law_released" = some (some (.ref f39))) (l39 : K.lookup f39 = some ⟨oc39, od39, .func (PySem.W.fnOf "_law_released" "_law_released" (defArgs s__law_released) (defBody s__law_released) (defScope s__law_released) .none kV39 dc39 pm39 an39 cd39 ct39), sl39⟩) (c39 : PySem.W.codeIn K cd39 "_law_released" = true) (k39 : PySem.W.keepIn K (.ref f39) = true)
    {f40 : Addr} {oc40 kV40 dc40 pm40 cd40 ct40 : Value} {od40 an40 : Option Addr} {sl40 : Array (Option Value)} (a40 : PySem.W.nsIn K mainGlobals "_law_due_now" = some (some (.ref f40))) (l40 : K.lookup f40 = some ⟨oc40, od40, .func (PySem.W.fnOf "_law_due_now" "_law_due_now" (defArgs s__law_due_now) (defBody s__law_due_now) (defScope s__law_due_now) .none kV40 dc40 pm40 an40 cd40 ct40), sl40⟩) (c40 : PySem.W.codeIn K cd40 "_law_due_now" = true) (k40 : PySem.W.keepIn K (.ref f40) = true)
    {f41 : Addr} {oc41 kV41 dc41 pm41 cd41 ct41 : Value} {od41 an41 : Option Addr} {sl41 : Array (Option Value)} (a41 : PySem.W.nsIn K mainGlobals "_law_times" = some (some (.ref f41))) (l41 : K.lookup f41 = some ⟨oc41, od41, .func (PySem.W.fnOf "_law_times" "_law_times" (defArgs s__law_times) (defBody s__law_times) (defScope s__law_times) .none kV41 dc41 pm41 an41 cd41 ct41), sl41⟩) (c41 : PySem.W.codeIn K cd41 "_law_times" = true) (k41 : PySem.W.keepIn K (.ref f41) = true)
    {f42 : Addr} {oc42 kV42 dc42 pm42 cd42 ct42 : Value} {od42 an42 : Option Addr} {sl42 : Array (Option Value)} (a42 : PySem.W.nsIn K mainGlobals "_law_bad_plans" = some (some (.ref f42))) (l42 : K.lookup f42 = some ⟨oc42, od42, .func (PySem.W.fnOf "_law_bad_plans" "_law_bad_plans" (defArgs s__law_bad_plans) (defBody s__law_bad_plans) (defScope s__law_bad_plans) .none kV42 dc42 pm42 an42 cd42 ct42), sl42⟩) (c42 : PySem.W.codeIn K cd42 "_law_bad_plans" = true) (k42 : PySem.W.keepIn K (.ref f42) = true)
    {f43 : Addr} {oc43 kV43 dc43 pm43 cd43 ct43 : Value} {od43 an43 : Option Addr} {sl43 : Array (Option Value)} (a43 : PySem.W.nsIn K mainGlobals "_law_right" = some (some (.ref f43))) (l43 : K.lookup f43 = some ⟨oc43, od43, .func (PySem.W.fnOf "_law_right" "_law_right" (defArgs s__law_right) (defBody s__law_right) (defScope s__law_right) .none kV43 dc43 pm43 an43 cd43 ct43), sl43⟩) (c43 : PySem.W.codeIn K cd43 "_law_right" = true) (k43 : PySem.W.keepIn K (.ref f43) = true)
    {f44 : Addr} {oc44 kV44 dc44 pm44 cd44 ct44 : Value} {od44 an44 : Option Addr} {sl44 : Array (Option Value)} (a44 : PySem.W.nsIn K mainGlobals "law" = some (some (.ref f44))) (l44 : K.lookup f44 = some ⟨oc44, od44, .func (PySem.W.fnOf "law" "law" (defArgs s_law) (defBody s_law) (defScope s_law) .none kV44 dc44 pm44 an44 cd44 ct44), sl44⟩) (c44 : PySem.W.codeIn K cd44 "law" = true) (k44 : PySem.W.keepIn K (.ref f44) = true)
    {t0 : Tok} (x0 : PySem.W.nsIn K mainGlobals "LETTERS" = some (some (.str ("abcdefghijklmnopqrstuvwxyz" : Str) t0)))
    {y1 : Addr} {o1 : Obj} {i1 : Array Value} {n1 : Nat} (x1 : PySem.W.nsIn K mainGlobals "WORDS" = some (some (.ref y1))) (v1 : K.lookup y1 = some o1) (w1 : o1.cls = .type "tuple") (d1 : o1.data = .seq i1 n1) (z1 : i1.size ≤ 1000) (e1 : flatsK [.str "call", .str "else", .str "end", .str "fun", .str "give", .str "hold", .str "if", .str "keep", .str "let", .str "out", .str "repeat", .str "sense", .str "table", .str "take", .str "task", .str "times"] i1.toList = true)
    {t2 : Tok} (x2 : PySem.W.nsIn K mainGlobals "MOST_LETTERS" = some (some (.int (8) t2)))
    {t3 : Tok} (x3 : PySem.W.nsIn K mainGlobals "OUTSIDE" = some (some (.str ("" : Str) t3)))
    {t4 : Tok} (x4 : PySem.W.nsIn K mainGlobals "MOST_IN_STRETCH" = some (some (.int (200) t4)))
    {t5 : Tok} (x5 : PySem.W.nsIn K mainGlobals "MOST_TOGETHER" = some (some (.int (400) t5)))
    {t6 : Tok} (x6 : PySem.W.nsIn K mainGlobals "MOST_STRETCHES" = some (some (.int (8) t6)))
    {t7 : Tok} (x7 : PySem.W.nsIn K mainGlobals "MOST_PROFILES" = some (some (.int (12) t7)))
    {t8 : Tok} (x8 : PySem.W.nsIn K mainGlobals "MOST_COST" = some (some (.int (9) t8)))
    {t9 : Tok} (x9 : PySem.W.nsIn K mainGlobals "MOST_PERIOD" = some (some (.int (240) t9)))
    {t10 : Tok} (x10 : PySem.W.nsIn K mainGlobals "MOST_ROUND" = some (some (.int (240) t10)))
    {t11 : Tok} (x11 : PySem.W.nsIn K mainGlobals "MOST_TASKS" = some (some (.int (4) t11)))
    {t12 : Tok} (x12 : PySem.W.nsIn K mainGlobals "MOST_TIME" = some (some (.int (2000) t12)))
    (b0 : PySem.W.nsIn K mainGlobals "abs" = some none)
    (b1 : PySem.W.nsIn K mainGlobals "all" = some none)
    (b2 : PySem.W.nsIn K mainGlobals "bool" = some none)
    (b3 : PySem.W.nsIn K mainGlobals "divmod" = some none)
    (b4 : PySem.W.nsIn K mainGlobals "enumerate" = some none)
    (b5 : PySem.W.nsIn K mainGlobals "int" = some none)
    (b6 : PySem.W.nsIn K mainGlobals "isinstance" = some none)
    (b7 : PySem.W.nsIn K mainGlobals "len" = some none)
    (b8 : PySem.W.nsIn K mainGlobals "list" = some none)
    (b9 : PySem.W.nsIn K mainGlobals "max" = some none)
    (b10 : PySem.W.nsIn K mainGlobals "min" = some none)
    (b11 : PySem.W.nsIn K mainGlobals "range" = some none)
    (b12 : PySem.W.nsIn K mainGlobals "repr" = some none)
    (b13 : PySem.W.nsIn K mainGlobals "set" = some none)
    (b14 : PySem.W.nsIn K mainGlobals "sorted" = some none)
    (b15 : PySem.W.nsIn K mainGlobals "str" = some none)
    (b16 : PySem.W.nsIn K mainGlobals "sum" = some none)
    (b17 : PySem.W.nsIn K mainGlobals "tuple" = some none)
    (b18 : PySem.W.nsIn K mainGlobals "zip" = some none) :
    Top K mg :=
  ⟨def_e X G a0 l0 c0 k0 (fun _ _ _ _ _ _ us hl => match us, hl with | [_], _ => rfl),
   def_e X G a1 l1 c1 k1 (fun _ _ _ _ _ _ us hl => match us, hl with | [_, _, _], _ => rfl),
   def_e X G a2 l2 c2 k2 (fun _ _ _ _ _ _ us hl => match us, hl with | [_, _], _ => rfl),
   def_e X G a3 l3 c3 k3 (fun _ _ _ _ _ _ us hl => match us, hl with | [_, _, _], _ => rfl),
   def_e X G a4 l4 c4 k4 (fun _ _ _ _ _ _ us hl => match us, hl with | [_], _ => rfl),
   def_e X G a5 l5 c5 k5 (fun _ _ _ _ _ _ us hl => match us, hl with | [_], _ => rfl),
   def_e X G a6 l6 c6 k6 (fun _ _ _ _ _ _ us hl => match us, hl with | [_, _], _ => rfl),
   def_e X G a7 l7 c7 k7 (fun _ _ _ _ _ _ us hl => match us, hl with | [_], _ => rfl),
   def_e X G a8 l8 c8 k8 (fun _ _ _ _ _ _ us hl => match us, hl with | [_], _ => rfl),
   def_e X G a9 l9 c9 k9 (fun _ _ _ _ _ _ us hl => match us, hl with | [_], _ => rfl),
   def_e X G a10 l10 c10 k10 (fun _ _ _ _ _ _ us hl => match us, hl with | [_], _ => rfl),
   def_e X G a11 l11 c11 k11 (fun _ _ _ _ _ _ us hl => match us, hl with | [_], _ => rfl),
   def_e X G a12 l12 c12 k12 (fun _ _ _ _ _ _ us hl => match us, hl with | [_], _ => rfl),
   def_e X G a13 l13 c13 k13 (fun _ _ _ _ _ _ us hl => match us, hl with | [_], _ => rfl),
   def_e X G a14 l14 c14 k14 (fun _ _ _ _ _ _ us hl => match us, hl with | [_, _], _ => rfl),
   def_e X G a15 l15 c15 k15 (fun _ _ _ _ _ _ us hl => match us, hl with | [_, _], _ => rfl),
   def_e X G a16 l16 c16 k16 (fun _ _ _ _ _ _ us hl => match us, hl with | [_], _ => rfl),
   def_e X G a17 l17 c17 k17 (fun _ _ _ _ _ _ us hl => match us, hl with | [_, _], _ => rfl),
   def_e X G a18 l18 c18 k18 (fun _ _ _ _ _ _ us hl => match us, hl with | [_, _], _ => rfl),
   def_e X G a19 l19 c19 k19 (fun _ _ _ _ _ _ us hl => match us, hl with | [_], _ => rfl),
   def_e X G a20 l20 c20 k20 (fun _ _ _ _ _ _ us hl => match us, hl with | [_, _], _ => rfl),
   def_e X G a21 l21 c21 k21 (fun _ _ _ _ _ _ us hl => match us, hl with | [_, _], _ => rfl),
   def_e X G a22 l22 c22 k22 (fun _ _ _ _ _ _ us hl => match us, hl with | [_], _ => rfl),
   def_e X G a23 l23 c23 k23 (fun _ _ _ _ _ _ us hl => match us, hl with | [_], _ => rfl),
   def_e X G a24 l24 c24 k24 (fun _ _ _ _ _ _ us hl => match us, hl with | [_], _ => rfl),
   def_e X G a25 l25 c25 k25 (fun _ _ _ _ _ _ us hl => match us, hl with | [_], _ => rfl),
   def_e X G a26 l26 c26 k26 (fun _ _ _ _ _ _ us hl => match us, hl with | [_], _ => rfl),
   def_e X G a27 l27 c27 k27 (fun _ _ _ _ _ _ us hl => match us, hl with | [_, _], _ => rfl),
   def_e X G a28 l28 c28 k28 (fun _ _ _ _ _ _ us hl => match us, hl with | [_, _], _ => rfl),
   def_e X G a29 l29 c29 k29 (fun _ _ _ _ _ _ us hl => match us, hl with | [_, _], _ => rfl),
   def_e X G a30 l30 c30 k30 (fun _ _ _ _ _ _ us hl => match us, hl with | [_, _], _ => rfl),
   def_e X G a31 l31 c31 k31 (fun _ _ _ _ _ _ us hl => match us, hl with | [_, _], _ => rfl),
   def_e X G a32 l32 c32 k32 (fun _ _ _ _ _ _ us hl => match us, hl with | [_, _], _ => rfl),
   def_e X G a33 l33 c33 k33 (fun _ _ _ _ _ _ us hl => match us, hl with | [_, _], _ => rfl),
   def_e X G a34 l34 c34 k34 (fun _ _ _ _ _ _ us hl => match us, hl with | [_, _], _ => rfl),
   def_e X G a35 l35 c35 k35 (fun _ _ _ _ _ _ us hl => match us, hl with | [_], _ => rfl),
   def_e X G a36 l36 c36 k36 (fun _ _ _ _ _ _ us hl => match us, hl with | [_, _], _ => rfl),
   defl_e X G a37 l37 c37 k37 tb37 (fun _ _ _ _ _ _ us hl => match us, hl with | [_], _ => rfl),
   def_e X G a38 l38 c38 k38 (fun _ _ _ _ _ _ us hl => match us, hl with | [_, _], _ => rfl),
   def_e X G a39 l39 c39 k39 (fun _ _ _ _ _ _ us hl => match us, hl with | [_, _], _ => rfl),
   def_e X G a40 l40 c40 k40 (fun _ _ _ _ _ _ us hl => match us, hl with | [_, _], _ => rfl),
   def_e X G a41 l41 c41 k41 (fun _ _ _ _ _ _ us hl => match us, hl with | [_], _ => rfl),
   def_e X G a42 l42 c42 k42 (fun _ _ _ _ _ _ us hl => match us, hl with | [_], _ => rfl),
   def_e X G a43 l43 c43 k43 (fun _ _ _ _ _ _ us hl => match us, hl with | [_], _ => rfl),
   def_e X G a44 l44 c44 k44 (fun _ _ _ _ _ _ us hl => match us, hl with | [_], _ => rfl),
   kst_str X G x0,
   kst_tup X G x1 v1 w1 d1 z1 e1,
   kst_int X G x2,
   kst_str X G x3,
   kst_int X G x4,
   kst_int X G x5,
   kst_int X G x6,
   kst_int X G x7,
   kst_int X G x8,
   kst_int X G x9,
   kst_int X G x10,
   kst_int X G x11,
   kst_int X G x12,
   blt_none X G b0,
   blt_none X G b1,
   blt_none X G b2,
   blt_none X G b3,
   blt_none X G b4,
   blt_none X G b5,
   blt_none X G b6,
   blt_none X G b7,
   blt_none X G b8,
   blt_none X G b9,
   blt_none X G b10,
   blt_none X G b11,
   blt_none X G b12,
   blt_none X G b13,
   blt_none X G b14,
   blt_none X G b15,
   blt_none X G b16,
   blt_none X G b17,
   blt_none X G b18⟩
theorem own_end {P : Program} {w : World} {K : PySem.W.Frag} {mg : Str → Option Value} {base : Heap} {cc pp : Addr} (ht : PySem.W.tabIn K "_law_in_order" = some (cc, pp)) (T : Top K mg) (hB : ∀ e ∈ ([⟨cc, pp, "_law_in_order.<locals>.<lambda>"⟩] : List Tb), LamX.TabB base mg e.co e.tb) {f : Addr} {fd : FuncData} (DF : DefAt K mg "law" s_law pr_law f fd) : FnOkG P w K mg base (L2.CX P w) 9 f fd pr_law (spOf K mg (tbsOf [⟨cc, pp, "_law_in_order.<locals>.<lambda>"⟩]) (sLaw 63)) := by
  have F_is_whole := fn_mk (P := P) (w := w) (base := base) (T := tbsOf [⟨cc, pp, "_law_in_order.<locals>.<lambda>"⟩]) T.f_is_whole sc_is_whole (body_is_whole T) sat_is_whole
  have F_is_tuple_of := fn_mk (P := P) (w := w) (base := base) (T := tbsOf [⟨cc, pp, "_law_in_order.<locals>.<lambda>"⟩]) T.f_is_tuple_of sc_is_tuple_of (body_is_tuple_of T) sat_is_tuple_of
  have F_is_short_tuple := fn_mk (P := P) (w := w) (base := base) (T := tbsOf [⟨cc, pp, "_law_in_order.<locals>.<lambda>"⟩]) T.f_is_short_tuple sc_is_short_tuple (body_is_short_tuple T) sat_is_short_tuple
  have F_is_rising_strictly := fn_mk (P := P) (w := w) (base := base) (T := tbsOf [⟨cc, pp, "_law_in_order.<locals>.<lambda>"⟩]) T.f_is_rising_strictly sc_is_rising_strictly (body_is_rising_strictly T) sat_is_rising_strictly
  have F_is_name := fn_mk (P := P) (w := w) (base := base) (T := tbsOf [⟨cc, pp, "_law_in_order.<locals>.<lambda>"⟩]) T.f_is_name sc_is_name (body_is_name T) sat_is_name
  have F_cycles_in := fn_mk (P := P) (w := w) (base := base) (T := tbsOf [⟨cc, pp, "_law_in_order.<locals>.<lambda>"⟩]) T.f_cycles_in sc_cycles_in (body_cycles_in T) sat_cycles_in
  have F_divisor_of := fn_mk (P := P) (w := w) (base := base) (T := tbsOf [⟨cc, pp, "_law_in_order.<locals>.<lambda>"⟩]) T.f_divisor_of sc_divisor_of (body_divisor_of T) sat_divisor_of
  have F_released_at := fn_mk (P := P) (w := w) (base := base) (T := tbsOf [⟨cc, pp, "_law_in_order.<locals>.<lambda>"⟩]) T.f_released_at sc_released_at (body_released_at T) sat_released_at
  have F__law_pail := fn_mk (P := P) (w := w) (base := base) (T := tbsOf [⟨cc, pp, "_law_in_order.<locals>.<lambda>"⟩]) T.f__law_pail sc__law_pail (body__law_pail T) sat__law_pail
  have F__law_deal := fn_mk (P := P) (w := w) (base := base) (T := tbsOf [⟨cc, pp, "_law_in_order.<locals>.<lambda>"⟩]) T.f__law_deal sc__law_deal (body__law_deal T) sat__law_deal
  have F__law_gcd := fn_mk (P := P) (w := w) (base := base) (T := tbsOf [⟨cc, pp, "_law_in_order.<locals>.<lambda>"⟩]) T.f__law_gcd sc__law_gcd (body__law_gcd T) sat__law_gcd
  have F__law_released := fn_mk (P := P) (w := w) (base := base) (T := tbsOf [⟨cc, pp, "_law_in_order.<locals>.<lambda>"⟩]) T.f__law_released sc__law_released (body__law_released T) sat__law_released
  have F__law_due_now := fn_mk (P := P) (w := w) (base := base) (T := tbsOf [⟨cc, pp, "_law_in_order.<locals>.<lambda>"⟩]) T.f__law_due_now sc__law_due_now (body__law_due_now T) sat__law_due_now
  have F__law_bad_plans := fn_mk (P := P) (w := w) (base := base) (T := tbsOf [⟨cc, pp, "_law_in_order.<locals>.<lambda>"⟩]) T.f__law_bad_plans sc__law_bad_plans (body__law_bad_plans T) sat__law_bad_plans
  have F_is_between := fn_mk (P := P) (w := w) (base := base) (T := tbsOf [⟨cc, pp, "_law_in_order.<locals>.<lambda>"⟩]) T.f_is_between sc_is_between (body_is_between T F_is_whole) sat_is_between
  have F_order_of := fn_mk (P := P) (w := w) (base := base) (T := tbsOf [⟨cc, pp, "_law_in_order.<locals>.<lambda>"⟩]) T.f_order_of sc_order_of (body_order_of T F_cycles_in) sat_order_of
  have F_round_by := fn_mk (P := P) (w := w) (base := base) (T := tbsOf [⟨cc, pp, "_law_in_order.<locals>.<lambda>"⟩]) T.f_round_by sc_round_by (body_round_by T F_divisor_of) sat_round_by
  have F_due_at := fn_mk (P := P) (w := w) (base := base) (T := tbsOf [⟨cc, pp, "_law_in_order.<locals>.<lambda>"⟩]) T.f_due_at sc_due_at (body_due_at T F_released_at) sat_due_at
  have F_jobs_before := fn_mk (P := P) (w := w) (base := base) (T := tbsOf [⟨cc, pp, "_law_in_order.<locals>.<lambda>"⟩]) T.f_jobs_before sc_jobs_before (body_jobs_before T F_released_at) sat_jobs_before
  have F__law_any := fn_mk (P := P) (w := w) (base := base) (T := tbsOf [⟨cc, pp, "_law_in_order.<locals>.<lambda>"⟩]) T.f__law_any sc__law_any (body__law_any T F__law_deal) sat__law_any
  have F__law_round := fn_mk (P := P) (w := w) (base := base) (T := tbsOf [⟨cc, pp, "_law_in_order.<locals>.<lambda>"⟩]) T.f__law_round sc__law_round (body__law_round T F__law_gcd) sat__law_round
  have F_is_stretch := fn_mk (P := P) (w := w) (base := base) (T := tbsOf [⟨cc, pp, "_law_in_order.<locals>.<lambda>"⟩]) T.f_is_stretch sc_is_stretch (body_is_stretch T F_is_tuple_of F_is_between F_is_name) sat_is_stretch
  have F_is_row := fn_mk (P := P) (w := w) (base := base) (T := tbsOf [⟨cc, pp, "_law_in_order.<locals>.<lambda>"⟩]) T.f_is_row sc_is_row (body_is_row T F_is_tuple_of F_is_between) sat_is_row
  have F_are_costs := fn_mk (P := P) (w := w) (base := base) (T := tbsOf [⟨cc, pp, "_law_in_order.<locals>.<lambda>"⟩]) T.f_are_costs sc_are_costs (body_are_costs T F_is_tuple_of F_is_between) sat_are_costs
  have F_is_moment := fn_mk (P := P) (w := w) (base := base) (T := tbsOf [⟨cc, pp, "_law_in_order.<locals>.<lambda>"⟩]) T.f_is_moment sc_is_moment (body_is_moment T F_released_at F_due_at) sat_is_moment
  have F_check_time := fn_mk (P := P) (w := w) (base := base) (T := tbsOf [⟨cc, pp, "_law_in_order.<locals>.<lambda>"⟩]) T.f_check_time sc_check_time (body_check_time T F_is_between) sat_check_time
  have F__law_profile := fn_mk (P := P) (w := w) (base := base) (T := tbsOf [⟨cc, pp, "_law_in_order.<locals>.<lambda>"⟩]) T.f__law_profile sc__law_profile (body__law_profile T F__law_deal F__law_any) sat__law_profile
  have F__law_times := fn_mk (P := P) (w := w) (base := base) (T := tbsOf [⟨cc, pp, "_law_in_order.<locals>.<lambda>"⟩]) T.f__law_times sc__law_times (body__law_times T F__law_round) sat__law_times
  have F_is_profile_form := fn_mk (P := P) (w := w) (base := base) (T := tbsOf [⟨cc, pp, "_law_in_order.<locals>.<lambda>"⟩]) T.f_is_profile_form sc_is_profile_form (body_is_profile_form T F_is_short_tuple F_is_stretch F_cycles_in) sat_is_profile_form
  have F_is_plan_form := fn_mk (P := P) (w := w) (base := base) (T := tbsOf [⟨cc, pp, "_law_in_order.<locals>.<lambda>"⟩]) T.f_is_plan_form sc_is_plan_form (body_is_plan_form T F_is_tuple_of F_are_costs F_is_short_tuple F_is_row F_round_by) sat_is_plan_form
  have F_times_by := fn_mk (P := P) (w := w) (base := base) (T := tbsOf [⟨cc, pp, "_law_in_order.<locals>.<lambda>"⟩]) T.f_times_by sc_times_by (body_times_by T F_round_by F_is_moment) sat_times_by
  obtain ⟨c2, p2, t2, D2⟩ := T.f__law_in_order
  rw [ht] at t2
  cases t2
  have F__law_in_order := fn_mkL (P := P) (w := w) (base := base) (T := tbsOf [⟨cc, pp, "_law_in_order.<locals>.<lambda>"⟩]) D2 sc__law_in_order (lam_at hB) (body__law_in_order T) sat__law_in_order
  have F_are_profiles_of_task := fn_mk (P := P) (w := w) (base := base) (T := tbsOf [⟨cc, pp, "_law_in_order.<locals>.<lambda>"⟩]) T.f_are_profiles_of_task sc_are_profiles_of_task (body_are_profiles_of_task T F_is_short_tuple F_is_profile_form F_is_rising_strictly F_order_of) sat_are_profiles_of_task
  have F_check_plan := fn_mk (P := P) (w := w) (base := base) (T := tbsOf [⟨cc, pp, "_law_in_order.<locals>.<lambda>"⟩]) T.f_check_plan sc_check_plan (body_check_plan T F_is_plan_form) sat_check_plan
  have F_is_plan := fn_mk (P := P) (w := w) (base := base) (T := tbsOf [⟨cc, pp, "_law_in_order.<locals>.<lambda>"⟩]) T.f_is_plan sc_is_plan (body_is_plan T F_is_plan_form) sat_is_plan
  have F__law_house := fn_mk (P := P) (w := w) (base := base) (T := tbsOf [⟨cc, pp, "_law_in_order.<locals>.<lambda>"⟩]) T.f__law_house sc__law_house (body__law_house T F__law_any F__law_deal F__law_in_order F__law_profile) sat__law_house
  have F_are_profiles_form := fn_mk (P := P) (w := w) (base := base) (T := tbsOf [⟨cc, pp, "_law_in_order.<locals>.<lambda>"⟩]) T.f_are_profiles_form sc_are_profiles_form (body_are_profiles_form T F_is_tuple_of F_are_profiles_of_task) sat_are_profiles_form
  have F_round_of := fn_mk (P := P) (w := w) (base := base) (T := tbsOf [⟨cc, pp, "_law_in_order.<locals>.<lambda>"⟩]) T.f_round_of sc_round_of (body_round_of T F_check_plan F_round_by) sat_round_of
  have F_times := fn_mk (P := P) (w := w) (base := base) (T := tbsOf [⟨cc, pp, "_law_in_order.<locals>.<lambda>"⟩]) T.f_times sc_times (body_times T F_check_plan F_times_by) sat_times
  have F_releases := fn_mk (P := P) (w := w) (base := base) (T := tbsOf [⟨cc, pp, "_law_in_order.<locals>.<lambda>"⟩]) T.f_releases sc_releases (body_releases T F_check_plan F_check_time F_released_at) sat_releases
  have F_dues := fn_mk (P := P) (w := w) (base := base) (T := tbsOf [⟨cc, pp, "_law_in_order.<locals>.<lambda>"⟩]) T.f_dues sc_dues (body_dues T F_check_plan F_check_time F_due_at) sat_dues
  have F_jobs_ahead := fn_mk (P := P) (w := w) (base := base) (T := tbsOf [⟨cc, pp, "_law_in_order.<locals>.<lambda>"⟩]) T.f_jobs_ahead sc_jobs_ahead (body_jobs_ahead T F_check_plan F_check_time F_jobs_before) sat_jobs_ahead
  have F_are_profiles := fn_mk (P := P) (w := w) (base := base) (T := tbsOf [⟨cc, pp, "_law_in_order.<locals>.<lambda>"⟩]) T.f_are_profiles sc_are_profiles (body_are_profiles T F_check_plan F_are_profiles_form) sat_are_profiles
  have F__law_right := fn_mk (P := P) (w := w) (base := base) (T := tbsOf [⟨cc, pp, "_law_in_order.<locals>.<lambda>"⟩]) T.f__law_right sc__law_right (body__law_right T F__law_house F__law_deal F__law_times F__law_round F_times F_round_of F_is_plan F_are_profiles F__law_released F_dues F_releases F__law_due_now F_jobs_ahead F__law_bad_plans) sat__law_right
  exact fn_ok DF sc_law (body_law T F__law_right F__law_pail f) sat_law
theorem own_all {P : Program} {w : World} {K : PySem.W.Frag} {mg : Str → Option Value} {fa : Addr} {cc pp : Addr} (ht : PySem.W.tabIn K "_law_in_order" = some (cc, pp)) (T : Top K mg) (hmg : mg "law" = some (.ref fa)) : ∃ fd : FuncData, (∀ (s : Shared) (u : Value), BindsTo s fd ⟨[u], []⟩ [("script", u)]) ∧ ∀ base : Heap, K.In base → base.Ns mainGlobals mg → (∀ e ∈ ([⟨cc, pp, "_law_in_order.<locals>.<lambda>"⟩] : List Tb), LamX.TabB base mg e.co e.tb) → FnOkG P w K mg base (L2.CX P w) 9 fa fd ["script"] (spLaw 63 [⟨cc, pp, "_law_in_order.<locals>.<lambda>"⟩] K) :=
  PL.law_end T.f_law hmg (fun _ _ _ _ _ _ _ => rfl) fun base f fd hB DF => own_end ht T hB DF
end K34
open PySem PySem.W PyProof.Rows
set_option maxHeartbeats 0 in
theorem PySem.Challenge.cw_plantdue_k34_whole_plans_of_houses_holds : PySem.Challenge.rw_plantdue_k34_whole_plans_of_houses.Holds := by
  w_on; o_law; k_head; (case hw => w_witness2)
  k_fill
  refine PL.walk_T1 (l := PySem.Challenge.rw_plantdue_k34_whole_plans_of_houses) (n := 63) (k := 9) (x := "script") (y := "_law_in_order") (nm := "_law_in_order.<locals>.<lambda>") rfl (by decide) rfl ⟨rfl, by decide, by decide⟩ (fun w h Y => PySem.W.km_in_of Y) ?hT ?F
  case hT =>
    intro w
    refine' ⟨_, _, _, rfl, PL.tab_mk ?a ?l ?e ?l2 ?v, ?n⟩
    (case a => k_is); (case l => k_is); (case e => rfl); (case l2 => k_is); (case v => rfl); (case n => kernel_rfl)
  case F =>
    intro w mg fa h cc pp ht KX G hmg
    refine K34.own_all ht ?T hmg
    refine' K34.top_mk KX G ?a0 ?l0 ?c0 ?k0 ?a1 ?l1 ?c1 ?k1 ?a2 ?l2 ?c2 ?k2 ?a3 ?l3 ?c3 ?k3 ?a4 ?l4 ?c4 ?k4 ?a5 ?l5 ?c5 ?k5 ?a6 ?l6 ?c6 ?k6 ?a7 ?l7 ?c7 ?k7 ?a8 ?l8 ?c8 ?k8 ?a9 ?l9 ?c9 ?k9 ?a10 ?l10 ?c10 ?k10 ?a11 ?l11 ?c11 ?k11 ?a12 ?l12 ?c12 ?k12 ?a13 ?l13 ?c13 ?k13 ?a14 ?l14 ?c14 ?k14 ?a15 ?l15 ?c15 ?k15 ?a16 ?l16 ?c16 ?k16 ?a17 ?l17 ?c17 ?k17 ?a18 ?l18 ?c18 ?k18 ?a19 ?l19 ?c19 ?k19 ?a20 ?l20 ?c20 ?k20 ?a21 ?l21 ?c21 ?k21 ?a22 ?l22 ?c22 ?k22 ?a23 ?l23 ?c23 ?k23 ?a24 ?l24 ?c24 ?k24 ?a25 ?l25 ?c25 ?k25 ?a26 ?l26 ?c26 ?k26 ?a27 ?l27 ?c27 ?k27 ?a28 ?l28 ?c28 ?k28 ?a29 ?l29 ?c29 ?k29 ?a30 ?l30 ?c30 ?k30 ?a31 ?l31 ?c31 ?k31 ?a32 ?l32 ?c32 ?k32 ?a33 ?l33 ?c33 ?k33 ?a34 ?l34 ?c34 ?k34 ?a35 ?l35 ?c35 ?k35 ?a36 ?l36 ?c36 ?k36 ?a37 ?l37 ?c37 ?k37 ?tb37 ?a38 ?l38 ?c38 ?k38 ?a39 ?l39 ?c39 ?k39 ?a40 ?l40 ?c40 ?k40 ?a41 ?l41 ?c41 ?k41 ?a42 ?l42 ?c42 ?k42 ?a43 ?l43 ?c43 ?k43 ?a44 ?l44 ?c44 ?k44 ?x0 ?x1 ?v1 ?w1 ?d1 ?z1 ?e1 ?x2 ?x3 ?x4 ?x5 ?x6 ?x7 ?x8 ?x9 ?x10 ?x11 ?x12 ?b0 ?b1 ?b2 ?b3 ?b4 ?b5 ?b6 ?b7 ?b8 ?b9 ?b10 ?b11 ?b12 ?b13 ?b14 ?b15 ?b16 ?b17 ?b18
    (case a0 => k_is); (case l0 => k_is); (case c0 => k_is); (case k0 => k_is); (case a1 => k_is); (case l1 => k_is); (case c1 => k_is); (case k1 => k_is); (case a2 => k_is); (case l2 => k_is); (case c2 => k_is); (case k2 => k_is); (case a3 => k_is); (case l3 => k_is); (case c3 => k_is); (case k3 => k_is); (case a4 => k_is); (case l4 => k_is); (case c4 => k_is); (case k4 => k_is); (case a5 => k_is); (case l5 => k_is); (case c5 => k_is); (case k5 => k_is); (case a6 => k_is); (case l6 => k_is); (case c6 => k_is); (case k6 => k_is); (case a7 => k_is); (case l7 => k_is); (case c7 => k_is); (case k7 => k_is); (case a8 => k_is); (case l8 => k_is); (case c8 => k_is); (case k8 => k_is); (case a9 => k_is); (case l9 => k_is); (case c9 => k_is); (case k9 => k_is); (case a10 => k_is); (case l10 => k_is); (case c10 => k_is); (case k10 => k_is); (case a11 => k_is); (case l11 => k_is); (case c11 => k_is); (case k11 => k_is); (case a12 => k_is); (case l12 => k_is); (case c12 => k_is); (case k12 => k_is); (case a13 => k_is); (case l13 => k_is); (case c13 => k_is); (case k13 => k_is); (case a14 => k_is); (case l14 => k_is); (case c14 => k_is); (case k14 => k_is); (case a15 => k_is); (case l15 => k_is); (case c15 => k_is); (case k15 => k_is); (case a16 => k_is); (case l16 => k_is); (case c16 => k_is); (case k16 => k_is); (case a17 => k_is); (case l17 => k_is); (case c17 => k_is); (case k17 => k_is); (case a18 => k_is); (case l18 => k_is); (case c18 => k_is); (case k18 => k_is); (case a19 => k_is); (case l19 => k_is); (case c19 => k_is); (case k19 => k_is); (case a20 => k_is); (case l20 => k_is); (case c20 => k_is); (case k20 => k_is); (case a21 => k_is); (case l21 => k_is); (case c21 => k_is); (case k21 => k_is); (case a22 => k_is); (case l22 => k_is); (case c22 => k_is); (case k22 => k_is); (case a23 => k_is); (case l23 => k_is); (case c23 => k_is); (case k23 => k_is); (case a24 => k_is); (case l24 => k_is); (case c24 => k_is); (case k24 => k_is); (case a25 => k_is); (case l25 => k_is); (case c25 => k_is); (case k25 => k_is); (case a26 => k_is); (case l26 => k_is); (case c26 => k_is); (case k26 => k_is); (case a27 => k_is); (case l27 => k_is); (case c27 => k_is); (case k27 => k_is); (case a28 => k_is); (case l28 => k_is); (case c28 => k_is); (case k28 => k_is); (case a29 => k_is); (case l29 => k_is); (case c29 => k_is); (case k29 => k_is); (case a30 => k_is); (case l30 => k_is); (case c30 => k_is); (case k30 => k_is); (case a31 => k_is); (case l31 => k_is); (case c31 => k_is); (case k31 => k_is); (case a32 => k_is); (case l32 => k_is); (case c32 => k_is); (case k32 => k_is); (case a33 => k_is); (case l33 => k_is); (case c33 => k_is); (case k33 => k_is); (case a34 => k_is); (case l34 => k_is); (case c34 => k_is); (case k34 => k_is); (case a35 => k_is); (case l35 => k_is); (case c35 => k_is); (case k35 => k_is); (case a36 => k_is); (case l36 => k_is); (case c36 => k_is); (case k36 => k_is); (case a37 => k_is); (case l37 => k_is); (case c37 => k_is); (case k37 => k_is); (case tb37 => assumption); (case a38 => k_is); (case l38 => k_is); (case c38 => k_is); (case k38 => k_is); (case a39 => k_is); (case l39 => k_is); (case c39 => k_is); (case k39 => k_is); (case a40 => k_is); (case l40 => k_is); (case c40 => k_is); (case k40 => k_is); (case a41 => k_is); (case l41 => k_is); (case c41 => k_is); (case k41 => k_is); (case a42 => k_is); (case l42 => k_is); (case c42 => k_is); (case k42 => k_is); (case a43 => k_is); (case l43 => k_is); (case c43 => k_is); (case k43 => k_is); (case a44 => k_is); (case l44 => k_is); (case c44 => k_is); (case k44 => k_is); (case x0 => k_is); (case x1 => k_is); (case v1 => k_is); (case w1 => rfl); (case d1 => rfl); (case z1 => decide +kernel); (case e1 => decide +kernel); (case x2 => k_is); (case x3 => k_is); (case x4 => k_is); (case x5 => k_is); (case x6 => k_is); (case x7 => k_is); (case x8 => k_is); (case x9 => k_is); (case x10 => k_is); (case x11 => k_is); (case x12 => k_is); (case b0 => k_is); (case b1 => k_is); (case b2 => k_is); (case b3 => k_is); (case b4 => k_is); (case b5 => k_is); (case b6 => k_is); (case b7 => k_is); (case b8 => k_is); (case b9 => k_is); (case b10 => k_is); (case b11 => k_is); (case b12 => k_is); (case b13 => k_is); (case b14 => k_is); (case b15 => k_is); (case b16 => k_is); (case b17 => k_is); (case b18 => k_is)

