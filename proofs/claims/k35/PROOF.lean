import PyProof.Rows.All
import Wide.All
import OpenK.AllK
import Wide.FinOn
import HandS.ForMost
import HandS.Star
import HandS.Zip
import HandS.TupAny
import HandS.IsInst
import HandS.Style
import HandS.WordsExc
import HandS.TryMany
import HandS.EndBits
import PySem.Challenge.RW_plantdue_k35_whole_profiles_behind_cycle
set_option Elab.async false
set_option linter.all false
set_option maxRecDepth 100000
set_option maxHeartbeats 4000000
set_option autoImplicit false
namespace PL
open PySem PySem.Spec L2

/-! # The pure layer: data without a heap -/
/-- a datum; `well`: the one list of three numbers that draws come from; `ty`: a built-in class; `scr`: the law's script -/
inductive D where
  | non
  | bl (b : Bool)
  | int (i : Int)
  | str (x : Str)
  | tup (xs : List D)
  | lst (xs : List D)
  | well
  | ty (n : String)
  | scr (ns : List Int)

def LIM : Nat := 1000000
theorem lim_line {n : Nat} (h : n ≤ LIM) : n ≤ sizeLine := Nat.le_trans h (by decide)
theorem lim_lt {n : Nat} (h : n ≤ LIM) : n < sizeLine := Nat.lt_of_le_of_lt h (by decide)

/-! ### the well, growing heaps -/
def WellAt (H : Hp) (p : Addr) : Prop := ∃ i j k : Int, H p = some (.lst [.int i, .int j, .int k]) ∧ 0 ≤ i ∧ 0 ≤ j ∧ j < 2147483648
/-- what stands apart: the well (it may change), lists that are being made (kept, but nothing points to them) -/
structure Wd where
  wl : Option Addr
  hid : Addr → Prop
/-- a is none of those that stand apart -/
def Wd.fr (w : Wd) (a : Addr) : Prop := w.wl ≠ some a ∧ ¬ w.hid a
def Wd.hide (w : Wd) (ex : List Addr) : Wd := ⟨w.wl, fun a => a ∈ ex ∨ w.hid a⟩
structure Wk (w : Wd) (H : Hp) : Prop where
  well : ∀ p, w.wl = some p → WellAt H p
  hid : ∀ a, w.hid a → ∃ vs, H a = some (.lst vs)
theorem Wk.new {w : Wd} {H : Hp} {a : Addr} (h : Wk w H) (n : H a = none) : w.fr a := by
  refine ⟨fun z => ?_, fun z => ?_⟩
  · obtain ⟨i, j, k, e, _⟩ := h.well a z
    rw [n] at e; cases e
  · obtain ⟨vs, e⟩ := h.hid a z
    rw [n] at e; cases e
structure Ext (w : Wd) (H H' : Hp) : Prop where
  keep : ∀ a o, w.wl ≠ some a → H a = some o → H' a = some o
  wk : Wk w H'
theorem Ext.refl {w : Wd} {H : Hp} (h : Wk w H) : Ext w H H := ⟨fun _ _ _ e => e, h⟩
theorem Ext.trans {w : Wd} {H H1 H2 : Hp} (x : Ext w H H1) (y : Ext w H1 H2) : Ext w H H2 := ⟨fun a o n e => y.keep a o n (x.keep a o n e), y.wk⟩
theorem Ext.new {w : Wd} {H : Hp} {p : Addr} {o : HO} (h : Wk w H) (n : H p = none) : Ext w H (upd H p o) := by
  refine ⟨fun a u _ e => ?_, fun q hq => ?_, fun q hq => ?_⟩
  · rw [upd_ne (ne_of_none e n)]; exact e
  · obtain ⟨i, j, k, e, r⟩ := h.well q hq
    exact ⟨i, j, k, by rw [upd_ne (ne_of_none e n)]; exact e, r⟩
  · obtain ⟨vs, e⟩ := h.hid q hq
    exact ⟨vs, by rw [upd_ne (ne_of_none e n)]; exact e⟩
theorem Wk.notTup {w : Wd} {H : Hp} {a : Addr} {xs : List V} (h : Wk w H) (r : Rd H a (.tup xs)) : w.wl ≠ some a := fun e => by
  obtain ⟨i, j, k, q, _⟩ := h.well a e
  rcases r with r | ⟨o, r⟩
  · rw [q] at r; cases r
  · rw [q] at r; cases r
theorem sqT_ext {K : PySem.W.Frag} {w : Wd} {H H' : Hp} {a : Addr} {xs : List V} (s : SqT K H a xs) (h : Wk w H) (x : Ext w H H') : SqT K H' a xs := by
  rcases s with s | s
  · have n := h.notTup s
    rcases s with s | ⟨o, s⟩
    · exact .inl (.inl (x.keep _ _ n s))
    · exact .inl (.inr ⟨o, x.keep _ _ n s⟩)
  · exact .inr s

/-- the script: known to the object, or one of the module's -/
def ScrAt (K : PySem.W.Frag) (H : Hp) (a : Addr) (ns : List Int) : Prop := (∃ o, H a = some (.frz o (.lst (ns.map V.int)))) ∨
  ∃ (o : Obj) (its : Array Value) (n : Nat), K.lookup a = some o ∧ o.cls = .type "list" ∧ o.dict = none ∧ o.data = .seq its n ∧ its.size ≤ sizeLine ∧ Vals (ns.map V.int) its.toList
theorem ScrAt.sq {K : PySem.W.Frag} {H : Hp} {a : Addr} {ns : List Int} (s : ScrAt K H a ns) : SqL K H a (ns.map V.int) := by
  rcases s with ⟨o, s⟩ | s
  · exact .inl (.inr ⟨o, s⟩)
  · exact .inr s
theorem ScrAt.ext {K : PySem.W.Frag} {w : Wd} {H H' : Hp} {a : Addr} {ns : List Int} (s : ScrAt K H a ns) (h : Wk w H) (x : Ext w H H') : ScrAt K H' a ns := by
  rcases s with ⟨o, s⟩ | s
  · refine .inl ⟨o, x.keep _ _ (fun z => ?_) s⟩
    obtain ⟨i, j, k, e, _⟩ := h.well a z
    rw [s] at e; cases e
  · exact .inr s
theorem ScrAt.upd_ne {K : PySem.W.Frag} {H : Hp} {a p : Addr} {ns : List Int} {o : HO} (s : ScrAt K H a ns) (n : ∀ u, H a = some (.frz u (.lst (ns.map V.int))) → a ≠ p) : ScrAt K (upd H p o) a ns := by
  rcases s with ⟨u, s⟩ | s
  · exact .inl ⟨u, by rw [L2.upd_ne (n u s)]; exact s⟩
  · exact .inr s

/-! ### a value stands for a datum -/
mutual
def Rp (K : PySem.W.Frag) (wl : Wd) (H : Hp) : D → V → Prop
  | .non, v => v = .non
  | .bl b, v => v = .bl b
  | .int i, v => v = .int i
  | .str x, v => v = .str x
  | .tup ds, v => ∃ a vs, v = .ref a ∧ SqT K H a vs ∧ RpL K wl H ds vs
  | .lst ds, v => ∃ a vs, v = .ref a ∧ wl.fr a ∧ H a = some (.lst vs) ∧ RpL K wl H ds vs
  | .well, v => ∃ a, wl.wl = some a ∧ v = .ref a
  | .ty n, v => v = .ty n
  | .scr ns, v => ∃ a, v = .ref a ∧ ScrAt K H a ns
def RpL (K : PySem.W.Frag) (wl : Wd) (H : Hp) : List D → List V → Prop
  | [], vs => vs = []
  | d :: ds, vs => ∃ v r, vs = v :: r ∧ Rp K wl H d v ∧ RpL K wl H ds r
end
section
variable {K : PySem.W.Frag} {wl : Wd} {H H' : Hp}
mutual
theorem Rp.ext (h : Wk wl H) (x : Ext wl H H') : ∀ (d : D) (v : V), Rp K wl H d v → Rp K wl H' d v
  | .non, _, r => r
  | .bl _, _, r => r
  | .int _, _, r => r
  | .str _, _, r => r
  | .tup ds, _, ⟨a, vs, e, s, q⟩ => ⟨a, vs, e, sqT_ext s h x, RpL.ext h x ds vs q⟩
  | .lst ds, _, ⟨a, vs, e, n, s, q⟩ => ⟨a, vs, e, n, x.keep _ _ n.1 s, RpL.ext h x ds vs q⟩
  | .well, _, r => r
  | .ty _, _, r => r
  | .scr ns, _, ⟨a, e, s⟩ => ⟨a, e, s.ext h x⟩
theorem RpL.ext (h : Wk wl H) (x : Ext wl H H') : ∀ (ds : List D) (vs : List V), RpL K wl H ds vs → RpL K wl H' ds vs
  | [], _, r => r
  | d :: ds, _, ⟨v, r, e, p, q⟩ => ⟨v, r, e, Rp.ext h x d v p, RpL.ext h x ds r q⟩
end
theorem RpL.length : ∀ {ds : List D} {vs : List V}, RpL K wl H ds vs → vs.length = ds.length
  | [], _, r => by cases r; rfl
  | d :: ds, _, ⟨v, r, e, p, q⟩ => by subst e; rw [List.length_cons, List.length_cons, RpL.length q]
theorem RpL.get : ∀ {ds : List D} {vs : List V} {i : Nat} {d : D}, RpL K wl H ds vs → ds[i]? = some d → ∃ v, vs[i]? = some v ∧ Rp K wl H d v
  | [], _, i, d, _, e => by simp at e
  | d :: ds, _, 0, d', ⟨v, r, e, p, q⟩, h => by
    subst e
    obtain rfl : d = d' := by simpa using h
    exact ⟨v, rfl, p⟩
  | d :: ds, _, i + 1, d', ⟨v, r, e, p, q⟩, h => by
    subst e
    obtain ⟨u, h1, h2⟩ := RpL.get (i := i) (d := d') q (by simpa using h)
    exact ⟨u, by simpa using h1, h2⟩
theorem RpL.getV : ∀ {ds : List D} {vs : List V} {i : Nat} {v : V}, RpL K wl H ds vs → vs[i]? = some v → ∃ d, ds[i]? = some d ∧ Rp K wl H d v
  | [], _, i, v, r, e => by cases r; simp at e
  | d :: ds, _, 0, v', ⟨v, r, e, p, q⟩, h => by
    subst e
    obtain rfl : v = v' := by simpa using h
    exact ⟨d, rfl, p⟩
  | d :: ds, _, i + 1, v', ⟨v, r, e, p, q⟩, h => by
    subst e
    obtain ⟨u, h1, h2⟩ := RpL.getV (i := i) (v := v') q (by simpa using h)
    exact ⟨u, by simpa using h1, h2⟩
theorem RpL.append : ∀ {ds es : List D} {vs us : List V}, RpL K wl H ds vs → RpL K wl H es us → RpL K wl H (ds ++ es) (vs ++ us)
  | [], _, _, _, r, s => by cases r; exact s
  | d :: ds, _, _, _, ⟨v, r, e, p, q⟩, s => by subst e; exact ⟨v, _, rfl, p, RpL.append q s⟩
theorem RpL.drop : ∀ {ds : List D} {vs : List V} (n : Nat), RpL K wl H ds vs → RpL K wl H (ds.drop n) (vs.drop n)
  | _, _, 0, r => by simpa using r
  | [], _, n + 1, r => by cases r; rfl
  | d :: ds, _, n + 1, ⟨v, r, e, p, q⟩ => by subst e; simpa using RpL.drop n q
theorem RpL.take : ∀ {ds : List D} {vs : List V} (n : Nat), RpL K wl H ds vs → RpL K wl H (ds.take n) (vs.take n)
  | _, _, 0, r => by simp; rfl
  | [], _, n + 1, r => by cases r; rfl
  | d :: ds, _, n + 1, ⟨v, r, e, p, q⟩ => by subst e; simpa using ⟨v, _, rfl, p, RpL.take n q⟩
mutual
/-- as more is hidden that was not there -/
theorem Rp.into {ex : List Addr} (h : Wk wl H) (n : ∀ a, a ∈ ex → H a = none) (x : Ext wl H H') : ∀ (d : D) (v : V), Rp K wl H d v → Rp K (wl.hide ex) H' d v
  | .non, _, r => r
  | .bl _, _, r => r
  | .int _, _, r => r
  | .str _, _, r => r
  | .tup ds, _, ⟨a, vs, e, s, q⟩ => ⟨a, vs, e, sqT_ext s h x, RpL.into h n x ds vs q⟩
  | .lst ds, _, ⟨a, vs, e, f, s, q⟩ => ⟨a, vs, e, ⟨f.1, fun z => by
      rcases z with z | z
      · rw [n a z] at s; cases s
      · exact f.2 z⟩, x.keep _ _ f.1 s, RpL.into h n x ds vs q⟩
  | .well, _, r => r
  | .ty _, _, r => r
  | .scr ns, _, ⟨a, e, s⟩ => ⟨a, e, s.ext h x⟩
theorem RpL.into {ex : List Addr} (h : Wk wl H) (n : ∀ a, a ∈ ex → H a = none) (x : Ext wl H H') : ∀ (ds : List D) (vs : List V), RpL K wl H ds vs → RpL K (wl.hide ex) H' ds vs
  | [], _, r => r
  | d :: ds, _, ⟨v, r, e, p, q⟩ => ⟨v, r, e, Rp.into h n x d v p, RpL.into h n x ds r q⟩
end
mutual
theorem Rp.out {ex : List Addr} : ∀ (d : D) (v : V), Rp K (wl.hide ex) H d v → Rp K wl H d v
  | .non, _, r => r
  | .bl _, _, r => r
  | .int _, _, r => r
  | .str _, _, r => r
  | .tup ds, _, ⟨a, vs, e, s, q⟩ => ⟨a, vs, e, s, RpL.out ds vs q⟩
  | .lst ds, _, ⟨a, vs, e, f, s, q⟩ => ⟨a, vs, e, ⟨f.1, fun z => f.2 (.inr z)⟩, s, RpL.out ds vs q⟩
  | .well, _, r => r
  | .ty _, _, r => r
  | .scr _, _, r => r
theorem RpL.out {ex : List Addr} : ∀ (ds : List D) (vs : List V), RpL K (wl.hide ex) H ds vs → RpL K wl H ds vs
  | [], _, r => r
  | d :: ds, _, ⟨v, r, e, p, q⟩ => ⟨v, r, e, Rp.out d v p, RpL.out ds r q⟩
end
theorem sqT_upd {a p : Addr} {xs us ws : List V} (s : SqT K H a xs) (hp : H p = some (.lst us)) : SqT K (upd H p (.lst ws)) a xs := by
  rcases s with (s | ⟨o, s⟩) | s
  · exact .inl (.inl (by rw [upd_ne (ne_of s hp (by intro z; cases z))]; exact s))
  · exact .inl (.inr ⟨o, by rw [upd_ne (ne_of s hp (by intro z; cases z))]; exact s⟩)
  · exact .inr s
mutual
/-- a hidden list is written -/
theorem Rp.write {p : Addr} {us ws : List V} (hh : wl.hid p) (hp : H p = some (.lst us)) : ∀ (d : D) (v : V), Rp K wl H d v → Rp K wl (upd H p (.lst ws)) d v
  | .non, _, r => r
  | .bl _, _, r => r
  | .int _, _, r => r
  | .str _, _, r => r
  | .tup ds, _, ⟨a, vs, e, s, q⟩ => ⟨a, vs, e, sqT_upd s hp, RpL.write hh hp ds vs q⟩
  | .lst ds, _, ⟨a, vs, e, f, s, q⟩ => ⟨a, vs, e, f, by rw [upd_ne (fun z => f.2 (by rw [z]; exact hh))]; exact s, RpL.write hh hp ds vs q⟩
  | .well, _, r => r
  | .ty _, _, r => r
  | .scr ns, _, ⟨a, e, s⟩ => ⟨a, e, s.upd_ne fun u z => ne_of z hp (by intro y; cases y)⟩
theorem RpL.write {p : Addr} {us ws : List V} (hh : wl.hid p) (hp : H p = some (.lst us)) : ∀ (ds : List D) (vs : List V), RpL K wl H ds vs → RpL K wl (upd H p (.lst ws)) ds vs
  | [], _, r => r
  | d :: ds, _, ⟨v, r, e, p', q⟩ => ⟨v, r, e, Rp.write hh hp d v p', RpL.write hh hp ds r q⟩
end
mutual
theorem Rp.grow {p : Addr} {o : HO} (hp : H p = none) : ∀ (d : D) (v : V), Rp K wl H d v → Rp K wl (upd H p o) d v
  | .non, _, r => r
  | .bl _, _, r => r
  | .int _, _, r => r
  | .str _, _, r => r
  | .tup ds, _, ⟨a, vs, e, s, q⟩ => ⟨a, vs, e, by
      rcases s with (s | ⟨u, s⟩) | s
      · exact .inl (.inl (by rw [upd_ne (ne_of_none s hp)]; exact s))
      · exact .inl (.inr ⟨u, by rw [upd_ne (ne_of_none s hp)]; exact s⟩)
      · exact .inr s, RpL.grow hp ds vs q⟩
  | .lst ds, _, ⟨a, vs, e, f, s, q⟩ => ⟨a, vs, e, f, by rw [upd_ne (ne_of_none s hp)]; exact s, RpL.grow hp ds vs q⟩
  | .well, _, r => r
  | .ty _, _, r => r
  | .scr ns, _, ⟨a, e, s⟩ => ⟨a, e, s.upd_ne fun u z => ne_of_none z hp⟩
theorem RpL.grow {p : Addr} {o : HO} (hp : H p = none) : ∀ (ds : List D) (vs : List V), RpL K wl H ds vs → RpL K wl (upd H p o) ds vs
  | [], _, r => r
  | d :: ds, _, ⟨v, r, e, p', q⟩ => ⟨v, r, e, Rp.grow hp d v p', RpL.grow hp ds r q⟩
end
theorem RpL.one {d : D} {v : V} (r : Rp K wl H d v) : RpL K wl H [d] [v] := ⟨v, [], rfl, r, rfl⟩
end

/-! ### environments -/
abbrev Ev := List (Option D)
structure EvR (K : PySem.W.Frag) (wl : Wd) (H : Hp) (ρ : Ev) (σ : St) : Prop where
  len : ρ.length = σ.length
  at_ : ∀ (i : Nat) (d : D), ρ[i]? = some (some d) → ∃ v, σ[i]? = some (some v) ∧ Rp K wl H d v
section
variable {K : PySem.W.Frag} {wl : Wd} {H H' : Hp} {ρ : Ev} {σ : St}
theorem EvR.ext (r : EvR K wl H ρ σ) (h : Wk wl H) (x : Ext wl H H') : EvR K wl H' ρ σ :=
  ⟨r.len, fun i d e => let ⟨v, a, b⟩ := r.at_ i d e; ⟨v, a, Rp.ext h x d v b⟩⟩
theorem EvR.set (r : EvR K wl H ρ σ) {d : D} {v : V} (p : Rp K wl H d v) (i : Nat) : EvR K wl H (ρ.set i (some d)) (σ.set i (some v)) := by
  refine ⟨by rw [List.length_set, List.length_set]; exact r.len, fun j c e => ?_⟩
  by_cases hj : i = j
  · subst hj
    by_cases hl : i < ρ.length
    · rw [List.getElem?_set_self hl] at e
      cases e
      exact ⟨v, by rw [List.getElem?_set_self (by rw [← r.len]; exact hl)], p⟩
    · rw [List.getElem?_eq_none (by rw [List.length_set]; omega)] at e
      cases e
  · rw [List.getElem?_set_ne hj] at e
    rw [List.getElem?_set_ne hj]
    exact r.at_ j c e
theorem EvR.into {ex : List Addr} (r : EvR K wl H ρ σ) (h : Wk wl H) (n : ∀ a, a ∈ ex → H a = none) (x : Ext wl H H') : EvR K (wl.hide ex) H' ρ σ :=
  ⟨r.len, fun i d e => let ⟨v, a, b⟩ := r.at_ i d e; ⟨v, a, Rp.into h n x d v b⟩⟩
def wipeE (ρ : Ev) : List Nat → Ev
  | [] => ρ
  | v :: vs => (wipeE ρ vs).set v none
theorem wipeE_length (ρ : Ev) : ∀ vs, (wipeE ρ vs).length = ρ.length
  | [] => rfl
  | v :: vs => by unfold wipeE; rw [List.length_set, wipeE_length ρ vs]
theorem EvR.unset (r : EvR K wl H ρ σ) (i : Nat) : EvR K wl H (ρ.set i none) (σ.set i none) := by
  refine ⟨by rw [List.length_set, List.length_set]; exact r.len, fun j c e => ?_⟩
  by_cases hj : i = j
  · subst hj
    by_cases hl : i < ρ.length
    · rw [List.getElem?_set_self hl] at e
      cases e
    · rw [List.getElem?_eq_none (by rw [List.length_set]; omega)] at e
      cases e
  · rw [List.getElem?_set_ne hj] at e
    rw [List.getElem?_set_ne hj]
    exact r.at_ j c e
theorem EvR.wiped (r : EvR K wl H ρ σ) : ∀ vs : List Nat, EvR K wl H (wipeE ρ vs) (wipe σ vs)
  | [] => r
  | v :: vs => (EvR.wiped r vs).unset v
end

/-! ### exceptions -/
/-- a class of errors by its name, and the field that it was made with -/
structure Xn where
  cls : Str
  arg : Option (Str × D)
def XnR (K : PySem.W.Frag) (mg : Str → Option Value) (wl : Wd) (H : Hp) (e : Xn) (c : Value) (dd : Option Addr) : Prop :=
  mg e.cls = some c ∧ match e.arg with
    | none => True
    | some (f, d) => ∃ a v, dd = some a ∧ wl.fr a ∧ H a = some (.xd [(f, v)]) ∧ Rp K wl H d v

/-! ### readings of the pure layer, put into the hand layer's -/
abbrev PX := Ev → (D → Prop) → (Xn → Prop) → Prop
abbrev PB := Ev → (Bool → Prop) → (Xn → Prop) → Prop
abbrev PAx := Ev → (List D → Prop) → (Xn → Prop) → Prop
structure Pn where
  nx : Ev → Prop
  rt : D → Prop
  bk : Ev → Prop
  ct : Ev → Prop
  ex : Ev → Xn → Prop
abbrev PSt := Pn → Ev → Prop

def Out (X : Cx) (W : WX) (wl : Wd) (H : Hp) (σ : St) (x : Xn → Prop) : Prop := ∀ e c dd H', Ext wl H H' → XnR X.K X.mg wl H' e c dd → x e → W c dd σ H'
theorem Out.ext {X : Cx} {W : WX} {wl : Wd} {H H' : Hp} {σ : St} {x : Xn → Prop} (o : Out X W wl H σ x) (e : Ext wl H H') : Out X W wl H' σ x := fun en c dd H2 e2 r q => o en c dd H2 (e.trans e2) r q

def eE (X : Cx) (W : WX) (f : PX) : TE := fun σ H Q => ∃ (wl : Wd) (ρ : Ev) (q : D → Prop) (x : Xn → Prop), Wk wl H ∧ EvR X.K wl H ρ σ ∧ f ρ q x ∧ (∀ d v H', Ext wl H H' → Rp X.K wl H' d v → q d → Q v H') ∧ Out X W wl H σ x
def eB (X : Cx) (W : WX) (f : PB) : TT := fun σ H Q => ∃ (wl : Wd) (ρ : Ev) (q : Bool → Prop) (x : Xn → Prop), Wk wl H ∧ EvR X.K wl H ρ σ ∧ f ρ q x ∧ (∀ b H', Ext wl H H' → q b → Q b H') ∧ Out X W wl H σ x
def eA (X : Cx) (W : WX) (f : PAx) : TA := fun σ H Q => ∃ (wl : Wd) (ρ : Ev) (q : List D → Prop) (x : Xn → Prop), Wk wl H ∧ EvR X.K wl H ρ σ ∧ f ρ q x ∧ (∀ ds vs H', Ext wl H H' → RpL X.K wl H' ds vs → q ds → Q vs H') ∧ Out X W wl H σ x
structure EndsR (X : Cx) (W : WX) (wl : Wd) (H : Hp) (P : Pn) (En : Ends) : Prop where
  nx : ∀ ρ σ H', Ext wl H H' → EvR X.K wl H' ρ σ → P.nx ρ → En.nx σ H'
  rt : ∀ d v H', Ext wl H H' → Rp X.K wl H' d v → P.rt d → En.rt v H'
  bk : ∀ ρ σ H', Ext wl H H' → EvR X.K wl H' ρ σ → P.bk ρ → En.bk σ H'
  ct : ∀ ρ σ H', Ext wl H H' → EvR X.K wl H' ρ σ → P.ct ρ → En.ct σ H'
  ex : ∀ ρ σ H' e c dd, Ext wl H H' → EvR X.K wl H' ρ σ → XnR X.K X.mg wl H' e c dd → P.ex ρ e → W c dd σ H'
theorem EndsR.ext {X : Cx} {W : WX} {wl : Wd} {H H' : Hp} {P : Pn} {En : Ends} (r : EndsR X W wl H P En) (e : Ext wl H H') : EndsR X W wl H' P En :=
  ⟨fun ρ σ H2 e2 => r.nx ρ σ H2 (e.trans e2), fun d v H2 e2 => r.rt d v H2 (e.trans e2), fun ρ σ H2 e2 => r.bk ρ σ H2 (e.trans e2), fun ρ σ H2 e2 => r.ct ρ σ H2 (e.trans e2), fun ρ σ H2 en c dd e2 => r.ex ρ σ H2 en c dd (e.trans e2)⟩
theorem EndsR.out {X : Cx} {W : WX} {wl : Wd} {H : Hp} {P : Pn} {En : Ends} {ρ : Ev} {σ : St} (r : EndsR X W wl H P En) (hk : Wk wl H) (he : EvR X.K wl H ρ σ) : Out X W wl H σ (P.ex ρ) :=
  fun e c dd H' x q p => r.ex ρ σ H' e c dd x (he.ext hk x) q p
def eS (X : Cx) (W : WX) (f : PSt) : TS := fun En σ H => ∃ (wl : Wd) (ρ : Ev) (P : Pn), Wk wl H ∧ EvR X.K wl H ρ σ ∧ f P ρ ∧ EndsR X W wl H P En

/-! ### weakening -/
theorem PE.weak {X : Cx} {e : Expr} {t t' : TE} (h : PE X e t) (w : ∀ σ H Q, t' σ H Q → t σ H Q) : PE X e t' := ⟨fun pins s σ H Q I q => h.run pins s σ H Q I (w _ _ _ q)⟩
theorem PT.weak {X : Cx} {e : Expr} {t t' : TT} (h : PT X e t) (w : ∀ σ H Q, t' σ H Q → t σ H Q) : PT X e t' := ⟨fun pins s σ H Q I q => h.run pins s σ H Q I (w _ _ _ q)⟩
theorem PW.weak {X : Cx} {e : Expr} {t t' : TT} (h : PW X e t) (w : ∀ σ H Q, t' σ H Q → t σ H Q) : PW X e t' := ⟨fun wh pins s σ H Q I q => h.run wh pins s σ H Q I (w _ _ _ q)⟩
theorem PA.weak {X : Cx} {es : List Expr} {t t' : TA} (h : PA X es t) (w : ∀ σ H Q, t' σ H Q → t σ H Q) : PA X es t' := ⟨fun pos pins s σ H Q I q => h.run pos pins s σ H Q I (w _ _ _ q)⟩
theorem PS.weak {X : Cx} {e : Stmt} {t t' : TS} (h : PS X e t) (w : ∀ En σ H, t' En σ H → t En σ H) : PS X e t' := ⟨fun pins s σ H En I q => h.run pins s σ H En I (w _ _ _ q)⟩
theorem PSs.weak {X : Cx} {e : List Stmt} {t t' : TS} (h : PSs X e t) (w : ∀ En σ H, t' En σ H → t En σ H) : PSs X e t' := ⟨fun pins s σ H En I q => h.run pins s σ H En I (w _ _ _ q)⟩

/-! ### names, constants -/
section
variable {X : Cx} {W : WX}
def fVar (i : Nat) : PX := fun ρ q _ => ∃ d, ρ[i]? = some (some d) ∧ q d
def fC (d : D) : PX := fun _ q _ => q d
theorem d_var (i : Nat) {x : Str} {pos : Pos} (hN : X.N[i]? = some x := by rfl) (hv : Vis X.env.scope x := by first | exact Or.inl rfl | exact Or.inr (Or.inl rfl) | exact Or.inr (Or.inr rfl)) (hd : (x == ("__debug__" : Str)) = false := by decide)
    (hcd : (x == ("__classdict__" : Str)) = false := by decide) : PE X (.Name x pos) (eE X W (fVar i)) := by
  refine PE.weak (pe_var hN hv hd hcd) fun σ H Q ⟨wl, ρ, q, x, hk, he, ⟨d, e, h⟩, hq, _⟩ => ?_
  obtain ⟨v, e1, r⟩ := he.at_ i d e
  exact ⟨v, e1, hq d v H (.refl hk) r h⟩
/-- what is flat and stands for itself -/
def flatOf : D → Option V
  | .non => some .non
  | .bl b => some (.bl b)
  | .int i => some (.int i)
  | .str x => some (.str x)
  | .ty n => some (.ty n)
  | _ => none
theorem rp_flat {K : PySem.W.Frag} {wl : Wd} {H : Hp} : ∀ {d : D} {v : V}, flatOf d = some v → Rp K wl H d v
  | .non, _, h => by cases h; rfl
  | .bl _, _, h => by cases h; rfl
  | .int _, _, h => by cases h; rfl
  | .str _, _, h => by cases h; rfl
  | .ty _, _, h => by cases h; rfl
theorem eE_c {d : D} {v : V} (hf : flatOf d = some v) {σ : St} {H : Hp} {Q : VK} (h : eE X W (fC d) σ H Q) : Q v H := by
  obtain ⟨wl, ρ, q, x, hk, he, h, hq, _⟩ := h
  exact hq d v H (.refl hk) (rp_flat hf) h
theorem d_int {i j pos} : PE X (.Constant (.int i) j pos) (eE X W (fC (.int i))) := PE.weak pe_int fun _ _ _ h => eE_c rfl h
theorem d_bl {b j pos} : PE X (.Constant (.bool b) j pos) (eE X W (fC (.bl b))) := PE.weak pe_bl fun _ _ _ h => eE_c rfl h
theorem d_non {j pos} : PE X (.Constant .none j pos) (eE X W (fC .non)) := PE.weak pe_non fun _ _ _ h => eE_c rfl h
theorem d_str {x j pos} : PE X (.Constant (.str x) j pos) (eE X W (fC (.str x))) := PE.weak pe_str fun _ _ _ h => eE_c rfl h
/-- a built-in class as a value -/
theorem d_ty {x : Str} {n : String} {pos : Pos} (hg : Gl X x) (hm : X.mg x = none) (hv : bootBuiltins x = some (.type n)) (hn : x ≠ "__name__" := by decide) (hd : (x == ("__debug__" : Str)) = false := by decide) : PE X (.Name x pos) (eE X W (fC (.ty n))) :=
  PE.weak (pe_bltn (v := .ty n) hg hm hv rfl hn hd) fun _ _ _ h => eE_c rfl h
/-- a module's constant: what is the same in every heap -/
def Kst (K : PySem.W.Frag) (mg : Str → Option Value) (x : Str) (d : D) : Prop := ∃ (u : Value) (v : V), mg x = some u ∧ RelV v u ∧ ∀ wl H, Rp K wl H d v
theorem d_glob {x : Str} {d : D} {pos : Pos} (hg : Gl X x) (k : Kst X.K X.mg x d) (hd : (x == ("__debug__" : Str)) = false := by decide) : PE X (.Name x pos) (eE X W (fC d)) := by
  obtain ⟨u, v, hm, r, a⟩ := k
  refine PE.weak (pe_glob hg hm r hd) fun σ H Q ⟨wl, ρ, q, x, hk, he, h, hq, _⟩ => ?_
  exact hq d v H (.refl hk) (a wl H) h

/-! ### two operands -/
abbrev PG2 := D → D → (D → Prop) → Prop
def Cmp2 (K : PySem.W.Frag) (r : R2) (g : PG2) : Prop := ∀ wl H d1 d2 v1 v2 q Q, Wk wl H → Rp K wl H d1 v1 → Rp K wl H d2 v2 → g d1 d2 q → (∀ d v H', Ext wl H H' → Rp K wl H' d v → q d → Q v H') → r v1 v2 H Q
def fBin (g : PG2) (fa fb : PX) : PX := fun ρ q x => fa ρ (fun d1 => fb ρ (fun d2 => g d1 d2 q) x) x
theorem bin_weak {r : R2} {g : PG2} (c : Cmp2 X.K r g) {fa fb : PX} {σ : St} {H : Hp} {Q : VK} (h : eE X W (fBin g fa fb) σ H Q) : tOp r (eE X W fa) (eE X W fb) σ H Q := by
  obtain ⟨wl, ρ, q, x, hk, he, hf, hq, hx⟩ := h
  refine ⟨wl, ρ, _, x, hk, he, hf, fun d1 v1 H1 e1 r1 h1 => ⟨wl, ρ, _, x, e1.wk, he.ext hk e1, h1, fun d2 v2 H2 e2 r2 h2 => ?_, hx.ext e1⟩, hx⟩
  exact c wl H2 d1 d2 v1 v2 q Q e2.wk (Rp.ext e1.wk e2 _ _ r1) r2 h2 fun d v H' e3 r3 => hq d v H' ((e1.trans e2).trans e3) r3
theorem d_op {op : Operator} {r : R2} {g : PG2} {a b : Expr} {fa fb : PX} {pos : Pos} (ho : OpR X (binaryOp op) r) (c : Cmp2 X.K r g) (ha : PE X a (eE X W fa)) (hb : PE X b (eE X W fb)) : PE X (.BinOp a op b pos) (eE X W (fBin g fa fb)) :=
  PE.weak (pe_op ho ha hb) fun _ _ _ h => bin_weak c h
theorem d_cmp {op : CmpOp} {r : R2} {g : PG2} {a b : Expr} {fa fb : PX} {pos : Pos} (ho : OpR X (compareOp op) r) (c : Cmp2 X.K r g) (ha : PE X a (eE X W fa)) (hb : PE X b (eE X W fb)) (hm : behindInMarks op b = false) : PE X (.Compare a [op] [b] pos) (eE X W (fBin g fa fb)) :=
  PE.weak (pe_cmpR ho ha hb hm) fun _ _ _ h => bin_weak c h
theorem d_ix {r : R2} {g : PG2} {a b : Expr} {fa fb : PX} {pos : Pos} (hr : IxR X r) (c : Cmp2 X.K r g) (ha : PE X a (eE X W fa)) (hb : PE X b (eE X W fb)) (hs : PlainIx b) : PE X (.Subscript a b pos) (eE X W (fBin g fa fb)) :=
  PE.weak (pe_ix hr ha hb hs) fun _ _ _ h => bin_weak c h
/-- a < b < c -/
def fChain (g g' : PG2) (fa fb fc : PX) : PX := fun ρ q x => fa ρ (fun d1 => fb ρ (fun d2 => g d1 d2 fun z => ∃ k, z = .bl k ∧ (k = true → fc ρ (fun d3 => g' d2 d3 q) x) ∧ (k = false → q (.bl false))) x) x
def fNot (fa : PX) : PX := fun ρ q x => fa ρ (fun d => ∃ k, d = .bl k ∧ q (.bl (!k))) x
def fAnd (fa fb : PX) : PX := fun ρ q x => fa ρ (fun d => ∃ k, d = .bl k ∧ (k = true → fb ρ q x) ∧ (k = false → q (.bl false))) x
def fOr (fa fb : PX) : PX := fun ρ q x => fa ρ (fun d => ∃ k, d = .bl k ∧ (k = true → q (.bl true)) ∧ (k = false → fb ρ q x)) x
def fNeg (fa : PX) : PX := fun ρ q x => fa ρ (fun d => ∃ i, d = .int i ∧ q (.int (-i))) x
theorem d_neg {a : Expr} {fa : PX} {pos : Pos} (ha : PE X a (eE X W fa)) : PE X (.UnaryOp .USub a pos) (eE X W (fNeg fa)) := by
  refine PE.weak (pe_un un_neg ha) fun σ H Q ⟨wl, ρ, q, x, hk, he, hf, hq, hx⟩ => ?_
  refine ⟨wl, ρ, _, x, hk, he, hf, fun d v H1 e1 r1 ⟨i, ed, h1⟩ => ?_, hx⟩
  subst ed
  exact ⟨i, r1, hq (.int (-i)) _ H1 e1 rfl h1⟩
theorem d_not {a : Expr} {fa : PX} {pos : Pos} (ha : PE X a (eE X W fa)) : PE X (.UnaryOp .Not a pos) (eE X W (fNot fa)) := by
  refine PE.weak (pe_not ha) fun σ H Q ⟨wl, ρ, q, x, hk, he, hf, hq, hx⟩ => ?_
  refine ⟨wl, ρ, _, x, hk, he, hf, fun d v H1 e1 r1 ⟨k, ed, h1⟩ => ?_, hx⟩
  subst ed
  exact ⟨k, r1, hq (.bl (!k)) _ H1 e1 rfl h1⟩
theorem d_one {op} {a : Expr} {fa : PX} {pos : Pos} (ha : PE X a (eE X W fa)) : PE X (.BoolOp op [a] pos) (eE X W fa) := pe_one ha
theorem d_and {a b : Expr} {rest : List Expr} {fa fb : PX} {pos : Pos} (ha : PE X a (eE X W fa)) (hb : PE X (.BoolOp .And (b :: rest) pos) (eE X W fb)) : PE X (.BoolOp .And (a :: b :: rest) pos) (eE X W (fAnd fa fb)) := by
  refine PE.weak (pe_and ha hb) fun σ H Q ⟨wl, ρ, q, x, hk, he, hf, hq, hx⟩ => ?_
  refine ⟨wl, ρ, _, x, hk, he, hf, fun d v H1 e1 r1 ⟨k, ed, h1, h2⟩ => ?_, hx⟩
  subst ed
  refine ⟨k, r1, ?_⟩
  cases k with
  | true => exact iteT ⟨wl, ρ, q, x, e1.wk, he.ext hk e1, h1 rfl, fun d v H2 e2 r2 => hq d v H2 (e1.trans e2) r2, hx.ext e1⟩
  | false => exact iteF (hq (.bl false) _ H1 e1 rfl (h2 rfl))
theorem d_or {a b : Expr} {rest : List Expr} {fa fb : PX} {pos : Pos} (ha : PE X a (eE X W fa)) (hb : PE X (.BoolOp .Or (b :: rest) pos) (eE X W fb)) : PE X (.BoolOp .Or (a :: b :: rest) pos) (eE X W (fOr fa fb)) := by
  refine PE.weak (pe_or ha hb) fun σ H Q ⟨wl, ρ, q, x, hk, he, hf, hq, hx⟩ => ?_
  refine ⟨wl, ρ, _, x, hk, he, hf, fun d v H1 e1 r1 ⟨k, ed, h1, h2⟩ => ?_, hx⟩
  subst ed
  refine ⟨k, r1, ?_⟩
  cases k with
  | true => exact iteT (hq (.bl true) _ H1 e1 rfl (h1 rfl))
  | false => exact iteF ⟨wl, ρ, q, x, e1.wk, he.ext hk e1, h2 rfl, fun d v H2 e2 r2 => hq d v H2 (e1.trans e2) r2, hx.ext e1⟩
theorem chain_weak {r r' : R2} {g g' : PG2} (k1 : Cmp2 X.K r g) (k2 : Cmp2 X.K r' g') {fa fb fc : PX} {σ : St} {H : Hp} {Q : VK} (h : eE X W (fChain g g' fa fb fc) σ H Q) : tChain r r' (eE X W fa) (eE X W fb) (eE X W fc) σ H Q := by
  obtain ⟨wl, ρ, q, x, hk, he, hf, hq, hx⟩ := h
  refine ⟨wl, ρ, _, x, hk, he, hf, fun d1 v1 H1 e1 r1 h1 => ⟨wl, ρ, _, x, e1.wk, he.ext hk e1, h1, fun d2 v2 H2 e2 r2 h2 => ?_, hx.ext e1⟩, hx⟩
  refine k1 wl H2 d1 d2 v1 v2 _ _ e2.wk (Rp.ext e1.wk e2 _ _ r1) r2 h2 fun d v H3 e3 r3 ⟨k, ed, h3, h4⟩ => ?_
  subst ed
  refine ⟨k, r3, ?_⟩
  have e23 := (e1.trans e2).trans e3
  cases k with
  | true =>
    refine iteT ⟨wl, ρ, _, x, e3.wk, he.ext hk e23, h3 rfl, fun d3 v3 H4 e4 r4 h5 => ?_, hx.ext e23⟩
    exact k2 wl H4 d2 d3 v2 v3 q Q e4.wk (Rp.ext e3.wk e4 _ _ (Rp.ext e2.wk e3 _ _ r2)) r4 h5 fun d v H5 e5 r5 => hq d v H5 (e23.trans e4 |>.trans e5) r5
  | false => exact iteF (hq (.bl false) _ H3 e23 rfl (h4 rfl))
theorem d_chain {op op' : CmpOp} {r r' : R2} {g g' : PG2} {a b c : Expr} {fa fb fc : PX} {pos : Pos} (ho : OpR X (compareOp op) r) (ho' : OpR X (compareOp op') r') (k1 : Cmp2 X.K r g) (k2 : Cmp2 X.K r' g')
    (ha : PE X a (eE X W fa)) (hb : PE X b (eE X W fb)) (hc : PE X c (eE X W fc)) (hm : lastMarks [op, op'] [b, c] = false := by with_unfolding_all rfl) : PE X (.Compare a [op, op'] [b, c] pos) (eE X W (fChain g g' fa fb fc)) :=
  PE.weak (pe_chain ho ho' ha hb hc hm) fun _ _ _ h => chain_weak k1 k2 h
end
end PL

namespace PL
open PySem PySem.Spec L2

/-! # operations by data -/
section
variable {X : Cx} {K : PySem.W.Frag}
/-! ### + -/
def addG : PG2
  | .int i, .int j, q => q (.int (i + j))
  | .str a, .str b, q => a.length + b.length ≤ LIM ∧ q (.str (a ++ b))
  | .tup xs, .tup ys, q => xs.length + ys.length ≤ LIM ∧ q (.tup (xs ++ ys))
  | .lst xs, .lst ys, q => xs.length + ys.length ≤ LIM ∧ q (.lst (xs ++ ys))
  | _, _, _ => False
def rAddA (K : PySem.W.Frag) : R2 := fun x y H Q => (rI0 fun i j => .int (i + j)) x y H Q ∨ (fun (x y : V) H (Q : VK) => ∃ i j, x = .str i ∧ y = .str j ∧ i.length + j.length ≤ sizeLine ∧ Q (.str (i ++ j)) H) x y H Q ∨ rCatA K x y H Q ∨ rCat x y H Q
theorem op_addA : OpR X (binaryOp .Add) (rAddA X.K) := op_add.or (op_add_str.or (op_catA.or op_cat))
theorem add_ok : Cmp2 K (rAddA K) addG := by
  intro wl H d1 d2 v1 v2 q Q hk r1 r2 g hq
  cases d1 <;> cases d2 <;> try exact g.elim
  case int.int i j =>
    cases r1; cases r2
    exact .inl ⟨i, j, rfl, rfl, hq (.int (i + j)) _ H (.refl hk) rfl g⟩
  case str.str a b =>
    cases r1; cases r2
    exact .inr (.inl ⟨a, b, rfl, rfl, lim_line g.1, hq (.str (a ++ b)) _ H (.refl hk) rfl g.2⟩)
  case tup.tup xs ys =>
    obtain ⟨a, vs, rfl, s1, q1⟩ := r1
    obtain ⟨b, us, rfl, s2, q2⟩ := r2
    have l1 := q1.length
    have l2 := q2.length
    refine .inr (.inr (.inl ⟨a, b, vs, us, rfl, rfl, s1, s2, lim_line (by rw [l1, l2]; exact g.1), fun e => ?_, fun _ e => ?_, fun _ _ p hp => ?_⟩))
    · subst e
      obtain rfl : xs = [] := List.length_eq_zero_iff.mp l1.symm
      exact hq (.tup ys) _ H (.refl hk) ⟨b, us, rfl, s2, q2⟩ g.2
    · subst e
      obtain rfl : ys = [] := List.length_eq_zero_iff.mp l2.symm
      have g2 := g.2
      rw [List.append_nil] at g2
      exact hq (.tup xs) _ H (.refl hk) ⟨a, vs, rfl, s1, q1⟩ g2
    · have e := Ext.new (o := .tup (vs ++ us)) hk hp
      exact hq (.tup (xs ++ ys)) _ _ e ⟨p, _, rfl, SqT.of upd_same, (RpL.ext hk e _ _ q1).append (RpL.ext hk e _ _ q2)⟩ g.2
  case lst.lst xs ys =>
    obtain ⟨a, vs, rfl, n1, s1, q1⟩ := r1
    obtain ⟨b, us, rfl, n2, s2, q2⟩ := r2
    refine .inr (.inr (.inr ⟨a, b, vs, us, rfl, rfl, s1, s2, lim_line (by rw [q1.length, q2.length]; exact g.1), fun p hp => ?_⟩))
    have e := Ext.new (o := .lst (vs ++ us)) hk hp
    refine hq (.lst (xs ++ ys)) _ _ e ⟨p, _, rfl, hk.new hp, upd_same, (RpL.ext hk e _ _ q1).append (RpL.ext hk e _ _ q2)⟩ g.2
/-! ### -, *, %, //, ** -/
def subG : PG2
  | .int i, .int j, q => q (.int (i - j))
  | _, _, _ => False
theorem sub_ok : Cmp2 K (rI0 fun i j => .int (i - j)) subG := by
  intro wl H d1 d2 v1 v2 q Q hk r1 r2 g hq
  cases d1 <;> cases d2 <;> try exact g.elim
  case int.int i j => cases r1; cases r2; exact ⟨i, j, rfl, rfl, hq (.int (i - j)) _ H (.refl hk) rfl g⟩
/-- by a written condition and function of two numbers -/
def intG (C : Int → Int → Prop) (f : Int → Int → D) : PG2
  | .int i, .int j, q => C i j ∧ q (f i j)
  | _, _, _ => False
theorem int_ok {C : Int → Int → Prop} {f : Int → Int → Int} : Cmp2 K (rI C fun i j => .int (f i j)) (intG C fun i j => .int (f i j)) := by
  intro wl H d1 d2 v1 v2 q Q hk r1 r2 g hq
  cases d1 <;> cases d2 <;> try exact g.elim
  case int.int i j => cases r1; cases r2; exact ⟨i, j, rfl, rfl, g.1, hq (.int (f i j)) _ H (.refl hk) rfl g.2⟩
theorem intB_ok {f : Int → Int → Bool} : Cmp2 K (rI0 fun i j => .bl (f i j)) (intG (fun _ _ => True) fun i j => .bl (f i j)) := by
  intro wl H d1 d2 v1 v2 q Q hk r1 r2 g hq
  cases d1 <;> cases d2 <;> try exact g.elim
  case int.int i j => cases r1; cases r2; exact ⟨i, j, rfl, rfl, hq (.bl (f i j)) _ H (.refl hk) rfl g.2⟩
def mulG : PG2 := intG CMul fun i j => .int (i * j)
def modG : PG2 := intG (fun _ j => 0 < j) fun i j => .int (i % j)
def fdivG : PG2 := intG CDiv fun i j => .int (i / j)
def powG : PG2 := intG CPow fun i j => .int (i ^ j.toNat)
def ltG : PG2 := intG (fun _ _ => True) fun i j => .bl (decide (i < j))
def leG : PG2 := intG (fun _ _ => True) fun i j => .bl (decide (i ≤ j))
def gtG : PG2 := intG (fun _ _ => True) fun i j => .bl (decide (j < i))
def geG : PG2 := intG (fun _ _ => True) fun i j => .bl (decide (j ≤ i))

theorem mul_ok : Cmp2 K (rI CMul fun i j => .int (i * j)) mulG := int_ok
theorem mod_ok : Cmp2 K (rI (fun _ j => 0 < j) fun i j => .int (i % j)) modG := int_ok
theorem fdiv_ok : Cmp2 K (rI CDiv fun i j => .int (i / j)) fdivG := int_ok
theorem pow_ok : Cmp2 K (rI CPow fun i j => .int (i ^ j.toNat)) powG := int_ok
theorem lt_ok : Cmp2 K (rI0 fun i j => .bl (decide (i < j))) ltG := intB_ok
theorem le_ok : Cmp2 K (rI0 fun i j => .bl (decide (i ≤ j))) leG := intB_ok
theorem gt_ok : Cmp2 K (rI0 fun i j => .bl (decide (j < i))) gtG := intB_ok
theorem ge_ok : Cmp2 K (rI0 fun i j => .bl (decide (j ≤ i))) geG := intB_ok
theorem u200 {k : Nat} {A : Around} (r : Room k A) : A.units + 200 < cLine := by have := r.un; omega

/-! ### == -/
mutual
def toPy : D → PyData
  | .non => .none
  | .bl b => .bool b
  | .int i => .int i
  | .str x => .str x
  | .tup xs => .tuple (toPyL xs)
  | .lst xs => .list (toPyL xs)
  | .well => .none
  | .ty _ => .none
  | .scr _ => .none
def toPyL : List D → List PyData
  | [] => []
  | d :: ds => toPy d :: toPyL ds
end
mutual
def good : D → Bool
  | .non => true
  | .bl _ => true
  | .int _ => true
  | .str _ => true
  | .tup xs => goodL xs
  | .lst xs => goodL xs
  | .well => false
  | .ty _ => false
  | .scr _ => false
def goodL : List D → Bool
  | [] => true
  | d :: ds => good d && goodL ds
end
section
variable {wl : Wd} {H : Hp}
mutual
theorem Rp.dp : ∀ (d : D) (v : V), good d = true → Rp K wl H d v → Dp K H v (toPy d)
  | .non, _, _, r => by cases r; exact .non
  | .bl b, _, _, r => by cases r; exact .bl b
  | .int i, _, _, r => by cases r; exact .int i
  | .str x, _, _, r => by cases r; exact .str x
  | .tup ds, _, g, ⟨a, vs, e, s, q⟩ => by subst e; exact .tup s (RpL.dp ds vs g q)
  | .lst ds, _, g, ⟨a, vs, e, n, s, q⟩ => by subst e; exact .lst (SqL.of s) (RpL.dp ds vs g q)
  | .well, _, g, _ => absurd g (by simp [good])
  | .ty _, _, g, _ => absurd g (by simp [good])
  | .scr _, _, g, _ => absurd g (by simp [good])
theorem RpL.dp : ∀ (ds : List D) (vs : List V), goodL ds = true → RpL K wl H ds vs → DpAll K H vs (toPyL ds)
  | [], _, _, r => by cases r; exact .nil
  | d :: ds, _, g, ⟨v, r, e, p, q⟩ => by
    subst e
    have g2 : (good d && goodL ds) = true := g
    rw [Bool.and_eq_true] at g2
    exact .cons (Rp.dp d v g2.1 p) (RpL.dp ds r g2.2 q)
end
end
/-! what a datum costs: a bound of its text, of its weight -/
mutual
def cost : D → Nat
  | .non => 1
  | .bl _ => 1
  | .int i => if i.natAbs < 1000000000000 then 1 else 1000000000
  | .str x => if PyData.strOk x then x.length + 1 else 1000000000
  | .tup xs => costL xs + 1
  | .lst xs => costL xs + 1
  | .well => 1000000000
  | .ty _ => 1000000000
  | .scr _ => 1000000000
def costL : List D → Nat
  | [] => 0
  | d :: ds => cost d + costL ds
end
mutual
def dep : D → Nat
  | .non => 0
  | .bl _ => 0
  | .int _ => 0
  | .str _ => 0
  | .tup xs => depL xs + 1
  | .lst xs => depL xs + 1
  | .well => 0
  | .ty _ => 0
  | .scr _ => 0
def depL : List D → Nat
  | [] => 0
  | d :: ds => max (dep d) (depL ds)
end
mutual
theorem dep_eq : ∀ d : D, (toPy d).depth = dep d
  | .non => rfl
  | .bl _ => rfl
  | .int _ => rfl
  | .str _ => rfl
  | .tup xs => by show PyData.depthAll (toPyL xs) + 1 = depL xs + 1; rw [depL_eq xs]
  | .lst xs => by show PyData.depthAll (toPyL xs) + 1 = depL xs + 1; rw [depL_eq xs]
  | .well => rfl
  | .ty _ => rfl
  | .scr _ => rfl
theorem depL_eq : ∀ ds : List D, PyData.depthAll (toPyL ds) = depL ds
  | [] => rfl
  | d :: ds => by show max (toPy d).depth (PyData.depthAll (toPyL ds)) = max (dep d) (depL ds); rw [dep_eq d, depL_eq ds]
end
structure Nice (d : D) : Prop where
  good : good d = true
  lay : (toPy d).canLay0 = true
  short : (toPy d).intsShort 13 = true
  show_ : (toPy d).showable = true
  wt : (toPy d).weight + 1 ≤ 42 * cost d
structure NiceL (ds : List D) : Prop where
  good : goodL ds = true
  lay : PyData.canLayAll0 (toPyL ds) = true
  short : PyData.intsShortAll 13 (toPyL ds) = true
  show_ : PyData.showableAll (toPyL ds) = true
  wt : PyData.weightAll (toPyL ds) ≤ 42 * costL ds
theorem nice_int {i : Int} (h : cost (.int i) < 1000000000) : Nice (.int i) := by
  have h1 : i.natAbs < 1000000000000 := by
    by_cases z : i.natAbs < 1000000000000
    · exact z
    · simp [cost, z] at h
  have h2 : i.natAbs.log2 < 40 := by
    by_cases z : i.natAbs = 0
    · rw [z]; decide
    · exact (Nat.log2_lt z).mpr (Nat.lt_of_lt_of_le h1 (by decide))
  refine ⟨rfl, rfl, ?_, ?_, ?_⟩
  · have := int_text_length_le10 (a := i) (k := 12) (by decide) (by simpa using h1)
    have e : (PyData.int i).shown.length = (toString i).length := ofString_length _
    exact decide_eq_true (show (PyData.int i).shown.length ≤ 13 by rw [e]; exact this)
  · simp only [toPy, PyData.showable, decide_eq_true_eq]; omega
  · have e : cost (.int i) = 1 := by simp [cost, h1]
    rw [e]
    simp only [toPy, PyData.weight]
    split <;> omega
mutual
theorem nice_of : ∀ d : D, cost d < 1000000000 → Nice d
  | .non, _ => ⟨rfl, rfl, rfl, rfl, by decide⟩
  | .bl _, _ => ⟨rfl, rfl, rfl, rfl, by show 0 + 1 ≤ 42 * 1; decide⟩
  | .int _, h => nice_int h
  | .str x, h => by
    have h1 : PyData.strOk x = true := by
      cases z : PyData.strOk x with
      | true => rfl
      | false => simp [cost, z] at h
    have e : cost (.str x) = x.length + 1 := by simp [cost, h1]
    refine ⟨rfl, h1, rfl, rfl, ?_⟩
    rw [e]
    show x.cps.size + 1 ≤ 42 * (x.length + 1)
    have : x.length = x.cps.size := rfl
    omega
  | .tup xs, h => by
    have n := niceL_of xs (by have : cost (.tup xs) = costL xs + 1 := rfl; omega)
    refine ⟨n.good, n.lay, n.short, n.show_, ?_⟩
    have := n.wt
    have e : cost (.tup xs) = costL xs + 1 := rfl
    show PyData.weightAll (toPyL xs) + 1 ≤ _
    omega
  | .lst xs, h => by
    have n := niceL_of xs (by have : cost (.lst xs) = costL xs + 1 := rfl; omega)
    refine ⟨n.good, n.lay, n.short, n.show_, ?_⟩
    have := n.wt
    have e : cost (.lst xs) = costL xs + 1 := rfl
    show PyData.weightAll (toPyL xs) + 1 ≤ _
    omega
  | .well, h => by simp [cost] at h
  | .ty _, h => by simp [cost] at h
  | .scr _, h => by simp [cost] at h
theorem niceL_of : ∀ ds : List D, costL ds < 1000000000 → NiceL ds
  | [], _ => ⟨rfl, rfl, rfl, rfl, by decide⟩
  | d :: ds, h => by
    have e : costL (d :: ds) = cost d + costL ds := rfl
    have n := nice_of d (by omega)
    have m := niceL_of ds (by omega)
    refine ⟨?_, ?_, ?_, ?_, ?_⟩
    · show (good d && goodL ds) = true; rw [n.good, m.good]; rfl
    · show ((toPy d).canLay0 && PyData.canLayAll0 (toPyL ds)) = true; rw [n.lay, m.lay]; rfl
    · show ((toPy d).intsShort 13 && PyData.intsShortAll 13 (toPyL ds)) = true; rw [n.short, m.short]; rfl
    · show ((toPy d).showable && PyData.showableAll (toPyL ds)) = true; rw [n.show_, m.show_]; rfl
    · have := n.wt
      have := m.wt
      show (toPy d).weight + 1 + PyData.weightAll (toPyL ds) ≤ _
      omega
end
/-- what may be compared, what may be shown -/
def tame (d : D) : Prop := cost d ≤ 20000 ∧ dep d ≤ 60
theorem tame.nice {d : D} (t : tame d) : Nice d := nice_of d (by have := t.1; omega)
theorem tame.shaped {d : D} (t : tame d) : SeqAt.shaped (toPy d) = true := by
  unfold SeqAt.shaped
  rw [t.nice.lay, dep_eq]
  have := t.2
  simp; omega
theorem tame.layable {d : D} (t : tame d) : PyData.layable0 (toPy d) = true := by
  unfold PyData.layable0
  rw [t.nice.lay, dep_eq]
  have := t.2
  have := t.nice.wt
  have := t.1
  have e : (2 : Nat) ^ 20 = 1048576 := by decide
  simp; omega
def eqvD (a b : D) : Bool := PyData.eqv (toPy a) (toPy b)
/-- numbers, strings: of any size -/
def okEq (a b : D) : Prop := (∃ i j, a = .int i ∧ b = .int j) ∨ (∃ i j, a = .str i ∧ b = .str j) ∨ tame a ∧ tame b
theorem okEq.i {i j : Int} : okEq (.int i) (.int j) := .inl ⟨i, j, rfl, rfl⟩
theorem okEq.s {i j : Str} : okEq (.str i) (.str j) := .inr (.inl ⟨i, j, rfl, rfl⟩)
theorem okEq.t {a b : D} (h1 : tame a) (h2 : tame b) : okEq a b := .inr (.inr ⟨h1, h2⟩)
def eqG : PG2 := fun a b q => okEq a b ∧ q (.bl (eqvD a b))
def neG : PG2 := fun a b q => okEq a b ∧ q (.bl (!eqvD a b))
def rEqS (K : PySem.W.Frag) : R2 := fun x y H Q => rEq x y H Q ∨ rEqD K x y H Q
def rNeS (K : PySem.W.Frag) : R2 := fun x y H Q => rNe x y H Q ∨ rNeD K x y H Q
theorem op_eqS (hu : X.A.units + 64 < cLine) : OpR X (compareOp .Eq) (rEqS X.K) := op_eq.or (op_eqD hu)
theorem op_neS (hu : X.A.units + 64 < cLine) : OpR X (compareOp .NotEq) (rNeS X.K) := op_ne.or (op_neD hu)
theorem eqv_int {a b : Int} : eqvD (.int a) (.int b) = decide (a = b) := by simp [eqvD, toPy, PyData.eqv, Bool.beq_eq_decide_eq]
theorem eqv_str {a b : Str} : eqvD (.str a) (.str b) = decide (a = b) := by simp [eqvD, toPy, PyData.eqv, Bool.beq_eq_decide_eq]
theorem dec_int {a b : Int} : decide (V.int a = V.int b) = decide (a = b) := by
  by_cases h : a = b
  · subst h; simp
  · rw [decide_eq_false h, decide_eq_false fun e => h (V.int.inj e)]
theorem dec_str {a b : Str} : decide (V.str a = V.str b) = decide (a = b) := by
  by_cases h : a = b
  · subst h; simp
  · rw [decide_eq_false h, decide_eq_false fun e => h (V.str.inj e)]
theorem eq_ok : Cmp2 K (rEqS K) eqG := by
  intro wl H d1 d2 v1 v2 q Q hk r1 r2 ⟨h, g⟩ hq
  rcases h with ⟨i, j, rfl, rfl⟩ | ⟨i, j, rfl, rfl⟩ | ⟨h1, h2⟩
  · cases r1; cases r2
    refine .inl ⟨rfl, ?_⟩
    rw [dec_int, ← eqv_int]
    exact hq (.bl _) _ H (.refl hk) rfl g
  · cases r1; cases r2
    refine .inl ⟨rfl, ?_⟩
    rw [dec_str, ← eqv_str]
    exact hq (.bl _) _ H (.refl hk) rfl g
  · exact .inr ⟨_, _, Rp.dp d1 v1 h1.nice.good r1, Rp.dp d2 v2 h2.nice.good r2, h1.shaped, h2.shaped, hq (.bl (eqvD d1 d2)) _ H (.refl hk) rfl g⟩
theorem ne_ok : Cmp2 K (rNeS K) neG := by
  intro wl H d1 d2 v1 v2 q Q hk r1 r2 ⟨h, g⟩ hq
  rcases h with ⟨i, j, rfl, rfl⟩ | ⟨i, j, rfl, rfl⟩ | ⟨h1, h2⟩
  · cases r1; cases r2
    refine .inl ⟨rfl, ?_⟩
    rw [dec_int, ← eqv_int]
    exact hq (.bl _) _ H (.refl hk) rfl g
  · cases r1; cases r2
    refine .inl ⟨rfl, ?_⟩
    rw [dec_str, ← eqv_str]
    exact hq (.bl _) _ H (.refl hk) rfl g
  · exact .inr ⟨_, _, Rp.dp d1 v1 h1.nice.good r1, Rp.dp d2 v2 h2.nice.good r2, h1.shaped, h2.shaped, hq (.bl (!eqvD d1 d2)) _ H (.refl hk) rfl g⟩

/-! ### in -/
def flat : D → Bool
  | .non => true
  | .bl _ => true
  | .int _ => true
  | .str _ => true
  | _ => false
def feq : D → D → Bool
  | .non, .non => true
  | .bl a, .bl b => a == b
  | .bl a, .int b => (if a then 1 else 0) == b
  | .int a, .bl b => a == (if b then 1 else 0)
  | .int a, .int b => a == b
  | .str a, .str b => a == b
  | _, _ => false
theorem flat_V {wl : Wd} {H : Hp} : ∀ {d : D} {v : V}, flat d = true → Rp K wl H d v → flatV v = true
  | .non, _, _, r => by cases r; rfl
  | .bl _, _, _, r => by cases r; rfl
  | .int _, _, _, r => by cases r; rfl
  | .str _, _, _, r => by cases r; rfl
  | .tup _, _, g, _ => absurd g (by simp [flat])
  | .lst _, _, g, _ => absurd g (by simp [flat])
  | .well, _, g, _ => absurd g (by simp [flat])
  | .ty _, _, g, _ => absurd g (by simp [flat])
  | .scr _, _, g, _ => absurd g (by simp [flat])
theorem feq_V {wl : Wd} {H : Hp} {d e : D} {v u : V} (g : flat d = true) (g' : flat e = true) (r : Rp K wl H d v) (r' : Rp K wl H e u) : eqV v u = feq d e := by
  cases d <;> cases e <;> first | (simp [flat] at g; done) | (simp [flat] at g'; done) | (cases r; cases r'; rfl)
theorem flat_all {wl : Wd} {H : Hp} : ∀ {ds : List D} {vs : List V}, ds.all flat = true → RpL K wl H ds vs → vs.all flatV = true
  | [], _, _, r => by cases r; rfl
  | d :: ds, _, g, ⟨v, r, e, p, q⟩ => by
    subst e
    rw [List.all_cons, Bool.and_eq_true] at g ⊢
    exact ⟨flat_V g.1 p, flat_all g.2 q⟩
theorem inV_eq {wl : Wd} {H : Hp} {d : D} {v : V} (g : flat d = true) (r : Rp K wl H d v) : ∀ {ds : List D} {vs : List V}, ds.all flat = true → RpL K wl H ds vs → inV v vs = ds.any fun y => feq y d
  | [], _, _, q => by cases q; rfl
  | c :: ds, _, f, ⟨u, t, e, p, q⟩ => by
    subst e
    rw [List.all_cons, Bool.and_eq_true] at f
    have ih := inV_eq g r f.2 q
    unfold inV at ih ⊢
    rw [List.any_cons, List.any_cons, ih, feq_V f.1 g p r]
def inG (neg : Bool) : PG2
  | .str a, .str b, q => ∃ c : Nat, a = ⟨#[c]⟩ ∧ q (.bl (if neg then !decide (c ∈ b.cps.toList) else decide (c ∈ b.cps.toList)))
  | d, .tup xs, q => flat d = true ∧ xs.all flat = true ∧ q (.bl (if neg then !(xs.any fun y => feq y d) else xs.any fun y => feq y d))
  | d, .lst xs, q => flat d = true ∧ xs.all flat = true ∧ q (.bl (if neg then !(xs.any fun y => feq y d) else xs.any fun y => feq y d))
  | _, _, _ => False
def rInA (K : PySem.W.Frag) : R2 := fun x y H Q => (fun (x y : V) H (Q : VK) => ∃ (c : Nat) (z : Str), x = .str ⟨#[c]⟩ ∧ y = .str z ∧ Q (.bl (decide (c ∈ z.cps.toList))) H) x y H Q ∨ rIn K false x y H Q
def rNiA (K : PySem.W.Frag) : R2 := fun x y H Q => (fun (x y : V) H (Q : VK) => ∃ (c : Nat) (z : Str), x = .str ⟨#[c]⟩ ∧ y = .str z ∧ Q (.bl (!decide (c ∈ z.cps.toList))) H) x y H Q ∨ rIn K true x y H Q
theorem op_inA : OpR X (compareOp .In) (rInA X.K) := op_in_sign.or op_in_seq
theorem op_niA : OpR X (compareOp .NotIn) (rNiA X.K) := op_notIn_sign.or op_notIn_seq
theorem in_seq {neg : Bool} {wl : Wd} {H : Hp} {d : D} {xs : List D} {v1 v2 : V} {q : D → Prop} {Q : VK} (hk : Wk wl H) (r1 : Rp K wl H d v1) (r2 : Rp K wl H (.tup xs) v2 ∨ Rp K wl H (.lst xs) v2) (f1 : flat d = true) (f2 : xs.all flat = true)
    (g : q (.bl (if neg then !(xs.any fun y => feq y d) else xs.any fun y => feq y d))) (hq : ∀ d v H', Ext wl H H' → Rp K wl H' d v → q d → Q v H') : rIn K neg v1 v2 H Q := by
  rcases r2 with ⟨a, vs, rfl, s, r⟩ | ⟨a, vs, rfl, n, s, r⟩
  · refine ⟨a, vs, rfl, .inr s, flat_V f1 r1, flat_all f2 r, ?_⟩
    rw [inV_eq f1 r1 f2 r]
    exact hq (.bl _) _ H (.refl hk) rfl g
  · refine ⟨a, vs, rfl, .inl (SqL.of s), flat_V f1 r1, flat_all f2 r, ?_⟩
    rw [inV_eq f1 r1 f2 r]
    exact hq (.bl _) _ H (.refl hk) rfl g
theorem in_ok : Cmp2 K (rInA K) (inG false) := by
  intro wl H d1 d2 v1 v2 q Q hk r1 r2 g hq
  cases d2 <;> (try (cases d1 <;> exact g.elim))
  case str b =>
    cases d1 <;> try exact g.elim
    case str a =>
      obtain ⟨c, rfl, g⟩ := g
      cases r1; cases r2
      exact .inl ⟨c, b, rfl, rfl, hq (.bl _) _ H (.refl hk) rfl g⟩
  case tup xs => cases d1 <;> exact .inr (in_seq hk r1 (.inl r2) g.1 g.2.1 g.2.2 hq)
  case lst xs => cases d1 <;> exact .inr (in_seq hk r1 (.inr r2) g.1 g.2.1 g.2.2 hq)
theorem ni_ok : Cmp2 K (rNiA K) (inG true) := by
  intro wl H d1 d2 v1 v2 q Q hk r1 r2 g hq
  cases d2 <;> (try (cases d1 <;> exact g.elim))
  case str b =>
    cases d1 <;> try exact g.elim
    case str a =>
      obtain ⟨c, rfl, g⟩ := g
      cases r1; cases r2
      exact .inl ⟨c, b, rfl, rfl, hq (.bl _) _ H (.refl hk) rfl g⟩
  case tup xs => cases d1 <;> exact .inr (in_seq hk r1 (.inl r2) g.1 g.2.1 g.2.2 hq)
  case lst xs => cases d1 <;> exact .inr (in_seq hk r1 (.inr r2) g.1 g.2.1 g.2.2 hq)

/-! ### is -/
def isNon : D → Bool
  | .non => true
  | _ => false
theorem isNon_V {wl : Wd} {H : Hp} : ∀ {d : D} {v : V}, Rp K wl H d v → decide (v = V.non) = isNon d
  | .non, _, r => by cases r; rfl
  | .bl _, _, r => by cases r; rfl
  | .int _, _, r => by cases r; rfl
  | .str _, _, r => by cases r; rfl
  | .tup _, _, ⟨a, vs, e, _⟩ => by subst e; rfl
  | .lst _, _, ⟨a, vs, e, _⟩ => by subst e; rfl
  | .well, _, ⟨a, _, e⟩ => by subst e; rfl
  | .ty _, _, r => by cases r; rfl
  | .scr _, _, ⟨a, e, _⟩ => by subst e; rfl
def isG (neg : Bool) : PG2
  | d, .non, q => q (.bl (if neg then !isNon d else isNon d))
  | .bl a, .bl b, q => q (.bl (if neg then !decide (a = b) else decide (a = b)))
  | _, _, _ => False
def rIsA : R2 := fun x y H Q => (fun (x y : V) H (Q : VK) => y = .non ∧ Q (.bl (decide (x = .non))) H) x y H Q ∨ rIsB x y H Q
def rIsNA : R2 := fun x y H Q => (fun (x y : V) H (Q : VK) => y = .non ∧ Q (.bl (!decide (x = .non))) H) x y H Q ∨ rNotB x y H Q
theorem op_isA : OpR X (compareOp .Is) rIsA := op_isN.or op_isBl
theorem op_isNA : OpR X (compareOp .IsNot) rIsNA := op_notN.or op_notBl
theorem is_ok : Cmp2 K rIsA (isG false) := by
  intro wl H d1 d2 v1 v2 q Q hk r1 r2 g hq
  cases d2 <;> (try (cases d1 <;> exact g.elim))
  case non =>
    cases r2
    refine .inl ⟨rfl, ?_⟩
    rw [isNon_V r1]
    refine hq (.bl (isNon d1)) _ H (.refl hk) rfl ?_
    cases d1 <;> exact g
  case bl b =>
    cases d1 <;> try exact g.elim
    case bl a => cases r1; cases r2; exact .inr ⟨a, b, rfl, rfl, hq (.bl _) _ H (.refl hk) rfl g⟩
theorem isN_ok : Cmp2 K rIsNA (isG true) := by
  intro wl H d1 d2 v1 v2 q Q hk r1 r2 g hq
  cases d2 <;> (try (cases d1 <;> exact g.elim))
  case non =>
    cases r2
    refine .inl ⟨rfl, ?_⟩
    rw [isNon_V r1]
    refine hq (.bl (!isNon d1)) _ H (.refl hk) rfl ?_
    cases d1 <;> exact g
  case bl b =>
    cases d1 <;> try exact g.elim
    case bl a => cases r1; cases r2; exact .inr ⟨a, b, rfl, rfl, hq (.bl _) _ H (.refl hk) rfl g⟩

/-! ### items, slices -/
theorem atI_rp {wl : Wd} {H : Hp} {ds : List D} {vs : List V} {i : Int} {d : D} (r : RpL K wl H ds vs) (h : atI ds i = some d) : ∃ v, atI vs i = some v ∧ Rp K wl H d v := by
  unfold atI at h ⊢
  rw [r.length]
  cases e : ixN ds.length i with
  | none => rw [e] at h; cases h
  | some j =>
    rw [e] at h
    exact r.get h
def ixG : PG2
  | .tup xs, .int i, q => ∃ d, atI xs i = some d ∧ q d
  | .lst xs, .int i, q => ∃ d, atI xs i = some d ∧ q d
  | .str z, .int i, q => z.length ≤ LIM ∧ ∃ c, atI z.cps.toList i = some c ∧ q (.str ⟨#[c]⟩)
  | .scr ns, .int i, q => ∃ n, atI ns i = some n ∧ q (.int n)
  | .well, .int i, q => (i = 0 ∧ ∀ n : Int, 0 ≤ n → q (.int n)) ∨ (i = 1 ∧ ∀ n : Int, 0 ≤ n → n < 2147483648 → q (.int n)) ∨ (i = 2 ∧ ∀ n : Int, q (.int n))
  | _, _, _ => False
theorem atI_map {α β : Type} {f : α → β} {xs : List α} {i : Int} {x : α} (h : atI xs i = some x) : atI (xs.map f) i = some (f x) := by
  unfold atI at h ⊢
  rw [List.length_map]
  cases e : ixN xs.length i with
  | none => rw [e] at h; cases h
  | some j =>
    rw [e] at h
    show (xs.map f)[j]? = some (f x)
    rw [List.getElem?_map, show xs[j]? = some x from h]
    rfl
theorem ix_ok : Cmp2 K (rIx K) ixG := by
  intro wl H d1 d2 v1 v2 q Q hk r1 r2 g hq
  cases d2 <;> (try (cases d1 <;> exact g.elim))
  case int i =>
    cases r2
    cases d1 <;> try exact g.elim
    case tup xs =>
      obtain ⟨a, vs, rfl, s, r⟩ := r1
      obtain ⟨d, e, g⟩ := g
      obtain ⟨v, e1, rv⟩ := atI_rp r e
      exact .inr (.inl ⟨a, vs, i, v, rfl, rfl, s, e1, hq d v H (.refl hk) rv g⟩)
    case lst xs =>
      obtain ⟨a, vs, rfl, n, s, r⟩ := r1
      obtain ⟨d, e, g⟩ := g
      obtain ⟨v, e1, rv⟩ := atI_rp r e
      exact .inl ⟨a, vs, i, v, rfl, rfl, SqL.of s, e1, hq d v H (.refl hk) rv g⟩
    case str z =>
      cases r1
      obtain ⟨hl, c, e, g⟩ := g
      exact .inr (.inr ⟨z, i, c, rfl, rfl, lim_line hl, e, hq (.str ⟨#[c]⟩) _ H (.refl hk) rfl g⟩)
    case scr ns =>
      obtain ⟨a, rfl, s⟩ := r1
      obtain ⟨n, e, g⟩ := g
      exact .inl ⟨a, _, i, .int n, rfl, rfl, s.sq, atI_map e, hq (.int n) _ H (.refl hk) rfl g⟩
    case well =>
      obtain ⟨a, hw, rfl⟩ := r1
      obtain ⟨n0, n1, n2, e, h0, h1, h2⟩ := hk.well a hw
      rcases g with ⟨rfl, g⟩ | ⟨rfl, g⟩ | ⟨rfl, g⟩
      · exact .inl ⟨a, _, 0, .int n0, rfl, rfl, SqL.of e, rfl, hq (.int n0) _ H (.refl hk) rfl (g n0 h0)⟩
      · exact .inl ⟨a, _, 1, .int n1, rfl, rfl, SqL.of e, rfl, hq (.int n1) _ H (.refl hk) rfl (g n1 h1 h2)⟩
      · exact .inl ⟨a, _, 2, .int n2, rfl, rfl, SqL.of e, rfl, hq (.int n2) _ H (.refl hk) rfl (g n2)⟩
def cutD (xs : List D) (lo hi : Option Int) : List D := (xs.drop (HT.sIx xs.length 0 lo)).take (HT.sIx xs.length xs.length hi - HT.sIx xs.length 0 lo)
theorem cut_rp {wl : Wd} {H : Hp} {ds : List D} {vs : List V} (r : RpL K wl H ds vs) (lo hi : Option Int) : RpL K wl H (cutD ds lo hi) (cutV vs lo hi) := by
  unfold cutD cutV
  rw [r.length]
  exact (r.drop _).take _
theorem cut_whole {ds : List D} {lo hi : Option Int} (h : HT.sIx ds.length 0 lo = 0 ∧ HT.sIx ds.length ds.length hi = ds.length) : cutD ds lo hi = ds := by
  unfold cutD
  rw [h.1, h.2]
  simp
def slG : D → Option Int → Option Int → (D → Prop) → Prop
  | .tup xs, lo, hi, q => q (.tup (cutD xs lo hi))
  | .lst xs, lo, hi, q => q (.lst (cutD xs lo hi))
  | .str z, lo, hi, q => z.length ≤ LIM ∧ q (.str (cutS z lo hi))
  | .scr ns, lo, hi, q => q (.lst (cutD (ns.map D.int) lo hi))
  | _, _, _, _ => False
theorem rp_of_ints {wl : Wd} {H : Hp} : ∀ ns : List Int, RpL K wl H (ns.map D.int) (ns.map V.int)
  | [] => rfl
  | n :: ns => ⟨.int n, _, rfl, rfl, rp_of_ints ns⟩
def rSlAll (K : PySem.W.Frag) : V → Option Int → Option Int → Hp → VK → Prop := fun x lo hi H Q => rSlA K x lo hi H Q ∨ rSlL K x lo hi H Q ∨ rSlS x lo hi H Q
theorem sl_all : SlR X (rSlAll X.K) := sl_tupA.or (sl_list.or sl_str)
theorem sl_ok {wl : Wd} {H : Hp} {d : D} {v : V} {lo hi : Option Int} {q : D → Prop} {Q : VK} (hk : Wk wl H) (r : Rp K wl H d v) (g : slG d lo hi q) (hq : ∀ d v H', Ext wl H H' → Rp K wl H' d v → q d → Q v H') : rSlAll K v lo hi H Q := by
  cases d <;> try exact g.elim
  case tup xs =>
    obtain ⟨a, vs, rfl, s, r⟩ := r
    refine .inl ⟨a, vs, rfl, s, fun h => ?_, fun _ p hp => ?_⟩
    · have g' : q (.tup (cutD xs lo hi)) := g
      rw [cut_whole (by rw [← r.length]; exact h)] at g'
      exact hq (.tup xs) _ H (.refl hk) ⟨a, vs, rfl, s, r⟩ g'
    · have e := Ext.new (o := .tup (cutV vs lo hi)) hk hp
      exact hq (.tup _) _ _ e ⟨p, _, rfl, SqT.of upd_same, cut_rp (RpL.ext hk e _ _ r) lo hi⟩ g
  case lst xs =>
    obtain ⟨a, vs, rfl, n, s, r⟩ := r
    refine .inr (.inl ⟨a, vs, rfl, SqL.of s, fun p hp => ?_⟩)
    have e := Ext.new (o := .lst (cutV vs lo hi)) hk hp
    refine hq (.lst _) _ _ e ⟨p, _, rfl, hk.new hp, upd_same, cut_rp (RpL.ext hk e _ _ r) lo hi⟩ g
  case str z =>
    cases r
    exact .inr (.inr ⟨z, rfl, lim_line g.1, hq (.str _) _ H (.refl hk) rfl g.2⟩)
  case scr ns =>
    obtain ⟨a, rfl, s⟩ := r
    refine .inr (.inl ⟨a, _, rfl, s.sq, fun p hp => ?_⟩)
    have e := Ext.new (o := .lst (cutV (ns.map V.int) lo hi)) hk hp
    exact hq (.lst _) _ _ e ⟨p, _, rfl, hk.new hp, upd_same, cut_rp (rp_of_ints ns) lo hi⟩ g
/-- a part of a slice -/
abbrev PO' := Ev → (Option Int → Prop) → (Xn → Prop) → Prop
def eO (X : Cx) (W : WX) (f : PO') : TO := fun σ H Q => ∃ (wl : Wd) (ρ : Ev) (q : Option Int → Prop) (x : Xn → Prop), Wk wl H ∧ EvR X.K wl H ρ σ ∧ f ρ q x ∧ (∀ o H', Ext wl H H' → q o → Q o H') ∧ Out X W wl H σ x
def fNo : PO' := fun _ q _ => q none
def fPart (f : PX) : PO' := fun ρ q x => f ρ (fun d => ∃ i, d = .int i ∧ q (some i)) x
variable {W : WX}
theorem dp_none : PO X none (eO X W fNo) := ⟨fun pins s σ H Q I ⟨wl, ρ, q, x, hk, he, hf, hq, hx⟩ => po_none.run pins s σ H Q I (hq none H (.refl hk) hf)⟩
theorem dp_some {e : Expr} {f : PX} (h : PE X e (eE X W f)) : PO X (some e) (eO X W (fPart f)) := ⟨fun pins s σ H Q I ⟨wl, ρ, q, x, hk, he, hf, hq, hx⟩ =>
  (po_some h).run pins s σ H Q I ⟨wl, ρ, _, x, hk, he, hf, fun d v H' e' r' ⟨i, ed, h'⟩ => by
    subst ed
    exact ⟨i, r', hq _ H' e' h'⟩, hx⟩⟩
def fSl (fe : PX) (fl fh : PO') : PX := fun ρ q x => fe ρ (fun d => fl ρ (fun l => fh ρ (fun h => slG d l h q) x) x) x
theorem d_slice {e : Expr} {lo hi : Option Expr} {p2 pos : Pos} {fe : PX} {fl fh : PO'} (he : PE X e (eE X W fe)) (hl : PO X lo (eO X W fl)) (hh : PO X hi (eO X W fh)) : PE X (.Subscript e (.Slice lo hi none p2) pos) (eE X W (fSl fe fl fh)) := by
  refine PE.weak (pe_slice sl_all he hl hh) fun σ H Q ⟨wl, ρ, q, x, hk, hr, hf, hq, hx⟩ => ?_
  refine ⟨wl, ρ, _, x, hk, hr, hf, fun d v H1 e1 r1 h1 => ⟨wl, ρ, _, x, e1.wk, hr.ext hk e1, h1, fun l H2 e2 h2 => ⟨wl, ρ, _, x, e2.wk, hr.ext hk (e1.trans e2), h2, fun h H3 e3 h3 => ?_, hx.ext (e1.trans e2)⟩, hx.ext e1⟩, hx⟩
  exact sl_ok e3.wk (Rp.ext e1.wk (e2.trans e3) _ _ r1) h3 fun d v H4 e4 r4 => hq d v H4 ((e1.trans e2).trans e3 |>.trans e4) r4

/-! ### argument lists, displays -/
def fNil : PAx := fun _ q _ => q []
def fCons (fa : PX) (fr : PAx) : PAx := fun ρ q x => fa ρ (fun d => fr ρ (fun ds => q (d :: ds)) x) x
def fStar (fa : PX) (fr : PAx) : PAx := fun ρ q x => fa ρ (fun d => ∃ xs, (d = .tup xs ∨ d = .lst xs) ∧ fr ρ (fun ds => q (xs ++ ds)) x) x
theorem da_nil : PA X [] (eA X W fNil) := PA.weak pa_nil fun σ H Q ⟨wl, ρ, q, x, hk, he, hf, hq, hx⟩ => hq [] [] H (.refl hk) rfl hf
theorem da_cons {e : Expr} {es : List Expr} {fa : PX} {fr : PAx} (ha : PE X e (eE X W fa)) (hr : PA X es (eA X W fr)) (hs : starEach (e :: es) X.env = (false, eval e X.env) :: starEach es X.env := by rfl) : PA X (e :: es) (eA X W (fCons fa fr)) := by
  refine PA.weak (pa_cons ha hr hs) fun σ H Q ⟨wl, ρ, q, x, hk, he, hf, hq, hx⟩ => ?_
  refine ⟨wl, ρ, _, x, hk, he, hf, fun d v H1 e1 r1 h1 => ⟨wl, ρ, _, x, e1.wk, he.ext hk e1, h1, fun ds vs H2 e2 r2 h2 => ?_, hx.ext e1⟩, hx⟩
  exact hq (d :: ds) _ H2 (e1.trans e2) ⟨v, vs, rfl, Rp.ext e1.wk e2 _ _ r1, r2⟩ h2
theorem da_star {e : Expr} {es : List Expr} {p : Pos} {fa : PX} {fr : PAx} (ha : PE X e (eE X W fa)) (hr : PA X es (eA X W fr)) (hs : starEach (.Starred e p :: es) X.env = (true, eval e X.env) :: starEach es X.env := by rfl) : PA X (.Starred e p :: es) (eA X W (fStar fa fr)) := by
  refine PA.weak (StX.pa_star ha hr hs) fun σ H Q ⟨wl, ρ, q, x, hk, he, hf, hq, hx⟩ => ?_
  refine ⟨wl, ρ, _, x, hk, he, hf, fun d v H1 e1 r1 ⟨xs, hd, h1⟩ => ?_, hx⟩
  have go : ∀ {vs : List V}, RpL X.K wl H1 xs vs → (eA X W fr) σ H1 (fun ys H2 => Q (vs ++ ys) H2) := fun {vs} rv =>
    ⟨wl, ρ, _, x, e1.wk, he.ext hk e1, h1, fun ds us H2 e2 r2 h2 => hq _ _ H2 (e1.trans e2) ((RpL.ext e1.wk e2 _ _ rv).append r2) h2, hx.ext e1⟩
  rcases hd with rfl | rfl
  · obtain ⟨a, vs, rfl, s, rv⟩ := r1
    exact ⟨a, vs, rfl, .inl s, go rv⟩
  · obtain ⟨a, vs, rfl, n, s, rv⟩ := r1
    exact ⟨a, vs, rfl, .inr (SqL.of s), go rv⟩
def fTup (fa : PAx) : PX := fun ρ q x => fa ρ (fun ds => ds.length ≤ LIM ∧ q (.tup ds)) x
def fLst (fa : PAx) : PX := fun ρ q x => fa ρ (fun ds => ds.length ≤ LIM ∧ q (.lst ds)) x
theorem new_lst {wl : Wd} {H : Hp} {p : Addr} {ds : List D} {vs : List V} (hk : Wk wl H) (hp : H p = none) (r : RpL K wl H ds vs) : Ext wl H (upd H p (.lst vs)) ∧ Rp K wl (upd H p (.lst vs)) (.lst ds) (.ref p) := by
  have e := Ext.new (o := .lst vs) hk hp
  exact ⟨e, p, vs, rfl, hk.new hp, upd_same, RpL.ext hk e _ _ r⟩
theorem new_tup {wl : Wd} {H : Hp} {p : Addr} {ds : List D} {vs : List V} (hk : Wk wl H) (hp : H p = none) (r : RpL K wl H ds vs) : Ext wl H (upd H p (.tup vs)) ∧ Rp K wl (upd H p (.tup vs)) (.tup ds) (.ref p) :=
  have e := Ext.new (o := .tup vs) hk hp
  ⟨e, p, vs, rfl, SqT.of upd_same, RpL.ext hk e _ _ r⟩
theorem d_tup {es : List Expr} {k : Nat} {pos : Pos} {fa : PAx} (ha : PA X es (eA X W fa)) : PE X (.Tuple es k pos) (eE X W (fTup fa)) := by
  refine PE.weak (pe_tup ha) fun σ H Q ⟨wl, ρ, q, x, hk, he, hf, hq, hx⟩ => ?_
  refine ⟨wl, ρ, _, x, hk, he, hf, fun ds vs H1 e1 r1 ⟨hl, h1⟩ => ⟨lim_line (by rw [r1.length]; exact hl), fun p hp => ?_⟩, hx⟩
  obtain ⟨e, r⟩ := new_tup e1.wk hp r1
  exact hq _ _ _ (e1.trans e) r h1
theorem d_lst {es : List Expr} {pos : Pos} {fa : PAx} (ha : PA X es (eA X W fa)) : PE X (.List es pos) (eE X W (fLst fa)) := by
  refine PE.weak (pe_lst ha) fun σ H Q ⟨wl, ρ, q, x, hk, he, hf, hq, hx⟩ => ?_
  refine ⟨wl, ρ, _, x, hk, he, hf, fun ds vs H1 e1 r1 ⟨hl, h1⟩ => ⟨lim_line (by rw [r1.length]; exact hl), fun p hp => ?_⟩, hx⟩
  obtain ⟨e, r⟩ := new_lst e1.wk hp r1
  exact hq _ _ _ (e1.trans e) r h1
end
end PL

namespace PL
open PySem PySem.Spec L2

section
variable {X : Cx} {K : PySem.W.Frag} {W : WX}
/-! # built-in functions -/
abbrev PGc := List D → (D → Prop) → Prop
def CmpC (K : PySem.W.Frag) (r : List V → Hp → VK → Prop) (g : PGc) : Prop := ∀ wl H ds vs q Q, Wk wl H → RpL K wl H ds vs → g ds q → (∀ d v H', Ext wl H H' → Rp K wl H' d v → q d → Q v H') → r vs H Q
def fCB (g : PGc) (fa : PAx) : PX := fun ρ q x => fa ρ (fun ds => g ds q) x
theorem cb_weak {r : List V → Hp → VK → Prop} {g : PGc} (c : CmpC X.K r g) {fa : PAx} {σ : St} {H : Hp} {Q : VK} (h : eE X W (fCB g fa) σ H Q) : tCB r (eA X W fa) σ H Q := by
  obtain ⟨wl, ρ, q, x, hk, he, hf, hq, hx⟩ := h
  exact ⟨wl, ρ, _, x, hk, he, hf, fun ds vs H1 e1 r1 h1 => c wl H1 ds vs q Q e1.wk r1 h1 fun d v H' e2 r2 => hq d v H' (e1.trans e2) r2, hx⟩
theorem d_callB {id : String} {r : List V → Hp → VK → Prop} {g : PGc} {x : Str} {e : Expr} {es : List Expr} {fa : PAx} {p pos : Pos} (hc : CallR X (.builtin id) r) (k : CmpC X.K r g) (hg : Gl X x) (hm : X.mg x = none) (hv : bootBuiltins x = some (.builtin id)) (ha : PA X (e :: es) (eA X W fa)) (hn : x ≠ "__name__" := by decide)
    (hdb : (x == ("__debug__" : Str)) = false := by decide) (he : starEach (e :: es) X.env = (false, eval e X.env) :: starEach es X.env := by rfl) (hpl : (backTo pos (starEach es X.env)).any (·.1) = false := by rfl) : PE X (.Call (.Name x p) (e :: es) [] pos) (eE X W (fCB g fa)) :=
  PE.weak (pe_callB hc hg hm hv ha hn hdb he hpl) fun _ _ _ h => cb_weak k h
theorem d_callT {T : String} {r : List V → Hp → VK → Prop} {g : PGc} {x : Str} {e : Expr} {es : List Expr} {fa : PAx} {p pos : Pos} (hc : CallR X (.type T) r) (k : CmpC X.K r g) (hg : Gl X x) (hm : X.mg x = none) (hv : bootBuiltins x = some (.type T)) (ha : PA X (e :: es) (eA X W fa)) (hn : x ≠ "__name__" := by decide)
    (hdb : (x == ("__debug__" : Str)) = false := by decide) (he : starEach (e :: es) X.env = (false, eval e X.env) :: starEach es X.env := by rfl) (hpl : (backTo pos (starEach es X.env)).any (·.1) = false := by rfl) : PE X (.Call (.Name x p) (e :: es) [] pos) (eE X W (fCB g fa)) :=
  PE.weak (pe_callTy hc hg hm hv ha hn hdb he hpl) fun _ _ _ h => cb_weak k h

/-! ### len, tuple, list -/
def lenG : PGc
  | [.tup xs], q => q (.int xs.length)
  | [.lst xs], q => q (.int xs.length)
  | [.str z], q => z.length ≤ LIM ∧ q (.int z.length)
  | [.scr ns], q => q (.int ns.length)
  | _, _ => False
def rLenA (K : PySem.W.Frag) : List V → Hp → VK → Prop := fun vs H Q => (fun (xs : List V) H (Q : VK) => ∃ p ys, xs = [.ref p] ∧ (SqL K H p ys ∨ SqT K H p ys) ∧ Q (.int ys.length) H) vs H Q ∨ (fun (xs : List V) H (Q : VK) => ∃ z, xs = [.str z] ∧ z.length ≤ sizeLine ∧ Q (.int z.length) H) vs H Q
theorem c_len : CallR X (.builtin "len") (rLenA X.K) := call_len_seq.or call_len_str
theorem len_ok : CmpC K (rLenA K) lenG := by
  intro wl H ds vs q Q hk r g hq
  rcases ds with _ | ⟨d, _ | ⟨d2, ds⟩⟩
  · exact g.elim
  · obtain ⟨v, t, rfl, r, r'⟩ := r
    cases r'
    cases d <;> try exact g.elim
    case str z => cases r; exact .inr ⟨z, rfl, lim_line g.1, hq (.int z.length) _ H (.refl hk) rfl g.2⟩
    case tup xs =>
      obtain ⟨a, us, rfl, s, r⟩ := r
      refine .inl ⟨a, us, rfl, .inr s, ?_⟩
      rw [r.length]
      exact hq (.int xs.length) _ H (.refl hk) rfl g
    case lst xs =>
      obtain ⟨a, us, rfl, n, s, r⟩ := r
      refine .inl ⟨a, us, rfl, .inl (SqL.of s), ?_⟩
      rw [r.length]
      exact hq (.int xs.length) _ H (.refl hk) rfl g
    case scr ns =>
      obtain ⟨a, rfl, s⟩ := r
      refine .inl ⟨a, _, rfl, .inl s.sq, ?_⟩
      rw [List.length_map]
      exact hq (.int ns.length) _ H (.refl hk) rfl g
  · cases d <;> exact g.elim
def tupleG : PGc
  | [.tup xs], q => q (.tup xs)
  | [.lst xs], q => q (.tup xs)
  | _, _ => False
def listG : PGc
  | [.tup xs], q => q (.lst xs)
  | [.lst xs], q => q (.lst xs)
  | _, _ => False
theorem tuple_ok : CmpC K (fun xs H Q => ∃ p ys, xs = [.ref p] ∧ ((SqL K H p ys ∧ ∀ l, H l = none → Q (.ref l) (upd H l (.tup ys))) ∨ (SqT K H p ys ∧ Q (.ref p) H))) tupleG := by
  intro wl H ds vs q Q hk r g hq
  rcases ds with _ | ⟨d, _ | ⟨d2, ds⟩⟩
  · exact g.elim
  · obtain ⟨v, t, rfl, r, r'⟩ := r
    cases r'
    cases d <;> try exact g.elim
    case tup xs =>
      obtain ⟨a, us, rfl, s, r⟩ := r
      exact ⟨a, us, rfl, .inr ⟨s, hq (.tup xs) _ H (.refl hk) ⟨a, us, rfl, s, r⟩ g⟩⟩
    case lst xs =>
      obtain ⟨a, us, rfl, n, s, r⟩ := r
      refine ⟨a, us, rfl, .inl ⟨SqL.of s, fun l hl => ?_⟩⟩
      obtain ⟨e, r2⟩ := new_tup hk hl r
      exact hq _ _ _ e r2 g
  · cases d <;> exact g.elim
theorem list_ok : CmpC K (fun xs H Q => ∃ p ys, xs = [.ref p] ∧ (SqL K H p ys ∨ SqT K H p ys) ∧ ∀ l, H l = none → Q (.ref l) (upd H l (.lst ys))) listG := by
  intro wl H ds vs q Q hk r g hq
  rcases ds with _ | ⟨d, _ | ⟨d2, ds⟩⟩
  · exact g.elim
  · obtain ⟨v, t, rfl, r, r'⟩ := r
    cases r'
    cases d <;> try exact g.elim
    case tup xs =>
      obtain ⟨a, us, rfl, s, r⟩ := r
      refine ⟨a, us, rfl, .inr s, fun l hl => ?_⟩
      obtain ⟨e, r2⟩ := new_lst hk hl r
      exact hq _ _ _ e r2 g
    case lst xs =>
      obtain ⟨a, us, rfl, n, s, r⟩ := r
      refine ⟨a, us, rfl, .inl (SqL.of s), fun l hl => ?_⟩
      obtain ⟨e, r2⟩ := new_lst hk hl r
      exact hq _ _ _ e r2 g
  · cases d <;> exact g.elim

/-! ### sum, all, any, min, max, abs, int -/
theorem rp_ints {wl : Wd} {H : Hp} : ∀ {ns : List Int} {vs : List V}, RpL K wl H (ns.map D.int) vs → vs = ns.map V.int
  | [], _, r => by cases r; rfl
  | n :: ns, _, ⟨v, t, e, r, q⟩ => by
    subst e
    cases r
    rw [rp_ints q]
    rfl
theorem rp_bls {wl : Wd} {H : Hp} : ∀ {ns : List Bool} {vs : List V}, RpL K wl H (ns.map D.bl) vs → vs = ns.map V.bl
  | [], _, r => by cases r; rfl
  | n :: ns, _, ⟨v, t, e, r, q⟩ => by
    subst e
    cases r
    rw [rp_bls q]
    rfl
def sumG : PGc
  | [.lst xs], q => ∃ ns : List Int, xs = ns.map D.int ∧ q (.int ns.sum)
  | _, _ => False
def allG : PGc
  | [.lst xs], q => ∃ bs : List Bool, xs = bs.map D.bl ∧ q (.bl (bs.all id))
  | _, _ => False
def anyG : PGc
  | [.lst xs], q => ∃ bs : List Bool, xs = bs.map D.bl ∧ q (.bl (bs.any id))
  | _, _ => False
theorem sum_ok : CmpC K (rSum K) sumG := by
  intro wl H ds vs q Q hk r g hq
  rcases ds with _ | ⟨d, _ | ⟨d2, ds⟩⟩
  · exact g.elim
  · obtain ⟨v, t, rfl, r, r'⟩ := r
    cases r'
    cases d <;> try exact g.elim
    case lst xs =>
      obtain ⟨a, us, rfl, n, s, r⟩ := r
      obtain ⟨ns, rfl, g⟩ := g
      have e := rp_ints r
      subst e
      exact ⟨a, ns, rfl, SqL.of s, hq (.int ns.sum) _ H (.refl hk) rfl g⟩
  · cases d <;> exact g.elim
theorem all_ok : CmpC K (rAll K) allG := by
  intro wl H ds vs q Q hk r g hq
  rcases ds with _ | ⟨d, _ | ⟨d2, ds⟩⟩
  · exact g.elim
  · obtain ⟨v, t, rfl, r, r'⟩ := r
    cases r'
    cases d <;> try exact g.elim
    case lst xs =>
      obtain ⟨a, us, rfl, n, s, r⟩ := r
      obtain ⟨ns, rfl, g⟩ := g
      have e := rp_bls r
      subst e
      exact ⟨a, ns, rfl, SqL.of s, hq (.bl (ns.all id)) _ H (.refl hk) rfl g⟩
  · cases d <;> exact g.elim
theorem any_ok : CmpC K (rAny K) anyG := by
  intro wl H ds vs q Q hk r g hq
  rcases ds with _ | ⟨d, _ | ⟨d2, ds⟩⟩
  · exact g.elim
  · obtain ⟨v, t, rfl, r, r'⟩ := r
    cases r'
    cases d <;> try exact g.elim
    case lst xs =>
      obtain ⟨a, us, rfl, n, s, r⟩ := r
      obtain ⟨ns, rfl, g⟩ := g
      have e := rp_bls r
      subst e
      exact ⟨a, ns, rfl, SqL.of s, hq (.bl (ns.any id)) _ H (.refl hk) rfl g⟩
  · cases d <;> exact g.elim
def int2G (f : Int → Int → Int) : PGc
  | [.int i, .int j], q => q (.int (f i j))
  | _, _ => False
theorem int2_ok {f : Int → Int → Int} : CmpC K (fun xs H Q => ∃ i j, xs = [.int i, .int j] ∧ Q (.int (f i j)) H) (int2G f) := by
  intro wl H ds vs q Q hk r g hq
  rcases ds with _ | ⟨d, _ | ⟨d2, _ | ⟨d3, ds⟩⟩⟩
  · exact g.elim
  · cases d <;> exact g.elim
  · obtain ⟨v, t, rfl, r, v2, t2, rfl, r2, r'⟩ := r
    cases r'
    cases d <;> cases d2 <;> try exact g.elim
    case int.int i j => cases r; cases r2; exact ⟨i, j, rfl, hq (.int (f i j)) _ H (.refl hk) rfl g⟩
  · cases d <;> cases d2 <;> exact g.elim
def minG : PGc := int2G fun i j => if j < i then j else i
def maxG : PGc := int2G fun i j => if j > i then j else i
def int1G (f : Int → Int) : PGc
  | [.int i], q => q (.int (f i))
  | _, _ => False
theorem int1_ok {f : Int → Int} : CmpC K (fun xs H Q => ∃ i, xs = [.int i] ∧ Q (.int (f i)) H) (int1G f) := by
  intro wl H ds vs q Q hk r g hq
  rcases ds with _ | ⟨d, _ | ⟨d2, ds⟩⟩
  · exact g.elim
  · obtain ⟨v, t, rfl, r, r'⟩ := r
    cases r'
    cases d <;> try exact g.elim
    case int i => cases r; exact ⟨i, rfl, hq (.int (f i)) _ H (.refl hk) rfl g⟩
  · cases d <;> exact g.elim
def absG : PGc := int1G fun i => if i < 0 then -i else i
def toIntG : PGc := int1G fun i => i
theorem toInt_ok : CmpC K (fun xs H Q => (∃ i, xs = [.int i] ∧ Q (.int i) H) ∨ ∃ k, xs = [.bl k] ∧ Q (.int (if k then 1 else 0)) H) toIntG := fun wl H ds vs q Q hk r g hq => .inl (int1_ok (f := fun i => i) wl H ds vs q Q hk r g hq)

/-- divmod, a positive divisor -/
def dmG : PGc
  | [.int i, .int j], q => CDiv i j ∧ q (.tup [.int (i / j), .int (i % j)])
  | _, _ => False
theorem dm_ok : CmpC K (fun xs H Q => ∃ i j, xs = [.int i, .int j] ∧ CDiv i j ∧ ∀ p, H p = none → Q (.ref p) (upd H p (.tup [.int (i / j), .int (i % j)]))) dmG := by
  intro wl H ds vs q Q hk r g hq
  rcases ds with _ | ⟨d, _ | ⟨d2, _ | ⟨d3, ds⟩⟩⟩
  · exact g.elim
  · cases d <;> exact g.elim
  · obtain ⟨v, t, rfl, r, v2, t2, rfl, r2, r'⟩ := r
    cases r'
    cases d <;> cases d2 <;> try exact g.elim
    case int.int i j =>
      cases r; cases r2
      refine ⟨i, j, rfl, g.1, fun p hp => ?_⟩
      obtain ⟨e, r3⟩ := new_tup (ds := [.int (i / j), .int (i % j)]) (vs := [.int (i / j), .int (i % j)]) hk hp ⟨_, _, rfl, rfl, _, _, rfl, rfl, rfl⟩
      exact hq _ _ _ e r3 g.2
  · cases d <;> cases d2 <;> exact g.elim
/-! ### isinstance -/
def tyOf : D → String
  | .non => "NoneType"
  | .bl _ => "bool"
  | .int _ => "int"
  | .str _ => "str"
  | .tup _ => "tuple"
  | .lst _ => "list"
  | .well => "list"
  | .ty _ => "type"
  | .scr _ => "script"
/-- the answers of isinstance for the kinds of data -/
def isiT (a T : String) : Bool := a == T || (a == "bool" && T == "int")
def kinds : List String := ["NoneType", "bool", "int", "str", "tuple", "list"]
theorem kit_tab : (kinds.all fun a => (["int", "bool", "str", "tuple", "list"] : List String).all fun T => decide (kitB a T = some (isiT a T))) = true := by decide +kernel
theorem kit_at {a T : String} (ha : a ∈ kinds) (hT : T ∈ (["int", "bool", "str", "tuple", "list"] : List String)) : kitB a T = some (isiT a T) := by
  have h := kit_tab
  rw [List.all_eq_true] at h
  have h2 := h a ha
  rw [List.all_eq_true] at h2
  exact of_decide_eq_true (h2 T hT)
def isiG : PGc
  | [d, .ty T], q => tyOf d ∈ kinds ∧ T ∈ (["int", "bool", "str", "tuple", "list"] : List String) ∧ q (.bl (isiT (tyOf d) T))
  | _, _ => False
theorem isi_ty {wl : Wd} {H : Hp} (hk : Wk wl H) : ∀ {d : D} {v : V}, tyOf d ∈ kinds → Rp K wl H d v → TyX K H v (.type (tyOf d))
  | .non, _, _, r => by cases r; exact .base .non
  | .bl b, _, _, r => by cases r; exact .base (.bl b)
  | .int i, _, _, r => by cases r; exact .base (.int i)
  | .str x, _, _, r => by cases r; exact .base (.str x)
  | .tup ds, _, _, ⟨a, vs, e, s, _⟩ => by
    subst e
    rcases s with (s | ⟨o, s⟩) | ⟨o, its, n, h1, h2, _⟩
    · exact .base (.tup s)
    · exact .fTuple s
    · exact .kTuple h1 h2
  | .lst ds, _, _, ⟨a, vs, e, n, s, _⟩ => by subst e; exact .base (.lst s)
  | .well, _, _, ⟨a, h, e⟩ => by
    subst e
    obtain ⟨i, j, k, s, _⟩ := hk.well a h
    exact .base (.lst s)
  | .ty n, _, g, _ => absurd g (by simp [tyOf, kinds])
  | .scr n, _, g, _ => absurd g (by simp [tyOf, kinds])
theorem isi_ok : CmpC K (rIsi K) isiG := by
  intro wl H ds vs q Q hk r g hq
  rcases ds with _ | ⟨d, _ | ⟨d2, _ | ⟨d3, ds⟩⟩⟩
  · exact g.elim
  · exact g.elim
  · obtain ⟨v, t, rfl, r, v2, t2, rfl, r2, r'⟩ := r
    cases r'
    cases d2 <;> try exact g.elim
    case ty T =>
      obtain ⟨h1, h2, g⟩ := g
      cases r2
      exact ⟨v, .ty T, .type (tyOf d), .type T, isiT (tyOf d) T, rfl, .ty T, isi_ty hk h1 r, kit_ty (kit_at h1 h2), hq (.bl _) _ H (.refl hk) rfl g⟩
  · cases d2 <;> exact g.elim

/-! ### repr: where no repr is under way -/
def shownD (d : D) : Str := (toPy d).shown
def reprG : PGc
  | [.lst xs], q => tame (.lst xs) ∧ q (.str (shownD (.lst xs)))
  | _, _ => False
def rRepr (K : PySem.W.Frag) : List V → Hp → VK → Prop := fun vs H Q => ∃ (a : Addr) (d : PyData), vs = [.ref a] ∧ Dp K H (.ref a) d ∧ d.showable = true ∧ d.hasDict = false ∧ d.depth ≤ 64 ∧ d.shown.length ≤ sizeLine ∧ Q (.str d.shown) H
theorem c_repr (hg : X.A.guards = some []) (hu : X.A.units + 200 < cLine) : CallR X (.builtin "repr") (rRepr X.K) := by
  intro pins s σ H vs us Q I r ⟨a, d, e, hd, h1, h2, h3, h4, q⟩
  subst e
  obtain ⟨u, rfl, ru⟩ := vals1 r
  obtain ⟨as, rd⟩ := Dp.reads I d _ u hd ru
  cases (show u = Value.ref a from ru)
  refine repr_of_reads' rd h1 (PyData.noDict_hsm h2) hg (by omega) (fun _ _ e => e) (fun h' u tk hk => ?_) h4
  exact ⟨.str d.shown, H, I.kept hk, ⟨u, rfl⟩, q⟩
theorem repr_ok : CmpC K (rRepr K) reprG := by
  intro wl H ds vs q Q hk r g hq
  rcases ds with _ | ⟨d, _ | ⟨d2, ds⟩⟩
  · exact g.elim
  · obtain ⟨v, t, rfl, r, r'⟩ := r
    cases r'
    cases d <;> try exact g.elim
    case lst xs =>
      obtain ⟨t, g⟩ := g
      have dp := Rp.dp (.lst xs) v t.nice.good r
      obtain ⟨a, us, rfl, n, s, r⟩ := r
      refine ⟨a, _, rfl, dp, t.nice.show_, PyData.hasDict_of_layable t.layable, by rw [dep_eq]; have := t.2; omega, ?_, hq (.str _) _ H (.refl hk) rfl g⟩
      have := PyProof.Rows.shown_le13 t.layable t.nice.short
      have e : (sizeLine : Nat) = 16777216 := sizeLine_eq
      omega
  · cases d <;> exact g.elim

/-! # tests -/
def tB' (fa : PX) : PB := fun ρ q x => fa ρ (fun d => ∃ b, d = .bl b ∧ q b) x
theorem test_weak {fa : PX} {σ : St} {H : Hp} {Q : Bool → Hp → Prop} (h : eB X W (tB' fa) σ H Q) : eE X W fa σ H (fun x H1 => ∃ c, x = .bl c ∧ Q c H1) := by
  obtain ⟨wl, ρ, q, x, hk, he, hf, hq, hx⟩ := h
  exact ⟨wl, ρ, _, x, hk, he, hf, fun d v H1 e1 r1 ⟨b, ed, h1⟩ => by
    subst ed
    exact ⟨b, r1, hq b H1 e1 h1⟩, hx⟩
theorem dt_val {e : Expr} {fa : PX} (h : PE X e (eE X W fa)) (he : ∀ whole, isTrue e X.env whole = (do let v ← whole; standAt e.pos; holding [v] (truthy v)) := by intro _; rfl) : PT X e (eB X W (tB' fa)) :=
  PT.weak (pt_val h he) fun _ _ _ h => test_weak h
theorem dt_cmp {op : CmpOp} {r : R2} {g : PG2} {a b : Expr} {fa fb : PX} {pos : Pos} (ho : OpR X (compareOp op) r) (c : Cmp2 X.K r g) (ha : PE X a (eE X W fa)) (hb : PE X b (eE X W fb)) (hm : behindInMarks op b = false) : PT X (.Compare a [op] [b] pos) (eB X W (tB' (fBin g fa fb))) := by
  refine PT.weak (pt_cmpR ho ha hb hm) fun σ H Q h => ?_
  exact bin_weak c (test_weak h)
theorem dt_chain {op op' : CmpOp} {r r' : R2} {g g' : PG2} {a b c : Expr} {fa fb fc : PX} {pos : Pos} (ho : OpR X (compareOp op) r) (ho' : OpR X (compareOp op') r') (k1 : Cmp2 X.K r g) (k2 : Cmp2 X.K r' g')
    (ha : PE X a (eE X W fa)) (hb : PE X b (eE X W fb)) (hc : PE X c (eE X W fc)) (hm : lastMarks [op, op'] [b, c] = false := by with_unfolding_all rfl) : PT X (.Compare a [op, op'] [b, c] pos) (eB X W (tB' (fChain g g' fa fb fc))) := by
  refine PT.weak (pt_chain ho ho' ha hb hc hm) fun σ H Q h => ?_
  exact chain_weak k1 k2 (test_weak h)
def tNot' (t : PB) : PB := fun ρ q x => t ρ (fun b => q (!b)) x
def tAnd' (t u : PB) : PB := fun ρ q x => t ρ (fun b => (b = true → u ρ q x) ∧ (b = false → q false)) x
def tOr' (t u : PB) : PB := fun ρ q x => t ρ (fun b => (b = true → q true) ∧ (b = false → u ρ q x)) x
theorem dt_not {a : Expr} {t : PB} {pos : Pos} (h : PT X a (eB X W t)) : PT X (.UnaryOp .Not a pos) (eB X W (tNot' t)) := by
  refine PT.weak (pt_not h) fun σ H Q ⟨wl, ρ, q, x, hk, he, hf, hq, hx⟩ => ?_
  exact ⟨wl, ρ, _, x, hk, he, hf, fun b H1 e1 h1 => hq _ H1 e1 h1, hx⟩
theorem dw_and1 {a : Expr} {t : PB} {pos : Pos} (h : PT X a (eB X W t)) : PW X (.BoolOp .And [a] pos) (eB X W t) := pw_and1 h
theorem dw_or1 {a : Expr} {t : PB} {pos : Pos} (h : PT X a (eB X W t)) : PW X (.BoolOp .Or [a] pos) (eB X W t) := pw_or1 h
theorem dw_and {a b : Expr} {rest : List Expr} {t u : PB} {pos : Pos} (h : PT X a (eB X W t)) (h2 : PW X (.BoolOp .And (b :: rest) pos) (eB X W u)) : PW X (.BoolOp .And (a :: b :: rest) pos) (eB X W (tAnd' t u)) := by
  refine PW.weak (pw_and h h2) fun σ H Q ⟨wl, ρ, q, x, hk, he, hf, hq, hx⟩ => ?_
  refine ⟨wl, ρ, _, x, hk, he, hf, fun b H1 e1 h1 => ?_, hx⟩
  cases b with
  | true => exact iteT ⟨wl, ρ, q, x, e1.wk, he.ext hk e1, h1.1 rfl, fun b H2 e2 => hq b H2 (e1.trans e2), hx.ext e1⟩
  | false => exact iteF (hq _ H1 e1 (h1.2 rfl))
theorem dw_or {a b : Expr} {rest : List Expr} {t u : PB} {pos : Pos} (h : PT X a (eB X W t)) (h2 : PW X (.BoolOp .Or (b :: rest) pos) (eB X W u)) : PW X (.BoolOp .Or (a :: b :: rest) pos) (eB X W (tOr' t u)) := by
  refine PW.weak (pw_or h h2) fun σ H Q ⟨wl, ρ, q, x, hk, he, hf, hq, hx⟩ => ?_
  refine ⟨wl, ρ, _, x, hk, he, hf, fun b H1 e1 h1 => ?_, hx⟩
  cases b with
  | true => exact iteT (hq _ H1 e1 (h1.1 rfl))
  | false => exact iteF ⟨wl, ρ, q, x, e1.wk, he.ext hk e1, h1.2 rfl, fun b H2 e2 => hq b H2 (e1.trans e2), hx.ext e1⟩
theorem dw_pt {a : Expr} {t : PB} (h : PW X a (eB X W t)) : PT X a (eB X W t) := h.pt
def fIf (t : PB) (fa fb : PX) : PX := fun ρ q x => t ρ (fun b => (b = true → fa ρ q x) ∧ (b = false → fb ρ q x)) x
theorem d_if {c a b : Expr} {t : PB} {fa fb : PX} {pos : Pos} (hc : PT X c (eB X W t)) (ha : PE X a (eE X W fa)) (hb : PE X b (eE X W fb)) : PE X (.IfExp c a b pos) (eE X W (fIf t fa fb)) := by
  refine PE.weak (pe_ifExp hc ha hb) fun σ H Q ⟨wl, ρ, q, x, hk, he, hf, hq, hx⟩ => ?_
  refine ⟨wl, ρ, _, x, hk, he, hf, fun b H1 e1 h1 => ?_, hx⟩
  cases b with
  | true => exact iteT ⟨wl, ρ, q, x, e1.wk, he.ext hk e1, h1.1 rfl, fun d v H2 e2 r2 => hq d v H2 (e1.trans e2) r2, hx.ext e1⟩
  | false => exact iteF ⟨wl, ρ, q, x, e1.wk, he.ext hk e1, h1.2 rfl, fun d v H2 e2 r2 => hq d v H2 (e1.trans e2) r2, hx.ext e1⟩

/-! # targets -/
inductive Tg where
  | nm (i : Nat)
  | tp (l : List Tg)
  | wl (o : Nat) (i : Nat)
mutual
def tgV (K : PySem.W.Frag) : Tg → TG
  | .nm i => gName i
  | .tp l => gTup K l.length (tgsV K l)
  | .wl o i => gSub (tVar o) (tC (.int i)) rSetL
def tgsV (K : PySem.W.Frag) : List Tg → TGs
  | [] => gNil
  | t :: l => gCons (tgV K t) (tgsV K l)
end
mutual
def tgE : Tg → D → Ev → (Ev → Prop) → Prop
  | .nm i, d, ρ, q => q (ρ.set i (some d))
  | .tp l, d, ρ, q => ∃ ds, d = .tup ds ∧ ds.length = l.length ∧ tgsE l ds ρ q
  | .wl o i, d, ρ, q => ρ[o]? = some (some .well) ∧ ∃ n : Int, d = .int n ∧ ((i = 0 ∧ 0 ≤ n) ∨ (i = 1 ∧ 0 ≤ n ∧ n < 2147483648) ∨ i = 2) ∧ q ρ
def tgsE : List Tg → List D → Ev → (Ev → Prop) → Prop
  | [], ds, ρ, q => ds = [] ∧ q ρ
  | t :: l, ds, ρ, q => ∃ d r, ds = d :: r ∧ tgE t d ρ fun ρ' => tgsE l r ρ' q
end
mutual
def slots : Tg → List Nat
  | .nm i => [i]
  | .tp l => slotsL l
  | .wl _ _ => []
def slotsL : List Tg → List Nat
  | [] => []
  | t :: l => slots t ++ slotsL l
end
theorem wipe_set {σ : St} {i : Nat} {y : Option V} : ∀ {vs : List Nat}, i ∈ vs → wipe (σ.set i y) vs = wipe σ vs
  | v :: vs, h => by
    unfold wipe
    by_cases hv : i ∈ vs
    · rw [wipe_set hv]
    · have e : v = i := by
        rcases List.mem_cons.mp h with q | q
        · exact q.symm
        · exact absurd q hv
      subst e
      have com : ∀ (us : List Nat) (τ : St), v ∉ us → wipe (τ.set v y) us = (wipe τ us).set v y := by
        intro us
        induction us with
        | nil => intro τ _; rfl
        | cons u us ih =>
          intro τ hn
          have h1 : v ≠ u := fun q => hn (by rw [q]; exact List.mem_cons_self ..)
          have h2 : v ∉ us := fun q => hn (List.mem_cons_of_mem _ q)
          show (wipe (τ.set v y) us).set u none = ((wipe τ us).set u none).set v y
          rw [ih τ h2, List.set_comm _ _ h1]
      rw [com vs σ hv, List.set_set]
mutual
theorem tgV_mono : ∀ (t : Tg) (v : V) (σ : St) (H : Hp) (Q Q' : St → Hp → Prop), (∀ σ2 H2, Q σ2 H2 → Q' σ2 H2) → tgV K t v σ H Q → tgV K t v σ H Q'
  | .nm i, v, σ, H, Q, Q', m, h => m _ _ h
  | .tp l, v, σ, H, Q, Q', m, ⟨a, xs, e, s, hl, h⟩ => ⟨a, xs, e, s, hl, tgsV_mono l xs σ H Q Q' m h⟩
  | .wl o i, v, σ, H, Q, Q', m, ⟨u, hu, p, xs, k, j, e1, e2, e3, e4, h⟩ => ⟨u, hu, p, xs, k, j, e1, e2, e3, e4, m _ _ h⟩
theorem tgsV_mono : ∀ (l : List Tg) (vs : List V) (σ : St) (H : Hp) (Q Q' : St → Hp → Prop), (∀ σ2 H2, Q σ2 H2 → Q' σ2 H2) → tgsV K l vs σ H Q → tgsV K l vs σ H Q'
  | [], vs, σ, H, Q, Q', m, ⟨e, h⟩ => ⟨e, m _ _ h⟩
  | t :: l, vs, σ, H, Q, Q', m, ⟨v, r, e, h⟩ => ⟨v, r, e, tgV_mono t v σ H _ _ (fun σ2 H2 h2 => tgsV_mono l r σ2 H2 Q Q' m h2) h⟩
end
/-- the well is written -/
theorem well_set {wl : Wd} {H : Hp} {a : Addr} {n0 n1 n2 : Int} (hk : Wk wl H) (hw : wl.wl = some a) (h0 : 0 ≤ n0) (h1 : 0 ≤ n1) (h2 : n1 < 2147483648) : Ext wl H (upd H a (.lst [.int n0, .int n1, .int n2])) := by
  refine ⟨fun b o nb e => ?_, fun b hb => ?_, fun b hb => ?_⟩
  · rw [upd_ne (fun z => nb (by rw [hw, z]))]; exact e
  · obtain rfl : a = b := by rw [hw] at hb; exact Option.some.inj hb
    exact ⟨n0, n1, n2, upd_same, h0, h1, h2⟩
  · by_cases z : b = a
    · exact ⟨_, by rw [z]; exact upd_same⟩
    · obtain ⟨vs, e⟩ := hk.hid b hb
      exact ⟨vs, by rw [upd_ne z]; exact e⟩
mutual
theorem tg_ok {wl : Wd} {own : List Nat} : ∀ (t : Tg) (d : D) (v : V) (ρ : Ev) (σ : St) (H : Hp) (q : Ev → Prop), (∀ i ∈ slots t, i ∈ own) → Wk wl H → EvR K wl H ρ σ → Rp K wl H d v → tgE t d ρ q → tgV K t v σ H fun σ2 H2 => Ext wl H H2 ∧ wipe σ2 own = wipe σ own ∧ ∃ ρ2, EvR K wl H2 ρ2 σ2 ∧ q ρ2
  | .nm i, d, v, ρ, σ, H, q, hs, hk, he, r, g => ⟨.refl hk, wipe_set (hs i (List.mem_cons_self ..)), _, he.set r i, g⟩
  | .tp l, d, v, ρ, σ, H, q, hs, hk, he, r, ⟨ds, e, hl, g⟩ => by
    subst e
    obtain ⟨a, vs, rfl, s, r⟩ := r
    exact ⟨a, vs, rfl, s, r.length.trans hl, tgs_ok l ds vs ρ σ H q hs hk he r g⟩
  | .wl o i, d, v, ρ, σ, H, q, hs, hk, he, r, ⟨ho, n, e, hn, g⟩ => by
    subst e
    cases r
    obtain ⟨u, hu, a, hw, rfl⟩ := he.at_ o .well ho
    obtain ⟨n0, n1, n2, ea, h0, h1, h2⟩ := hk.well a hw
    rcases hn with ⟨rfl, hn⟩ | ⟨rfl, hn, hn2⟩ | rfl
    · have x := well_set (n0 := n) (n1 := n1) (n2 := n2) hk hw hn h1 h2
      exact ⟨.ref a, hu, a, _, 0, 0, rfl, rfl, ea, rfl, x, rfl, ρ, he.ext hk x, g⟩
    · have x := well_set (n0 := n0) (n1 := n) (n2 := n2) hk hw h0 hn hn2
      exact ⟨.ref a, hu, a, _, 1, 1, rfl, rfl, ea, rfl, x, rfl, ρ, he.ext hk x, g⟩
    · have x := well_set (n0 := n0) (n1 := n1) (n2 := n) hk hw h0 h1 h2
      exact ⟨.ref a, hu, a, _, 2, 2, rfl, rfl, ea, rfl, x, rfl, ρ, he.ext hk x, g⟩
theorem tgs_ok {wl : Wd} {own : List Nat} : ∀ (l : List Tg) (ds : List D) (vs : List V) (ρ : Ev) (σ : St) (H : Hp) (q : Ev → Prop), (∀ i ∈ slotsL l, i ∈ own) → Wk wl H → EvR K wl H ρ σ → RpL K wl H ds vs → tgsE l ds ρ q → tgsV K l vs σ H fun σ2 H2 => Ext wl H H2 ∧ wipe σ2 own = wipe σ own ∧ ∃ ρ2, EvR K wl H2 ρ2 σ2 ∧ q ρ2
  | [], ds, vs, ρ, σ, H, q, hs, hk, he, r, ⟨e, g⟩ => by subst e; cases r; exact ⟨rfl, .refl hk, rfl, ρ, he, g⟩
  | t :: l, ds, vs, ρ, σ, H, q, hs, hk, he, r, ⟨d, dr, e, g⟩ => by
    subst e
    obtain ⟨v, vr, rfl, r1, r2⟩ := r
    refine ⟨v, vr, rfl, ?_⟩
    have h1 := tg_ok (own := own) t d v ρ σ H _ (fun i hi => hs i (by show i ∈ slots t ++ slotsL l; exact List.mem_append_left _ hi)) hk he r1 g
    refine tgV_mono t v σ H _ _ (fun σ2 H2 ⟨eH, ew, ρ2, he2, g2⟩ => ?_) h1
    refine tgsV_mono l vr σ2 H2 _ _ (fun σ3 H3 ⟨eH3, ew3, r3⟩ => ⟨eH.trans eH3, ew3.trans ew, r3⟩) (tgs_ok (own := own) l dr vr ρ2 σ2 H2 q (fun i hi => hs i (by show i ∈ slots t ++ slotsL l; exact List.mem_append_right _ hi)) eH.wk he2 (RpL.ext hk eH _ _ r2) g2)
end
theorem g_wl (o i : Nat) {x : Str} {j : Nat} {px pi pos : Pos} (hN : X.N[o]? = some x := by rfl) (hv : Vis X.env.scope x := by first | exact Or.inl rfl | exact Or.inr (Or.inl rfl) | exact Or.inr (Or.inr rfl)) (hd : (x == ("__debug__" : Str)) = false := by decide)
    (hcd : (x == ("__classdict__" : Str)) = false := by decide)
    (ha : ∀ v, assign (.Subscript (.Name x px) (.Constant (.int i) j pi) pos) X.env v = (do
      let ov ← holding [v] (eval (.Name x px) X.env)
      let iv ← holding [v, ov] (eval (.Constant (.int i) j pi) X.env)
      standAt pos
      holding [v, ov, iv] (setItem ov iv v)
      release [v, ov, iv] []) := by intro _; rfl) : PG X (.Subscript (.Name x px) (.Constant (.int i) j pi) pos) (tgV X.K (.wl o i)) := pg_sub (pe_var hN hv hd hcd) pe_int set_list ha
theorem g_nm (i : Nat) {x : Str} {pos : Pos} (hN : X.N.Nodup) (hi : X.N[i]? = some x) (hx : Loc X.env.scope x) (hf : X.fn x = true ∨ X.env.scope.names.lookup x = some .local := by first | exact .inl rfl | exact .inr rfl) : PG X (.Name x pos) (tgV X.K (.nm i)) := pg_name hN hi hx hf
theorem gs_nil : PGs X [] (tgsV X.K []) := pgs_nil
theorem gs_cons {e : Expr} {es : List Expr} {t : Tg} {l : List Tg} (h1 : PG X e (tgV X.K t)) (h2 : PGs X es (tgsV X.K l)) (hs : (assignEach (e :: es) X.env).map (·.2) = assign e X.env :: (assignEach es X.env).map (·.2) := by rfl) : PGs X (e :: es) (tgsV X.K (t :: l)) := pgs_cons h1 h2 hs
theorem g_tp {es : List Expr} {k : Nat} {l : List Tg} {pos : Pos} (hc : X.calm = true) (h : PGs X es (tgsV X.K l)) (hn : (assignEach es X.env).length = l.length := by rfl) (hst : (assignEach es X.env).findIdx? (·.1) = none := by rfl) : PG X (.Tuple es k pos) (tgV X.K (.tp l)) := pg_tup hc h hn hst
end
end PL

namespace PL
open PySem PySem.Spec L2

section
variable {X : Cx} {K : PySem.W.Frag} {W : WX}
/-! # statements -/
def sNil : PSt := fun P ρ => P.nx ρ
def sSeq (f g : PSt) : PSt := fun P ρ => f { P with nx := g P } ρ
theorem dss_nil : PSs X [] (eS X W sNil) := PSs.weak pss_nil fun En σ H ⟨wl, ρ, P, hk, he, h, r⟩ => r.nx ρ σ H (.refl hk) he h
theorem seq_weak {f g : PSt} {En : Ends} {σ : St} {H : Hp} (h : eS X W (sSeq f g) En σ H) : eS X W f { En with nx := eS X W g En } σ H := by
  obtain ⟨wl, ρ, P, hk, he, h, r⟩ := h
  exact ⟨wl, ρ, { P with nx := g P }, hk, he, h, ⟨fun ρ2 σ2 H2 e2 r2 h2 => ⟨wl, ρ2, P, e2.wk, r2, h2, r.ext e2⟩, r.rt, r.bk, r.ct, r.ex⟩⟩
theorem dss_cons {st : Stmt} {rest : List Stmt} {f g : PSt} (h1 : PS X st (eS X W f)) (h2 : PSs X rest (eS X W g)) : PSs X (st :: rest) (eS X W (sSeq f g)) := PSs.weak (pss_cons h1 h2) fun _ _ _ h => seq_weak h
theorem dss_one {st : Stmt} {f : PSt} (h1 : PS X st (eS X W f)) : PSs X [st] (eS X W f) := pss_one h1
def sBrk : PSt := fun P ρ => P.bk ρ
def sCnt : PSt := fun P ρ => P.ct ρ
theorem ds_brk {pos : Pos} : PS X (.Break pos) (eS X W sBrk) := PS.weak ps_break fun En σ H ⟨wl, ρ, P, hk, he, h, r⟩ => r.bk ρ σ H (.refl hk) he h
theorem ds_cnt {pos : Pos} : PS X (.Continue pos) (eS X W sCnt) := PS.weak ps_continue fun En σ H ⟨wl, ρ, P, hk, he, h, r⟩ => r.ct ρ σ H (.refl hk) he h
theorem ds_pass {pos : Pos} : PS X (.Pass pos) (eS X W sNil) := PS.weak ps_pass fun En σ H ⟨wl, ρ, P, hk, he, h, r⟩ => r.nx ρ σ H (.refl hk) he h
def sRet (f : PX) : PSt := fun P ρ => f ρ P.rt (P.ex ρ)
theorem ds_ret {e : Expr} {f : PX} {pos : Pos} (h : PE X e (eE X W f)) : PS X (.Return (some e) pos) (eS X W (sRet f)) :=
  PS.weak (ps_ret h) fun En σ H ⟨wl, ρ, P, hk, he, h, r⟩ => ⟨wl, ρ, P.rt, P.ex ρ, hk, he, h, r.rt, r.out hk he⟩
def sDrop (f : PX) : PSt := fun P ρ => f ρ (fun _ => P.nx ρ) (P.ex ρ)
theorem ds_expr {e : Expr} {f : PX} {pos : Pos} (h : PE X e (eE X W f)) (hs : swapsWith e none pos.line X.env = pure false := by rfl) : PS X (.Expr e pos) (eS X W (sDrop f)) :=
  PS.weak (ps_expr h hs) fun En σ H ⟨wl, ρ, P, hk, he, h, r⟩ => ⟨wl, ρ, _, P.ex ρ, hk, he, h, fun d v H1 e1 r1 h1 => r.nx ρ σ H1 e1 (he.ext hk e1) h1, r.out hk he⟩
def sIf (t : PB) (f g : PSt) : PSt := fun P ρ => t ρ (fun b => (b = true → f P ρ) ∧ (b = false → g P ρ)) (P.ex ρ)
theorem ds_if {c : Expr} {a b : List Stmt} {t : PB} {f g : PSt} {pos : Pos} (hc : PT X c (eB X W t)) (ha : PSs X a (eS X W f)) (hb : PSs X b (eS X W g)) : PS X (.If c a b pos) (eS X W (sIf t f g)) := by
  refine PS.weak (ps_if hc ha hb) fun En σ H ⟨wl, ρ, P, hk, he, h, r⟩ => ?_
  refine ⟨wl, ρ, _, P.ex ρ, hk, he, h, fun b H1 e1 h1 => ?_, r.out hk he⟩
  cases b with
  | true => exact iteT ⟨wl, ρ, P, e1.wk, he.ext hk e1, h1.1 rfl, r.ext e1⟩
  | false => exact iteF ⟨wl, ρ, P, e1.wk, he.ext hk e1, h1.2 rfl, r.ext e1⟩
/-- a way that is never gone -/
def sNever : PSt := fun _ _ => False
theorem ds_never {st : Stmt} : PS X st (eS X W sNever) := PS.weak ps_never fun _ _ _ ⟨_, _, _, _, _, h, _⟩ => h
def sSet (i : Nat) (f : PX) : PSt := fun P ρ => f ρ (fun d => P.nx (ρ.set i (some d))) (P.ex ρ)
theorem ds_set (i : Nat) {x : Str} {e : Expr} {f : PX} {pos pos' : Pos} (hN : X.N.Nodup) (hi : X.N[i]? = some x) (hx : Loc X.env.scope x) (he : PE X e (eE X W f)) (hs : swapsWith e (some (.Name x pos')) pos.line X.env = pure false := by rfl) (hf : X.fn x = true ∨ X.env.scope.names.lookup x = some .local := by first | exact .inl rfl | exact .inr rfl) :
    PS X (.Assign [.Name x pos'] e pos) (eS X W (sSet i f)) := by
  refine PS.weak (ps_set hN hi hx he hs hf) fun En σ H ⟨wl, ρ, P, hk, he, h, r⟩ => ?_
  exact ⟨wl, ρ, _, P.ex ρ, hk, he, h, fun d v H1 e1 r1 h1 => r.nx _ _ H1 e1 ((he.ext hk e1).set r1 i) h1, r.out hk he⟩
/-- a target of any form -/
def sAsg (t : Tg) (f : PX) : PSt := fun P ρ => f ρ (fun d => tgE t d ρ P.nx) (P.ex ρ)
theorem ds_asg {tg e : Expr} {t : Tg} {f : PX} {pos : Pos} (he : PE X e (eE X W f)) (hg : PG X tg (tgV X.K t)) (hs : swapsWithSole [tg] e pos.line X.env = pure false := by rfl) (hw : swappedStores [tg] e X.env = pure none := by rfl)
    (h1 : (assignEach [tg] X.env).map (·.2) = [assign tg X.env] := by rfl) : PS X (.Assign [tg] e pos) (eS X W (sAsg t f)) := by
  refine PS.weak (ps_asg he hg hs hw h1) fun En σ H ⟨wl, ρ, P, hk, he, h, r⟩ => ?_
  refine ⟨wl, ρ, _, P.ex ρ, hk, he, h, fun d v H1 e1 r1 h1 => ?_, r.out hk he⟩
  refine tgV_mono t v σ H1 _ _ (fun σ2 H2 ⟨eH, _, ρ2, he2, h2⟩ => ?_) (tg_ok (own := slots t) t d v ρ σ H1 P.nx (fun _ z => z) e1.wk (he.ext hk e1) r1 h1)
  exact r.nx ρ2 σ2 H2 (e1.trans eH) he2 h2
def sPar (i j : Nat) (f : PAx) : PSt := fun P ρ => f ρ (fun ds => ∃ a b, ds = [a, b] ∧ P.nx ((ρ.set i (some a)).set j (some b))) (P.ex ρ)
theorem ds_par {i j : Nat} {x y : Str} {a b : Expr} {f : PAx} {px py pt pos : Pos} {kt k2 pt2} (hc : X.calm = true) (hN : X.N.Nodup) (hi : X.N[i]? = some x) (hj : X.N[j]? = some y) (hij : i ≠ j)
    (hx : X.env.scope.names.lookup x = some .local) (hy : X.env.scope.names.lookup y = some .local) (ha : PA X [a, b] (eA X W f))
    (hw : swappedStores [.Tuple [.Name x px, .Name y py] kt pt] (.Tuple [a, b] k2 pt2) X.env = pure (some [x, y]) := by rfl)
    (hs : swapsWithSole [.Tuple [.Name x px, .Name y py] kt pt] (.Tuple [a, b] k2 pt2) pos.line X.env = pure false := by rfl) :
    PS X (.Assign [.Tuple [.Name x px, .Name y py] kt pt] (.Tuple [a, b] k2 pt2) pos) (eS X W (sPar i j f)) := by
  refine PS.weak (ps_par hc hN hi hj hij hx hy ha hw hs) fun En σ H ⟨wl, ρ, P, hk, he, h, r⟩ => ?_
  refine ⟨wl, ρ, _, P.ex ρ, hk, he, h, fun ds vs H1 e1 r1 ⟨a, b, ed, h1⟩ => ?_, r.out hk he⟩
  subst ed
  obtain ⟨v, t, rfl, ra, v2, t2, rfl, rb, e2⟩ := r1
  cases e2
  exact ⟨v, v2, rfl, r.nx _ _ H1 e1 (((he.ext hk e1).set ra i).set rb j) h1⟩

/-! # what is walked -/
def Feeds (K : PySem.W.Frag) (wl : Wd) (H0 : Hp) (J : It) (ds : List D) : Prop :=
  ∀ (ex : List Addr) (i : Nat) (H : Hp), (∀ a, a ∈ ex → H0 a = none) → Ext wl H0 H → (i < ds.length → J.go i H) ∧ (ds.length ≤ i → J.stop i H) ∧ (i < ds.length → ∀ x H', J.yld i H x H' → Ext wl H H' ∧ ∃ d, ds[i]? = some d ∧ Rp K (wl.hide ex) H' d x)
def eI (X : Cx) (W : WX) (f : PAx) : TI := fun σ H R => ∃ (wl : Wd) (ρ : Ev) (q : List D → Prop) (x : Xn → Prop), Wk wl H ∧ EvR X.K wl H ρ σ ∧ f ρ q x ∧ (∀ ds J H', Ext wl H H' → Feeds X.K wl H' J ds → q ds → R J H') ∧ Out X W wl H σ x
theorem PI.weak {tg e : Expr} {t t' : TI} (h : PI X tg e t) (w : ∀ σ H R, t' σ H R → t σ H R) : PI X tg e t' := ⟨fun pins s σ H R I q => h.run pins s σ H R I (w _ _ _ q)⟩
/-- a list, a tuple or a text, whichever it is -/
def iSeq (K : PySem.W.Frag) (tl : TE) : TI := fun σ H R => tl σ H fun x H1 => (∃ a, x = .ref a ∧ (∃ xs, SqL K H1 a xs) ∧ R (Itl K a) H1) ∨ (∃ a, x = .ref a ∧ (∃ xs, SqT K H1 a xs) ∧ R (Itt K a) H1) ∨ ∃ z, x = .str z ∧ R (Its z) H1
theorem pi_seq {tg l : Expr} {tl : TE} (hl : PE X l tl) : PI X tg l (iSeq X.K tl) := by
  refine ⟨fun pins s σ H R I h => thn (hl.run pins s σ H _ I h) fun v s1 ⟨x, H1, I1, r1, q1⟩ => ?_⟩
  rcases q1 with ⟨a, e, ⟨xs, hq⟩, q⟩ | ⟨a, e, ⟨xs, hq⟩, q⟩ | ⟨z, e, q⟩
  · subst e; cases r1
    obtain ⟨its, rv, p, hz⟩ := I1.list hq
    exact wpAny_pyIter_list p.isList (pi_one (tk := s1.toks) I1 _ (turn_list a _) ⟨_, Heap.get?_push_size _ rfl, rfl, rfl⟩ q)
  · subst e; cases r1
    obtain ⟨its, rv, p, hz⟩ := I1.tuple hq
    exact wpAny_pyIter_tuple (show s1.heap.IsTuple a its.toArray from p) (pi_one (tk := s1.toks) I1 _ (turn_tuple a _) ⟨_, Heap.get?_push_size _ rfl, rfl, rfl⟩ q)
  · subst e
    obtain ⟨t, rfl⟩ := r1
    cases ha : z.cps.all (· < 128)
    · exact PySem.wpAny_pyIter_wide ha (pi_one (tk := s1.toks) I1 _ (turn_str _ z t "str_iterator" (.inr rfl)) ⟨_, Heap.get?_push_size _ rfl, rfl, rfl⟩ q)
    · exact PySem.wpAny_pyIter_ascii ha (pi_one (tk := s1.toks) I1 _ (turn_str _ z t "str_ascii_iterator" (.inl rfl)) ⟨_, Heap.get?_push_size _ rfl, rfl, rfl⟩ q)
/-- the items of a datum -/
def signs (z : Str) : List D := z.cps.toList.map fun c => .str ⟨#[c]⟩
def itemsOf : D → Option (List D)
  | .tup xs => some xs
  | .lst xs => some xs
  | .str z => some (signs z)
  | .scr ns => some (ns.map D.int)
  | _ => none
def fItems (f : PX) : PAx := fun ρ q x => f ρ (fun d => ∃ ds, itemsOf d = some ds ∧ q ds) x
theorem feeds_lst {wl : Wd} {H : Hp} {a : Addr} {vs : List V} {ds : List D} (hk : Wk wl H) (n : wl.fr a) (s : H a = some (.lst vs)) (r : RpL K wl H ds vs) : Feeds K wl H (Itl K a) ds := by
  intro ex i H1 hex e
  have s1 : H1 a = some (.lst vs) := e.keep _ _ n.1 s
  have r1 := RpL.into hk hex e _ _ r
  refine ⟨fun hi => ?_, fun hi => ⟨vs, SqL.of s1, by rw [r.length]; exact hi⟩, fun _ x H' ⟨eH, y⟩ => ?_⟩
  · have hv : i < vs.length := by rw [r.length]; exact hi
    exact ⟨vs, vs[i], SqL.of s1, List.getElem?_eq_getElem hv⟩
  · subst eH
    obtain ⟨d, hd, rd⟩ := r1.getV (y vs (SqL.of s1))
    exact ⟨.refl e.wk, d, hd, rd⟩
theorem feeds_tup {wl : Wd} {H : Hp} {a : Addr} {vs : List V} {ds : List D} (hk : Wk wl H) (s : SqT K H a vs) (r : RpL K wl H ds vs) : Feeds K wl H (Itt K a) ds := by
  intro ex i H1 hex e
  have s1 := sqT_ext s hk e
  have r1 := RpL.into hk hex e _ _ r
  refine ⟨fun hi => ?_, fun hi => ⟨vs, s1, by rw [r.length]; exact hi⟩, fun _ x H' ⟨eH, y⟩ => ?_⟩
  · have hv : i < vs.length := by rw [r.length]; exact hi
    exact ⟨vs, vs[i], s1, List.getElem?_eq_getElem hv⟩
  · subst eH
    obtain ⟨d, hd, rd⟩ := r1.getV (y vs s1)
    exact ⟨.refl e.wk, d, hd, rd⟩
theorem feeds_scr {wl : Wd} {H : Hp} {a : Addr} {ns : List Int} (hk : Wk wl H) (s : ScrAt K H a ns) : Feeds K wl H (Itl K a) (ns.map D.int) := by
  intro ex i H1 hex e
  have s1 := s.ext hk e
  rw [List.length_map]
  refine ⟨fun hi => ⟨ns.map V.int, .int ns[i], s1.sq, ?_⟩, fun hi => ⟨ns.map V.int, s1.sq, by rw [List.length_map]; exact hi⟩, fun hi x H' ⟨eH, y⟩ => ?_⟩
  · rw [List.getElem?_map, List.getElem?_eq_getElem hi]; rfl
  · subst eH
    have z := y _ s1.sq
    rw [List.getElem?_map, List.getElem?_eq_getElem hi] at z
    cases z
    refine ⟨.refl e.wk, .int ns[i], ?_, rfl⟩
    rw [List.getElem?_map, List.getElem?_eq_getElem hi]
    rfl
theorem feeds_str {wl : Wd} {H : Hp} {z : Str} : Feeds K wl H (Its z) (signs z) := by
  intro ex i H1 hex e
  have hl : (signs z).length = z.cps.size := by unfold signs; rw [List.length_map, Array.length_toList]
  refine ⟨fun hi => by rw [hl] at hi; exact hi, fun hi => by rw [hl] at hi; exact hi, fun _ x H' ⟨eH, c, hc, ex⟩ => ?_⟩
  subst eH
  subst ex
  refine ⟨.refl e.wk, .str ⟨#[c]⟩, ?_, rfl⟩
  unfold signs
  rw [List.getElem?_map, Array.getElem?_toList, hc]
  rfl
theorem di_seq {tg l : Expr} {f : PX} (h : PE X l (eE X W f)) : PI X tg l (eI X W (fItems f)) := by
  refine PI.weak (pi_seq h) fun σ H R ⟨wl, ρ, q, x, hk, he, hf, hq, hx⟩ => ?_
  refine ⟨wl, ρ, _, x, hk, he, hf, fun d v H1 e1 r1 hd => ?_, hx⟩
  obtain ⟨ds, hd, h1⟩ := hd
  cases d <;> try (simp [itemsOf] at hd; done)
  case tup xs =>
    cases hd
    obtain ⟨a, vs, rfl, s, r⟩ := r1
    exact .inr (.inl ⟨a, rfl, ⟨vs, s⟩, hq _ _ H1 e1 (feeds_tup e1.wk s r) h1⟩)
  case lst xs =>
    cases hd
    obtain ⟨a, vs, rfl, n, s, r⟩ := r1
    exact .inl ⟨a, rfl, ⟨vs, SqL.of s⟩, hq _ _ H1 e1 (feeds_lst e1.wk n s r) h1⟩
  case str z =>
    cases hd
    cases r1
    exact .inr (.inr ⟨z, rfl, hq _ _ H1 e1 feeds_str h1⟩)
  case scr ns =>
    cases hd
    obtain ⟨a, rfl, s⟩ := r1
    exact .inl ⟨a, rfl, ⟨_, s.sq⟩, hq _ _ H1 e1 (feeds_scr e1.wk s) h1⟩
/-- range(n), range(a, b) -/
def rng (lo : Int) (n : Nat) : List D := (List.range n).map fun (i : Nat) => D.int (lo + (i : Int))
theorem rng_length {lo : Int} {n : Nat} : (rng lo n).length = n := by unfold rng; rw [List.length_map, List.length_range]
theorem feeds_rng {wl : Wd} {H : Hp} {lo : Int} {n : Nat} : Feeds K wl H (Itr lo n) (rng lo n) := by
  intro ex i H1 hex e
  refine ⟨fun hi => by rw [rng_length] at hi; exact hi, fun hi => by rw [rng_length] at hi; exact hi, fun hi x H' ⟨eH, ex⟩ => ?_⟩
  subst eH
  subst ex
  rw [rng_length] at hi
  refine ⟨.refl e.wk, .int (lo + i), ?_, rfl⟩
  unfold rng
  rw [List.getElem?_map, List.getElem?_range hi]
  rfl
def fRng1 (f : PAx) : PAx := fun ρ q x => f ρ (fun ds => ∃ j : Int, ds = [.int j] ∧ -(2 ^ 62) ≤ j ∧ j < 2 ^ 62 ∧ q (rng 0 j.toNat)) x
def fRng2 (f : PAx) : PAx := fun ρ q x => f ρ (fun ds => ∃ i j : Int, ds = [.int i, .int j] ∧ (-(2 ^ 62) ≤ i ∧ i < 2 ^ 62 ∧ -(2 ^ 62) ≤ j ∧ j < 2 ^ 62) ∧ q (rng i (j - i).toNat)) x
theorem di_rng1 {tg a : Expr} {f : PAx} {p pos : Pos} (hg : Gl X "range") (hm : X.mg "range" = none) (ha : PA X [a] (eA X W f)) (hs : starEach [a] X.env = [(false, eval a X.env)] := by rfl) : PI X tg (.Call (.Name "range" p) [a] [] pos) (eI X W (fRng1 f)) := by
  refine PI.weak (pi_range1 hg hm ha hs) fun σ H R ⟨wl, ρ, q, x, hk, he, hf, hq, hx⟩ => ?_
  refine ⟨wl, ρ, _, x, hk, he, hf, fun ds vs H1 e1 r1 ⟨j, ed, h1, h2, h3⟩ => ?_, hx⟩
  subst ed
  obtain ⟨v, t, rfl, rv, rt⟩ := r1
  cases rv; cases rt
  exact ⟨j, rfl, h1, h2, hq _ _ H1 e1 feeds_rng h3⟩
theorem di_rng2 {tg a b : Expr} {f : PAx} {p pos : Pos} (hg : Gl X "range") (hm : X.mg "range" = none) (ha : PA X [a, b] (eA X W f)) (hs : starEach [a, b] X.env = [(false, eval a X.env), (false, eval b X.env)] := by rfl) (hs2 : starEach [b] X.env = [(false, eval b X.env)] := by rfl) : PI X tg (.Call (.Name "range" p) [a, b] [] pos) (eI X W (fRng2 f)) := by
  refine PI.weak (pi_range2 hg hm ha hs hs2) fun σ H R ⟨wl, ρ, q, x, hk, he, hf, hq, hx⟩ => ?_
  refine ⟨wl, ρ, _, x, hk, he, hf, fun ds vs H1 e1 r1 ⟨i, j, ed, h1, h3⟩ => ?_, hx⟩
  subst ed
  obtain ⟨v, t, rfl, rv, v2, t2, rfl, rv2, rt⟩ := r1
  cases rv; cases rv2; cases rt
  exact ⟨i, j, rfl, h1, hq _ _ H1 e1 feeds_rng h3⟩
/-- zip of two lists, of two tuples; the target is written as a tuple -/
def pairs (xs ys : List D) : List D := (xs.zip ys).map fun p => .tup [p.1, p.2]
theorem pairs_length {xs ys : List D} : (pairs xs ys).length = min xs.length ys.length := by unfold pairs; rw [List.length_map, List.length_zip]
theorem pairs_get {xs ys : List D} {i : Nat} {a b : D} (h : xs[i]? = some a) (h2 : ys[i]? = some b) : (pairs xs ys)[i]? = some (.tup [a, b]) := by
  unfold pairs
  have e : (xs.zip ys)[i]? = some (a, b) := List.getElem?_zip_eq_some.mpr ⟨h, h2⟩
  rw [List.getElem?_map, e]
  rfl
theorem feeds_zipL {wl : Wd} {H : Hp} {a b : Addr} {vs us : List V} {xs ys : List D} (hk : Wk wl H) (n : wl.fr a) (n2 : wl.fr b) (s : H a = some (.lst vs)) (s2 : H b = some (.lst us)) (r : RpL K wl H xs vs) (r2 : RpL K wl H ys us) : Feeds K wl H (Itz K a b) (pairs xs ys) := by
  intro ex i H1 hex e
  have s' : H1 a = some (.lst vs) := e.keep _ _ n.1 s
  have s2' : H1 b = some (.lst us) := e.keep _ _ n2.1 s2
  have r' := RpL.into hk hex e _ _ r
  have r2' := RpL.into hk hex e _ _ r2
  have l1 := r.length
  have l2 := r2.length
  rw [pairs_length]
  refine ⟨fun hi => ?_, fun hi => ⟨vs, us, SqL.of s', SqL.of s2', by omega⟩, fun hi x H' y => ?_⟩
  · have h1 : i < vs.length := by omega
    have h2 : i < us.length := by omega
    exact ⟨vs, us, vs[i], us[i], SqL.of s', SqL.of s2', List.getElem?_eq_getElem h1, List.getElem?_eq_getElem h2⟩
  · obtain ⟨T, x1, x2, ex, nT, eH, f1, f2⟩ := y
    subst ex
    subst eH
    obtain ⟨d1, hd1, q1⟩ := r'.getV (f1 vs (SqL.of s'))
    obtain ⟨d2, hd2, q2⟩ := r2'.getV (f2 us (SqL.of s2'))
    refine ⟨Ext.new e.wk nT, .tup [d1, d2], pairs_get hd1 hd2, T, [x1, x2], rfl, SqT.of upd_same, ?_⟩
    exact RpL.grow nT [d1, d2] [x1, x2] ⟨x1, [x2], rfl, q1, x2, [], rfl, q2, rfl⟩
theorem feeds_zipT {wl : Wd} {H : Hp} {a b : Addr} {vs us : List V} {xs ys : List D} (hk : Wk wl H) (s : SqT K H a vs) (s2 : SqT K H b us) (r : RpL K wl H xs vs) (r2 : RpL K wl H ys us) : Feeds K wl H (RZ.ItzT K a b) (pairs xs ys) := by
  intro ex i H1 hex e
  have s' := sqT_ext s hk e
  have s2' := sqT_ext s2 hk e
  have r' := RpL.into hk hex e _ _ r
  have r2' := RpL.into hk hex e _ _ r2
  have l1 := r.length
  have l2 := r2.length
  rw [pairs_length]
  refine ⟨fun hi => ?_, fun hi => ⟨vs, us, s', s2', by omega⟩, fun hi x H' y => ?_⟩
  · have h1 : i < vs.length := by omega
    have h2 : i < us.length := by omega
    exact ⟨vs, us, vs[i], us[i], s', s2', List.getElem?_eq_getElem h1, List.getElem?_eq_getElem h2⟩
  · obtain ⟨T, x1, x2, ex, nT, eH, f1, f2⟩ := y
    subst ex
    subst eH
    obtain ⟨d1, hd1, q1⟩ := r'.getV (f1 vs s')
    obtain ⟨d2, hd2, q2⟩ := r2'.getV (f2 us s2')
    refine ⟨Ext.new e.wk nT, .tup [d1, d2], pairs_get hd1 hd2, T, [x1, x2], rfl, SqT.of upd_same, ?_⟩
    exact RpL.grow nT [d1, d2] [x1, x2] ⟨x1, [x2], rfl, q1, x2, [], rfl, q2, rfl⟩
def fZip (f : PAx) : PAx := fun ρ q x => f ρ (fun ds => ∃ xs ys, (ds = [.tup xs, .tup ys] ∨ ds = [.lst xs, .lst ys]) ∧ q (pairs xs ys)) x
theorem di_zip {e e2 : Expr} {f : PAx} {p pos tpos : Pos} {elts : List Expr} {kk : Nat} (hg : Gl X "zip") (hm : X.mg "zip" = none) (ha : PA X [e, e2] (eA X W f)) (hs : starEach [e, e2] X.env = (false, eval e X.env) :: starEach [e2] X.env := by rfl)
    (hpl : (backTo pos (starEach [e2] X.env)).any (·.1) = false := by rfl) : PI X (.Tuple elts kk tpos) (.Call (.Name "zip" p) [e, e2] [] pos) (eI X W (fZip f)) := by
  refine PI.weak (RZ.pi_zipA hg hm ha hs hpl) fun σ H R ⟨wl, ρ, q, x, hk, he, hf, hq, hx⟩ => ?_
  refine ⟨wl, ρ, _, x, hk, he, hf, fun ds vs H1 e1 r1 ⟨xs, ys, hd, h1⟩ => ?_, hx⟩
  rcases hd with rfl | rfl
  · obtain ⟨v, t, rfl, ⟨a, us, rfl, s, r⟩, v2, t2, rfl, ⟨b, us2, rfl, s2, r2⟩, rt⟩ := r1
    cases rt
    exact ⟨a, b, us, us2, rfl, .inr ⟨s, s2, hq _ _ H1 e1 (feeds_zipT e1.wk s s2 r r2) h1⟩⟩
  · obtain ⟨v, t, rfl, ⟨a, us, rfl, n, s, r⟩, v2, t2, rfl, ⟨b, us2, rfl, n2, s2, r2⟩, rt⟩ := r1
    cases rt
    exact ⟨a, b, us, us2, rfl, .inl ⟨SqL.of s, SqL.of s2, hq _ _ H1 e1 (feeds_zipL e1.wk n n2 s s2 r r2) h1⟩⟩

/-! # for -/
def fLoop (t : Tg) (b : PSt) (P : Pn) : List D → Ev → Prop
  | [], ρ => P.nx ρ
  | d :: ds, ρ => tgE t d ρ fun ρ' => b { P with nx := fLoop t b P ds, ct := fLoop t b P ds, bk := P.nx } ρ'
def sFor (f : PAx) (t : Tg) (b : PSt) : PSt := fun P ρ => f ρ (fun ds => fLoop t b P ds ρ) (P.ex ρ)
theorem ds_for {tg iter : Expr} {body : List Stmt} {f : PAx} {t : Tg} {b : PSt} {pos : Pos} (hp : PassesOwn (model X.prog X.w) X.A X.env X.xe) (hc : X.calm = true) (hi : PI X tg iter (eI X W f)) (hg : PG X tg (tgV X.K t)) (hb : PSs X body (eS X W b))
    (hs : ∀ x, foldedSetIterable iter X.env x = pure x := by intro _; rfl) : PS X (.For tg iter body [] pos) (eS X W (sFor f t b)) := by
  refine PS.weak (ps_for hp hc hi hg hb hs) fun En σ H ⟨wl, ρ, P, hk, he, h, r⟩ => ?_
  refine ⟨wl, ρ, _, P.ex ρ, hk, he, h, fun ds J H1 e1 F h1 => ?_, r.out hk he⟩
  refine ⟨fun i m σ' H' => m = ds.length - i ∧ i ≤ ds.length ∧ Ext wl H1 H' ∧ ∃ ρ', EvR X.K wl H' ρ' σ' ∧ fLoop t b P (ds.drop i) ρ', ⟨_, rfl, Nat.zero_le _, .refl e1.wk, ρ, he.ext hk e1, h1⟩, fun i m σ2 H2 hw => ?_⟩
  obtain ⟨em, hi2, e2, ρ2, he2, h2⟩ := hw
  obtain ⟨F1, F2, F3⟩ := F [] i H2 (fun _ z => absurd z (by simp)) e2
  by_cases hlt : i < ds.length
  · refine .inr ⟨F1 hlt, fun σ3 H3 => Ext wl H1 H3 ∧ ∃ ρ3, EvR X.K wl H3 ρ3 σ3 ∧ fLoop t b P (ds.drop (i + 1)) ρ3, fun σ3 H3 ⟨e3, ρ3, he3, h3⟩ => ⟨ds.length - (i + 1), by omega, rfl, hlt, e3, ρ3, he3, h3⟩, fun x H3 hy => ?_⟩
    obtain ⟨e3, d, hd, rd⟩ := F3 hlt x H3 hy
    rw [List.drop_eq_getElem_cons hlt] at h2
    obtain rfl : ds[i] = d := by rw [List.getElem?_eq_getElem hlt] at hd; exact Option.some.inj hd
    refine tgV_mono t x σ2 H3 _ _ (fun σ4 H4 ⟨eH, _, ρ4, he4, h4⟩ => ?_) (tg_ok (own := slots t) t ds[i] x ρ2 σ2 H3 _ (fun _ z => z) e3.wk (he2.ext e2.wk e3) (Rp.out _ _ rd) h2)
    have e13 := (e2.trans e3).trans eH
    refine ⟨wl, ρ4, _, e13.wk, he4, h4, ⟨fun ρ5 σ5 H5 e5 r5 h5 => ⟨e13.trans e5, ρ5, r5, h5⟩, fun d v H5 e5 => r.rt d v H5 (e1.trans (e13.trans e5)), fun ρ5 σ5 H5 e5 => r.nx ρ5 σ5 H5 (e1.trans (e13.trans e5)), fun ρ5 σ5 H5 e5 r5 h5 => ⟨e13.trans e5, ρ5, r5, h5⟩, fun ρ5 σ5 H5 en c dd e5 => r.ex ρ5 σ5 H5 en c dd (e1.trans (e13.trans e5))⟩⟩
  · have ei : i = ds.length := by omega
    subst ei
    rw [List.drop_length] at h2
    exact .inl ⟨F2 (Nat.le_refl _), r.nx ρ2 σ2 H2 (e1.trans e2) he2 h2⟩

/-! # while -/
def sWhile (c : PB) (b : PSt) : PSt := fun P ρ => ∃ I : Nat → Ev → Prop, (∃ m, I m ρ) ∧ ∀ m ρ, I m ρ → c ρ (fun t => (t = true → b { P with nx := fun ρ' => ∃ m', m' < m ∧ I m' ρ', ct := fun ρ' => ∃ m', m' < m ∧ I m' ρ', bk := P.nx } ρ) ∧ (t = false → P.nx ρ)) (P.ex ρ)
theorem ds_while {c : Expr} {body : List Stmt} {t : PB} {b : PSt} {pos : Pos} (hp : PassesOwn (model X.prog X.w) X.A X.env X.xe) (hc : PT X c (eB X W t)) (hb : PSs X body (eS X W b)) : PS X (.While c body [] pos) (eS X W (sWhile t b)) := by
  refine PS.weak (ps_while hp hc hb) fun En σ H ⟨wl, ρ, P, hk, he, ⟨I, ⟨m0, i0⟩, turn⟩, r⟩ => ?_
  refine ⟨fun m σ' H' => Ext wl H H' ∧ ∃ ρ', EvR X.K wl H' ρ' σ' ∧ I m ρ', ⟨m0, .refl hk, ρ, he, i0⟩, fun m σ1 H1 ⟨e1, ρ1, he1, i1⟩ => ?_⟩
  refine ⟨wl, ρ1, _, P.ex ρ1, e1.wk, he1, turn m ρ1 i1, fun tt H2 e2 h2 => ?_, (r.ext e1).out e1.wk he1⟩
  have e12 := e1.trans e2
  cases tt with
  | true =>
    refine iteT ⟨fun σ' H' => ∃ m', m' < m ∧ Ext wl H H' ∧ ∃ ρ', EvR X.K wl H' ρ' σ' ∧ I m' ρ', fun σ' H' z => z, ?_⟩
    refine ⟨wl, ρ1, _, e2.wk, he1.ext e1.wk e2, h2.1 rfl, ⟨fun ρ5 σ5 H5 e5 r5 ⟨m', hm, h5⟩ => ⟨m', hm, e12.trans e5, ρ5, r5, h5⟩, fun d v H5 e5 => r.rt d v H5 (e12.trans e5), fun ρ5 σ5 H5 e5 => r.nx ρ5 σ5 H5 (e12.trans e5), fun ρ5 σ5 H5 e5 r5 ⟨m', hm, h5⟩ => ⟨m', hm, e12.trans e5, ρ5, r5, h5⟩, fun ρ5 σ5 H5 en c dd e5 => r.ex ρ5 σ5 H5 en c dd (e12.trans e5)⟩⟩
  | false => exact iteF (r.nx ρ1 σ1 H2 e12 (he1.ext e1.wk e2) (h2.2 rfl))

/-! # list comprehensions -/
def tYes' : PB := fun _ q _ => q true
def fLcLoop (t : Tg) (c : PB) (f : PX) (own : List Nat) (ρ : Ev) (q : D → Prop) : List D → List D → Prop
  | [], acc => q (.lst acc)
  | d :: ds, acc => tgE t d (wipeE ρ own) fun ρ2 => c ρ2 (fun b => (b = true → f ρ2 (fun y => acc.length < LIM ∧ fLcLoop t c f own ρ q ds (acc ++ [y])) fun _ => False) ∧ (b = false → fLcLoop t c f own ρ q ds acc)) fun _ => False
def fLc (fi : PAx) (t : Tg) (c : PB) (f : PX) (own : List Nat) : PX := fun ρ q x => fi ρ (fun ds => fLcLoop t c f own ρ q ds []) x
/-- where nothing is let out -/
def W0 : WX := fun _ _ _ _ => False
theorem out0 {wl : Wd} {H : Hp} {σ : St} : Out X W0 wl H σ fun _ => False := fun _ _ _ _ _ _ h => h
theorem wipe_wipe {σ : St} {own : List Nat} : ∀ us : List Nat, (∀ i ∈ us, i ∈ own) → wipe (wipe σ us) own = wipe σ own
  | [], _ => rfl
  | v :: us, h => by
    show wipe ((wipe σ us).set v none) own = wipe σ own
    rw [wipe_set (h v (List.mem_cons_self ..)), wipe_wipe us fun i hi => h i (List.mem_cons_of_mem _ hi)]
theorem lc_weak {fi : PAx} {t : Tg} {c : PB} {f : PX} {own : List Nat} (hsl : ∀ i ∈ slots t, i ∈ own) {σ : St} {H : Hp} {Q : VK} (h : eE X W (fLc fi t c f own) σ H Q) : tLc (eI X W fi) (tgV X.K t) (eB X W0 c) (eE X W0 f) own σ H Q := by
  obtain ⟨wl, ρ, q, x, hk, he, hfi, hq, hx⟩ := h
  refine ⟨wl, ρ, _, x, hk, he, hfi, fun ds J H1 e1 F h1 Dl hD => ?_, hx⟩
  have fD : wl.fr Dl := e1.wk.new hD
  have hex : ∀ a, a ∈ [Dl] → H1 a = none := fun a ha => by
    have e : a = Dl := by simpa using ha
    rw [e]; exact hD
  have mD : (wl.hide [Dl]).hid Dl := .inl (List.mem_cons_self ..)
  -- where Dl holds a list, what stands apart stands
  have wkD : ∀ {H' : Hp} {vs : List V}, Wk wl H' → H' Dl = some (.lst vs) → Wk (wl.hide [Dl]) H' := fun {H' vs} k hv => ⟨k.well, fun a ha => by
    rcases ha with z | z
    · have e : a = Dl := by simpa using z
      rw [e]; exact ⟨vs, hv⟩
    · exact k.hid a z⟩
  refine ⟨fun i m H' => m = ds.length - i ∧ i ≤ ds.length ∧ Ext wl H1 H' ∧ ∃ acc vs, H' Dl = some (.lst vs) ∧ RpL X.K (wl.hide [Dl]) H' acc vs ∧ fLcLoop t c f own ρ q (ds.drop i) acc, ⟨_, rfl, Nat.zero_le _, Ext.new e1.wk hD, [], [], upd_same, rfl, h1⟩, fun i m H2 hw => ?_⟩
  obtain ⟨em, hi2, e2, acc, vs, hv2, ra, h2⟩ := hw
  obtain ⟨F1, F2, F3⟩ := F [Dl] i H2 hex e2
  by_cases hlt : i < ds.length
  · refine .inr ⟨F1 hlt, fun H3 => Ext wl H1 H3 ∧ ∃ acc vs, H3 Dl = some (.lst vs) ∧ RpL X.K (wl.hide [Dl]) H3 acc vs ∧ fLcLoop t c f own ρ q (ds.drop (i + 1)) acc, fun H3 ⟨e3, acc3, vs3, a3, b3, c3⟩ => ⟨ds.length - (i + 1), by omega, rfl, hlt, e3, acc3, vs3, a3, b3, c3⟩, fun x3 H3 hy => ?_⟩
    obtain ⟨e3, d, hd, rd⟩ := F3 hlt x3 H3 hy
    rw [List.drop_eq_getElem_cons hlt] at h2
    obtain rfl : ds[i] = d := by rw [List.getElem?_eq_getElem hlt] at hd; exact Option.some.inj hd
    have hv3 : H3 Dl = some (.lst vs) := e3.keep _ _ fD.1 hv2
    have k3 := wkD e3.wk hv3
    have he3 := ((he.ext hk e1).into e1.wk hex (e2.trans e3)).wiped own
    have ra3 := RpL.ext (wkD e2.wk hv2) ⟨e3.keep, k3⟩ _ _ ra
    refine tgV_mono t x3 (wipe σ own) H3 _ _ (fun σ4 H4 ⟨eH, ew, ρ4, he4, h4⟩ => ?_) (tg_ok (own := own) t ds[i] x3 (wipeE ρ own) (wipe σ own) H3 _ hsl k3 he3 rd h2)
    refine ⟨ew.trans (wipe_wipe own fun _ z => z), wl.hide [Dl], ρ4, _, _, eH.wk, he4, h4, fun b H5 e45 h5 => ?_, out0⟩
    have e5 := eH.trans e45
    have e35 : Ext wl H3 H5 := ⟨e5.keep, e5.wk.well, fun a ha => e5.wk.hid a (.inr ha)⟩
    have hv5 : H5 Dl = some (.lst vs) := e5.keep _ _ fD.1 hv3
    have ra5 := RpL.ext k3 e5 _ _ ra3
    cases b with
    | true =>
      refine iteT ⟨wl.hide [Dl], ρ4, _, _, e5.wk, he4.ext eH.wk e45, h5.1 rfl, fun y vy H6 e6 r6 ⟨hl, h6⟩ => ?_, out0⟩
      have hv6 : H6 Dl = some (.lst vs) := e6.keep _ _ fD.1 hv5
      have ra6 := RpL.ext e5.wk e6 _ _ ra5
      refine ⟨vs, hv6, lim_lt (by rw [ra6.length]; exact Nat.le_of_lt hl), ?_, acc ++ [y], vs ++ [vy], upd_same, RpL.write mD hv6 _ _ (ra6.append (RpL.one r6)), h6⟩
      have n1 : ∀ a o, H1 a = some o → a ≠ Dl := fun a o e z => by rw [z, hD] at e; cases e
      refine ⟨fun a o w' e => ?_, fun p hp => ?_, fun a ha => ?_⟩
      · rw [upd_ne (n1 a o e)]
        exact e6.keep _ _ w' (e5.keep _ _ w' (e3.keep _ _ w' (e2.keep _ _ w' e)))
      · obtain ⟨i1, j1, k1, z, zz⟩ := e6.wk.well p hp
        refine ⟨i1, j1, k1, ?_, zz⟩
        obtain ⟨_, _, _, z1, _⟩ := e1.wk.well p hp
        rw [upd_ne (n1 p _ z1)]; exact z
      · obtain ⟨us, z⟩ := e6.wk.hid a (.inr ha)
        obtain ⟨_, z1⟩ := e1.wk.hid a ha
        exact ⟨us, by rw [upd_ne (n1 a _ z1)]; exact z⟩
    | false => exact iteF ⟨(e2.trans e3).trans e35, acc, vs, hv5, ra5, h5.2 rfl⟩
  · have ei : i = ds.length := by omega
    subst ei
    rw [List.drop_length] at h2
    exact .inl ⟨F2 (Nat.le_refl _), hq (.lst acc) (.ref Dl) H2 (e1.trans e2) ⟨Dl, vs, rfl, fD, hv2, RpL.out _ _ ra⟩ h2⟩
theorem d_lc {elt tg iter : Expr} {ifs : List Expr} {scope : Scope} {own : List (Str × Nat)} {pos : Pos} {fi : PAx} {t : Tg} {c : PB} {f : PX} (hc : X.calm = true) (hN : X.N.Nodup) (hi : PI X tg iter (eI X W fi)) (ok : BlkOk X.N X.env.scope scope own)
    (hg : ∀ (s : Shared) (H : Hp) (C : Addr) (cl : List (Str × Addr)) (fp : List Addr), PG (X.blk s H scope (compEnvC scope cl C X.env) fp) tg (tgV (X.blk s H scope (compEnvC scope cl C X.env) fp).K t))
    (ht : ∀ (s : Shared) (H : Hp) (C : Addr) (cl : List (Str × Addr)) (fp : List Addr), PTs (X.blk s H scope (compEnvC scope cl C X.env) fp) ifs (eB (X.blk s H scope (compEnvC scope cl C X.env) fp) W0 c))
    (he : ∀ (s : Shared) (H : Hp) (C : Addr) (cl : List (Str × Addr)) (fp : List Addr), PE (X.blk s H scope (compEnvC scope cl C X.env) fp) elt (eE (X.blk s H scope (compEnvC scope cl C X.env) fp) W0 f)) (hsl : ∀ i ∈ slots t, i ∈ own.map (·.2) := by decide)
    (hs : ∀ x, foldedSetIterable iter X.env x = pure x := by intro _; rfl) : PE X (.ListComp elt [⟨tg, iter, ifs, 0⟩] scope pos) (eE X W (fLc fi t c f (own.map (·.2)))) :=
  PE.weak (pe_lc (g := tgV X.K t) (tt := eB X W0 c) (te := eE X W0 f) hc hN hi ok hg ht he hs) fun _ _ _ h => lc_weak hsl h
theorem ds_setLc {i : Nat} {y : Str} {py : Pos} {elt tg iter : Expr} {ifs : List Expr} {scope : Scope} {own : List (Str × Nat)} {pos spos : Pos} {fi : PAx} {t : Tg} {c : PB} {f : PX} (hc : X.calm = true) (hN : X.N.Nodup) (hy : X.N[i]? = some y) (hyl : X.env.scope.names.lookup y = some .local)
    (hsw : swapsWith (.ListComp elt [⟨tg, iter, ifs, 0⟩] scope pos) (some (.Name y py)) spos.line X.env = pure true) (hi : PI X tg iter (eI X W fi)) (ok : BlkOk X.N X.env.scope scope own)
    (hg : ∀ (s : Shared) (H : Hp) (C : Addr) (cl : List (Str × Addr)) (fp : List Addr), PG (X.blk s H scope (compEnvC scope cl C X.env) fp) tg (tgV (X.blk s H scope (compEnvC scope cl C X.env) fp).K t))
    (ht : ∀ (s : Shared) (H : Hp) (C : Addr) (cl : List (Str × Addr)) (fp : List Addr), PTs (X.blk s H scope (compEnvC scope cl C X.env) fp) ifs (eB (X.blk s H scope (compEnvC scope cl C X.env) fp) W0 c))
    (he : ∀ (s : Shared) (H : Hp) (C : Addr) (cl : List (Str × Addr)) (fp : List Addr), PE (X.blk s H scope (compEnvC scope cl C X.env) fp) elt (eE (X.blk s H scope (compEnvC scope cl C X.env) fp) W0 f)) (hsl : ∀ i ∈ slots t, i ∈ own.map (·.2) := by decide)
    (hs : ∀ x, foldedSetIterable iter X.env x = pure x := by intro _; rfl) : PS X (.Assign [.Name y py] (.ListComp elt [⟨tg, iter, ifs, 0⟩] scope pos) spos) (eS X W (sSet i (fLc fi t c f (own.map (·.2))))) := by
  refine PS.weak (ps_setLc (g := tgV X.K t) (tt := eB X W0 c) (te := eE X W0 f) hc hN hy hyl hsw hi ok hg ht he hs) fun En σ H ⟨wl, ρ, P, hk, he', h, r⟩ => ?_
  exact lc_weak hsl ⟨wl, ρ, _, P.ex ρ, hk, he', h, fun d v H1 e1 r1 h1 => r.nx _ _ H1 e1 ((he'.ext hk e1).set r1 i) h1, r.out hk he'⟩
theorem dts_nil : PTs X [] (eB X W tYes') := ⟨fun pins s σ H Q I ⟨wl, ρ, q, x, hk, he, hf, hq, hx⟩ => pts_nil.run pins s σ H Q I (hq true H (.refl hk) hf)⟩
theorem dts_one {c : Expr} {t : PB} (h : PT X c (eB X W t)) : PTs X [c] (eB X W t) := pts_one h
end
end PL

namespace PL
open PySem PySem.Spec L2
open PyProof.Rows (envOfC)

/-! # defs: a promise that knows that no repr is under way -/
structure FnOkG (P : Program) (w : World) (K : PySem.W.Frag) (mg : Str → Option Value) (base : Heap) (CX : CXT) (k : Nat) (f : Addr) (fd : FuncData) (ps : List Str) (sp : Sp) : Prop where
  len : ∀ vs H Q E, sp vs H Q E → vs.length = ps.length
  go : ∀ (A : Around) (outer : List Env) (s : Shared) (H : Hp) (args : Args) (us : List Value) (vs : List V) (Q : VK) (E : XK), A.guards = some [] → Room k A → Env0 P w K mg base A outer s H → BindsTo s fd args (ps.zip us) → Vals vs us → sp vs H Q E →
    codeAny (model P w) A (.call (.ref f) args) (CR CX outer P w H s Q E) s
section
variable {P : Program} {w : World} {K : PySem.W.Frag} {mg : Str → Option Value} {base : Heap} {CX : CXT} {k : Nat} {f : Addr} {fd : FuncData} {ps : List Str} {sp sp' : Sp}
theorem FnOkG.up {j : Nat} (F : FnOkG P w K mg base CX j f fd ps sp) (h : j ≤ k) : FnOkG P w K mg base CX k f fd ps sp := ⟨F.len, fun A o s H a us vs Q E hg hr => F.go A o s H a us vs Q E hg (hr.mono h)⟩
theorem FnOkG.weak (F : FnOkG P w K mg base CX k f fd ps sp) (h : ∀ vs H Q E, sp' vs H Q E → sp vs H Q E) : FnOkG P w K mg base CX k f fd ps sp' :=
  ⟨fun vs H Q E q => F.len vs H Q E (h _ _ _ _ q), fun A o s H a us vs Q E hg hr he hb hv hs => F.go A o s H a us vs Q E hg hr he hb hv (h _ _ _ _ hs)⟩
/-- a def of the text by its body -/
theorem fn_ofG {name qual : Str} {params : Arguments} {body : List Stmt} {scope : Scope} {dV kV doc pm cdv ct oc : Value} {an od : Option Addr} {osl : Array (Option Value)} {N : List Str}
    (lk : K.lookup f = some ⟨oc, od, .func (PySem.W.fnOf name qual params body scope dV kV doc pm an cdv ct), osl⟩) (hcd : PySem.W.codeIn K cdv qual = true) (S : FnScope N ps scope) (len : ∀ vs H Q E, sp vs H Q E → vs.length = ps.length)
    (hbody : ∀ (A : Around) (outer : List Env) (s : Shared) (H : Hp) (vs : List V) (Q : VK) (E : XK), A.guards = some [] → Room k (A.deeper (envOfC qual scope s.heap.objs.size f cdv)) → sp vs H Q E →
      ∃ t, PSs (cxOf CX P w K mg base N qual scope f cdv A outer s H E) body t ∧ t { nx := fun _ H' => Q .non H', rt := Q } (L2.start N vs) H) :
    FnOkG P w K mg base CX (k + 1) f (PySem.W.fnOf name qual params body scope dV kV doc pm an cdv ct) ps sp where
  len := len
  go A outer s H args us vs Q E hgd room env0 bnd rel hsp := by
    have lenV := len vs H Q E hsp
    have atS : ∀ b o, base.get? b = some o → s.heap.get? b = some o := fun b o e => (env0.bs b o e).1
    have inS : K.In s.heap := env0.mod.kin.keeps atS
    have nolim : s.heap.NoLimit := env0.mod.nolimit.keeps atS
    have kinds : ∀ y ∈ ps.zip us, scope.names.lookup y.1 = some .local ∨ (scope.names.lookup y.1 = some .cell ∧ ((cellsFrom (s.heap.objs.size + 1) scope.names []).lookup y.1).isSome = true) := by
      rintro ⟨nm, u⟩ hy
      cases S.par nm (List.of_mem_zip hy).1 with
      | inl q => exact .inl q
      | inr q => exact .inr ⟨q, PySem.W.cellsFrom_some _ _ _ (.inl q)⟩
    refine codeAny_call_function room.depth (inS _ _ lk) rfl S.co S.gen rfl (PySem.W.codeRec_of inS hcd) (bnd _ _ _ _ ?_)
    refine wpAny_newFunctionEnv_cells S.kind kinds fun env he s1 ic => ?_
    subst he
    refine ⟨nolim.keeps ic.toInCall.keep, codeAny_func ?_⟩
    obtain ⟨t, ht, hq⟩ := hbody A outer s H vs Q E hgd (room.deeper _) hsp
    have J : Inv (cxOf CX P w K mg base N qual scope f cdv A outer s H E) [] (L2.start N vs) H s1 := inv_start S room.hd env0 lenV rel ic
    refine wpAny_mono (ht.run [] s1 (L2.start N vs) H _ J hq) (fun fl s2 hs => ?_) fun _ _ hs => hs
    match fl, hs with
    | .ret u, ⟨v, _, H2, J2, rv, q⟩ => exact ⟨v, H2, J2.os, J2.bare, J2.base, J2.hok, rv, q⟩
    | .next, ⟨_, H2, J2, q⟩ => exact ⟨V.non, H2, J2.os, J2.bare, J2.base, J2.hok, rfl, q⟩
    | .brk, ⟨_, _, _, q⟩ => exact q.elim
    | .cont, ⟨_, _, _, q⟩ => exact q.elim
end

/-! ### the call of one, at the hand layer's level -/
section
variable {X : Cx} {W : WX} {k : Nat} {f : Addr} {fd : FuncData} {ps : List Str} {sp : Sp} {pins : List (Addr × Obj)} {σ : St} {H : Hp} {s : Shared} {Q : VK}
theorem run_G {us ws : List Value} {ks : List Str} {vs : List V} {as : List Value} (F : FnOkG X.prog X.w X.K X.mg X.base (L2.CX X.prog X.w) k f fd ps sp) (hgd : X.A.guards = some []) (hr : Room k X.A) (tk : Takes X W) (I : Inv X pins σ H s)
    (hb : BindsTo s fd ⟨us, ks.zip ws⟩ (ps.zip as)) (r : Vals vs as) (h : sp vs H Q fun c d H' => W c d σ H') : wpAny (model X.prog X.w) X.A (call (.ref f) us (ks.zip ws)) (EP X pins σ Q) X.xe s := by
  refine wpAny_call (codeAny_mono (F.go X.A X.stack s H ⟨us, ks.zip ws⟩ as vs Q _ hgd hr I.env0 hb r h) fun res s2 hres => ?_)
  match res, hres with
  | .error e, hx => exact tk e s2 (XE.of_call I (fun _ _ _ z => z) hx)
  | .ok (.ret u), hx => exact I.after hx
  | .ok .next, hx => exact hx.elim
  | .ok .brk, hx => exact hx.elim
  | .ok .cont, hx => exact hx.elim
/-- where a def of the top stands -/
def DefAt (K : PySem.W.Frag) (mg : Str → Option Value) (name : Str) (st : Stmt) (ps : List Str) (f : Addr) (fd : FuncData) : Prop := Fun K name name st f fd ∧ mg name = some (.ref f) ∧ Binds K fd ps []
/-- a def with its promise -/
def FnQ (P : Program) (w : World) (K : PySem.W.Frag) (mg : Str → Option Value) (base : Heap) (k : Nat) (name : Str) (st : Stmt) (ps : List Str) (sp : Sp) : Prop := ∃ f fd, DefAt K mg name st ps f fd ∧ FnOkG P w K mg base (L2.CX P w) k f fd ps sp
def tCallG (W : WX) (sp : Sp) (t : TA) : TE := fun σ H Q => t σ H fun vs H1 => sp vs H1 Q fun c d H' => W c d σ H'
theorem pe_callG {x : Str} {st : Stmt} {e : Expr} {es : List Expr} {t : TA} {p pos : Pos} (F : FnQ X.prog X.w X.K X.mg X.base k x st ps sp) (hgd : X.A.guards = some []) (hr : Room k X.A) (tk : Takes X W) (hg : Gl X x) (ha : PA X (e :: es) t) (hdb : (x == ("__debug__" : Str)) = false := by decide)
    (he : starEach (e :: es) X.env = (false, eval e X.env) :: starEach es X.env := by rfl) (hpl : (backTo pos (starEach es X.env)).any (·.1) = false := by rfl) : PE X (.Call (.Name x p) (e :: es) [] pos) (tCallG W sp t) := by
  obtain ⟨f, fd, ⟨FF, hm, hb⟩, F⟩ := F
  refine ⟨fun pins s σ H Q I h => wpAny_Call_Name_kw (ld_glob I hg hm ?_ hdb)⟩
  refine PySem.W.callWith_K (h₀ := X.base) I.ok.mod.kin FF.kp (thn (ha.run pos pins s σ H _ I h) fun us s1 ⟨vs, H1, I1, r, q⟩ => ⟨I1.kIn, ?_⟩) he hpl
  have hl : (us ++ []).length = ps.length := by rw [List.append_nil, ← r.length]; exact F.len _ _ _ _ q
  have b := hb s1 us I1.kIn hl
  rw [List.append_nil] at b
  exact run_G (ks := []) (ws := []) F hgd hr tk I1 b r q
theorem pe_callG0 {x : Str} {st : Stmt} {p pos : Pos} (F : FnQ X.prog X.w X.K X.mg X.base k x st ps sp) (hgd : X.A.guards = some []) (hr : Room k X.A) (tk : Takes X W) (hg : Gl X x) (hdb : (x == ("__debug__" : Str)) = false := by decide) : PE X (.Call (.Name x p) [] [] pos) (tCallG W sp tNil) := by
  obtain ⟨f, fd, ⟨FF, hm, hb⟩, F⟩ := F
  refine ⟨fun pins s σ H Q I h => wpAny_Call_Name_kw (ld_glob I hg hm ?_ hdb)⟩
  have hl : (([] : List Value) ++ []).length = ps.length := by have := F.len _ _ _ _ h; simpa using this
  have b := hb s [] I.kIn hl
  exact PySem.W.callWith_K0 I.kIn FF.kp (run_G (us := []) (ks := []) (ws := []) (as := []) F hgd hr tk I b .nil h)
/-- which of the written values goes to which parameter -/
def pick {α : Type} (perm : List Nat) (l : List α) : List α := perm.filterMap fun i => l[i]?
theorem vals_pick {vs : List V} {us : List Value} (r : Vals vs us) : ∀ perm : List Nat, Vals (pick perm vs) (pick perm us)
  | [] => .nil
  | i :: perm => by
    have ih := vals_pick r perm
    unfold pick at ih ⊢
    rw [List.filterMap_cons, List.filterMap_cons]
    cases e : vs[i]? with
    | none => rw [r.none_of e]; exact ih
    | some v =>
      obtain ⟨u, e2, rv⟩ := r.get e
      rw [e2]
      exact .cons rv ih
/-- how the n positional and the keywords' values are bound -/
def KwOk (name : Str) (st : Stmt) (ps : List Str) (n : Nat) (ks : List Str) (perm : List Nat) : Prop := ∀ (kV doc pm : Value) (an : Option Addr) (cdv ct : Value) (us ws : List Value), us.length = n → ws.length = ks.length →
  bindArgs (PySem.W.fnOf name name (defArgs st) (defBody st) (defScope st) .none kV doc pm an cdv ct) ⟨us, ks.zip ws⟩ = pure (ps.zip (pick perm (us ++ ws)))
def tCallKG (W : WX) (n m : Nat) (perm : List Nat) (sp : Sp) (t tk : TA) : TE := fun σ H Q => t σ H fun vs H1 => tk σ H1 fun zs H2 => vs.length = n ∧ zs.length = m ∧ sp (pick perm (vs ++ zs)) H2 Q fun c d H' => W c d σ H'
theorem pe_callKG {x : Str} {st : Stmt} {e : Expr} {es : List Expr} {kws : List Keyword} {ks : List Str} {n : Nat} {perm : List Nat} {t tw : TA} {p pos : Pos} (F : FnQ X.prog X.w X.K X.mg X.base k x st ps sp) (kb : KwOk x st ps n ks perm) (hgd : X.A.guards = some []) (hr : Room k X.A) (tk : Takes X W) (hg : Gl X x)
    (ha : PA X (e :: es) t) (hkw : PK X kws tw) (hall : (backToKw pos (keywordEach kws X.env)).all (·.1.isSome) = true := by rfl) (hks : (backToKw pos (keywordEach kws X.env)).filterMap (·.1) = ks := by rfl) (hdb : (x == ("__debug__" : Str)) = false := by decide)
    (he : starEach (e :: es) X.env = (false, eval e X.env) :: starEach es X.env := by rfl) (hpl : ((backTo pos (starEach (e :: es) X.env)).any (·.1) || (backToKw pos (keywordEach kws X.env)).any (·.1.isNone)) = false := by rfl) :
    PE X (.Call (.Name x p) (e :: es) kws pos) (tCallKG W n ks.length perm sp t tw) := by
  obtain ⟨f, fd, ⟨FF, hm, hb⟩, F⟩ := F
  refine ⟨fun pins s σ H Q I h => wpAny_Call_Name_kw (ld_glob I hg hm ?_ hdb)⟩
  refine PySem.W.callWith_KW (h₀ := X.base) I.ok.mod.kin FF.kp hall (thn (ha.run pos pins s σ H _ I h) fun us s1 ⟨vs, H1, I1, r, q⟩ => ?_) hpl he
  refine thn (hkw.run pos pins s1 σ H1 _ I1 q) fun ws s2 ⟨zs, H2, I2, rz, l1, l2, q2⟩ => ⟨I2.kIn, ?_⟩
  rw [hks]
  obtain ⟨oc, od, kV, doc, pm, an, cdv, ct, osl, efd, lk, hcd⟩ := FF.ex
  have b : BindsTo s2 fd ⟨us, ks.zip ws⟩ (ps.zip (pick perm (us ++ ws))) := by
    rw [efd]
    exact .of_eq (kb kV doc pm an cdv ct us ws (r.length.symm.trans l1) (rz.length.symm.trans l2))
  exact run_G F hgd hr tk I2 b (vals_pick (r.append rz) perm) q2
theorem pe_callKG0 {x : Str} {st : Stmt} {kws : List Keyword} {ks : List Str} {perm : List Nat} {tw : TA} {p pos : Pos} (F : FnQ X.prog X.w X.K X.mg X.base k x st ps sp) (kb : KwOk x st ps 0 ks perm) (hgd : X.A.guards = some []) (hr : Room k X.A) (tk : Takes X W) (hg : Gl X x)
    (hkw : PK X kws tw) (hall : (backToKw pos (keywordEach kws X.env)).all (·.1.isSome) = true := by rfl) (hks : (backToKw pos (keywordEach kws X.env)).filterMap (·.1) = ks := by rfl) (hdb : (x == ("__debug__" : Str)) = false := by decide)
    (hpl : (backToKw pos (keywordEach kws X.env)).any (·.1.isNone) = false := by rfl) :
    PE X (.Call (.Name x p) [] kws pos) (tCallKG W 0 ks.length perm sp tNil tw) := by
  obtain ⟨f, fd, ⟨FF, hm, hb⟩, F⟩ := F
  refine ⟨fun pins s σ H Q I h => wpAny_Call_Name_kw (ld_glob I hg hm ?_ hdb)⟩
  refine PySem.W.callWith_KW0 (h₀ := X.base) I.ok.mod.kin FF.kp hall (thn (hkw.run pos pins s σ H _ I h) fun ws s2 ⟨zs, H2, I2, rz, l1, l2, q2⟩ => ⟨I2.kIn, ?_⟩) hpl
  rw [hks]
  obtain ⟨oc, od, kV, doc, pm, an, cdv, ct, osl, efd, lk, hcd⟩ := FF.ex
  have b : BindsTo s2 fd ⟨[], ks.zip ws⟩ (ps.zip (pick perm ([] ++ ws))) := by
    rw [efd]
    exact .of_eq (kb kV doc pm an cdv ct [] ws rfl (rz.length.symm.trans l2))
  exact run_G (us := []) F hgd hr tk I2 b (vals_pick (Vals.append .nil rz) perm) q2
end

/-! # promises by data -/
abbrev PSp := List D → (D → Prop) → (Xn → Prop) → Prop
def spOf (K : PySem.W.Frag) (mg : Str → Option Value) (s : PSp) : Sp := fun vs H Q E => ∃ (wl : Wd) (ds : List D) (q : D → Prop) (x : Xn → Prop), Wk wl H ∧ RpL K wl H ds vs ∧ s ds q x ∧ (∀ d v H', Ext wl H H' → Rp K wl H' d v → q d → Q v H') ∧ (∀ e c dd H', Ext wl H H' → XnR K mg wl H' e c dd → x e → E c dd H')
abbrev FnD (P : Program) (w : World) (K : PySem.W.Frag) (mg : Str → Option Value) (base : Heap) (k : Nat) (name : Str) (st : Stmt) (ps : List Str) (s : PSp) : Prop := FnQ P w K mg base k name st ps (spOf K mg s)
def startD (N : List Str) (ds : List D) : Ev := ds.map some ++ List.replicate (N.length - ds.length) none
theorem evr_start {K : PySem.W.Frag} {wl : Wd} {H : Hp} {N : List Str} {ds : List D} {vs : List V} (r : RpL K wl H ds vs) : EvR K wl H (startD N ds) (L2.start N vs) := by
  have hl := r.length
  refine ⟨by unfold startD L2.start; simp [hl], fun i d e => ?_⟩
  unfold startD at e
  by_cases hi : i < ds.length
  · rw [List.getElem?_append_left (by simpa using hi), List.getElem?_map] at e
    cases q : ds[i]? with
    | none => rw [q] at e; cases e
    | some d' =>
      rw [q] at e
      cases e
      obtain ⟨v, hv, rv⟩ := r.get q
      refine ⟨v, ?_, rv⟩
      unfold L2.start
      rw [List.getElem?_append_left (by simpa [hl] using hi), List.getElem?_map, hv]
      rfl
  · rw [List.getElem?_append_right (by simpa using Nat.le_of_not_lt hi), List.getElem?_replicate] at e
    split at e <;> cases e
/-- a body's derivation -/
abbrev Bdy (P : Program) (w : World) (K : PySem.W.Frag) (mg : Str → Option Value) (base : Heap) (k : Nat) (name : Str) (st : Stmt) (N : List Str) (f : Addr) (g : PSt) : Prop :=
  ∀ (cdv : Value) (A : Around) (outer : List Env) (s0 : Shared) (H : Hp) (E : XK), Room k (A.deeper (envOfC name (defScope st) s0.heap.objs.size f cdv)) → A.guards = some [] →
      Takes (cxOf (L2.CX P w) P w K mg base N name (defScope st) f cdv A outer s0 H E) (fun c d _ H' => E c d H') →
      PassesOwn (model P w) (A.deeper (envOfC name (defScope st) s0.heap.objs.size f cdv)) (envOfC name (defScope st) s0.heap.objs.size f cdv) (cxOf (L2.CX P w) P w K mg base N name (defScope st) f cdv A outer s0 H E).xe →
      PSs (cxOf (L2.CX P w) P w K mg base N name (defScope st) f cdv A outer s0 H E) (defBody st) (eS (cxOf (L2.CX P w) P w K mg base N name (defScope st) f cdv A outer s0 H E) (fun c d _ H' => E c d H') g)
/-- a def by data: its body's derivation, its promise from the body's reading -/
theorem fn_ok {P : Program} {w : World} {K : PySem.W.Frag} {mg : Str → Option Value} {base : Heap} {k : Nat} {name : Str} {st : Stmt} {ps N : List Str} {s : PSp} {g : PSt} {f : Addr} {fd : FuncData} (F : DefAt K mg name st ps f fd) (S : FnScope N ps (defScope st))
    (body : Bdy P w K mg base k name st N f g)
    (hs : ∀ ds q x, s ds q x → ds.length = ps.length ∧ g ⟨fun _ => q .non, q, fun _ => False, fun _ => False, fun _ e => x e⟩ (startD N ds)) : FnOkG P w K mg base (L2.CX P w) (k + 1) f fd ps (spOf K mg s) := by
  obtain ⟨FF, hm, hb⟩ := F
  obtain ⟨oc, od, kV, doc, pm, an, cdv, ct, osl, rfl, lk, hcd⟩ := FF.ex
  refine fn_ofG lk hcd S (fun vs H Q E ⟨wl, ds, q, x, _, r, h, _⟩ => r.length.trans (hs ds q x h).1) fun A outer s0 H vs Q E hgd hr hsp => ?_
  obtain ⟨wl, ds, q, x, hk, r, h, hq, hx⟩ := hsp
  refine ⟨_, body cdv A outer s0 H E hr hgd (takes_of rfl rfl rfl rfl) (passes_of rfl), wl, _, _, hk, evr_start r, (hs ds q x h).2, ?_⟩
  exact ⟨fun ρ σ H' e _ z => hq .non .non H' e rfl z, fun d v H' e r' z => hq d v H' e r' z, fun _ _ _ _ _ z => z.elim, fun _ _ _ _ _ z => z.elim, fun ρ σ H' en c dd e _ r' z => hx en c dd H' e r' z⟩
/-- a def of the top, as it stands -/
def DefE (K : PySem.W.Frag) (mg : Str → Option Value) (name : Str) (st : Stmt) (ps : List Str) : Prop := ∃ f fd, DefAt K mg name st ps f fd
theorem fn_mk {P : Program} {w : World} {K : PySem.W.Frag} {mg : Str → Option Value} {base : Heap} {k : Nat} {name : Str} {st : Stmt} {ps N : List Str} {s : PSp} {g : PSt} (F : DefE K mg name st ps) (S : FnScope N ps (defScope st))
    (body : ∀ f, Bdy P w K mg base k name st N f g)
    (hs : ∀ ds q x, s ds q x → ds.length = ps.length ∧ g ⟨fun _ => q .non, q, fun _ => False, fun _ => False, fun _ e => x e⟩ (startD N ds)) : FnD P w K mg base (k + 1) name st ps s := by
  obtain ⟨f, fd, F⟩ := F
  exact ⟨f, fd, F, fn_ok F S (body f) hs⟩
section
variable {X : Cx} {W : WX} {k : Nat} {ps : List Str} {s : PSp}
def fCall (s : PSp) (fa : PAx) : PX := fun ρ q x => fa ρ (fun ds => s ds q x) x
theorem call_weak {fa : PAx} {σ : St} {H : Hp} {Q : VK} (h : eE X W (fCall s fa) σ H Q) : tCallG W (spOf X.K X.mg s) (eA X W fa) σ H Q := by
  obtain ⟨wl, ρ, q, x, hk, he, hf, hq, hx⟩ := h
  exact ⟨wl, ρ, _, x, hk, he, hf, fun ds vs H1 e1 r1 h1 => ⟨wl, ds, q, x, e1.wk, r1, h1, fun d v H2 e2 r2 => hq d v H2 (e1.trans e2) r2, hx.ext e1⟩, hx⟩
theorem d_call {x : Str} {st : Stmt} {e : Expr} {es : List Expr} {fa : PAx} {p pos : Pos} (F : FnD X.prog X.w X.K X.mg X.base k x st ps s) (hgd : X.A.guards = some []) (hr : Room k X.A) (tk : Takes X W) (hg : Gl X x) (ha : PA X (e :: es) (eA X W fa)) (hdb : (x == ("__debug__" : Str)) = false := by decide)
    (he : starEach (e :: es) X.env = (false, eval e X.env) :: starEach es X.env := by rfl) (hpl : (backTo pos (starEach es X.env)).any (·.1) = false := by rfl) : PE X (.Call (.Name x p) (e :: es) [] pos) (eE X W (fCall s fa)) :=
  PE.weak (pe_callG F hgd hr tk hg ha hdb he hpl) fun _ _ _ h => call_weak h
theorem d_call0 {x : Str} {st : Stmt} {p pos : Pos} (F : FnD X.prog X.w X.K X.mg X.base k x st ps s) (hgd : X.A.guards = some []) (hr : Room k X.A) (tk : Takes X W) (hg : Gl X x) (hdb : (x == ("__debug__" : Str)) = false := by decide) : PE X (.Call (.Name x p) [] [] pos) (eE X W (fCall s fNil)) :=
  PE.weak (pe_callG0 F hgd hr tk hg hdb) fun σ H Q ⟨wl, ρ, q, x, hk, he, hf, hq, hx⟩ => ⟨wl, [], q, x, hk, rfl, hf, hq, hx⟩
theorem rp_pick {K : PySem.W.Frag} {wl : Wd} {H : Hp} {ds : List D} {vs : List V} (r : RpL K wl H ds vs) : ∀ perm : List Nat, RpL K wl H (pick perm ds) (pick perm vs)
  | [] => rfl
  | i :: perm => by
    have ih := rp_pick r perm
    unfold pick at ih ⊢
    rw [List.filterMap_cons, List.filterMap_cons]
    cases e : ds[i]? with
    | none =>
      have : vs[i]? = none := by
        rw [List.getElem?_eq_none_iff] at e ⊢
        rw [r.length]; exact e
      rw [this]; exact ih
    | some d =>
      obtain ⟨v, e2, rv⟩ := r.get e
      rw [e2]
      exact ⟨v, _, rfl, rv, ih⟩
def ekK (X : Cx) (W : WX) (kws : List Keyword) (f : PAx) : Prop := PK X kws (eA X W f)
theorem dk_nil : PK X [] (eA X W fNil) := ⟨fun pos pins s σ H Q I ⟨wl, ρ, q, x, hk, he, hf, hq, hx⟩ => pk_nil.run pos pins s σ H Q I (hq [] [] H (.refl hk) rfl hf)⟩
theorem dk_cons {nm : Option Str} {e : Expr} {kpos : Pos} {kws : List Keyword} {fa : PX} {fr : PAx} (ha : PE X e (eE X W fa)) (hr : PK X kws (eA X W fr)) : PK X (⟨nm, e, kpos⟩ :: kws) (eA X W (fCons fa fr)) :=
  ⟨fun pos pins s σ H Q I ⟨wl, ρ, q, x, hk, he, hf, hq, hx⟩ => (pk_cons ha hr).run pos pins s σ H Q I
    ⟨wl, ρ, _, x, hk, he, hf, fun d v H1 e1 r1 h1 => ⟨wl, ρ, _, x, e1.wk, he.ext hk e1, h1, fun ds vs H2 e2 r2 h2 => hq (d :: ds) _ H2 (e1.trans e2) ⟨v, vs, rfl, Rp.ext e1.wk e2 _ _ r1, r2⟩ h2, hx.ext e1⟩, hx⟩⟩
def fCallK (n m : Nat) (perm : List Nat) (s : PSp) (fa fk : PAx) : PX := fun ρ q x => fa ρ (fun ds => fk ρ (fun es => ds.length = n ∧ es.length = m ∧ s (pick perm (ds ++ es)) q x) x) x
theorem callK_weak {n m : Nat} {perm : List Nat} {fa fk : PAx} {σ : St} {H : Hp} {Q : VK} (h : eE X W (fCallK n m perm s fa fk) σ H Q) : tCallKG W n m perm (spOf X.K X.mg s) (eA X W fa) (eA X W fk) σ H Q := by
  obtain ⟨wl, ρ, q, x, hk, he, hf, hq, hx⟩ := h
  refine ⟨wl, ρ, _, x, hk, he, hf, fun ds vs H1 e1 r1 h1 => ⟨wl, ρ, _, x, e1.wk, he.ext hk e1, h1, fun es us H2 e2 r2 ⟨l1, l2, h2⟩ => ?_, hx.ext e1⟩, hx⟩
  have e12 := e1.trans e2
  exact ⟨r1.length.trans l1, r2.length.trans l2, wl, _, q, x, e2.wk, rp_pick ((RpL.ext e1.wk e2 _ _ r1).append r2) perm, h2, fun d v H3 e3 r3 => hq d v H3 (e12.trans e3) r3, hx.ext e12⟩
theorem d_callK {x : Str} {st : Stmt} {e : Expr} {es : List Expr} {kws : List Keyword} {ks : List Str} {n : Nat} {perm : List Nat} {fa fk : PAx} {p pos : Pos} (F : FnD X.prog X.w X.K X.mg X.base k x st ps s) (kb : KwOk x st ps n ks perm) (hgd : X.A.guards = some []) (hr : Room k X.A) (tk : Takes X W) (hg : Gl X x)
    (ha : PA X (e :: es) (eA X W fa)) (hkw : PK X kws (eA X W fk)) (hall : (backToKw pos (keywordEach kws X.env)).all (·.1.isSome) = true := by rfl) (hks : (backToKw pos (keywordEach kws X.env)).filterMap (·.1) = ks := by rfl) (hdb : (x == ("__debug__" : Str)) = false := by decide)
    (he : starEach (e :: es) X.env = (false, eval e X.env) :: starEach es X.env := by rfl) (hpl : ((backTo pos (starEach (e :: es) X.env)).any (·.1) || (backToKw pos (keywordEach kws X.env)).any (·.1.isNone)) = false := by rfl) :
    PE X (.Call (.Name x p) (e :: es) kws pos) (eE X W (fCallK n ks.length perm s fa fk)) :=
  PE.weak (pe_callKG F kb hgd hr tk hg ha hkw hall hks hdb he hpl) fun _ _ _ h => callK_weak h
theorem d_callK0 {x : Str} {st : Stmt} {kws : List Keyword} {ks : List Str} {perm : List Nat} {fk : PAx} {p pos : Pos} (F : FnD X.prog X.w X.K X.mg X.base k x st ps s) (kb : KwOk x st ps 0 ks perm) (hgd : X.A.guards = some []) (hr : Room k X.A) (tk : Takes X W) (hg : Gl X x)
    (hkw : PK X kws (eA X W fk)) (hall : (backToKw pos (keywordEach kws X.env)).all (·.1.isSome) = true := by rfl) (hks : (backToKw pos (keywordEach kws X.env)).filterMap (·.1) = ks := by rfl) (hdb : (x == ("__debug__" : Str)) = false := by decide)
    (hpl : (backToKw pos (keywordEach kws X.env)).any (·.1.isNone) = false := by rfl) :
    PE X (.Call (.Name x p) [] kws pos) (eE X W (fCallK 0 ks.length perm s fNil fk)) := by
  refine PE.weak (pe_callKG0 F kb hgd hr tk hg hkw hall hks hdb hpl) fun σ H Q ⟨wl, ρ, q, x, hk, he, hf, hq, hx⟩ => ?_
  refine ⟨wl, ρ, _, x, hk, he, hf, fun es us H2 e2 r2 ⟨l1, l2, h2⟩ => ?_, hx⟩
  exact ⟨rfl, r2.length.trans l2, wl, _, q, x, e2.wk, rp_pick (RpL.append (show RpL X.K wl H2 [] [] from rfl) r2) perm, h2, fun d v H3 e3 r3 => hq d v H3 (e2.trans e3) r3, hx.ext e2⟩
/-! ### f(g(..)), g's list of three numbers being f's well -/
def okArg : D → Bool
  | .non => true
  | .bl _ => true
  | .int _ => true
  | .str _ => true
  | .ty _ => true
  | .scr _ => true
  | _ => false
theorem okArg_rp {K : PySem.W.Frag} {wl wl' : Wd} {H : Hp} : ∀ {ds : List D} {vs : List V}, ds.all okArg = true → RpL K wl H ds vs → RpL K wl' H ds vs
  | [], _, _, r => r
  | d :: ds, _, g, ⟨v, t, e, r, q⟩ => by
    rw [List.all_cons, Bool.and_eq_true] at g
    refine ⟨v, t, e, ?_, okArg_rp g.2 q⟩
    have g1 := g.1
    cases d <;> first | exact r | (simp [okArg] at g1)
def fWell (sf sg : PSp) (fa : PAx) : PX := fun ρ q x => fa ρ (fun ds => ds.all okArg = true ∧ sg ds (fun r => ∃ i j k : Int, r = .lst [.int i, .int j, .int k] ∧ 0 ≤ i ∧ 0 ≤ j ∧ j < 2147483648 ∧ sf [.well] (fun d => flat d = true ∧ q d) fun _ => False) fun _ => False) x
theorem well_weak {sf sg : PSp} {fa : PAx} {σ : St} {H : Hp} {Q : VK} (h : eE X W (fWell sf sg fa) σ H Q) : tCallG W (spOf X.K X.mg sf) (tCons (tCallG W (spOf X.K X.mg sg) (eA X W fa)) tNil) σ H Q := by
  obtain ⟨wl, ρ, q, x, hk, he, hf, hq, hx⟩ := h
  refine ⟨wl, ρ, _, x, hk, he, hf, fun ds vs H1 e1 r1 ⟨ok, h1⟩ => ?_, hx⟩
  refine ⟨⟨none, fun a => ∃ us, H1 a = some (.lst us)⟩, ds, _, fun _ => False, ⟨(fun _ z => nomatch z), (fun _ z => z)⟩, okArg_rp ok r1, h1, fun d v H2 e2 r2 ⟨i, j, k, ed, b1, b2, b3, h2⟩ => ?_, fun _ _ _ _ _ _ z => z.elim⟩
  subst ed
  obtain ⟨p, us, rfl, f2, s2, v1, t1, rfl, c1, v2, t2, rfl, c2, v3, t3, rfl, c3, c4⟩ := r2
  cases c1; cases c2; cases c3; cases c4
  have n1 : H1 p = none := by
    cases z : H1 p with
    | none => rfl
    | some o =>
      have z2 := e2.keep p o (fun y => nomatch y) z
      rw [s2] at z2
      cases z2
      exact (f2.2 ⟨_, z⟩).elim
  have np : ∀ a o, H1 a = some o → a ≠ p := fun a o z y => by rw [y, n1] at z; cases z
  have k2 : Wk ⟨some p, wl.hid⟩ H2 := by
    refine ⟨fun a z => ?_, fun a z => ?_⟩
    · cases z
      exact ⟨i, j, k, s2, b1, b2, b3⟩
    · obtain ⟨us, z2⟩ := e1.wk.hid a z
      exact ⟨us, e2.keep a _ (fun y => nomatch y) z2⟩
  refine ⟨⟨some p, wl.hid⟩, [.well], _, fun _ => False, k2, ⟨.ref p, [], rfl, ⟨p, rfl, rfl⟩, rfl⟩, h2, fun d v H3 e3 r3 ⟨fd, hd⟩ => ?_, fun _ _ _ _ _ _ z => z.elim⟩
  have back : ∀ a o, H1 a = some o → H3 a = some o := fun a o z => e3.keep a o (fun y => np a o z (Option.some.inj y).symm) (e2.keep a o (fun y => nomatch y) z)
  have e13 : Ext wl H1 H3 := by
    refine ⟨fun a o _ z => back a o z, fun a z => ?_, fun a z => ?_⟩
    · obtain ⟨i', j', k', z1, z2⟩ := e1.wk.well a z
      exact ⟨i', j', k', back _ _ z1, z2⟩
    · obtain ⟨us, z1⟩ := e1.wk.hid a z
      exact ⟨us, back _ _ z1⟩
  refine hq d v H3 (e1.trans e13) ?_ hd
  cases d <;> first | exact r3 | (simp [flat] at fd)
theorem d_well {k' : Nat} {ps' : List Str} {sg : PSp} {x y : Str} {st st' : Stmt} {e : Expr} {es : List Expr} {fa : PAx} {p pos p' pos' : Pos} (F : FnD X.prog X.w X.K X.mg X.base k x st ps s) (G : FnD X.prog X.w X.K X.mg X.base k' y st' ps' sg) (hgd : X.A.guards = some []) (hr : Room k X.A) (hr' : Room k' X.A) (tk : Takes X W) (hg : Gl X x) (hg' : Gl X y) (ha : PA X (e :: es) (eA X W fa))
    (hdb : (x == ("__debug__" : Str)) = false := by decide) (hdb' : (y == ("__debug__" : Str)) = false := by decide)
    (he : starEach (e :: es) X.env = (false, eval e X.env) :: starEach es X.env := by rfl) (hpl : (backTo pos' (starEach es X.env)).any (·.1) = false := by rfl) (hpl2 : (backTo pos (starEach [] X.env)).any (·.1) = false := by rfl)
    (he2 : starEach [.Call (.Name y p') (e :: es) [] pos'] X.env = (false, eval (.Call (.Name y p') (e :: es) [] pos') X.env) :: starEach [] X.env := by rfl) : PE X (.Call (.Name x p) [.Call (.Name y p') (e :: es) [] pos'] [] pos) (eE X W (fWell s sg fa)) :=
  PE.weak (pe_callG F hgd hr tk hg (pa_cons (pe_callG G hgd hr' tk hg' ha hdb' he hpl) pa_nil he2) hdb he2 hpl2) fun _ _ _ h => well_weak h
end
end PL

namespace PL
open PySem PySem.Spec L2
open PyProof.Rows (envOfC AllBare IntsAre)

/-! # the end of a law's row -/
/-- the law's promise: the script's list in, True out -/
def spLaw (n : Nat) (K : PySem.W.Frag) : Sp := fun vs H Q _ => ∃ (a : Addr) (ns : List Int), vs = [.ref a] ∧ ScrAt K H a ns ∧ ns.length ≤ n ∧ ∀ H', Q (.bl true) H'
section
variable {P : Program} {w : World} {K : PySem.W.Frag} {mg mb : Str → Option Value} {k : Nat} {fa a : Addr} {fd : FuncData} {x : Str} {n : Nat} {s1 : Shared} {vs : List Value} {ns : List Int}
/-- from an abstract heap that knows the script alone -/
theorem law_from {H : Hp} (inK : K.In s1.heap) (hns : s1.heap.Ns mainGlobals mg) (hb : s1.heap.Ns builtinsNs mb) (hbb : ∀ y : Str, y ≠ "__name__" → mb y = bootBuiltins y) (hlim : s1.heap.NoLimit) (hg : s1.gens = #[])
    (ha : s1.heap.get? a = some { cls := .type "list", data := .seq vs.toArray }) (hr : Room k callerA)
    (F : ∀ base : Heap, K.In base → base.Ns mainGlobals mg → FnOkG P w K mg base (L2.CX P w) k fa fd [x] (spLaw n K)) (hbind : ∀ (s : Shared) (u : Value), BindsTo s fd ⟨[u], []⟩ [(x, u)]) (hl : ns.length ≤ n)
    (hO : Only H) (hS : ScrAt K H a ns) (ok : HOk P w H s1.heap) (hA : ∀ b, H b ≠ none → b = a) (hK : H a ≠ none → K.lookup a = none) :
    codeAny (model P w) callerA (.call (.ref fa) ⟨[.ref a], []⟩) (fun r s' => r = .ok (.ret (.bool true)) ∧ OldK s1.heap s'.heap ∧ s'.os = s1.os ∧ AllBare s'.gens) s1 := by
  have notDict : ∀ {b : Addr} {o : Obj} {es : Array DictEntry} {ep : Nat}, s1.heap.get? b = some o → o.data = .dict es ep → H b = none := by
    intro b o es ep e dd
    cases hb' : H b with
    | none => rfl
    | some u =>
      obtain rfl : b = a := hA b (by rw [hb']; exact fun z => nomatch z)
      rw [ha] at e
      cases e
      exact nomatch (show Data.seq vs.toArray _ = Data.dict es ep from dd)
  have nsOf : ∀ {b : Addr} {m : Str → Option Value}, s1.heap.Ns b m → (hidT s1.heap H).Ns b m := fun ⟨o, es, ep, e, dd, r⟩ => ⟨o, es, ep, hidT_get e (notDict e dd), dd, r⟩
  have inB : K.In (hidT s1.heap H) := fun b o e => hidT_get (inK b o e) (by
    cases hb' : H b with
    | none => rfl
    | some u =>
      obtain rfl : b = a := hA b (by rw [hb']; exact fun z => nomatch z)
      rw [hK (by rw [hb']; exact fun z => nomatch z)] at e
      cases e)
  have noLim : (hidT s1.heap H).NoLimit := by
    obtain ⟨mc, h1, h2⟩ := hlim
    exact ⟨mc, nsOf h1, h2⟩
  have md : Mod K mg (hidT s1.heap H) := ⟨inB, nsOf hns, ⟨mb, nsOf hb, hbb⟩, noLim⟩
  have env0 : Env0 P w K mg (hidT s1.heap H) callerA [] s1 H := ⟨rfl, md, fun _ _ e => of_hidT e, Nat.le_of_eq (hidT_size _ _), trivial, fun b z => absurd (show b ∈ ([] : List Addr) from z) (by simp), ok, .of_eq hg⟩
  refine codeAny_mono ((F _ inB (nsOf hns)).go callerA [] s1 H ⟨[.ref a], []⟩ [.ref a] [.ref a] (fun v _ => v = .bl true) (fun _ _ _ => False) rfl hr env0 (hbind s1 (.ref a)) (.cons rfl .nil) ⟨a, ns, rfl, hS, hl, fun _ => rfl⟩) fun res s2 hres => ?_
  match res, hres with
  | .error e, ⟨_, _, _, _, _, _, _, _, _, _, _, _, z⟩ => exact z.elim
  | .ok .next, z => exact z.elim
  | .ok .brk, z => exact z.elim
  | .ok .cont, z => exact z.elim
  | .ok (.ret u), ⟨v, H2, os, bare, un, ok2, ru, q⟩ =>
    obtain rfl : v = .bl true := q
    obtain rfl : u = Value.bool true := ru
    refine ⟨rfl, OldK.of_keep fun b o e => ?_, os, bare⟩
    cases hb' : H b with
    | none => exact un.keep b o e hb' (fun z => absurd (show b ∈ ([] : List Addr) from z) (by simp)) (fun z => absurd (show b ∈ ([] : List Addr) from z) (by simp))
    | some u =>
      rcases hO b with z | ⟨ob, xs, z⟩
      · rw [hb'] at z; cases z
      · obtain ⟨e1, _⟩ := ok b _ z
        obtain ⟨e2, _⟩ := ok2 b _ (un.frzs b ob _ z)
        rw [e] at e1
        cases e1
        exact e2
theorem law_at (inK : K.In s1.heap) (hns : s1.heap.Ns mainGlobals mg) (hb : s1.heap.Ns builtinsNs mb) (hbb : ∀ y : Str, y ≠ "__name__" → mb y = bootBuiltins y) (hlim : s1.heap.NoLimit) (hg : s1.gens = #[])
    (ha : s1.heap.get? a = some { cls := .type "list", data := .seq vs.toArray }) (hi : IntsAre vs ns) (hz : ns.length ≤ sizeLine) (hr : Room k callerA)
    (F : ∀ base : Heap, K.In base → base.Ns mainGlobals mg → FnOkG P w K mg base (L2.CX P w) k fa fd [x] (spLaw n K)) (hbind : ∀ (s : Shared) (u : Value), BindsTo s fd ⟨[u], []⟩ [(x, u)]) (hl : ns.length ≤ n) :
    codeAny (model P w) callerA (.call (.ref fa) ⟨[.ref a], []⟩) (fun r s' => r = .ok (.ret (.bool true)) ∧ OldK s1.heap s'.heap ∧ s'.os = s1.os ∧ AllBare s'.gens) s1 := by
  have rv : Vals (ns.map V.int) vs := vals_ints hi
  cases hk : K.lookup a with
  | some o =>
    have e := inK a o hk
    rw [ha] at e
    cases e
    refine law_from (H := fun _ => none) inK hns hb hbb hlim hg ha hr F hbind hl (fun _ => .inl rfl) (.inr ⟨_, vs.toArray, _, hk, rfl, rfl, rfl, ?_, ?_⟩) (fun b u z => nomatch (show (none : Option HO) = some u from z)) (fun b z => (z rfl).elim) fun z => (z rfl).elim
    · rw [List.size_toArray, ← hi.length.symm]; exact hz
    · simpa using rv
  | none =>
    let o : Obj := { cls := .type "list", data := .seq vs.toArray }
    let T : Hp := fun b => if b = a then some (.frz o (.lst (ns.map V.int))) else none
    have Ta : T a = some (.frz o (.lst (ns.map V.int))) := if_pos rfl
    have Tn : ∀ b, b ≠ a → T b = none := fun b h => if_neg h
    refine law_from (H := T) inK hns hb hbb hlim hg ha hr F hbind hl (fun b => ?_) (.inl ⟨o, Ta⟩) (fun b u z => ?_) (fun b z => ?_) fun _ => hk
    · by_cases h : b = a
      · rw [h]; exact .inr ⟨_, _, Ta⟩
      · exact .inl (Tn b h)
    · by_cases h : b = a
      · subst h
        rw [Ta] at z
        cases z
        exact ⟨ha, by rw [List.length_map]; exact hz, vs, _, rv, ha⟩
      · rw [Tn b h] at z; cases z
    · by_cases h : b = a
      · exact h
      · exact (z (Tn b h)).elim
end
theorem walk_G {l : PySem.W.OpenLaw} {n k : Nat} {q : Program} {loose : List Str} {XP : (Str → Option Value) → Heap → Prop} {YP : World → Heap → Prop} {d : DefRec} {K : Params → PySem.W.Frag} {x : Str}
    (hn : l.most = some n) (hn2 : n ≤ sizeLine) (hdf : d.params.defaults = []) (hr : Room k callerA) (hY : ∀ (w : World) (h : Heap), YP w h → (K w.params).In h)
    (F : ∀ (w : World) (mg : Str → Option Value) (fa : Addr) (h : Heap), (K w.params).In h → h.Ns mainGlobals mg → mg d.name = some (.ref fa) →
      ∃ fd : FuncData, (∀ (s : Shared) (u : Value), BindsTo s fd ⟨[u], []⟩ [(x, u)]) ∧ ∀ base : Heap, (K w.params).In base → base.Ns mainGlobals mg → FnOkG l.prog w (K w.params) mg base (L2.CX l.prog w) k fa fd [x] (spLaw n (K w.params))) :
    PySem.W.WalkO q loose XP YP l.row.toRowW d [] (fun f vs => PySem.call f vs) := by
  refine Att.attach_call hn hdf fun w s0 s1 mg mb fa o pm cd doc a vs ns G Y ho hd hcd hmg hobj hints hlen hg => ?_
  have KX := hY w _ Y
  obtain ⟨fd, hb, hF⟩ := F w mg fa _ KX G.T.g hmg
  exact law_at KX G.T.g G.T.b G.T.builtins G.T.nolimit hg hobj hints (Nat.le_trans hlen hn2) hr hF hb hlen
/-- the law by data: at every script of at most n numbers True -/
def sLaw (n : Nat) : PSp := fun ds q _ => ∃ ns : List Int, ds = [.scr ns] ∧ ns.length ≤ n ∧ q (.bl true)
theorem law_ok {P : Program} {w : World} {K : PySem.W.Frag} {mg : Str → Option Value} {base : Heap} {k n : Nat} {f : Addr} {fd : FuncData} {ps : List Str} (F : FnOkG P w K mg base (L2.CX P w) k f fd ps (spOf K mg (sLaw n))) : FnOkG P w K mg base (L2.CX P w) k f fd ps (spLaw n K) :=
  F.weak fun vs H Q E ⟨a, ns, ev, hs, hl, hq⟩ => ⟨⟨none, fun _ => False⟩, [.scr ns], fun d => d = .bl true, fun _ => False, ⟨(fun _ z => nomatch z), (fun _ z => z.elim)⟩, by subst ev; exact ⟨_, _, rfl, ⟨a, rfl, hs⟩, rfl⟩, ⟨ns, rfl, hl, rfl⟩, fun d v H' _ r e => by
    subst e
    cases r
    exact hq H', fun _ _ _ _ _ _ z => z.elim⟩
/-! ### facts of the top -/
theorem def_at {K : PySem.W.Frag} {mg : Str → Option Value} {h : Heap} {x : Str} {st : Stmt} {ps : List Str} {f : Addr} {oc : Value} {od an : Option Addr} {osl : Array (Option Value)} {kV doc pm cdv ct : Value} (X : K.In h) (G : h.Ns mainGlobals mg)
    (a : PySem.W.nsIn K mainGlobals x = some (some (.ref f))) (l : K.lookup f = some ⟨oc, od, .func (PySem.W.fnOf x x (defArgs st) (defBody st) (defScope st) .none kV doc pm an cdv ct), osl⟩) (c : PySem.W.codeIn K cdv x = true) (k : PySem.W.keepIn K (.ref f) = true)
    (b : ∀ (kV doc pm : Value) (an : Option Addr) (cdv ct : Value) (us : List Value), us.length = ps.length → bindArgs (PySem.W.fnOf x x (defArgs st) (defBody st) (defScope st) .none kV doc pm an cdv ct) ⟨us, []⟩ = pure (ps.zip us)) :
    DefAt K mg x st ps f (PySem.W.fnOf x x (defArgs st) (defBody st) (defScope st) .none kV doc pm an cdv ct) :=
  have F := fun_mk l c k
  ⟨F, PySem.W.mg_of X G a, F.binds b⟩
theorem def_e {K : PySem.W.Frag} {mg : Str → Option Value} {h : Heap} {x : Str} {st : Stmt} {ps : List Str} {f : Addr} {oc : Value} {od an : Option Addr} {osl : Array (Option Value)} {kV doc pm cdv ct : Value} (X : K.In h) (G : h.Ns mainGlobals mg)
    (a : PySem.W.nsIn K mainGlobals x = some (some (.ref f))) (l : K.lookup f = some ⟨oc, od, .func (PySem.W.fnOf x x (defArgs st) (defBody st) (defScope st) .none kV doc pm an cdv ct), osl⟩) (c : PySem.W.codeIn K cdv x = true) (k : PySem.W.keepIn K (.ref f) = true)
    (b : ∀ (kV doc pm : Value) (an : Option Addr) (cdv ct : Value) (us : List Value), us.length = ps.length → bindArgs (PySem.W.fnOf x x (defArgs st) (defBody st) (defScope st) .none kV doc pm an cdv ct) ⟨us, []⟩ = pure (ps.zip us)) : DefE K mg x st ps := ⟨f, _, def_at X G a l c k b⟩
theorem kst_int {K : PySem.W.Frag} {mg : Str → Option Value} {h : Heap} {x : Str} {i : Int} {t : Tok} (X : K.In h) (G : h.Ns mainGlobals mg) (a : PySem.W.nsIn K mainGlobals x = some (some (.int i t))) : Kst K mg x (.int i) := ⟨_, .int i, PySem.W.mg_of X G a, ⟨t, rfl⟩, fun _ _ => rfl⟩
theorem kst_str {K : PySem.W.Frag} {mg : Str → Option Value} {h : Heap} {x z : Str} {t : Tok} (X : K.In h) (G : h.Ns mainGlobals mg) (a : PySem.W.nsIn K mainGlobals x = some (some (.str z t))) : Kst K mg x (.str z) := ⟨_, .str z, PySem.W.mg_of X G a, ⟨t, rfl⟩, fun _ _ => rfl⟩
/-- a tuple of flat values in the written part -/
def flatK : D → Value → Bool
  | .non, .none => true
  | .bl b, .bool c => b == c
  | .int i, .int j _ => i == j
  | .str x, .str y _ => decide (x = y)
  | _, _ => false
theorem flatK_rp {K : PySem.W.Frag} : ∀ {d : D} {u : Value}, flatK d u = true → ∃ v, RelV v u ∧ ∀ wl H, Rp K wl H d v := fun {d u} h => by
  cases d <;> cases u <;> first | (simp [flatK] at h; done) | skip
  case non.none => exact ⟨.non, rfl, fun _ _ => rfl⟩
  case bl.bool b c =>
    obtain rfl : b = c := by simpa [flatK] using h
    exact ⟨.bl b, rfl, fun _ _ => rfl⟩
  case int.int i j t =>
    obtain rfl : i = j := by simpa [flatK] using h
    exact ⟨.int i, ⟨t, rfl⟩, fun _ _ => rfl⟩
  case str.str x y t =>
    obtain rfl : x = y := by simpa [flatK] using h
    exact ⟨.str x, ⟨t, rfl⟩, fun _ _ => rfl⟩
def flatsK : List D → List Value → Bool
  | [], [] => true
  | d :: ds, u :: us => flatK d u && flatsK ds us
  | _, _ => false
theorem flatsK_rp {K : PySem.W.Frag} : ∀ {ds : List D} {us : List Value}, flatsK ds us = true → ∃ vs, Vals vs us ∧ ∀ wl H, RpL K wl H ds vs
  | [], [], _ => ⟨[], .nil, fun _ _ => rfl⟩
  | d :: ds, u :: us, h => by
    have h2 : (flatK d u && flatsK ds us) = true := h
    rw [Bool.and_eq_true] at h2
    obtain ⟨v, r, a⟩ := flatK_rp (K := K) h2.1
    obtain ⟨vs, r2, a2⟩ := flatsK_rp (K := K) h2.2
    exact ⟨v :: vs, .cons r r2, fun wl H => ⟨v, vs, rfl, a wl H, a2 wl H⟩⟩
  | [], _ :: _, h => by simp [flatsK] at h
  | _ :: _, [], h => by simp [flatsK] at h
theorem kst_tup {K : PySem.W.Frag} {mg : Str → Option Value} {h : Heap} {x : Str} {f : Addr} {o : Obj} {its : Array Value} {n : Nat} {ds : List D} (X : K.In h) (G : h.Ns mainGlobals mg) (a : PySem.W.nsIn K mainGlobals x = some (some (.ref f)))
    (l : K.lookup f = some o) (c : o.cls = .type "tuple") (d : o.data = .seq its n) (z : its.size ≤ 1000) (e : flatsK ds its.toList = true) : Kst K mg x (.tup ds) := by
  obtain ⟨vs, r, a2⟩ := flatsK_rp (K := K) e
  exact ⟨_, .ref f, PySem.W.mg_of X G a, rfl, fun wl H => ⟨f, vs, rfl, .inr ⟨o, its, n, l, c, d, Nat.le_trans z (by decide), r⟩, a2 wl H⟩⟩
theorem blt_none {K : PySem.W.Frag} {mg : Str → Option Value} {h : Heap} {x : Str} (X : K.In h) (G : h.Ns mainGlobals mg) (a : PySem.W.nsIn K mainGlobals x = some none) : mg x = none := PySem.W.mg_none_of X G a
end PL

namespace PL
open PySem PySem.Spec L2

/-! # laws of the readings -/
mutual
theorem tgE_mono : ∀ (t : Tg) (d : D) (ρ : Ev) (q q' : Ev → Prop), (∀ ρ, q ρ → q' ρ) → tgE t d ρ q → tgE t d ρ q'
  | .nm i, d, ρ, q, q', m, h => m _ h
  | .tp l, d, ρ, q, q', m, ⟨ds, e, hl, h⟩ => ⟨ds, e, hl, tgsE_mono l ds ρ q q' m h⟩
  | .wl o i, d, ρ, q, q', m, ⟨ho, n, e, hn, h⟩ => ⟨ho, n, e, hn, m _ h⟩
theorem tgsE_mono : ∀ (l : List Tg) (ds : List D) (ρ : Ev) (q q' : Ev → Prop), (∀ ρ, q ρ → q' ρ) → tgsE l ds ρ q → tgsE l ds ρ q'
  | [], ds, ρ, q, q', m, ⟨e, h⟩ => ⟨e, m _ h⟩
  | t :: l, ds, ρ, q, q', m, ⟨d, r, e, h⟩ => ⟨d, r, e, tgE_mono t d ρ _ _ (fun ρ2 h2 => tgsE_mono l r ρ2 q q' m h2) h⟩
end
/-- a comprehension whose elements are told by a function; none: left out -/
theorem lc_fm {α : Type} {t : Tg} {c : PB} {f : PX} {own : List Nat} {ρ : Ev} {q : D → Prop} {e : α → D} (F : α → Option D) : ∀ (l : List α) (acc : List D),
    (∀ a ∈ l, ∀ (Q : D → Prop) (n : Prop), (∀ y, F a = some y → Q y) → (F a = none → n) → tgE t (e a) (wipeE ρ own) fun ρ2 => c ρ2 (fun b => (b = true → f ρ2 Q fun _ => False) ∧ (b = false → n)) fun _ => False) →
    acc.length + l.length ≤ LIM → q (.lst (acc ++ l.filterMap F)) → fLcLoop t c f own ρ q (l.map e) acc
  | [], acc, _, _, h => by
    show q (.lst acc)
    simpa using h
  | a :: l, acc, hs, hl, h => by
    rw [List.length_cons] at hl
    show tgE t (e a) (wipeE ρ own) fun ρ2 => c ρ2 (fun b => (b = true → f ρ2 (fun y => acc.length < LIM ∧ fLcLoop t c f own ρ q (l.map e) (acc ++ [y])) fun _ => False) ∧ (b = false → fLcLoop t c f own ρ q (l.map e) acc)) fun _ => False
    refine hs a (List.mem_cons_self ..) _ _ (fun y hy => ⟨by omega, ?_⟩) fun hy => ?_
    · refine lc_fm F l (acc ++ [y]) (fun b hb => hs b (List.mem_cons_of_mem _ hb)) (by rw [List.length_append, List.length_singleton]; omega) ?_
      rw [List.filterMap_cons, hy] at h
      rw [List.append_assoc]
      exact h
    · refine lc_fm F l acc (fun b hb => hs b (List.mem_cons_of_mem _ hb)) (by omega) ?_
      rw [List.filterMap_cons, hy] at h
      exact h
theorem lc_map {α : Type} {t : Tg} {f : PX} {own : List Nat} {ρ : Ev} {q : D → Prop} {e : α → D} (F : α → D) (l : List α)
    (hs : ∀ a ∈ l, ∀ (Q : D → Prop), Q (F a) → tgE t (e a) (wipeE ρ own) fun ρ2 => f ρ2 Q fun _ => False)
    (hl : l.length ≤ LIM) (h : q (.lst (l.map F))) : fLcLoop t tYes' f own ρ q (l.map e) [] := by
  refine lc_fm (fun a => some (F a)) l [] (fun a ha Q n h1 h2 => ?_) (by simpa using hl) (by simpa using h)
  exact tgE_mono t _ _ _ _ (fun ρ2 h3 => ⟨fun _ => h3, fun z => by cases z⟩) (hs a ha Q (h1 _ rfl))
/-- .. whose elements are told by a relation -/
theorem lc_rel {α : Type} {t : Tg} {f : PX} {own : List Nat} {ρ : Ev} {q : D → Prop} {e : α → D} (R : α → D → Prop) : ∀ (l : List α) (acc : List D),
    (∀ a ∈ l, ∀ (Q : D → Prop), (∀ y, R a y → Q y) → tgE t (e a) (wipeE ρ own) fun ρ2 => f ρ2 Q fun _ => False) →
    acc.length + l.length ≤ LIM → (∀ ys : List D, ys.length = l.length → (∀ (i : Nat) a y, l[i]? = some a → ys[i]? = some y → R a y) → q (.lst (acc ++ ys))) → fLcLoop t tYes' f own ρ q (l.map e) acc
  | [], acc, _, _, h => by
    show q (.lst acc)
    have := h [] rfl (fun i a y z => by simp at z)
    simpa using this
  | a :: l, acc, hs, hl, h => by
    rw [List.length_cons] at hl
    show tgE t (e a) (wipeE ρ own) fun ρ2 => tYes' ρ2 (fun b => (b = true → f ρ2 (fun y => acc.length < LIM ∧ fLcLoop t tYes' f own ρ q (l.map e) (acc ++ [y])) fun _ => False) ∧ (b = false → fLcLoop t tYes' f own ρ q (l.map e) acc)) fun _ => False
    refine tgE_mono t _ _ _ _ (fun ρ2 h3 => ⟨fun _ => h3, fun z => by cases z⟩) (hs a (List.mem_cons_self ..) _ fun y hy => ⟨by omega, ?_⟩)
    refine lc_rel R l (acc ++ [y]) (fun b hb => hs b (List.mem_cons_of_mem _ hb)) (by rw [List.length_append, List.length_singleton]; omega) fun ys hl2 hr => ?_
    rw [List.append_assoc]
    refine h (y :: ys) (by rw [List.length_cons, List.length_cons, hl2]) fun i b z h1 h2 => ?_
    cases i with
    | zero =>
      have e1 : a = b := by simpa using h1
      have e2 : y = z := by simpa using h2
      subst e1; subst e2
      exact hy
    | succ i => exact hr i b z (by simpa using h1) (by simpa using h2)
/-- a for whose turns keep a word -/
theorem loop_inv {t : Tg} {b : PSt} {P : Pn} (I : Nat → Ev → Prop) : ∀ (ds : List D) (n : Nat) (ρ : Ev), I n ρ →
    (∀ (i : Nat) d ρ, ds[i]? = some d → I (n + i) ρ → ∀ N : Ev → Prop, (∀ ρ', I (n + i + 1) ρ' → N ρ') → tgE t d ρ fun ρ' => b { P with nx := N, ct := N, bk := P.nx } ρ') →
    (∀ ρ, I (n + ds.length) ρ → P.nx ρ) → fLoop t b P ds ρ
  | [], n, ρ, h, _, hd => hd ρ h
  | d :: ds, n, ρ, h, hs, hd => by
    show tgE t d ρ fun ρ' => b { P with nx := fLoop t b P ds, ct := fLoop t b P ds, bk := P.nx } ρ'
    refine hs 0 d ρ rfl h _ fun ρ' h' => ?_
    refine loop_inv I ds (n + 1) ρ' h' (fun i d' ρ2 e hi N hN => ?_) fun ρ2 h2 => hd ρ2 ?_
    · have := hs (i + 1) d' ρ2 (by simpa using e) (by rw [show n + (i + 1) = n + 1 + i by omega]; exact hi) N (fun ρ3 h3 => hN ρ3 (by rw [show n + 1 + i + 1 = n + (i + 1) + 1 by omega]; exact h3))
      exact this
    · rw [List.length_cons, show n + (ds.length + 1) = n + 1 + ds.length by omega]; exact h2
theorem tame_int {n : Int} (h : n.natAbs < 1000000000000) : tame (.int n) := ⟨by simp [cost, h], by simp [dep]⟩
theorem cost_int {n : Int} (h : n.natAbs < 1000000000000) : cost (.int n) = 1 := by simp [cost, h]
theorem cost_str {x : Str} (h : PyData.strOk x = true) : cost (.str x) = x.length + 1 := by simp [cost, h]
theorem tame_str {x : Str} (h : PyData.strOk x = true) (hl : x.length ≤ 10000) : tame (.str x) := ⟨by rw [cost_str h]; omega, by simp [dep]⟩
theorem costL_le {c : Nat} : ∀ ds : List D, (∀ d ∈ ds, cost d ≤ c) → costL ds ≤ ds.length * c
  | [], _ => by simp [costL]
  | d :: ds, h => by
    have := h d (List.mem_cons_self ..)
    have := costL_le ds fun e he => h e (List.mem_cons_of_mem _ he)
    show cost d + costL ds ≤ (ds.length + 1) * c
    rw [Nat.add_mul]
    omega
theorem depL_le {c : Nat} : ∀ ds : List D, (∀ d ∈ ds, dep d ≤ c) → depL ds ≤ c
  | [], _ => by simp [depL]
  | d :: ds, h => by
    have := h d (List.mem_cons_self ..)
    have := depL_le ds fun e he => h e (List.mem_cons_of_mem _ he)
    show max (dep d) (depL ds) ≤ c
    omega
end PL

namespace PL
open PySem PySem.Spec L2

theorem mul_i {i j : Int} {q : D → Prop} (h : CMul i j) (hq : q (.int (i * j))) : mulG (.int i) (.int j) q := ⟨h, hq⟩
theorem mod_i {i j : Int} {q : D → Prop} (h : 0 < j) (hq : q (.int (i % j))) : modG (.int i) (.int j) q := ⟨h, hq⟩
theorem div_i {i j : Int} {q : D → Prop} (h : CDiv i j) (hq : q (.int (i / j))) : fdivG (.int i) (.int j) q := ⟨h, hq⟩
theorem toI {i : Int} {q : D → Prop} (hq : q (.int i)) : toIntG [.int i] q := hq
theorem well0 {q : D → Prop} (h : ∀ n : Int, 0 ≤ n → q (.int n)) : ixG .well (.int 0) q := .inl ⟨rfl, h⟩
theorem well1 {q : D → Prop} (h : ∀ n : Int, 0 ≤ n → n < 2147483648 → q (.int n)) : ixG .well (.int 1) q := .inr (.inl ⟨rfl, h⟩)
theorem well2 {q : D → Prop} (h : ∀ n : Int, q (.int n)) : ixG .well (.int 2) q := .inr (.inr ⟨rfl, h⟩)
theorem wq {b : Bool} {A B : Prop} (h1 : b = true → A) (h2 : b = false → B) : (b = true → A) ∧ (b = false → B) := ⟨h1, h2⟩
theorem eqv_same {a : D} (h : PyData.eqv (toPy a) (toPy a) = true) : eqvD a a = true := h
theorem ne_str {s t : Str} {q : D → Prop} (e : s = t) (h : q (.bl false)) : neG (.str s) (.str t) q := by
  subst e
  exact ⟨.s, by rw [eqv_str, decide_eq_true rfl]; exact h⟩
theorem repr_l {xs : List D} {q : D → Prop} (t : tame (.lst xs)) (h : q (.str (shownD (.lst xs)))) : reprG [.lst xs] q := ⟨t, h⟩
theorem for_i {f : PAx} {t : Tg} {b : PSt} {P : Pn} {ρ : Ev} (h : f ρ (fun ds => fLoop t b P ds ρ) (P.ex ρ)) : sFor f t b P ρ := h
theorem min_i {i j : Int} {q : D → Prop} (h : ∀ m : Int, m ≤ i → m ≤ j → (m = i ∨ m = j) → q (.int m)) : minG [.int i, .int j] q := by
  show q (.int (if j < i then j else i))
  split <;> exact h _ (by omega) (by omega) (by omega)
theorem max_i {i j : Int} {q : D → Prop} (h : ∀ m : Int, i ≤ m → j ≤ m → (m = i ∨ m = j) → q (.int m)) : maxG [.int i, .int j] q := by
  show q (.int (if j > i then j else i))
  split <;> exact h _ (by omega) (by omega) (by omega)
theorem list_t {xs : List D} {q : D → Prop} (h : q (.lst xs)) : listG [.tup xs] q := h
theorem list_l {xs : List D} {q : D → Prop} (h : q (.lst xs)) : listG [.lst xs] q := h
theorem limN {n : Nat} (h : n ≤ 1000) : n ≤ LIM := Nat.le_trans h (by decide)
theorem wT {A B : Prop} (h : A) : (True → A) ∧ (true = false → B) := ⟨fun _ => h, (fun z => by cases z)⟩
theorem wt {A B : Prop} (h : A) : (true = true → A) ∧ (true = false → B) := ⟨fun _ => h, (fun z => by cases z)⟩
theorem wf {A B : Prop} (h : B) : (false = true → A) ∧ (false = false → B) := ⟨(fun z => by cases z), fun _ => h⟩
theorem wF {A B : Prop} (h : B) : (false = true → A) ∧ (True → B) := ⟨(fun z => by cases z), fun _ => h⟩
theorem ix_t {xs : List D} {j : Nat} {d : D} {q : D → Prop} (h : xs[j]? = some d) (hq : q d) : ixG (.tup xs) (.int (j : Int)) q := ⟨d, atI_nat h, hq⟩
theorem ix_l {xs : List D} {j : Nat} {d : D} {q : D → Prop} (h : xs[j]? = some d) (hq : q d) : ixG (.lst xs) (.int (j : Int)) q := ⟨d, atI_nat h, hq⟩
theorem ix_end {xs : List D} {d : D} {q : D → Prop} (h : xs.getLast? = some d) (hq : q d) : ixG (.tup xs) (.int (-1)) q := by
  obtain ⟨ys, rfl⟩ := List.getLast?_eq_some_iff.mp h
  exact ⟨d, atI_last ys d, hq⟩
theorem ix_endL {xs : List D} {d : D} {q : D → Prop} (h : xs.getLast? = some d) (hq : q d) : ixG (.lst xs) (.int (-1)) q := by
  obtain ⟨ys, rfl⟩ := List.getLast?_eq_some_iff.mp h
  exact ⟨d, atI_last ys d, hq⟩
theorem cut_from (xs : List D) (k : Nat) : cutD xs (some (k : Int)) none = xs.drop k := by
  unfold cutD
  rw [HT.sIx_nat, HT.sIx_none]
  by_cases h : k ≤ xs.length
  · rw [Nat.min_eq_left h, List.take_of_length_le (by rw [List.length_drop]; omega)]
  · rw [Nat.min_eq_right (by omega), Nat.sub_self, List.take_zero, List.drop_eq_nil_of_le (by omega)]
theorem cut_to (xs : List D) (k : Nat) : cutD xs none (some (k : Int)) = xs.take k := by
  unfold cutD
  rw [HT.sIx_nat, HT.sIx_none, List.drop_zero, Nat.sub_zero]
  by_cases h : k ≤ xs.length
  · rw [Nat.min_eq_left h]
  · rw [Nat.min_eq_right (by omega), List.take_of_length_le (Nat.le_refl _), List.take_of_length_le (by omega)]
theorem sl_from {xs : List D} {k : Nat} {q : D → Prop} (h : q (.tup (xs.drop k))) : slG (.tup xs) (some (k : Int)) none q := by
  show q (.tup (cutD xs (some (k : Int)) none))
  rw [cut_from]; exact h
theorem sl_to {xs : List D} {k : Nat} {q : D → Prop} (h : q (.tup (xs.take k))) : slG (.tup xs) none (some (k : Int)) q := by
  show q (.tup (cutD xs none (some (k : Int))))
  rw [cut_to]; exact h
theorem sIx_neg (n d : Nat) : HT.sIx n d (some (-1)) = n - 1 := by
  show (if (-1 : Int) < 0 then ((-1 : Int) + (n : Int)).toNat else min (-1 : Int).toNat n) = _
  rw [if_pos (by decide)]; omega
theorem cut_init (xs : List D) : cutD xs none (some (-1)) = xs.dropLast := by
  unfold cutD
  rw [sIx_neg, HT.sIx_none, List.drop_zero, Nat.sub_zero, List.dropLast_eq_take]
theorem cut_end (xs : List D) : cutD xs (some (-1)) none = xs.drop (xs.length - 1) := by
  unfold cutD
  rw [sIx_neg, HT.sIx_none, List.take_of_length_le (by rw [List.length_drop]; omega)]
theorem sl_init {xs : List D} {q : D → Prop} (h : q (.tup xs.dropLast)) : slG (.tup xs) none (some (-1)) q := by
  show q (.tup (cutD xs none (some (-1))))
  rw [cut_init]; exact h
theorem sl_end {xs : List D} {q : D → Prop} (h : q (.tup (xs.drop (xs.length - 1)))) : slG (.tup xs) (some (-1)) none q := by
  show q (.tup (cutD xs (some (-1)) none))
  rw [cut_end]; exact h
theorem add_int {i j : Int} {q : D → Prop} (h : q (.int (i + j))) : addG (.int i) (.int j) q := h
theorem eqv_nn {a b : D} : eqvD a b = PyData.eqv (toPy a) (toPy b) := rfl
theorem law_end {P : Program} {w : World} {K : PySem.W.Frag} {mg : Str → Option Value} {k n : Nat} {x p : Str} {st : Stmt} {fa : Addr} (D : DefE K mg x st [p]) (hmg : mg x = some (.ref fa))
    (hb : ∀ (kV doc pm : Value) (an : Option Addr) (cdv ct u : Value), bindArgs (PySem.W.fnOf x x (defArgs st) (defBody st) (defScope st) .none kV doc pm an cdv ct) ⟨[u], []⟩ = pure [(p, u)])
    (F : ∀ base f fd, DefAt K mg x st [p] f fd → FnOkG P w K mg base (L2.CX P w) k f fd [p] (spOf K mg (sLaw n))) :
    ∃ fd : FuncData, (∀ (s : Shared) (u : Value), BindsTo s fd ⟨[u], []⟩ [(p, u)]) ∧ ∀ base : Heap, K.In base → base.Ns mainGlobals mg → FnOkG P w K mg base (L2.CX P w) k fa fd [p] (spLaw n K) := by
  obtain ⟨f, fd, D⟩ := D
  have e := D.2.1
  rw [hmg] at e
  cases e
  refine ⟨fd, fun s u => ?_, fun base _ _ => law_ok (F base fa fd D)⟩
  obtain ⟨oc, od, kV, doc, pm, an, cdv, ct, osl, rfl, _, _⟩ := D.1.ex
  exact .of_eq (hb kV doc pm an cdv ct u)
end PL

namespace K35
open PySem PySem.Spec L2 PL
def topS (i : Nat) : Stmt := PySem.Challenge.pw_plantdue_k35_whole_profiles_behind_cycle.main.body.getD i (.Pass ⟨0, 0, 0, 0⟩)
abbrev s_is_whole : Stmt := topS 1
abbrev nm_is_whole : List Str := ["value"]
abbrev pr_is_whole : List Str := ["value"]
theorem sc_is_whole : FnScope nm_is_whole pr_is_whole (defScope s_is_whole) := ⟨rfl, rfl, rfl, by decide +kernel, rfl, by decide +kernel, by decide +kernel⟩
abbrev s_is_between : Stmt := topS 2
abbrev nm_is_between : List Str := ["value", "low", "high"]
abbrev pr_is_between : List Str := ["value", "low", "high"]
theorem sc_is_between : FnScope nm_is_between pr_is_between (defScope s_is_between) := ⟨rfl, rfl, rfl, by decide +kernel, rfl, by decide +kernel, by decide +kernel⟩
abbrev s_is_tuple_of : Stmt := topS 3
abbrev nm_is_tuple_of : List Str := ["value", "many"]
abbrev pr_is_tuple_of : List Str := ["value", "many"]
theorem sc_is_tuple_of : FnScope nm_is_tuple_of pr_is_tuple_of (defScope s_is_tuple_of) := ⟨rfl, rfl, rfl, by decide +kernel, rfl, by decide +kernel, by decide +kernel⟩
abbrev s_is_short_tuple : Stmt := topS 4
abbrev nm_is_short_tuple : List Str := ["value", "low", "high"]
abbrev pr_is_short_tuple : List Str := ["value", "low", "high"]
theorem sc_is_short_tuple : FnScope nm_is_short_tuple pr_is_short_tuple (defScope s_is_short_tuple) := ⟨rfl, rfl, rfl, by decide +kernel, rfl, by decide +kernel, by decide +kernel⟩
abbrev s_is_name : Stmt := topS 9
abbrev nm_is_name : List Str := ["value", "sign"]
abbrev pr_is_name : List Str := ["value"]
theorem sc_is_name : FnScope nm_is_name pr_is_name (defScope s_is_name) := ⟨rfl, rfl, rfl, by decide +kernel, rfl, by decide +kernel, by decide +kernel⟩
abbrev s_is_stretch : Stmt := topS 19
abbrev nm_is_stretch : List Str := ["value", "most"]
abbrev pr_is_stretch : List Str := ["value", "most"]
theorem sc_is_stretch : FnScope nm_is_stretch pr_is_stretch (defScope s_is_stretch) := ⟨rfl, rfl, rfl, by decide +kernel, rfl, by decide +kernel, by decide +kernel⟩
abbrev s_is_profile_form : Stmt := topS 20
abbrev nm_is_profile_form : List Str := ["value", "each", "one", "two"]
abbrev pr_is_profile_form : List Str := ["value"]
theorem sc_is_profile_form : FnScope nm_is_profile_form pr_is_profile_form (defScope s_is_profile_form) := ⟨rfl, rfl, rfl, by decide +kernel, rfl, by decide +kernel, by decide +kernel⟩
abbrev s_cycles_in : Stmt := topS 21
abbrev nm_cycles_in : List Str := ["profile", "_", "cycles"]
abbrev pr_cycles_in : List Str := ["profile"]
theorem sc_cycles_in : FnScope nm_cycles_in pr_cycles_in (defScope s_cycles_in) := ⟨rfl, rfl, rfl, by decide +kernel, rfl, by decide +kernel, by decide +kernel⟩
abbrev s_left_of : Stmt := topS 22
abbrev nm_left_of : List Str := ["profile", "number", "index", "lock", "cycles"]
abbrev pr_left_of : List Str := ["profile", "number"]
theorem sc_left_of : FnScope nm_left_of pr_left_of (defScope s_left_of) := ⟨rfl, rfl, rfl, by decide +kernel, rfl, by decide +kernel, by decide +kernel⟩
abbrev s_lock_of : Stmt := topS 23
abbrev nm_lock_of : List Str := ["left"]
abbrev pr_lock_of : List Str := ["left"]
theorem sc_lock_of : FnScope nm_lock_of pr_lock_of (defScope s_lock_of) := ⟨rfl, rfl, rfl, by decide +kernel, rfl, by decide +kernel, by decide +kernel⟩
abbrev s_longer_by : Stmt := topS 24
abbrev nm_longer_by : List Str := ["profile", "number", "lock", "cycles", "found"]
abbrev pr_longer_by : List Str := ["profile", "number"]
theorem sc_longer_by : FnScope nm_longer_by pr_longer_by (defScope s_longer_by) := ⟨rfl, rfl, rfl, by decide +kernel, rfl, by decide +kernel, by decide +kernel⟩
abbrev s_check_number : Stmt := topS 26
abbrev nm_check_number : List Str := ["value", "low", "high"]
abbrev pr_check_number : List Str := ["value", "low", "high"]
theorem sc_check_number : FnScope nm_check_number pr_check_number (defScope s_check_number) := ⟨rfl, rfl, rfl, by decide +kernel, rfl, by decide +kernel, by decide +kernel⟩
abbrev s_check_profile : Stmt := topS 27
abbrev nm_check_profile : List Str := ["value"]
abbrev pr_check_profile : List Str := ["value"]
theorem sc_check_profile : FnScope nm_check_profile pr_check_profile (defScope s_check_profile) := ⟨rfl, rfl, rfl, by decide +kernel, rfl, by decide +kernel, by decide +kernel⟩
abbrev s_check_behind : Stmt := topS 28
abbrev nm_check_behind : List Str := ["profile", "value"]
abbrev pr_check_behind : List Str := ["profile", "value"]
theorem sc_check_behind : FnScope nm_check_behind pr_check_behind (defScope s_check_behind) := ⟨rfl, rfl, rfl, by decide +kernel, rfl, by decide +kernel, by decide +kernel⟩
abbrev s_is_profile : Stmt := topS 31
abbrev nm_is_profile : List Str := ["value"]
abbrev pr_is_profile : List Str := ["value"]
theorem sc_is_profile : FnScope nm_is_profile pr_is_profile (defScope s_is_profile) := ⟨rfl, rfl, rfl, by decide +kernel, rfl, by decide +kernel, by decide +kernel⟩
abbrev s_cycles_of : Stmt := topS 32
abbrev nm_cycles_of : List Str := ["profile"]
abbrev pr_cycles_of : List Str := ["profile"]
theorem sc_cycles_of : FnScope nm_cycles_of pr_cycles_of (defScope s_cycles_of) := ⟨rfl, rfl, rfl, by decide +kernel, rfl, by decide +kernel, by decide +kernel⟩
abbrev s_left : Stmt := topS 33
abbrev nm_left : List Str := ["profile", "number"]
abbrev pr_left : List Str := ["profile", "number"]
theorem sc_left : FnScope nm_left pr_left (defScope s_left) := ⟨rfl, rfl, rfl, by decide +kernel, rfl, by decide +kernel, by decide +kernel⟩
abbrev s_lock_held : Stmt := topS 34
abbrev nm_lock_held : List Str := ["profile", "number"]
abbrev pr_lock_held : List Str := ["profile", "number"]
theorem sc_lock_held : FnScope nm_lock_held pr_lock_held (defScope s_lock_held) := ⟨rfl, rfl, rfl, by decide +kernel, rfl, by decide +kernel, by decide +kernel⟩
abbrev s_longer : Stmt := topS 35
abbrev nm_longer : List Str := ["profile", "number"]
abbrev pr_longer : List Str := ["profile", "number"]
theorem sc_longer : FnScope nm_longer pr_longer (defScope s_longer) := ⟨rfl, rfl, rfl, by decide +kernel, rfl, by decide +kernel, by decide +kernel⟩
abbrev s__law_pail : Stmt := topS 37
abbrev nm__law_pail : List Str := ["script", "turn", "mixed", "cell", "own"]
abbrev pr__law_pail : List Str := ["script", "turn"]
theorem sc__law_pail : FnScope nm__law_pail pr__law_pail (defScope s__law_pail) := ⟨rfl, rfl, rfl, by decide +kernel, rfl, by decide +kernel, by decide +kernel⟩
abbrev s__law_deal : Stmt := topS 38
abbrev nm__law_deal : List Str := ["pail", "top", "figure", "mixed"]
abbrev pr__law_deal : List Str := ["pail", "top"]
theorem sc__law_deal : FnScope nm__law_deal pr__law_deal (defScope s__law_deal) := ⟨rfl, rfl, rfl, by decide +kernel, rfl, by decide +kernel, by decide +kernel⟩
abbrev s__law_any : Stmt := topS 39
abbrev nm__law_any : List Str := ["pail", "some"]
abbrev pr__law_any : List Str := ["pail", "some"]
theorem sc__law_any : FnScope nm__law_any pr__law_any (defScope s__law_any) := ⟨rfl, rfl, rfl, by decide +kernel, rfl, by decide +kernel, by decide +kernel⟩
abbrev s__law_profile : Stmt := topS 40
abbrev nm__law_profile : List Str := ["pail", "most", "found", "turn", "lock", "cycles"]
abbrev pr__law_profile : List Str := ["pail", "most"]
theorem sc__law_profile : FnScope nm__law_profile pr__law_profile (defScope s__law_profile) := ⟨rfl, rfl, rfl, by decide +kernel, rfl, by decide +kernel, by decide +kernel⟩
abbrev s__law_left : Stmt := topS 41
abbrev nm__law_left : List Str := ["profile", "number", "turn", "lock", "cycles"]
abbrev pr__law_left : List Str := ["profile", "number"]
theorem sc__law_left : FnScope nm__law_left pr__law_left (defScope s__law_left) := ⟨rfl, rfl, rfl, by decide +kernel, rfl, by decide +kernel, by decide +kernel⟩
abbrev s__law_right : Stmt := topS 42
abbrev nm__law_right : List Str := ["pail", "lap", "profile", "whole", "number", "due", "told", "lock", "wide", "own", "cycles", "odd", "bad"]
abbrev pr__law_right : List Str := ["pail"]
theorem sc__law_right : FnScope nm__law_right pr__law_right (defScope s__law_right) := ⟨rfl, rfl, rfl, by decide +kernel, rfl, by decide +kernel, by decide +kernel⟩
abbrev s_law : Stmt := topS 43
abbrev nm_law : List Str := ["script", "turn"]
abbrev pr_law : List Str := ["script"]
theorem sc_law : FnScope nm_law pr_law (defScope s_law) := ⟨rfl, rfl, rfl, by decide +kernel, rfl, by decide +kernel, by decide +kernel⟩
def c_LETTERS : D := .str "abcdefghijklmnopqrstuvwxyz"
def c_WORDS : D := .tup [.str "call", .str "else", .str "end", .str "fun", .str "give", .str "hold", .str "if", .str "keep", .str "let", .str "out", .str "repeat", .str "sense", .str "table", .str "take", .str "task", .str "times"]
def c_MOST_LETTERS : D := .int 8
def c_OUTSIDE : D := .str ""
def c_MOST_IN_STRETCH : D := .int 200
def c_MOST_TOGETHER : D := .int 400
def c_MOST_STRETCHES : D := .int 8
def c_MOST_LONGER : D := .int 2000
structure Top (K : PySem.W.Frag) (mg : Str → Option Value) : Prop where
  f_is_whole : DefE K mg "is_whole" s_is_whole pr_is_whole
  f_is_between : DefE K mg "is_between" s_is_between pr_is_between
  f_is_tuple_of : DefE K mg "is_tuple_of" s_is_tuple_of pr_is_tuple_of
  f_is_short_tuple : DefE K mg "is_short_tuple" s_is_short_tuple pr_is_short_tuple
  f_is_name : DefE K mg "is_name" s_is_name pr_is_name
  f_is_stretch : DefE K mg "is_stretch" s_is_stretch pr_is_stretch
  f_is_profile_form : DefE K mg "is_profile_form" s_is_profile_form pr_is_profile_form
  f_cycles_in : DefE K mg "cycles_in" s_cycles_in pr_cycles_in
  f_left_of : DefE K mg "left_of" s_left_of pr_left_of
  f_lock_of : DefE K mg "lock_of" s_lock_of pr_lock_of
  f_longer_by : DefE K mg "longer_by" s_longer_by pr_longer_by
  f_check_number : DefE K mg "check_number" s_check_number pr_check_number
  f_check_profile : DefE K mg "check_profile" s_check_profile pr_check_profile
  f_check_behind : DefE K mg "check_behind" s_check_behind pr_check_behind
  f_is_profile : DefE K mg "is_profile" s_is_profile pr_is_profile
  f_cycles_of : DefE K mg "cycles_of" s_cycles_of pr_cycles_of
  f_left : DefE K mg "left" s_left pr_left
  f_lock_held : DefE K mg "lock_held" s_lock_held pr_lock_held
  f_longer : DefE K mg "longer" s_longer pr_longer
  f__law_pail : DefE K mg "_law_pail" s__law_pail pr__law_pail
  f__law_deal : DefE K mg "_law_deal" s__law_deal pr__law_deal
  f__law_any : DefE K mg "_law_any" s__law_any pr__law_any
  f__law_profile : DefE K mg "_law_profile" s__law_profile pr__law_profile
  f__law_left : DefE K mg "_law_left" s__law_left pr__law_left
  f__law_right : DefE K mg "_law_right" s__law_right pr__law_right
  f_law : DefE K mg "law" s_law pr_law
  c_LETTERS : Kst K mg "LETTERS" c_LETTERS
  c_WORDS : Kst K mg "WORDS" c_WORDS
  c_MOST_LETTERS : Kst K mg "MOST_LETTERS" c_MOST_LETTERS
  c_OUTSIDE : Kst K mg "OUTSIDE" c_OUTSIDE
  c_MOST_IN_STRETCH : Kst K mg "MOST_IN_STRETCH" c_MOST_IN_STRETCH
  c_MOST_TOGETHER : Kst K mg "MOST_TOGETHER" c_MOST_TOGETHER
  c_MOST_STRETCHES : Kst K mg "MOST_STRETCHES" c_MOST_STRETCHES
  c_MOST_LONGER : Kst K mg "MOST_LONGER" c_MOST_LONGER
  n_abs : mg "abs" = none
  n_all : mg "all" = none
  n_bool : mg "bool" = none
  n_divmod : mg "divmod" = none
  n_int : mg "int" = none
  n_isinstance : mg "isinstance" = none
  n_len : mg "len" = none
  n_list : mg "list" = none
  n_max : mg "max" = none
  n_min : mg "min" = none
  n_range : mg "range" = none
  n_repr : mg "repr" = none
  n_str : mg "str" = none
  n_sum : mg "sum" = none
  n_tuple : mg "tuple" = none
  n_zip : mg "zip" = none
theorem kw_is_profile_0_value : KwOk "is_profile" s_is_profile pr_is_profile 0 ["value"] [0] := fun _ _ _ _ _ _ us ws h1 h2 => match us, ws, h1, h2 with | [], [_], _, _ => rfl
theorem kw_left_0_number_profile : KwOk "left" s_left pr_left 0 ["number", "profile"] [1, 0] := fun _ _ _ _ _ _ us ws h1 h2 => match us, ws, h1, h2 with | [], [_, _], _, _ => rfl
theorem kw_lock_held_0_number_profile : KwOk "lock_held" s_lock_held pr_lock_held 0 ["number", "profile"] [1, 0] := fun _ _ _ _ _ _ us ws h1 h2 => match us, ws, h1, h2 with | [], [_, _], _, _ => rfl
theorem kw_longer_0_number_profile : KwOk "longer" s_longer pr_longer 0 ["number", "profile"] [1, 0] := fun _ _ _ _ _ _ us ws h1 h2 => match us, ws, h1, h2 with | [], [_, _], _, _ => rfl
end K35

namespace K35
open PySem PySem.Spec L2 PL

/-! # what the defs do, by data -/
/-- plain data: no well, no class, no script -/
def plain (d : D) : Prop := tyOf d ∈ kinds
def betw (d : D) (lo hi : Int) : Bool := match d with
  | .int n => decide (lo ≤ n) && decide (n ≤ hi)
  | _ => false
def isInt (d : D) : Bool := match d with
  | .int _ => true
  | _ => false
def tupLen (d : D) (m : Int) : Bool := match d with
  | .tup xs => decide ((xs.length : Int) = m)
  | _ => false
def tupIn (d : D) (lo hi : Int) : Bool := match d with
  | .tup xs => decide (lo ≤ (xs.length : Int)) && decide ((xs.length : Int) ≤ hi)
  | _ => false
def wordsS : List Str := ["call", "else", "end", "fun", "give", "hold", "if", "keep", "let", "out", "repeat", "sense", "table", "take", "task", "times"]
def lettersS : Str := "abcdefghijklmnopqrstuvwxyz"
def nameS (z : Str) : Bool := decide (1 ≤ z.length) && decide (z.length ≤ 8) && !(wordsS.any fun y => y == z) && z.cps.toList.all fun c => decide (c ∈ lettersS.cps.toList)
def nameD (d : D) : Bool := match d with
  | .str z => nameS z
  | _ => false
/-- a stretch, a profile -/
def sd (p : Str × Int) : D := .tup [.str p.1, .int p.2]
abbrev Pf := List (Str × Int)
def pf (p : Pf) : D := .tup (p.map sd)
def cyc (p : Pf) : Int := (p.map (·.2)).sum
def strD (most : Int) (d : D) : Bool := match d with
  | .tup [.str l, .int c] => decide (1 ≤ c) && decide (c ≤ most) && (l == "" || nameS l)
  | _ => false
/-- the stretches of a datum all of whose items are such -/
def asPf : List D → Pf
  | [] => []
  | .tup [.str l, .int c] :: r => (l, c) :: asPf r
  | _ :: r => asPf r
def unlike : Pf → Bool
  | (a, _) :: (b, c) :: r => !(a == b) && unlike ((b, c) :: r)
  | _ => true
def okPf (p : Pf) : Bool := decide ((p.head?.map (·.1)) = some "") && decide ((p.getLast?.map (·.1)) = some "") && decide (cyc p ≤ 400) && unlike p
def profD (d : D) : Bool := match d with
  | .tup xs => decide (1 ≤ xs.length) && decide (xs.length ≤ 8) && xs.all (strD 200) && okPf (asPf xs)
  | _ => false
/-! strings are short and right, at any depth that matters -/
mutual
def okD : D → Bool
  | .str x => PyData.strOk x && decide (x.length ≤ 1000)
  | .tup xs => okDL xs && decide (xs.length ≤ 1000)
  | .lst xs => okDL xs && decide (xs.length ≤ 1000)
  | .non => true
  | .bl _ => true
  | .int _ => true
  | .well => false
  | .ty _ => false
  | .scr _ => false
def okDL : List D → Bool
  | [] => true
  | d :: ds => okD d && okDL ds
end
/-- what is left behind so many cycles -/
def leftP : Pf → Int → Pf
  | [], _ => []
  | (l, c) :: r, n => if c ≤ n then leftP r (n - c) else if n = 0 then (l, c) :: r else (l, c - n) :: r
def lockP : Pf → Str
  | [] => ""
  | (l, _) :: _ => l
/-- with so many more in the last stretch -/
def moreP : Pf → Int → Pf
  | [], _ => []
  | [(l, c)], n => [(l, c + n)]
  | s :: t :: r, n => s :: moreP (t :: r) n
/-- a right profile -/
structure Rt (p : Pf) : Prop where
  len1 : 1 ≤ p.length
  len8 : p.length ≤ 8
  each : ∀ s ∈ p, 1 ≤ s.2 ∧ s.2 ≤ 200 ∧ (s.1 = "" ∨ nameS s.1 = true)
  ok : okPf p = true

def sp_is_whole : PSp := fun ds q _ => ∃ d, ds = [d] ∧ plain d ∧ q (.bl (isInt d))
def sp_is_between : PSp := fun ds q _ => ∃ d lo hi, ds = [d, .int lo, .int hi] ∧ plain d ∧ q (.bl (betw d lo hi))
def sp_is_tuple_of : PSp := fun ds q _ => ∃ d m, ds = [d, .int m] ∧ plain d ∧ (∀ xs, d = .tup xs → xs.length ≤ 1000) ∧ m.natAbs ≤ 1000 ∧ q (.bl (tupLen d m))
def sp_is_short_tuple : PSp := fun ds q _ => ∃ d lo hi, ds = [d, .int lo, .int hi] ∧ plain d ∧ q (.bl (tupIn d lo hi))
def sp_is_name : PSp := fun ds q _ => ∃ d, ds = [d] ∧ okD d = true ∧ q (.bl (nameD d))
def sp_is_stretch : PSp := fun ds q _ => ∃ d, ds = [d, .int 200] ∧ okD d = true ∧ q (.bl (strD 200 d))
def sp_cycles_in : PSp := fun ds q _ => ∃ p : Pf, ds = [pf p] ∧ p.length ≤ 1000 ∧ q (.int (cyc p))
def sp_is_profile_form : PSp := fun ds q _ => ∃ d, ds = [d] ∧ okD d = true ∧ q (.bl (profD d))
def sp_left_of : PSp := fun ds q _ => ∃ (p : Pf) (n : Int), ds = [pf p, .int n] ∧ p.length ≤ 8 ∧ (∀ s ∈ p, 1 ≤ s.2 ∧ s.2 ≤ 200) ∧ 0 ≤ n ∧ n ≤ 400 ∧ q (pf (leftP p n))
def sp_lock_of : PSp := fun ds q _ => ∃ p : Pf, ds = [pf p] ∧ tame (pf p) ∧ q (.str (lockP p))
def sp_longer_by : PSp := fun ds q _ => ∃ (p : Pf) (n : Int), ds = [pf p, .int n] ∧ Rt p ∧ okD (pf p) = true ∧ 0 ≤ n ∧ q (.lst (if profD (pf (moreP p n)) then [pf (moreP p n)] else []))
def sp_check_number : PSp := fun ds q _ => ∃ d lo hi, ds = [d, .int lo, .int hi] ∧ plain d ∧ betw d lo hi = true ∧ q .non
def sp_check_profile : PSp := fun ds q _ => ∃ d, ds = [d] ∧ okD d = true ∧ profD d = true ∧ q .non
def sp_check_behind : PSp := fun ds q _ => ∃ (p : Pf) (n : Int), ds = [pf p, .int n] ∧ okD (pf p) = true ∧ profD (pf p) = true ∧ p.length ≤ 8 ∧ 0 ≤ n ∧ n ≤ cyc p ∧ q .non
def sp_is_profile : PSp := sp_is_profile_form
def sp_cycles_of : PSp := fun ds q _ => ∃ p : Pf, ds = [pf p] ∧ Rt p ∧ okD (pf p) = true ∧ q (.int (cyc p))
def sp_left : PSp := fun ds q _ => ∃ (p : Pf) (n : Int), ds = [pf p, .int n] ∧ Rt p ∧ okD (pf p) = true ∧ 0 ≤ n ∧ n ≤ cyc p ∧ q (pf (leftP p n))
def sp_lock_held : PSp := fun ds q _ => ∃ (p : Pf) (n : Int), ds = [pf p, .int n] ∧ Rt p ∧ okD (pf p) = true ∧ 0 ≤ n ∧ n ≤ cyc p ∧ q (.str (lockP (leftP p n)))
def sp_longer : PSp := fun ds q _ => ∃ (p : Pf) (n : Int), ds = [pf p, .int n] ∧ Rt p ∧ okD (pf p) = true ∧ 0 ≤ n ∧ n ≤ 2000 ∧ q (if profD (pf (moreP p n)) then pf (moreP p n) else .non)
def sp__law_pail : PSp := fun ds q _ => ∃ (ns : List Int) (t : Int), ds = [.scr ns, .int t] ∧ ns.length ≤ 63 ∧ 0 ≤ t ∧ ∀ i j k : Int, 0 ≤ i → 0 ≤ j → j < 2147483648 → q (.lst [.int i, .int j, .int k])
def sp__law_deal : PSp := fun ds q _ => ∃ top : Int, ds = [.well, .int top] ∧ 0 < top ∧ top < 1073741824 ∧ ∀ k : Int, 0 ≤ k → k < top → q (.int k)
def sp__law_any : PSp := fun ds q _ => ∃ xs : List D, ds = [.well, .lst xs] ∧ 0 < xs.length ∧ xs.length ≤ 1000 ∧ ∀ d, d ∈ xs → q d
def sp__law_profile : PSp := fun ds q _ => ds = [.well, .int 40] ∧ ∀ p : Pf, Rt p → okD (pf p) = true → cyc p ≤ 40 → q (pf p)
def sp__law_left : PSp := fun ds q _ => ∃ (p : Pf) (n : Int), ds = [pf p, .int n] ∧ (∀ s ∈ p, 1 ≤ s.2) ∧ p.length ≤ 8 ∧ 0 ≤ n ∧ n ≤ cyc p ∧ n ≤ 400 ∧ q (pf (leftP p n))
def sp__law_right : PSp := fun ds q _ => ds = [.well] ∧ q (.bl true)
end K35

namespace K35
open PySem PySem.Spec L2 PL
section
variable {P : Program} {w : World} {K : PySem.W.Frag} {mg : Str → Option Value} {base : Heap}
def g_is_whole : PSt := sRet (fAnd (fCB isiG (fCons (fVar 0) (fCons (fC (.ty "int")) (fNil)))) (fNot (fCB isiG (fCons (fVar 0) (fCons (fC (.ty "bool")) (fNil))))))
theorem body_is_whole (T : Top K mg) : ∀ f, Bdy P w K mg base 0 "is_whole" s_is_whole nm_is_whole f g_is_whole := fun f cdv A outer s0 H E hr hgd tk hp => (dss_one (ds_ret (d_and (d_callB call_isi isi_ok (by rfl) T.n_isinstance (by decide +kernel) (da_cons (d_var 0) (da_cons (d_ty (n := "int") (by rfl) T.n_int (by decide +kernel)) da_nil))) (d_one (d_not (d_callB call_isi isi_ok (by rfl) T.n_isinstance (by decide +kernel) (da_cons (d_var 0) (da_cons (d_ty (n := "bool") (by rfl) T.n_bool (by decide +kernel)) da_nil))))))))
def g_is_tuple_of : PSt := sRet (fAnd (fCB isiG (fCons (fVar 0) (fCons (fC (.ty "tuple")) (fNil)))) (fBin eqG (fCB lenG (fCons (fVar 0) (fNil))) (fVar 1)))
theorem body_is_tuple_of (T : Top K mg) : ∀ f, Bdy P w K mg base 0 "is_tuple_of" s_is_tuple_of nm_is_tuple_of f g_is_tuple_of := fun f cdv A outer s0 H E hr hgd tk hp => (dss_one (ds_ret (d_and (d_callB call_isi isi_ok (by rfl) T.n_isinstance (by decide +kernel) (da_cons (d_var 0) (da_cons (d_ty (n := "tuple") (by rfl) T.n_tuple (by decide +kernel)) da_nil))) (d_one (d_cmp (op_eqS hr.units) eq_ok (d_callB c_len len_ok (by rfl) T.n_len (by decide +kernel) (da_cons (d_var 0) da_nil)) (d_var 1) (nomark _))))))
def g_is_short_tuple : PSt := sRet (fAnd (fCB isiG (fCons (fVar 0) (fCons (fC (.ty "tuple")) (fNil)))) (fChain leG leG (fVar 1) (fCB lenG (fCons (fVar 0) (fNil))) (fVar 2)))
theorem body_is_short_tuple (T : Top K mg) : ∀ f, Bdy P w K mg base 0 "is_short_tuple" s_is_short_tuple nm_is_short_tuple f g_is_short_tuple := fun f cdv A outer s0 H E hr hgd tk hp => (dss_one (ds_ret (d_and (d_callB call_isi isi_ok (by rfl) T.n_isinstance (by decide +kernel) (da_cons (d_var 0) (da_cons (d_ty (n := "tuple") (by rfl) T.n_tuple (by decide +kernel)) da_nil))) (d_one (d_chain op_le op_le le_ok le_ok (d_var 1) (d_callB c_len len_ok (by rfl) T.n_len (by decide +kernel) (da_cons (d_var 0) da_nil)) (d_var 2))))))
def g_is_name : PSt := sSeq (sIf (tOr' (tNot' (tB' (fCB isiG (fCons (fVar 0) (fCons (fC (.ty "str")) (fNil)))))) (tOr' (tNot' (tB' (fChain leG leG (fC (.int 1)) (fCB lenG (fCons (fVar 0) (fNil))) (fC c_MOST_LETTERS)))) (tB' (fBin (inG false) (fVar 0) (fC c_WORDS))))) (sRet (fC (.bl false))) (sNil)) (sRet (fCB allG (fCons (fLc (fItems (fVar 0)) (.nm 1) (tYes') (fBin (inG false) (fVar 1) (fC c_LETTERS)) [1]) (fNil))))
theorem body_is_name (T : Top K mg) : ∀ f, Bdy P w K mg base 0 "is_name" s_is_name nm_is_name f g_is_name := fun f cdv A outer s0 H E hr hgd tk hp => (dss_cons (ds_if (dw_pt (dw_or (dt_not (dt_val (d_callB call_isi isi_ok (by rfl) T.n_isinstance (by decide +kernel) (da_cons (d_var 0) (da_cons (d_ty (n := "str") (by rfl) T.n_str (by decide +kernel)) da_nil))))) (dw_or (dt_not (dt_chain op_le op_le le_ok le_ok d_int (d_callB c_len len_ok (by rfl) T.n_len (by decide +kernel) (da_cons (d_var 0) da_nil)) (d_glob (by rfl) T.c_MOST_LETTERS))) (dw_or1 (dt_cmp op_inA in_ok (d_var 0) (d_glob (by rfl) T.c_WORDS) rfl))))) (dss_one (ds_ret d_bl)) dss_nil) (dss_one (ds_ret (d_callB (cr_all rfl) all_ok (by rfl) T.n_all (by decide +kernel) (da_cons (d_lc (own := [("sign", 1)]) (t := .nm 1) rfl sc_is_name.nd (di_seq (d_var 0)) (blkOk_by (N := nm_is_name) (sc := defScope s_is_name) (by decide +kernel)) (fun _ _ _ _ _ => (g_nm 1 sc_is_name.nd rfl (by first | exact Or.inl rfl | exact Or.inr rfl))) (fun _ _ _ _ _ => dts_nil) (fun _ _ _ _ _ => (d_cmp op_inA in_ok (d_var 1) (d_glob (by rfl) T.c_LETTERS) rfl))) da_nil)))))
def g_cycles_in : PSt := sRet (fCB sumG (fCons (fLc (fItems (fVar 0)) (.tp [.nm 1, .nm 2]) (tYes') (fVar 2) [1, 2]) (fNil)))
theorem body_cycles_in (T : Top K mg) : ∀ f, Bdy P w K mg base 0 "cycles_in" s_cycles_in nm_cycles_in f g_cycles_in := fun f cdv A outer s0 H E hr hgd tk hp => (dss_one (ds_ret (d_callB (cr_sum rfl) sum_ok (by rfl) T.n_sum (by decide +kernel) (da_cons (d_lc (own := [("_", 1), ("cycles", 2)]) (t := .tp [.nm 1, .nm 2]) rfl sc_cycles_in.nd (di_seq (d_var 0)) (blkOk_by (N := nm_cycles_in) (sc := defScope s_cycles_in) (by decide +kernel)) (fun _ _ _ _ _ => (g_tp rfl (gs_cons (g_nm 1 sc_cycles_in.nd rfl (by first | exact Or.inl rfl | exact Or.inr rfl)) (gs_cons (g_nm 2 sc_cycles_in.nd rfl (by first | exact Or.inl rfl | exact Or.inr rfl)) gs_nil)))) (fun _ _ _ _ _ => dts_nil) (fun _ _ _ _ _ => (d_var 2))) da_nil))))
def g_left_of : PSt := sSeq (sSet 2 (fC (.int 0))) (sSeq (sWhile (tAnd' (tB' (fBin ltG (fVar 2) (fCB lenG (fCons (fVar 0) (fNil))))) (tB' (fBin geG (fVar 1) (fBin ixG (fBin ixG (fVar 0) (fVar 2)) (fC (.int 1)))))) (sSeq (sSet 1 (fBin subG (fVar 1) (fBin ixG (fBin ixG (fVar 0) (fVar 2)) (fC (.int 1))))) (sSet 2 (fBin addG (fVar 2) (fC (.int 1)))))) (sSeq (sIf (tOr' (tB' (fBin eqG (fVar 2) (fCB lenG (fCons (fVar 0) (fNil))))) (tB' (fBin eqG (fVar 1) (fC (.int 0))))) (sRet (fSl (fVar 0) (fPart (fVar 2)) (fNo))) (sNil)) (sSeq (sAsg (.tp [.nm 3, .nm 4]) (fBin ixG (fVar 0) (fVar 2))) (sRet (fTup (fCons (fTup (fCons (fVar 3) (fCons (fBin subG (fVar 4) (fVar 1)) (fNil)))) (fStar (fSl (fVar 0) (fPart (fBin addG (fVar 2) (fC (.int 1)))) (fNo)) (fNil))))))))
theorem body_left_of (T : Top K mg) : ∀ f, Bdy P w K mg base 0 "left_of" s_left_of nm_left_of f g_left_of := fun f cdv A outer s0 H E hr hgd tk hp => (dss_cons (ds_set 2 sc_left_of.nd rfl (by first | exact Or.inl rfl | exact Or.inr rfl) d_int) (dss_cons (ds_while hp (dw_pt (dw_and (dt_cmp op_lt lt_ok (d_var 2) (d_callB c_len len_ok (by rfl) T.n_len (by decide +kernel) (da_cons (d_var 0) da_nil)) (nomark _)) (dw_and1 (dt_cmp op_ge ge_ok (d_var 1) (d_ix ix_seq ix_ok (d_ix ix_seq ix_ok (d_var 0) (d_var 2) (fun _ _ => rfl)) d_int (fun _ _ => rfl)) (nomark _))))) (dss_cons (ds_set 1 sc_left_of.nd rfl (by first | exact Or.inl rfl | exact Or.inr rfl) (d_op op_sub sub_ok (d_var 1) (d_ix ix_seq ix_ok (d_ix ix_seq ix_ok (d_var 0) (d_var 2) (fun _ _ => rfl)) d_int (fun _ _ => rfl)))) (dss_one (ds_set 2 sc_left_of.nd rfl (by first | exact Or.inl rfl | exact Or.inr rfl) (d_op op_addA add_ok (d_var 2) d_int))))) (dss_cons (ds_if (dw_pt (dw_or (dt_cmp (op_eqS hr.units) eq_ok (d_var 2) (d_callB c_len len_ok (by rfl) T.n_len (by decide +kernel) (da_cons (d_var 0) da_nil)) (nomark _)) (dw_or1 (dt_cmp (op_eqS hr.units) eq_ok (d_var 1) d_int (nomark _))))) (dss_one (ds_ret (d_slice (d_var 0) (dp_some (d_var 2)) dp_none))) dss_nil) (dss_cons (ds_asg (d_ix ix_seq ix_ok (d_var 0) (d_var 2) (fun _ _ => rfl)) (g_tp rfl (gs_cons (g_nm 3 sc_left_of.nd rfl (by first | exact Or.inl rfl | exact Or.inr rfl)) (gs_cons (g_nm 4 sc_left_of.nd rfl (by first | exact Or.inl rfl | exact Or.inr rfl)) gs_nil)))) (dss_one (ds_ret (d_tup (da_cons (d_tup (da_cons (d_var 3) (da_cons (d_op op_sub sub_ok (d_var 4) (d_var 1)) da_nil))) (da_star (d_slice (d_var 0) (dp_some (d_op op_addA add_ok (d_var 2) d_int)) dp_none) da_nil)))))))))
def g_lock_of : PSt := sRet (fIf (tB' (fBin neG (fVar 0) (fTup (fNil)))) (fBin ixG (fBin ixG (fVar 0) (fC (.int 0))) (fC (.int 0))) (fC c_OUTSIDE))
theorem body_lock_of (T : Top K mg) : ∀ f, Bdy P w K mg base 0 "lock_of" s_lock_of nm_lock_of f g_lock_of := fun f cdv A outer s0 H E hr hgd tk hp => (dss_one (ds_ret (d_if (dt_cmp (op_neS hr.units) ne_ok (d_var 0) (d_tup da_nil) (nomark _)) (d_ix ix_seq ix_ok (d_ix ix_seq ix_ok (d_var 0) d_int (fun _ _ => rfl)) d_int (fun _ _ => rfl)) (d_glob (by rfl) T.c_OUTSIDE))))
def g__law_pail : PSt := sSeq (sSet 2 (fBin addG (fC (.int 1151306)) (fBin mulG (fC (.int 10867)) (fVar 1)))) (sSeq (sFor (fItems (fSl (fVar 0) (fNo) (fPart (fC (.int 12))))) (.nm 3) (sSet 2 (fBin modG (fCB toIntG (fCons (fBin addG (fBin addG (fBin mulG (fVar 2) (fC (.int 65071))) (fBin mulG (fBin modG (fCB toIntG (fCons (fVar 3) (fNil))) (fC (.int 2147483423))) (fC (.int 17)))) (fC (.int 5))) (fNil))) (fC (.int 2147483423))))) (sSeq (sSet 4 (fIf (tB' (fBin ltG (fVar 1) (fCB lenG (fCons (fVar 0) (fNil))))) (fCB toIntG (fCons (fBin ixG (fVar 0) (fVar 1)) (fNil))) (fC (.int 0)))) (sSeq (sSet 2 (fBin modG (fCB toIntG (fCons (fBin addG (fBin addG (fBin mulG (fVar 2) (fC (.int 97))) (fBin mulG (fBin modG (fVar 4) (fC (.int 2147483423))) (fC (.int 75029)))) (fC (.int 13))) (fNil))) (fC (.int 2147483423)))) (sRet (fLst (fCons (fIf (tOr' (tB' (fBin ltG (fVar 4) (fC (.int 0)))) (tB' (fBin geG (fVar 4) (fBin powG (fC (.int 10)) (fC (.int 15)))))) (fCB absG (fCons (fVar 4) (fNil))) (fC (.int 0))) (fCons (fVar 2) (fCons (fC (.int 0)) (fNil)))))))))
theorem body__law_pail (T : Top K mg) : ∀ f, Bdy P w K mg base 0 "_law_pail" s__law_pail nm__law_pail f g__law_pail := fun f cdv A outer s0 H E hr hgd tk hp => (dss_cons (ds_set 2 sc__law_pail.nd rfl (by first | exact Or.inl rfl | exact Or.inr rfl) (d_op op_addA add_ok d_int (d_op op_mul mul_ok d_int (d_var 1)))) (dss_cons (ds_for hp rfl (di_seq (d_slice (d_var 0) dp_none (dp_some d_int))) (g_nm 3 sc__law_pail.nd rfl (by first | exact Or.inl rfl | exact Or.inr rfl)) (dss_one (ds_set 2 sc__law_pail.nd rfl (by first | exact Or.inl rfl | exact Or.inr rfl) (d_op op_mod mod_ok (d_callT call_int1 toInt_ok (by rfl) T.n_int (by decide +kernel) (da_cons (d_op op_addA add_ok (d_op op_addA add_ok (d_op op_mul mul_ok (d_var 2) d_int) (d_op op_mul mul_ok (d_op op_mod mod_ok (d_callT call_int1 toInt_ok (by rfl) T.n_int (by decide +kernel) (da_cons (d_var 3) da_nil)) d_int) d_int)) d_int) da_nil)) d_int)))) (dss_cons (ds_set 4 sc__law_pail.nd rfl (by first | exact Or.inl rfl | exact Or.inr rfl) (d_if (dt_cmp op_lt lt_ok (d_var 1) (d_callB c_len len_ok (by rfl) T.n_len (by decide +kernel) (da_cons (d_var 0) da_nil)) (nomark _)) (d_callT call_int1 toInt_ok (by rfl) T.n_int (by decide +kernel) (da_cons (d_ix ix_seq ix_ok (d_var 0) (d_var 1) (fun _ _ => rfl)) da_nil)) d_int)) (dss_cons (ds_set 2 sc__law_pail.nd rfl (by first | exact Or.inl rfl | exact Or.inr rfl) (d_op op_mod mod_ok (d_callT call_int1 toInt_ok (by rfl) T.n_int (by decide +kernel) (da_cons (d_op op_addA add_ok (d_op op_addA add_ok (d_op op_mul mul_ok (d_var 2) d_int) (d_op op_mul mul_ok (d_op op_mod mod_ok (d_var 4) d_int) d_int)) d_int) da_nil)) d_int)) (dss_one (ds_ret (d_lst (da_cons (d_if (dw_pt (dw_or (dt_cmp op_lt lt_ok (d_var 4) d_int (nomark _)) (dw_or1 (dt_cmp op_ge ge_ok (d_var 4) (d_op op_pow pow_ok d_int d_int) (nomark _))))) (d_callB call_abs int1_ok (by rfl) T.n_abs (by decide +kernel) (da_cons (d_var 4) da_nil)) d_int) (da_cons (d_var 2) (da_cons d_int da_nil))))))))))
def g__law_deal : PSt := sSeq (sIf (tB' (fBin gtG (fBin ixG (fVar 0) (fC (.int 0))) (fC (.int 0)))) (sSeq (sAsg (.tp [.wl 0 0, .nm 2]) (fCB dmG (fCons (fBin ixG (fVar 0) (fC (.int 0))) (fCons (fVar 1) (fNil))))) (sRet (fVar 2))) (sNil)) (sSeq (sAsg (.wl 0 2) (fBin addG (fBin ixG (fVar 0) (fC (.int 2))) (fC (.int 1)))) (sSeq (sSet 3 (fBin modG (fCB toIntG (fCons (fBin addG (fBin mulG (fBin ixG (fVar 0) (fC (.int 1))) (fC (.int 15559))) (fBin mulG (fC (.int 11933)) (fBin ixG (fVar 0) (fC (.int 2))))) (fNil))) (fC (.int 2147483423)))) (sSeq (sAsg (.wl 0 1) (fBin modG (fCB toIntG (fCons (fBin addG (fBin mulG (fVar 3) (fBin addG (fBin modG (fCB toIntG (fCons (fVar 3) (fNil))) (fC (.int 5171))) (fC (.int 30029)))) (fBin mulG (fC (.int 37)) (fBin ixG (fVar 0) (fC (.int 2))))) (fNil))) (fC (.int 2147483423)))) (sRet (fBin modG (fCB toIntG (fCons (fBin fdivG (fBin ixG (fVar 0) (fC (.int 1))) (fC (.int 349))) (fNil))) (fVar 1))))))
theorem body__law_deal (T : Top K mg) : ∀ f, Bdy P w K mg base 0 "_law_deal" s__law_deal nm__law_deal f g__law_deal := fun f cdv A outer s0 H E hr hgd tk hp => (dss_cons (ds_if (dt_cmp op_gt gt_ok (d_ix ix_seq ix_ok (d_var 0) d_int (fun _ _ => rfl)) d_int (nomark _)) (dss_cons (ds_asg (d_callB call_divmod dm_ok (by rfl) T.n_divmod (by decide +kernel) (da_cons (d_ix ix_seq ix_ok (d_var 0) d_int (fun _ _ => rfl)) (da_cons (d_var 1) da_nil))) (g_tp rfl (gs_cons (g_wl 0 0) (gs_cons (g_nm 2 sc__law_deal.nd rfl (by first | exact Or.inl rfl | exact Or.inr rfl)) gs_nil)))) (dss_one (ds_ret (d_var 2)))) dss_nil) (dss_cons (ds_asg (d_op op_addA add_ok (d_ix ix_seq ix_ok (d_var 0) d_int (fun _ _ => rfl)) d_int) (g_wl 0 2)) (dss_cons (ds_set 3 sc__law_deal.nd rfl (by first | exact Or.inl rfl | exact Or.inr rfl) (d_op op_mod mod_ok (d_callT call_int1 toInt_ok (by rfl) T.n_int (by decide +kernel) (da_cons (d_op op_addA add_ok (d_op op_mul mul_ok (d_ix ix_seq ix_ok (d_var 0) d_int (fun _ _ => rfl)) d_int) (d_op op_mul mul_ok d_int (d_ix ix_seq ix_ok (d_var 0) d_int (fun _ _ => rfl)))) da_nil)) d_int)) (dss_cons (ds_asg (d_op op_mod mod_ok (d_callT call_int1 toInt_ok (by rfl) T.n_int (by decide +kernel) (da_cons (d_op op_addA add_ok (d_op op_mul mul_ok (d_var 3) (d_op op_addA add_ok (d_op op_mod mod_ok (d_callT call_int1 toInt_ok (by rfl) T.n_int (by decide +kernel) (da_cons (d_var 3) da_nil)) d_int) d_int)) (d_op op_mul mul_ok d_int (d_ix ix_seq ix_ok (d_var 0) d_int (fun _ _ => rfl)))) da_nil)) d_int) (g_wl 0 1)) (dss_one (ds_ret (d_op op_mod mod_ok (d_callT call_int1 toInt_ok (by rfl) T.n_int (by decide +kernel) (da_cons (d_op op_fdiv fdiv_ok (d_ix ix_seq ix_ok (d_var 0) d_int (fun _ _ => rfl)) d_int) da_nil)) (d_var 1))))))))
def g__law_left : PSt := sSeq (sFor (fRng1 (fCons (fVar 1) (fNil))) (.nm 2) (sSeq (sAsg (.tp [.nm 3, .nm 4]) (fBin ixG (fVar 0) (fC (.int 0)))) (sSet 0 (fBin addG (fIf (tB' (fBin gtG (fVar 4) (fC (.int 1)))) (fTup (fCons (fTup (fCons (fVar 3) (fCons (fBin subG (fVar 4) (fC (.int 1))) (fNil)))) (fNil))) (fTup (fNil))) (fSl (fVar 0) (fPart (fC (.int 1))) (fNo)))))) (sRet (fVar 0))
theorem body__law_left (T : Top K mg) : ∀ f, Bdy P w K mg base 0 "_law_left" s__law_left nm__law_left f g__law_left := fun f cdv A outer s0 H E hr hgd tk hp => (dss_cons (ds_for hp rfl (di_rng1 (by rfl) T.n_range (da_cons (d_var 1) da_nil)) (g_nm 2 sc__law_left.nd rfl (by first | exact Or.inl rfl | exact Or.inr rfl)) (dss_cons (ds_asg (d_ix ix_seq ix_ok (d_var 0) d_int (fun _ _ => rfl)) (g_tp rfl (gs_cons (g_nm 3 sc__law_left.nd rfl (by first | exact Or.inl rfl | exact Or.inr rfl)) (gs_cons (g_nm 4 sc__law_left.nd rfl (by first | exact Or.inl rfl | exact Or.inr rfl)) gs_nil)))) (dss_one (ds_set 0 sc__law_left.nd rfl (by first | exact Or.inl rfl | exact Or.inr rfl) (d_op op_addA add_ok (d_if (dt_cmp op_gt gt_ok (d_var 4) d_int (nomark _)) (d_tup (da_cons (d_tup (da_cons (d_var 3) (da_cons (d_op op_sub sub_ok (d_var 4) d_int) da_nil))) da_nil)) (d_tup da_nil)) (d_slice (d_var 0) (dp_some d_int) dp_none)))))) (dss_one (ds_ret (d_var 0))))
def g_is_between : PSt := sRet (fAnd (fCall sp_is_whole (fCons (fVar 0) (fNil))) (fChain leG leG (fVar 1) (fVar 0) (fVar 2)))
theorem body_is_between (T : Top K mg) (F_is_whole : FnD P w K mg base 1 "is_whole" s_is_whole pr_is_whole sp_is_whole) : ∀ f, Bdy P w K mg base 1 "is_between" s_is_between nm_is_between f g_is_between := fun f cdv A outer s0 H E hr hgd tk hp => (dss_one (ds_ret (d_and (d_call F_is_whole hgd (hr.mono (by decide)) tk (by rfl) (da_cons (d_var 0) da_nil)) (d_one (d_chain op_le op_le le_ok le_ok (d_var 1) (d_var 0) (d_var 2))))))
def g__law_any : PSt := sRet (fBin ixG (fVar 1) (fCall sp__law_deal (fCons (fVar 0) (fCons (fCB lenG (fCons (fVar 1) (fNil))) (fNil)))))
theorem body__law_any (T : Top K mg) (F__law_deal : FnD P w K mg base 1 "_law_deal" s__law_deal pr__law_deal sp__law_deal) : ∀ f, Bdy P w K mg base 1 "_law_any" s__law_any nm__law_any f g__law_any := fun f cdv A outer s0 H E hr hgd tk hp => (dss_one (ds_ret (d_ix ix_seq ix_ok (d_var 1) (d_call F__law_deal hgd (hr.mono (by decide)) tk (by rfl) (da_cons (d_var 0) (da_cons (d_callB c_len len_ok (by rfl) T.n_len (by decide +kernel) (da_cons (d_var 1) da_nil)) da_nil))) (fun _ _ => rfl))))
def g_is_stretch : PSt := sSeq (sIf (tOr' (tNot' (tB' (fCall sp_is_tuple_of (fCons (fVar 0) (fCons (fC (.int 2)) (fNil)))))) (tOr' (tNot' (tB' (fCB isiG (fCons (fBin ixG (fVar 0) (fC (.int 0))) (fCons (fC (.ty "str")) (fNil)))))) (tNot' (tB' (fCall sp_is_between (fCons (fBin ixG (fVar 0) (fC (.int 1))) (fCons (fC (.int 1)) (fCons (fVar 1) (fNil))))))))) (sRet (fC (.bl false))) (sNil)) (sRet (fOr (fBin eqG (fBin ixG (fVar 0) (fC (.int 0))) (fC c_OUTSIDE)) (fCall sp_is_name (fCons (fBin ixG (fVar 0) (fC (.int 0))) (fNil)))))
theorem body_is_stretch (T : Top K mg) (F_is_tuple_of : FnD P w K mg base 1 "is_tuple_of" s_is_tuple_of pr_is_tuple_of sp_is_tuple_of) (F_is_between : FnD P w K mg base 2 "is_between" s_is_between pr_is_between sp_is_between) (F_is_name : FnD P w K mg base 1 "is_name" s_is_name pr_is_name sp_is_name) : ∀ f, Bdy P w K mg base 2 "is_stretch" s_is_stretch nm_is_stretch f g_is_stretch := fun f cdv A outer s0 H E hr hgd tk hp => (dss_cons (ds_if (dw_pt (dw_or (dt_not (dt_val (d_call F_is_tuple_of hgd (hr.mono (by decide)) tk (by rfl) (da_cons (d_var 0) (da_cons d_int da_nil))))) (dw_or (dt_not (dt_val (d_callB call_isi isi_ok (by rfl) T.n_isinstance (by decide +kernel) (da_cons (d_ix ix_seq ix_ok (d_var 0) d_int (fun _ _ => rfl)) (da_cons (d_ty (n := "str") (by rfl) T.n_str (by decide +kernel)) da_nil))))) (dw_or1 (dt_not (dt_val (d_call F_is_between hgd (hr.mono (by decide)) tk (by rfl) (da_cons (d_ix ix_seq ix_ok (d_var 0) d_int (fun _ _ => rfl)) (da_cons d_int (da_cons (d_var 1) da_nil)))))))))) (dss_one (ds_ret d_bl)) dss_nil) (dss_one (ds_ret (d_or (d_cmp (op_eqS hr.units) eq_ok (d_ix ix_seq ix_ok (d_var 0) d_int (fun _ _ => rfl)) (d_glob (by rfl) T.c_OUTSIDE) (nomark _)) (d_one (d_call F_is_name hgd (hr.mono (by decide)) tk (by rfl) (da_cons (d_ix ix_seq ix_ok (d_var 0) d_int (fun _ _ => rfl)) da_nil)))))))
def g_check_number : PSt := sIf (tNot' (tB' (fCall sp_is_between (fCons (fVar 0) (fCons (fVar 1) (fCons (fVar 2) (fNil))))))) (sNever) (sNil)
theorem body_check_number (T : Top K mg) (F_is_between : FnD P w K mg base 2 "is_between" s_is_between pr_is_between sp_is_between) : ∀ f, Bdy P w K mg base 2 "check_number" s_check_number nm_check_number f g_check_number := fun f cdv A outer s0 H E hr hgd tk hp => (dss_one (ds_if (dt_not (dt_val (d_call F_is_between hgd (hr.mono (by decide)) tk (by rfl) (da_cons (d_var 0) (da_cons (d_var 1) (da_cons (d_var 2) da_nil)))))) (dss_one ds_never) dss_nil))
def g__law_profile : PSt := sSeq (sSet 2 (fLst (fCons (fTup (fCons (fC (.str "")) (fCons (fBin addG (fC (.int 1)) (fCall sp__law_deal (fCons (fVar 0) (fCons (fC (.int 3)) (fNil))))) (fNil)))) (fNil)))) (sSeq (sFor (fRng1 (fCons (fCall sp__law_any (fCons (fVar 0) (fCons (fLst (fCons (fC (.int 0)) (fCons (fC (.int 0)) (fCons (fC (.int 1)) (fCons (fC (.int 2)) (fNil)))))) (fNil)))) (fNil))) (.nm 3) (sSet 2 (fBin addG (fVar 2) (fLst (fCons (fTup (fCons (fCall sp__law_any (fCons (fVar 0) (fCons (fLst (fCons (fC (.str "a")) (fCons (fC (.str "b")) (fNil)))) (fNil)))) (fCons (fBin addG (fC (.int 1)) (fCall sp__law_deal (fCons (fVar 0) (fCons (fC (.int 3)) (fNil))))) (fNil)))) (fCons (fTup (fCons (fC (.str "")) (fCons (fBin addG (fC (.int 1)) (fCall sp__law_deal (fCons (fVar 0) (fCons (fC (.int 2)) (fNil))))) (fNil)))) (fNil))))))) (sRet (fIf (tB' (fBin leG (fCB sumG (fCons (fLc (fItems (fVar 2)) (.tp [.nm 4, .nm 5]) (tYes') (fVar 5) [4, 5]) (fNil))) (fVar 1))) (fCB tupleG (fCons (fVar 2) (fNil))) (fTup (fCons (fTup (fCons (fC (.str "")) (fCons (fVar 1) (fNil)))) (fNil))))))
theorem body__law_profile (T : Top K mg) (F__law_deal : FnD P w K mg base 1 "_law_deal" s__law_deal pr__law_deal sp__law_deal) (F__law_any : FnD P w K mg base 2 "_law_any" s__law_any pr__law_any sp__law_any) : ∀ f, Bdy P w K mg base 2 "_law_profile" s__law_profile nm__law_profile f g__law_profile := fun f cdv A outer s0 H E hr hgd tk hp => (dss_cons (ds_set 2 sc__law_profile.nd rfl (by first | exact Or.inl rfl | exact Or.inr rfl) (d_lst (da_cons (d_tup (da_cons d_str (da_cons (d_op op_addA add_ok d_int (d_call F__law_deal hgd (hr.mono (by decide)) tk (by rfl) (da_cons (d_var 0) (da_cons d_int da_nil)))) da_nil))) da_nil))) (dss_cons (ds_for hp rfl (di_rng1 (by rfl) T.n_range (da_cons (d_call F__law_any hgd (hr.mono (by decide)) tk (by rfl) (da_cons (d_var 0) (da_cons (d_lst (da_cons d_int (da_cons d_int (da_cons d_int (da_cons d_int da_nil))))) da_nil))) da_nil)) (g_nm 3 sc__law_profile.nd rfl (by first | exact Or.inl rfl | exact Or.inr rfl)) (dss_one (ds_set 2 sc__law_profile.nd rfl (by first | exact Or.inl rfl | exact Or.inr rfl) (d_op op_addA add_ok (d_var 2) (d_lst (da_cons (d_tup (da_cons (d_call F__law_any hgd (hr.mono (by decide)) tk (by rfl) (da_cons (d_var 0) (da_cons (d_lst (da_cons d_str (da_cons d_str da_nil))) da_nil))) (da_cons (d_op op_addA add_ok d_int (d_call F__law_deal hgd (hr.mono (by decide)) tk (by rfl) (da_cons (d_var 0) (da_cons d_int da_nil)))) da_nil))) (da_cons (d_tup (da_cons d_str (da_cons (d_op op_addA add_ok d_int (d_call F__law_deal hgd (hr.mono (by decide)) tk (by rfl) (da_cons (d_var 0) (da_cons d_int da_nil)))) da_nil))) da_nil))))))) (dss_one (ds_ret (d_if (dt_cmp op_le le_ok (d_callB (cr_sum rfl) sum_ok (by rfl) T.n_sum (by decide +kernel) (da_cons (d_lc (own := [("lock", 4), ("cycles", 5)]) (t := .tp [.nm 4, .nm 5]) rfl sc__law_profile.nd (di_seq (d_var 2)) (blkOk_by (N := nm__law_profile) (sc := defScope s__law_profile) (by decide +kernel)) (fun _ _ _ _ _ => (g_tp rfl (gs_cons (g_nm 4 sc__law_profile.nd rfl (by first | exact Or.inl rfl | exact Or.inr rfl)) (gs_cons (g_nm 5 sc__law_profile.nd rfl (by first | exact Or.inl rfl | exact Or.inr rfl)) gs_nil)))) (fun _ _ _ _ _ => dts_nil) (fun _ _ _ _ _ => (d_var 5))) da_nil)) (d_var 1) (nomark _)) (d_callT call_tuple_of tuple_ok (by rfl) T.n_tuple (by decide +kernel) (da_cons (d_var 2) da_nil)) (d_tup (da_cons (d_tup (da_cons d_str (da_cons (d_var 1) da_nil))) da_nil)))))))
def g_is_profile_form : PSt := sSeq (sIf (tOr' (tNot' (tB' (fCall sp_is_short_tuple (fCons (fVar 0) (fCons (fC (.int 1)) (fCons (fC c_MOST_STRETCHES) (fNil))))))) (tNot' (tB' (fCB allG (fCons (fLc (fItems (fVar 0)) (.nm 1) (tYes') (fCall sp_is_stretch (fCons (fVar 1) (fCons (fC c_MOST_IN_STRETCH) (fNil)))) [1]) (fNil)))))) (sRet (fC (.bl false))) (sNil)) (sSeq (sIf (tOr' (tB' (fBin neG (fBin ixG (fBin ixG (fVar 0) (fC (.int 0))) (fC (.int 0))) (fC c_OUTSIDE))) (tOr' (tB' (fBin neG (fBin ixG (fBin ixG (fVar 0) (fNeg (fC (.int 1)))) (fC (.int 0))) (fC c_OUTSIDE))) (tB' (fBin gtG (fCall sp_cycles_in (fCons (fVar 0) (fNil))) (fC c_MOST_TOGETHER))))) (sRet (fC (.bl false))) (sNil)) (sRet (fCB allG (fCons (fLc (fZip (fCons (fVar 0) (fCons (fSl (fVar 0) (fPart (fC (.int 1))) (fNo)) (fNil)))) (.tp [.nm 2, .nm 3]) (tYes') (fBin neG (fBin ixG (fVar 2) (fC (.int 0))) (fBin ixG (fVar 3) (fC (.int 0)))) [2, 3]) (fNil)))))
theorem body_is_profile_form (T : Top K mg) (F_is_short_tuple : FnD P w K mg base 1 "is_short_tuple" s_is_short_tuple pr_is_short_tuple sp_is_short_tuple) (F_is_stretch : FnD P w K mg base 3 "is_stretch" s_is_stretch pr_is_stretch sp_is_stretch) (F_cycles_in : FnD P w K mg base 1 "cycles_in" s_cycles_in pr_cycles_in sp_cycles_in) : ∀ f, Bdy P w K mg base 3 "is_profile_form" s_is_profile_form nm_is_profile_form f g_is_profile_form := fun f cdv A outer s0 H E hr hgd tk hp => (dss_cons (ds_if (dw_pt (dw_or (dt_not (dt_val (d_call F_is_short_tuple hgd (hr.mono (by decide)) tk (by rfl) (da_cons (d_var 0) (da_cons d_int (da_cons (d_glob (by rfl) T.c_MOST_STRETCHES) da_nil)))))) (dw_or1 (dt_not (dt_val (d_callB (cr_all rfl) all_ok (by rfl) T.n_all (by decide +kernel) (da_cons (d_lc (own := [("each", 1)]) (t := .nm 1) rfl sc_is_profile_form.nd (di_seq (d_var 0)) (blkOk_by (N := nm_is_profile_form) (sc := defScope s_is_profile_form) (by decide +kernel)) (fun _ _ _ _ _ => (g_nm 1 sc_is_profile_form.nd rfl (by first | exact Or.inl rfl | exact Or.inr rfl))) (fun _ _ _ _ _ => dts_nil) (fun _ _ _ _ _ => (d_call F_is_stretch hgd (hr.mono (by decide)) takes0 (by rfl) (da_cons (d_var 1) (da_cons (d_glob (by rfl) T.c_MOST_IN_STRETCH) da_nil))))) da_nil))))))) (dss_one (ds_ret d_bl)) dss_nil) (dss_cons (ds_if (dw_pt (dw_or (dt_cmp (op_neS hr.units) ne_ok (d_ix ix_seq ix_ok (d_ix ix_seq ix_ok (d_var 0) d_int (fun _ _ => rfl)) d_int (fun _ _ => rfl)) (d_glob (by rfl) T.c_OUTSIDE) (nomark _)) (dw_or (dt_cmp (op_neS hr.units) ne_ok (d_ix ix_seq ix_ok (d_ix ix_seq ix_ok (d_var 0) (d_neg d_int) (fun _ _ => rfl)) d_int (fun _ _ => rfl)) (d_glob (by rfl) T.c_OUTSIDE) (nomark _)) (dw_or1 (dt_cmp op_gt gt_ok (d_call F_cycles_in hgd (hr.mono (by decide)) tk (by rfl) (da_cons (d_var 0) da_nil)) (d_glob (by rfl) T.c_MOST_TOGETHER) (nomark _)))))) (dss_one (ds_ret d_bl)) dss_nil) (dss_one (ds_ret (d_callB (cr_all rfl) all_ok (by rfl) T.n_all (by decide +kernel) (da_cons (d_lc (own := [("one", 2), ("two", 3)]) (t := .tp [.nm 2, .nm 3]) rfl sc_is_profile_form.nd (di_zip (by rfl) T.n_zip (da_cons (d_var 0) (da_cons (d_slice (d_var 0) (dp_some d_int) dp_none) da_nil))) (blkOk_by (N := nm_is_profile_form) (sc := defScope s_is_profile_form) (by decide +kernel)) (fun _ _ _ _ _ => (g_tp rfl (gs_cons (g_nm 2 sc_is_profile_form.nd rfl (by first | exact Or.inl rfl | exact Or.inr rfl)) (gs_cons (g_nm 3 sc_is_profile_form.nd rfl (by first | exact Or.inl rfl | exact Or.inr rfl)) gs_nil)))) (fun _ _ _ _ _ => dts_nil) (fun _ _ _ _ _ => (d_cmp (op_neS hr.units) ne_ok (d_ix ix_seq ix_ok (d_var 2) d_int (fun _ _ => rfl)) (d_ix ix_seq ix_ok (d_var 3) d_int (fun _ _ => rfl)) (nomark _)))) da_nil))))))
def g_longer_by : PSt := sSeq (sAsg (.tp [.nm 2, .nm 3]) (fBin ixG (fVar 0) (fNeg (fC (.int 1))))) (sSeq (sSet 4 (fTup (fStar (fSl (fVar 0) (fNo) (fPart (fNeg (fC (.int 1))))) (fCons (fTup (fCons (fVar 2) (fCons (fBin addG (fVar 3) (fVar 1)) (fNil)))) (fNil))))) (sRet (fIf (tB' (fCall sp_is_profile_form (fCons (fVar 4) (fNil)))) (fLst (fCons (fVar 4) (fNil))) (fLst (fNil)))))
theorem body_longer_by (T : Top K mg) (F_is_profile_form : FnD P w K mg base 4 "is_profile_form" s_is_profile_form pr_is_profile_form sp_is_profile_form) : ∀ f, Bdy P w K mg base 4 "longer_by" s_longer_by nm_longer_by f g_longer_by := fun f cdv A outer s0 H E hr hgd tk hp => (dss_cons (ds_asg (d_ix ix_seq ix_ok (d_var 0) (d_neg d_int) (fun _ _ => rfl)) (g_tp rfl (gs_cons (g_nm 2 sc_longer_by.nd rfl (by first | exact Or.inl rfl | exact Or.inr rfl)) (gs_cons (g_nm 3 sc_longer_by.nd rfl (by first | exact Or.inl rfl | exact Or.inr rfl)) gs_nil)))) (dss_cons (ds_set 4 sc_longer_by.nd rfl (by first | exact Or.inl rfl | exact Or.inr rfl) (d_tup (da_star (d_slice (d_var 0) dp_none (dp_some (d_neg d_int))) (da_cons (d_tup (da_cons (d_var 2) (da_cons (d_op op_addA add_ok (d_var 3) (d_var 1)) da_nil))) da_nil)))) (dss_one (ds_ret (d_if (dt_val (d_call F_is_profile_form hgd (hr.mono (by decide)) tk (by rfl) (da_cons (d_var 4) da_nil))) (d_lst (da_cons (d_var 4) da_nil)) (d_lst da_nil))))))
def g_check_profile : PSt := sIf (tNot' (tB' (fCall sp_is_profile_form (fCons (fVar 0) (fNil))))) (sNever) (sNil)
theorem body_check_profile (T : Top K mg) (F_is_profile_form : FnD P w K mg base 4 "is_profile_form" s_is_profile_form pr_is_profile_form sp_is_profile_form) : ∀ f, Bdy P w K mg base 4 "check_profile" s_check_profile nm_check_profile f g_check_profile := fun f cdv A outer s0 H E hr hgd tk hp => (dss_one (ds_if (dt_not (dt_val (d_call F_is_profile_form hgd (hr.mono (by decide)) tk (by rfl) (da_cons (d_var 0) da_nil)))) (dss_one ds_never) dss_nil))
def g_is_profile : PSt := sRet (fCall sp_is_profile_form (fCons (fVar 0) (fNil)))
theorem body_is_profile (T : Top K mg) (F_is_profile_form : FnD P w K mg base 4 "is_profile_form" s_is_profile_form pr_is_profile_form sp_is_profile_form) : ∀ f, Bdy P w K mg base 4 "is_profile" s_is_profile nm_is_profile f g_is_profile := fun f cdv A outer s0 H E hr hgd tk hp => (dss_one (ds_ret (d_call F_is_profile_form hgd (hr.mono (by decide)) tk (by rfl) (da_cons (d_var 0) da_nil))))
def g_check_behind : PSt := sSeq (sDrop (fCall sp_check_profile (fCons (fVar 0) (fNil)))) (sDrop (fCall sp_check_number (fCons (fVar 1) (fCons (fC (.int 0)) (fCons (fCall sp_cycles_in (fCons (fVar 0) (fNil))) (fNil))))))
theorem body_check_behind (T : Top K mg) (F_check_profile : FnD P w K mg base 5 "check_profile" s_check_profile pr_check_profile sp_check_profile) (F_check_number : FnD P w K mg base 3 "check_number" s_check_number pr_check_number sp_check_number) (F_cycles_in : FnD P w K mg base 1 "cycles_in" s_cycles_in pr_cycles_in sp_cycles_in) : ∀ f, Bdy P w K mg base 5 "check_behind" s_check_behind nm_check_behind f g_check_behind := fun f cdv A outer s0 H E hr hgd tk hp => (dss_cons (ds_expr (d_call F_check_profile hgd (hr.mono (by decide)) tk (by rfl) (da_cons (d_var 0) da_nil))) (dss_one (ds_expr (d_call F_check_number hgd (hr.mono (by decide)) tk (by rfl) (da_cons (d_var 1) (da_cons d_int (da_cons (d_call F_cycles_in hgd (hr.mono (by decide)) tk (by rfl) (da_cons (d_var 0) da_nil)) da_nil)))))))
def g_cycles_of : PSt := sSeq (sDrop (fCall sp_check_profile (fCons (fVar 0) (fNil)))) (sRet (fCall sp_cycles_in (fCons (fVar 0) (fNil))))
theorem body_cycles_of (T : Top K mg) (F_check_profile : FnD P w K mg base 5 "check_profile" s_check_profile pr_check_profile sp_check_profile) (F_cycles_in : FnD P w K mg base 1 "cycles_in" s_cycles_in pr_cycles_in sp_cycles_in) : ∀ f, Bdy P w K mg base 5 "cycles_of" s_cycles_of nm_cycles_of f g_cycles_of := fun f cdv A outer s0 H E hr hgd tk hp => (dss_cons (ds_expr (d_call F_check_profile hgd (hr.mono (by decide)) tk (by rfl) (da_cons (d_var 0) da_nil))) (dss_one (ds_ret (d_call F_cycles_in hgd (hr.mono (by decide)) tk (by rfl) (da_cons (d_var 0) da_nil)))))
def g_longer : PSt := sSeq (sDrop (fCall sp_check_profile (fCons (fVar 0) (fNil)))) (sSeq (sDrop (fCall sp_check_number (fCons (fVar 1) (fCons (fC (.int 0)) (fCons (fC c_MOST_LONGER) (fNil)))))) (sRet (fBin ixG (fLst (fStar (fCall sp_longer_by (fCons (fVar 0) (fCons (fVar 1) (fNil)))) (fCons (fC .non) (fNil)))) (fC (.int 0)))))
theorem body_longer (T : Top K mg) (F_check_profile : FnD P w K mg base 5 "check_profile" s_check_profile pr_check_profile sp_check_profile) (F_check_number : FnD P w K mg base 3 "check_number" s_check_number pr_check_number sp_check_number) (F_longer_by : FnD P w K mg base 5 "longer_by" s_longer_by pr_longer_by sp_longer_by) : ∀ f, Bdy P w K mg base 5 "longer" s_longer nm_longer f g_longer := fun f cdv A outer s0 H E hr hgd tk hp => (dss_cons (ds_expr (d_call F_check_profile hgd (hr.mono (by decide)) tk (by rfl) (da_cons (d_var 0) da_nil))) (dss_cons (ds_expr (d_call F_check_number hgd (hr.mono (by decide)) tk (by rfl) (da_cons (d_var 1) (da_cons d_int (da_cons (d_glob (by rfl) T.c_MOST_LONGER) da_nil))))) (dss_one (ds_ret (d_ix ix_seq ix_ok (d_lst (da_star (d_call F_longer_by hgd (hr.mono (by decide)) tk (by rfl) (da_cons (d_var 0) (da_cons (d_var 1) da_nil))) (da_cons d_non da_nil))) d_int (fun _ _ => rfl))))))
def g_left : PSt := sSeq (sDrop (fCall sp_check_behind (fCons (fVar 0) (fCons (fVar 1) (fNil))))) (sRet (fCall sp_left_of (fCons (fVar 0) (fCons (fVar 1) (fNil)))))
theorem body_left (T : Top K mg) (F_check_behind : FnD P w K mg base 6 "check_behind" s_check_behind pr_check_behind sp_check_behind) (F_left_of : FnD P w K mg base 1 "left_of" s_left_of pr_left_of sp_left_of) : ∀ f, Bdy P w K mg base 6 "left" s_left nm_left f g_left := fun f cdv A outer s0 H E hr hgd tk hp => (dss_cons (ds_expr (d_call F_check_behind hgd (hr.mono (by decide)) tk (by rfl) (da_cons (d_var 0) (da_cons (d_var 1) da_nil)))) (dss_one (ds_ret (d_call F_left_of hgd (hr.mono (by decide)) tk (by rfl) (da_cons (d_var 0) (da_cons (d_var 1) da_nil))))))
def g_lock_held : PSt := sRet (fCall sp_lock_of (fCons (fCall sp_left (fCons (fVar 0) (fCons (fVar 1) (fNil)))) (fNil)))
theorem body_lock_held (T : Top K mg) (F_lock_of : FnD P w K mg base 1 "lock_of" s_lock_of pr_lock_of sp_lock_of) (F_left : FnD P w K mg base 7 "left" s_left pr_left sp_left) : ∀ f, Bdy P w K mg base 7 "lock_held" s_lock_held nm_lock_held f g_lock_held := fun f cdv A outer s0 H E hr hgd tk hp => (dss_one (ds_ret (d_call F_lock_of hgd (hr.mono (by decide)) tk (by rfl) (da_cons (d_call F_left hgd (hr.mono (by decide)) tk (by rfl) (da_cons (d_var 0) (da_cons (d_var 1) da_nil))) da_nil))))
def g__law_right : PSt := sSeq (sFor (fRng1 (fCons (fC (.int 10)) (fNil))) (.nm 1) (sSeq (sSet 2 (fCall sp__law_profile (fCons (fVar 0) (fCons (fC (.int 40)) (fNil))))) (sSeq (sSet 3 (fCB sumG (fCons (fLc (fItems (fVar 2)) (.tp [.nm 7, .nm 10]) (tYes') (fVar 10) [7, 10]) (fNil)))) (sSeq (sIf (tB' (fBin neG (fCB reprG (fCons (fLst (fCons (fCall sp_is_profile (fCons (fVar 2) (fNil))) (fCons (fCallK 0 1 [0] sp_is_profile fNil (fCons (fVar 2) (fNil))) (fCons (fCall sp_cycles_of (fCons (fVar 2) (fNil))) (fNil))))) (fNil))) (fCB reprG (fCons (fLst (fCons (fC (.bl true)) (fCons (fC (.bl true)) (fCons (fVar 3) (fNil))))) (fNil))))) (sRet (fC (.bl false))) (sNil)) (sSeq (sFor (fRng1 (fCons (fBin addG (fVar 3) (fC (.int 1))) (fNil))) (.nm 4) (sSeq (sSet 5 (fCall sp__law_left (fCons (fVar 2) (fCons (fVar 4) (fNil))))) (sSeq (sSet 6 (fLst (fCons (fCall sp_left (fCons (fVar 2) (fCons (fVar 4) (fNil)))) (fCons (fCallK 0 2 [1, 0] sp_left fNil (fCons (fVar 4) (fCons (fVar 2) (fNil)))) (fNil))))) (sSeq (sSet 6 (fBin addG (fVar 6) (fLst (fCons (fCall sp_lock_held (fCons (fVar 2) (fCons (fVar 4) (fNil)))) (fCons (fCallK 0 2 [1, 0] sp_lock_held fNil (fCons (fVar 4) (fCons (fVar 2) (fNil)))) (fNil)))))) (sSeq (sSet 7 (fIf (tB' (fBin neG (fVar 5) (fTup (fNil)))) (fBin ixG (fBin ixG (fVar 5) (fC (.int 0))) (fC (.int 0))) (fC (.str "")))) (sIf (tB' (fBin neG (fCB reprG (fCons (fVar 6) (fNil))) (fCB reprG (fCons (fLst (fCons (fVar 5) (fCons (fVar 5) (fCons (fVar 7) (fCons (fVar 7) (fNil)))))) (fNil))))) (sRet (fC (.bl false))) (sNil))))))) (sSeq (sSet 8 (fTup (fCons (fTup (fCons (fC (.str "")) (fCons (fC (.int 200)) (fNil)))) (fCons (fTup (fCons (fC (.str "a")) (fCons (fC (.int 5)) (fNil)))) (fCons (fTup (fCons (fC (.str "")) (fCons (fBin addG (fC (.int 150)) (fCall sp__law_deal (fCons (fVar 0) (fCons (fC (.int 46)) (fNil))))) (fNil)))) (fNil)))))) (sSeq (sFor (fItems (fTup (fCons (fC (.int 0)) (fCons (fC (.int 1)) (fCons (fCall sp__law_deal (fCons (fVar 0) (fCons (fC (.int 41)) (fNil)))) (fCons (fC (.int 40)) (fCons (fCB minG (fCons (fC (.int 40)) (fCons (fBin subG (fC (.int 199)) (fBin ixG (fBin ixG (fVar 8) (fNeg (fC (.int 1)))) (fC (.int 1)))) (fNil)))) (fNil)))))))) (.nm 4) (sFor (fItems (fTup (fCons (fVar 2) (fCons (fVar 8) (fCons (fTup (fCons (fTup (fCons (fC (.str "")) (fCons (fBin addG (fC (.int 160)) (fCall sp__law_deal (fCons (fVar 0) (fCons (fC (.int 41)) (fNil))))) (fNil)))) (fNil))) (fNil)))))) (.nm 9) (sSeq (sAsg (.tp [.nm 7, .nm 10]) (fBin ixG (fVar 9) (fNeg (fC (.int 1))))) (sSeq (sSet 5 (fBin addG (fSl (fVar 9) (fNo) (fPart (fNeg (fC (.int 1))))) (fTup (fCons (fTup (fCons (fVar 7) (fCons (fBin addG (fVar 10) (fVar 4)) (fNil)))) (fNil))))) (sSeq (sSet 5 (fIf (tAnd' (tB' (fBin leG (fBin addG (fVar 10) (fVar 4)) (fC (.int 200)))) (tB' (fBin leG (fBin addG (fCall sp_cycles_of (fCons (fVar 9) (fNil))) (fVar 4)) (fC (.int 400))))) (fVar 5) (fC .non))) (sIf (tB' (fBin neG (fCB reprG (fCons (fLst (fCons (fCall sp_longer (fCons (fVar 9) (fCons (fVar 4) (fNil)))) (fCons (fCallK 0 2 [1, 0] sp_longer fNil (fCons (fVar 4) (fCons (fVar 9) (fNil)))) (fNil)))) (fNil))) (fCB reprG (fCons (fLst (fCons (fVar 5) (fCons (fVar 5) (fNil)))) (fNil))))) (sRet (fC (.bl false))) (sNil))))))) (sSeq (sSet 11 (fLst (fCons (fC .non) (fCons (fTup (fNil)) (fCons (fCB listG (fCons (fVar 2) (fNil))) (fCons (fBin addG (fVar 2) (fSl (fVar 2) (fPart (fNeg (fC (.int 1)))) (fNo))) (fCons (fTup (fCons (fTup (fCons (fC (.str "")) (fCons (fC (.int 0)) (fNil)))) (fNil))) (fCons (fTup (fCons (fTup (fCons (fC (.str "a")) (fCons (fC (.int 1)) (fNil)))) (fNil))) (fCons (fTup (fCons (fTup (fCons (fC (.str "")) (fCons (fC (.int 1)) (fNil)))) (fCons (fTup (fCons (fC (.str "a")) (fCons (fC (.int 1)) (fNil)))) (fNil)))) (fNil)))))))))) (sSeq (sSet 11 (fBin addG (fVar 11) (fLst (fCons (fTup (fCons (fTup (fCons (fC (.str "")) (fCons (fC (.int 1)) (fNil)))) (fCons (fTup (fCons (fC (.str "A")) (fCons (fC (.int 1)) (fNil)))) (fCons (fTup (fCons (fC (.str "")) (fCons (fC (.int 1)) (fNil)))) (fNil))))) (fNil))))) (sIf (tB' (fBin neG (fLc (fItems (fVar 11)) (.nm 12) (tB' (fBin (isG true) (fCall sp_is_profile (fCons (fVar 12) (fNil))) (fC (.bl false)))) (fVar 12) [12]) (fLst (fNil)))) (sRet (fC (.bl false))) (sNil))))))))))) (sRet (fC (.bl true)))
theorem body__law_right (T : Top K mg) (F__law_profile : FnD P w K mg base 3 "_law_profile" s__law_profile pr__law_profile sp__law_profile) (F_cycles_of : FnD P w K mg base 6 "cycles_of" s_cycles_of pr_cycles_of sp_cycles_of) (F_is_profile : FnD P w K mg base 5 "is_profile" s_is_profile pr_is_profile sp_is_profile) (F__law_left : FnD P w K mg base 1 "_law_left" s__law_left pr__law_left sp__law_left) (F_left : FnD P w K mg base 7 "left" s_left pr_left sp_left) (F_lock_held : FnD P w K mg base 8 "lock_held" s_lock_held pr_lock_held sp_lock_held) (F__law_deal : FnD P w K mg base 1 "_law_deal" s__law_deal pr__law_deal sp__law_deal) (F_longer : FnD P w K mg base 6 "longer" s_longer pr_longer sp_longer) : ∀ f, Bdy P w K mg base 8 "_law_right" s__law_right nm__law_right f g__law_right := fun f cdv A outer s0 H E hr hgd tk hp => (dss_cons (ds_for hp rfl (di_rng1 (by rfl) T.n_range (da_cons d_int da_nil)) (g_nm 1 sc__law_right.nd rfl (by first | exact Or.inl rfl | exact Or.inr rfl)) (dss_cons (ds_set 2 sc__law_right.nd rfl (by first | exact Or.inl rfl | exact Or.inr rfl) (d_call F__law_profile hgd (hr.mono (by decide)) tk (by rfl) (da_cons (d_var 0) (da_cons d_int da_nil)))) (dss_cons (ds_set 3 sc__law_right.nd rfl (by first | exact Or.inl rfl | exact Or.inr rfl) (d_callB (cr_sum rfl) sum_ok (by rfl) T.n_sum (by decide +kernel) (da_cons (d_lc (own := [("lock", 7), ("cycles", 10)]) (t := .tp [.nm 7, .nm 10]) rfl sc__law_right.nd (di_seq (d_var 2)) (blkOk_by (N := nm__law_right) (sc := defScope s__law_right) (by decide +kernel)) (fun _ _ _ _ _ => (g_tp rfl (gs_cons (g_nm 7 sc__law_right.nd rfl (by first | exact Or.inl rfl | exact Or.inr rfl)) (gs_cons (g_nm 10 sc__law_right.nd rfl (by first | exact Or.inl rfl | exact Or.inr rfl)) gs_nil)))) (fun _ _ _ _ _ => dts_nil) (fun _ _ _ _ _ => (d_var 10))) da_nil))) (dss_cons (ds_if (dt_cmp (op_neS hr.units) ne_ok (d_callB (c_repr hgd (u200 hr)) repr_ok (by rfl) T.n_repr (by decide +kernel) (da_cons (d_lst (da_cons (d_call F_is_profile hgd (hr.mono (by decide)) tk (by rfl) (da_cons (d_var 2) da_nil)) (da_cons (d_callK0 F_is_profile kw_is_profile_0_value hgd (hr.mono (by decide)) tk (by rfl) (dk_cons (d_var 2) dk_nil)) (da_cons (d_call F_cycles_of hgd (hr.mono (by decide)) tk (by rfl) (da_cons (d_var 2) da_nil)) da_nil)))) da_nil)) (d_callB (c_repr hgd (u200 hr)) repr_ok (by rfl) T.n_repr (by decide +kernel) (da_cons (d_lst (da_cons d_bl (da_cons d_bl (da_cons (d_var 3) da_nil)))) da_nil)) (nomark _)) (dss_one (ds_ret d_bl)) dss_nil) (dss_cons (ds_for hp rfl (di_rng1 (by rfl) T.n_range (da_cons (d_op op_addA add_ok (d_var 3) d_int) da_nil)) (g_nm 4 sc__law_right.nd rfl (by first | exact Or.inl rfl | exact Or.inr rfl)) (dss_cons (ds_set 5 sc__law_right.nd rfl (by first | exact Or.inl rfl | exact Or.inr rfl) (d_call F__law_left hgd (hr.mono (by decide)) tk (by rfl) (da_cons (d_var 2) (da_cons (d_var 4) da_nil)))) (dss_cons (ds_set 6 sc__law_right.nd rfl (by first | exact Or.inl rfl | exact Or.inr rfl) (d_lst (da_cons (d_call F_left hgd (hr.mono (by decide)) tk (by rfl) (da_cons (d_var 2) (da_cons (d_var 4) da_nil))) (da_cons (d_callK0 F_left kw_left_0_number_profile hgd (hr.mono (by decide)) tk (by rfl) (dk_cons (d_var 4) (dk_cons (d_var 2) dk_nil))) da_nil)))) (dss_cons (ds_set 6 sc__law_right.nd rfl (by first | exact Or.inl rfl | exact Or.inr rfl) (d_op op_addA add_ok (d_var 6) (d_lst (da_cons (d_call F_lock_held hgd (hr.mono (by decide)) tk (by rfl) (da_cons (d_var 2) (da_cons (d_var 4) da_nil))) (da_cons (d_callK0 F_lock_held kw_lock_held_0_number_profile hgd (hr.mono (by decide)) tk (by rfl) (dk_cons (d_var 4) (dk_cons (d_var 2) dk_nil))) da_nil))))) (dss_cons (ds_set 7 sc__law_right.nd rfl (by first | exact Or.inl rfl | exact Or.inr rfl) (d_if (dt_cmp (op_neS hr.units) ne_ok (d_var 5) (d_tup da_nil) (nomark _)) (d_ix ix_seq ix_ok (d_ix ix_seq ix_ok (d_var 5) d_int (fun _ _ => rfl)) d_int (fun _ _ => rfl)) d_str)) (dss_one (ds_if (dt_cmp (op_neS hr.units) ne_ok (d_callB (c_repr hgd (u200 hr)) repr_ok (by rfl) T.n_repr (by decide +kernel) (da_cons (d_var 6) da_nil)) (d_callB (c_repr hgd (u200 hr)) repr_ok (by rfl) T.n_repr (by decide +kernel) (da_cons (d_lst (da_cons (d_var 5) (da_cons (d_var 5) (da_cons (d_var 7) (da_cons (d_var 7) da_nil))))) da_nil)) (nomark _)) (dss_one (ds_ret d_bl)) dss_nil))))))) (dss_cons (ds_set 8 sc__law_right.nd rfl (by first | exact Or.inl rfl | exact Or.inr rfl) (d_tup (da_cons (d_tup (da_cons d_str (da_cons d_int da_nil))) (da_cons (d_tup (da_cons d_str (da_cons d_int da_nil))) (da_cons (d_tup (da_cons d_str (da_cons (d_op op_addA add_ok d_int (d_call F__law_deal hgd (hr.mono (by decide)) tk (by rfl) (da_cons (d_var 0) (da_cons d_int da_nil)))) da_nil))) da_nil))))) (dss_cons (ds_for hp rfl (di_seq (d_tup (da_cons d_int (da_cons d_int (da_cons (d_call F__law_deal hgd (hr.mono (by decide)) tk (by rfl) (da_cons (d_var 0) (da_cons d_int da_nil))) (da_cons d_int (da_cons (d_callB (call_min2 rfl) int2_ok (by rfl) T.n_min (by decide +kernel) (da_cons d_int (da_cons (d_op op_sub sub_ok d_int (d_ix ix_seq ix_ok (d_ix ix_seq ix_ok (d_var 8) (d_neg d_int) (fun _ _ => rfl)) d_int (fun _ _ => rfl))) da_nil))) da_nil))))))) (g_nm 4 sc__law_right.nd rfl (by first | exact Or.inl rfl | exact Or.inr rfl)) (dss_one (ds_for hp rfl (di_seq (d_tup (da_cons (d_var 2) (da_cons (d_var 8) (da_cons (d_tup (da_cons (d_tup (da_cons d_str (da_cons (d_op op_addA add_ok d_int (d_call F__law_deal hgd (hr.mono (by decide)) tk (by rfl) (da_cons (d_var 0) (da_cons d_int da_nil)))) da_nil))) da_nil)) da_nil))))) (g_nm 9 sc__law_right.nd rfl (by first | exact Or.inl rfl | exact Or.inr rfl)) (dss_cons (ds_asg (d_ix ix_seq ix_ok (d_var 9) (d_neg d_int) (fun _ _ => rfl)) (g_tp rfl (gs_cons (g_nm 7 sc__law_right.nd rfl (by first | exact Or.inl rfl | exact Or.inr rfl)) (gs_cons (g_nm 10 sc__law_right.nd rfl (by first | exact Or.inl rfl | exact Or.inr rfl)) gs_nil)))) (dss_cons (ds_set 5 sc__law_right.nd rfl (by first | exact Or.inl rfl | exact Or.inr rfl) (d_op op_addA add_ok (d_slice (d_var 9) dp_none (dp_some (d_neg d_int))) (d_tup (da_cons (d_tup (da_cons (d_var 7) (da_cons (d_op op_addA add_ok (d_var 10) (d_var 4)) da_nil))) da_nil)))) (dss_cons (ds_set 5 sc__law_right.nd rfl (by first | exact Or.inl rfl | exact Or.inr rfl) (d_if (dw_pt (dw_and (dt_cmp op_le le_ok (d_op op_addA add_ok (d_var 10) (d_var 4)) d_int (nomark _)) (dw_and1 (dt_cmp op_le le_ok (d_op op_addA add_ok (d_call F_cycles_of hgd (hr.mono (by decide)) tk (by rfl) (da_cons (d_var 9) da_nil)) (d_var 4)) d_int (nomark _))))) (d_var 5) d_non)) (dss_one (ds_if (dt_cmp (op_neS hr.units) ne_ok (d_callB (c_repr hgd (u200 hr)) repr_ok (by rfl) T.n_repr (by decide +kernel) (da_cons (d_lst (da_cons (d_call F_longer hgd (hr.mono (by decide)) tk (by rfl) (da_cons (d_var 9) (da_cons (d_var 4) da_nil))) (da_cons (d_callK0 F_longer kw_longer_0_number_profile hgd (hr.mono (by decide)) tk (by rfl) (dk_cons (d_var 4) (dk_cons (d_var 9) dk_nil))) da_nil))) da_nil)) (d_callB (c_repr hgd (u200 hr)) repr_ok (by rfl) T.n_repr (by decide +kernel) (da_cons (d_lst (da_cons (d_var 5) (da_cons (d_var 5) da_nil))) da_nil)) (nomark _)) (dss_one (ds_ret d_bl)) dss_nil)))))))) (dss_cons (ds_set 11 sc__law_right.nd rfl (by first | exact Or.inl rfl | exact Or.inr rfl) (d_lst (da_cons d_non (da_cons (d_tup da_nil) (da_cons (d_callT call_list_of list_ok (by rfl) T.n_list (by decide +kernel) (da_cons (d_var 2) da_nil)) (da_cons (d_op op_addA add_ok (d_var 2) (d_slice (d_var 2) (dp_some (d_neg d_int)) dp_none)) (da_cons (d_tup (da_cons (d_tup (da_cons d_str (da_cons d_int da_nil))) da_nil)) (da_cons (d_tup (da_cons (d_tup (da_cons d_str (da_cons d_int da_nil))) da_nil)) (da_cons (d_tup (da_cons (d_tup (da_cons d_str (da_cons d_int da_nil))) (da_cons (d_tup (da_cons d_str (da_cons d_int da_nil))) da_nil))) da_nil))))))))) (dss_cons (ds_set 11 sc__law_right.nd rfl (by first | exact Or.inl rfl | exact Or.inr rfl) (d_op op_addA add_ok (d_var 11) (d_lst (da_cons (d_tup (da_cons (d_tup (da_cons d_str (da_cons d_int da_nil))) (da_cons (d_tup (da_cons d_str (da_cons d_int da_nil))) (da_cons (d_tup (da_cons d_str (da_cons d_int da_nil))) da_nil)))) da_nil)))) (dss_one (ds_if (dt_cmp (op_neS hr.units) ne_ok (d_lc (own := [("bad", 12)]) (t := .nm 12) rfl sc__law_right.nd (di_seq (d_var 11)) (blkOk_by (N := nm__law_right) (sc := defScope s__law_right) (by decide +kernel)) (fun _ _ _ _ _ => (g_nm 12 sc__law_right.nd rfl (by first | exact Or.inl rfl | exact Or.inr rfl))) (fun _ _ _ _ _ => (dts_one (dt_cmp op_isNA isN_ok (d_call F_is_profile hgd (hr.mono (by decide)) takes0 (by rfl) (da_cons (d_var 12) da_nil)) d_bl (nomark _)))) (fun _ _ _ _ _ => (d_var 12))) (d_lst da_nil) (nomark _)) (dss_one (ds_ret d_bl)) dss_nil))))))))))) (dss_one (ds_ret d_bl)))
def g_law : PSt := sRet (fCB allG (fCons (fLc (fRng1 (fCons (fCB maxG (fCons (fC (.int 1)) (fCons (fCB minG (fCons (fCB lenG (fCons (fVar 0) (fNil))) (fCons (fC (.int 4)) (fNil)))) (fNil)))) (fNil))) (.nm 1) (tYes') (fWell sp__law_right sp__law_pail (fCons (fVar 0) (fCons (fVar 1) (fNil)))) [1]) (fNil)))
theorem body_law (T : Top K mg) (F__law_right : FnD P w K mg base 9 "_law_right" s__law_right pr__law_right sp__law_right) (F__law_pail : FnD P w K mg base 1 "_law_pail" s__law_pail pr__law_pail sp__law_pail) : ∀ f, Bdy P w K mg base 9 "law" s_law nm_law f g_law := fun f cdv A outer s0 H E hr hgd tk hp => (dss_one (ds_ret (d_callB (cr_all rfl) all_ok (by rfl) T.n_all (by decide +kernel) (da_cons (d_lc (own := [("turn", 1)]) (t := .nm 1) rfl sc_law.nd (di_rng1 (by rfl) T.n_range (da_cons (d_callB (call_max2 rfl) int2_ok (by rfl) T.n_max (by decide +kernel) (da_cons d_int (da_cons (d_callB (call_min2 rfl) int2_ok (by rfl) T.n_min (by decide +kernel) (da_cons (d_callB c_len len_ok (by rfl) T.n_len (by decide +kernel) (da_cons (d_var 0) da_nil)) (da_cons d_int da_nil))) da_nil))) da_nil)) (blkOk_by (N := nm_law) (sc := defScope s_law) (by decide +kernel)) (fun _ _ _ _ _ => (g_nm 1 sc_law.nd rfl (by first | exact Or.inl rfl | exact Or.inr rfl))) (fun _ _ _ _ _ => dts_nil) (fun _ _ _ _ _ => (d_well F__law_right F__law_pail hgd (hr.mono (by decide)) (hr.mono (by decide)) takes0 (by rfl) (by rfl) (da_cons (d_var 0) (da_cons (d_var 1) da_nil))))) da_nil))))
end
end K35

namespace K35
open PySem PySem.Spec L2 PL
local macro_rules | `(tactic| walk_at "pl") => `(tactic| simp only [sNil, sSeq, sRet, sDrop, sIf, sSet, sAsg, sNever, fVar, fC, fBin, fChain, fNot, fAnd, fOr, fNeg, fCB, fCall, fCallK, fNil, fCons, fStar, fTup, fLst, fIf, fSl, fPart, fNo, tB', tNot', tAnd', tOr', tYes', fLc, fItems, fRng1, fRng2, fZip,
  List.getElem?_cons_zero, List.getElem?_cons_succ, Option.some.injEq, exists_eq_left', exists_eq_left, List.set_cons_zero, List.set_cons_succ])
abbrev Pq (q : D → Prop) (x : Xn → Prop) : Pn := ⟨fun _ => q .non, q, fun _ => False, fun _ => False, fun _ e => x e⟩
theorem isi_k {d : D} {T : String} {q : D → Prop} (h : plain d) (hT : T ∈ (["int", "bool", "str", "tuple", "list"] : List String)) (hq : q (.bl (isiT (tyOf d) T))) : isiG [d, .ty T] q := ⟨h, hT, hq⟩
theorem sat_is_whole : ∀ ds q x, sp_is_whole ds q x → ds.length = pr_is_whole.length ∧ g_is_whole ⟨fun _ => q .non, q, fun _ => False, fun _ => False, fun _ e => x e⟩ (startD nm_is_whole ds) := by
  rintro ds q x ⟨d, rfl, hp, hq⟩
  refine ⟨rfl, ?_⟩
  show g_is_whole _ [some d]
  unfold g_is_whole
  walk_at "pl"
  refine isi_k hp (by decide) ⟨_, rfl, fun h1 => isi_k hp (by decide) ⟨_, rfl, ?_⟩, fun h1 => ?_⟩
  · cases d <;> first | (simp [isiT, tyOf] at h1; done) | exact hq
  · cases d <;> first | (simp [isiT, tyOf] at h1; done) | exact hq
theorem sat_is_between : ∀ ds q x, sp_is_between ds q x → ds.length = pr_is_between.length ∧ g_is_between ⟨fun _ => q .non, q, fun _ => False, fun _ => False, fun _ e => x e⟩ (startD nm_is_between ds) := by
  rintro ds q x ⟨d, lo, hi, rfl, hp, hq⟩
  refine ⟨rfl, ?_⟩
  show g_is_between _ [some d, some (.int lo), some (.int hi)]
  unfold g_is_between
  walk_at "pl"
  refine ⟨d, rfl, hp, _, rfl, fun h => ?_, fun h => ?_⟩
  · cases d <;> first | (simp [isInt] at h; done) | skip
    case int n =>
      refine ⟨trivial, _, rfl, fun h2 => ⟨trivial, ?_⟩, fun h2 => ?_⟩
      · have e : betw (.int n) lo hi = decide (n ≤ hi) := by simp [betw, h2]
        rw [e] at hq; exact hq
      · have e : betw (.int n) lo hi = false := by simp [betw, h2]
        rw [e] at hq; exact hq
  · cases d <;> first | (simp [isInt] at h; done) | exact hq
theorem sat_is_tuple_of : ∀ ds q x, sp_is_tuple_of ds q x → ds.length = pr_is_tuple_of.length ∧ g_is_tuple_of ⟨fun _ => q .non, q, fun _ => False, fun _ => False, fun _ e => x e⟩ (startD nm_is_tuple_of ds) := by
  rintro ds q x ⟨d, m, rfl, hp, hl, hm, hq⟩
  refine ⟨rfl, ?_⟩
  show g_is_tuple_of _ [some d, some (.int m)]
  unfold g_is_tuple_of
  walk_at "pl"
  refine isi_k hp (by decide) ⟨_, rfl, fun h1 => ?_, fun h1 => ?_⟩
  · cases d <;> first | (simp [isiT, tyOf] at h1; done) | skip
    case tup xs =>
      refine ⟨.i, ?_⟩
      rw [eqv_int]; exact hq
  · cases d <;> first | (simp [isiT, tyOf] at h1; done) | exact hq
theorem sat_is_short_tuple : ∀ ds q x, sp_is_short_tuple ds q x → ds.length = pr_is_short_tuple.length ∧ g_is_short_tuple ⟨fun _ => q .non, q, fun _ => False, fun _ => False, fun _ e => x e⟩ (startD nm_is_short_tuple ds) := by
  rintro ds q x ⟨d, lo, hi, rfl, hp, hq⟩
  refine ⟨rfl, ?_⟩
  show g_is_short_tuple _ [some d, some (.int lo), some (.int hi)]
  unfold g_is_short_tuple
  walk_at "pl"
  refine isi_k hp (by decide) ⟨_, rfl, fun h1 => ?_, fun h1 => ?_⟩
  · cases d <;> first | (simp [isiT, tyOf] at h1; done) | skip
    case tup xs =>
      refine ⟨trivial, _, rfl, fun h2 => ⟨trivial, ?_⟩, fun h2 => ?_⟩
      · have e : tupIn (.tup xs) lo hi = decide ((xs.length : Int) ≤ hi) := by simp [tupIn, h2]
        rw [e] at hq; exact hq
      · have e : tupIn (.tup xs) lo hi = false := by simp [tupIn, h2]
        rw [e] at hq; exact hq
  · cases d <;> first | (simp [isiT, tyOf] at h1; done) | exact hq

/-! ### names -/
theorem strOk_name {z : Str} (h : okD (.str z) = true) : PyData.strOk z = true ∧ z.length ≤ 1000 := by
  have h2 : (PyData.strOk z && decide (z.length ≤ 1000)) = true := h
  rw [Bool.and_eq_true] at h2
  exact ⟨h2.1, of_decide_eq_true h2.2⟩
theorem in_words {z : Str} {q : D → Prop} : inG false (.str z) c_WORDS q ↔ q (.bl (wordsS.any fun y => y == z)) := ⟨fun h => h.2.2, fun h => ⟨rfl, by decide, h⟩⟩
theorem all_signs {z : Str} {q : D → Prop} (hl : z.length ≤ 1000) (h : q (.bl (z.cps.toList.all fun c => decide (c ∈ lettersS.cps.toList)))) :
    fLcLoop (.nm 1) tYes' (fBin (inG false) (fVar 1) (fC c_LETTERS)) [1] [some (.str z), none] (fun d => allG [d] q) (signs z) [] := by
  refine lc_map (fun c => D.bl (decide (c ∈ lettersS.cps.toList))) z.cps.toList (fun c _ Q hQ => ?_) ?_ ?_
  · exact ⟨_, rfl, c, rfl, hQ⟩
  · have e : z.length = z.cps.toList.length := by rw [Array.length_toList]; rfl
    rw [← e]; exact Nat.le_trans hl (by decide)
  · refine ⟨z.cps.toList.map fun c => decide (c ∈ lettersS.cps.toList), by rw [List.map_map]; rfl, ?_⟩
    rw [List.all_map]
    exact h
theorem sat_is_name : ∀ ds q x, sp_is_name ds q x → ds.length = pr_is_name.length ∧ g_is_name ⟨fun _ => q .non, q, fun _ => False, fun _ => False, fun _ e => x e⟩ (startD nm_is_name ds) := by
  rintro ds q x ⟨d, rfl, hd, hq⟩
  have hp : plain d := by cases d <;> first | (simp [okD] at hd; done) | (simp [plain, tyOf, kinds])
  refine ⟨rfl, ?_⟩
  show g_is_name _ [some d, none]
  unfold g_is_name
  walk_at "pl"
  refine isi_k hp (by decide) ⟨_, rfl, ?_⟩
  cases d <;> first | (simp [okD] at hd; done) | skip
  case str z =>
    obtain ⟨ok, hl⟩ := strOk_name hd
    have hl1 : z.length ≤ LIM := Nat.le_trans hl (by decide)
    simp only [in_words]
    have hq2 : q (.bl (nameS z)) := hq
    unfold nameS at hq2
    by_cases h1 : 1 ≤ z.length
    · have h1' : (1 : Int) ≤ (z.length : Int) := by omega
      by_cases h2 : z.length ≤ 8
      · have h2' : (z.length : Int) ≤ 8 := by omega
        cases hw : wordsS.any fun y => y == z
        · simp only [h1, h2, hw, decide_true, Bool.true_and, Bool.not_false] at hq2
          simp [isiT, tyOf, leG, intG, lenG, hl1, c_MOST_LETTERS, h1', h2', itemsOf]
          exact all_signs hl hq2
        · simp [h1, h2, hw] at hq2
          simp [isiT, tyOf, leG, intG, lenG, hl1, c_MOST_LETTERS, h1', h2', hq2]
      · have h2' : ¬ (z.length : Int) ≤ 8 := by omega
        simp [h2] at hq2
        simp [isiT, tyOf, leG, intG, lenG, hl1, c_MOST_LETTERS, h1', h2', hq2]
    · have h1' : ¬ (1 : Int) ≤ (z.length : Int) := by omega
      simp [h1] at hq2
      simp [isiT, tyOf, leG, intG, lenG, hl1, c_MOST_LETTERS, h1', hq2]
  all_goals (simp [isiT, tyOf]; exact hq)
/-! ### ways -/
theorem w_t {A B : Prop} (h : A) : (true = true → A) ∧ (true = false → B) := ⟨fun _ => h, (fun z => by cases z)⟩
theorem w_f {A B : Prop} (h : B) : (false = true → A) ∧ (false = false → B) := ⟨(fun z => by cases z), fun _ => h⟩
theorem isi_str {d : D} (h : (∀ z, d ≠ .str z)) : isiT (tyOf d) "str" = false := by cases d <;> first | rfl | exact absurd rfl (h _)
theorem isi_str' {z : Str} : isiT (tyOf (.str z)) "str" = true := rfl
theorem isi_tup' {z : List D} : isiT (tyOf (.tup z)) "tuple" = true := rfl
theorem isi_tup {d : D} (h : (∀ z, d ≠ .tup z)) : isiT (tyOf d) "tuple" = false := by cases d <;> first | rfl | exact absurd rfl (h _)
theorem tame_empty : tame c_OUTSIDE := tame_str (by decide +kernel) (by decide)
/-! ### stretches -/
theorem okD_plain {d : D} (hd : okD d = true) : plain d := by cases d <;> first | (simp [okD] at hd; done) | (simp [plain, tyOf, kinds])
theorem tame_ok_str {z : Str} (h : okD (.str z) = true) : tame (.str z) := tame_str (strOk_name h).1 (by have := (strOk_name h).2; omega)
theorem strD_pair (m : Int) (l : Str) (b : D) : strD m (.tup [.str l, b]) = (betw b 1 m && (l == "" || nameS l)) := by cases b <;> rfl
theorem sat_is_stretch : ∀ ds q x, sp_is_stretch ds q x → ds.length = pr_is_stretch.length ∧ g_is_stretch ⟨fun _ => q .non, q, fun _ => False, fun _ => False, fun _ e => x e⟩ (startD nm_is_stretch ds) := by
  rintro ds q x ⟨d, rfl, hd, hq⟩
  have hp : plain d := okD_plain hd
  refine ⟨rfl, ?_⟩
  show g_is_stretch _ [some d, some (.int 200)]
  unfold g_is_stretch
  walk_at "pl"
  have hlen : ∀ xs, d = .tup xs → okDL xs = true ∧ xs.length ≤ 1000 := fun xs e => by
    subst e
    have h2 : (okDL xs && decide (xs.length ≤ 1000)) = true := hd
    rw [Bool.and_eq_true] at h2
    exact ⟨h2.1, of_decide_eq_true h2.2⟩
  refine ⟨d, 2, rfl, hp, fun xs e => (hlen xs e).2, by decide, _, rfl, ?_⟩
  by_cases ht : tupLen d 2 = true
  · obtain ⟨a, b, rfl⟩ : ∃ a b, d = .tup [a, b] := by
      cases d <;> first | (simp [tupLen] at ht; done) | skip
      case tup xs =>
        match xs, ht with
        | [a, b], _ => exact ⟨a, b, rfl⟩
        | [], h => simp [tupLen] at h
        | [a], h => simp [tupLen] at h
        | a :: b :: c :: r, h => simp [tupLen] at h; omega
    obtain ⟨h3, _⟩ := hlen _ rfl
    have h4 : (okD a && (okD b && true)) = true := h3
    simp only [Bool.and_eq_true, and_true] at h4
    have pa := okD_plain h4.1
    have pb := okD_plain h4.2
    rw [ht]
    refine w_f ⟨a, rfl, isi_k pa (by decide) ⟨_, rfl, ?_⟩⟩
    by_cases hs : ∃ l, a = .str l
    · obtain ⟨l, rfl⟩ := hs
      rw [isi_str']
      refine w_f ⟨b, rfl, b, 1, 200, rfl, pb, _, rfl, ?_⟩
      cases hb : betw b 1 200
      · rw [strD_pair, hb] at hq
        exact w_t hq
      · rw [strD_pair, hb, Bool.true_and] at hq
        refine w_f ⟨.str l, rfl, .s, ?_⟩
        have e2 : eqvD (.str l) c_OUTSIDE = (l == "") := by
          show eqvD (.str l) (.str "") = _
          rw [eqv_str, Bool.beq_eq_decide_eq]
        rw [e2]
        cases hl : l == ""
        · rw [hl] at hq
          exact ⟨false, rfl, w_f ⟨_, rfl, .str l, rfl, h4.1, hq⟩⟩
        · rw [hl] at hq
          exact ⟨true, rfl, w_t hq⟩
    · rw [isi_str fun z e => hs ⟨z, e⟩]
      have e : strD 200 (.tup [a, b]) = false := by
        cases a <;> first | rfl | exact absurd ⟨_, rfl⟩ hs
      rw [e] at hq
      exact w_t ⟨fun _ => hq, (fun z => by cases z)⟩
  · simp only [Bool.not_eq_true] at ht
    have e : strD 200 d = false := by
      cases d <;> first | rfl | skip
      case tup xs =>
        match xs, ht with
        | [a, b], h => simp [tupLen] at h
        | [], _ => rfl
        | [a], _ => simp [strD]
        | a :: b :: c :: r, _ => simp [strD]
    rw [e] at hq
    simp [ht, hq]
end K35

namespace K35
open PySem PySem.Spec L2 PL
local macro_rules | `(tactic| walk_at "pl") => `(tactic| simp only [sNil, sSeq, sRet, sDrop, sIf, sSet, sAsg, sNever, fVar, fC, fBin, fChain, fNot, fAnd, fOr, fNeg, fCB, fCall, fCallK, fNil, fCons, fStar, fTup, fLst, fIf, fSl, fPart, fNo, tB', tNot', tAnd', tOr', tYes', fLc, fItems, fRng1, fRng2, fZip,
  List.getElem?_cons_zero, List.getElem?_cons_succ, Option.some.injEq, exists_eq_left', exists_eq_left, List.set_cons_zero, List.set_cons_succ])
theorem w_T {A B : Prop} (h : A) : (True → A) ∧ (true = false → B) := ⟨fun _ => h, (fun z => by cases z)⟩
theorem sat_cycles_in : ∀ ds q x, sp_cycles_in ds q x → ds.length = pr_cycles_in.length ∧ g_cycles_in ⟨fun _ => q .non, q, fun _ => False, fun _ => False, fun _ e => x e⟩ (startD nm_cycles_in ds) := by
  rintro ds q x ⟨p, rfl, hl, hq⟩
  refine ⟨rfl, ?_⟩
  show g_cycles_in _ [some (pf p), none, none]
  unfold g_cycles_in
  walk_at "pl"
  refine ⟨p.map sd, rfl, ?_⟩
  refine lc_map (e := sd) (fun s => .int s.2) p (fun s _ Q hQ => ?_) (Nat.le_trans hl (by decide)) ?_
  · exact ⟨_, rfl, rfl, _, _, rfl, _, _, rfl, rfl, _, rfl, hQ⟩
  · exact ⟨p.map (fun s : Str × Int => s.2), by rw [List.map_map]; rfl, hq⟩
theorem asPf_pf : ∀ p : Pf, asPf (p.map sd) = p
  | [] => rfl
  | (l, c) :: r => by show (l, c) :: asPf (r.map sd) = _; rw [asPf_pf r]
theorem pf_asPf : ∀ xs : List D, xs.all (strD 200) = true → (asPf xs).map sd = xs
  | [], _ => rfl
  | d :: r, h => by
    rw [List.all_cons, Bool.and_eq_true] at h
    have ih := pf_asPf r h.2
    have h1 := h.1
    unfold strD at h1
    split at h1
    · rename_i l c
      show sd (l, c) :: (asPf r).map sd = _
      rw [ih]; rfl
    · cases h1
theorem unlike_zip : ∀ (a : Str × Int) (r : Pf), (((a :: r).zip r).map fun p => !decide (p.1.1 = p.2.1)).all id = unlike (a :: r)
  | a, [] => rfl
  | a, b :: r => by
    have ih := unlike_zip b r
    obtain ⟨a1, a2⟩ := a
    obtain ⟨b1, b2⟩ := b
    show ((!decide (a1 = b1)) && _) = (!(a1 == b1) && unlike ((b1, b2) :: r))
    rw [← ih, Bool.beq_eq_decide_eq]; rfl
theorem sat_is_profile_form : ∀ ds q x, sp_is_profile_form ds q x → ds.length = pr_is_profile_form.length ∧ g_is_profile_form ⟨fun _ => q .non, q, fun _ => False, fun _ => False, fun _ e => x e⟩ (startD nm_is_profile_form ds) := by
  rintro ds q x ⟨d, rfl, hd, hq⟩
  have hp : plain d := okD_plain hd
  refine ⟨rfl, ?_⟩
  show g_is_profile_form _ [some d, none, none, none]
  unfold g_is_profile_form
  walk_at "pl"
  refine ⟨d, 1, 8, rfl, hp, _, rfl, ?_⟩
  cases ht : tupIn d 1 8
  · have e : profD d = false := by
      cases d <;> first | rfl | skip
      case tup xs =>
        have h2 : (decide ((1 : Int) ≤ (xs.length : Int)) && decide ((xs.length : Int) ≤ 8)) = false := ht
        by_cases h1 : 1 ≤ xs.length <;> by_cases h8 : xs.length ≤ 8 <;> simp [profD, h1, h8]
        simp at h2; omega
    rw [e] at hq
    exact w_t (w_T hq)
  obtain ⟨xs, rfl⟩ : ∃ xs, d = .tup xs := by
    cases d <;> first | (simp [tupIn] at ht; done) | exact ⟨_, rfl⟩
  have h2 : (decide ((1 : Int) ≤ (xs.length : Int)) && decide ((xs.length : Int) ≤ 8)) = true := ht
  simp only [Bool.and_eq_true, decide_eq_true_eq] at h2
  have hL : okDL xs = true := by
    have h3 : (okDL xs && decide (xs.length ≤ 1000)) = true := hd
    rw [Bool.and_eq_true] at h3
    exact h3.1
  have hmem : ∀ (ys : List D) y, okDL ys = true → y ∈ ys → okD y = true := by
    intro ys
    induction ys with
    | nil => intro y _ z; cases z
    | cons a r ih =>
      intro y h z
      have h : (okD a && okDL r) = true := h
      rw [Bool.and_eq_true] at h
      rcases List.mem_cons.mp z with rfl | z
      · exact h.1
      · exact ih y h.2 z
  refine w_f ⟨xs, rfl, ?_⟩
  rw [show xs = xs.map id from (List.map_id _).symm]
  refine lc_map (e := id) (fun y => .bl (strD 200 y)) xs (fun y hy Q hQ => ?_) (Nat.le_trans (m := 8) (by omega) (by decide)) ?_
  · exact ⟨_, rfl, ⟨y, rfl, hmem xs y hL hy, hQ⟩⟩
  refine ⟨xs.map (strD 200), by rw [List.map_map]; rfl, _, rfl, ?_⟩
  rw [List.all_map, List.map_id]
  have hc : (xs.all (id ∘ strD 200)) = xs.all (strD 200) := rfl
  rw [hc]
  cases ha : xs.all (strD 200)
  · have e : profD (.tup xs) = false := by simp [profD, ha]
    rw [e] at hq
    exact wt hq
  refine wf ?_
  have e : profD (.tup xs) = okPf (asPf xs) := by
    have h1 : 1 ≤ xs.length := by omega
    have h8 : xs.length ≤ 8 := by omega
    simp [profD, ha, h1, h8]
  rw [e] at hq
  obtain ⟨p, rfl⟩ : ∃ p : Pf, xs = p.map sd := ⟨asPf xs, (pf_asPf xs ha).symm⟩
  rw [asPf_pf] at hq
  rw [List.length_map] at h2
  have hstr : ∀ s ∈ p, PyData.strOk s.1 = true ∧ s.1.length ≤ 1000 := by
    intro s hs
    have h5 : (okD (.str s.1) && (okD (.int s.2) && true)) = true := by
      have h6 := hmem _ (sd s) hL (List.mem_map.mpr ⟨s, hs, rfl⟩)
      have h6 : (okDL [.str s.1, .int s.2] && decide (2 ≤ 1000)) = true := h6
      rw [Bool.and_eq_true] at h6
      exact h6.1
    rw [Bool.and_eq_true] at h5
    exact strOk_name h5.1
  have htame : ∀ s ∈ p, tame (.str s.1) := fun s hs => tame_str (hstr s hs).1 (by have := (hstr s hs).2; omega)
  obtain ⟨a, r, rfl⟩ : ∃ a r, p = a :: r := by
    cases p with
    | nil => simp at h2
    | cons a r => exact ⟨a, r, rfl⟩
  obtain ⟨z, hz⟩ : ∃ z, (a :: r).getLast? = some z := ⟨_, List.getLast?_eq_some_getLast (List.cons_ne_nil a r)⟩
  have hzm : z ∈ a :: r := List.mem_of_getLast? hz
  refine ix_t (j := 0) (d := sd a) rfl (ix_t (j := 0) (d := .str a.1) rfl ⟨.s, _, rfl, ?_⟩)
  have e1 : eqvD (.str a.1) c_OUTSIDE = decide (a.1 = "") := eqv_str
  rw [e1]
  by_cases h1 : a.1 = ""
  rotate_left
  · rw [show decide (a.1 = "") = false from decide_eq_false h1]
    have e : okPf (a :: r) = false := by simp [okPf, h1]
    rw [e] at hq
    exact wt (wT hq)
  rw [show decide (a.1 = "") = true from decide_eq_true h1]
  refine wf ⟨1, rfl, ?_⟩
  refine ix_end (d := sd z) (by rw [List.getLast?_map, hz]; rfl) (ix_t (j := 0) (d := .str z.1) rfl ⟨.s, _, rfl, ?_⟩)
  have e2 : eqvD (.str z.1) c_OUTSIDE = decide (z.1 = "") := eqv_str
  rw [e2]
  by_cases h3 : z.1 = ""
  rotate_left
  · rw [show decide (z.1 = "") = false from decide_eq_false h3]
    have e : okPf (a :: r) = false := by simp [okPf, hz, h3]
    rw [e] at hq
    exact wt (wT hq)
  rw [show decide (z.1 = "") = true from decide_eq_true h3]
  refine wf ⟨a :: r, rfl, by omega, ?_⟩
  refine ⟨trivial, _, rfl, ?_⟩
  by_cases h4 : cyc (a :: r) ≤ 400
  rotate_left
  · rw [show decide (400 < cyc (a :: r)) = true from decide_eq_true (by omega)]
    have e : okPf (a :: r) = false := by simp [okPf, hz, h3, h4]
    rw [e] at hq
    exact wt hq
  rw [show decide (400 < cyc (a :: r)) = false from decide_eq_false (by omega)]
  have e : okPf (a :: r) = unlike (a :: r) := by simp [okPf, hz, h3, h1, h4]
  rw [e] at hq
  refine wf ⟨1, rfl, ?_⟩
  refine ⟨_, _, .inl rfl, ?_⟩
  rw [show cutD ((a :: r).map sd) (some 1) none = r.map sd from cut_from _ 1]
  rw [show pairs ((a :: r).map sd) (r.map sd) = ((a :: r).zip r).map (fun p => D.tup [sd p.1, sd p.2]) by unfold pairs; rw [List.zip_map, List.map_map]; rfl]
  refine lc_map (e := fun p : (Str × Int) × (Str × Int) => D.tup [sd p.1, sd p.2]) (fun p => .bl (!decide (p.1.1 = p.2.1))) ((a :: r).zip r) (fun p hp2 Q hQ => ?_) ?_ ?_
  · have m1 := (List.of_mem_zip hp2).1
    have m2 := List.mem_cons_of_mem a (List.of_mem_zip hp2).2
    rw [← eqv_str] at hQ
    exact ⟨_, rfl, rfl, _, _, rfl, _, _, rfl, rfl, _, rfl, ix_t (j := 0) rfl ⟨_, rfl, ix_t (j := 0) rfl ⟨.s, hQ⟩⟩⟩
  · rw [List.length_zip]
    simp only [List.length_cons] at h2 ⊢
    exact Nat.le_trans (m := 8) (by omega) (by decide)
  · refine ⟨((a :: r).zip r).map fun p => !decide (p.1.1 = p.2.1), by rw [List.map_map]; rfl, ?_⟩
    rw [unlike_zip]
    exact hq
end K35

namespace K35
open PySem PySem.Spec L2 PL
local macro_rules | `(tactic| walk_at "pl") => `(tactic| simp only [sNil, sSeq, sRet, sDrop, sIf, sSet, sAsg, sNever, fVar, fC, fBin, fChain, fNot, fAnd, fOr, fNeg, fCB, fCall, fCallK, fNil, fCons, fStar, fTup, fLst, fIf, fSl, fPart, fNo, tB', tNot', tAnd', tOr', tYes', fLc, fItems, fRng1, fRng2, fZip,
  List.getElem?_cons_zero, List.getElem?_cons_succ, Option.some.injEq, exists_eq_left', exists_eq_left, List.set_cons_zero, List.set_cons_succ])
theorem sat_check_number : ∀ ds q x, sp_check_number ds q x → ds.length = pr_check_number.length ∧ g_check_number ⟨fun _ => q .non, q, fun _ => False, fun _ => False, fun _ e => x e⟩ (startD nm_check_number ds) := by
  rintro ds q x ⟨d, lo, hi, rfl, hp, hb, hq⟩
  refine ⟨rfl, ?_⟩
  show g_check_number _ [some d, some (.int lo), some (.int hi)]
  unfold g_check_number
  walk_at "pl"
  refine ⟨d, lo, hi, rfl, hp, _, rfl, ?_⟩
  rw [hb]
  exact wf hq
theorem sat_check_profile : ∀ ds q x, sp_check_profile ds q x → ds.length = pr_check_profile.length ∧ g_check_profile ⟨fun _ => q .non, q, fun _ => False, fun _ => False, fun _ e => x e⟩ (startD nm_check_profile ds) := by
  rintro ds q x ⟨d, rfl, hp, hb, hq⟩
  refine ⟨rfl, ?_⟩
  show g_check_profile _ [some d]
  unfold g_check_profile
  walk_at "pl"
  refine ⟨d, rfl, hp, _, rfl, ?_⟩
  rw [hb]
  exact wf hq
theorem sat_is_profile : ∀ ds q x, sp_is_profile ds q x → ds.length = pr_is_profile.length ∧ g_is_profile ⟨fun _ => q .non, q, fun _ => False, fun _ => False, fun _ e => x e⟩ (startD nm_is_profile ds) := by
  rintro ds q x ⟨d, rfl, hp, hq⟩
  refine ⟨rfl, ?_⟩
  show g_is_profile _ [some d]
  unfold g_is_profile
  walk_at "pl"
  exact ⟨d, rfl, hp, hq⟩
theorem sat_check_behind : ∀ ds q x, sp_check_behind ds q x → ds.length = pr_check_behind.length ∧ g_check_behind ⟨fun _ => q .non, q, fun _ => False, fun _ => False, fun _ e => x e⟩ (startD nm_check_behind ds) := by
  rintro ds q x ⟨p, n, rfl, hd, hp, h8, h0, hn, hq⟩
  refine ⟨rfl, ?_⟩
  show g_check_behind _ [some (pf p), some (.int n)]
  unfold g_check_behind
  walk_at "pl"
  exact ⟨pf p, rfl, hd, hp, p, rfl, by omega, .int n, 0, cyc p, rfl, by simp [plain, tyOf, kinds], by simp [betw, h0, hn], hq⟩
theorem right_profD {p : Pf} (h : Rt p) : profD (pf p) = true := by
  have e : ∀ r : Pf, (∀ s ∈ r, 1 ≤ s.2 ∧ s.2 ≤ 200 ∧ (s.1 = "" ∨ nameS s.1 = true)) → (r.map sd).all (strD 200) = true := by
    intro r hr
    rw [List.all_map, List.all_eq_true]
    intro s hs
    obtain ⟨h1, h2, h3⟩ := hr s hs
    show strD 200 (.tup [.str s.1, .int s.2]) = true
    rw [strD_pair]
    rcases h3 with h3 | h3 <;> simp [betw, h1, h2, h3]
  have h1 := h.len1
  have h8 := h.len8
  show (decide (1 ≤ (p.map sd).length) && decide ((p.map sd).length ≤ 8) && (p.map sd).all (strD 200) && okPf (asPf (p.map sd))) = true
  rw [List.length_map, asPf_pf, e p h.each, h.ok]
  simp [h1, h8]
theorem sat_cycles_of : ∀ ds q x, sp_cycles_of ds q x → ds.length = pr_cycles_of.length ∧ g_cycles_of ⟨fun _ => q .non, q, fun _ => False, fun _ => False, fun _ e => x e⟩ (startD nm_cycles_of ds) := by
  rintro ds q x ⟨p, rfl, hr, hd, hq⟩
  refine ⟨rfl, ?_⟩
  show g_cycles_of _ [some (pf p)]
  unfold g_cycles_of
  walk_at "pl"
  exact ⟨pf p, rfl, hd, right_profD hr, p, rfl, by have := hr.len8; omega, hq⟩
theorem cyc_le {p : Pf} (h : Rt p) : cyc p ≤ 400 := by
  have := h.ok
  simp only [okPf, Bool.and_eq_true, decide_eq_true_eq] at this
  exact this.1.2
theorem sat_left : ∀ ds q x, sp_left ds q x → ds.length = pr_left.length ∧ g_left ⟨fun _ => q .non, q, fun _ => False, fun _ => False, fun _ e => x e⟩ (startD nm_left ds) := by
  rintro ds q x ⟨p, n, rfl, hr, hd, h0, hn, hq⟩
  refine ⟨rfl, ?_⟩
  show g_left _ [some (pf p), some (.int n)]
  unfold g_left
  walk_at "pl"
  have := cyc_le hr
  exact ⟨p, n, rfl, hd, right_profD hr, hr.len8, h0, hn, p, n, rfl, hr.len8, fun s hs => ⟨(hr.each s hs).1, (hr.each s hs).2.1⟩, h0, by omega, hq⟩
/-! tame profiles -/
theorem cost_sd {s : Str × Int} (h : PyData.strOk s.1 = true) (hl : s.1.length ≤ 1000) (hn : s.2.natAbs < 1000000000000) : cost (sd s) ≤ 1003 := by
  show cost (.str s.1) + (cost (.int s.2) + 0) + 1 ≤ 1003
  rw [cost_str h, cost_int hn]; omega
theorem tame_pf {p : Pf} (h8 : p.length ≤ 9) (h : ∀ s ∈ p, PyData.strOk s.1 = true ∧ s.1.length ≤ 1000 ∧ s.2.natAbs < 1000000000000) : cost (pf p) ≤ 9100 ∧ dep (pf p) ≤ 2 := by
  have h1 : costL (p.map sd) ≤ (p.map sd).length * 1003 := costL_le _ (fun d hd => by
    obtain ⟨s, hs, rfl⟩ := List.mem_map.mp hd
    exact cost_sd (h s hs).1 (h s hs).2.1 (h s hs).2.2)
  have h2 : depL (p.map sd) ≤ 1 := depL_le _ (fun d hd => by
    obtain ⟨s, hs, rfl⟩ := List.mem_map.mp hd
    exact Nat.le_refl 1)
  rw [List.length_map] at h1
  refine ⟨?_, ?_⟩
  · show costL (p.map sd) + 1 ≤ _
    have : p.length * 1003 ≤ 9 * 1003 := Nat.mul_le_mul_right _ h8
    omega
  · show depL (p.map sd) + 1 ≤ 2
    omega
theorem okDL_mem : ∀ (ys : List D) y, okDL ys = true → y ∈ ys → okD y = true := by
  intro ys
  induction ys with
  | nil => intro y _ z; cases z
  | cons a r ih =>
    intro y h z
    have h : (okD a && okDL r) = true := h
    rw [Bool.and_eq_true] at h
    rcases List.mem_cons.mp z with rfl | z
    · exact h.1
    · exact ih y h.2 z
theorem okDL_all : ∀ (ys : List D), (∀ y ∈ ys, okD y = true) → okDL ys = true
  | [], _ => rfl
  | a :: r, h => by
    show (okD a && okDL r) = true
    rw [h a (List.mem_cons_self ..), okDL_all r fun y hy => h y (List.mem_cons_of_mem _ hy)]
    rfl
theorem okD_sd {s : Str × Int} : okD (sd s) = okD (.str s.1) := by
  show ((okD (.str s.1) && (true && true)) && decide (2 ≤ 1000)) = _
  simp
theorem okD_pf {p : Pf} : okD (pf p) = true ↔ p.length ≤ 1000 ∧ ∀ s ∈ p, okD (.str s.1) = true := by
  show (okDL (p.map sd) && decide ((p.map sd).length ≤ 1000)) = true ↔ _
  rw [Bool.and_eq_true, decide_eq_true_eq, List.length_map]
  constructor
  · rintro ⟨h1, h2⟩
    exact ⟨h2, fun s hs => by rw [← okD_sd]; exact okDL_mem _ _ h1 (List.mem_map.mpr ⟨s, hs, rfl⟩)⟩
  · rintro ⟨h1, h2⟩
    exact ⟨okDL_all _ fun y hy => by
      obtain ⟨s, hs, rfl⟩ := List.mem_map.mp hy
      rw [okD_sd]; exact h2 s hs, h1⟩
/-! what is left is no longer, and its strings are of it -/
theorem leftP_len : ∀ (p : Pf) (n : Int), (leftP p n).length ≤ p.length
  | [], _ => Nat.le_refl _
  | (l, c) :: r, n => by
    unfold leftP
    split
    · have := leftP_len r (n - c)
      rw [List.length_cons]; omega
    · split <;> simp
theorem leftP_mem : ∀ (p : Pf) (n : Int) (s : Str × Int), 0 ≤ n → (∀ s ∈ p, 1 ≤ s.2 ∧ s.2 ≤ 200) → s ∈ leftP p n → (∃ t ∈ p, t.1 = s.1) ∧ 0 ≤ s.2 ∧ s.2 ≤ 200
  | [], _, _, _, _, h => by cases h
  | (l, c) :: r, n, s, h0, hb, h => by
    unfold leftP at h
    have hc := hb (l, c) (List.mem_cons_self ..)
    dsimp only at hc
    split at h
    · obtain ⟨⟨t, ht, e⟩, h2⟩ := leftP_mem r (n - c) s (by omega) (fun s hs => hb s (List.mem_cons_of_mem _ hs)) h
      exact ⟨⟨t, List.mem_cons_of_mem _ ht, e⟩, h2⟩
    · split at h
      · have := hb s h
        exact ⟨⟨s, h, rfl⟩, by omega, this.2⟩
      · rcases List.mem_cons.mp h with rfl | h
        · exact ⟨⟨(l, c), List.mem_cons_self .., rfl⟩, by dsimp only; omega, by dsimp only; omega⟩
        · have := hb s (List.mem_cons_of_mem _ h)
          exact ⟨⟨s, List.mem_cons_of_mem _ h, rfl⟩, by omega, this.2⟩
theorem tame_left {p : Pf} (hr : Rt p) (hd : okD (pf p) = true) {n : Int} (h0 : 0 ≤ n) : cost (pf (leftP p n)) ≤ 9100 ∧ dep (pf (leftP p n)) ≤ 2 := by
  refine tame_pf (Nat.le_trans (leftP_len p n) (by have := hr.len8; omega)) fun s hs => ?_
  obtain ⟨⟨t, ht, e⟩, h1, h2⟩ := leftP_mem p n s h0 (fun s hs => ⟨(hr.each s hs).1, (hr.each s hs).2.1⟩) hs
  have := strOk_name ((okD_pf.mp hd).2 t ht)
  rw [e] at this
  exact ⟨this.1, this.2, by omega⟩
theorem sat_lock_held : ∀ ds q x, sp_lock_held ds q x → ds.length = pr_lock_held.length ∧ g_lock_held ⟨fun _ => q .non, q, fun _ => False, fun _ => False, fun _ e => x e⟩ (startD nm_lock_held ds) := by
  rintro ds q x ⟨p, n, rfl, hr, hd, h0, hn, hq⟩
  refine ⟨rfl, ?_⟩
  show g_lock_held _ [some (pf p), some (.int n)]
  unfold g_lock_held
  walk_at "pl"
  have := tame_left hr hd h0
  exact ⟨p, n, rfl, hr, hd, h0, hn, leftP p n, rfl, ⟨by omega, by omega⟩, hq⟩
theorem sat_lock_of : ∀ ds q x, sp_lock_of ds q x → ds.length = pr_lock_of.length ∧ g_lock_of ⟨fun _ => q .non, q, fun _ => False, fun _ => False, fun _ e => x e⟩ (startD nm_lock_of ds) := by
  rintro ds q x ⟨p, rfl, ht, hq⟩
  refine ⟨rfl, ?_⟩
  show g_lock_of _ [some (pf p)]
  unfold g_lock_of
  walk_at "pl"
  refine ⟨by decide, .t ht ⟨by decide, by decide⟩, _, rfl, ?_⟩
  cases p with
  | nil => exact wf hq
  | cons a r => exact wt (ix_t (j := 0) rfl (ix_t (j := 0) rfl hq))
theorem sat_left_of : ∀ ds q x, sp_left_of ds q x → ds.length = pr_left_of.length ∧ g_left_of ⟨fun _ => q .non, q, fun _ => False, fun _ => False, fun _ e => x e⟩ (startD nm_left_of ds) := by
  rintro ds q x ⟨p, n, rfl, h8, hb, h0, hn, hq⟩
  refine ⟨rfl, ?_⟩
  show g_left_of _ [some (pf p), some (.int n), none, none, none]
  unfold g_left_of
  walk_at "pl"
  unfold sWhile
  refine ⟨fun m ρ => ∃ (i : Nat) (k : Int), i + m = p.length ∧ ρ = [some (pf p), some (.int k), some (.int i), none, none] ∧ 0 ≤ k ∧ k ≤ 400 ∧ leftP (p.drop i) k = leftP p n, ⟨p.length, 0, n, by omega, rfl, h0, hn, rfl⟩, ?_⟩
  rintro m ρ ⟨i, k, hm, rfl, hk0, hk4, he⟩
  walk_at "pl"
  have hlen : ((p.map sd).length : Int) = (p.length : Int) := by rw [List.length_map]
  have hsl : slG (pf p) (some (i : Int)) none q ↔ q (pf (p.drop i)) := by
    show q (.tup (cutD (p.map sd) (some (i : Int)) none)) ↔ q (.tup ((p.drop i).map sd))
    rw [cut_from, List.map_drop]
  have ti : tame (.int (i : Int)) := tame_int (by omega)
  have tl : tame (.int ((p.map sd).length : Int)) := tame_int (by rw [hlen]; omega)
  have tk : tame (.int k) := tame_int (by omega)
  have tz : tame (.int 0) := tame_int (by decide)
  refine ⟨trivial, _, rfl, ?_⟩
  rw [hlen]
  by_cases hlt : i < p.length
  · rw [show decide ((i : Int) < (p.length : Int)) = true from decide_eq_true (by omega)]
    obtain ⟨⟨l, c⟩, hget⟩ : ∃ s, p[i]? = some s := ⟨p[i], List.getElem?_eq_getElem hlt⟩
    have hc := hb (l, c) (List.mem_of_getElem? hget)
    dsimp only at hc
    have hdrop : p.drop i = (l, c) :: p.drop (i + 1) := by
      rw [List.drop_eq_getElem_cons hlt]
      rw [List.getElem?_eq_getElem hlt] at hget
      rw [Option.some.inj hget]
    have hg2 : (p.map sd)[i]? = some (sd (l, c)) := by rw [List.getElem?_map, hget]; rfl
    refine wt (ix_t (j := i) hg2 (ix_t (j := 1) (d := .int c) rfl ⟨trivial, _, rfl, ?_⟩))
    by_cases hkc : c ≤ k
    · rw [show decide (c ≤ k) = true from decide_eq_true hkc]
      refine wt (ix_t (j := i) hg2 (ix_t (j := 1) (d := .int c) rfl ⟨m - 1, by omega, i + 1, k - c, by omega, rfl, by omega, by omega, ?_⟩))
      rw [hdrop] at he
      rw [← he]
      show _ = (if c ≤ k then leftP (p.drop (i + 1)) (k - c) else _)
      rw [if_pos hkc]
    · rw [show decide (c ≤ k) = false from decide_eq_false hkc]
      refine wf ⟨.i, _, rfl, ?_⟩
      rw [eqv_int, show decide ((i : Int) = ((p.map sd).length : Int)) = false from decide_eq_false (by rw [hlen]; omega)]
      refine wf ⟨.i, _, rfl, ?_⟩
      rw [eqv_int]
      have he2 : leftP p n = if k = 0 then (l, c) :: p.drop (i + 1) else (l, c - k) :: p.drop (i + 1) := by
        rw [← he, hdrop]
        show (if c ≤ k then leftP (p.drop (i + 1)) (k - c) else _) = _
        rw [if_neg hkc]
      by_cases hz : k = 0
      · rw [show decide (k = 0) = true from decide_eq_true hz]
        refine wt ⟨_, rfl, hsl.mpr ?_⟩
        rw [he2, if_pos hz, ← hdrop] at hq
        exact hq
      · rw [show decide (k = 0) = false from decide_eq_false hz]
        rw [he2, if_neg hz] at hq
        refine wf (ix_t (j := i) hg2 ⟨_, rfl, rfl, _, _, rfl, _, _, rfl, rfl, ?_⟩)
        refine ⟨.str l, rfl, .int c, rfl, .int k, rfl, limN (by simp), .tup (p.map sd), rfl, .int i, rfl, _, rfl, (p.map sd).drop (i + 1), .inl ?_, limN ?_, ?_⟩
        · exact congrArg D.tup (cut_from _ (i + 1))
        · simp; omega
        · rw [List.append_nil, ← List.map_drop]
          exact hq
  · have ei : i = p.length := by omega
    have hd : p.drop i = [] := by rw [ei, List.drop_length]
    rw [show decide ((i : Int) < (p.length : Int)) = false from decide_eq_false (by omega)]
    refine wf (wF ⟨.i, _, rfl, ?_⟩)
    rw [eqv_int, show decide ((i : Int) = ((p.map sd).length : Int)) = true from decide_eq_true (by rw [hlen]; omega)]
    refine wt (wT ⟨_, rfl, hsl.mpr ?_⟩)
    rw [← he, hd] at hq
    rw [hd]
    exact hq
end K35

namespace K35
open PySem PySem.Spec L2 PL
local macro_rules | `(tactic| walk_at "pl") => `(tactic| simp only [sNil, sSeq, sRet, sDrop, sIf, sSet, sAsg, sNever, fVar, fC, fBin, fChain, fNot, fAnd, fOr, fNeg, fCB, fCall, fCallK, fNil, fCons, fStar, fTup, fLst, fIf, fSl, fPart, fNo, tB', tNot', tAnd', tOr', tYes', fLc, fItems, fRng1, fRng2, fZip,
  List.getElem?_cons_zero, List.getElem?_cons_succ, Option.some.injEq, exists_eq_left', exists_eq_left, List.set_cons_zero, List.set_cons_succ])
theorem moreP_eq : ∀ (p : Pf) (l : Str) (c n : Int), moreP (p ++ [(l, c)]) n = p ++ [(l, c + n)]
  | [], l, c, n => rfl
  | [a], l, c, n => rfl
  | a :: b :: r, l, c, n => by
    show a :: moreP (b :: r ++ [(l, c)]) n = _
    rw [moreP_eq (b :: r) l c n]; rfl
theorem last_of {p : Pf} (h : 1 ≤ p.length) : ∃ r l c, p = r ++ [(l, c)] := by
  refine ⟨p.dropLast, (p.getLast (by intro e; subst e; simp at h)).1, (p.getLast (by intro e; subst e; simp at h)).2, ?_⟩
  rw [List.dropLast_concat_getLast]
theorem okD_more {p : Pf} {n : Int} (h1 : 1 ≤ p.length) (h : okD (pf p) = true) : okD (pf (moreP p n)) = true := by
  obtain ⟨r, l, c, rfl⟩ := last_of h1
  rw [moreP_eq, okD_pf]
  rw [okD_pf] at h
  refine ⟨by have := h.1; simp at this ⊢; omega, fun s hs => ?_⟩
  rcases List.mem_append.mp hs with h2 | h2
  · exact h.2 s (List.mem_append_left _ h2)
  · obtain rfl := List.mem_singleton.mp h2
    exact h.2 (l, c) (List.mem_append_right _ (List.mem_singleton.mpr rfl))
theorem sat_longer_by : ∀ ds q x, sp_longer_by ds q x → ds.length = pr_longer_by.length ∧ g_longer_by ⟨fun _ => q .non, q, fun _ => False, fun _ => False, fun _ e => x e⟩ (startD nm_longer_by ds) := by
  rintro ds q x ⟨p, n, rfl, hr, hd, h0, hq⟩
  refine ⟨rfl, ?_⟩
  have hd2 : okD (pf (moreP p n)) = true := okD_more hr.len1 hd
  have h8 := hr.len8
  obtain ⟨r, l, c, rfl⟩ := last_of hr.len1
  rw [moreP_eq] at hq hd2
  show g_longer_by _ [some (pf (r ++ [(l, c)])), some (.int n), none, none, none]
  unfold g_longer_by
  walk_at "pl"
  refine ⟨1, rfl, ix_end (d := sd (l, c)) (by simp) ?_⟩
  refine ⟨_, rfl, rfl, _, _, rfl, _, _, rfl, rfl, ?_⟩
  refine ⟨.tup ((r ++ [(l, c)]).map sd), rfl, 1, rfl, -1, rfl, r.map sd, .inl ?_, .str l, rfl, .int c, rfl, .int n, rfl, limN (by simp), limN ?_, ?_⟩
  · refine congrArg D.tup ((cut_init _).trans ?_)
    simp
  · simp at h8 ⊢; omega
  · have e : r.map sd ++ [D.tup [.str l, .int (c + n)]] = (r ++ [(l, c + n)]).map sd := by simp [sd]
    rw [e]
    refine ⟨_, rfl, pf (r ++ [(l, c + n)]), rfl, hd2, _, rfl, ?_⟩
    cases hp : profD (pf (r ++ [(l, c + n)]))
    · rw [hp] at hq
      exact wf ⟨limN (by simp), hq⟩
    · rw [hp] at hq
      exact wt ⟨pf (r ++ [(l, c + n)]), rfl, limN (by simp), hq⟩
theorem sat_longer : ∀ ds q x, sp_longer ds q x → ds.length = pr_longer.length ∧ g_longer ⟨fun _ => q .non, q, fun _ => False, fun _ => False, fun _ e => x e⟩ (startD nm_longer ds) := by
  rintro ds q x ⟨p, n, rfl, hr, hd, h0, hn, hq⟩
  refine ⟨rfl, ?_⟩
  show g_longer _ [some (pf p), some (.int n)]
  unfold g_longer
  walk_at "pl"
  refine ⟨pf p, rfl, hd, right_profD hr, .int n, 0, 2000, rfl, by simp [plain, tyOf, kinds], by simp [betw, h0, hn], p, n, rfl, hr, hd, h0, _, .inr rfl, limN ?_, ?_⟩
  · split <;> simp
  · cases hp : profD (pf (moreP p n))
    · rw [hp] at hq
      exact ix_l (j := 0) rfl hq
    · rw [hp] at hq
      exact ix_l (j := 0) rfl hq
theorem sat__law_deal : ∀ ds q x, sp__law_deal ds q x → ds.length = pr__law_deal.length ∧ g__law_deal ⟨fun _ => q .non, q, fun _ => False, fun _ => False, fun _ e => x e⟩ (startD nm__law_deal ds) := by
  rintro ds q x ⟨top, rfl, h0, h1, hq⟩
  refine ⟨rfl, ?_⟩
  show g__law_deal _ [some .well, some (.int top), none, none]
  unfold g__law_deal
  walk_at "pl"
  have htop : 0 < top := h0
  have q1 : ∀ n : Int, q (.int (n % top)) := fun n => hq _ (Int.emod_nonneg _ (by omega)) (Int.emod_lt_of_pos _ htop)
  refine .inl ⟨rfl, fun n0 hn0 => ⟨trivial, _, rfl, fun _ => .inl ⟨rfl, fun n0 hn0 => ⟨⟨htop, h1⟩, ?_⟩⟩, fun _ => ?_⟩⟩
  · exact ⟨_, rfl, rfl, _, _, rfl, rfl, n0 / top, rfl, .inl ⟨rfl, Int.ediv_nonneg hn0 (by omega)⟩, _, _, rfl, rfl, _, rfl, q1 _⟩
  refine well2 fun n2 => ⟨rfl, _, rfl, .inr (.inr rfl), ?_⟩
  walk_at "pl"
  refine well1 fun n1 h10 h11 => mul_i (.inr (by decide)) (well2 fun n2 => mul_i (.inl (by decide)) (toI (mod_i (by decide) ?_)))
  generalize hm : (n1 * 15559 + 11933 * n2) % 2147483423 = m
  have hm0 : 0 ≤ m ∧ m < 2147483423 := by subst hm; exact ⟨Int.emod_nonneg _ (by decide), Int.emod_lt_of_pos _ (by decide)⟩
  refine toI (mod_i (by decide) (mul_i (.inl ⟨by omega, by omega⟩) (well2 fun n2 => mul_i (.inl (by decide)) (toI (mod_i (by decide) ?_)))))
  refine ⟨rfl, _, rfl, .inr (.inl ⟨rfl, Int.emod_nonneg _ (by decide), Int.lt_trans (Int.emod_lt_of_pos _ (by decide)) (by decide)⟩), ?_⟩
  walk_at "pl"
  exact well1 fun n1 h10 h11 => div_i ⟨by decide, by decide⟩ (toI (mod_i htop (q1 _)))
theorem sat__law_any : ∀ ds q x, sp__law_any ds q x → ds.length = pr__law_any.length ∧ g__law_any ⟨fun _ => q .non, q, fun _ => False, fun _ => False, fun _ e => x e⟩ (startD nm__law_any ds) := by
  rintro ds q x ⟨xs, rfl, h0, h1, hq⟩
  refine ⟨rfl, ?_⟩
  show g__law_any _ [some .well, some (.lst xs)]
  unfold g__law_any
  walk_at "pl"
  refine ⟨_, rfl, by omega, by omega, fun k hk0 hk1 => ?_⟩
  obtain ⟨j, rfl⟩ : ∃ j : Nat, k = j := ⟨k.toNat, by omega⟩
  have hj : j < xs.length := by omega
  exact ix_l (j := j) (List.getElem?_eq_getElem hj) (hq _ (List.getElem_mem hj))
theorem sat__law_pail : ∀ ds q x, sp__law_pail ds q x → ds.length = pr__law_pail.length ∧ g__law_pail ⟨fun _ => q .non, q, fun _ => False, fun _ => False, fun _ e => x e⟩ (startD nm__law_pail ds) := by
  rintro ds q x ⟨ns, t, rfl, hl, h0, hq⟩
  refine ⟨rfl, ?_⟩
  show g__law_pail _ [some (.scr ns), some (.int t), none, none, none]
  unfold g__law_pail
  walk_at "pl"
  refine mul_i (.inl (by decide)) (add_int ?_)
  unfold sFor
  walk_at "pl"
  refine ⟨12, rfl, _, rfl, ?_⟩
  have e12 : cutD (ns.map D.int) none (some 12) = (ns.take 12).map D.int := by rw [List.map_take]; exact cut_to _ 12
  rw [e12]
  refine loop_inv (fun i ρ => ∃ (m : Int) (c : Option D), ρ = [some (.scr ns), some (.int t), some (.int m), c, none]) _ 0 _ ⟨_, _, rfl⟩ ?_ ?_
  · rintro i d ρ hd ⟨m, c, rfl⟩ N hN
    rw [List.getElem?_map] at hd
    obtain ⟨n, hn, rfl⟩ := Option.map_eq_some_iff.mp hd
    simp only [tgE]
    walk_at "pl"
    refine mul_i (.inr (by decide)) (toI (mod_i (by decide) (mul_i (.inr (by decide)) (add_int (add_int (toI (mod_i (by decide) (hN _ ⟨_, _, rfl⟩))))))))
  · rintro ρ ⟨m, c, rfl⟩
    walk_at "pl"
    have ab : ∀ n : Int, 0 ≤ (if n < 0 then -n else n) := fun n => by split <;> omega
    have b0 : ∀ n : Int, 0 ≤ n % 2147483423 := fun n => Int.emod_nonneg _ (by decide)
    have b1 : ∀ n : Int, n % 2147483423 < 2147483648 := fun n => Int.lt_trans (Int.emod_lt_of_pos _ (by decide)) (by decide)
    refine ⟨trivial, _, rfl, wq (fun h => ?_) (fun h => ?_)⟩
    · have ht : t < (ns.length : Int) := of_decide_eq_true h
      obtain ⟨j, rfl⟩ : ∃ j : Nat, t = j := ⟨t.toNat, by omega⟩
      have hj : j < ns.length := by omega
      refine ⟨ns[j], atI_nat (List.getElem?_eq_getElem hj), toI ?_⟩
      refine mul_i (.inr (by decide)) (mod_i (by decide) (mul_i (.inr (by decide)) (add_int (add_int (toI (mod_i (by decide) ⟨trivial, _, rfl, wq (fun _ => wT ⟨limN (by simp), hq _ _ _ (ab _) (b0 _) (b1 _)⟩) (fun _ => ⟨⟨by decide, by decide, by decide⟩, trivial, _, rfl, wq (fun _ => ⟨limN (by simp), hq _ _ _ (ab _) (b0 _) (b1 _)⟩) (fun _ => ⟨limN (by simp), hq _ _ _ (Int.le_refl _) (b0 _) (b1 _)⟩)⟩)⟩))))))
    · refine mul_i (.inr (by decide)) (mod_i (by decide) (mul_i (.inr (by decide)) (add_int (add_int (toI (mod_i (by decide) ⟨trivial, _, rfl, wq (fun _ => wT ⟨limN (by simp), hq _ _ _ (ab _) (b0 _) (b1 _)⟩) (fun _ => ⟨⟨by decide, by decide, by decide⟩, trivial, _, rfl, wq (fun _ => ⟨limN (by simp), hq _ _ _ (ab _) (b0 _) (b1 _)⟩) (fun _ => ⟨limN (by simp), hq _ _ _ (Int.le_refl _) (b0 _) (b1 _)⟩)⟩)⟩))))))
end K35

namespace K35
open PySem PySem.Spec L2 PL
local macro_rules | `(tactic| walk_at "pl") => `(tactic| simp only [sNil, sSeq, sRet, sDrop, sIf, sSet, sAsg, sNever, fVar, fC, fBin, fChain, fNot, fAnd, fOr, fNeg, fCB, fCall, fCallK, fNil, fCons, fStar, fTup, fLst, fIf, fSl, fPart, fNo, tB', tNot', tAnd', tOr', tYes', fLc, fItems, fRng1, fRng2, fZip,
  List.getElem?_cons_zero, List.getElem?_cons_succ, Option.some.injEq, exists_eq_left', exists_eq_left, List.set_cons_zero, List.set_cons_succ])
theorem leftP_zero : ∀ p : Pf, (∀ s ∈ p, 1 ≤ s.2) → leftP p 0 = p
  | [], _ => rfl
  | (l, c) :: r, h => by
    have := h (l, c) (List.mem_cons_self ..)
    dsimp only at this
    unfold leftP
    rw [if_neg (by omega), if_pos rfl]
theorem leftP_step : ∀ (p : Pf) (i : Int), 0 ≤ i → (∀ s ∈ p, 1 ≤ s.2) → i < cyc p → ∃ l c r, leftP p i = (l, c) :: r ∧ 1 ≤ c ∧ leftP p (i + 1) = (if 1 < c then [(l, c - 1)] else []) ++ r
  | [], i, h0, _, h => by
    have : i < 0 := h
    omega
  | (l, c) :: r, i, h0, hb, h => by
    have hc := hb (l, c) (List.mem_cons_self ..)
    have hr : ∀ s ∈ r, 1 ≤ s.2 := fun s hs => hb s (List.mem_cons_of_mem _ hs)
    dsimp only at hc
    have hcy : cyc ((l, c) :: r) = c + cyc r := by simp [cyc]
    have z := leftP_zero r hr
    unfold leftP
    by_cases h1 : c ≤ i
    · rw [if_pos h1, if_pos (by omega)]
      obtain ⟨l2, c2, r2, e1, e2, e3⟩ := leftP_step r (i - c) (by omega) hr (by omega)
      exact ⟨l2, c2, r2, e1, e2, by rw [← e3]; congr 1; omega⟩
    · rw [if_neg h1]
      by_cases h2 : i = 0
      · subst h2
        rw [if_pos rfl]
        refine ⟨l, c, r, rfl, hc, ?_⟩
        by_cases h3 : c ≤ 0 + 1
        · have : c = 1 := by omega
          subst this
          rw [if_pos h3, if_neg (by omega)]
          exact z
        · rw [if_neg h3, if_neg (by omega), if_pos (by omega)]
          rfl
      · rw [if_neg h2]
        refine ⟨l, c - i, r, rfl, by omega, ?_⟩
        by_cases h3 : c ≤ i + 1
        · have : c = i + 1 := by omega
          subst this
          rw [if_pos h3, if_neg (by omega), Int.sub_self, z]
          rfl
        · rw [if_neg h3, if_neg (by omega), if_pos (by omega)]
          show _ = (l, c - i - 1) :: r
          rw [show c - (i + 1) = c - i - 1 by omega]
theorem sat__law_left : ∀ ds q x, sp__law_left ds q x → ds.length = pr__law_left.length ∧ g__law_left ⟨fun _ => q .non, q, fun _ => False, fun _ => False, fun _ e => x e⟩ (startD nm__law_left ds) := by
  rintro ds q x ⟨p, n, rfl, hb, h8, h0, hn, h4, hq⟩
  refine ⟨rfl, ?_⟩
  show g__law_left _ [some (pf p), some (.int n), none, none, none]
  unfold g__law_left
  walk_at "pl"
  unfold sFor
  walk_at "pl"
  refine ⟨n, rfl, by omega, by omega, ?_⟩
  refine loop_inv (fun i ρ => ∃ (a b c : Option D), ρ = [some (pf (leftP p i)), some (.int n), a, b, c]) _ 0 _ ⟨_, _, _, by rw [show ((0 : Nat) : Int) = 0 from rfl, leftP_zero p hb]⟩ ?_ ?_
  · rintro i d ρ hd ⟨a, b, c, rfl⟩ N hN
    have hi : i < n.toNat := by
      have := (List.getElem?_eq_some_iff.mp hd).1
      rw [rng_length] at this; exact this
    obtain ⟨l, c, r, e1, e2, e3⟩ := leftP_step p (0 + i : Nat) (by omega) hb (by omega)
    rw [e1]
    have hl : ((l, c) :: r).length ≤ 8 := by rw [← e1]; exact Nat.le_trans (leftP_len _ _) h8
    rw [List.length_cons] at hl
    simp only [tgE]
    walk_at "pl"
    refine ix_t (j := 0) (d := sd (l, c)) rfl ⟨_, rfl, rfl, _, _, rfl, _, _, rfl, rfl, ?_⟩
    walk_at "pl"
    have hdr : cutD (((l, c) :: r).map sd) (some 1) none = r.map sd := cut_from _ 1
    refine ⟨trivial, _, rfl, wq (fun h => ?_) (fun h => ?_)⟩
    · have hc : 1 < c := of_decide_eq_true h
      rw [if_pos hc] at e3
      refine ⟨limN (by simp), limN (by simp), 1, rfl, sl_from (k := 1) ?_⟩
      refine ⟨limN (by simp; omega), hN _ ⟨some d, some (.str l), some (.int c), ?_⟩⟩
      rw [show ((0 + i + 1 : Nat) : Int) = ((0 + i : Nat) : Int) + 1 by omega, e3]
      rfl
    · have hc : ¬ 1 < c := of_decide_eq_false h
      rw [if_neg hc] at e3
      refine ⟨limN (by simp), 1, rfl, sl_from (k := 1) ?_⟩
      refine ⟨limN (by simp; omega), hN _ ⟨some d, some (.str l), some (.int c), ?_⟩⟩
      rw [show ((0 + i + 1 : Nat) : Int) = ((0 + i : Nat) : Int) + 1 by omega, e3]
      rfl
  · rintro ρ ⟨a, b, c, rfl⟩
    walk_at "pl"
    rw [rng_length, show ((0 + n.toNat : Nat) : Int) = n by omega]
    exact hq
/-! drawn profiles -/
theorem unlike_more : ∀ (p : Pf) (a b c : Int) (z : Str), z ≠ "" → unlike (p ++ [(("" : Str), a)]) = true → unlike (p ++ [(("" : Str), a), (z, b), ("", c)]) = true
  | [], a, b, c, z, hz, _ => by
    have h1 : (("" : Str) == z) = false := by rw [Bool.beq_eq_decide_eq]; exact decide_eq_false fun e => hz e.symm
    have h2 : (z == ("" : Str)) = false := by rw [Bool.beq_eq_decide_eq]; exact decide_eq_false hz
    simp [unlike, h1, h2]
  | [s], a, b, c, z, hz, h => by
    have ih := unlike_more [] a b c z hz rfl
    have h : (!(s.1 == "") && true) = true := h
    rw [Bool.and_true] at h
    show (!(s.1 == "") && unlike (([] : Pf) ++ [(("" : Str), a), (z, b), ("", c)])) = true
    rw [h, ih]; rfl
  | s :: t :: p, a, b, c, z, hz, h => by
    have h : (!(s.1 == t.1) && unlike (t :: p ++ [(("" : Str), a)])) = true := h
    rw [Bool.and_eq_true] at h
    have ih := unlike_more (t :: p) a b c z hz h.2
    show (!(s.1 == t.1) && unlike (t :: p ++ [(("" : Str), a), (z, b), ("", c)])) = true
    rw [h.1, ih]; rfl
structure Drawn (p : Pf) (i : Nat) : Prop where
  len : p.length = 2 * i + 1
  each : ∀ s ∈ p, 1 ≤ s.2 ∧ s.2 ≤ 3 ∧ (s.1 = "" ∨ s.1 = "a" ∨ s.1 = "b")
  head : p.head?.map (·.1) = some ""
  last : p.getLast?.map (·.1) = some ""
  alt : unlike p = true
theorem name_ab : nameS "a" = true ∧ nameS "b" = true ∧ okD (.str "") = true ∧ okD (.str "a") = true ∧ okD (.str "b") = true := by decide +kernel
theorem Drawn.rt {p : Pf} {i : Nat} (h : Drawn p i) (hi : i ≤ 2) (hc : cyc p ≤ 400) : Rt p ∧ okD (pf p) = true := by
  have := h.len
  refine ⟨⟨by omega, by omega, fun s hs => ?_, ?_⟩, okD_pf.mpr ⟨by omega, fun s hs => ?_⟩⟩
  · obtain ⟨h1, h2, h3⟩ := h.each s hs
    refine ⟨h1, by omega, ?_⟩
    rcases h3 with h3 | h3 | h3
    · exact .inl h3
    · right; rw [h3]; exact name_ab.1
    · right; rw [h3]; exact name_ab.2.1
  · simp [okPf, h.head, h.last, h.alt, hc]
  · obtain ⟨h1, h2, h3⟩ := h.each s hs
    rcases h3 with h3 | h3 | h3 <;> rw [h3]
    · exact name_ab.2.2.1
    · exact name_ab.2.2.2.1
    · exact name_ab.2.2.2.2
theorem Drawn.more {p : Pf} {i : Nat} (h : Drawn p i) {z : Str} {b c : Int} (hz : z = "a" ∨ z = "b") (hb : 1 ≤ b ∧ b ≤ 3) (hc : 1 ≤ c ∧ c ≤ 3) : Drawn (p ++ [(z, b), ("", c)]) (i + 1) := by
  have hl := h.len
  obtain ⟨r, l, a, rfl⟩ := last_of (show 1 ≤ p.length by omega)
  have el : l = "" := by have := h.last; simp at this; exact this
  subst el
  refine ⟨by simp at hl ⊢; omega, fun s hs => ?_, ?_, by simp, ?_⟩
  · rcases List.mem_append.mp hs with h2 | h2
    · exact h.each s h2
    · rcases List.mem_cons.mp h2 with rfl | h2
      · exact ⟨hb.1, hb.2, .inr hz⟩
      · obtain rfl := List.mem_singleton.mp h2
        exact ⟨hc.1, hc.2, .inl rfl⟩
  · have := h.head
    cases r with
    | nil => rfl
    | cons t r => exact this
  · rw [List.append_assoc]
    exact unlike_more r a b c z (by rcases hz with rfl | rfl <;> decide) h.alt
theorem drawn_one {a : Int} (h : 1 ≤ a ∧ a ≤ 3) : Drawn [("", a)] 0 := ⟨rfl, fun s hs => by obtain rfl := List.mem_singleton.mp hs; exact ⟨h.1, h.2, .inl rfl⟩, rfl, rfl, rfl⟩
theorem rt_one {a : Int} (h : 1 ≤ a ∧ a ≤ 200) : Rt [("", a)] ∧ okD (pf [("", a)]) = true := by
  refine ⟨⟨Nat.le_refl 1, by show 1 ≤ 8; decide, fun s hs => by obtain rfl := List.mem_singleton.mp hs; exact ⟨h.1, h.2, .inl rfl⟩, ?_⟩, okD_pf.mpr ⟨by show 1 ≤ 1000; decide, fun s hs => by obtain rfl := List.mem_singleton.mp hs; exact name_ab.2.2.1⟩⟩
  have : cyc [("", a)] ≤ 400 := by simp [cyc]; omega
  simp [okPf, this, unlike]
theorem sat__law_profile : ∀ ds q x, sp__law_profile ds q x → ds.length = pr__law_profile.length ∧ g__law_profile ⟨fun _ => q .non, q, fun _ => False, fun _ => False, fun _ e => x e⟩ (startD nm__law_profile ds) := by
  rintro ds q x ⟨rfl, hq⟩
  refine ⟨rfl, ?_⟩
  show g__law_profile _ [some .well, some (.int 40), none, none, none, none]
  unfold g__law_profile
  walk_at "pl"
  refine ⟨3, rfl, by decide, by decide, fun k hk0 hk3 => add_int ⟨limN (by simp), limN (by simp), ?_⟩⟩
  unfold sFor
  walk_at "pl"
  refine ⟨limN (by simp), _, rfl, by decide, by decide, fun d hd => ?_⟩
  obtain ⟨m, rfl, hm⟩ : ∃ m : Nat, d = .int m ∧ m ≤ 2 := by
    simp only [List.mem_cons, List.mem_nil_iff, or_false] at hd
    rcases hd with rfl | rfl | rfl | rfl
    · exact ⟨0, rfl, by decide⟩
    · exact ⟨0, rfl, by decide⟩
    · exact ⟨1, rfl, by decide⟩
    · exact ⟨2, rfl, by decide⟩
  refine ⟨m, rfl, by omega, by omega, ?_⟩
  refine loop_inv (fun i ρ => ∃ (p : Pf) (a : Option D), Drawn p i ∧ ρ = [some .well, some (.int 40), some (.lst (p.map sd)), a, none, none]) _ 0 _ ⟨[("", 1 + k)], _, drawn_one (by omega), rfl⟩ ?_ ?_
  · rintro i d ρ hd ⟨p, a, hp, rfl⟩ N hN
    have hi : i < m := by
      have := (List.getElem?_eq_some_iff.mp hd).1
      rw [rng_length] at this; omega
    simp only [tgE]
    walk_at "pl"
    refine ⟨limN (by simp), _, rfl, by decide, by decide, fun d2 hd2 => ?_⟩
    obtain ⟨z, rfl, hz⟩ : ∃ z, d2 = .str z ∧ (z = "a" ∨ z = "b") := by
      simp only [List.mem_cons, List.mem_nil_iff, or_false] at hd2
      rcases hd2 with rfl | rfl
      · exact ⟨_, rfl, .inl rfl⟩
      · exact ⟨_, rfl, .inr rfl⟩
    refine ⟨3, rfl, by decide, by decide, fun k hk0 hk3 => add_int ⟨limN (by simp), 2, rfl, by decide, by decide, fun k2 hk20 hk22 => add_int ⟨limN (by simp), limN (by simp), ?_⟩⟩⟩
    have h2 := hp.more (b := 1 + k) (c := 1 + k2) hz (by omega) (by omega)
    have hl := hp.len
    refine ⟨limN (by simp; omega), hN _ ⟨_, some d, h2, ?_⟩⟩
    rw [List.map_append]; rfl
  · rintro ρ ⟨p, a, hp, rfl⟩
    rw [rng_length] at hp
    have hl := hp.len
    walk_at "pl"
    refine ⟨p.map sd, rfl, ?_⟩
    refine lc_map (e := sd) (fun s => .int s.2) p (fun s _ Q hQ => ?_) (limN (by omega)) ?_
    · exact ⟨_, rfl, rfl, _, _, rfl, _, _, rfl, rfl, _, rfl, hQ⟩
    refine ⟨p.map (fun s : Str × Int => s.2), by rw [List.map_map]; rfl, trivial, _, rfl, wq (fun h => ?_) (fun h => ?_)⟩
    · have hc : cyc p ≤ 40 := of_decide_eq_true h
      obtain ⟨h1, h2⟩ := hp.rt (by omega) (by omega)
      exact hq p h1 h2 hc
    · obtain ⟨h1, h2⟩ := rt_one (a := 40) (by decide)
      exact ⟨limN (by simp), limN (by simp), hq [("", 40)] h1 h2 (by decide)⟩
end K35

namespace K35
open PySem PySem.Spec L2 PL
local macro_rules | `(tactic| walk_at "pl") => `(tactic| simp only [sNil, sSeq, sRet, sDrop, sIf, sSet, sAsg, sNever, fVar, fC, fBin, fChain, fNot, fAnd, fOr, fNeg, fCB, fCall, fCallK, fNil, fCons, fStar, fTup, fLst, fIf, fSl, fPart, fNo, tB', tNot', tAnd', tOr', tYes', fLc, fItems, fRng1, fRng2, fZip, tgE,
  List.getElem?_cons_zero, List.getElem?_cons_succ, Option.some.injEq, exists_eq_left', exists_eq_left, List.set_cons_zero, List.set_cons_succ])
def Sm (z : Str) : Prop := PyData.strOk z = true ∧ z.length ≤ 8
structure SmP (p : Pf) : Prop where
  len : p.length ≤ 9
  each : ∀ s ∈ p, Sm s.1 ∧ s.2.natAbs < 1000000000000
theorem sm_nil : Sm "" := ⟨by decide +kernel, by decide⟩
theorem SmP.tame {p : Pf} (h : SmP p) : cost (pf p) ≤ 100 ∧ dep (pf p) ≤ 2 := by
  have h1 : costL (p.map sd) ≤ (p.map sd).length * 11 := costL_le _ (fun d hd => by
    obtain ⟨s, hs, rfl⟩ := List.mem_map.mp hd
    obtain ⟨⟨a, b⟩, c⟩ := h.each s hs
    show cost (.str s.1) + (cost (.int s.2) + 0) + 1 ≤ 11
    rw [cost_str a, cost_int c]; omega)
  have h2 : depL (p.map sd) ≤ 1 := depL_le _ (fun d hd => by
    obtain ⟨s, hs, rfl⟩ := List.mem_map.mp hd
    exact Nat.le_refl 1)
  rw [List.length_map] at h1
  refine ⟨?_, ?_⟩
  · show costL (p.map sd) + 1 ≤ _
    have : p.length * 11 ≤ 9 * 11 := Nat.mul_le_mul_right _ h.len
    omega
  · show depL (p.map sd) + 1 ≤ 2
    omega
theorem name_len {z : Str} (h : nameS z = true) : z.length ≤ 8 := by
  unfold nameS at h
  simp only [Bool.and_eq_true, decide_eq_true_eq] at h
  exact h.1.1.2
theorem Rt.sm {p : Pf} (h : Rt p) (hd : okD (pf p) = true) : SmP p := by
  refine ⟨by have := h.len8; omega, fun s hs => ?_⟩
  obtain ⟨h1, h2, h3⟩ := h.each s hs
  refine ⟨⟨(strOk_name ((okD_pf.mp hd).2 s hs)).1, ?_⟩, by omega⟩
  rcases h3 with h3 | h3
  · rw [h3]; decide
  · exact name_len h3
theorem sm_left {p : Pf} (h : Rt p) (hd : okD (pf p) = true) {n : Int} (h0 : 0 ≤ n) : SmP (leftP p n) := by
  have hs := h.sm hd
  refine ⟨Nat.le_trans (leftP_len p n) hs.len, fun s hs2 => ?_⟩
  obtain ⟨⟨t, ht, e⟩, h1, h2⟩ := leftP_mem p n s h0 (fun s hs => ⟨(h.each s hs).1, (h.each s hs).2.1⟩) hs2
  refine ⟨by rw [← e]; exact (hs.each t ht).1, by omega⟩
theorem sm_lock {p : Pf} (h : SmP p) : Sm (lockP p) := by
  cases p with
  | nil => exact sm_nil
  | cons a r => exact (h.each a (List.mem_cons_self ..)).1
theorem sm_more {p : Pf} (h : SmP p) {n : Int} (h0 : 0 ≤ n ∧ n ≤ 2000) (hb : ∀ s ∈ p, 1 ≤ s.2 ∧ s.2 ≤ 200) : SmP (moreP p n) := by
  by_cases hl : 1 ≤ p.length
  · obtain ⟨r, l, c, rfl⟩ := last_of hl
    rw [moreP_eq]
    refine ⟨by have := h.len; simp at this ⊢; omega, fun s hs => ?_⟩
    rcases List.mem_append.mp hs with h2 | h2
    · exact h.each s (List.mem_append_left _ h2)
    · obtain rfl := List.mem_singleton.mp h2
      have h3 := h.each (l, c) (List.mem_append_right _ (List.mem_singleton.mpr rfl))
      have h4 := hb (l, c) (List.mem_append_right _ (List.mem_singleton.mpr rfl))
      dsimp only at h4
      exact ⟨h3.1, by show (c + n).natAbs < _; omega⟩
  · obtain rfl : p = [] := by cases p with
      | nil => rfl
      | cons a r => simp at hl
    exact h
theorem cost_sm {z : Str} (h : Sm z) : cost (.str z) ≤ 9 ∧ dep (.str z) = 0 := by rw [cost_str h.1]; exact ⟨by have := h.2; omega, rfl⟩
/-! a longer profile is right where .. -/
theorem unlike_last : ∀ (r : Pf) (l : Str) (c d : Int), unlike (r ++ [(l, c)]) = unlike (r ++ [(l, d)])
  | [], l, c, d => rfl
  | [s], l, c, d => rfl
  | s :: t :: r, l, c, d => by
    show (!(s.1 == t.1) && unlike (t :: r ++ [(l, c)])) = (!(s.1 == t.1) && unlike (t :: r ++ [(l, d)]))
    rw [unlike_last (t :: r) l c d]
theorem unlike_twice : ∀ (r : Pf) (l : Str) (c d : Int), unlike (r ++ [(l, c), (l, d)]) = false
  | [], l, c, d => by
    show (!(l == l) && true) = false
    simp
  | [s], l, c, d => by
    show (!(s.1 == l) && unlike ([] ++ [(l, c), (l, d)])) = false
    rw [unlike_twice [] l c d, Bool.and_false]
  | s :: t :: r, l, c, d => by
    show (!(s.1 == t.1) && unlike (t :: r ++ [(l, c), (l, d)])) = false
    rw [unlike_twice (t :: r) l c d, Bool.and_false]
theorem prof_more {r : Pf} {l : Str} {c n : Int} (h : Rt (r ++ [(l, c)])) (h0 : 0 ≤ n) : profD (pf (r ++ [(l, c + n)])) = (decide (c + n ≤ 200) && decide (cyc (r ++ [(l, c)]) + n ≤ 400)) := by
  have h1 := h.len1
  have h8 := h.len8
  have hc := h.each (l, c) (List.mem_append_right _ (List.mem_singleton.mpr rfl))
  dsimp only at hc
  have ho := h.ok
  have hr : (r.map sd).all (strD 200) = true := by
    rw [List.all_map, List.all_eq_true]
    intro s hs
    obtain ⟨h1, h2, h3⟩ := h.each s (List.mem_append_left _ hs)
    show strD 200 (.tup [.str s.1, .int s.2]) = true
    rw [strD_pair]
    rcases h3 with h3 | h3 <;> simp [betw, h1, h2, h3]
  have e : profD (pf (r ++ [(l, c + n)])) = (decide (1 ≤ ((r ++ [(l, c + n)]).map sd).length) && decide (((r ++ [(l, c + n)]).map sd).length ≤ 8) && ((r ++ [(l, c + n)]).map sd).all (strD 200) && okPf (asPf ((r ++ [(l, c + n)]).map sd))) := rfl
  rw [e, asPf_pf, List.length_map, List.map_append, List.all_append, hr]
  have e1 : (r ++ [(l, c + n)]).length = (r ++ [(l, c)]).length := by simp
  rw [e1, decide_eq_true h1, decide_eq_true h8]
  have e2 : ([(l, c + n)].map sd).all (strD 200) = decide (c + n ≤ 200) := by
    show (strD 200 (.tup [.str l, .int (c + n)]) && true) = _
    rw [strD_pair, Bool.and_true]
    have hl : (l == "" || nameS l) = true := by
      rcases hc.2.2 with h3 | h3 <;> simp [h3]
    rw [hl, Bool.and_true]
    show (decide (1 ≤ c + n) && decide (c + n ≤ 200)) = _
    rw [decide_eq_true (by omega), Bool.true_and]
  have e3 : okPf (r ++ [(l, c + n)]) = decide (cyc (r ++ [(l, c)]) + n ≤ 400) := by
    have f1 : (r ++ [(l, c + n)]).head?.map (·.1) = (r ++ [(l, c)]).head?.map (·.1) := by cases r <;> rfl
    have f2 : (r ++ [(l, c + n)]).getLast?.map (·.1) = (r ++ [(l, c)]).getLast?.map (·.1) := by simp
    have f3 : cyc (r ++ [(l, c + n)]) = cyc (r ++ [(l, c)]) + n := by simp [cyc]; omega
    simp only [okPf, Bool.and_eq_true, decide_eq_true_eq] at ho
    unfold okPf
    rw [f1, f2, f3, unlike_last r l (c + n) c, ho.2, ho.1.1.1, ho.1.1.2]
    simp
  rw [e2, e3]
  simp
end K35

namespace K35
open PySem PySem.Spec L2 PL
local macro_rules | `(tactic| walk_at "pl") => `(tactic| simp only [sNil, sSeq, sRet, sDrop, sIf, sSet, sAsg, sNever, fVar, fC, fBin, fChain, fNot, fAnd, fOr, fNeg, fCB, fCall, fCallK, fNil, fCons, fStar, fTup, fLst, fIf, fSl, fPart, fNo, tB', tNot', tAnd', tOr', tYes', fLc, fItems, fRng1, fRng2, fZip, tgE,
  List.getElem?_cons_zero, List.getElem?_cons_succ, Option.some.injEq, exists_eq_left', exists_eq_left, List.set_cons_zero, List.set_cons_succ])
theorem sat__law_right : ∀ ds q x, sp__law_right ds q x → ds.length = pr__law_right.length ∧ g__law_right ⟨fun _ => q .non, q, fun _ => False, fun _ => False, fun _ e => x e⟩ (startD nm__law_right ds) := by
  rintro ds q x ⟨rfl, hq⟩
  refine ⟨rfl, ?_⟩
  show g__law_right _ [some .well, none, none, none, none, none, none, none, none, none, none, none, none]
  unfold g__law_right
  walk_at "pl"
  refine for_i ?_
  walk_at "pl"
  refine ⟨10, rfl, by decide, by decide, ?_⟩
  refine loop_inv (fun i ρ => ∃ (a b c d e f g h i j k l : Option D), ρ = [some .well, a, b, c, d, e, f, g, h, i, j, k, l]) _ 0 _ ⟨_, _, _, _, _, _, _, _, _, _, _, _, rfl⟩ ?_ ?_
  rotate_left
  · rintro ρ ⟨a, b, c, d, e, f, g, h, i, j, k, l, rfl⟩
    walk_at "pl"
    exact hq
  rintro i0 d0 ρ _ ⟨a, b, c, d, e, f, g, h, i, j, k, l, rfl⟩ N hN
  walk_at "pl"
  refine ⟨rfl, fun p hr hd hc => ⟨p.map sd, rfl, ?_⟩⟩
  have hs := hr.sm hd
  have hl8 := hr.len8
  have hcy := cyc_le hr
  refine lc_map (e := sd) (fun s => .int s.2) p (fun s _ Q hQ => ?_) (limN (by omega)) ?_
  · exact ⟨_, rfl, rfl, _, _, rfl, _, _, rfl, rfl, _, rfl, hQ⟩
  refine ⟨p.map (fun s : Str × Int => s.2), by rw [List.map_map]; rfl, ?_⟩
  have hpf := right_profD hr
  have tl : ∀ (ds : List D) (c : Nat), costL ds ≤ c → c ≤ 19000 → depL ds ≤ 3 → tame (.lst ds) := fun ds c h1 h2 h3 => ⟨by show costL ds + 1 ≤ 20000; omega, by show depL ds + 1 ≤ 60; omega⟩
  have tb : ∀ (a b : Bool) (n : Int), n.natAbs < 1000000000000 → tame (.lst [.bl a, .bl b, .int n]) := fun a b n h => tl _ 3 (by show 1 + (1 + (cost (.int n) + 0)) ≤ 3; rw [cost_int h]; decide) (by decide) (by show max 0 (max 0 (max 0 0)) ≤ 3; decide)
  have hc0 : 0 ≤ cyc p := by
    have : ∀ r : Pf, (∀ s ∈ r, 1 ≤ s.2) → 0 ≤ cyc r := by
      intro r
      induction r with
      | nil => intro _; exact Int.le_refl 0
      | cons s r ih =>
        intro h
        have h1 := h s (List.mem_cons_self ..)
        have h2 := ih fun t ht => h t (List.mem_cons_of_mem _ ht)
        have : cyc (s :: r) = s.2 + cyc r := by simp [cyc]
        omega
    exact this p fun s hs => (hr.each s hs).1
  refine ⟨pf p, rfl, hd, rfl, rfl, pf p, rfl, hd, p, rfl, hr, hd, limN (by simp), repr_l (tb _ _ _ (by omega)) ⟨limN (by simp), repr_l (tb _ _ _ (by show (cyc p).natAbs < _; omega)) (ne_str ?_ ⟨_, rfl, wf ?_⟩)⟩⟩
  · rw [hpf]; rfl
  refine for_i ?_
  walk_at "pl"
  refine add_int ?_
  refine ⟨cyc p + 1, rfl, by omega, by omega, ?_⟩
  refine loop_inv (fun i ρ => ∃ (a d e f g h i j k l : Option D), ρ = [some .well, a, some (pf p), some (.int (cyc p)), d, e, f, g, h, i, j, k, l]) _ 0 _ ⟨_, _, _, _, _, _, _, _, _, _, rfl⟩ ?_ ?_
  · rintro i1 d1 ρ hd1 ⟨a, d, e, f, g, h, i, j, k, l, rfl⟩ N1 hN1
    obtain ⟨hi, rfl⟩ : i1 ≤ cyc p ∧ d1 = .int i1 := by
      unfold rng at hd1
      rw [List.getElem?_map] at hd1
      obtain ⟨m, hm, rfl⟩ := Option.map_eq_some_iff.mp hd1
      obtain ⟨h1, h2⟩ := List.getElem?_eq_some_iff.mp hm
      rw [List.length_range] at h1
      rw [List.getElem_range] at h2
      subst h2
      exact ⟨by omega, by rw [Int.zero_add]⟩
    walk_at "pl"
    have hL := sm_left hr hd (n := i1) (by omega)
    have hK := sm_lock hL
    have tL := hL.tame
    have tK := cost_sm hK
    refine ⟨p, i1, rfl, fun s hs => (hr.each s hs).1, hl8, by omega, hi, by omega, ?_⟩
    refine ⟨p, i1, rfl, hr, hd, by omega, hi, rfl, rfl, p, i1, rfl, hr, hd, by omega, hi, limN (by simp), ?_⟩
    refine ⟨p, i1, rfl, hr, hd, by omega, hi, rfl, rfl, p, i1, rfl, hr, hd, by omega, hi, limN (by simp), ?_⟩
    refine ⟨limN (by simp), limN (by simp), .t ⟨by omega, by omega⟩ ⟨by decide, by decide⟩, _, rfl, ?_⟩
    generalize leftP p ↑i1 = L at hL hK tL tK ⊢
    have T4 : tame (.lst [pf L, pf L, .str (lockP L), .str (lockP L)]) := tl _ 300 (by show cost (pf L) + (cost (pf L) + (cost (.str (lockP L)) + (cost (.str (lockP L)) + 0))) ≤ 300; omega) (by decide) (by show max (dep (pf L)) (max (dep (pf L)) (max (dep (.str (lockP L))) (max (dep (.str (lockP L))) 0))) ≤ 3; omega)
    cases L with
    | nil => exact wf (repr_l T4 ⟨limN (by simp), repr_l T4 (ne_str rfl ⟨_, rfl, wf (hN1 _ ⟨_, _, _, _, _, _, _, _, _, _, rfl⟩)⟩)⟩)
    | cons s r =>
      refine wt (ix_t (j := 0) (d := sd s) rfl (ix_t (j := 0) (d := .str s.1) rfl ?_))
      exact repr_l T4 ⟨limN (by simp), repr_l T4 (ne_str rfl ⟨_, rfl, wf (hN1 _ ⟨_, _, _, _, _, _, _, _, _, _, rfl⟩)⟩)⟩
  rintro ρ ⟨a, d, e, f, g, h, i, j, k, l, rfl⟩
  walk_at "pl"
  refine ⟨limN (by simp), limN (by simp), 46, rfl, by decide, by decide, fun kw hkw0 hkw1 => ?_⟩
  refine add_int ?_
  refine ⟨limN (by simp), limN (by simp), ?_⟩
  have hW : Rt ([("", 200), ("a", 5), ("", 150 + kw)] : Pf) ∧ okD (pf [("", 200), ("a", 5), ("", 150 + kw)]) = true := by
    refine ⟨⟨by simp, by simp, fun s hs => ?_, ?_⟩, okD_pf.mpr ⟨by simp, fun s hs => ?_⟩⟩
    · simp only [List.mem_cons, List.mem_nil_iff, or_false] at hs
      rcases hs with rfl | rfl | rfl
      · exact ⟨by decide, by decide, .inl rfl⟩
      · exact ⟨by decide, by decide, .inr name_ab.1⟩
      · exact ⟨by dsimp only; omega, by dsimp only; omega, .inl rfl⟩
    · have h1 : cyc ([("", 200), ("a", 5), ("", 150 + kw)] : Pf) ≤ 400 := by simp [cyc]; omega
      have h2 : unlike ([("", 200), ("a", 5), ("", 150 + kw)] : Pf) = true := by simp only [unlike]; decide
      simp [okPf, h1, h2]
    · simp only [List.mem_cons, List.mem_nil_iff, or_false] at hs
      rcases hs with rfl | rfl | rfl
      · exact name_ab.2.2.1
      · exact name_ab.2.2.2.1
      · exact name_ab.2.2.1
  have eW : (D.tup [.tup [.str "", .int 200], .tup [.str "a", .int 5], .tup [.str "", .int (150 + kw)]]) = pf [("", 200), ("a", 5), ("", 150 + kw)] := rfl
  rw [eW]
  refine for_i ?_
  walk_at "pl"
  refine ⟨41, rfl, by decide, by decide, fun kn hkn0 hkn1 => ?_⟩
  refine ⟨1, rfl, ix_end (d := sd ("", 150 + kw)) rfl (ix_t (j := 1) (d := .int (150 + kw)) rfl ?_)⟩
  refine min_i fun km hkm1 hkm2 hkm3 => ⟨limN (by simp), _, rfl, ?_⟩
  refine loop_inv (fun i ρ => ∃ (a d e f g i j k l : Option D), ρ = [some .well, a, some (pf p), some (.int (cyc p)), d, e, f, g, some (pf [("", 200), ("a", 5), ("", 150 + kw)]), i, j, k, l]) _ 0 _ ⟨_, _, _, _, _, _, _, _, _, rfl⟩ ?_ ?_
  · rintro i1 d1 ρ hd1 ⟨a, d, e, f, g, i, j, k, l, rfl⟩ N1 hN1
    obtain ⟨n, rfl, hn0, hn40⟩ : ∃ n : Int, d1 = .int n ∧ 0 ≤ n ∧ n ≤ 40 := by
      have h := List.mem_of_getElem? hd1
      simp only [List.mem_cons, List.mem_nil_iff, or_false] at h
      rcases h with rfl | rfl | rfl | rfl | rfl
      · exact ⟨0, rfl, by decide, by decide⟩
      · exact ⟨1, rfl, by decide, by decide⟩
      · exact ⟨kn, rfl, by omega, by omega⟩
      · exact ⟨40, rfl, by decide, by decide⟩
      · exact ⟨km, rfl, by omega, by omega⟩
    walk_at "pl"
    refine for_i ?_
    walk_at "pl"
    refine ⟨41, rfl, by decide, by decide, fun kv hkv0 hkv1 => ?_⟩
    refine add_int ?_
    refine ⟨limN (by simp), limN (by simp), limN (by simp), _, rfl, ?_⟩
    refine loop_inv (fun i ρ => ∃ (a e f g i j k l : Option D), ρ = [some .well, a, some (pf p), some (.int (cyc p)), some (.int n), e, f, g, some (pf [("", 200), ("a", 5), ("", 150 + kw)]), i, j, k, l]) _ 0 _ ⟨_, _, _, _, _, _, _, _, rfl⟩ ?_ ?_
    · rintro i2 d2 ρ hd2 ⟨a, e, f, g, i, j, k, l, rfl⟩ N2 hN2
      obtain ⟨o, rfl, ho, hod⟩ : ∃ o : Pf, d2 = pf o ∧ Rt o ∧ okD (pf o) = true := by
        have h := List.mem_of_getElem? hd2
        simp only [List.mem_cons, List.mem_nil_iff, or_false] at h
        rcases h with rfl | rfl | rfl
        · exact ⟨p, rfl, hr, hd⟩
        · exact ⟨_, rfl, hW.1, hW.2⟩
        · have := rt_one (a := 160 + kv) (by omega)
          exact ⟨[("", 160 + kv)], rfl, this.1, this.2⟩
      walk_at "pl"
      have hco := cyc_le ho
      have ho8 := ho.len8
      have hms := sm_more (ho.sm hod) (n := n) (by omega) fun s hs => ⟨(ho.each s hs).1, (ho.each s hs).2.1⟩
      obtain ⟨r, l', c, rfl⟩ := last_of ho.len1
      have hpm := prof_more ho hn0
      rw [moreP_eq] at hms
      refine ⟨1, rfl, ix_end (d := sd (l', c)) (by simp) ⟨_, rfl, rfl, _, _, rfl, _, _, rfl, rfl, ?_⟩⟩
      walk_at "pl"
      refine ⟨1, rfl, -1, rfl, sl_init ?_⟩
      refine add_int ?_
      refine ⟨limN (by simp), limN (by simp), limN (by simp at ho8 ⊢; omega), ?_⟩
      have eX : D.tup (((r ++ [(l', c)]).map sd).dropLast ++ [D.tup [.str l', .int (c + n)]]) = pf (r ++ [(l', c + n)]) := by
        show _ = D.tup ((r ++ [(l', c + n)]).map sd)
        simp [sd]
      rw [eX]
      have tX := hms.tame
      have T1 : tame (.lst [pf (r ++ [(l', c + n)]), pf (r ++ [(l', c + n)])]) := tl _ 300 (by show cost (pf (r ++ [(l', c + n)])) + (cost (pf (r ++ [(l', c + n)])) + 0) ≤ 300; omega) (by decide) (by show max (dep (pf (r ++ [(l', c + n)]))) (max (dep (pf (r ++ [(l', c + n)]))) 0) ≤ 3; omega)
      have T2 : tame (.lst [.non, .non]) := ⟨by decide, by decide⟩
      refine add_int ?_
      refine ⟨trivial, _, rfl, wq (fun h1 => ⟨_, rfl, ho, hod, ?_⟩) (fun h1 => ?_)⟩
      · refine add_int ?_
        refine ⟨trivial, _, rfl, wq (fun h2 => ?_) (fun h2 => ?_)⟩
        · rw [h1, h2] at hpm
          have lg : ∀ q' x', q' (pf (r ++ [(l', c + n)])) → sp_longer [pf (r ++ [(l', c)]), .int n] q' x' := fun q' x' h => ⟨_, n, rfl, ho, hod, hn0, by omega, by rw [moreP_eq, hpm]; exact h⟩
          exact lg _ _ ⟨rfl, rfl, lg _ _ ⟨limN (by simp), repr_l T1 ⟨limN (by simp), repr_l T1 (ne_str rfl ⟨_, rfl, wf (hN2 _ ⟨_, _, _, _, _, _, _, _, rfl⟩)⟩)⟩⟩⟩
        · rw [h1, h2] at hpm
          have lg : ∀ q' x', q' .non → sp_longer [pf (r ++ [(l', c)]), .int n] q' x' := fun q' x' h => ⟨_, n, rfl, ho, hod, hn0, by omega, by rw [moreP_eq, hpm]; exact h⟩
          exact lg _ _ ⟨rfl, rfl, lg _ _ ⟨limN (by simp), repr_l T2 ⟨limN (by simp), repr_l T2 (ne_str rfl ⟨_, rfl, wf (hN2 _ ⟨_, _, _, _, _, _, _, _, rfl⟩)⟩)⟩⟩⟩
      · rw [h1] at hpm
        have lg : ∀ q' x', q' .non → sp_longer [pf (r ++ [(l', c)]), .int n] q' x' := fun q' x' h => ⟨_, n, rfl, ho, hod, hn0, by omega, by rw [moreP_eq, hpm]; exact h⟩
        exact wF (lg _ _ ⟨rfl, rfl, lg _ _ ⟨limN (by simp), repr_l T2 ⟨limN (by simp), repr_l T2 (ne_str rfl ⟨_, rfl, wf (hN2 _ ⟨_, _, _, _, _, _, _, _, rfl⟩)⟩)⟩⟩⟩)
    · rintro ρ ⟨a, e, f, g, i, j, k, l, rfl⟩
      exact hN1 _ ⟨_, _, _, _, _, _, _, _, _, rfl⟩
  rintro ρ ⟨a, d, e, f, g, i, j, k, l, rfl⟩
  walk_at "pl"
  obtain ⟨r, l', c, rfl⟩ := last_of hr.len1
  refine ⟨limN (by simp), list_t ⟨1, rfl, -1, rfl, sl_end ?_⟩⟩
  have eD : ((r ++ [(l', c)]).map sd).drop (((r ++ [(l', c)]).map sd).length - 1) = [sd (l', c)] := by simp
  rw [eD]
  have h8 := hr.len8
  simp only [List.length_append, List.length_cons, List.length_nil] at h8
  refine ⟨limN (by simp; omega), ?_⟩
  refine ⟨limN (by simp), limN (by simp), limN (by simp), limN (by simp), limN (by simp), limN (by simp), limN (by simp), limN (by simp), limN (by simp), limN (by simp), limN (by simp), limN (by simp), limN (by simp), ?_⟩
  have hodd : ∀ b ∈ ([.non, .tup [], .lst ((r ++ [(l', c)]).map sd), .tup ((r ++ [(l', c)]).map sd ++ [sd (l', c)]), .tup [.tup [.str "", .int 0]], .tup [.tup [.str "a", .int 1]], .tup [.tup [.str "", .int 1], .tup [.str "a", .int 1]]] ++ [.tup [.tup [.str "", .int 1], .tup [.str "A", .int 1], .tup [.str "", .int 1]]] : List D), okD b = true ∧ profD b = false := by
    intro b hb
    simp only [List.cons_append, List.nil_append, List.mem_cons, List.mem_nil_iff, or_false] at hb
    rcases hb with rfl | rfl | rfl | rfl | rfl | rfl | rfl | rfl
    · exact ⟨rfl, rfl⟩
    · exact ⟨rfl, rfl⟩
    · exact ⟨hd, rfl⟩
    · have e : D.tup ((r ++ [(l', c)]).map sd ++ [sd (l', c)]) = pf (r ++ [(l', c), (l', c)]) := by
        show _ = D.tup ((r ++ [(l', c), (l', c)]).map sd)
        simp
      rw [e]
      refine ⟨okD_pf.mpr ⟨by simp; omega, fun s hs => ?_⟩, ?_⟩
      · have h2 := (okD_pf.mp hd).2
        rcases List.mem_append.mp hs with h3 | h3
        · exact h2 s (List.mem_append_left _ h3)
        · simp only [List.mem_cons, List.mem_nil_iff, or_false, or_self] at h3
          subst h3
          exact h2 (l', c) (List.mem_append_right _ (List.mem_singleton.mpr rfl))
      · show (_ && _ && _ && okPf (asPf ((r ++ [(l', c), (l', c)]).map sd))) = false
        rw [asPf_pf]
        unfold okPf
        rw [unlike_twice, Bool.and_false, Bool.and_false]
    · exact by decide +kernel
    · exact by decide +kernel
    · exact by decide +kernel
    · exact by decide +kernel
  refine ⟨limN (by simp), _, congrArg some (List.map_id _).symm, ?_⟩
  refine lc_fm (e := id) (fun _ => none) _ [] (fun b hb Q m _ hm => ?_) (limN (by simp)) ?_
  · obtain ⟨h1, h2⟩ := hodd b hb
    simp only [tgE]
    refine ⟨b, rfl, b, rfl, h1, ?_⟩
    show ∃ k, _ ∧ _
    rw [h2]
    exact ⟨false, rfl, wf (hm rfl)⟩
  · rw [show ∀ l : List D, l.filterMap (fun _ => (none : Option D)) = [] from fun l => by induction l with
      | nil => rfl
      | cons a l ih => exact ih]
    refine ⟨limN (by simp), .t ⟨by decide, by decide⟩ ⟨by decide, by decide⟩, _, rfl, wf (hN _ ⟨_, _, _, _, _, _, _, _, _, _, _, _, rfl⟩)⟩
end K35

namespace K35
open PySem PySem.Spec L2 PL
local macro_rules | `(tactic| walk_at "pl") => `(tactic| simp only [sNil, sSeq, sRet, sDrop, sIf, sSet, sAsg, sNever, fVar, fC, fBin, fChain, fNot, fAnd, fOr, fNeg, fCB, fCall, fCallK, fNil, fCons, fStar, fTup, fLst, fIf, fSl, fPart, fNo, tB', tNot', tAnd', tOr', tYes', fLc, fItems, fRng1, fRng2, fZip, fWell, tgE,
  List.getElem?_cons_zero, List.getElem?_cons_succ, Option.some.injEq, exists_eq_left', exists_eq_left, List.set_cons_zero, List.set_cons_succ])
theorem sat_law : ∀ ds q x, sLaw 63 ds q x → ds.length = pr_law.length ∧ g_law ⟨fun _ => q .non, q, fun _ => False, fun _ => False, fun _ e => x e⟩ (startD nm_law ds) := by
  rintro ds q x ⟨ns, rfl, hl, hq⟩
  refine ⟨rfl, ?_⟩
  show g_law _ [some (.scr ns), none]
  unfold g_law
  walk_at "pl"
  refine (show lenG [.scr ns] _ from ?_)
  refine min_i fun m _ _ hm => max_i fun m2 h1 _ hm2 => ⟨m2, rfl, by omega, by omega, ?_⟩
  refine lc_map (e := fun (i : Nat) => D.int (0 + (i : Int))) (fun _ => .bl true) (List.range m2.toNat) (fun i hi Q hQ => ?_) (limN (by rw [List.length_range]; omega)) ?_
  · simp only [tgE]
    refine ⟨.scr ns, rfl, .int (0 + (i : Int)), rfl, rfl, ns, 0 + (i : Int), rfl, hl, by omega, fun i j k h1 h2 h3 => ⟨i, j, k, rfl, h1, h2, h3, rfl, rfl, hQ⟩⟩
  · refine ⟨(List.range m2.toNat).map fun _ => true, by rw [List.map_map]; rfl, ?_⟩
    rw [show ∀ l : List Nat, (l.map fun _ => true).all id = true from fun l => by induction l with
      | nil => rfl
      | cons a l ih => exact ih]
    exact hq
end K35

namespace K35
open PySem PySem.Spec L2 PL
theorem top_mk {K : PySem.W.Frag} {h : Heap} {mg : Str → Option Value} (X : K.In h) (G : h.Ns mainGlobals mg)
    {f0 : Addr} {oc0 kV0 dc0 pm0 cd0 ct0 : Value} {od0 an0 : Option Addr} {sl0 : Array (Option Value)} (a0 : PySem.W.nsIn K mainGlobals "is_whole" = some (some (.ref f0))) (l0 : K.lookup f0 = some ⟨oc0, od0, .func (PySem.W.fnOf "is_whole" "is_whole" (defArgs s_is_whole) (defBody s_is_whole) (defScope s_is_whole) .none kV0 dc0 pm0 an0 cd0 ct0), sl0⟩) (c0 : PySem.W.codeIn K cd0 "is_whole" = true) (k0 : PySem.W.keepIn K (.ref f0) = true)
    {f1 : Addr} {oc1 kV1 dc1 pm1 cd1 ct1 : Value} {od1 an1 : Option Addr} {sl1 : Array (Option Value)} (a1 : PySem.W.nsIn K mainGlobals "is_between" = some (some (.ref f1))) (l1 : K.lookup f1 = some ⟨oc1, od1, .func (PySem.W.fnOf "is_between" "is_between" (defArgs s_is_between) (defBody s_is_between) (defScope s_is_between) .none kV1 dc1 pm1 an1 cd1 ct1), sl1⟩) (c1 : PySem.W.codeIn K cd1 "is_between" = true) (k1 : PySem.W.keepIn K (.ref f1) = true)
    {f2 : Addr} {oc2 kV2 dc2 pm2 cd2 ct2 : Value} {od2 an2 : Option Addr} {sl2 : Array (Option Value)} (a2 : PySem.W.nsIn K mainGlobals "is_tuple_of" = some (some (.ref f2))) (l2 : K.lookup f2 = some ⟨oc2, od2, .func (PySem.W.fnOf "is_tuple_of" "is_tuple_of" (defArgs s_is_tuple_of) (defBody s_is_tuple_of) (defScope s_is_tuple_of) .none kV2 dc2 pm2 an2 cd2 ct2), sl2⟩) (c2 : PySem.W.codeIn K cd2 "is_tuple_of" = true) (k2 : PySem.W.keepIn K (.ref f2) = true)
    {f3 : Addr} {oc3 kV3 dc3 pm3 cd3 ct3 : Value} {od3 an3 : Option Addr} {sl3 : Array (Option Value)} (a3 : PySem.W.nsIn K mainGlobals "is_short_tuple" = some (some (.ref f3))) (l3 : K.lookup f3 = some ⟨oc3, od3, .func (PySem.W.fnOf "is_short_tuple" "is_short_tuple" (defArgs s_is_short_tuple) (defBody s_is_short_tuple) (defScope s_is_short_tuple) .none kV3 dc3 pm3 an3 cd3 ct3), sl3⟩) (c3 : PySem.W.codeIn K cd3 "is_short_tuple" = true) (k3 : PySem.W.keepIn K (.ref f3) = true)
    {f4 : Addr} {oc4 kV4 dc4 pm4 cd4 ct4 : Value} {od4 an4 : Option Addr} {sl4 : Array (Option Value)} (a4 : PySem.W.nsIn K mainGlobals "is_name" = some (some (.ref f4))) (l4 : K.lookup f4 = some ⟨oc4, od4, .func (PySem.W.fnOf "is_name" "is_name" (defArgs s_is_name) (defBody s_is_name) (defScope s_is_name) .none kV4 dc4 pm4 an4 cd4 ct4), sl4⟩) (c4 : PySem.W.codeIn K cd4 "is_name" = true) (k4 : PySem.W.keepIn K (.ref f4) = true)
    {f5 : Addr} {oc5 kV5 dc5 pm5 cd5 ct5 : Value} {od5 an5 : Option Addr} {sl5 : Array (Option Value)} (a5 : PySem.W.nsIn K mainGlobals "is_stretch" = some (some (.ref f5))) (l5 : K.lookup f5 = some ⟨oc5, od5, .func (PySem.W.fnOf "is_stretch" "is_stretch" (defArgs s_is_stretch) (defBody s_is_stretch) (defScope s_is_stretch) .none kV5 dc5 pm5 an5 cd5 ct5), sl5⟩) (c5 : PySem.W.codeIn K cd5 "is_stretch" = true) (k5 : PySem.W.keepIn K (.ref f5) = true)
    {f6 : Addr} {oc6 kV6 dc6 pm6 cd6 ct6 : Value} {od6 an6 : Option Addr} {sl6 : Array (Option Value)} (a6 : PySem.W.nsIn K mainGlobals "is_profile_form" = some (some (.ref f6))) (l6 : K.lookup f6 = some ⟨oc6, od6, .func (PySem.W.fnOf "is_profile_form" "is_profile_form" (defArgs s_is_profile_form) (defBody s_is_profile_form) (defScope s_is_profile_form) .none kV6 dc6 pm6 an6 cd6 ct6), sl6⟩) (c6 : PySem.W.codeIn K cd6 "is_profile_form" = true) (k6 : PySem.W.keepIn K (.ref f6) = true)
    {f7 : Addr} {oc7 kV7 dc7 pm7 cd7 ct7 : Value} {od7 an7 : Option Addr} {sl7 : Array (Option Value)} (a7 : PySem.W.nsIn K mainGlobals "cycles_in" = some (some (.ref f7))) (l7 : K.lookup f7 = some ⟨oc7, od7, .func (PySem.W.fnOf "cycles_in" "cycles_in" (defArgs s_cycles_in) (defBody s_cycles_in) (defScope s_cycles_in) .none kV7 dc7 pm7 an7 cd7 ct7), sl7⟩) (c7 : PySem.W.codeIn K cd7 "cycles_in" = true) (k7 : PySem.W.keepIn K (.ref f7) = true)
    {f8 : Addr} {oc8 kV8 dc8 pm8 cd8 ct8 : Value} {od8 an8 : Option Addr} {sl8 : Array (Option Value)} (a8 : PySem.W.nsIn K mainGlobals "left_of" = some (some (.ref f8))) (l8 : K.lookup f8 = some ⟨oc8, od8, .func (PySem.W.fnOf "left_of" "left_of" (defArgs s_left_of) (defBody s_left_of) (defScope s_left_of) .none kV8 dc8 pm8 an8 cd8 ct8), sl8⟩) (c8 : PySem.W.codeIn K cd8 "left_of" = true) (k8 : PySem.W.keepIn K (.ref f8) = true)
    {f9 : Addr} {oc9 kV9 dc9 pm9 cd9 ct9 : Value} {od9 an9 : Option Addr} {sl9 : Array (Option Value)} (a9 : PySem.W.nsIn K mainGlobals "lock_of" = some (some (.ref f9))) (l9 : K.lookup f9 = some ⟨oc9, od9, .func (PySem.W.fnOf "lock_of" "lock_of" (defArgs s_lock_of) (defBody s_lock_of) (defScope s_lock_of) .none kV9 dc9 pm9 an9 cd9 ct9), sl9⟩) (c9 : PySem.W.codeIn K cd9 "lock_of" = true) (k9 : PySem.W.keepIn K (.ref f9) = true)
    {f10 : Addr} {oc10 kV10 dc10 pm10 cd10 ct10 : Value} {od10 an10 : Option Addr} {sl10 : Array (Option Value)} (a10 : PySem.W.nsIn K mainGlobals "longer_by" = some (some (.ref f10))) (l10 : K.lookup f10 = some ⟨oc10, od10, .func (PySem.W.fnOf "longer_by" "longer_by" (defArgs s_longer_by) (defBody s_longer_by) (defScope s_longer_by) .none kV10 dc10 pm10 an10 cd10 ct10), sl10⟩) (c10 : PySem.W.codeIn K cd10 "longer_by" = true) (k10 : PySem.W.keepIn K (.ref f10) = true)
    {f11 : Addr} {oc11 kV11 dc11 pm11 cd11 ct11 : Value} {od11 an11 : Option Addr} {sl11 : Array (Option Value)} (a11 : PySem.W.nsIn K mainGlobals "check_number" = some (some (.ref f11))) (l11 : K.lookup f11 = some ⟨oc11, od11, .func (PySem.W.fnOf "check_number" "check_number" (defArgs s_check_number) (defBody s_check_number) (defScope s_check_number) .none kV11 dc11 pm11 an11 cd11 ct11), sl11⟩) (c11 : PySem.W.codeIn K cd11 "check_number" = true) (k11 : PySem.W.keepIn K (.ref f11) = true)
    {f12 : Addr} {oc12 kV12 dc12 pm12 cd12 ct12 : Value} {od12 an12 : Option Addr} {sl12 : Array (Option Value)} (a12 : PySem.W.nsIn K mainGlobals "check_profile" = some (some (.ref f12))) (l12 : K.lookup f12 = some ⟨oc12, od12, .func (PySem.W.fnOf "check_profile" "check_profile" (defArgs s_check_profile) (defBody s_check_profile) (defScope s_check_profile) .none kV12 dc12 pm12 an12 cd12 ct12), sl12⟩) (c12 : PySem.W.codeIn K cd12 "check_profile" = true) (k12 : PySem.W.keepIn K (.ref f12) = true)
    {f13 : Addr} {oc13 kV13 dc13 pm13 cd13 ct13 : Value} {od13 an13 : Option Addr} {sl13 : Array (Option Value)} (a13 : PySem.W.nsIn K mainGlobals "check_behind" = some (some (.ref f13))) (l13 : K.lookup f13 = some ⟨oc13, od13, .func (PySem.W.fnOf "check_behind" "check_behind" (defArgs s_check_behind) (defBody s_check_behind) (defScope s_check_behind) .none kV13 dc13 pm13 an13 cd13 ct13), sl13⟩) (c13 : PySem.W.codeIn K cd13 "check_behind" = true) (k13 : PySem.W.keepIn K (.ref f13) = true)
    {f14 : Addr} {oc14 kV14 dc14 pm14 cd14 ct14 : Value} {od14 an14 : Option Addr} {sl14 : Array (Option Value)} (a14 : PySem.W.nsIn K mainGlobals "is_profile" = some (some (.ref f14))) (l14 : K.lookup f14 = some ⟨oc14, od14, .func (PySem.W.fnOf "is_profile" "is_profile" (defArgs s_is_profile) (defBody s_is_profile) (defScope s_is_profile) .none kV14 dc14 pm14 an14 cd14 ct14), sl14⟩) (c14 : PySem.W.codeIn K cd14 "is_profile" = true) (k14 : PySem.W.keepIn K (.ref f14) = true)
    {f15 : Addr} {oc15 kV15 dc15 pm15 cd15 ct15 : Value} {od15 an15 : Option Addr} {sl15 : Array (Option Value)} (a15 : PySem.W.nsIn K mainGlobals "cycles_of" = some (some (.ref f15))) (l15 : K.lookup f15 = some ⟨oc15, od15, .func (PySem.W.fnOf "cycles_of" "cycles_of" (defArgs s_cycles_of) (defBody s_cycles_of) (defScope s_cycles_of) .none kV15 dc15 pm15 an15 cd15 ct15), sl15⟩) (c15 : PySem.W.codeIn K cd15 "cycles_of" = true) (k15 : PySem.W.keepIn K (.ref f15) = true)
    {f16 : Addr} {oc16 kV16 dc16 pm16 cd16 ct16 : Value} {od16 an16 : Option Addr} {sl16 : Array (Option Value)} (a16 : PySem.W.nsIn K mainGlobals "left" = some (some (.ref f16))) (l16 : K.lookup f16 = some ⟨oc16, od16, .func (PySem.W.fnOf "left" "left" (defArgs s_left) (defBody s_left) (defScope s_left) .none kV16 dc16 pm16 an16 cd16 ct16), sl16⟩) (c16 : PySem.W.codeIn K cd16 "left" = true) (k16 : PySem.W.keepIn K (.ref f16) = true)
    {f17 : Addr} {oc17 kV17 dc17 pm17 cd17 ct17 : Value} {od17 an17 : Option Addr} {sl17 : Array (Option Value)} (a17 : PySem.W.nsIn K mainGlobals "lock_held" = some (some (.ref f17))) (l17 : K.lookup f17 = some ⟨oc17, od17, .func (PySem.W.fnOf "lock_held" "lock_held" (defArgs s_lock_held) (defBody s_lock_held) (defScope s_lock_held) .none kV17 dc17 pm17 an17 cd17 ct17), sl17⟩) (c17 : PySem.W.codeIn K cd17 "lock_held" = true) (k17 : PySem.W.keepIn K (.ref f17) = true)
    {f18 : Addr} {oc18 kV18 dc18 pm18 cd18 ct18 : Value} {od18 an18 : Option Addr} {sl18 : Array (Option Value)} (a18 : PySem.W.nsIn K mainGlobals "longer" = some (some (.ref f18))) (l18 : K.lookup f18 = some ⟨oc18, od18, .func (PySem.W.fnOf "longer" "longer" (defArgs s_longer) (defBody s_longer) (defScope s_longer) .none kV18 dc18 pm18 an18 cd18 ct18), sl18⟩) (c18 : PySem.W.codeIn K cd18 "longer" = true) (k18 : PySem.W.keepIn K (.ref f18) = true)
    {f19 : Addr} {oc19 kV19 dc19 pm19 cd19 ct19 : Value} {od19 an19 : Option Addr} {sl19 : Array (Option Value)} (a19 : PySem.W.nsIn K mainGlobals "_law_pail" = some (some (.ref f19))) (l19 : K.lookup f19 = some ⟨oc19, od19, .func (PySem.W.fnOf "_law_pail" "_law_pail" (defArgs s__law_pail) (defBody s__law_pail) (defScope s__law_pail) .none kV19 dc19 pm19 an19 cd19 ct19), sl19⟩) (c19 : PySem.W.codeIn K cd19 "_law_pail" = true) (k19 : PySem.W.keepIn K (.ref f19) = true)
    {f20 : Addr} {oc20 kV20 dc20 pm20 cd20 ct20 : Value} {od20 an20 : Option Addr} {sl20 : Array (Option Value)} (a20 : PySem.W.nsIn K mainGlobals "_law_deal" = some (some (.ref f20))) (l20 : K.lookup f20 = some ⟨oc20, od20, .func (PySem.W.fnOf "_law_deal" "_law_deal" (defArgs s__law_deal) (defBody s__law_deal) (defScope s__law_deal) .none kV20 dc20 pm20 an20 cd20 ct20), sl20⟩) (c20 : PySem.W.codeIn K cd20 "_law_deal" = true) (k20 : PySem.W.keepIn K (.ref f20) = true)
    {f21 : Addr} {oc21 kV21 dc21 pm21 cd21 ct21 : Value} {od21 an21 : Option Addr} {sl21 : Array (Option Value)} (a21 : PySem.W.nsIn K mainGlobals "_law_any" = some (some (.ref f21))) (l21 : K.lookup f21 = some ⟨oc21, od21, .func (PySem.W.fnOf "_law_any" "_law_any" (defArgs s__law_any) (defBody s__law_any) (defScope s__law_any) .none kV21 dc21 pm21 an21 cd21 ct21), sl21⟩) (c21 : PySem.W.codeIn K cd21 "_law_any" = true) (k21 : PySem.W.keepIn K (.ref f21) = true)
    {f22 : Addr} {oc22 kV22 dc22 pm22 cd22 ct22 : Value} {od22 an22 : Option Addr} {sl22 : Array (Option Value)} (a22 : PySem.W.nsIn K mainGlobals "_law_profile" = some (some (.ref f22))) (l22 : K.lookup f22 = some ⟨oc22, od22, .func (PySem.W.fnOf "_law_profile" "_law_profile" (defArgs s__law_profile) (defBody s__law_profile) (defScope s__law_profile) .none kV22 dc22 pm22 an22 cd22 ct22), sl22⟩) (c22 : PySem.W.codeIn K cd22 "_law_profile" = true) (k22 : PySem.W.keepIn K (.ref f22) = true)
    {f23 : Addr} {oc23 kV23 dc23 pm23 cd23 ct23 : Value} {od23 an23 : Option Addr} {sl23 : Array (Option Value)} (a23 : PySem.W.nsIn K mainGlobals "_law_left" = some (some (.ref f23))) (l23 : K.lookup f23 = some ⟨oc23, od23, .func (PySem.W.fnOf "_law_left" "_law_left" (defArgs s__law_left) (defBody s__law_left) (defScope s__law_left) .none kV23 dc23 pm23 an23 cd23 ct23), sl23⟩) (c23 : PySem.W.codeIn K cd23 "_law_left" = true) (k23 : PySem.W.keepIn K (.ref f23) = true)
    {f24 : Addr} {oc24 kV24 dc24 pm24 cd24 ct24 : Value} {od24 an24 : Option Addr} {sl24 : Array (Option Value)} (a24 : PySem.W.nsIn K mainGlobals "_law_right" = some (some (.ref f24))) (l24 : K.lookup f24 = some ⟨oc24, od24, .func (PySem.W.fnOf "_law_right" "_law_right" (defArgs s__law_right) (defBody s__law_right) (defScope s__law_right) .none kV24 dc24 pm24 an24 cd24 ct24), sl24⟩) (c24 : PySem.W.codeIn K cd24 "_law_right" = true) (k24 : PySem.W.keepIn K (.ref f24) = true)
    {f25 : Addr} {oc25 kV25 dc25 pm25 cd25 ct25 : Value} {od25 an25 : Option Addr} {sl25 : Array (Option Value)} (a25 : PySem.W.nsIn K mainGlobals "law" = some (some (.ref f25))) (l25 : K.lookup f25 = some ⟨oc25, od25, .func (PySem.W.fnOf "law" "law" (defArgs s_law) (defBody s_law) (defScope s_law) .none kV25 dc25 pm25 an25 cd25 ct25), sl25⟩) (c25 : PySem.W.codeIn K cd25 "law" = true) (k25 : PySem.W.keepIn K (.ref f25) = true)
    {t0 : Tok} (x0 : PySem.W.nsIn K mainGlobals "LETTERS" = some (some (.str ("abcdefghijklmnopqrstuvwxyz" : Str) t0)))
    {y1 : Addr} {o1 : Obj} {i1 : Array Value} {n1 : Nat} (x1 : PySem.W.nsIn K mainGlobals "WORDS" = some (some (.ref y1))) (v1 : K.lookup y1 = some o1) (w1 : o1.cls = .type "tuple") (d1 : o1.data = .seq i1 n1) (z1 : i1.size ≤ 1000) (e1 : flatsK [.str "call", .str "else", .str "end", .str "fun", .str "give", .str "hold", .str "if", .str "keep", .str "let", .str "out", .str "repeat", .str "sense", .str "table", .str "take", .str "task", .str "times"] i1.toList = true)
    {t2 : Tok} (x2 : PySem.W.nsIn K mainGlobals "MOST_LETTERS" = some (some (.int (8) t2)))
    {t3 : Tok} (x3 : PySem.W.nsIn K mainGlobals "OUTSIDE" = some (some (.str ("" : Str) t3)))
    {t4 : Tok} (x4 : PySem.W.nsIn K mainGlobals "MOST_IN_STRETCH" = some (some (.int (200) t4)))
    {t5 : Tok} (x5 : PySem.W.nsIn K mainGlobals "MOST_TOGETHER" = some (some (.int (400) t5)))
    {t6 : Tok} (x6 : PySem.W.nsIn K mainGlobals "MOST_STRETCHES" = some (some (.int (8) t6)))
    {t7 : Tok} (x7 : PySem.W.nsIn K mainGlobals "MOST_LONGER" = some (some (.int (2000) t7)))
    (b0 : PySem.W.nsIn K mainGlobals "abs" = some none)
    (b1 : PySem.W.nsIn K mainGlobals "all" = some none)
    (b2 : PySem.W.nsIn K mainGlobals "bool" = some none)
    (b3 : PySem.W.nsIn K mainGlobals "divmod" = some none)
    (b4 : PySem.W.nsIn K mainGlobals "int" = some none)
    (b5 : PySem.W.nsIn K mainGlobals "isinstance" = some none)
    (b6 : PySem.W.nsIn K mainGlobals "len" = some none)
    (b7 : PySem.W.nsIn K mainGlobals "list" = some none)
    (b8 : PySem.W.nsIn K mainGlobals "max" = some none)
    (b9 : PySem.W.nsIn K mainGlobals "min" = some none)
    (b10 : PySem.W.nsIn K mainGlobals "range" = some none)
    (b11 : PySem.W.nsIn K mainGlobals "repr" = some none)
    (b12 : PySem.W.nsIn K mainGlobals "str" = some none)
    (b13 : PySem.W.nsIn K mainGlobals "sum" = some none)
    (b14 : PySem.W.nsIn K mainGlobals "tuple" = some none)
    (b15 : PySem.W.nsIn K mainGlobals "zip" = some none) :
    Top K mg :=
  ⟨def_e X G a0 l0 c0 k0 (fun _ _ _ _ _ _ us hl => match us, hl with | [_], _ => rfl),
   def_e X G a1 l1 c1 k1 (fun _ _ _ _ _ _ us hl => match us, hl with | [_, _, _], _ => rfl),
   def_e X G a2 l2 c2 k2 (fun _ _ _ _ _ _ us hl => match us, hl with | [_, _], _ => rfl),
   def_e X G a3 l3 c3 k3 (fun _ _ _ _ _ _ us hl => match us, hl with | [_, _, _], _ => rfl),
   def_e X G a4 l4 c4 k4 (fun _ _ _ _ _ _ us hl => match us, hl with | [_], _ => rfl),
   def_e X G a5 l5 c5 k5 (fun _ _ _ _ _ _ us hl => match us, hl with | [_, _], _ => rfl),
   def_e X G a6 l6 c6 k6 (fun _ _ _ _ _ _ us hl => match us, hl with | [_], _ => rfl),
   def_e X G a7 l7 c7 k7 (fun _ _ _ _ _ _ us hl => match us, hl with | [_], _ => rfl),
   def_e X G a8 l8 c8 k8 (fun _ _ _ _ _ _ us hl => match us, hl with | [_, _], _ => rfl),
   def_e X G a9 l9 c9 k9 (fun _ _ _ _ _ _ us hl => match us, hl with | [_], _ => rfl),
   def_e X G a10 l10 c10 k10 (fun _ _ _ _ _ _ us hl => match us, hl with | [_, _], _ => rfl),
   def_e X G a11 l11 c11 k11 (fun _ _ _ _ _ _ us hl => match us, hl with | [_, _, _], _ => rfl),
   def_e X G a12 l12 c12 k12 (fun _ _ _ _ _ _ us hl => match us, hl with | [_], _ => rfl),
   def_e X G a13 l13 c13 k13 (fun _ _ _ _ _ _ us hl => match us, hl with | [_, _], _ => rfl),
   def_e X G a14 l14 c14 k14 (fun _ _ _ _ _ _ us hl => match us, hl with | [_], _ => rfl),
   def_e X G a15 l15 c15 k15 (fun _ _ _ _ _ _ us hl => match us, hl with | [_], _ => rfl),
   def_e X G a16 l16 c16 k16 (fun _ _ _ _ _ _ us hl => match us, hl with | [_, _], _ => rfl),
   def_e X G a17 l17 c17 k17 (fun _ _ _ _ _ _ us hl => match us, hl with | [_, _], _ => rfl),
   def_e X G a18 l18 c18 k18 (fun _ _ _ _ _ _ us hl => match us, hl with | [_, _], _ => rfl),
   def_e X G a19 l19 c19 k19 (fun _ _ _ _ _ _ us hl => match us, hl with | [_, _], _ => rfl),
   def_e X G a20 l20 c20 k20 (fun _ _ _ _ _ _ us hl => match us, hl with | [_, _], _ => rfl),
   def_e X G a21 l21 c21 k21 (fun _ _ _ _ _ _ us hl => match us, hl with | [_, _], _ => rfl),
   def_e X G a22 l22 c22 k22 (fun _ _ _ _ _ _ us hl => match us, hl with | [_, _], _ => rfl),
   def_e X G a23 l23 c23 k23 (fun _ _ _ _ _ _ us hl => match us, hl with | [_, _], _ => rfl),
   def_e X G a24 l24 c24 k24 (fun _ _ _ _ _ _ us hl => match us, hl with | [_], _ => rfl),
   def_e X G a25 l25 c25 k25 (fun _ _ _ _ _ _ us hl => match us, hl with | [_], _ => rfl),
   kst_str X G x0,
   kst_tup X G x1 v1 w1 d1 z1 e1,
   kst_int X G x2,
   kst_str X G x3,
   kst_int X G x4,
   kst_int X G x5,
   kst_int X G x6,
   kst_int X G x7,
   blt_none X G b0,
   blt_none X G b1,
   blt_none X G b2,
   blt_none X G b3,
   blt_none X G b4,
   blt_none X G b5,
   blt_none X G b6,
   blt_none X G b7,
   blt_none X G b8,
   blt_none X G b9,
   blt_none X G b10,
   blt_none X G b11,
   blt_none X G b12,
   blt_none X G b13,
   blt_none X G b14,
   blt_none X G b15⟩
theorem own_end {P : Program} {w : World} {K : PySem.W.Frag} {mg : Str → Option Value} {base : Heap} (T : Top K mg) {f : Addr} {fd : FuncData} (DF : DefAt K mg "law" s_law pr_law f fd) : FnOkG P w K mg base (L2.CX P w) 10 f fd pr_law (spOf K mg (sLaw 63)) := by
  have F_is_whole := fn_mk (P := P) (w := w) (base := base) T.f_is_whole sc_is_whole (body_is_whole T) sat_is_whole
  have F_is_tuple_of := fn_mk (P := P) (w := w) (base := base) T.f_is_tuple_of sc_is_tuple_of (body_is_tuple_of T) sat_is_tuple_of
  have F_is_short_tuple := fn_mk (P := P) (w := w) (base := base) T.f_is_short_tuple sc_is_short_tuple (body_is_short_tuple T) sat_is_short_tuple
  have F_is_name := fn_mk (P := P) (w := w) (base := base) T.f_is_name sc_is_name (body_is_name T) sat_is_name
  have F_cycles_in := fn_mk (P := P) (w := w) (base := base) T.f_cycles_in sc_cycles_in (body_cycles_in T) sat_cycles_in
  have F_left_of := fn_mk (P := P) (w := w) (base := base) T.f_left_of sc_left_of (body_left_of T) sat_left_of
  have F_lock_of := fn_mk (P := P) (w := w) (base := base) T.f_lock_of sc_lock_of (body_lock_of T) sat_lock_of
  have F__law_pail := fn_mk (P := P) (w := w) (base := base) T.f__law_pail sc__law_pail (body__law_pail T) sat__law_pail
  have F__law_deal := fn_mk (P := P) (w := w) (base := base) T.f__law_deal sc__law_deal (body__law_deal T) sat__law_deal
  have F__law_left := fn_mk (P := P) (w := w) (base := base) T.f__law_left sc__law_left (body__law_left T) sat__law_left
  have F_is_between := fn_mk (P := P) (w := w) (base := base) T.f_is_between sc_is_between (body_is_between T F_is_whole) sat_is_between
  have F__law_any := fn_mk (P := P) (w := w) (base := base) T.f__law_any sc__law_any (body__law_any T F__law_deal) sat__law_any
  have F_is_stretch := fn_mk (P := P) (w := w) (base := base) T.f_is_stretch sc_is_stretch (body_is_stretch T F_is_tuple_of F_is_between F_is_name) sat_is_stretch
  have F_check_number := fn_mk (P := P) (w := w) (base := base) T.f_check_number sc_check_number (body_check_number T F_is_between) sat_check_number
  have F__law_profile := fn_mk (P := P) (w := w) (base := base) T.f__law_profile sc__law_profile (body__law_profile T F__law_deal F__law_any) sat__law_profile
  have F_is_profile_form := fn_mk (P := P) (w := w) (base := base) T.f_is_profile_form sc_is_profile_form (body_is_profile_form T F_is_short_tuple F_is_stretch F_cycles_in) sat_is_profile_form
  have F_longer_by := fn_mk (P := P) (w := w) (base := base) T.f_longer_by sc_longer_by (body_longer_by T F_is_profile_form) sat_longer_by
  have F_check_profile := fn_mk (P := P) (w := w) (base := base) T.f_check_profile sc_check_profile (body_check_profile T F_is_profile_form) sat_check_profile
  have F_is_profile := fn_mk (P := P) (w := w) (base := base) T.f_is_profile sc_is_profile (body_is_profile T F_is_profile_form) sat_is_profile
  have F_check_behind := fn_mk (P := P) (w := w) (base := base) T.f_check_behind sc_check_behind (body_check_behind T F_check_profile F_check_number F_cycles_in) sat_check_behind
  have F_cycles_of := fn_mk (P := P) (w := w) (base := base) T.f_cycles_of sc_cycles_of (body_cycles_of T F_check_profile F_cycles_in) sat_cycles_of
  have F_longer := fn_mk (P := P) (w := w) (base := base) T.f_longer sc_longer (body_longer T F_check_profile F_check_number F_longer_by) sat_longer
  have F_left := fn_mk (P := P) (w := w) (base := base) T.f_left sc_left (body_left T F_check_behind F_left_of) sat_left
  have F_lock_held := fn_mk (P := P) (w := w) (base := base) T.f_lock_held sc_lock_held (body_lock_held T F_lock_of F_left) sat_lock_held
  have F__law_right := fn_mk (P := P) (w := w) (base := base) T.f__law_right sc__law_right (body__law_right T F__law_profile F_cycles_of F_is_profile F__law_left F_left F_lock_held F__law_deal F_longer) sat__law_right
  exact fn_ok DF sc_law (body_law T F__law_right F__law_pail f) sat_law
theorem own_all {P : Program} {w : World} {K : PySem.W.Frag} {mg : Str → Option Value} {fa : Addr} (T : Top K mg) (hmg : mg "law" = some (.ref fa)) : ∃ fd : FuncData, (∀ (s : Shared) (u : Value), BindsTo s fd ⟨[u], []⟩ [("script", u)]) ∧ ∀ base : Heap, K.In base → base.Ns mainGlobals mg → FnOkG P w K mg base (L2.CX P w) 10 fa fd ["script"] (spLaw 63 K) :=
  PL.law_end T.f_law hmg (fun _ _ _ _ _ _ _ => rfl) fun base f fd DF => own_end T DF
end K35
open PySem PySem.W PyProof.Rows
set_option maxHeartbeats 0 in
theorem PySem.Challenge.cw_plantdue_k35_whole_profiles_behind_cycle_holds : PySem.Challenge.rw_plantdue_k35_whole_profiles_behind_cycle.Holds := by
  w_on; o_law; k_head; (case hw => w_witness2)
  k_fill
  refine PL.walk_G (l := PySem.Challenge.rw_plantdue_k35_whole_profiles_behind_cycle) (n := 63) (k := 10) (x := "script") rfl (by decide) rfl ⟨rfl, by decide, by decide⟩ (fun w h Y => PySem.W.kIn_of Y) ?F
  case F =>
    intro w mg fa h KX G hmg
    refine K35.own_all ?T hmg
    refine' K35.top_mk KX G ?a0 ?l0 ?c0 ?k0 ?a1 ?l1 ?c1 ?k1 ?a2 ?l2 ?c2 ?k2 ?a3 ?l3 ?c3 ?k3 ?a4 ?l4 ?c4 ?k4 ?a5 ?l5 ?c5 ?k5 ?a6 ?l6 ?c6 ?k6 ?a7 ?l7 ?c7 ?k7 ?a8 ?l8 ?c8 ?k8 ?a9 ?l9 ?c9 ?k9 ?a10 ?l10 ?c10 ?k10 ?a11 ?l11 ?c11 ?k11 ?a12 ?l12 ?c12 ?k12 ?a13 ?l13 ?c13 ?k13 ?a14 ?l14 ?c14 ?k14 ?a15 ?l15 ?c15 ?k15 ?a16 ?l16 ?c16 ?k16 ?a17 ?l17 ?c17 ?k17 ?a18 ?l18 ?c18 ?k18 ?a19 ?l19 ?c19 ?k19 ?a20 ?l20 ?c20 ?k20 ?a21 ?l21 ?c21 ?k21 ?a22 ?l22 ?c22 ?k22 ?a23 ?l23 ?c23 ?k23 ?a24 ?l24 ?c24 ?k24 ?a25 ?l25 ?c25 ?k25 ?x0 ?x1 ?v1 ?w1 ?d1 ?z1 ?e1 ?x2 ?x3 ?x4 ?x5 ?x6 ?x7 ?b0 ?b1 ?b2 ?b3 ?b4 ?b5 ?b6 ?b7 ?b8 ?b9 ?b10 ?b11 ?b12 ?b13 ?b14 ?b15
    (case a0 => k_is); (case l0 => k_is); (case c0 => k_is); (case k0 => k_is); (case a1 => k_is); (case l1 => k_is); (case c1 => k_is); (case k1 => k_is); (case a2 => k_is); (case l2 => k_is); (case c2 => k_is); (case k2 => k_is); (case a3 => k_is); (case l3 => k_is); (case c3 => k_is); (case k3 => k_is); (case a4 => k_is); (case l4 => k_is); (case c4 => k_is); (case k4 => k_is); (case a5 => k_is); (case l5 => k_is); (case c5 => k_is); (case k5 => k_is); (case a6 => k_is); (case l6 => k_is); (case c6 => k_is); (case k6 => k_is); (case a7 => k_is); (case l7 => k_is); (case c7 => k_is); (case k7 => k_is); (case a8 => k_is); (case l8 => k_is); (case c8 => k_is); (case k8 => k_is); (case a9 => k_is); (case l9 => k_is); (case c9 => k_is); (case k9 => k_is); (case a10 => k_is); (case l10 => k_is); (case c10 => k_is); (case k10 => k_is); (case a11 => k_is); (case l11 => k_is); (case c11 => k_is); (case k11 => k_is); (case a12 => k_is); (case l12 => k_is); (case c12 => k_is); (case k12 => k_is); (case a13 => k_is); (case l13 => k_is); (case c13 => k_is); (case k13 => k_is); (case a14 => k_is); (case l14 => k_is); (case c14 => k_is); (case k14 => k_is); (case a15 => k_is); (case l15 => k_is); (case c15 => k_is); (case k15 => k_is); (case a16 => k_is); (case l16 => k_is); (case c16 => k_is); (case k16 => k_is); (case a17 => k_is); (case l17 => k_is); (case c17 => k_is); (case k17 => k_is); (case a18 => k_is); (case l18 => k_is); (case c18 => k_is); (case k18 => k_is); (case a19 => k_is); (case l19 => k_is); (case c19 => k_is); (case k19 => k_is); (case a20 => k_is); (case l20 => k_is); (case c20 => k_is); (case k20 => k_is); (case a21 => k_is); (case l21 => k_is); (case c21 => k_is); (case k21 => k_is); (case a22 => k_is); (case l22 => k_is); (case c22 => k_is); (case k22 => k_is); (case a23 => k_is); (case l23 => k_is); (case c23 => k_is); (case k23 => k_is); (case a24 => k_is); (case l24 => k_is); (case c24 => k_is); (case k24 => k_is); (case a25 => k_is); (case l25 => k_is); (case c25 => k_is); (case k25 => k_is); (case x0 => k_is); (case x1 => k_is); (case v1 => k_is); (case w1 => rfl); (case d1 => rfl); (case z1 => decide +kernel); (case e1 => decide +kernel); (case x2 => k_is); (case x3 => k_is); (case x4 => k_is); (case x5 => k_is); (case x6 => k_is); (case x7 => k_is); (case b0 => k_is); (case b1 => k_is); (case b2 => k_is); (case b3 => k_is); (case b4 => k_is); (case b5 => k_is); (case b6 => k_is); (case b7 => k_is); (case b8 => k_is); (case b9 => k_is); (case b10 => k_is); (case b11 => k_is); (case b12 => k_is); (case b13 => k_is); (case b14 => k_is); (case b15 => k_is)

