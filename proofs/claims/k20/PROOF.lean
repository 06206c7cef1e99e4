import PyProof.Rows.All
import Wide.All
import OpenK.AllK
import Wide.FinOn
import HandS.ForMost
import HandS.ForExc
import HandS.Deep
import HandS.TupAny
import HandS.IsInst
import HandS.Conv
import HandS.Style
import HandS.Zip
import HandS.SetFor
import HandS.TupMul
import HandS.TupSets
import HandS.ExcIs
import HandS.TryMany
import PySem.Challenge.RW_lowerorders_k20_first_exception
set_option Elab.async false
set_option linter.all false
set_option maxRecDepth 100000
/-! VA: the value layer. Data (PyData) in the place of addresses: what an expression is worth (EO), what a statement leaves (SO), each as a function of the slots' contents; the rules say that the code does so. -/
namespace VL
open PySem L2

/-! ### heaps -/
structure Ext (F H F2 H2 : Hp) : Prop where
  ff : Same F F2
  fh : Same F2 H2
  hh : Same H H2
  ap : ∀ a o, H a = some o → F a = none → F2 a = none
theorem Ext.refl {F H : Hp} (h : Same F H) : Ext F H F H := ⟨Same.refl F, h, Same.refl H, fun _ _ _ e => e⟩
theorem Ext.trans {F H F1 H1 F2 H2 : Hp} (a : Ext F H F1 H1) (b : Ext F1 H1 F2 H2) : Ext F H F2 H2 :=
  ⟨a.ff.trans b.ff, b.fh, a.hh.trans b.hh, fun x o h e => b.ap x o (a.hh x o h) (a.ap x o h e)⟩
theorem same_new {H : Hp} {p : Addr} {o : HO} (h : H p = none) : Same H (upd H p o) := fun a u e => by
  rw [upd_ne (ne_of_none e h)]
  exact e
/-- a new object, tracked, not frozen -/
theorem Ext.new {F H : Hp} {p : Addr} {o : HO} (fh : Same F H) (h : H p = none) : Ext F H F (upd H p o) :=
  ⟨Same.refl F, fh.trans (same_new h), same_new h, fun _ _ _ e => e⟩
/-- a new object, frozen at once -/
theorem Ext.newF {F H : Hp} {p : Addr} {o : HO} (fh : Same F H) (h : H p = none) : Ext F H (upd F p o) (upd H p o) := by
  have hf : F p = none := fh.free h
  refine ⟨same_new hf, fun a u e => ?_, same_new h, fun a u e1 e2 => ?_⟩
  · by_cases z : a = p
    · subst z
      rw [upd_same] at e ⊢
      exact e
    · rw [upd_ne z] at e ⊢
      exact fh a u e
  · rw [upd_ne (ne_of_none e1 h)]
    exact e2
/-- what stands tracked and is younger than H is frozen -/
theorem Ext.freeze {F H F2 H2 : Hp} {p : Addr} {o : HO} (x : Ext F H F2 H2) (hp : H p = none) (h2 : H2 p = some o) : Ext F H (upd F2 p o) H2 := by
  refine ⟨fun a u e => ?_, fun a u e => ?_, x.hh, fun a u e1 e2 => ?_⟩
  · by_cases z : a = p
    · subst z
      rw [upd_same]
      exact ((x.fh a u (x.ff a u e)).symm.trans h2).symm
    · rw [upd_ne z]
      exact x.ff a u e
  · by_cases z : a = p
    · subst z
      rw [upd_same] at e
      exact h2.trans e
    · rw [upd_ne z] at e
      exact x.fh a u e
  · rw [upd_ne (ne_of_none e1 hp)]
    exact x.ap a u e1 e2

/-! ### data -/
theorem sqT_mono {K : PySem.W.Frag} {H H2 : Hp} {a : Addr} {xs : List V} (e : Same H H2) (h : SqT K H a xs) : SqT K H2 a xs := by
  rcases h with (h | ⟨o, h⟩) | h
  · exact .inl (.inl (e _ _ h))
  · exact .inl (.inr ⟨o, e _ _ h⟩)
  · exact .inr h
mutual
/-- the value v is the data d in H; the script (a list of ints that is known to the object) is told by .dict -/
inductive Dq (K : PySem.W.Frag) (H : Hp) : V → PyData → Prop
  | non : Dq K H .non .none
  | bl (b : Bool) : Dq K H (.bl b) (.bool b)
  | int (i : Int) : Dq K H (.int i) (.int i)
  | str (x : Str) : Dq K H (.str x) (.str x)
  | lst {a : Addr} {vs : List V} {ds : List PyData} : H a = some (.lst vs) → DqAll K H vs ds → Dq K H (.ref a) (.list ds)
  | tup {a : Addr} {vs : List V} {ds : List PyData} : H a = some (.tup vs) → DqAll K H vs ds → Dq K H (.ref a) (.tuple ds)
  | scr {a : Addr} {ns : List Int} : SqL K H a (ns.map V.int) → Dq K H (.ref a) (.dict (ns.map fun n => (.int n, .none)))
inductive DqAll (K : PySem.W.Frag) (H : Hp) : List V → List PyData → Prop
  | nil : DqAll K H [] []
  | cons {v : V} {vs : List V} {d : PyData} {ds : List PyData} : Dq K H v d → DqAll K H vs ds → DqAll K H (v :: vs) (d :: ds)
end
mutual
theorem dp_mono {K : PySem.W.Frag} {H H2 : Hp} (e : Same H H2) : ∀ (d : PyData) (v : V), Dq K H v d → Dq K H2 v d
  | .none, _, h => by cases h; exact .non
  | .bool b, _, h => by cases h; exact .bl b
  | .int i, _, h => by cases h; exact .int i
  | .str x, _, h => by cases h; exact .str x
  | .list ds, _, h => by
    cases h with
    | lst hs ha => exact .lst (e _ _ hs) (dpAll_mono e ds _ ha)
  | .tuple ds, _, h => by
    cases h with
    | tup hs ha => exact .tup (e _ _ hs) (dpAll_mono e ds _ ha)
  | .dict _, _, h => by
    cases h with
    | scr hs => exact .scr (e.seq hs)
theorem dpAll_mono {K : PySem.W.Frag} {H H2 : Hp} (e : Same H H2) : ∀ (ds : List PyData) (vs : List V), DqAll K H vs ds → DqAll K H2 vs ds
  | [], _, h => by cases h; exact .nil
  | d :: ds, _, h => by
    cases h with
    | cons h1 h2 => exact .cons (dp_mono e d _ h1) (dpAll_mono e ds _ h2)
end
mutual
theorem dq_dp {K : PySem.W.Frag} {H : Hp} : ∀ (d : PyData) (v : V), d.canLay0 = true → Dq K H v d → L2.Dp K H v d
  | .none, _, _, h => by cases h; exact .non
  | .bool b, _, _, h => by cases h; exact .bl b
  | .int i, _, _, h => by cases h; exact .int i
  | .str x, _, _, h => by cases h; exact .str x
  | .list ds, _, c, h => by
    cases h with
    | lst hs ha => exact .lst (SqL.of hs) (dqAll_dp ds _ (by rw [PyData.canLay0] at c; exact c) ha)
  | .tuple ds, _, c, h => by
    cases h with
    | tup hs ha => exact .tup (SqT.of hs) (dqAll_dp ds _ (by rw [PyData.canLay0] at c; exact c) ha)
  | .dict _, _, c, h => by rw [PyData.canLay0] at c; cases c
theorem dqAll_dp {K : PySem.W.Frag} {H : Hp} : ∀ (ds : List PyData) (vs : List V), PyData.canLayAll0 ds = true → DqAll K H vs ds → L2.DpAll K H vs ds
  | [], _, _, h => by cases h; exact .nil
  | d :: ds, _, c, h => by
    rw [PyData.canLayAll0, Bool.and_eq_true] at c
    cases h with
    | cons h1 h2 => exact .cons (dq_dp d _ c.1 h1) (dqAll_dp ds _ c.2 h2)
end
theorem dpAll_len {K : PySem.W.Frag} {H : Hp} : ∀ {vs : List V} {ds : List PyData}, DqAll K H vs ds → vs.length = ds.length
  | _, _, .nil => rfl
  | _, _, .cons _ t => by simp [dpAll_len t]
theorem dpAll_get {K : PySem.W.Frag} {H : Hp} : ∀ {vs : List V} {ds : List PyData} {i : Nat} {d : PyData}, DqAll K H vs ds → ds[i]? = some d → ∃ v, vs[i]? = some v ∧ Dq K H v d
  | _, _, _, _, .nil, e => by simp at e
  | _, _, 0, _, .cons r _, e => by simp at e; subst e; exact ⟨_, rfl, r⟩
  | _, _, i + 1, d, .cons _ t, e => by
    obtain ⟨v, h1, h2⟩ := dpAll_get (i := i) (d := d) t (by simpa using e)
    exact ⟨v, by simpa using h1, h2⟩
theorem dpAll_getV {K : PySem.W.Frag} {H : Hp} : ∀ {vs : List V} {ds : List PyData} {i : Nat} {v : V}, DqAll K H vs ds → vs[i]? = some v → ∃ d, ds[i]? = some d ∧ Dq K H v d
  | _, _, _, _, .nil, e => by simp at e
  | _, _, 0, _, .cons r _, e => by simp at e; subst e; exact ⟨_, rfl, r⟩
  | _, _, i + 1, d, .cons _ t, e => by
    obtain ⟨v, h1, h2⟩ := dpAll_getV (i := i) (v := d) t (by simpa using e)
    exact ⟨v, by simpa using h1, h2⟩
theorem dpAll_app {K : PySem.W.Frag} {H : Hp} : ∀ {vs us : List V} {ds es : List PyData}, DqAll K H vs ds → DqAll K H us es → DqAll K H (vs ++ us) (ds ++ es)
  | _, _, _, _, .nil, s => s
  | _, _, _, _, .cons r t, s => .cons r (dpAll_app t s)
theorem dpAll_take {K : PySem.W.Frag} {H : Hp} : ∀ {vs : List V} {ds : List PyData} (n : Nat), DqAll K H vs ds → DqAll K H (vs.take n) (ds.take n)
  | _, _, 0, _ => .nil
  | _, _, _ + 1, .nil => .nil
  | _, _, n + 1, .cons r t => .cons r (dpAll_take n t)
theorem dpAll_drop {K : PySem.W.Frag} {H : Hp} : ∀ {vs : List V} {ds : List PyData} (n : Nat), DqAll K H vs ds → DqAll K H (vs.drop n) (ds.drop n)
  | _, _, 0, r => r
  | _, _, _ + 1, .nil => .nil
  | _, _, n + 1, .cons _ t => dpAll_drop n t
theorem dpAll_set {K : PySem.W.Frag} {H : Hp} {v : V} {d : PyData} (r : Dq K H v d) : ∀ {vs : List V} {ds : List PyData} (n : Nat), DqAll K H vs ds → DqAll K H (vs.set n v) (ds.set n d)
  | _, _, _, .nil => .nil
  | _, _, 0, .cons _ t => .cons r t
  | _, _, n + 1, .cons q t => .cons q (dpAll_set r n t)
theorem dpAll_rev {K : PySem.W.Frag} {H : Hp} : ∀ {vs : List V} {ds : List PyData}, DqAll K H vs ds → DqAll K H vs.reverse ds.reverse
  | _, _, .nil => .nil
  | _, _, .cons r t => by
    rw [List.reverse_cons, List.reverse_cons]
    exact dpAll_app (dpAll_rev t) (.cons r .nil)

/-! ### outcomes -/
/-- how the worth lies: frozen data; a new list; the own list in slot i -/
inductive Wh where
  | frz | new | own (i : Nat)
/-- what an expression is worth -/
inductive EO where
  | ok (d : PyData) (w : Wh) | exc (c : Nat) (pl : Option PyData) | stuck
/-- what a slot holds -/
inductive Sl where
  | dat (d : PyData)
  | own (ds : List PyData)
abbrev Gm := List (Option Sl)
inductive SO where
  | next (G : Gm) | ret (d : PyData) | brk (G : Gm) | cont (G : Gm) | exc (c : Nat) (pl : Option PyData) (G : Gm) | stuck
inductive BO where
  | ok (b : Bool) | exc (c : Nat) (pl : Option PyData) | stuck
/-- what a def is worth -/
inductive FO where
  | ok (d : PyData) | exc (c : Nat) (pl : Option PyData) | stuck
inductive AO where
  | ok (ds : List PyData) | exc (c : Nat) (pl : Option PyData) | stuck
def EO.bind (o : EO) (k : PyData → Wh → EO) : EO := match o with
  | .ok d w => k d w
  | .exc c pl => .exc c pl
  | .stuck => .stuck
def EO.bindB (o : EO) (k : PyData → Wh → BO) : BO := match o with
  | .ok d w => k d w
  | .exc c pl => .exc c pl
  | .stuck => .stuck
def EO.bindA (o : EO) (k : PyData → Wh → AO) : AO := match o with
  | .ok d w => k d w
  | .exc c pl => .exc c pl
  | .stuck => .stuck
def EO.bindS (G : Gm) (o : EO) (k : PyData → Wh → SO) : SO := match o with
  | .ok d w => k d w
  | .exc c pl => .exc c pl G
  | .stuck => .stuck
def BO.bind (o : BO) (k : Bool → BO) : BO := match o with
  | .ok b => k b
  | .exc c pl => .exc c pl
  | .stuck => .stuck
def BO.bindE (o : BO) (k : Bool → EO) : EO := match o with
  | .ok b => k b
  | .exc c pl => .exc c pl
  | .stuck => .stuck
def BO.bindS (G : Gm) (o : BO) (k : Bool → SO) : SO := match o with
  | .ok b => k b
  | .exc c pl => .exc c pl G
  | .stuck => .stuck
def AO.bind (o : AO) (k : List PyData → AO) : AO := match o with
  | .ok ds => k ds
  | .exc c pl => .exc c pl
  | .stuck => .stuck
def AO.bindE (o : AO) (k : List PyData → EO) : EO := match o with
  | .ok ds => k ds
  | .exc c pl => .exc c pl
  | .stuck => .stuck
def FO.toE : FO → EO
  | .ok d => .ok d .frz
  | .exc c pl => .exc c pl
  | .stuck => .stuck

/-! ### what they mean -/
/-- v is worth d; H: the heap ahead -/
def VR (K : PySem.W.Frag) (H F2 H2 : Hp) (σ : St) (v : V) (d : PyData) : Wh → Prop
  | .frz => Dq K F2 v d
  | .new => ∃ p vs ds, v = .ref p ∧ d = .list ds ∧ H p = none ∧ F2 p = none ∧ H2 p = some (.lst vs) ∧ DqAll K F2 vs ds
  | .own i => σ[i]? = some (some v) ∧ ∃ p vs ds, v = .ref p ∧ d = .list ds ∧ F2 p = none ∧ H2 p = some (.lst vs) ∧ DqAll K F2 vs ds
/-- the view that readers have -/
def VV (K : PySem.W.Frag) (F H : Hp) (v : V) (d : PyData) : Prop :=
  Dq K H v d ∧ match d with
    | .list ds => ∃ a vs, v = .ref a ∧ H a = some (.lst vs) ∧ DqAll K F vs ds
    | .tuple ds => ∃ a vs, v = .ref a ∧ F a = some (.tup vs) ∧ DqAll K F vs ds
    | _ => Dq K F v d
theorem VV.of_frz {K : PySem.W.Frag} {F H : Hp} (fh : Same F H) {v : V} : ∀ {d : PyData}, Dq K F v d → VV K F H v d
  | .none, h => ⟨dp_mono fh _ _ h, h⟩
  | .bool _, h => ⟨dp_mono fh _ _ h, h⟩
  | .int _, h => ⟨dp_mono fh _ _ h, h⟩
  | .str _, h => ⟨dp_mono fh _ _ h, h⟩
  | .dict _, h => ⟨dp_mono fh _ _ h, h⟩
  | .list ds, h => by
    refine ⟨dp_mono fh _ _ h, ?_⟩
    cases h with
    | lst hs ha => exact ⟨_, _, rfl, fh _ _ hs, ha⟩
  | .tuple ds, h => by
    refine ⟨dp_mono fh _ _ h, ?_⟩
    cases h with
    | tup hs ha => exact ⟨_, _, rfl, hs, ha⟩
theorem VV.of {K : PySem.W.Frag} {H F2 H2 : Hp} {σ : St} {v : V} {d : PyData} (fh : Same F2 H2) : ∀ {w : Wh}, VR K H F2 H2 σ v d w → VV K F2 H2 v d
  | .frz, h => VV.of_frz fh h
  | .new, ⟨p, vs, ds, e1, e2, _, _, h, ha⟩ => by
    subst e1 e2
    exact ⟨.lst h (dpAll_mono fh _ _ ha), p, vs, rfl, h, ha⟩
  | .own i, ⟨_, p, vs, ds, e1, e2, _, h, ha⟩ => by
    subst e1 e2
    exact ⟨.lst h (dpAll_mono fh _ _ ha), p, vs, rfl, h, ha⟩
/-- a view stays where frozen and own things stay -/
theorem VV.mono {K : PySem.W.Frag} {F H F2 H2 : Hp} {v : V} {d : PyData} (x : Ext F H F2 H2) (h : VV K F H v d) : VV K F2 H2 v d := by
  obtain ⟨h1, h2⟩ := h
  refine ⟨dp_mono x.hh _ _ h1, ?_⟩
  cases d with
  | list ds =>
    obtain ⟨a, vs, e, hs, ha⟩ := h2
    exact ⟨a, vs, e, x.hh _ _ hs, dpAll_mono x.ff _ _ ha⟩
  | tuple ds =>
    obtain ⟨a, vs, e, hs, ha⟩ := h2
    exact ⟨a, vs, e, x.ff _ _ hs, dpAll_mono x.ff _ _ ha⟩
  | none => exact dp_mono x.ff _ _ h2
  | bool b => exact dp_mono x.ff _ _ h2
  | int i => exact dp_mono x.ff _ _ h2
  | str y => exact dp_mono x.ff _ _ h2
  | dict kvs => exact dp_mono x.ff _ _ h2
theorem VV.int {K : PySem.W.Frag} {F H : Hp} {v : V} {i : Int} (h : VV K F H v (.int i)) : v = .int i := by cases h.1; rfl
theorem VV.bl {K : PySem.W.Frag} {F H : Hp} {v : V} {b : Bool} (h : VV K F H v (.bool b)) : v = .bl b := by cases h.1; rfl
theorem VV.str {K : PySem.W.Frag} {F H : Hp} {v : V} {x : Str} (h : VV K F H v (.str x)) : v = .str x := by cases h.1; rfl
theorem VV.non {K : PySem.W.Frag} {F H : Hp} {v : V} (h : VV K F H v .none) : v = .non := by cases h.1; rfl
/-- what is new or frozen, made frozen -/
def EO.hard : EO → EO
  | .ok d .frz => .ok d .frz
  | .ok d .new => .ok d .frz
  | .ok _ (.own _) => .stuck
  | .exc c pl => .exc c pl
  | .stuck => .stuck
theorem vr_hard {K : PySem.W.Frag} {F H F2 H2 : Hp} {σ : St} {v : V} {d : PyData} (x : Ext F H F2 H2) : ∀ {w : Wh}, VR K H F2 H2 σ v d w → (∀ i, w ≠ .own i) → ∃ F3, Ext F H F3 H2 ∧ Same F2 F3 ∧ Dq K F3 v d
  | .frz, h, _ => ⟨F2, x, Same.refl _, h⟩
  | .new, ⟨p, vs, ds, e1, e2, h0, hf, h2, ha⟩, _ => by
    subst e1 e2
    have s : Same F2 (upd F2 p (.lst vs)) := same_new hf
    exact ⟨_, x.freeze h0 h2, s, .lst upd_same (dpAll_mono s _ _ ha)⟩
  | .own i, _, hn => (hn i rfl).elim

/-- an exception, its class by number -/
def XR (K : PySem.W.Frag) (ct : Nat → Addr) (F H : Hp) (c : Nat) (pl : Option PyData) (cls : Value) (dd : Option Addr) : Prop :=
  cls = .ref (ct c) ∧ match pl with
    | none => dd = none
    | some d => ∃ a v, dd = some a ∧ H a = some (.xd [(("line" : Str), v)]) ∧ Dq K F v d

/-- the slots -/
def SR (K : PySem.W.Frag) (H0 F H : Hp) (v : V) : Sl → Prop
  | .dat d => Dq K F v d
  | .own ds => ∃ p vs, v = .ref p ∧ H0 p = none ∧ F p = none ∧ H p = some (.lst vs) ∧ DqAll K F vs ds
def isOwn : Option (Option Sl) → Bool
  | some (some (.own _)) => true
  | _ => false
structure Rep (K : PySem.W.Frag) (F0 H0 F H : Hp) (G : Gm) (σ : St) : Prop where
  fh : Same F H
  hh : Same H0 H
  ff : Same F0 F
  ap : ∀ a o, H0 a = some o → F0 a = none → F a = none
  len : G.length = σ.length
  slot : ∀ (i : Nat) (s : Sl), G[i]? = some (some s) → ∃ v, σ[i]? = some (some v) ∧ SR K H0 F H v s
  dist : ∀ (i j : Nat) (v : V), i ≠ j → isOwn G[i]? = true → isOwn G[j]? = true → σ[i]? = some (some v) → σ[j]? = some (some v) → False
theorem Rep.ext {K : PySem.W.Frag} {F0 H0 F H F2 H2 : Hp} {G : Gm} {σ : St} (r : Rep K F0 H0 F H G σ) (x : Ext F H F2 H2) : Rep K F0 H0 F2 H2 G σ where
  fh := x.fh
  hh := r.hh.trans x.hh
  ff := r.ff.trans x.ff
  ap := fun a o h e => x.ap a o (r.hh a o h) (r.ap a o h e)
  len := r.len
  slot := fun i s h => by
    obtain ⟨v, h1, h2⟩ := r.slot i s h
    refine ⟨v, h1, ?_⟩
    cases s with
    | dat d => exact dp_mono x.ff _ _ h2
    | own ds =>
      obtain ⟨p, vs, e, h0, hf, hp, ha⟩ := h2
      exact ⟨p, vs, e, h0, x.ap p _ hp hf, x.hh p _ hp, dpAll_mono x.ff _ _ ha⟩
  dist := r.dist

/-! ### readings by worth -/
def post (K : PySem.W.Frag) (ct : Nat → Addr) (W : WX) (σ : St) (F H : Hp) (Q : VK) : EO → Prop
  | .ok d w => ∀ v F2 H2, Ext F H F2 H2 → VR K H F2 H2 σ v d w → Q v H2
  | .exc c pl => ∀ cls dd F2 H2, Ext F H F2 H2 → XR K ct F2 H2 c pl cls dd → W cls dd σ H2
  | .stuck => False
def postB (K : PySem.W.Frag) (ct : Nat → Addr) (W : WX) (σ : St) (F H : Hp) (Q : Bool → Hp → Prop) : BO → Prop
  | .ok b => ∀ F2 H2, Ext F H F2 H2 → Q b H2
  | .exc c pl => ∀ cls dd F2 H2, Ext F H F2 H2 → XR K ct F2 H2 c pl cls dd → W cls dd σ H2
  | .stuck => False
def postA (K : PySem.W.Frag) (ct : Nat → Addr) (W : WX) (σ : St) (F H : Hp) (Q : List V → Hp → Prop) : AO → Prop
  | .ok ds => ∀ vs F2 H2, Ext F H F2 H2 → DqAll K F2 vs ds → Q vs H2
  | .exc c pl => ∀ cls dd F2 H2, Ext F H F2 H2 → XR K ct F2 H2 c pl cls dd → W cls dd σ H2
  | .stuck => False
def postS (K : PySem.W.Frag) (ct : Nat → Addr) (W : WX) (F0 H0 : Hp) (D : Ends) (F : Hp) : SO → Prop
  | .next G => ∀ σ2 F2 H2, Same F F2 → Rep K F0 H0 F2 H2 G σ2 → D.nx σ2 H2
  | .brk G => ∀ σ2 F2 H2, Same F F2 → Rep K F0 H0 F2 H2 G σ2 → D.bk σ2 H2
  | .cont G => ∀ σ2 F2 H2, Same F F2 → Rep K F0 H0 F2 H2 G σ2 → D.ct σ2 H2
  | .ret d => ∀ v F2 H2, Ext F0 H0 F2 H2 → Dq K F2 v d → D.rt v H2
  | .exc c pl G => ∀ cls dd σ2 F2 H2, Same F F2 → Rep K F0 H0 F2 H2 G σ2 → XR K ct F2 H2 c pl cls dd → W cls dd σ2 H2
  | .stuck => False
def tM (K : PySem.W.Frag) (ct : Nat → Addr) (W : WX) (m : Gm → EO) : TE := fun σ H Q => ∃ F0 H0 F G, Rep K F0 H0 F H G σ ∧ post K ct W σ F H Q (m G)
def tMB (K : PySem.W.Frag) (ct : Nat → Addr) (W : WX) (m : Gm → BO) : TT := fun σ H Q => ∃ F0 H0 F G, Rep K F0 H0 F H G σ ∧ postB K ct W σ F H Q (m G)
def tMA (K : PySem.W.Frag) (ct : Nat → Addr) (W : WX) (m : Gm → AO) : TA := fun σ H Q => ∃ F0 H0 F G, Rep K F0 H0 F H G σ ∧ postA K ct W σ F H Q (m G)
def sM (K : PySem.W.Frag) (ct : Nat → Addr) (W : WX) (m : Gm → SO) : TS := fun D σ H => ∃ F0 H0 F G, Rep K F0 H0 F H G σ ∧ postS K ct W F0 H0 D F (m G)
theorem Rep.extOf {K : PySem.W.Frag} {F0 H0 F H : Hp} {G : Gm} {σ : St} (r : Rep K F0 H0 F H G σ) : Ext F0 H0 F H := ⟨r.ff, r.fh, r.hh, r.ap⟩

/-! ### moving along -/
section
variable {K : PySem.W.Frag} {ct : Nat → Addr} {W : WX} {σ : St} {F H F1 H1 F2 H2 : Hp} {Q : VK}
theorem vr_back {v : V} {d : PyData} (x : Same H H1) : ∀ {w : Wh}, VR K H1 F2 H2 σ v d w → VR K H F2 H2 σ v d w
  | .frz, h => h
  | .new, ⟨p, vs, ds, e1, e2, h0, r⟩ => ⟨p, vs, ds, e1, e2, x.free h0, r⟩
  | .own _, h => h
theorem post_ext {o : EO} (h : post K ct W σ F H Q o) (x : Ext F H F1 H1) : post K ct W σ F1 H1 Q o := by
  cases o with
  | ok d w => exact fun v F2 H2 x2 r => h v F2 H2 (x.trans x2) (vr_back x.hh r)
  | exc c pl => exact fun cls dd F2 H2 x2 r => h cls dd F2 H2 (x.trans x2) r
  | stuck => exact h
theorem postB_ext {Q : Bool → Hp → Prop} {o : BO} (h : postB K ct W σ F H Q o) (x : Ext F H F1 H1) : postB K ct W σ F1 H1 Q o := by
  cases o with
  | ok b => exact fun F2 H2 x2 => h F2 H2 (x.trans x2)
  | exc c pl => exact fun cls dd F2 H2 x2 r => h cls dd F2 H2 (x.trans x2) r
  | stuck => exact h
theorem postA_ext {Q : List V → Hp → Prop} {o : AO} (h : postA K ct W σ F H Q o) (x : Ext F H F1 H1) : postA K ct W σ F1 H1 Q o := by
  cases o with
  | ok ds => exact fun vs F2 H2 x2 r => h vs F2 H2 (x.trans x2) r
  | exc c pl => exact fun cls dd F2 H2 x2 r => h cls dd F2 H2 (x.trans x2) r
  | stuck => exact h
theorem post_bind {o : EO} {k : PyData → Wh → EO} (h : post K ct W σ F H Q (o.bind k)) :
    post K ct W σ F H (fun v H1 => ∃ d w F1, Ext F H F1 H1 ∧ VR K H F1 H1 σ v d w ∧ post K ct W σ F1 H1 Q (k d w)) o := by
  cases o with
  | ok d w => exact fun v F1 H1 x r => ⟨d, w, F1, x, r, post_ext (o := k d w) h x⟩
  | exc c pl => exact h
  | stuck => exact h
theorem post_bindB {Q : Bool → Hp → Prop} {o : EO} {k : PyData → Wh → BO} (h : postB K ct W σ F H Q (o.bindB k)) :
    post K ct W σ F H (fun v H1 => ∃ d w F1, Ext F H F1 H1 ∧ VR K H F1 H1 σ v d w ∧ postB K ct W σ F1 H1 Q (k d w)) o := by
  cases o with
  | ok d w => exact fun v F1 H1 x r => ⟨d, w, F1, x, r, postB_ext (o := k d w) h x⟩
  | exc c pl => exact h
  | stuck => exact h
theorem post_bindA {Q : List V → Hp → Prop} {o : EO} {k : PyData → Wh → AO} (h : postA K ct W σ F H Q (o.bindA k)) :
    post K ct W σ F H (fun v H1 => ∃ d w F1, Ext F H F1 H1 ∧ VR K H F1 H1 σ v d w ∧ postA K ct W σ F1 H1 Q (k d w)) o := by
  cases o with
  | ok d w => exact fun v F1 H1 x r => ⟨d, w, F1, x, r, postA_ext (o := k d w) h x⟩
  | exc c pl => exact h
  | stuck => exact h
theorem postB_bind {Q : Bool → Hp → Prop} {o : BO} {k : Bool → BO} (h : postB K ct W σ F H Q (o.bind k)) :
    postB K ct W σ F H (fun b H1 => ∃ F1, Ext F H F1 H1 ∧ postB K ct W σ F1 H1 Q (k b)) o := by
  cases o with
  | ok b => exact fun F1 H1 x => ⟨F1, x, postB_ext (o := k b) h x⟩
  | exc c pl => exact h
  | stuck => exact h
theorem postB_bindE {o : BO} {k : Bool → EO} (h : post K ct W σ F H Q (o.bindE k)) :
    postB K ct W σ F H (fun b H1 => ∃ F1, Ext F H F1 H1 ∧ post K ct W σ F1 H1 Q (k b)) o := by
  cases o with
  | ok b => exact fun F1 H1 x => ⟨F1, x, post_ext (o := k b) h x⟩
  | exc c pl => exact h
  | stuck => exact h
theorem postA_bind {Q : List V → Hp → Prop} {o : AO} {k : List PyData → AO} (h : postA K ct W σ F H Q (o.bind k)) :
    postA K ct W σ F H (fun vs H1 => ∃ ds F1, Ext F H F1 H1 ∧ DqAll K F1 vs ds ∧ postA K ct W σ F1 H1 Q (k ds)) o := by
  cases o with
  | ok ds => exact fun vs F1 H1 x r => ⟨ds, F1, x, r, postA_ext (o := k ds) h x⟩
  | exc c pl => exact h
  | stuck => exact h
theorem postA_bindE {o : AO} {k : List PyData → EO} (h : post K ct W σ F H Q (o.bindE k)) :
    postA K ct W σ F H (fun vs H1 => ∃ ds F1, Ext F H F1 H1 ∧ DqAll K F1 vs ds ∧ post K ct W σ F1 H1 Q (k ds)) o := by
  cases o with
  | ok ds => exact fun vs F1 H1 x r => ⟨ds, F1, x, r, post_ext (o := k ds) h x⟩
  | exc c pl => exact h
  | stuck => exact h
/-- made frozen -/
theorem post_hard {o : EO} (h : post K ct W σ F H Q o.hard) : post K ct W σ F H (fun v H1 => ∃ d F1, o.hard = .ok d .frz ∧ Ext F H F1 H1 ∧ Dq K F1 v d ∧ Q v H1) o := by
  cases o with
  | ok d w =>
    cases w with
    | frz => exact fun v F1 H1 x r => ⟨d, F1, rfl, x, r, h v F1 H1 x r⟩
    | new =>
      intro v F1 H1 x r
      obtain ⟨F3, x3, _, r3⟩ := vr_hard x r (fun i e => nomatch e)
      exact ⟨d, F3, rfl, x3, r3, h v F3 H1 x3 r3⟩
    | own i => exact h.elim
  | exc c pl => exact h
  | stuck => exact h
end

/-! ### the judgements -/
abbrev EE (X : Cx) (ct : Nat → Addr) (W : WX) (e : Expr) (m : Gm → EO) : Prop := PE X e (tM X.K ct W m)
abbrev EB (X : Cx) (ct : Nat → Addr) (W : WX) (e : Expr) (m : Gm → BO) : Prop := PT X e (tMB X.K ct W m)
abbrev EA (X : Cx) (ct : Nat → Addr) (W : WX) (es : List Expr) (m : Gm → AO) : Prop := PA X es (tMA X.K ct W m)
abbrev ES (X : Cx) (ct : Nat → Addr) (W : WX) (st : Stmt) (m : Gm → SO) : Prop := PS X st (sM X.K ct W m)
abbrev ESs (X : Cx) (ct : Nat → Addr) (W : WX) (sts : List Stmt) (m : Gm → SO) : Prop := PSs X sts (sM X.K ct W m)
theorem pe_imp {X : Cx} {e : Expr} {t t2 : TE} (h : PE X e t) (i : ∀ σ H Q, t2 σ H Q → t σ H Q) : PE X e t2 := ⟨fun pins s σ H Q I q => h.run pins s σ H Q I (i σ H Q q)⟩
theorem pt_imp {X : Cx} {e : Expr} {t t2 : TT} (h : PT X e t) (i : ∀ σ H Q, t2 σ H Q → t σ H Q) : PT X e t2 := ⟨fun pins s σ H Q I q => h.run pins s σ H Q I (i σ H Q q)⟩
theorem pw_imp {X : Cx} {e : Expr} {t t2 : TT} (h : PW X e t) (i : ∀ σ H Q, t2 σ H Q → t σ H Q) : PW X e t2 := ⟨fun wh pins s σ H Q I q => h.run wh pins s σ H Q I (i σ H Q q)⟩
theorem pa_imp {X : Cx} {es : List Expr} {t t2 : TA} (h : PA X es t) (i : ∀ σ H Q, t2 σ H Q → t σ H Q) : PA X es t2 := ⟨fun pos pins s σ H Q I q => h.run pos pins s σ H Q I (i σ H Q q)⟩
theorem ps_imp {X : Cx} {st : Stmt} {t t2 : TS} (h : PS X st t) (i : ∀ D σ H, t2 D σ H → t D σ H) : PS X st t2 := ⟨fun pins s σ H D I q => h.run pins s σ H D I (i D σ H q)⟩
theorem pss_imp {X : Cx} {st : List Stmt} {t t2 : TS} (h : PSs X st t) (i : ∀ D σ H, t2 D σ H → t D σ H) : PSs X st t2 := ⟨fun pins s σ H D I q => h.run pins s σ H D I (i D σ H q)⟩

/-! ### names and constants -/
def varE (i : Nat) : Gm → EO := fun G => match G[i]? with
  | some (some (.dat d)) => .ok d .frz
  | some (some (.own ds)) => .ok (.list ds) (.own i)
  | _ => .stuck
def cE (d : PyData) : Gm → EO := fun _ => .ok d .frz
section
variable {X : Cx} {ct : Nat → Addr} {W : WX}
theorem tVar_of {K : PySem.W.Frag} {i : Nat} {σ : St} {H : Hp} {Q : VK} (h : tM K ct W (varE i) σ H Q) : tVar i σ H Q := by
  obtain ⟨F0, H0, F, G, r, p⟩ := h
  unfold varE at p
  have x := Ext.refl r.fh
  split at p
  · rename_i d e
    obtain ⟨v, h1, h2⟩ := r.slot i _ e
    exact ⟨v, h1, p v F H x h2⟩
  · rename_i ds e
    obtain ⟨v, h1, q, vs, e1, _, hf, hp, ha⟩ := r.slot i _ e
    exact ⟨v, h1, p v F H x ⟨h1, q, vs, ds, e1, rfl, hf, hp, ha⟩⟩
  · exact p.elim
theorem ee_var (i : Nat) {x : Str} {pos : Pos} (hN : X.N[i]? = some x := by rfl) (hv : Vis X.env.scope x := by first | exact Or.inl rfl | exact Or.inr (Or.inl rfl) | exact Or.inr (Or.inr rfl)) (hd : (x == ("__debug__" : Str)) = false := by decide)
    (hcd : (x == ("__classdict__" : Str)) = false := by decide) : EE X ct W (.Name x pos) (varE i) := pe_imp (pe_var hN hv hd hcd) fun _ _ _ h => tVar_of h
theorem tC_of {K : PySem.W.Frag} {v : V} {d : PyData} (hd : ∀ F, Dq K F v d) {σ : St} {H : Hp} {Q : VK} (h : tM K ct W (cE d) σ H Q) : tC v σ H Q := by
  obtain ⟨F0, H0, F, G, r, p⟩ := h
  exact p v F H (Ext.refl r.fh) (hd F)
theorem ee_int {i : Int} {j : Nat} {pos : Pos} : EE X ct W (.Constant (.int i) j pos) (cE (.int i)) := pe_imp pe_int fun _ _ _ h => tC_of (fun _ => .int i) h
theorem ee_bl {b : Bool} {j : Nat} {pos : Pos} : EE X ct W (.Constant (.bool b) j pos) (cE (.bool b)) := pe_imp pe_bl fun _ _ _ h => tC_of (fun _ => .bl b) h
theorem ee_non {j : Nat} {pos : Pos} : EE X ct W (.Constant .none j pos) (cE .none) := pe_imp pe_non fun _ _ _ h => tC_of (fun _ => .non) h
theorem ee_str {x : Str} {j : Nat} {pos : Pos} : EE X ct W (.Constant (.str x) j pos) (cE (.str x)) := pe_imp pe_str fun _ _ _ h => tC_of (fun _ => .str x) h
/-- a module's int or text -/
theorem ee_glI {x : Str} {i : Int} {t : Tok} {pos : Pos} (hm : X.mg x = some (.int i t)) (hg : Gl X x := by rfl) (hd : (x == ("__debug__" : Str)) = false := by decide) : EE X ct W (.Name x pos) (cE (.int i)) :=
  pe_imp (pe_glob hg hm (v := .int i) ⟨t, rfl⟩ hd) fun _ _ _ h => tC_of (fun _ => .int i) h
theorem ee_glS {x y : Str} {t : Tok} {pos : Pos} (hm : X.mg x = some (.str y t)) (hg : Gl X x := by rfl) (hd : (x == ("__debug__" : Str)) = false := by decide) : EE X ct W (.Name x pos) (cE (.str y)) :=
  pe_imp (pe_glob hg hm (v := .str y) ⟨t, rfl⟩ hd) fun _ _ _ h => tC_of (fun _ => .str y) h

/-! ### operators -/
def op2 (g : PyData → PyData → EO) (ma mb : Gm → EO) : Gm → EO := fun G => (ma G).bind fun d _ => (mb G).bind fun e _ => g d e
def op1 (g : PyData → EO) (ma : Gm → EO) : Gm → EO := fun G => (ma G).bind fun d _ => g d
def G2 (K : PySem.W.Frag) (r : R2) (g : PyData → PyData → EO) : Prop := ∀ (ct : Nat → Addr) (W : WX) (σ : St) (F H : Hp) (x y : V) (d e : PyData) (Q : VK), Same F H → VV K F H x d → VV K F H y e → post K ct W σ F H Q (g d e) → r x y H Q
def G1 (K : PySem.W.Frag) (r : V → Hp → VK → Prop) (g : PyData → EO) : Prop := ∀ (ct : Nat → Addr) (W : WX) (σ : St) (F H : Hp) (x : V) (d : PyData) (Q : VK), Same F H → VV K F H x d → post K ct W σ F H Q (g d) → r x H Q
/-- the first part's worth seen, then the rest -/
theorem tM_view {K : PySem.W.Frag} {ma : Gm → EO} {k : Gm → PyData → EO} {σ : St} {H : Hp} {Q : VK} (h : tM K ct W (fun G => (ma G).bind fun d _ => k G d) σ H Q) :
    tM K ct W ma σ H (fun v H1 => ∃ F0 H0 F1 G d, Rep K F0 H0 F1 H1 G σ ∧ VV K F1 H1 v d ∧ post K ct W σ F1 H1 Q (k G d)) := by
  obtain ⟨F0, H0, F, G, rp, p⟩ := h
  refine ⟨F0, H0, F, G, rp, ?_⟩
  have p1 := post_bind p
  revert p1
  cases ma G with
  | ok d w =>
    intro p1 v F1 H1 x1 r1
    obtain ⟨d', w', F1', x1', r1', p2⟩ := p1 v F1 H1 x1 r1
    exact ⟨F0, H0, F1', G, d', rp.ext x1', VV.of x1'.fh r1', p2⟩
  | exc c pl => exact fun p1 => p1
  | stuck => exact fun p1 => p1
theorem tM_mono {K : PySem.W.Frag} {m : Gm → EO} {σ : St} {H : Hp} {Q Q2 : VK} (h : tM K ct W m σ H Q) (q : ∀ v H1, Q v H1 → Q2 v H1) : tM K ct W m σ H Q2 := by
  obtain ⟨F0, H0, F, G, rp, p⟩ := h
  refine ⟨F0, H0, F, G, rp, ?_⟩
  revert p
  cases m G with
  | ok d w => exact fun p v F1 H1 x r => q _ _ (p v F1 H1 x r)
  | exc c pl => exact fun p => p
  | stuck => exact fun p => p
/-- another part in a known place -/
theorem tM_viewAt {K : PySem.W.Frag} {ma : Gm → EO} {k : PyData → EO} {σ : St} {F0 H0 F H : Hp} {G : Gm} {Q : VK} (rp : Rep K F0 H0 F H G σ) (p : post K ct W σ F H Q ((ma G).bind fun d _ => k d)) :
    tM K ct W ma σ H (fun v H1 => ∃ F1 d, Ext F H F1 H1 ∧ VV K F1 H1 v d ∧ post K ct W σ F1 H1 Q (k d)) := by
  refine ⟨F0, H0, F, G, rp, ?_⟩
  have p1 := post_bind p
  revert p1
  cases ma G with
  | ok d w =>
    intro p1 v F1 H1 x1 r1
    obtain ⟨d', w', F1', x1', r1', p2⟩ := p1 v F1 H1 x1 r1
    exact ⟨F1', d', x1', VV.of x1'.fh r1', p2⟩
  | exc c pl => exact fun p1 => p1
  | stuck => exact fun p1 => p1
theorem op2_of {K : PySem.W.Frag} {r : R2} {g : PyData → PyData → EO} {ma mb : Gm → EO} (hg : G2 K r g) {σ : St} {H : Hp} {Q : VK} (h : tM K ct W (op2 g ma mb) σ H Q) : tOp r (tM K ct W ma) (tM K ct W mb) σ H Q := by
  refine tM_mono (tM_view (k := fun G d => (mb G).bind fun e _ => g d e) h) fun v H1 ⟨F0, H0, F1, G, d, rp, vv, p⟩ => ?_
  refine tM_mono (tM_viewAt rp p) fun u H2 ⟨F2, e, x, vu, p2⟩ => ?_
  exact hg ct W σ F2 H2 v u d e Q x.fh (vv.mono x) vu p2
theorem op1_of {K : PySem.W.Frag} {r : V → Hp → VK → Prop} {g : PyData → EO} {ma : Gm → EO} (hg : G1 K r g) {σ : St} {H : Hp} {Q : VK} (h : tM K ct W (op1 g ma) σ H Q) : tUn r (tM K ct W ma) σ H Q :=
  tM_mono (tM_view (k := fun _ d => g d) h) fun v H1 ⟨F0, H0, F1, G, d, rp, vv, p⟩ => hg ct W σ F1 H1 v d Q rp.fh vv p
end
end VL

set_option Elab.async false
set_option linter.all false
set_option maxRecDepth 100000
/-! VB: the value layer: operators, comparisons, tests, displays, arguments, subscripts, slices. -/
namespace VL
open PySem L2
section
variable {X : Cx} {ct : Nat → Addr} {W : WX} {a b c : Expr} {ma mb mc : Gm → EO} {pos : Pos}
/-- the size that lists keep -/
abbrev big : Nat := 1000000
theorem big_line {n : Nat} (h : n ≤ big) : n ≤ sizeLine := Nat.le_trans h (by decide)
theorem ok_frz {K : PySem.W.Frag} {σ : St} {F H : Hp} {Q : VK} {d : PyData} {v : V} (fh : Same F H) (r : Dq K F v d) (p : post K ct W σ F H Q (.ok d .frz)) : Q v H := p v F H (Ext.refl fh) r
theorem ok_newL {K : PySem.W.Frag} {σ : St} {F H : Hp} {Q : VK} {ds : List PyData} {vs : List V} (fh : Same F H) (r : DqAll K F vs ds) (p : post K ct W σ F H Q (.ok (.list ds) .new)) {q : Addr} (hq : H q = none) : Q (.ref q) (upd H q (.lst vs)) :=
  p (.ref q) F _ (Ext.new fh hq) ⟨q, vs, ds, rfl, rfl, hq, fh.free hq, upd_same, r⟩
theorem ok_newT {K : PySem.W.Frag} {σ : St} {F H : Hp} {Q : VK} {ds : List PyData} {vs : List V} (fh : Same F H) (r : DqAll K F vs ds) (p : post K ct W σ F H Q (.ok (.tuple ds) .frz)) {q : Addr} (hq : H q = none) : Q (.ref q) (upd H q (.tup vs)) :=
  p (.ref q) (upd F q (.tup vs)) _ (Ext.newF fh hq) (Dq.tup upd_same (dpAll_mono (same_new (fh.free hq)) _ _ r))
theorem OpR.imp {f : Value → Value → Sem Value} {r r2 : R2} (h : OpR X f r) (i : ∀ x y H Q, r2 x y H Q → r x y H Q) : OpR X f r2 := fun pins s σ H x y v u Q I rx ry q => h pins s σ H x y v u Q I rx ry (i x y H Q q)

/-! ### arithmetic -/
def gAdd : PyData → PyData → EO
  | .int i, .int j => .ok (.int (i + j)) .frz
  | .list xs, .list ys => if xs.length + ys.length ≤ big then .ok (.list (xs ++ ys)) .new else .stuck
  | .tuple xs, .tuple ys => if xs.length + ys.length ≤ big then .ok (.tuple (xs ++ ys)) .frz else .stuck
  | .str x, .str y => if x.length + y.length ≤ big then .ok (.str (x ++ y)) .frz else .stuck
  | _, _ => .stuck
def rAddAll (K : PySem.W.Frag) : R2 := fun x y H Q => ((rI0 fun i j => .int (i + j)) x y H Q ∨ rCat x y H Q) ∨ rCatA K x y H Q ∨ ∃ i j, x = .str i ∧ y = .str j ∧ i.length + j.length ≤ sizeLine ∧ Q (.str (i ++ j)) H
theorem op_addAll : OpR X (binaryOp .Add) (rAddAll X.K) := OpR.or (OpR.or op_add op_cat) (OpR.or op_catA op_add_str)
theorem g_add {K : PySem.W.Frag} : G2 K (rAddAll K) gAdd := by
  intro ct W σ F H x y d e Q fh vx vy p
  unfold gAdd at p
  split at p
  · rename_i i j
    rw [vx.int, vy.int]
    exact .inl (.inl ⟨i, j, rfl, rfl, ok_frz fh (.int _) p⟩)
  · rename_i xs ys
    split at p
    · rename_i hz
      obtain ⟨_, a, vs, rfl, h1, r1⟩ := vx
      obtain ⟨_, b, us, rfl, h2, r2⟩ := vy
      refine .inl (.inr ⟨a, b, vs, us, rfl, rfl, h1, h2, ?_, fun q hq => ok_newL fh (dpAll_app r1 r2) p hq⟩)
      rw [dpAll_len r1, dpAll_len r2]
      exact big_line hz
    · exact p.elim
  · rename_i xs ys
    split at p
    · rename_i hz
      obtain ⟨_, a, vs, rfl, h1, r1⟩ := vx
      obtain ⟨_, b, us, rfl, h2, r2⟩ := vy
      have e1 := dpAll_len r1
      have e2 := dpAll_len r2
      refine .inr (.inl ⟨a, b, vs, us, rfl, rfl, SqT.of (fh _ _ h1), SqT.of (fh _ _ h2), by rw [e1, e2]; exact big_line hz, fun z => ?_, fun _ z => ?_, fun _ _ q hq => ok_newT fh (dpAll_app r1 r2) p hq⟩)
      · subst z
        cases r1
        exact ok_frz fh (.tup h2 r2) p
      · subst z
        cases r2
        rw [List.append_nil] at p
        exact ok_frz fh (.tup h1 r1) p
    · exact p.elim
  · rename_i s t
    split at p
    · rename_i hz
      rw [vx.str, vy.str]
      exact .inr (.inr ⟨s, t, rfl, rfl, big_line hz, ok_frz fh (.str _) p⟩)
    · exact p.elim
  · exact p.elim
theorem ee_add (ha : EE X ct W a ma) (hb : EE X ct W b mb) : EE X ct W (.BinOp a .Add b pos) (op2 gAdd ma mb) := pe_imp (pe_op op_addAll ha hb) fun _ _ _ h => op2_of g_add h
def gInt (g : Int → Int → Option PyData) : PyData → PyData → EO
  | .int i, .int j => match g i j with
    | some d => .ok d .frz
    | none => .stuck
  | _, _ => .stuck
theorem g_int {K : PySem.W.Frag} {C : Int → Int → Prop} {f : Int → Int → V} {g : Int → Int → Option PyData} (h : ∀ i j d, g i j = some d → C i j ∧ ∀ F, Dq K F (f i j) d) : G2 K (rI C f) (gInt g) := by
  intro ct W σ F H x y d e Q fh vx vy p
  unfold gInt at p
  split at p
  · rename_i i j
    split at p
    · rename_i z hz
      rw [vx.int, vy.int]
      exact ⟨i, j, rfl, rfl, (h i j z hz).1, ok_frz fh ((h i j z hz).2 F) p⟩
    · exact p.elim
  · exact p.elim
theorem rI_true {f : Int → Int → V} (x y : V) (H : Hp) (Q : VK) (h : rI (fun _ _ => True) f x y H Q) : rI0 f x y H Q := by
  obtain ⟨i, j, h1, h2, _, q⟩ := h
  exact ⟨i, j, h1, h2, q⟩
def iSub (i j : Int) : Option PyData := some (.int (i - j))
def iFdiv (i j : Int) : Option PyData := if 0 < j ∧ j < 1073741824 then some (.int (i / j)) else none
def iMod (i j : Int) : Option PyData := if 0 < j then some (.int (i % j)) else none
def iPow (i j : Int) : Option PyData := if 0 ≤ j ∧ j ≤ 1000 ∧ i.natAbs ≤ 1000 then some (.int (i ^ j.toNat)) else none
def iLt (i j : Int) : Option PyData := some (.bool (decide (i < j)))
def iLe (i j : Int) : Option PyData := some (.bool (decide (i ≤ j)))
def iGt (i j : Int) : Option PyData := some (.bool (decide (j < i)))
def iGe (i j : Int) : Option PyData := some (.bool (decide (j ≤ i)))
theorem ee_sub (ha : EE X ct W a ma) (hb : EE X ct W b mb) : EE X ct W (.BinOp a .Sub b pos) (op2 (gInt iSub) ma mb) :=
  pe_imp (pe_op (OpR.imp op_sub rI_true) ha hb) fun _ _ _ h => op2_of (g_int fun i j d e => by cases e; exact ⟨trivial, fun _ => .int _⟩) h
theorem ee_fdiv (ha : EE X ct W a ma) (hb : EE X ct W b mb) : EE X ct W (.BinOp a .FloorDiv b pos) (op2 (gInt iFdiv) ma mb) :=
  pe_imp (pe_op op_fdiv ha hb) fun _ _ _ h => op2_of (g_int fun i j d e => by
    unfold iFdiv at e
    split at e
    · rename_i hc
      cases e
      exact ⟨hc, fun _ => .int _⟩
    · cases e) h
theorem ee_mod (ha : EE X ct W a ma) (hb : EE X ct W b mb) : EE X ct W (.BinOp a .Mod b pos) (op2 (gInt iMod) ma mb) :=
  pe_imp (pe_op op_mod ha hb) fun _ _ _ h => op2_of (g_int fun i j d e => by
    unfold iMod at e
    split at e
    · rename_i hc
      cases e
      exact ⟨hc, fun _ => .int _⟩
    · cases e) h
theorem ee_pow (ha : EE X ct W a ma) (hb : EE X ct W b mb) : EE X ct W (.BinOp a .Pow b pos) (op2 (gInt iPow) ma mb) :=
  pe_imp (pe_op op_pow ha hb) fun _ _ _ h => op2_of (g_int fun i j d e => by
    unfold iPow at e
    split at e
    · rename_i hc
      cases e
      exact ⟨⟨hc.1, by omega, by omega⟩, fun _ => .int _⟩
    · cases e) h
/-- * : ints; a list and an int -/
def gMul : PyData → PyData → EO
  | .int i, .int j => if (decide (-(2 ^ 64) < i ∧ i < 2 ^ 64) || decide (-(2 ^ 64) < j ∧ j < 2 ^ 64)) = true then .ok (.int (i * j)) .frz else .stuck
  | .list xs, .int j => if 0 ≤ j ∧ j ≤ 1000 ∧ xs.length * j.toNat ≤ big then .ok (.list (List.replicate j.toNat xs).flatten) .new else .stuck
  | .tuple xs, .int j => if 2 ≤ j ∧ j ≤ 1000 ∧ (xs.isEmpty = false) ∧ xs.length ≤ 1000 then .ok (.tuple (List.replicate j.toNat xs).flatten) .frz else .stuck
  | _, _ => .stuck
theorem dpAll_rep {K : PySem.W.Frag} {H : Hp} {vs : List V} {ds : List PyData} (r : DqAll K H vs ds) : ∀ n : Nat, DqAll K H (List.replicate n vs).flatten (List.replicate n ds).flatten
  | 0 => .nil
  | n + 1 => by
    rw [List.replicate_succ, List.replicate_succ, List.flatten_cons, List.flatten_cons]
    exact dpAll_app r (dpAll_rep r n)
end
end VL

set_option Elab.async false
set_option linter.all false
set_option maxRecDepth 100000
/-! VC: the value layer: *, comparisons, tests, displays, arguments. -/
namespace VL
open PySem L2
section
variable {X : Cx} {ct : Nat → Addr} {W : WX} {a b c : Expr} {ma mb mc : Gm → EO} {pos : Pos}
def rMulAll (K : PySem.W.Frag) : R2 := fun x y H Q => ((rI CMul fun i j => .int (i * j)) x y H Q ∨ rRep x y H Q) ∨ rRepT K x y H Q
theorem op_mulAll : OpR X (binaryOp .Mult) (rMulAll X.K) := OpR.or (OpR.or op_mul op_rep) op_repT
theorem g_mul {K : PySem.W.Frag} : G2 K (rMulAll K) gMul := by
  intro ct W σ F H x y d e Q fh vx vy p
  unfold gMul at p
  split at p
  · rename_i i j
    split at p
    · rename_i hc
      rw [vx.int, vy.int]
      rw [Bool.or_eq_true, decide_eq_true_eq, decide_eq_true_eq] at hc
      exact .inl (.inl ⟨i, j, rfl, rfl, hc, ok_frz fh (.int _) p⟩)
    · exact p.elim
  · rename_i xs j
    split at p
    · rename_i hc
      obtain ⟨_, a, vs, rfl, h1, r1⟩ := vx
      rw [vy.int]
      refine .inl (.inr ⟨a, j, vs, rfl, rfl, h1, by omega, by omega, ?_, fun q hq => ok_newL fh (dpAll_rep r1 _) p hq⟩)
      rw [dpAll_len r1]
      exact big_line hc.2.2
    · exact p.elim
  · rename_i xs j
    split at p
    · rename_i hc
      obtain ⟨_, a, vs, rfl, h1, r1⟩ := vx
      rw [vy.int]
      refine .inr ⟨a, j, vs, rfl, rfl, SqT.of (fh _ _ h1), fun z => ?_, hc.1, hc.2.1, ?_, fun q hq => ok_newT fh (dpAll_rep r1 _) p hq⟩
      · subst z
        cases r1
        exact Bool.noConfusion hc.2.2.1
      · rw [dpAll_len r1]
        exact hc.2.2.2
    · exact p.elim
  · exact p.elim
theorem ee_mul (ha : EE X ct W a ma) (hb : EE X ct W b mb) : EE X ct W (.BinOp a .Mult b pos) (op2 gMul ma mb) := pe_imp (pe_op op_mulAll ha hb) fun _ _ _ h => op2_of g_mul h
theorem ee_neg {i : Int} {j : Nat} {p2 : Pos} : EE X ct W (.UnaryOp .USub (.Constant (.int i) j p2) pos) (cE (.int (-i))) :=
  pe_imp (pe_un un_neg pe_int) fun σ H Q h => ⟨i, rfl, tC_of (v := .int (-i)) (σ := σ) (fun _ => .int _) h⟩

/-! ### comparisons, as values -/
def gEq : PyData → PyData → EO
  | .int i, .int j => .ok (.bool (i == j)) .frz
  | d, e => if (SeqAt.shaped d && SeqAt.shaped e) = true then .ok (.bool (PyData.eqv d e)) .frz else .stuck
def gNe : PyData → PyData → EO
  | .int i, .int j => .ok (.bool (!(i == j))) .frz
  | d, e => if (SeqAt.shaped d && SeqAt.shaped e) = true then .ok (.bool (!PyData.eqv d e)) .frz else .stuck
theorem shaped_int (i : Int) : SeqAt.shaped (.int i) = true := by simp [SeqAt.shaped, PyData.canLay0, PyData.depth]
theorem dq_shaped {K : PySem.W.Frag} {H : Hp} {v : V} {d : PyData} (h : Dq K H v d) (s : SeqAt.shaped d = true) : L2.Dp K H v d := dq_dp d v (SeqAt.canLay_of_shaped s) h
theorem g_eq {K : PySem.W.Frag} : G2 K (rEqD K) gEq := by
  intro ct W σ F H x y d e Q fh vx vy p
  unfold gEq at p
  split at p
  · rename_i i j
    exact ⟨_, _, dq_shaped vx.1 (shaped_int i), dq_shaped vy.1 (shaped_int j), shaped_int i, shaped_int j, ok_frz fh (.bl _) (by rw [PyData.eqv]; exact p)⟩
  · split at p
    · rename_i hc
      rw [Bool.and_eq_true] at hc
      exact ⟨_, _, dq_shaped vx.1 hc.1, dq_shaped vy.1 hc.2, hc.1, hc.2, ok_frz fh (.bl _) p⟩
    · exact p.elim
theorem g_ne {K : PySem.W.Frag} : G2 K (rNeD K) gNe := by
  intro ct W σ F H x y d e Q fh vx vy p
  unfold gNe at p
  split at p
  · rename_i i j
    exact ⟨_, _, dq_shaped vx.1 (shaped_int i), dq_shaped vy.1 (shaped_int j), shaped_int i, shaped_int j, ok_frz fh (.bl _) (by rw [PyData.eqv]; exact p)⟩
  · split at p
    · rename_i hc
      rw [Bool.and_eq_true] at hc
      exact ⟨_, _, dq_shaped vx.1 hc.1, dq_shaped vy.1 hc.2, hc.1, hc.2, ok_frz fh (.bl _) p⟩
    · exact p.elim
/-- in: a list of data -/
def gIn : PyData → PyData → EO
  | d, .list es => if (SeqAt.shaped d && SeqAt.shaped (.list es)) = true then .ok (.bool (es.any fun z => PyData.eqv z d)) .frz else .stuck
  | _, _ => .stuck
def gNotIn : PyData → PyData → EO
  | d, .list es => if (SeqAt.shaped d && SeqAt.shaped (.list es)) = true then .ok (.bool (!es.any fun z => PyData.eqv z d)) .frz else .stuck
  | _, _ => .stuck
theorem g_in {K : PySem.W.Frag} : G2 K (rInD K) gIn := by
  intro ct W σ F H x y d e Q fh vx vy p
  unfold gIn at p
  split at p
  · split at p
    · rename_i hc
      rw [Bool.and_eq_true] at hc
      exact ⟨_, _, dq_shaped vx.1 hc.1, dq_shaped vy.1 hc.2, hc.1, hc.2, ok_frz fh (.bl _) p⟩
    · exact p.elim
  · exact p.elim
theorem g_notIn {K : PySem.W.Frag} : G2 K (rNotInD K) gNotIn := by
  intro ct W σ F H x y d e Q fh vx vy p
  unfold gNotIn at p
  split at p
  · split at p
    · rename_i hc
      rw [Bool.and_eq_true] at hc
      exact ⟨_, _, dq_shaped vx.1 hc.1, dq_shaped vy.1 hc.2, hc.1, hc.2, ok_frz fh (.bl _) p⟩
    · exact p.elim
  · exact p.elim
/-- in: a tuple of flat things; a text -/
def flatD : PyData → Bool
  | .none | .bool _ | .int _ | .str _ => true
  | _ => false
def toV : PyData → V
  | .none => .non
  | .bool b => .bl b
  | .int i => .int i
  | .str x => .str x
  | _ => .non
theorem flat_v {K : PySem.W.Frag} {H : Hp} {v : V} {d : PyData} (h : Dq K H v d) (f : flatD d = true) : v = toV d := by
  cases h <;> first | rfl | cases f
theorem flat_vs {K : PySem.W.Frag} {H : Hp} : ∀ {vs : List V} {ds : List PyData}, DqAll K H vs ds → ds.all flatD = true → vs = ds.map toV
  | _, _, .nil, _ => rfl
  | _, _, .cons h t, f => by
    rw [List.all_cons, Bool.and_eq_true] at f
    rw [flat_v h f.1, flat_vs t f.2]
    rfl
theorem flat_flatV : ∀ d : PyData, flatD d = true → flatV (toV d) = true
  | .none, _ => rfl
  | .bool _, _ => rfl
  | .int _, _ => rfl
  | .str _, _ => rfl
  | .list _, h => nomatch h
  | .tuple _, h => nomatch h
  | .dict _, h => nomatch h
theorem flat_all : ∀ ds : List PyData, ds.all flatD = true → (ds.map toV).all flatV = true
  | [], _ => rfl
  | d :: ds, h => by
    rw [List.all_cons, Bool.and_eq_true] at h
    rw [List.map_cons, List.all_cons, flat_flatV d h.1, flat_all ds h.2]
    rfl
def gInF (neg : Bool) : PyData → PyData → EO
  | d, .tuple es => if (flatD d && es.all flatD) = true then .ok (.bool (if neg = true then !inV (toV d) (es.map toV) else inV (toV d) (es.map toV))) .frz else .stuck
  | _, _ => .stuck
theorem g_inF {K : PySem.W.Frag} {neg : Bool} : G2 K (rIn K neg) (gInF neg) := by
  intro ct W σ F H x y d e Q fh vx vy p
  unfold gInF at p
  split at p
  · split at p
    · rename_i es hc
      rw [Bool.and_eq_true] at hc
      obtain ⟨_, a, vs, rfl, h1, r1⟩ := vy
      rw [flat_v vx.1 hc.1]
      have e1 := flat_vs r1 hc.2
      subst e1
      exact ⟨a, _, rfl, .inr (SqT.of (fh _ _ h1)), flat_flatV _ hc.1, flat_all _ hc.2, ok_frz fh (.bl _) p⟩
    · exact p.elim
  · exact p.elim
def gInS (neg : Bool) : PyData → PyData → EO
  | .str x, .str y => .ok (.bool (if neg = true then !(!(Builtin.Str.occurrences y x 0 y.length 1).isEmpty) else !(Builtin.Str.occurrences y x 0 y.length 1).isEmpty)) .frz
  | _, _ => .stuck
theorem g_inS {K : PySem.W.Frag} : G2 K (fun x y H Q => ∃ i j, x = .str i ∧ y = .str j ∧ Q (.bl (!(Builtin.Str.occurrences j i 0 j.length 1).isEmpty)) H) (gInS false) := by
  intro ct W σ F H x y d e Q fh vx vy p
  unfold gInS at p
  split at p
  · rw [vx.str, vy.str]
    exact ⟨_, _, rfl, rfl, ok_frz fh (.bl _) p⟩
  · exact p.elim
theorem g_notInS {K : PySem.W.Frag} : G2 K (fun x y H Q => ∃ i j, x = .str i ∧ y = .str j ∧ Q (.bl (!(!(Builtin.Str.occurrences j i 0 j.length 1).isEmpty))) H) (gInS true) := by
  intro ct W σ F H x y d e Q fh vx vy p
  unfold gInS at p
  split at p
  · rw [vx.str, vy.str]
    exact ⟨_, _, rfl, rfl, ok_frz fh (.bl _) p⟩
  · exact p.elim
def isNone : PyData → Bool
  | .none => true
  | _ => false
theorem none_iff {K : PySem.W.Frag} {H : Hp} {v : V} {d : PyData} (h : Dq K H v d) : decide (v = .non) = isNone d := by
  cases h <;> first | rfl | exact decide_eq_false (fun z => nomatch z)
def gIs (neg : Bool) : PyData → PyData → EO
  | d, .none => .ok (.bool (if neg = true then !isNone d else isNone d)) .frz
  | _, _ => .stuck
theorem g_is {K : PySem.W.Frag} : G2 K (fun x y H Q => y = .non ∧ Q (.bl (decide (x = .non))) H) (gIs false) := by
  intro ct W σ F H x y d e Q fh vx vy p
  unfold gIs at p
  split at p
  · exact ⟨vy.non, ok_frz fh (.bl _) (by rw [none_iff vx.1]; exact p)⟩
  · exact p.elim
theorem g_isN {K : PySem.W.Frag} : G2 K (fun x y H Q => y = .non ∧ Q (.bl (!decide (x = .non))) H) (gIs true) := by
  intro ct W σ F H x y d e Q fh vx vy p
  unfold gIs at p
  split at p
  · exact ⟨vy.non, ok_frz fh (.bl _) (by rw [none_iff vx.1]; exact p)⟩
  · exact p.elim

/-- a comparison by its operator: the rule and its worth -/
structure Cm (X : Cx) (op : CmpOp) (g : PyData → PyData → EO) : Prop where
  ex : ∃ r, OpR X (compareOp op) r ∧ G2 X.K r g
theorem cm_lt : Cm X .Lt (gInt iLt) := ⟨_, OpR.imp op_lt rI_true, g_int fun i j d e => by cases e; exact ⟨trivial, fun _ => .bl _⟩⟩
theorem cm_le : Cm X .LtE (gInt iLe) := ⟨_, OpR.imp op_le rI_true, g_int fun i j d e => by cases e; exact ⟨trivial, fun _ => .bl _⟩⟩
theorem cm_gt : Cm X .Gt (gInt iGt) := ⟨_, OpR.imp op_gt rI_true, g_int fun i j d e => by cases e; exact ⟨trivial, fun _ => .bl _⟩⟩
theorem cm_ge : Cm X .GtE (gInt iGe) := ⟨_, OpR.imp op_ge rI_true, g_int fun i j d e => by cases e; exact ⟨trivial, fun _ => .bl _⟩⟩
theorem cm_eq {k : Nat} (hr : Room k X.A) : Cm X .Eq gEq := ⟨_, op_eqD hr.units, g_eq⟩
theorem cm_ne {k : Nat} (hr : Room k X.A) : Cm X .NotEq gNe := ⟨_, op_neD hr.units, g_ne⟩
theorem cm_in {k : Nat} (hr : Room k X.A) : Cm X .In gIn := ⟨_, op_inD (by have := hr.un; omega), g_in⟩
theorem cm_nin {k : Nat} (hr : Room k X.A) : Cm X .NotIn gNotIn := ⟨_, op_notInD (by have := hr.un; omega), g_notIn⟩
theorem cm_inF : Cm X .In (gInF false) := ⟨_, op_in_seq, g_inF⟩
theorem cm_ninF : Cm X .NotIn (gInF true) := ⟨_, op_notIn_seq, g_inF⟩
theorem cm_inS : Cm X .In (gInS false) := ⟨_, op_in_str, g_inS⟩
theorem cm_ninS : Cm X .NotIn (gInS true) := ⟨_, op_notin_str, g_notInS⟩
theorem cm_is : Cm X .Is (gIs false) := ⟨_, op_isN, g_is⟩
theorem cm_isn : Cm X .IsNot (gIs true) := ⟨_, op_notN, g_isN⟩
theorem ee_cmp {op : CmpOp} {g : PyData → PyData → EO} (hc : Cm X op g) (ha : EE X ct W a ma) (hb : EE X ct W b mb) (hm : behindInMarks op b = false := by first | exact nomark _ | rfl | with_unfolding_all rfl) : EE X ct W (.Compare a [op] [b] pos) (op2 g ma mb) := by
  obtain ⟨r, h1, h2⟩ := hc.ex
  exact pe_imp (pe_cmpR h1 ha hb hm) fun _ _ _ h => op2_of h2 h
end
end VL

set_option Elab.async false
set_option linter.all false
set_option maxRecDepth 100000
/-! VD: the value layer: chains, tests, displays, arguments, subscripts, slices. -/
namespace VL
open PySem L2
section
variable {X : Cx} {ct : Nat → Addr} {W : WX} {a b c : Expr} {ma mb mc : Gm → EO} {pos : Pos}
theorem post_mono {K : PySem.W.Frag} {σ : St} {F H : Hp} {Q Q2 : VK} {o : EO} (h : post K ct W σ F H Q o) (q : ∀ v H1, Q v H1 → Q2 v H1) : post K ct W σ F H Q2 o := by
  cases o with
  | ok d w => exact fun v F1 H1 x r => q _ _ (h v F1 H1 x r)
  | exc c pl => exact h
  | stuck => exact h
theorem postB_mono {K : PySem.W.Frag} {σ : St} {F H : Hp} {Q Q2 : Bool → Hp → Prop} {o : BO} (h : postB K ct W σ F H Q o) (q : ∀ v H1, Q v H1 → Q2 v H1) : postB K ct W σ F H Q2 o := by
  cases o with
  | ok b => exact fun F1 H1 x => q _ _ (h F1 H1 x)
  | exc c pl => exact h
  | stuck => exact h
theorem postA_mono {K : PySem.W.Frag} {σ : St} {F H : Hp} {Q Q2 : List V → Hp → Prop} {o : AO} (h : postA K ct W σ F H Q o) (q : ∀ v H1, Q v H1 → Q2 v H1) : postA K ct W σ F H Q2 o := by
  cases o with
  | ok ds => exact fun vs F1 H1 x r => q _ _ (h vs F1 H1 x r)
  | exc c pl => exact h
  | stuck => exact h

/-! ### a < b < c -/
def chainE (g g2 : PyData → PyData → EO) (ma mb mc : Gm → EO) : Gm → EO := fun G => (ma G).bind fun d _ => (mb G).bind fun e _ => (g d e).bind fun z _ => match z with
  | .bool true => (mc G).bind fun f _ => g2 e f
  | .bool false => .ok (.bool false) .frz
  | _ => .stuck
theorem chain_of {K : PySem.W.Frag} {r r2 : R2} {g g2 : PyData → PyData → EO} (h1 : G2 K r g) (h2 : G2 K r2 g2) {σ : St} {H : Hp} {Q : VK} (h : tM K ct W (chainE g g2 ma mb mc) σ H Q) : tChain r r2 (tM K ct W ma) (tM K ct W mb) (tM K ct W mc) σ H Q := by
  refine tM_mono (tM_view (k := fun G d => (mb G).bind fun e _ => (g d e).bind fun z _ => match z with
    | .bool true => (mc G).bind fun f _ => g2 e f
    | .bool false => .ok (.bool false) .frz
    | _ => .stuck) h) fun v H1 ⟨F0, H0, F1, G, d, rp, vv, p⟩ => ?_
  refine tM_mono (tM_viewAt rp p) fun u H2 ⟨F2, e, x, vu, p2⟩ => ?_
  refine h1 ct W σ F2 H2 v u d e _ x.fh (vv.mono x) vu ?_
  refine post_mono (post_bind p2) fun z H3 ⟨dz, w, F3, x3, rz, p3⟩ => ?_
  have vz := VV.of x3.fh rz
  split at p3
  · refine ⟨true, vz.bl, iteT ?_⟩
    refine tM_mono (tM_viewAt ((rp.ext x).ext x3) p3) fun t H4 ⟨F4, f, x4, vt, p4⟩ => ?_
    exact h2 ct W σ F4 H4 u t e f Q x4.fh ((vu.mono x3).mono x4) vt p4
  · exact ⟨false, vz.bl, iteF (ok_frz x3.fh (.bl _) p3)⟩
  · exact p3.elim
theorem ee_chain {op op2 : CmpOp} {g g2 : PyData → PyData → EO} (h1 : Cm X op g) (h2 : Cm X op2 g2) (ha : EE X ct W a ma) (hb : EE X ct W b mb) (hc : EE X ct W c mc)
    (hm : lastMarks [op, op2] [b, c] = false := by with_unfolding_all rfl) : EE X ct W (.Compare a [op, op2] [b, c] pos) (chainE g g2 ma mb mc) := by
  obtain ⟨r, o1, k1⟩ := h1.ex
  obtain ⟨r2, o2, k2⟩ := h2.ex
  exact pe_imp (pe_chain o1 o2 ha hb hc hm) fun _ _ _ h => chain_of k1 k2 h

/-! ### tests -/
def truthD : PyData → Option Bool
  | .none => some false
  | .bool b => some b
  | .int i => some (i != 0)
  | .str x => if x.length ≤ big then some ((x.length : Int) != 0) else none
  | .list ds => some (!ds.isEmpty)
  | .tuple ds => some (!ds.isEmpty)
  | .dict _ => none
def truthB (m : Gm → EO) : Gm → BO := fun G => (m G).bindB fun d _ => match truthD d with
  | some b => .ok b
  | none => .stuck
def boolB (m : Gm → EO) : Gm → BO := fun G => (m G).bindB fun d _ => match d with
  | .bool b => .ok b
  | _ => .stuck
theorem dpAll_empty {K : PySem.W.Frag} {H : Hp} {vs : List V} {ds : List PyData} (r : DqAll K H vs ds) : (!ds.isEmpty) = !vs.isEmpty := by cases r <;> rfl
theorem tru_of {K : PySem.W.Frag} {F H : Hp} {v : V} {d : PyData} {k : Bool} (fh : Same F H) (h : VV K F H v d) (e : truthD d = some k) : TruV K v H k := by
  cases d with
  | none => cases e; rw [h.non]; rfl
  | bool b => cases e; rw [h.bl]; rfl
  | int i => cases e; rw [h.int]; rfl
  | str x =>
    have e2 : (if x.length ≤ big then some ((x.length : Int) != 0) else none) = some k := e
    split at e2
    · rename_i hz
      cases e2
      rw [h.str]
      exact ⟨big_line hz, rfl⟩
    · cases e2
  | list ds =>
    cases e
    obtain ⟨_, a, vs, rfl, h1, r⟩ := h
    exact .inl ⟨vs, SqL.of h1, dpAll_empty r⟩
  | tuple ds =>
    cases e
    obtain ⟨_, a, vs, rfl, h1, r⟩ := h
    exact .inr (.inl ⟨vs, SqT.of (fh _ _ h1), dpAll_empty r⟩)
  | dict kvs => cases e
theorem tMB_view {K : PySem.W.Frag} {k : PyData → BO} {σ : St} {H : Hp} {Q : Bool → Hp → Prop} (h : tMB K ct W (fun G => (ma G).bindB fun d _ => k d) σ H Q) :
    tM K ct W ma σ H (fun v H1 => ∃ F1 d, Same F1 H1 ∧ VV K F1 H1 v d ∧ postB K ct W σ F1 H1 Q (k d)) := by
  obtain ⟨F0, H0, F, G, rp, p⟩ := h
  exact ⟨F0, H0, F, G, rp, post_mono (post_bindB p) fun v H1 ⟨d, w, F1, x, r, p2⟩ => ⟨F1, d, x.fh, VV.of x.fh r, p2⟩⟩
theorem truth_of {K : PySem.W.Frag} {σ : St} {H : Hp} {Q : Bool → Hp → Prop} (h : tMB K ct W (truthB ma) σ H Q) : tM K ct W ma σ H (fun x H1 => ∃ k, TruV K x H1 k ∧ Q k H1) := by
  refine tM_mono (tMB_view (k := fun d => match truthD d with
    | some b => .ok b
    | none => .stuck) h) fun v H1 ⟨F1, d, fh, vv, p⟩ => ?_
  split at p
  · rename_i k e
    exact ⟨k, tru_of fh vv e, p F1 H1 (Ext.refl fh)⟩
  · exact p.elim
theorem bool_of {K : PySem.W.Frag} {σ : St} {H : Hp} {Q : Bool → Hp → Prop} (h : tMB K ct W (boolB ma) σ H Q) : tM K ct W ma σ H (fun x H1 => ∃ k, x = .bl k ∧ Q k H1) := by
  refine tM_mono (tMB_view (k := fun d => match d with
    | .bool b => .ok b
    | _ => .stuck) h) fun v H1 ⟨F1, d, fh, vv, p⟩ => ?_
  split at p
  · rename_i k
    exact ⟨k, vv.bl, p F1 H1 (Ext.refl fh)⟩
  · exact p.elim
theorem eb_truth (ha : EE X ct W a ma) (he : ∀ whole, isTrue a X.env whole = (do let v ← whole; standAt a.pos; holding [v] (truthy v)) := by intro _; rfl) : EB X ct W a (truthB ma) := pt_imp (pt_truth ha he) fun _ _ _ h => truth_of h
theorem eb_cmp {op : CmpOp} {g : PyData → PyData → EO} (hc : Cm X op g) (ha : EE X ct W a ma) (hb : EE X ct W b mb) (hm : behindInMarks op b = false := by first | exact nomark _ | rfl | with_unfolding_all rfl) : EB X ct W (.Compare a [op] [b] pos) (boolB (op2 g ma mb)) := by
  obtain ⟨r, h1, h2⟩ := hc.ex
  exact pt_imp (pt_cmpR h1 ha hb hm) fun _ _ _ h => op2_of h2 (bool_of h)
theorem eb_chain {op op2 : CmpOp} {g g2 : PyData → PyData → EO} (h1 : Cm X op g) (h2 : Cm X op2 g2) (ha : EE X ct W a ma) (hb : EE X ct W b mb) (hc : EE X ct W c mc)
    (hm : lastMarks [op, op2] [b, c] = false := by with_unfolding_all rfl) : EB X ct W (.Compare a [op, op2] [b, c] pos) (boolB (chainE g g2 ma mb mc)) := by
  obtain ⟨r, o1, k1⟩ := h1.ex
  obtain ⟨r2, o2, k2⟩ := h2.ex
  exact pt_imp (pt_chain o1 o2 ha hb hc hm) fun _ _ _ h => chain_of k1 k2 (bool_of h)
def andB (x y : Gm → BO) : Gm → BO := fun G => (x G).bind fun k => if k = true then y G else .ok false
def orB (x y : Gm → BO) : Gm → BO := fun G => (x G).bind fun k => if k = true then .ok true else y G
def notB (x : Gm → BO) : Gm → BO := fun G => (x G).bind fun k => .ok (!k)
abbrev EW (X : Cx) (ct : Nat → Addr) (W : WX) (e : Expr) (m : Gm → BO) : Prop := PW X e (tMB X.K ct W m)
variable {ta tb : Gm → BO} {rest : List Expr}
theorem tMB_bind {K : PySem.W.Frag} {k : Gm → Bool → BO} {σ : St} {H : Hp} {Q : Bool → Hp → Prop} (h : tMB K ct W (fun G => (ta G).bind (k G)) σ H Q) :
    tMB K ct W ta σ H (fun b H1 => ∃ F0 H0 F1 G, Rep K F0 H0 F1 H1 G σ ∧ postB K ct W σ F1 H1 Q (k G b)) := by
  obtain ⟨F0, H0, F, G, rp, p⟩ := h
  exact ⟨F0, H0, F, G, rp, postB_mono (postB_bind p) fun b H1 ⟨F1, x, p2⟩ => ⟨F0, H0, F1, G, rp.ext x, p2⟩⟩
theorem tMB_mono {K : PySem.W.Frag} {σ : St} {H : Hp} {Q Q2 : Bool → Hp → Prop} (h : tMB K ct W ta σ H Q) (q : ∀ b H1, Q b H1 → Q2 b H1) : tMB K ct W ta σ H Q2 := by
  obtain ⟨F0, H0, F, G, rp, p⟩ := h
  exact ⟨F0, H0, F, G, rp, postB_mono p q⟩
theorem ew_and1 (ha : EB X ct W a ta) : EW X ct W (.BoolOp .And [a] pos) ta := pw_and1 ha
theorem ew_or1 (ha : EB X ct W a ta) : EW X ct W (.BoolOp .Or [a] pos) ta := pw_or1 ha
theorem ew_and (ha : EB X ct W a ta) (hb : EW X ct W (.BoolOp .And (b :: rest) pos) tb) : EW X ct W (.BoolOp .And (a :: b :: rest) pos) (andB ta tb) :=
  pw_imp (pw_and ha hb) fun σ H Q h => tMB_mono (tMB_bind h) fun k H1 ⟨F0, H0, F1, G, rp, p⟩ => by
    cases k with
    | true => exact iteT ⟨F0, H0, F1, G, rp, p⟩
    | false => exact iteF (p F1 H1 (Ext.refl rp.fh))
theorem ew_or (ha : EB X ct W a ta) (hb : EW X ct W (.BoolOp .Or (b :: rest) pos) tb) : EW X ct W (.BoolOp .Or (a :: b :: rest) pos) (orB ta tb) :=
  pw_imp (pw_or ha hb) fun σ H Q h => tMB_mono (tMB_bind h) fun k H1 ⟨F0, H0, F1, G, rp, p⟩ => by
    cases k with
    | true => exact iteT (p F1 H1 (Ext.refl rp.fh))
    | false => exact iteF ⟨F0, H0, F1, G, rp, p⟩
theorem eb_w {e : Expr} {m : Gm → BO} (h : EW X ct W e m) : EB X ct W e m := h.pt
theorem eb_not (ha : EB X ct W a ta) : EB X ct W (.UnaryOp .Not a pos) (notB ta) :=
  pt_imp (pt_not ha) fun σ H Q h => tMB_mono (tMB_bind h) fun k H1 ⟨F0, H0, F1, G, rp, p⟩ => p F1 H1 (Ext.refl rp.fh)

/-! ### and, or, not as values; a if t else b -/
def andE (ma mb : Gm → EO) : Gm → EO := fun G => (ma G).bind fun d _ => match d with
  | .bool true => mb G
  | .bool false => .ok (.bool false) .frz
  | _ => .stuck
def orE (ma mb : Gm → EO) : Gm → EO := fun G => (ma G).bind fun d _ => match d with
  | .bool true => .ok (.bool true) .frz
  | .bool false => mb G
  | _ => .stuck
def gNot : PyData → EO
  | .bool k => .ok (.bool (!k)) .frz
  | _ => .stuck
def ifE (t : Gm → BO) (ma mb : Gm → EO) : Gm → EO := fun G => (t G).bindE fun k => if k = true then ma G else mb G
theorem ee_one {op : BoolOp} (ha : EE X ct W a ma) : EE X ct W (.BoolOp op [a] pos) ma := pe_one ha
theorem ee_and (ha : EE X ct W a ma) (hb : EE X ct W (.BoolOp .And (b :: rest) pos) mb) : EE X ct W (.BoolOp .And (a :: b :: rest) pos) (andE ma mb) :=
  pe_imp (pe_and ha hb) fun σ H Q h => by
    refine tM_mono (tM_view (k := fun G d => match d with
      | .bool true => mb G
      | .bool false => .ok (.bool false) .frz
      | _ => .stuck) h) fun v H1 ⟨F0, H0, F1, G, d, rp, vv, p⟩ => ?_
    split at p
    · exact ⟨true, vv.bl, iteT ⟨F0, H0, F1, G, rp, p⟩⟩
    · exact ⟨false, vv.bl, iteF (ok_frz rp.fh (.bl _) p)⟩
    · exact p.elim
theorem ee_or (ha : EE X ct W a ma) (hb : EE X ct W (.BoolOp .Or (b :: rest) pos) mb) : EE X ct W (.BoolOp .Or (a :: b :: rest) pos) (orE ma mb) :=
  pe_imp (pe_or ha hb) fun σ H Q h => by
    refine tM_mono (tM_view (k := fun G d => match d with
      | .bool true => .ok (.bool true) .frz
      | .bool false => mb G
      | _ => .stuck) h) fun v H1 ⟨F0, H0, F1, G, d, rp, vv, p⟩ => ?_
    split at p
    · exact ⟨true, vv.bl, iteT (ok_frz rp.fh (.bl _) p)⟩
    · exact ⟨false, vv.bl, iteF ⟨F0, H0, F1, G, rp, p⟩⟩
    · exact p.elim
theorem ee_not (ha : EE X ct W a ma) : EE X ct W (.UnaryOp .Not a pos) (op1 gNot ma) :=
  pe_imp (pe_not ha) fun σ H Q h => by
    refine tM_mono (tM_view (k := fun _ d => gNot d) h) fun v H1 ⟨F0, H0, F1, G, d, rp, vv, p⟩ => ?_
    unfold gNot at p
    split at p
    · exact ⟨_, vv.bl, ok_frz rp.fh (.bl _) p⟩
    · exact p.elim
theorem ee_if {t : Expr} (ht : EB X ct W t ta) (ha : EE X ct W a ma) (hb : EE X ct W b mb) : EE X ct W (.IfExp t a b pos) (ifE ta ma mb) :=
  pe_imp (pe_ifExp ht ha hb) fun σ H Q ⟨F0, H0, F, G, rp, p⟩ => by
    refine ⟨F0, H0, F, G, rp, postB_mono (postB_bindE p) fun k H1 ⟨F1, x, p2⟩ => ?_⟩
    cases k with
    | true => exact iteT ⟨F0, H0, F1, G, rp.ext x, p2⟩
    | false => exact iteF ⟨F0, H0, F1, G, rp.ext x, p2⟩

/-! ### arguments, displays -/
def nilA : Gm → AO := fun _ => .ok []
def consA (ma : Gm → EO) (mr : Gm → AO) : Gm → AO := fun G => (ma G).hard.bindA fun d _ => (mr G).bind fun ds => .ok (d :: ds)
variable {e : Expr} {es : List Expr} {me : Gm → EO} {ms : Gm → AO}
theorem ea_nil : EA X ct W [] nilA := pa_imp pa_nil fun σ H Q ⟨F0, H0, F, G, rp, p⟩ => p [] F H (Ext.refl rp.fh) .nil
theorem postA_hard {K : PySem.W.Frag} {σ : St} {F H : Hp} {Q : List V → Hp → Prop} {o : EO} {k : PyData → AO} (h : postA K ct W σ F H Q (o.hard.bindA fun d _ => k d)) : post K ct W σ F H (fun v H1 => ∃ d F1, Ext F H F1 H1 ∧ Dq K F1 v d ∧ postA K ct W σ F1 H1 Q (k d)) o := by
  cases o with
  | ok d w =>
    cases w with
    | frz => exact fun v F1 H1 x r => ⟨d, F1, x, r, postA_ext (o := k d) h x⟩
    | new =>
      intro v F1 H1 x r
      obtain ⟨F3, x3, _, r3⟩ := vr_hard x r (fun i e => nomatch e)
      exact ⟨d, F3, x3, r3, postA_ext (o := k d) h x3⟩
    | own i => exact h.elim
  | exc c pl => exact h
  | stuck => exact h
theorem ea_cons (ha : EE X ct W e me) (hr : EA X ct W es ms) (hs : starEach (e :: es) X.env = (false, eval e X.env) :: starEach es X.env := by rfl) : EA X ct W (e :: es) (consA me ms) :=
  pa_imp (pa_cons ha hr hs) fun σ H Q ⟨F0, H0, F, G, rp, p⟩ => by
    refine ⟨F0, H0, F, G, rp, post_mono (postA_hard (k := fun d => (ms G).bind fun ds => .ok (d :: ds)) p) fun v H1 ⟨d, F1, x, r, p2⟩ => ?_⟩
    refine ⟨F0, H0, F1, G, rp.ext x, postA_mono (postA_bind p2) fun vs H2 ⟨ds, F2, x2, r2, p3⟩ => ?_⟩
    exact p3 (v :: vs) F2 H2 (Ext.refl x2.fh) (.cons (dp_mono x2.ff _ _ r) r2)
def tupE (ms : Gm → AO) : Gm → EO := fun G => (ms G).bindE fun ds => if ds.length ≤ big then .ok (.tuple ds) .frz else .stuck
def lstE (ms : Gm → AO) : Gm → EO := fun G => (ms G).bindE fun ds => if ds.length ≤ big then .ok (.list ds) .new else .stuck
theorem ee_tup {x1 : Nat} (h : EA X ct W es ms) : EE X ct W (.Tuple es x1 pos) (tupE ms) :=
  pe_imp (pe_tup h) fun σ H Q ⟨F0, H0, F, G, rp, p⟩ => by
    refine ⟨F0, H0, F, G, rp, postA_mono (postA_bindE p) fun vs H1 ⟨ds, F1, x, r, p2⟩ => ?_⟩
    split at p2
    · rename_i hz
      exact ⟨by rw [dpAll_len r]; exact big_line hz, fun q hq => ok_newT x.fh r p2 hq⟩
    · exact p2.elim
theorem ee_lst (h : EA X ct W es ms) : EE X ct W (.List es pos) (lstE ms) :=
  pe_imp (pe_lst h) fun σ H Q ⟨F0, H0, F, G, rp, p⟩ => by
    refine ⟨F0, H0, F, G, rp, postA_mono (postA_bindE p) fun vs H1 ⟨ds, F1, x, r, p2⟩ => ?_⟩
    split at p2
    · rename_i hz
      exact ⟨by rw [dpAll_len r]; exact big_line hz, fun q hq => ok_newL x.fh r p2 hq⟩
    · exact p2.elim

/-! ### subscripts -/
def gIx : PyData → PyData → EO
  | .list ds, .int i => match atI ds i with
    | some d => .ok d .frz
    | none => .stuck
  | .tuple ds, .int i => match atI ds i with
    | some d => .ok d .frz
    | none => .stuck
  | .str x, .int i => if x.length ≤ big then match atI x.cps.toList i with
    | some c => .ok (.str ⟨#[c]⟩) .frz
    | none => .stuck else .stuck
  | .dict kvs, .int i => match atI kvs i with
    | some d => .ok d.1 .frz
    | none => .stuck
  | _, _ => .stuck
theorem dpAll_at {K : PySem.W.Frag} {H : Hp} {vs : List V} {ds : List PyData} {i : Int} {d : PyData} (r : DqAll K H vs ds) (e : atI ds i = some d) : ∃ v, atI vs i = some v ∧ Dq K H v d := by
  unfold atI at e ⊢
  rw [dpAll_len r]
  cases h : ixN ds.length i with
  | none => rw [h] at e; cases e
  | some j =>
    rw [h] at e
    exact dpAll_get r e
theorem g_ix {K : PySem.W.Frag} : G2 K (rIx K) gIx := by
  intro ct W σ F H x y d e Q fh vx vy p
  unfold gIx at p
  split at p
  · split at p
    · rename_i z hz
      obtain ⟨_, a, vs, rfl, h1, r1⟩ := vx
      obtain ⟨v, hv, rv⟩ := dpAll_at r1 hz
      rw [vy.int]
      exact .inl ⟨a, vs, _, v, rfl, rfl, SqL.of h1, hv, ok_frz fh rv p⟩
    · exact p.elim
  · split at p
    · rename_i z hz
      obtain ⟨_, a, vs, rfl, h1, r1⟩ := vx
      obtain ⟨v, hv, rv⟩ := dpAll_at r1 hz
      rw [vy.int]
      exact .inr (.inl ⟨a, vs, _, v, rfl, rfl, SqT.of (fh _ _ h1), hv, ok_frz fh rv p⟩)
    · exact p.elim
  · split at p
    · rename_i hz
      split at p
      · rename_i z hz2
        rw [vx.str, vy.int]
        exact .inr (.inr ⟨_, _, z, rfl, rfl, big_line hz, hz2, ok_frz fh (.str _) p⟩)
      · exact p.elim
    · exact p.elim
  · rename_i kvs i
    split at p
    · rename_i z hz
      have hd := vx.1
      clear vx
      rw [vy.int]
      cases hd with
      | @scr b ns hs =>
        unfold atI at hz
        rw [List.length_map] at hz
        cases hj : ixN ns.length i with
        | none => rw [hj] at hz; cases hz
        | some j =>
          rw [hj] at hz
          have hz1 : (ns.map fun n => (PyData.int n, PyData.none))[j]? = some z := hz
          rw [List.getElem?_map] at hz1
          cases hn : ns[j]? with
          | none => rw [hn] at hz1; cases hz1
          | some n =>
            rw [hn] at hz1
            cases hz1
            refine .inl ⟨b, _, i, .int n, rfl, rfl, hs, ?_, ok_frz fh (.int n) p⟩
            unfold atI
            rw [List.length_map, hj]
            show (ns.map V.int)[j]? = some (V.int n)
            rw [List.getElem?_map, hn]
            rfl
    · exact p.elim
  · exact p.elim
theorem ee_ix (ha : EE X ct W a ma) (hb : EE X ct W b mb) (hs : PlainIx b := by exact fun _ _ => rfl) : EE X ct W (.Subscript a b pos) (op2 gIx ma mb) := pe_imp (pe_ix ix_seq ha hb hs) fun _ _ _ h => op2_of g_ix h
end
end VL

set_option Elab.async false
set_option linter.all false
set_option maxRecDepth 100000
/-! VE: the value layer: slots, statements. -/
namespace VL
open PySem L2
section
variable {K : PySem.W.Frag} {F0 H0 F H : Hp} {G : Gm} {σ : St}
theorem get_set {α : Type} {l : List (Option α)} {i j : Nat} {x : Option α} {s : α} (h : (l.set i x)[j]? = some (some s)) : (i = j ∧ x = some s ∧ i < l.length) ∨ (i ≠ j ∧ l[j]? = some (some s)) := by
  by_cases e : i = j
  · subst e
    by_cases hl : i < l.length
    · rw [List.getElem?_set_self hl] at h
      exact .inl ⟨rfl, Option.some.inj h, hl⟩
    · rw [List.getElem?_eq_none (by simpa using hl)] at h
      cases h
  · rw [List.getElem?_set_ne e] at h
    exact .inr ⟨e, h⟩
theorem own_set {i j : Nat} {x : Option Sl} (h : isOwn (G.set i x)[j]? = true) : (i = j ∧ isOwn (some x) = true) ∨ (i ≠ j ∧ isOwn G[j]? = true) := by
  by_cases e : i = j
  · subst e
    by_cases hl : i < G.length
    · rw [List.getElem?_set_self hl] at h
      exact .inl ⟨rfl, h⟩
    · rw [List.getElem?_eq_none (by simpa using hl)] at h
      cases h
  · rw [List.getElem?_set_ne e] at h
    exact .inr ⟨e, h⟩
theorem set_ne {i j : Nat} {x : Option V} {v : V} (e : i ≠ j) (h : (σ.set i x)[j]? = some (some v)) : σ[j]? = some (some v) := by
  rw [List.getElem?_set_ne e] at h
  exact h
theorem set_eq {i : Nat} {x v : V} (h : (σ.set i (some x))[i]? = some (some v)) : x = v := by
  by_cases hl : i < σ.length
  · rw [List.getElem?_set_self hl] at h
    exact Option.some.inj (Option.some.inj h)
  · rw [List.getElem?_eq_none (by simpa using hl)] at h
    cases h
theorem Rep.dat {v : V} {d : PyData} (r : Rep K F0 H0 F H G σ) (i : Nat) (h : Dq K F v d) : Rep K F0 H0 F H (G.set i (some (.dat d))) (σ.set i (some v)) where
  fh := r.fh
  hh := r.hh
  ff := r.ff
  ap := r.ap
  len := by rw [List.length_set, List.length_set]; exact r.len
  slot := fun j s e => by
    rcases get_set e with ⟨rfl, e2, hl⟩ | ⟨ne, e2⟩
    · cases e2
      exact ⟨v, List.getElem?_set_self (by rw [← r.len]; exact hl), h⟩
    · obtain ⟨u, h1, h2⟩ := r.slot j s e2
      exact ⟨u, by rw [List.getElem?_set_ne ne]; exact h1, h2⟩
  dist := fun j k u ne h1 h2 e1 e2 => by
    rcases own_set h1 with ⟨_, z⟩ | ⟨n1, o1⟩
    · cases z
    · rcases own_set h2 with ⟨_, z⟩ | ⟨n2, o2⟩
      · cases z
      · exact r.dist j k u ne o1 o2 (set_ne n1 e1) (set_ne n2 e2)
theorem Rep.forget (r : Rep K F0 H0 F H G σ) (i : Nat) (x : Option V) : Rep K F0 H0 F H (G.set i none) (σ.set i x) where
  fh := r.fh
  hh := r.hh
  ff := r.ff
  ap := r.ap
  len := by rw [List.length_set, List.length_set]; exact r.len
  slot := fun j s e => by
    rcases get_set e with ⟨_, e2, _⟩ | ⟨ne, e2⟩
    · cases e2
    · obtain ⟨u, h1, h2⟩ := r.slot j s e2
      exact ⟨u, by rw [List.getElem?_set_ne ne]; exact h1, h2⟩
  dist := fun j k u ne h1 h2 e1 e2 => by
    rcases own_set h1 with ⟨_, z⟩ | ⟨n1, o1⟩
    · cases z
    · rcases own_set h2 with ⟨_, z⟩ | ⟨n2, o2⟩
      · cases z
      · exact r.dist j k u ne o1 o2 (set_ne n1 e1) (set_ne n2 e2)
theorem isOwn_ex {i : Nat} (h : isOwn G[i]? = true) : ∃ ds, G[i]? = some (some (.own ds)) := by
  revert h
  cases e : G[i]? with
  | none => exact fun h => nomatch h
  | some o =>
    cases o with
    | none => exact fun h => nomatch h
    | some s =>
      cases s with
      | dat d => exact fun h => nomatch h
      | own ds => exact fun _ => ⟨ds, rfl⟩
theorem Rep.own {p : Addr} {vs : List V} {ds : List PyData} (r : Rep K F0 H0 F H G σ) (i : Nat) (h0 : H0 p = none) (hf : F p = none) (hp : H p = some (.lst vs)) (ha : DqAll K F vs ds)
    (new : ∀ (j : Nat), isOwn G[j]? = true → σ[j]? = some (some (V.ref p)) → False) : Rep K F0 H0 F H (G.set i (some (.own ds))) (σ.set i (some (.ref p))) where
  fh := r.fh
  hh := r.hh
  ff := r.ff
  ap := r.ap
  len := by rw [List.length_set, List.length_set]; exact r.len
  slot := fun j s e => by
    rcases get_set e with ⟨rfl, e2, hl⟩ | ⟨ne, e2⟩
    · cases e2
      exact ⟨_, List.getElem?_set_self (by rw [← r.len]; exact hl), p, vs, rfl, h0, hf, hp, ha⟩
    · obtain ⟨u, h1, h2⟩ := r.slot j s e2
      exact ⟨u, by rw [List.getElem?_set_ne ne]; exact h1, h2⟩
  dist := fun j k u ne h1 h2 e1 e2 => by
    rcases own_set h1 with ⟨rfl, _⟩ | ⟨n1, o1⟩
    · rcases own_set h2 with ⟨rfl, _⟩ | ⟨n2, o2⟩
      · exact ne rfl
      · have := set_eq e1
        subst this
        exact new k o2 (set_ne n2 e2)
    · rcases own_set h2 with ⟨rfl, _⟩ | ⟨n2, o2⟩
      · have := set_eq e2
        subst this
        exact new j o1 (set_ne n1 e1)
      · exact r.dist j k u ne o1 o2 (set_ne n1 e1) (set_ne n2 e2)
/-- a slot's own list is frozen -/
theorem Rep.freeze {i : Nat} {ds : List PyData} (r : Rep K F0 H0 F H G σ) (e : G[i]? = some (some (.own ds))) :
    ∃ p vs, σ[i]? = some (some (.ref p)) ∧ F p = none ∧ H0 p = none ∧ H p = some (.lst vs) ∧ DqAll K F vs ds ∧ Rep K F0 H0 (upd F p (.lst vs)) H (G.set i (some (.dat (.list ds)))) σ := by
  obtain ⟨v, hv, p, vs, rfl, h0, hf, hp, ha⟩ := r.slot i _ e
  have sF : Same F (upd F p (.lst vs)) := same_new hf
  refine ⟨p, vs, hv, hf, h0, hp, ha, fun a o q => ?_, r.hh, r.ff.trans sF, fun a o q1 q2 => ?_, by rw [List.length_set]; exact r.len, fun j s q => ?_, fun j k u ne h1 h2 e1 e2 => ?_⟩
  · by_cases z : a = p
    · subst z
      rw [upd_same] at q
      exact hp.trans q
    · rw [upd_ne z] at q
      exact r.fh a o q
  · rw [upd_ne (ne_of_none q1 h0)]
    exact r.ap a o q1 q2
  · rcases get_set q with ⟨rfl, e2, hl⟩ | ⟨ne, e2⟩
    · cases e2
      exact ⟨_, hv, .lst upd_same (dpAll_mono sF _ _ ha)⟩
    · obtain ⟨u, h1, h2⟩ := r.slot j s e2
      refine ⟨u, h1, ?_⟩
      cases s with
      | dat d => exact dp_mono sF _ _ h2
      | own es =>
        obtain ⟨q2, us, rfl, k0, kf, kp, ka⟩ := h2
        refine ⟨q2, us, rfl, k0, ?_, kp, dpAll_mono sF _ _ ka⟩
        have nq : q2 ≠ p := fun z => by
          subst z
          exact r.dist i j _ ne (by rw [e]; rfl) (by rw [e2]; rfl) hv h1
        rw [upd_ne nq]
        exact kf
  · rcases own_set h1 with ⟨_, z⟩ | ⟨n1, o1⟩
    · cases z
    · rcases own_set h2 with ⟨_, z⟩ | ⟨n2, o2⟩
      · cases z
      · exact r.dist j k u ne o1 o2 e1 e2
/-- a slot's own list is changed -/
theorem Rep.mut {i : Nat} {p : Addr} {ds es : List PyData} {us : List V} (r : Rep K F0 H0 F H G σ) (e : G[i]? = some (some (.own ds))) (hv : σ[i]? = some (some (.ref p))) (ha : DqAll K F us es) :
    Rep K F0 H0 F (upd H p (.lst us)) (G.set i (some (.own es))) σ := by
  obtain ⟨v, hv2, q, vs, rfl, h0, hf, hp, _⟩ := r.slot i _ e
  rw [hv] at hv2
  cases hv2
  refine ⟨fun a o q => ?_, fun a o q => ?_, r.ff, r.ap, by rw [List.length_set]; exact r.len, fun j s q => ?_, fun j k u ne h1 h2 e1 e2 => ?_⟩
  · rw [upd_ne (ne_of_none q hf)]
    exact r.fh a o q
  · rw [upd_ne (ne_of_none q h0)]
    exact r.hh a o q
  · rcases get_set q with ⟨rfl, e2, hl⟩ | ⟨ne, e2⟩
    · cases e2
      exact ⟨_, hv, p, us, rfl, h0, hf, upd_same, ha⟩
    · obtain ⟨u, h1, h2⟩ := r.slot j s e2
      refine ⟨u, h1, ?_⟩
      cases s with
      | dat d => exact h2
      | own es2 =>
        obtain ⟨q2, us2, rfl, k0, kf, kp, ka⟩ := h2
        refine ⟨q2, us2, rfl, k0, kf, ?_, ka⟩
        have nq : q2 ≠ p := fun z => by
          subst z
          exact r.dist i j _ ne (by rw [e]; rfl) (by rw [e2]; rfl) hv h1
        rw [upd_ne nq]
        exact kp
  · have o1 : isOwn G[j]? = true := by
      rcases own_set h1 with ⟨rfl, _⟩ | ⟨_, o⟩
      · rw [e]; rfl
      · exact o
    have o2 : isOwn G[k]? = true := by
      rcases own_set h2 with ⟨rfl, _⟩ | ⟨_, o⟩
      · rw [e]; rfl
      · exact o
    exact r.dist j k u ne o1 o2 e1 e2
end

section
variable {X : Cx} {ct : Nat → Addr} {W : WX} {a b c e : Expr} {ma mb mc me : Gm → EO} {pos : Pos}
theorem postS_same {K : PySem.W.Frag} {F0 H0 F F2 : Hp} {D : Ends} {o : SO} (h : postS K ct W F0 H0 D F o) (s : Same F F2) : postS K ct W F0 H0 D F2 o := by
  cases o with
  | next G => exact fun σ2 F3 H3 s3 r => h σ2 F3 H3 (s.trans s3) r
  | brk G => exact fun σ2 F3 H3 s3 r => h σ2 F3 H3 (s.trans s3) r
  | cont G => exact fun σ2 F3 H3 s3 r => h σ2 F3 H3 (s.trans s3) r
  | ret d => exact h
  | exc c pl G => exact fun cls dd σ2 F3 H3 s3 r => h cls dd σ2 F3 H3 (s.trans s3) r
  | stuck => exact h
/-! ### blocks -/
def nilS : Gm → SO := fun G => .next G
def seqS (m1 m2 : Gm → SO) : Gm → SO := fun G => match m1 G with
  | .next G1 => m2 G1
  | r => r
variable {st : Stmt} {sts : List Stmt} {m1 m2 : Gm → SO}
theorem ess_nil : ESs X ct W [] nilS := pss_imp pss_nil fun D σ H ⟨F0, H0, F, G, r, p⟩ => p σ F H (Same.refl F) r
theorem ess_cons (h1 : ES X ct W st m1) (h2 : ESs X ct W sts m2) : ESs X ct W (st :: sts) (seqS m1 m2) :=
  pss_imp (pss_cons h1 h2) fun D σ H ⟨F0, H0, F, G, r, p⟩ => by
    refine ⟨F0, H0, F, G, r, ?_⟩
    unfold seqS at p
    revert p
    cases m1 G with
    | next G1 => exact fun p σ2 F2 H2 s r2 => ⟨F0, H0, F2, G1, r2, postS_same p s⟩
    | ret d => exact fun p => p
    | brk G1 => exact fun p => p
    | cont G1 => exact fun p => p
    | exc c pl G1 => exact fun p => p
    | stuck => exact fun p => p
theorem ess_one (h1 : ES X ct W st m1) : ESs X ct W [st] m1 := pss_one h1
theorem es_pass : ES X ct W (.Pass pos) nilS := ps_imp ps_pass fun D σ H ⟨F0, H0, F, G, r, p⟩ => p σ F H (Same.refl F) r
def stuckS : Gm → SO := fun _ => .stuck
/-- what is never come to -/
theorem ess_never : ESs X ct W sts stuckS := pss_imp pss_never fun D σ H ⟨F0, H0, F, G, r, p⟩ => p
theorem es_never : ES X ct W st stuckS := ps_imp ps_never fun D σ H ⟨F0, H0, F, G, r, p⟩ => p
/-! ### from an expression -/
theorem post_S {K : PySem.W.Frag} {F0 H0 F H : Hp} {G : Gm} {σ : St} {D : Ends} {o : EO} {k : PyData → Wh → SO} (r : Rep K F0 H0 F H G σ) (p : postS K ct W F0 H0 D F (o.bindS G k)) :
    post K ct W σ F H (fun v H1 => ∃ d w F1, Ext F H F1 H1 ∧ VR K H F1 H1 σ v d w ∧ Rep K F0 H0 F1 H1 G σ ∧ postS K ct W F0 H0 D F1 (k d w)) o := by
  cases o with
  | ok d w => exact fun v F1 H1 x q => ⟨d, w, F1, x, q, r.ext x, postS_same (o := k d w) p x.ff⟩
  | exc c pl => exact fun cls dd F1 H1 x q => p cls dd σ F1 H1 x.ff (r.ext x) q
  | stuck => exact p
theorem postB_S {K : PySem.W.Frag} {F0 H0 F H : Hp} {G : Gm} {σ : St} {D : Ends} {o : BO} {k : Bool → SO} (r : Rep K F0 H0 F H G σ) (p : postS K ct W F0 H0 D F (o.bindS G k)) :
    postB K ct W σ F H (fun b H1 => ∃ F1, Ext F H F1 H1 ∧ Rep K F0 H0 F1 H1 G σ ∧ postS K ct W F0 H0 D F1 (k b)) o := by
  cases o with
  | ok b => exact fun F1 H1 x => ⟨F1, x, r.ext x, postS_same (o := k b) p x.ff⟩
  | exc c pl => exact fun cls dd F1 H1 x q => p cls dd σ F1 H1 x.ff (r.ext x) q
  | stuck => exact p
/-- what is worth d is made frozen, if it is not an own list: then the slot is -/
def takeS (G : Gm) (d : PyData) (w : Wh) (k : Gm → PyData → SO) : SO := match w with
  | .own j => match G[j]? with
    | some (some (.own ds)) => k (G.set j (some (.dat (.list ds)))) (.list ds)
    | _ => .stuck
  | _ => k G d
theorem take_of {K : PySem.W.Frag} {F0 H0 F H F1 H1 : Hp} {G : Gm} {σ : St} {D : Ends} {v : V} {d : PyData} {w : Wh} {k : Gm → PyData → SO} (r : Rep K F0 H0 F H G σ) (x : Ext F H F1 H1) (q : VR K H F1 H1 σ v d w) (p : postS K ct W F0 H0 D F1 (takeS G d w k)) :
    ∃ G2 d2 F2, Same F1 F2 ∧ Rep K F0 H0 F2 H1 G2 σ ∧ Dq K F2 v d2 ∧ postS K ct W F0 H0 D F2 (k G2 d2) := by
  cases w with
  | frz => exact ⟨G, d, F1, Same.refl _, r.ext x, q, p⟩
  | new =>
    obtain ⟨F3, x3, s3, r3⟩ := vr_hard x q (fun i e => nomatch e)
    exact ⟨G, d, F3, s3, r.ext x3, r3, postS_same (o := k G d) p s3⟩
  | own j =>
    unfold takeS at p
    simp only at p
    split at p
    · rename_i ds e
      obtain ⟨q1, _⟩ := q
      obtain ⟨p2, vs, hv, hf, h0, hp, ha, r2⟩ := (r.ext x).freeze e
      rw [q1] at hv
      cases hv
      have sF : Same F1 (upd F1 p2 (.lst vs)) := same_new hf
      exact ⟨_, _, _, sF, r2, .lst upd_same (dpAll_mono sF _ _ ha), postS_same p sF⟩
    · exact p.elim
def retS (m : Gm → EO) : Gm → SO := fun G => (m G).bindS G fun d w => takeS G d w fun _ d => .ret d
theorem es_ret (he : EE X ct W e me) : ES X ct W (.Return (some e) pos) (retS me) :=
  ps_imp (ps_ret he) fun D σ H ⟨F0, H0, F, G, r, p⟩ => ⟨F0, H0, F, G, r, post_mono (post_S r p) fun v H1 ⟨d, w, F1, x, q, _, p2⟩ => by
    obtain ⟨G2, d2, F2, _, r2, q2, p3⟩ := take_of r x q p2
    exact p3 v F2 H1 r2.extOf q2⟩
def asgS (i : Nat) (m : Gm → EO) : Gm → SO := fun G => (m G).bindS G fun d w => match d, w with
  | .list ds, .new => .next (G.set i (some (.own ds)))
  | d, w => takeS G d w fun G d => .next (G.set i (some (.dat d)))
theorem asg_of {K : PySem.W.Frag} {i : Nat} {D : Ends} {σ : St} {H : Hp} (h : sM K ct W (asgS i me) D σ H) : tAsg (tM K ct W me) (gName i) D σ H := by
  obtain ⟨F0, H0, F, G, r, p⟩ := h
  refine ⟨F0, H0, F, G, r, post_mono (post_S r p) fun v H1 ⟨d, w, F1, x, q, r1, p2⟩ => ?_⟩
  show D.nx (σ.set i (some v)) H1
  have other : postS K ct W F0 H0 D F1 (takeS G d w fun G d => .next (G.set i (some (.dat d)))) → D.nx (σ.set i (some v)) H1 := fun p3 => by
    obtain ⟨G2, d2, F2, _, r2, q2, p4⟩ := take_of r x q p3
    exact p4 _ F2 H1 (Same.refl _) (r2.dat i q2)
  split at p2
  · obtain ⟨pa, vs, ds, rfl, e2, h0, hf, hp, ha⟩ := q
    cases e2
    refine p2 _ F1 H1 (Same.refl _) (r1.own i (r.hh.free h0) hf hp ha fun j o e => ?_)
    obtain ⟨es, eo⟩ := isOwn_ex o
    obtain ⟨u, hu, p3, us, rfl, _, _, hp3, _⟩ := r.slot j _ eo
    rw [e] at hu
    cases hu
    rw [h0] at hp3
    cases hp3
  · exact other p2
theorem es_asg {i : Nat} {x : Str} {pos2 : Pos} (he : EE X ct W e me) (hN : X.N.Nodup) (hi : X.N[i]? = some x := by rfl) (hx : Loc X.env.scope x := by first | exact Or.inl rfl | exact Or.inr rfl) (hs : swapsWith e (some (.Name x pos2)) pos.line X.env = pure false := by rfl)
    (hf : X.fn x = true ∨ X.env.scope.names.lookup x = some .local := by first | exact .inl rfl | exact .inr rfl) : ES X ct W (.Assign [.Name x pos2] e pos) (asgS i me) :=
  ps_imp (ps_set hN hi hx he hs hf) fun D σ H h => asg_of h
def ifS (t : Gm → BO) (m1 m2 : Gm → SO) : Gm → SO := fun G => (t G).bindS G fun k => if k = true then m1 G else m2 G
theorem es_if {t : Expr} {mt : Gm → BO} {s1 s2 : List Stmt} (ht : EB X ct W t mt) (h1 : ESs X ct W s1 m1) (h2 : ESs X ct W s2 m2) : ES X ct W (.If t s1 s2 pos) (ifS mt m1 m2) :=
  ps_imp (ps_if ht h1 h2) fun D σ H ⟨F0, H0, F, G, r, p⟩ => ⟨F0, H0, F, G, r, postB_mono (postB_S r p) fun k H1 ⟨F1, x, r1, p2⟩ => by
    cases k with
    | true => exact iteT ⟨F0, H0, F1, G, r1, p2⟩
    | false => exact iteF ⟨F0, H0, F1, G, r1, p2⟩⟩
def dropS (m : Gm → EO) : Gm → SO := fun G => (m G).bindS G fun _ _ => .next G
theorem es_expr (he : EE X ct W e me) (hs : swapsWith e none pos.line X.env = pure false := by rfl) : ES X ct W (.Expr e pos) (dropS me) :=
  ps_imp (ps_expr he hs) fun D σ H ⟨F0, H0, F, G, r, p⟩ => ⟨F0, H0, F, G, r, post_mono (post_S r p) fun v H1 ⟨d, w, F1, x, q, r1, p2⟩ => p2 σ F1 H1 (Same.refl _) r1⟩
end
end VL

set_option Elab.async false
set_option linter.all false
set_option maxRecDepth 100000
/-! VF: the value layer: targets, what is walked, for, while, comprehensions. -/
namespace VL
open PySem L2
/-! ### targets -/
def gM (K : PySem.W.Frag) (tgt : PyData → Gm → Option Gm) : TG := fun v σ H Q => ∃ F0 H0 F G d G2, Rep K F0 H0 F H G σ ∧ Dq K F v d ∧ tgt d G = some G2 ∧ ∀ σ2, Rep K F0 H0 F H G2 σ2 → Q σ2 H
abbrev EG (X : Cx) (tg : Expr) (tgt : PyData → Gm → Option Gm) : Prop := PG X tg (gM X.K tgt)
theorem pg_imp {X : Cx} {tg : Expr} {t t2 : TG} (h : PG X tg t) (i : ∀ v σ H Q, t2 v σ H Q → t v σ H Q) : PG X tg t2 := ⟨fun pins s σ H v u Q I r q => h.run pins s σ H v u Q I r (i v σ H Q q)⟩
def toN (i : Nat) : PyData → Gm → Option Gm := fun d G => some (G.set i (some (.dat d)))
def to2 (i j : Nat) : PyData → Gm → Option Gm := fun d G => match d with
  | .tuple [x, y] => some ((G.set i (some (.dat x))).set j (some (.dat y)))
  | _ => none
def to3 (i j k : Nat) : PyData → Gm → Option Gm := fun d G => match d with
  | .tuple [x, y, z] => some (((G.set i (some (.dat x))).set j (some (.dat y))).set k (some (.dat z)))
  | _ => none
section
variable {X : Cx} {pos p1 p2 p3 : Pos} {i j k : Nat} {x y z : Str}
theorem eg_name (hN : X.N.Nodup) (hi : X.N[i]? = some x := by rfl) (hx : Loc X.env.scope x := by first | exact Or.inl rfl | exact Or.inr rfl) (hf : X.fn x = true ∨ X.env.scope.names.lookup x = some .local := by first | exact .inl rfl | exact .inr rfl) : EG X (.Name x pos) (toN i) :=
  pg_imp (pg_name hN hi hx hf) fun v σ H Q ⟨F0, H0, F, G, d, G2, r, q, e, h⟩ => by
    cases e
    exact h _ (r.dat i q)
theorem eg_tup2 {n : Nat} (hc : X.calm = true) (hN : X.N.Nodup) (hi : X.N[i]? = some x := by rfl) (hx : Loc X.env.scope x := by first | exact Or.inl rfl | exact Or.inr rfl) (hf : X.fn x = true ∨ X.env.scope.names.lookup x = some .local := by first | exact .inl rfl | exact .inr rfl)
    (hj : X.N[j]? = some y := by rfl) (hy : Loc X.env.scope y := by first | exact Or.inl rfl | exact Or.inr rfl) (hg : X.fn y = true ∨ X.env.scope.names.lookup y = some .local := by first | exact .inl rfl | exact .inr rfl) :
    EG X (.Tuple [.Name x p1, .Name y p2] n pos) (to2 i j) :=
  pg_imp (pg_tup (n := 2) hc (pgs_cons (pg_name hN hi hx hf) (pgs_cons (pg_name hN hj hy hg) pgs_nil))) fun v σ H Q ⟨F0, H0, F, G, d, G2, r, q, e, h⟩ => by
    unfold to2 at e
    split at e
    · cases e
      cases q with
      | tup hs ha =>
        cases ha with
        | cons h1 t1 =>
          cases t1 with
          | cons h2 t2 =>
            cases t2
            exact ⟨_, _, rfl, SqT.of (r.fh _ _ hs), rfl, _, _, rfl, _, _, rfl, rfl, h _ ((r.dat i h1).dat j h2)⟩
    · cases e
theorem eg_tup3 {n : Nat} (hc : X.calm = true) (hN : X.N.Nodup) (hi : X.N[i]? = some x := by rfl) (hx : Loc X.env.scope x := by first | exact Or.inl rfl | exact Or.inr rfl) (hf : X.fn x = true ∨ X.env.scope.names.lookup x = some .local := by first | exact .inl rfl | exact .inr rfl)
    (hj : X.N[j]? = some y := by rfl) (hy : Loc X.env.scope y := by first | exact Or.inl rfl | exact Or.inr rfl) (hg : X.fn y = true ∨ X.env.scope.names.lookup y = some .local := by first | exact .inl rfl | exact .inr rfl)
    (hk : X.N[k]? = some z := by rfl) (hz : Loc X.env.scope z := by first | exact Or.inl rfl | exact Or.inr rfl) (hh : X.fn z = true ∨ X.env.scope.names.lookup z = some .local := by first | exact .inl rfl | exact .inr rfl) :
    EG X (.Tuple [.Name x p1, .Name y p2, .Name z p3] n pos) (to3 i j k) :=
  pg_imp (pg_tup (n := 3) hc (pgs_cons (pg_name hN hi hx hf) (pgs_cons (pg_name hN hj hy hg) (pgs_cons (pg_name hN hk hz hh) pgs_nil)))) fun v σ H Q ⟨F0, H0, F, G, d, G2, r, q, e, h⟩ => by
    unfold to3 at e
    split at e
    · cases e
      cases q with
      | tup hs ha =>
        cases ha with
        | cons h1 t1 =>
          cases t1 with
          | cons h2 t2 =>
            cases t2 with
            | cons h3 t3 =>
              cases t3
              exact ⟨_, _, rfl, SqT.of (r.fh _ _ hs), rfl, _, _, rfl, _, _, rfl, _, _, rfl, rfl, h _ (((r.dat i h1).dat j h2).dat k h3)⟩
    · cases e
end

/-! ### what is walked -/
structure ItOk (K : PySem.W.Frag) (F Hs : Hp) (J : It) (ds : List PyData) : Prop where
  go : ∀ (i : Nat) (F2 H2 : Hp) (d : PyData), Same F F2 → Same F2 H2 → Same Hs H2 → ds[i]? = some d → J.go i H2 ∧ ∀ x H3, J.yld i H2 x H3 → ∃ F3, Ext F2 H2 F3 H3 ∧ Dq K F3 x d
  stop : ∀ (F2 H2 : Hp), Same F F2 → Same F2 H2 → Same Hs H2 → J.stop ds.length H2
inductive IO where
  | ok (ds : List PyData) (G : Gm) | exc (c : Nat) (pl : Option PyData) | stuck
/-- for a comprehension: the slots stay -/
inductive IC where
  | ok (ds : List PyData) | stuck
def tMI (K : PySem.W.Frag) (ct : Nat → Addr) (W : WX) (m : Gm → IO) : TI := fun σ H R => ∃ F0 H0 F G, Rep K F0 H0 F H G σ ∧ match m G with
  | .ok ds G2 => ∀ J F2 H2, Same F F2 → Rep K F0 H0 F2 H2 G2 σ → ItOk K F2 F2 J ds → R J H2
  | .exc c pl => ∀ cls dd F2 H2, Ext F H F2 H2 → XR K ct F2 H2 c pl cls dd → W cls dd σ H2
  | .stuck => False
def tMC (K : PySem.W.Frag) (m : Gm → IC) : TI := fun σ H R => ∃ F0 H0 F G, Rep K F0 H0 F H G σ ∧ match m G with
  | .ok ds => ∀ J F2 H2, Ext F H F2 H2 → ItOk K F2 H2 J ds → R J H2
  | .stuck => False
abbrev EI (X : Cx) (ct : Nat → Addr) (W : WX) (tg it : Expr) (m : Gm → IO) : Prop := PI X tg it (tMI X.K ct W m)
abbrev EC (X : Cx) (tg it : Expr) (m : Gm → IC) : Prop := PI X tg it (tMC X.K m)
theorem pi_imp {X : Cx} {tg it : Expr} {t t2 : TI} (h : PI X tg it t) (i : ∀ σ H R, t2 σ H R → t σ H R) : PI X tg it t2 := ⟨fun pins s σ H R I q => h.run pins s σ H R I (i σ H R q)⟩
section
variable {K : PySem.W.Frag} {F H Hs : Hp}
theorem it_list {a : Addr} {vs : List V} {ds : List PyData} (h : Hs a = some (.lst vs)) (r : DqAll K F vs ds) : ItOk K F Hs (Itl K a) ds where
  go := fun i F2 H2 d s1 s2 s3 e => by
    obtain ⟨v, hv, rv⟩ := dpAll_get r e
    have sq : SqL K H2 a vs := SqL.of (s3 _ _ h)
    refine ⟨⟨vs, v, sq, hv⟩, fun x H3 y => ?_⟩
    obtain ⟨rfl, y⟩ := y
    have z := y vs sq
    rw [hv] at z
    cases z
    exact ⟨F2, Ext.refl s2, dp_mono s1 _ _ rv⟩
  stop := fun F2 H2 s1 s2 s3 => ⟨vs, SqL.of (s3 _ _ h), by rw [dpAll_len r]; exact Nat.le_refl _⟩
theorem it_tup {a : Addr} {vs : List V} {ds : List PyData} (h : F a = some (.tup vs)) (r : DqAll K F vs ds) : ItOk K F Hs (Itt K a) ds where
  go := fun i F2 H2 d s1 s2 s3 e => by
    obtain ⟨v, hv, rv⟩ := dpAll_get r e
    have sq : SqT K H2 a vs := SqT.of (s2 _ _ (s1 _ _ h))
    refine ⟨⟨vs, v, sq, hv⟩, fun x H3 y => ?_⟩
    obtain ⟨rfl, y⟩ := y
    have z := y vs sq
    rw [hv] at z
    cases z
    exact ⟨F2, Ext.refl s2, dp_mono s1 _ _ rv⟩
  stop := fun F2 H2 s1 s2 s3 => ⟨vs, SqT.of (s2 _ _ (s1 _ _ h)), by rw [dpAll_len r]; exact Nat.le_refl _⟩
def rgD (lo : Int) (n : Nat) : List PyData := (List.range n).map fun i => .int (lo + (i : Nat))
theorem it_range {lo : Int} {n : Nat} : ItOk K F Hs (Itr lo n) (rgD lo n) where
  go := fun i F2 H2 d s1 s2 s3 e => by
    unfold rgD at e
    rw [List.getElem?_map] at e
    by_cases hi : i < n
    · rw [List.getElem?_range hi] at e
      cases e
      exact ⟨hi, fun x H3 y => by
        obtain ⟨rfl, rfl⟩ := y
        exact ⟨F2, Ext.refl s2, .int _⟩⟩
    · rw [List.getElem?_eq_none (by simpa using hi)] at e
      cases e
  stop := fun F2 H2 s1 s2 s3 => by
    unfold rgD
    rw [List.length_map, List.length_range]
    exact Nat.le_refl _
end
section
variable {X : Cx} {ct : Nat → Addr} {W : WX} {a b c e tg : Expr} {ma mb mc me : Gm → EO} {pos : Pos}
def iterL (m : Gm → EO) : Gm → IO := fun G => match m G with
  | .ok (.list ds) (.own j) => match G[j]? with
    | some (some (.own es)) => .ok es (G.set j (some (.dat (.list es))))
    | _ => .stuck
  | .ok (.list ds) _ => .ok ds G
  | .exc c pl => .exc c pl
  | _ => .stuck
def iterT (m : Gm → EO) : Gm → IO := fun G => match m G with
  | .ok (.tuple ds) _ => .ok ds G
  | .exc c pl => .exc c pl
  | _ => .stuck
theorem ei_list (ha : EE X ct W a ma) : EI X ct W tg a (iterL ma) :=
  pi_imp (pi_list ha) fun σ H R ⟨F0, H0, F, G, r, p⟩ => by
    refine ⟨F0, H0, F, G, r, ?_⟩
    unfold iterL at p
    revert p
    cases e : ma G with
    | ok d w =>
      cases d with
      | list ds =>
        cases w with
        | own j =>
          intro p v F1 H1 x q
          simp only at p
          split at p
          · rename_i ds2 G2 hm
            split at hm
            · rename_i es eo
              cases hm
              obtain ⟨q1, _⟩ := q
              obtain ⟨p2, vs, hv, hf, h0, hp, ha2, r2⟩ := (r.ext x).freeze eo
              rw [q1] at hv
              cases hv
              have sF : Same F1 (upd F1 p2 (.lst vs)) := same_new hf
              exact ⟨p2, rfl, ⟨vs, SqL.of hp⟩, p (Itl X.K p2) _ H1 (x.ff.trans sF) r2 (it_list upd_same (dpAll_mono sF _ _ ha2))⟩
            · cases hm
          · rename_i hm
            split at hm <;> cases hm
          · exact p.elim
        | frz =>
          intro p v F1 H1 x q
          cases q with
          | lst hs ha2 => exact ⟨_, rfl, ⟨_, SqL.of (x.fh _ _ hs)⟩, p (Itl X.K _) F1 H1 x.ff (r.ext x) (it_list hs ha2)⟩
        | new =>
          intro p v F1 H1 x q
          obtain ⟨F3, x3, s3, q3⟩ := vr_hard x q (fun i e => nomatch e)
          cases q3 with
          | lst hs ha2 => exact ⟨_, rfl, ⟨_, SqL.of (x3.fh _ _ hs)⟩, p (Itl X.K _) F3 H1 x3.ff (r.ext x3) (it_list hs ha2)⟩
      | none => exact fun p => p.elim
      | bool b => exact fun p => p.elim
      | int i => exact fun p => p.elim
      | str y => exact fun p => p.elim
      | tuple ds => exact fun p => p.elim
      | dict ds => exact fun p => p.elim
    | exc c pl => exact fun p => p
    | stuck => exact fun p => p.elim
theorem ei_tup (ha : EE X ct W a ma) : EI X ct W tg a (iterT ma) :=
  pi_imp (pi_tup ha) fun σ H R ⟨F0, H0, F, G, r, p⟩ => by
    refine ⟨F0, H0, F, G, r, ?_⟩
    unfold iterT at p
    revert p
    cases e : ma G with
    | ok d w =>
      cases d with
      | tuple ds =>
        intro p v F1 H1 x q
        obtain ⟨_, b, vs, rfl, hs, ha2⟩ := VV.of x.fh q
        exact ⟨_, rfl, ⟨_, SqT.of (x.fh _ _ hs)⟩, p (Itt X.K _) F1 H1 x.ff (r.ext x) (it_tup hs ha2)⟩
      | none => exact fun p => p.elim
      | bool b => exact fun p => p.elim
      | int i => exact fun p => p.elim
      | str y => exact fun p => p.elim
      | list ds => exact fun p => p.elim
      | dict ds => exact fun p => p.elim
    | exc c pl => exact fun p => p
    | stuck => exact fun p => p.elim
/-- in a comprehension no exception leaves -/
abbrev W0 : WX := fun _ _ _ _ => False
def compiL (m : Gm → EO) : Gm → IC := fun G => match m G with
  | .ok (.list ds) _ => .ok ds
  | _ => .stuck
def compiT (m : Gm → EO) : Gm → IC := fun G => match m G with
  | .ok (.tuple ds) _ => .ok ds
  | _ => .stuck
theorem ec_list (ha : EE X ct W0 a ma) : EC X tg a (compiL ma) :=
  pi_imp (pi_list ha) fun σ H R ⟨F0, H0, F, G, r, p⟩ => by
    refine ⟨F0, H0, F, G, r, ?_⟩
    unfold compiL at p
    revert p
    cases e : ma G with
    | ok d w =>
      cases d with
      | list ds =>
        intro p v F1 H1 x q
        obtain ⟨_, b, vs, rfl, hs, ha2⟩ := VV.of x.fh q
        exact ⟨_, rfl, ⟨_, SqL.of hs⟩, p (Itl X.K _) F1 H1 x (it_list hs ha2)⟩
      | none => exact fun p => p.elim
      | bool b => exact fun p => p.elim
      | int i => exact fun p => p.elim
      | str y => exact fun p => p.elim
      | tuple ds => exact fun p => p.elim
      | dict ds => exact fun p => p.elim
    | exc c pl => exact fun p => p.elim
    | stuck => exact fun p => p.elim
theorem ec_tup (ha : EE X ct W0 a ma) : EC X tg a (compiT ma) :=
  pi_imp (pi_tup ha) fun σ H R ⟨F0, H0, F, G, r, p⟩ => by
    refine ⟨F0, H0, F, G, r, ?_⟩
    unfold compiT at p
    revert p
    cases e : ma G with
    | ok d w =>
      cases d with
      | tuple ds =>
        intro p v F1 H1 x q
        obtain ⟨_, b, vs, rfl, hs, ha2⟩ := VV.of x.fh q
        exact ⟨_, rfl, ⟨_, SqT.of (x.fh _ _ hs)⟩, p (Itt X.K _) F1 H1 x (it_tup hs ha2)⟩
      | none => exact fun p => p.elim
      | bool b => exact fun p => p.elim
      | int i => exact fun p => p.elim
      | str y => exact fun p => p.elim
      | list ds => exact fun p => p.elim
      | dict ds => exact fun p => p.elim
    | exc c pl => exact fun p => p.elim
    | stuck => exact fun p => p.elim
/-! ranges -/

def rg1 (m : Gm → EO) (G : Gm) : Option (List PyData) := match m G with
  | .ok (.int n) _ => if n.natAbs ≤ 1000000 then some (rgD 0 n.toNat) else none
  | _ => none
def rg2 (m m2 : Gm → EO) (G : Gm) : Option (List PyData) := match m G, m2 G with
  | .ok (.int i) _, .ok (.int j) _ => if i.natAbs ≤ 1000000 ∧ j.natAbs ≤ 1000000 then some (rgD i (j - i).toNat) else none
  | _, _ => none
def iterO (m : Gm → Option (List PyData)) : Gm → IO := fun G => match m G with
  | some ds => .ok ds G
  | none => .stuck
def compO (m : Gm → Option (List PyData)) : Gm → IC := fun G => match m G with
  | some ds => .ok ds
  | none => .stuck
theorem rg1_of {K : PySem.W.Frag} {σ : St} {F0 H0 F H : Hp} {G : Gm} {ds : List PyData} {R : It → Hp → Prop} (r : Rep K F0 H0 F H G σ) (hm : rg1 ma G = some ds) (p : ∀ J F2 H2, Ext F H F2 H2 → ItOk K F2 F2 J ds → R J H2) :
    iRng1 (tCons (tM K ct W ma) tNil) σ H R := by
  refine ⟨F0, H0, F, G, r, ?_⟩
  unfold rg1 at hm
  revert hm
  cases ma G with
  | ok d w =>
    cases d with
    | int n =>
      intro hm v F1 H1 x q
      have hm2 : (if n.natAbs ≤ 1000000 then some (rgD 0 n.toNat) else none) = some ds := hm
      split at hm2
      · rename_i hc
        cases hm2
        rw [(VV.of x.fh q).int]
        exact ⟨n, rfl, by omega, by omega, p (Itr 0 n.toNat) F1 H1 x it_range⟩
      · cases hm2
    | none => exact fun hm => nomatch hm
    | bool b => exact fun hm => nomatch hm
    | str y => exact fun hm => nomatch hm
    | list ds => exact fun hm => nomatch hm
    | tuple ds => exact fun hm => nomatch hm
    | dict ds => exact fun hm => nomatch hm
  | exc c pl => exact fun hm => nomatch hm
  | stuck => exact fun hm => nomatch hm
theorem rg2_of {K : PySem.W.Frag} {σ : St} {F0 H0 F H : Hp} {G : Gm} {ds : List PyData} {R : It → Hp → Prop} (r : Rep K F0 H0 F H G σ) (hm : rg2 ma mb G = some ds) (p : ∀ J F2 H2, Ext F H F2 H2 → ItOk K F2 F2 J ds → R J H2) :
    iRng2 (tCons (tM K ct W ma) (tCons (tM K ct W mb) tNil)) σ H R := by
  refine ⟨F0, H0, F, G, r, ?_⟩
  unfold rg2 at hm
  split at hm
  · rename_i i w1 j w2 e1 e2
    split at hm
    · rename_i hc
      cases hm
      rw [e1]
      intro v F1 H1 x q
      refine ⟨F0, H0, F1, G, r.ext x, ?_⟩
      rw [e2]
      intro u F2 H2 x2 q2
      rw [(VV.of x.fh q).int, (VV.of x2.fh q2).int]
      exact ⟨i, j, rfl, ⟨by omega, by omega, by omega, by omega⟩, p (Itr i (j - i).toNat) F2 H2 (x.trans x2) it_range⟩
    · cases hm
  · cases hm
theorem ei_range1 {p : Pos} (hm : X.mg "range" = none) (ha : EE X ct W a ma) (hg : Gl X "range" := by rfl) (hs : starEach [a] X.env = [(false, eval a X.env)] := by rfl) : EI X ct W tg (.Call (.Name "range" p) [a] [] pos) (iterO (rg1 ma)) :=
  pi_imp (pi_range1 hg hm (pa_cons ha pa_nil hs) hs) fun σ H R ⟨F0, H0, F, G, r, q⟩ => by
    unfold iterO at q
    split at q
    · rename_i ds G2 hm2
      split at hm2
      · rename_i ds2 hd
        cases hm2
        exact rg1_of r hd fun J F2 H2 x i => q J F2 H2 x.ff (r.ext x) i
      · cases hm2
    · rename_i hm2
      split at hm2 <;> cases hm2
    · exact q.elim
theorem ei_range2 {p : Pos} (hm : X.mg "range" = none) (ha : EE X ct W a ma) (hb : EE X ct W b mb) (hg : Gl X "range" := by rfl) (hs : starEach [a, b] X.env = [(false, eval a X.env), (false, eval b X.env)] := by rfl) (hs2 : starEach [b] X.env = [(false, eval b X.env)] := by rfl) :
    EI X ct W tg (.Call (.Name "range" p) [a, b] [] pos) (iterO (rg2 ma mb)) :=
  pi_imp (pi_range2 hg hm (pa_cons ha (pa_cons hb pa_nil hs2) (by rw [hs, hs2])) hs hs2) fun σ H R ⟨F0, H0, F, G, r, q⟩ => by
    unfold iterO at q
    split at q
    · rename_i ds G2 hm2
      split at hm2
      · rename_i ds2 hd
        cases hm2
        exact rg2_of r hd fun J F2 H2 x i => q J F2 H2 x.ff (r.ext x) i
      · cases hm2
    · rename_i hm2
      split at hm2 <;> cases hm2
    · exact q.elim
theorem itOk_hs {K : PySem.W.Frag} {F H : Hp} {J : It} {ds : List PyData} (h : ItOk K F F J ds) (fh : Same F H) : ItOk K F H J ds := ⟨fun i F2 H2 d s1 s2 s3 e => h.go i F2 H2 d s1 s2 (fh.trans s3) e, fun F2 H2 s1 s2 s3 => h.stop F2 H2 s1 s2 (fh.trans s3)⟩
theorem ec_range1 {p : Pos} (hm : X.mg "range" = none) (ha : EE X ct W0 a ma) (hg : Gl X "range" := by rfl) (hs : starEach [a] X.env = [(false, eval a X.env)] := by rfl) : EC X tg (.Call (.Name "range" p) [a] [] pos) (compO (rg1 ma)) :=
  pi_imp (pi_range1 hg hm (pa_cons ha pa_nil hs) hs) fun σ H R ⟨F0, H0, F, G, r, q⟩ => by
    unfold compO at q
    split at q
    · rename_i ds hm2
      split at hm2
      · rename_i ds2 hd
        cases hm2
        exact rg1_of r hd fun J F2 H2 x i => q J F2 H2 x (itOk_hs i x.fh)
      · cases hm2
    · exact q.elim
theorem ec_range2 {p : Pos} (hm : X.mg "range" = none) (ha : EE X ct W0 a ma) (hb : EE X ct W0 b mb) (hg : Gl X "range" := by rfl) (hs : starEach [a, b] X.env = [(false, eval a X.env), (false, eval b X.env)] := by rfl) (hs2 : starEach [b] X.env = [(false, eval b X.env)] := by rfl) :
    EC X tg (.Call (.Name "range" p) [a, b] [] pos) (compO (rg2 ma mb)) :=
  pi_imp (pi_range2 hg hm (pa_cons ha (pa_cons hb pa_nil hs2) (by rw [hs, hs2])) hs hs2) fun σ H R ⟨F0, H0, F, G, r, q⟩ => by
    unfold compO at q
    split at q
    · rename_i ds hm2
      split at hm2
      · rename_i ds2 hd
        cases hm2
        exact rg2_of r hd fun J F2 H2 x i => q J F2 H2 x (itOk_hs i x.fh)
      · cases hm2
    · exact q.elim
end
end VL

set_option Elab.async false
set_option linter.all false
set_option maxRecDepth 100000
/-! VG: the value layer: for, while, comprehensions. -/
namespace VL
open PySem L2
def forL (tgt : PyData → Gm → Option Gm) (body : Gm → SO) : List PyData → Gm → SO
  | [], G => .next G
  | d :: ds, G => match tgt d G with
    | none => .stuck
    | some G1 => match body G1 with
      | .next G2 => forL tgt body ds G2
      | .cont G2 => forL tgt body ds G2
      | .brk G2 => .next G2
      | .ret d => .ret d
      | .exc c pl G2 => .exc c pl G2
      | .stuck => .stuck
def forS (mi : Gm → IO) (tgt : PyData → Gm → Option Gm) (body : Gm → SO) : Gm → SO := fun G => match mi G with
  | .ok ds G2 => forL tgt body ds G2
  | .exc c pl => .exc c pl G
  | .stuck => .stuck
def whileL (cond : Gm → BO) (body : Gm → SO) : Nat → Gm → SO
  | 0, _ => .stuck
  | n + 1, G => match cond G with
    | .ok true => match body G with
      | .next G2 => whileL cond body n G2
      | .cont G2 => whileL cond body n G2
      | .brk G2 => .next G2
      | .ret d => .ret d
      | .exc c pl G2 => .exc c pl G2
      | .stuck => .stuck
    | .ok false => .next G
    | .exc c pl => .exc c pl G
    | .stuck => .stuck
section
variable {X : Cx} {ct : Nat → Addr} {W : WX} {a b c e tg it : Expr} {ma mb mc me : Gm → EO} {pos : Pos} {sts : List Stmt} {mb : Gm → SO} {mi : Gm → IO} {tgt : PyData → Gm → Option Gm}
theorem es_for (hp : PassesOwn (model X.prog X.w) X.A X.env X.xe) (hc : X.calm = true) (hi : EI X ct W tg it mi) (hg : EG X tg tgt) (hb : ESs X ct W sts mb) (hs : ∀ x, foldedSetIterable it X.env x = pure x := by intro _; rfl) : ES X ct W (.For tg it sts [] pos) (forS mi tgt mb) :=
  ps_imp (ps_for hp hc hi hg hb hs) fun D σ H ⟨F0, H0, F, G, r, p⟩ => by
    refine ⟨F0, H0, F, G, r, ?_⟩
    unfold forS at p
    revert p
    cases mi G with
    | exc c pl => exact fun p cls dd F2 H2 x q => p cls dd σ F2 H2 x.ff (r.ext x) q
    | stuck => exact fun p => p
    | ok ds G2 =>
      intro p J F2 H2 s2 r2 io
      refine ⟨fun i m σ H => m = ds.length - i ∧ i ≤ ds.length ∧ ∃ F3 G3, Same F2 F3 ∧ Rep X.K F0 H0 F3 H G3 σ ∧ postS X.K ct W F0 H0 D F3 (forL tgt mb (ds.drop i) G3), ⟨ds.length, by simp, Nat.zero_le _, F2, G2, Same.refl _, r2, postS_same p s2⟩, ?_⟩
      rintro i m σ3 H3 ⟨rfl, hi3, F3, G3, s3, r3, p3⟩
      by_cases hlt : i < ds.length
      · have hd : ds.drop i = ds[i] :: ds.drop (i + 1) := List.drop_eq_getElem_cons hlt
        obtain ⟨hgo, hy⟩ := io.go i F3 H3 ds[i] s3 r3.fh (s3.trans r3.fh) (by simp [hlt])
        refine .inr ⟨hgo, fun σ4 H4 => ∃ F4 G4, Same F2 F4 ∧ Rep X.K F0 H0 F4 H4 G4 σ4 ∧ postS X.K ct W F0 H0 D F4 (forL tgt mb (ds.drop (i + 1)) G4), fun σ4 H4 ⟨F4, G4, s4, r4, p4⟩ => ⟨ds.length - (i + 1), by omega, rfl, hlt, F4, G4, s4, r4, p4⟩, fun x H4 y => ?_⟩
        obtain ⟨F4, x4, q4⟩ := hy x H4 y
        rw [hd] at p3
        unfold forL at p3
        cases ht : tgt ds[i] G3 with
        | none =>
          rw [ht] at p3
          exact p3.elim
        | some G4 =>
          rw [ht] at p3
          refine ⟨F0, H0, F4, G3, ds[i], G4, r3.ext x4, q4, ht, fun σ5 r5 => ⟨F0, H0, F4, G4, r5, ?_⟩⟩
          simp only at p3
          revert p3
          cases mb G4 with
          | next G5 => exact fun p3 σ6 F6 H6 s6 r6 => ⟨F6, G5, (s3.trans x4.ff).trans s6, r6, postS_same p3 (x4.ff.trans s6)⟩
          | cont G5 => exact fun p3 σ6 F6 H6 s6 r6 => ⟨F6, G5, (s3.trans x4.ff).trans s6, r6, postS_same p3 (x4.ff.trans s6)⟩
          | brk G5 => exact fun p3 σ6 F6 H6 s6 r6 => p3 σ6 F6 H6 (x4.ff.trans s6) r6
          | ret d => exact fun p3 => p3
          | exc c pl G5 => exact fun p3 cls dd σ6 F6 H6 s6 r6 q6 => p3 cls dd σ6 F6 H6 (x4.ff.trans s6) r6 q6
          | stuck => exact fun p3 => p3
      · have e : i = ds.length := by omega
        subst e
        rw [List.drop_length] at p3
        exact .inl ⟨io.stop F3 H3 s3 r3.fh (s3.trans r3.fh), p3 σ3 F3 H3 (Same.refl _) r3⟩
theorem es_while {t : Expr} {mt : Gm → BO} (n : Nat) (hp : PassesOwn (model X.prog X.w) X.A X.env X.xe) (ht : EB X ct W t mt) (hb : ESs X ct W sts mb) : ES X ct W (.While t sts [] pos) (whileL mt mb n) :=
  ps_imp (ps_while hp ht hb) fun D σ H ⟨F0, H0, F, G, r, p⟩ => by
    refine ⟨fun m σ H => ∃ F3 G3, Same F F3 ∧ Rep X.K F0 H0 F3 H G3 σ ∧ postS X.K ct W F0 H0 D F3 (whileL mt mb m G3), ⟨n, F, G, Same.refl _, r, p⟩, ?_⟩
    rintro m σ3 H3 ⟨F3, G3, s3, r3, p3⟩
    cases m with
    | zero => exact p3.elim
    | succ m =>
      refine ⟨F0, H0, F3, G3, r3, ?_⟩
      unfold whileL at p3
      revert p3
      cases mt G3 with
      | exc c pl => exact fun p3 cls dd F2 H2 x q => p3 cls dd σ3 F2 H2 x.ff (r3.ext x) q
      | stuck => exact fun p3 => p3
      | ok k =>
        cases k with
        | false => exact fun p3 F4 H4 x4 => iteF (p3 σ3 F4 H4 x4.ff (r3.ext x4))
        | true =>
          intro p3 F4 H4 x4
          refine iteT ⟨fun σ5 H5 => ∃ F5 G5, Same F F5 ∧ Rep X.K F0 H0 F5 H5 G5 σ5 ∧ postS X.K ct W F0 H0 D F5 (whileL mt mb m G5), fun σ5 H5 q => ⟨m, Nat.lt_succ_self m, q⟩, F0, H0, F4, G3, r3.ext x4, ?_⟩
          simp only at p3
          revert p3
          cases mb G3 with
          | next G5 => exact fun p3 σ6 F6 H6 s6 r6 => ⟨F6, G5, (s3.trans x4.ff).trans s6, r6, postS_same p3 (x4.ff.trans s6)⟩
          | cont G5 => exact fun p3 σ6 F6 H6 s6 r6 => ⟨F6, G5, (s3.trans x4.ff).trans s6, r6, postS_same p3 (x4.ff.trans s6)⟩
          | brk G5 => exact fun p3 σ6 F6 H6 s6 r6 => p3 σ6 F6 H6 (x4.ff.trans s6) r6
          | ret d => exact fun p3 => p3
          | exc c pl G5 => exact fun p3 cls dd σ6 F6 H6 s6 r6 q6 => p3 cls dd σ6 F6 H6 (x4.ff.trans s6) r6 q6
          | stuck => exact fun p3 => p3

/-! ### comprehensions -/
def stepC (tgt : PyData → Gm → Option Gm) (mt : Gm → BO) (me : Gm → EO) (G : Gm) (d : PyData) : Option (Option PyData) := match tgt d G with
  | none => none
  | some G1 => match mt G1 with
    | .ok true => match (me G1).hard with
      | .ok y _ => some (some y)
      | _ => none
    | .ok false => some none
    | _ => none
def compL (step : PyData → Option (Option PyData)) : List PyData → Option (List PyData)
  | [] => some []
  | d :: ds => match step d with
    | none => none
    | some none => compL step ds
    | some (some y) => match compL step ds with
      | some ys => some (y :: ys)
      | none => none
def wipeG (G : Gm) : List Nat → Gm
  | [] => G
  | v :: vs => (wipeG G vs).set v none
def compE (mi : Gm → IC) (vs : List Nat) (tgt : PyData → Gm → Option Gm) (mt : Gm → BO) (me : Gm → EO) : Gm → EO := fun G => match mi G with
  | .ok ds => if ds.length ≤ big then match compL (stepC tgt mt me (wipeG G vs)) ds with
    | some ys => .ok (.list ys) .new
    | none => .stuck else .stuck
  | .stuck => .stuck
theorem Rep.wipe {K : PySem.W.Frag} {F0 H0 F H : Hp} {G : Gm} {σ : St} (r : Rep K F0 H0 F H G σ) : ∀ vs : List Nat, Rep K F0 H0 F H (wipeG G vs) (L2.wipe σ vs)
  | [] => r
  | v :: vs => (r.wipe vs).forget v none
def yesB : Gm → BO := fun _ => .ok true
abbrev ETs (X : Cx) (ct : Nat → Addr) (W : WX) (ifs : List Expr) (m : Gm → BO) : Prop := PTs X ifs (tMB X.K ct W m)
theorem pts_imp {ifs : List Expr} {t t2 : TT} (h : PTs X ifs t) (i : ∀ σ H Q, t2 σ H Q → t σ H Q) : PTs X ifs t2 := ⟨fun pins s σ H Q I q => h.run pins s σ H Q I (i σ H Q q)⟩
theorem ets_nil : ETs X ct W [] yesB := pts_imp pts_nil fun σ H Q ⟨F0, H0, F, G, r, p⟩ => p F H (Ext.refl r.fh)
theorem ets_one {t : Expr} {mt : Gm → BO} (h : EB X ct W t mt) : ETs X ct W [t] mt := pts_one h
/-- the target within a comprehension: what it does to the slots is forgotten by wipe -/
def gMW (K : PySem.W.Frag) (vs : List Nat) (tgt : PyData → Gm → Option Gm) : TG := fun v σ H Q => ∃ F0 H0 F G d G2, Rep K F0 H0 F H G σ ∧ Dq K F v d ∧ tgt d G = some G2 ∧ ∀ σ2, Rep K F0 H0 F H G2 σ2 → L2.wipe σ2 vs = L2.wipe σ vs → Q σ2 H
theorem wipe_len (σ : St) : ∀ vs : List Nat, (L2.wipe σ vs).length = σ.length := wipe_length σ
theorem set_none_comm {σ : St} {i j : Nat} {x : Option V} : (σ.set i x).set j none = if i = j then σ.set j none else (σ.set j none).set i x := by
  split
  · rename_i e
    subst e
    rw [List.set_set]
  · rename_i e
    rw [List.set_comm _ _ e]
theorem wipe_set {i : Nat} {x : Option V} : ∀ {vs : List Nat} {σ : St}, i ∈ vs → L2.wipe (σ.set i x) vs = L2.wipe σ vs
  | [], _, h => by cases h
  | v :: vs, σ, h => by
    unfold L2.wipe
    by_cases hi : i ∈ vs
    · rw [wipe_set hi]
    · have e : i = v := by
        rcases List.mem_cons.mp h with e | e
        · exact e
        · exact absurd e hi
      subst e
      have out : ∀ (ws : List Nat) (τ : St), i ∉ ws → L2.wipe (τ.set i x) ws = (L2.wipe τ ws).set i x := by
        intro ws
        induction ws with
        | nil => exact fun τ _ => rfl
        | cons w ws ih =>
          intro τ hn
          unfold L2.wipe
          rw [ih τ fun z => hn (List.mem_cons_of_mem _ z), List.set_comm _ _ (fun z => hn (by rw [z]; exact List.mem_cons_self))]
      rw [out vs σ hi, List.set_set]
theorem wipe_wipe {vs : List Nat} : ∀ {ws : List Nat} {σ : St}, (∀ w ∈ ws, w ∈ vs) → L2.wipe (L2.wipe σ ws) vs = L2.wipe σ vs
  | [], _, _ => rfl
  | w :: ws, σ, h => by
    show L2.wipe ((L2.wipe σ ws).set w none) vs = _
    rw [wipe_set (h w List.mem_cons_self), wipe_wipe fun z hz => h z (List.mem_cons_of_mem _ hz)]
abbrev EGW (X : Cx) (vs : List Nat) (tg : Expr) (tgt : PyData → Gm → Option Gm) : Prop := PG X tg (gMW X.K vs tgt)
end
end VL

set_option Elab.async false
set_option linter.all false
set_option maxRecDepth 100000
/-! VH: the value layer: the comprehension's rule; lists that are changed. -/
namespace VL
open PySem L2
section
variable {X : Cx} {ct : Nat → Addr} {W : WX} {pos p1 p2 p3 : Pos} {i j k : Nat} {x y z : Str} {vs : List Nat}
theorem egw_name (hN : X.N.Nodup) (hv : i ∈ vs) (hi : X.N[i]? = some x := by rfl) (hx : Loc X.env.scope x := by first | exact Or.inl rfl | exact Or.inr rfl) (hf : X.fn x = true ∨ X.env.scope.names.lookup x = some .local := by first | exact .inl rfl | exact .inr rfl) : EGW X vs (.Name x pos) (toN i) :=
  pg_imp (pg_name hN hi hx hf) fun v σ H Q ⟨F0, H0, F, G, d, G2, r, q, e, h⟩ => by
    cases e
    exact h _ (r.dat i q) (wipe_set hv)
theorem egw_tup3 {n : Nat} (hc : X.calm = true) (hN : X.N.Nodup) (hvi : i ∈ vs) (hvj : j ∈ vs) (hvk : k ∈ vs) (hi : X.N[i]? = some x := by rfl) (hx : Loc X.env.scope x := by first | exact Or.inl rfl | exact Or.inr rfl) (hf : X.fn x = true ∨ X.env.scope.names.lookup x = some .local := by first | exact .inl rfl | exact .inr rfl)
    (hj : X.N[j]? = some y := by rfl) (hy : Loc X.env.scope y := by first | exact Or.inl rfl | exact Or.inr rfl) (hg : X.fn y = true ∨ X.env.scope.names.lookup y = some .local := by first | exact .inl rfl | exact .inr rfl)
    (hk : X.N[k]? = some z := by rfl) (hz : Loc X.env.scope z := by first | exact Or.inl rfl | exact Or.inr rfl) (hh : X.fn z = true ∨ X.env.scope.names.lookup z = some .local := by first | exact .inl rfl | exact .inr rfl) :
    EGW X vs (.Tuple [.Name x p1, .Name y p2, .Name z p3] n pos) (to3 i j k) :=
  pg_imp (pg_tup (n := 3) hc (pgs_cons (pg_name hN hi hx hf) (pgs_cons (pg_name hN hj hy hg) (pgs_cons (pg_name hN hk hz hh) pgs_nil)))) fun v σ H Q ⟨F0, H0, F, G, d, G2, r, q, e, h⟩ => by
    unfold to3 at e
    split at e
    · cases e
      cases q with
      | tup hs ha =>
        cases ha with
        | cons h1 t1 =>
          cases t1 with
          | cons h2 t2 =>
            cases t2 with
            | cons h3 t3 =>
              cases t3
              exact ⟨_, _, rfl, SqT.of (r.fh _ _ hs), rfl, _, _, rfl, _, _, rfl, _, _, rfl, rfl, h _ (((r.dat i h1).dat j h2).dat k h3) (by rw [wipe_set hvk, wipe_set hvj, wipe_set hvi])⟩
    · cases e
end
section
variable {K : PySem.W.Frag} {ct : Nat → Addr} {W : WX} {mi : Gm → IC} {vs : List Nat} {tgt : PyData → Gm → Option Gm} {mt : Gm → BO} {me : Gm → EO}
theorem comp_of {σ : St} {H : Hp} {Q : VK} (h : tM K ct W (compE mi vs tgt mt me) σ H Q) : tLc (tMC K mi) (gMW K vs tgt) (tMB K ct W0 mt) (tM K ct W0 me) vs σ H Q := by
  obtain ⟨F0, H0, F, G, r, p⟩ := h
  refine ⟨F0, H0, F, G, r, ?_⟩
  unfold compE at p
  revert p
  cases mi G with
  | stuck => exact fun p => p
  | ok ds =>
    intro p J F2 H2 x2 io D hD
    simp only at p
    split at p
    · rename_i hbig
      split at p
      · rename_i ys hys
        have fD : F2 D = none := x2.fh.free hD
        refine ⟨fun i m H5 => m = ds.length - i ∧ i ≤ ds.length ∧ ∃ F3 acc accV rest, Ext F2 H2 F3 H5 ∧ F3 D = none ∧ H5 D = some (.lst accV) ∧ DqAll K F3 accV acc ∧ acc.length ≤ i ∧ compL (stepC tgt mt me (wipeG G vs)) (ds.drop i) = some rest ∧ acc ++ rest = ys,
          ⟨ds.length, by simp, Nat.zero_le _, F2, [], [], ys, Ext.new x2.fh hD, fD, upd_same, .nil, Nat.le_refl _, hys, rfl⟩, ?_⟩
        rintro i m H5 ⟨rfl, hi, F3, acc, accV, rest, x3, f3, h5, ra, la, hc, hy⟩
        by_cases hlt : i < ds.length
        · have hd : ds.drop i = ds[i] :: ds.drop (i + 1) := List.drop_eq_getElem_cons hlt
          obtain ⟨hgo, hyl⟩ := io.go i F3 H5 ds[i] x3.ff x3.fh x3.hh (by simp [hlt])
          refine .inr ⟨hgo, fun H6 => ∃ F3 acc accV rest, Ext F2 H2 F3 H6 ∧ F3 D = none ∧ H6 D = some (.lst accV) ∧ DqAll K F3 accV acc ∧ acc.length ≤ i + 1 ∧ compL (stepC tgt mt me (wipeG G vs)) (ds.drop (i + 1)) = some rest ∧ acc ++ rest = ys,
            fun H6 q => ⟨ds.length - (i + 1), by omega, rfl, hlt, q⟩, fun x H6 yl => ?_⟩
          obtain ⟨F4, x4, q4⟩ := hyl x H6 yl
          have r4 : Rep K F0 H0 F4 H6 (wipeG G vs) (L2.wipe σ vs) := (((r.ext x2).ext x3).ext x4).wipe vs
          rw [hd] at hc
          unfold compL at hc
          cases hst : stepC tgt mt me (wipeG G vs) ds[i] with
          | none =>
            rw [hst] at hc
            cases hc
          | some oy =>
            rw [hst] at hc
            unfold stepC at hst
            cases ht : tgt ds[i] (wipeG G vs) with
            | none =>
              rw [ht] at hst
              cases hst
            | some G1 =>
              rw [ht] at hst
              simp only at hst
              refine ⟨F0, H0, F4, wipeG G vs, ds[i], G1, r4, q4, ht, fun σ2 r5 hw => ⟨hw.trans (wipe_wipe fun _ z => z), F0, H0, F4, G1, r5, ?_⟩⟩
              have f4 : F4 D = none := x4.ap D _ h5 f3
              have h6 : H6 D = some (.lst accV) := x4.hh D _ h5
              cases hmt : mt G1 with
              | exc c pl =>
                rw [hmt] at hst
                cases hst
              | stuck =>
                rw [hmt] at hst
                cases hst
              | ok kb =>
                rw [hmt] at hst
                cases kb with
                | false =>
                  simp only [Option.some.injEq] at hst
                  subst hst
                  intro F5 H7 x5
                  refine iteF ⟨F5, acc, accV, rest, (x3.trans x4).trans x5, x5.ap D _ h6 f4, x5.hh D _ h6, dpAll_mono (x4.ff.trans x5.ff) _ _ ra, Nat.le_succ_of_le la, hc, hy⟩
                | true =>
                  simp only at hst
                  intro F5 H7 x5
                  refine iteT ⟨F0, H0, F5, G1, r5.ext x5, ?_⟩
                  have key : ∀ yv w, me G1 = .ok yv w → (∀ n, w ≠ .own n) → oy = some yv → post K ct W0 σ2 F5 H7 (fun y H4 => ∃ acc, H4 D = some (.lst acc) ∧ acc.length < sizeLine ∧ ∃ F3 acc_1 accV rest, Ext F2 H2 F3 (upd H4 D (.lst (acc ++ [y]))) ∧ F3 D = none ∧ upd H4 D (.lst (acc ++ [y])) D = some (.lst accV) ∧ DqAll K F3 accV acc_1 ∧ acc_1.length ≤ i + 1 ∧ compL (stepC tgt mt me (wipeG G vs)) (ds.drop (i + 1)) = some rest ∧ acc_1 ++ rest = ys) (me G1) := by
                    intro yv w em nw eo
                    subst eo
                    rw [em]
                    intro v F6 H8 x6 vr
                    obtain ⟨F7, x7, _, q7⟩ := vr_hard x6 vr nw
                    have h7 : H7 D = some (.lst accV) := x5.hh D _ h6
                    have f5 : F5 D = none := x5.ap D _ h6 f4
                    have h8 : H8 D = some (.lst accV) := x7.hh D _ h7
                    have f7 : F7 D = none := x7.ap D _ h7 f5
                    have x27 : Ext F2 H2 F7 H8 := ((x3.trans x4).trans x5).trans x7
                    cases hrest : compL (stepC tgt mt me (wipeG G vs)) (ds.drop (i + 1)) with
                    | none =>
                      rw [hrest] at hc
                      cases hc
                    | some rest2 =>
                      rw [hrest] at hc
                      simp only [Option.some.injEq] at hc
                      subst hc
                      refine ⟨accV, h8, ?_, F7, acc ++ [yv], accV ++ [v], rest2, ⟨x27.ff, fun a o q => ?_, fun a o q => ?_, x27.ap⟩, f7, upd_same, dpAll_app (dpAll_mono ((x4.ff.trans x5.ff).trans x7.ff) _ _ ra) (.cons q7 .nil), ?_, rfl, ?_⟩
                      · rw [dpAll_len ra]
                        have := big_line hbig
                        omega
                      · rw [upd_ne (ne_of_none q f7)]
                        exact x27.fh a o q
                      · rw [upd_ne (ne_of_none q hD)]
                        exact x27.hh a o q
                      · rw [List.length_append]
                        exact Nat.succ_le_succ la
                      · rw [List.append_assoc]
                        exact hy
                  cases hme : me G1 with
                  | exc c pl =>
                    rw [hme] at hst
                    cases hst
                  | stuck =>
                    rw [hme] at hst
                    cases hst
                  | ok yv w =>
                    rw [hme] at hst
                    rw [← hme]
                    cases w with
                    | frz =>
                      simp only [EO.hard, Option.some.injEq] at hst
                      exact key yv .frz hme (fun n e => nomatch e) hst.symm
                    | new =>
                      simp only [EO.hard, Option.some.injEq] at hst
                      exact key yv .new hme (fun n e => nomatch e) hst.symm
                    | own n => cases hst
        · have e : i = ds.length := by omega
          subst e
          rw [List.drop_length] at hc
          cases hc
          rw [List.append_nil] at hy
          subst hy
          exact .inl ⟨io.stop F3 H5 x3.ff x3.fh x3.hh, p (.ref D) F3 H5 (x2.trans x3) ⟨D, accV, acc, rfl, rfl, x2.hh.free hD, f3, h5, ra⟩⟩
      · exact p.elim
    · exact p.elim
end
section
variable {X : Cx} {ct : Nat → Addr} {W : WX} {pos : Pos} {elt tg it : Expr} {ifs : List Expr} {scope : Scope} {mi : Gm → IC} {tgt : PyData → Gm → Option Gm} {mt : Gm → BO} {me : Gm → EO}
theorem ee_comp (N : List Str) (sc : Scope) (own : List (Str × Nat)) (hc : X.calm = true) (hN : X.N.Nodup) (ok : blkC N sc scope own = true) (hi : EC X tg it mi)
    (hg : ∀ (s : Shared) (H : Hp) (C : Addr) (cl : List (Str × Addr)) (fp : List Addr), EGW (X.blk s H scope (compEnvC scope cl C X.env) fp) (own.map (·.2)) tg tgt) (ht : ∀ (s : Shared) (H : Hp) (C : Addr) (cl : List (Str × Addr)) (fp : List Addr), ETs (X.blk s H scope (compEnvC scope cl C X.env) fp) ct W0 ifs mt)
    (he : ∀ (s : Shared) (H : Hp) (C : Addr) (cl : List (Str × Addr)) (fp : List Addr), EE (X.blk s H scope (compEnvC scope cl C X.env) fp) ct W0 elt me) (eN : X.N = N := by rfl) (eS : X.env.scope = sc := by rfl) (hs : ∀ x, foldedSetIterable it X.env x = pure x := by intro _; rfl) :
    EE X ct W (.ListComp elt [⟨tg, it, ifs, 0⟩] scope pos) (compE mi (own.map (·.2)) tgt mt me) := pe_imp (pe_lc (own := own) hc hN hi (blkOk_by (by rw [eN, eS]; exact ok)) hg ht he hs) fun σ H Q h => comp_of h
theorem es_asgC {i : Nat} {y : Str} {py spos : Pos} (N : List Str) (sc : Scope) (own : List (Str × Nat)) (hc : X.calm = true) (hN : X.N.Nodup) (ok : blkC N sc scope own = true)
    (hsw : swapsWith (.ListComp elt [⟨tg, it, ifs, 0⟩] scope pos) (some (.Name y py)) spos.line X.env = pure true) (hi : EC X tg it mi)
    (hg : ∀ (s : Shared) (H : Hp) (C : Addr) (cl : List (Str × Addr)) (fp : List Addr), EGW (X.blk s H scope (compEnvC scope cl C X.env) fp) (own.map (·.2)) tg tgt) (ht : ∀ (s : Shared) (H : Hp) (C : Addr) (cl : List (Str × Addr)) (fp : List Addr), ETs (X.blk s H scope (compEnvC scope cl C X.env) fp) ct W0 ifs mt)
    (he : ∀ (s : Shared) (H : Hp) (C : Addr) (cl : List (Str × Addr)) (fp : List Addr), EE (X.blk s H scope (compEnvC scope cl C X.env) fp) ct W0 elt me) (eN : X.N = N := by rfl) (eS : X.env.scope = sc := by rfl) (hy : X.N[i]? = some y := by rfl) (hyl : X.env.scope.names.lookup y = some .local := by rfl) (hs : ∀ x, foldedSetIterable it X.env x = pure x := by intro _; rfl) :
    ES X ct W (.Assign [.Name y py] (.ListComp elt [⟨tg, it, ifs, 0⟩] scope pos) spos) (asgS i (compE mi (own.map (·.2)) tgt mt me)) :=
  ps_imp (ps_setLc (own := own) hc hN hy hyl hsw hi (blkOk_by (by rw [eN, eS]; exact ok)) hg ht he hs) fun D σ H h => comp_of (asg_of h)
end
end VL

set_option Elab.async false
set_option linter.all false
set_option maxRecDepth 100000
/-! VI: the value layer: slices, lists that are changed, len, list, tuple. -/
namespace VL
open PySem L2
section
variable {X : Cx} {ct : Nat → Addr} {W : WX} {a b c e : Expr} {ma mb mc me : Gm → EO} {pos p2 : Pos}
/-! ### slices -/
def partN : Gm → Option (Option Int) := fun _ => some none
def partS (m : Gm → EO) : Gm → Option (Option Int) := fun G => match m G with
  | .ok (.int i) _ => some (some i)
  | _ => none
def tMO (K : PySem.W.Frag) (m : Gm → Option (Option Int)) : TO := fun σ H Q => ∃ F0 H0 F G, Rep K F0 H0 F H G σ ∧ match m G with
  | some o => ∀ F2 H2, Ext F H F2 H2 → Q o H2
  | none => False
abbrev EOp (X : Cx) (e : Option Expr) (m : Gm → Option (Option Int)) : Prop := PO X e (tMO X.K m)
theorem po_imp {e : Option Expr} {t t2 : TO} (h : PO X e t) (i : ∀ σ H Q, t2 σ H Q → t σ H Q) : PO X e t2 := ⟨fun pins s σ H Q I q => h.run pins s σ H Q I (i σ H Q q)⟩
theorem eo_none : EOp X none partN := po_imp po_none fun σ H Q ⟨F0, H0, F, G, r, p⟩ => p F H (Ext.refl r.fh)
theorem eo_some (he : EE X ct W0 e me) : EOp X (some e) (partS me) := po_imp (po_some he) fun σ H Q ⟨F0, H0, F, G, r, p⟩ => by
  refine ⟨F0, H0, F, G, r, ?_⟩
  unfold partS at p
  revert p
  cases me G with
  | ok d w =>
    cases d with
    | int i => exact fun p v F2 H2 x q => ⟨i, (VV.of x.fh q).int, p F2 H2 x⟩
    | none => exact fun p => p.elim
    | bool b => exact fun p => p.elim
    | str y => exact fun p => p.elim
    | list ds => exact fun p => p.elim
    | tuple ds => exact fun p => p.elim
    | dict ds => exact fun p => p.elim
  | exc c pl => exact fun p => p.elim
  | stuck => exact fun p => p.elim
def cutD (xs : List PyData) (lo hi : Option Int) : List PyData := (xs.drop (HT.sIx xs.length 0 lo)).take (HT.sIx xs.length xs.length hi - HT.sIx xs.length 0 lo)
theorem dpAll_cut {K : PySem.W.Frag} {H : Hp} {vs : List V} {ds : List PyData} {lo hi : Option Int} (r : DqAll K H vs ds) : DqAll K H (cutV vs lo hi) (cutD ds lo hi) := by
  unfold cutV cutD
  rw [dpAll_len r]
  exact dpAll_take _ (dpAll_drop _ r)
def gSl (d : PyData) (lo hi : Option Int) : EO := match d with
  | .list ds => .ok (.list (cutD ds lo hi)) .new
  | .tuple ds => .ok (.tuple (cutD ds lo hi)) .frz
  | .str x => if x.length ≤ big then .ok (.str (cutS x lo hi)) .frz else .stuck
  | _ => .stuck
def slE (me : Gm → EO) (ml mh : Gm → Option (Option Int)) : Gm → EO := fun G => (me G).bind fun d _ => match ml G, mh G with
  | some l, some u => gSl d l u
  | _, _ => .stuck
theorem ee_slice {lo hi : Option Expr} {ml mh : Gm → Option (Option Int)} (he : EE X ct W e me) (hl : EOp X lo ml) (hh : EOp X hi mh) : EE X ct W (.Subscript e (.Slice lo hi none p2) pos) (slE me ml mh) :=
  pe_imp (pe_slice (SlR.or sl_list (SlR.or sl_tupA sl_str)) he hl hh) fun σ H Q h => by
    refine tM_mono (tM_view (k := fun G d => match ml G, mh G with
      | some l, some u => gSl d l u
      | _, _ => .stuck) h) fun v H1 ⟨F0, H0, F1, G, d, rp, vv, p⟩ => ?_
    split at p
    · rename_i l u el eu
      refine ⟨F0, H0, F1, G, rp, ?_⟩
      rw [el]
      intro F2 H2 x2
      refine ⟨F0, H0, F2, G, rp.ext x2, ?_⟩
      rw [eu]
      intro F3 H3 x3
      have vv3 := (vv.mono x2).mono x3
      have p3 := post_ext p (x2.trans x3)
      unfold gSl at p3
      split at p3
      · obtain ⟨_, b, vs, rfl, h1, r1⟩ := vv3
        exact .inl ⟨b, vs, rfl, SqL.of h1, fun q hq => ok_newL x3.fh (dpAll_cut r1) p3 hq⟩
      · rename_i ds
        obtain ⟨_, b, vs, rfl, h1, r1⟩ := vv3
        refine .inr (.inl ⟨b, vs, rfl, SqT.of (x3.fh _ _ h1), fun hw => ?_, fun _ q hq => ok_newT x3.fh (dpAll_cut r1) p3 hq⟩)
        have e1 : cutD ds l u = ds := by
          unfold cutD
          rw [dpAll_len r1] at hw
          rw [hw.1, hw.2, List.drop_zero, Nat.sub_zero, List.take_length]
        rw [e1] at p3
        exact ok_frz x3.fh (.tup h1 r1) p3
      · split at p3
        · rename_i hz
          rw [vv3.str]
          exact .inr (.inr ⟨_, rfl, big_line hz, ok_frz x3.fh (.str _) p3⟩)
        · exact p3.elim
      · exact p3.elim
    · exact p.elim

/-! ### statements that change a list -/
theorem postS_hard {K : PySem.W.Frag} {F0 H0 F H : Hp} {G : Gm} {σ : St} {D : Ends} {o : EO} {k : PyData → SO} (r : Rep K F0 H0 F H G σ) (h : postS K ct W F0 H0 D F (o.hard.bindS G fun d _ => k d)) :
    post K ct W σ F H (fun v H1 => ∃ d F1, Ext F H F1 H1 ∧ Dq K F1 v d ∧ Rep K F0 H0 F1 H1 G σ ∧ postS K ct W F0 H0 D F1 (k d)) o := by
  cases o with
  | ok d w =>
    cases w with
    | frz => exact fun v F1 H1 x q => ⟨d, F1, x, q, r.ext x, postS_same (o := k d) h x.ff⟩
    | new =>
      intro v F1 H1 x q
      obtain ⟨F3, x3, _, r3⟩ := vr_hard x q (fun i e => nomatch e)
      exact ⟨d, F3, x3, r3, r.ext x3, postS_same (o := k d) h x3.ff⟩
    | own i => exact h.elim
  | exc c pl => exact fun cls dd F1 H1 x q => h cls dd σ F1 H1 x.ff (r.ext x) q
  | stuck => exact h
def appS (j : Nat) (me : Gm → EO) : Gm → SO := fun G => match G[j]? with
  | some (some (.own ds)) => (me G).hard.bindS G fun d _ => if ds.length < big then .next (G.set j (some (.own (ds ++ [d])))) else .stuck
  | _ => .stuck
def extS (j : Nat) (me : Gm → EO) : Gm → SO := fun G => match G[j]? with
  | some (some (.own ds)) => (me G).hard.bindS G fun d _ => match d with
    | .list es => if ds.length + es.length ≤ big then .next (G.set j (some (.own (ds ++ es)))) else .stuck
    | _ => .stuck
  | _ => .stuck
theorem big_lt {n : Nat} (h : n < big) : n < sizeLine := Nat.lt_of_lt_of_le h (by decide)
variable {x : Str} {j : Nat} {px apos : Pos}
theorem es_append (he : EE X ct W e me) (hj : X.N[j]? = some x := by rfl) (hv : Vis X.env.scope x := by first | exact Or.inl rfl | exact Or.inr (Or.inl rfl)) (hd : (x == ("__debug__" : Str)) = false := by decide) (hcd : (x == ("__classdict__" : Str)) = false := by decide)
    (hs1 : starEach [e] X.env = (false, eval e X.env) :: starEach [] X.env := by rfl) (hline : (apos.endLine == p2.line) = true := by rfl) :
    ES X ct W (.Expr (.Call (.Attribute (.Name x px) "append" apos) [e] [] p2) pos) (appS j me) :=
  ps_imp (ps_expr (pe_bm PySem.F.plainAttrs_list PySem.F.slot_list_append PySem.F.type_list_append mt_append (pe_var hj hv hd hcd) (pa_cons he pa_nil hs1) (hline := hline) (hs := hs1) (hfew := by rw [hs1] <;> rfl))) fun D σ H ⟨F0, H0, F, G, r, p⟩ => by
    unfold appS at p
    split at p
    · rename_i ds e
      obtain ⟨v, hv, q, vs, rfl, h0, hf, hp, ha⟩ := r.slot j _ e
      refine ⟨_, hv, .inl ⟨rfl, vs, SqL.of hp⟩, F0, H0, F, G, r, post_mono (postS_hard r p) fun y H1 ⟨d, F1, x1, ry, r1, p1⟩ => ?_⟩
      split at p1
      · rename_i hz
        refine ⟨q, vs, y, rfl, rfl, x1.hh _ _ hp, by rw [dpAll_len ha]; exact big_lt hz, ?_⟩
        exact p1 σ F1 _ (Same.refl _) (r1.mut e hv (dpAll_app (dpAll_mono x1.ff _ _ ha) (.cons ry .nil)))
      · exact p1.elim
    · exact p.elim
theorem es_extend (he : EE X ct W e me) (hj : X.N[j]? = some x := by rfl) (hv : Vis X.env.scope x := by first | exact Or.inl rfl | exact Or.inr (Or.inl rfl)) (hd : (x == ("__debug__" : Str)) = false := by decide) (hcd : (x == ("__classdict__" : Str)) = false := by decide)
    (hs1 : starEach [e] X.env = (false, eval e X.env) :: starEach [] X.env := by rfl) (hline : (apos.endLine == p2.line) = true := by rfl) :
    ES X ct W (.Expr (.Call (.Attribute (.Name x px) "extend" apos) [e] [] p2) pos) (extS j me) :=
  ps_imp (ps_expr (pe_bm PySem.F.plainAttrs_list PySem.F.slot_list_extend PySem.F.type_list_extend mt_extend (pe_var hj hv hd hcd) (pa_cons he pa_nil hs1) (hline := hline) (hs := hs1) (hfew := by rw [hs1] <;> rfl))) fun D σ H ⟨F0, H0, F, G, r, p⟩ => by
    unfold extS at p
    split at p
    · rename_i ds e
      obtain ⟨v, hv, q, vs, rfl, h0, hf, hp, ha⟩ := r.slot j _ e
      refine ⟨_, hv, .inl ⟨rfl, vs, SqL.of hp⟩, F0, H0, F, G, r, post_mono (postS_hard (k := fun d => match d with
        | .list es => if ds.length + es.length ≤ big then .next (G.set j (some (.own (ds ++ es)))) else .stuck
        | _ => .stuck) r p) fun y H1 ⟨d, F1, x1, ry, r1, p1⟩ => ?_⟩
      split at p1
      · split at p1
        · rename_i hz
          cases ry with
          | lst hs ra =>
            refine ⟨q, _, vs, _, rfl, rfl, x1.hh _ _ hp, x1.fh _ _ hs, by rw [dpAll_len ha, dpAll_len ra]; exact big_line hz, ?_⟩
            exact p1 σ F1 _ (Same.refl _) (r1.mut e hv (dpAll_app (dpAll_mono x1.ff _ _ ha) ra))
        · exact p1.elim
      · exact p1.elim
    · exact p.elim
def setS (j : Nat) (mi me : Gm → EO) : Gm → SO := fun G => (me G).hard.bindS G fun d _ => match G[j]? with
  | some (some (.own ds)) => (mi G).bindS G fun k _ => match k with
    | .int n => match ixN ds.length n with
      | some m => .next (G.set j (some (.own (ds.set m d))))
      | none => .stuck
    | _ => .stuck
  | _ => .stuck
theorem es_setitem {i : Expr} {mi : Gm → EO} (he : EE X ct W e me) (hi : EE X ct W i mi) (hj : X.N[j]? = some x := by rfl) (hv : Vis X.env.scope x := by first | exact Or.inl rfl | exact Or.inr (Or.inl rfl)) (hd : (x == ("__debug__" : Str)) = false := by decide) (hcd : (x == ("__classdict__" : Str)) = false := by decide)
    (ha : ∀ v, assign (.Subscript (.Name x px) i p2) X.env v = (do
      let ov ← holding [v] (eval (.Name x px) X.env)
      let iv ← holding [v, ov] (eval i X.env)
      standAt p2
      holding [v, ov, iv] (setItem ov iv v)
      release [v, ov, iv] []) := by intro _; rfl)
    (hs : swapsWithSole [.Subscript (.Name x px) i p2] e pos.line X.env = pure false := by rfl) (hw : swappedStores [.Subscript (.Name x px) i p2] e X.env = pure none := by rfl) :
    ES X ct W (.Assign [.Subscript (.Name x px) i p2] e pos) (setS j mi me) :=
  ps_imp (ps_asg he (pg_sub (pe_var hj hv hd hcd) hi set_list ha) hs hw) fun D σ H ⟨F0, H0, F, G, r, p⟩ => by
    refine ⟨F0, H0, F, G, r, post_mono (postS_hard (k := fun d => match G[j]? with
      | some (some (.own ds)) => (mi G).bindS G fun k _ => match k with
        | .int n => match ixN ds.length n with
          | some m => .next (G.set j (some (.own (ds.set m d))))
          | none => .stuck
        | _ => .stuck
      | _ => .stuck) r p) fun y H1 ⟨d, F1, x1, ry, r1, p1⟩ => ?_⟩
    split at p1
    · rename_i ds e
      obtain ⟨v, hv, q, vs, rfl, h0, hf, hp, ha⟩ := r1.slot j _ e
      refine ⟨_, hv, F0, H0, F1, G, r1, post_mono (post_S (k := fun k _ => match k with
        | .int n => match ixN ds.length n with
          | some m => .next (G.set j (some (.own (ds.set m d))))
          | none => .stuck
        | _ => .stuck) r1 p1) fun u H2 ⟨dk, w, F2, x2, ru, r2, p2⟩ => ?_⟩
      have vu := VV.of x2.fh ru
      split at p2
      · split at p2
        · rename_i hm
          rw [vu.int]
          refine ⟨q, vs, _, _, rfl, rfl, x2.hh _ _ hp, by rw [dpAll_len ha]; exact hm, ?_⟩
          exact p2 σ F2 _ (Same.refl _) (r2.mut e hv (dpAll_set (dp_mono x2.ff _ _ ry) _ (dpAll_mono x2.ff _ _ ha)))
        · exact p2.elim
      · exact p2.elim
    · exact p1.elim

/-! ### expressions that change a list: x.pop(), x.pop(i) -/
inductive XO where
  | ok (d : PyData) (G : Gm) | exc (c : Nat) (pl : Option PyData) | stuck
def postX (K : PySem.W.Frag) (ct : Nat → Addr) (W : WX) (F0 H0 : Hp) (σ : St) (F H : Hp) (Q : VK) : XO → Prop
  | .ok d G2 => ∀ v F2 H2, Same F F2 → Rep K F0 H0 F2 H2 G2 σ → Dq K F2 v d → Q v H2
  | .exc c pl => ∀ cls dd F2 H2, Ext F H F2 H2 → XR K ct F2 H2 c pl cls dd → W cls dd σ H2
  | .stuck => False
def tMX (K : PySem.W.Frag) (ct : Nat → Addr) (W : WX) (m : Gm → XO) : TE := fun σ H Q => ∃ F0 H0 F G, Rep K F0 H0 F H G σ ∧ postX K ct W F0 H0 σ F H Q (m G)
abbrev EX (X : Cx) (ct : Nat → Addr) (W : WX) (e : Expr) (m : Gm → XO) : Prop := PE X e (tMX X.K ct W m)
def popX (j : Nat) : Gm → XO := fun G => match G[j]? with
  | some (some (.own ds)) => match ds[ds.length - 1]? with
    | some d => .ok d (G.set j (some (.own ds.dropLast)))
    | none => .stuck
  | _ => .stuck
def popAtX (j : Nat) (mi : Gm → EO) : Gm → XO := fun G => match G[j]?, mi G with
  | some (some (.own ds)), .ok (.int i) _ => if 0 ≤ i ∧ i < ds.length ∧ ds.length ≤ big then match ds[i.toNat]? with
      | some d => .ok d (G.set j (some (.own (ds.eraseIdx i.toNat))))
      | none => .stuck else .stuck
  | _, _ => .stuck
theorem dpAll_dropLast {K : PySem.W.Frag} {H : Hp} {vs : List V} {ds : List PyData} (r : DqAll K H vs ds) : DqAll K H vs.dropLast ds.dropLast := by
  rw [List.dropLast_eq_take, List.dropLast_eq_take, dpAll_len r]
  exact dpAll_take _ r
theorem dpAll_erase {K : PySem.W.Frag} {H : Hp} : ∀ {vs : List V} {ds : List PyData} (n : Nat), DqAll K H vs ds → DqAll K H (vs.eraseIdx n) (ds.eraseIdx n)
  | _, _, _, .nil => .nil
  | _, _, 0, .cons _ t => t
  | _, _, n + 1, .cons q t => .cons q (dpAll_erase n t)
theorem ex_pop (hj : X.N[j]? = some x := by rfl) (hv : Vis X.env.scope x := by first | exact Or.inl rfl | exact Or.inr (Or.inl rfl)) (hd : (x == ("__debug__" : Str)) = false := by decide) (hcd : (x == ("__classdict__" : Str)) = false := by decide)
    (hline : (apos.endLine == p2.line) = true := by rfl) : EX X ct W (.Call (.Attribute (.Name x px) "pop" apos) [] [] p2) (popX j) :=
  pe_imp (pe_bm0 PySem.F.plainAttrs_list PySem.F.slot_list_pop PySem.F.type_list_pop mt_pop (pe_var hj hv hd hcd) (hline := hline)) fun σ H Q ⟨F0, H0, F, G, r, p⟩ => by
    unfold popX at p
    split at p
    · rename_i ds e
      obtain ⟨v, hv, q, vs, rfl, h0, hf, hp, ha⟩ := r.slot j _ e
      split at p
      · rename_i d hd
        obtain ⟨y, hy, ry⟩ := dpAll_get ha hd
        refine ⟨_, hv, .inl ⟨rfl, vs, SqL.of hp⟩, q, vs, y, rfl, rfl, hp, by rw [dpAll_len ha]; exact hy, ?_⟩
        exact p y F _ (Same.refl _) (r.mut e hv (dpAll_dropLast ha)) ry
      · exact p.elim
    · exact p.elim
theorem ex_popAt {i : Expr} {mi : Gm → EO} (hi : EE X ct W i mi) (hj : X.N[j]? = some x := by rfl) (hv : Vis X.env.scope x := by first | exact Or.inl rfl | exact Or.inr (Or.inl rfl)) (hd : (x == ("__debug__" : Str)) = false := by decide) (hcd : (x == ("__classdict__" : Str)) = false := by decide)
    (hs1 : starEach [i] X.env = (false, eval i X.env) :: starEach [] X.env := by rfl) (hline : (apos.endLine == p2.line) = true := by rfl) : EX X ct W (.Call (.Attribute (.Name x px) "pop" apos) [i] [] p2) (popAtX j mi) :=
  pe_imp (pe_bm PySem.F.plainAttrs_list PySem.F.slot_list_pop PySem.F.type_list_pop mt_popAt (pe_var hj hv hd hcd) (pa_cons hi pa_nil hs1) (hline := hline) (hs := hs1) (hfew := by rw [hs1] <;> rfl)) fun σ H Q ⟨F0, H0, F, G, r, p⟩ => by
    unfold popAtX at p
    split at p
    · rename_i ds n w e em
      obtain ⟨v, hv, q, vs, rfl, h0, hf, hp, ha⟩ := r.slot j _ e
      split at p
      · rename_i hc
        split at p
        · rename_i d hd
          refine ⟨_, hv, .inl ⟨rfl, vs, SqL.of hp⟩, F0, H0, F, G, r, ?_⟩
          rw [em]
          intro u F1 H1 x1 ru
          obtain ⟨y, hy, ry⟩ := dpAll_get ha hd
          rw [(VV.of x1.fh ru).int]
          have hl := dpAll_len ha
          have hb : ds.length ≤ 1000000 := hc.2.2
          refine ⟨q, vs, n, n.toNat, y, rfl, rfl, x1.hh _ _ hp, by omega, by omega, PySem.seqIndex_of hc.1 (by rw [hl]; exact hc.2.1), hy, ?_⟩
          exact p y F1 _ x1.ff ((r.ext x1).mut e hv (dpAll_erase _ (dpAll_mono x1.ff _ _ ha))) (dp_mono x1.ff _ _ ry)
        · exact p.elim
      · exact p.elim
    · exact p.elim
end
end VL

set_option Elab.async false
set_option linter.all false
set_option maxRecDepth 100000
/-! VJ: the value layer: calls of built-ins, of defs; defs; raise. -/
namespace VL
open PySem L2
section
variable {X : Cx} {ct : Nat → Addr} {W : WX} {a b c e : Expr} {ma mb mc me : Gm → EO} {pos p : Pos} {x : Str}
/-! ### built-ins of one argument -/
def GC1 (K : PySem.W.Frag) (r : List V → Hp → VK → Prop) (g : PyData → EO) : Prop := ∀ (ct : Nat → Addr) (W : WX) (σ : St) (F H : Hp) (v : V) (d : PyData) (Q : VK), Same F H → VV K F H v d → post K ct W σ F H Q (g d) → r [v] H Q
theorem ee_b1 {id : String} {r : List V → Hp → VK → Prop} {g : PyData → EO} (hc : CallR X (.builtin id) r) (hgr : GC1 X.K r g) (hm : X.mg x = none) (hv : bootBuiltins x = some (.builtin id)) (ha : EE X ct W a ma) (hg : Gl X x := by rfl) (hn : x ≠ "__name__" := by decide) (hdb : (x == ("__debug__" : Str)) = false := by decide)
    (hs : starEach [a] X.env = (false, eval a X.env) :: starEach [] X.env := by rfl) (hpl : (backTo pos (starEach [] X.env)).any (·.1) = false := by rfl) : EE X ct W (.Call (.Name x p) [a] [] pos) (op1 g ma) :=
  pe_imp (pe_callB hc hg hm hv (pa_cons ha pa_nil hs) hn hdb hs hpl) fun σ H Q h => tM_mono (tM_view (k := fun _ d => g d) h) fun v H1 ⟨F0, H0, F1, G, d, rp, vv, q⟩ => hgr ct W σ F1 H1 v d Q rp.fh vv q
theorem ee_t1 {T : String} {r : List V → Hp → VK → Prop} {g : PyData → EO} (hc : CallR X (.type T) r) (hgr : GC1 X.K r g) (hm : X.mg x = none) (hv : bootBuiltins x = some (.type T)) (ha : EE X ct W a ma) (hg : Gl X x := by rfl) (hn : x ≠ "__name__" := by decide) (hdb : (x == ("__debug__" : Str)) = false := by decide)
    (hs : starEach [a] X.env = (false, eval a X.env) :: starEach [] X.env := by rfl) (hpl : (backTo pos (starEach [] X.env)).any (·.1) = false := by rfl) : EE X ct W (.Call (.Name x p) [a] [] pos) (op1 g ma) :=
  pe_imp (pe_callTy hc hg hm hv (pa_cons ha pa_nil hs) hn hdb hs hpl) fun σ H Q h => tM_mono (tM_view (k := fun _ d => g d) h) fun v H1 ⟨F0, H0, F1, G, d, rp, vv, q⟩ => hgr ct W σ F1 H1 v d Q rp.fh vv q
def gLen : PyData → EO
  | .list ds => .ok (.int ds.length) .frz
  | .tuple ds => .ok (.int ds.length) .frz
  | .dict ds => .ok (.int ds.length) .frz
  | .str x => if x.length ≤ big then .ok (.int x.length) .frz else .stuck
  | _ => .stuck
theorem g_len {K : PySem.W.Frag} : GC1 K (fun xs H Q => ∃ x n, xs = [x] ∧ LenV K x H n ∧ Q (.int n) H) gLen := by
  intro ct W σ F H v d Q fh vv p
  unfold gLen at p
  split at p
  · obtain ⟨_, b, vs, rfl, h1, r1⟩ := vv
    exact ⟨_, _, rfl, .inl ⟨vs, SqL.of h1, rfl⟩, ok_frz fh (.int _) (by rw [dpAll_len r1]; exact p)⟩
  · obtain ⟨_, b, vs, rfl, h1, r1⟩ := vv
    exact ⟨_, _, rfl, .inr ⟨vs, SqT.of (fh _ _ h1), rfl⟩, ok_frz fh (.int _) (by rw [dpAll_len r1]; exact p)⟩
  · have hd := vv.1
    clear vv
    cases hd with
    | @scr b ns hs =>
      rw [List.length_map] at p
      exact ⟨_, _, rfl, .inl ⟨_, hs, rfl⟩, ok_frz fh (.int _) (by rw [List.length_map]; exact p)⟩
  · split at p
    · rename_i hz
      rw [vv.str]
      exact ⟨_, _, rfl, ⟨big_line hz, rfl⟩, ok_frz fh (.int _) p⟩
    · exact p.elim
  · exact p.elim
theorem ee_len (hm : X.mg "len" = none) (ha : EE X ct W a ma) (hg : Gl X "len" := by rfl) (hs : starEach [a] X.env = (false, eval a X.env) :: starEach [] X.env := by rfl) : EE X ct W (.Call (.Name "len" p) [a] [] pos) (op1 gLen ma) := ee_b1 call_len g_len hm PySem.boot_len ha hg (hs := hs)
def gList : PyData → EO
  | .list ds => .ok (.list ds) .new
  | .tuple ds => .ok (.list ds) .new
  | _ => .stuck
theorem g_list {K : PySem.W.Frag} : GC1 K (fun xs H Q => ∃ p ys, xs = [.ref p] ∧ (SqL K H p ys ∨ SqT K H p ys) ∧ ∀ l, H l = none → Q (.ref l) (upd H l (.lst ys))) gList := by
  intro ct W σ F H v d Q fh vv p
  unfold gList at p
  split at p
  · obtain ⟨_, b, vs, rfl, h1, r1⟩ := vv
    exact ⟨b, vs, rfl, .inl (SqL.of h1), fun q hq => ok_newL fh r1 p hq⟩
  · obtain ⟨_, b, vs, rfl, h1, r1⟩ := vv
    exact ⟨b, vs, rfl, .inr (SqT.of (fh _ _ h1)), fun q hq => ok_newL fh r1 p hq⟩
  · exact p.elim
def gTuple : PyData → EO
  | .list ds => .ok (.tuple ds) .frz
  | .tuple ds => .ok (.tuple ds) .frz
  | _ => .stuck
theorem g_tuple {K : PySem.W.Frag} : GC1 K (fun xs H Q => ∃ p ys, xs = [.ref p] ∧ ((SqL K H p ys ∧ ∀ l, H l = none → Q (.ref l) (upd H l (.tup ys))) ∨ (SqT K H p ys ∧ Q (.ref p) H))) gTuple := by
  intro ct W σ F H v d Q fh vv p
  unfold gTuple at p
  split at p
  · obtain ⟨_, b, vs, rfl, h1, r1⟩ := vv
    exact ⟨b, vs, rfl, .inl ⟨SqL.of h1, fun q hq => ok_newT fh r1 p hq⟩⟩
  · obtain ⟨_, b, vs, rfl, h1, r1⟩ := vv
    exact ⟨b, vs, rfl, .inr ⟨SqT.of (fh _ _ h1), ok_frz fh (.tup h1 r1) p⟩⟩
  · exact p.elim
theorem ee_list (hm : X.mg "list" = none) (ha : EE X ct W a ma) (hg : Gl X "list" := by rfl) (hs : starEach [a] X.env = (false, eval a X.env) :: starEach [] X.env := by rfl) : EE X ct W (.Call (.Name "list" p) [a] [] pos) (op1 gList ma) := ee_t1 call_list_of g_list hm (by decide +kernel) ha hg (hs := hs)
theorem ee_tuple (hm : X.mg "tuple" = none) (ha : EE X ct W a ma) (hg : Gl X "tuple" := by rfl) (hs : starEach [a] X.env = (false, eval a X.env) :: starEach [] X.env := by rfl) : EE X ct W (.Call (.Name "tuple" p) [a] [] pos) (op1 gTuple ma) := ee_t1 call_tuple_of g_tuple hm (by decide +kernel) ha hg (hs := hs)
def gInt1 : PyData → EO
  | .int i => .ok (.int i) .frz
  | .bool k => .ok (.int (if k = true then 1 else 0)) .frz
  | _ => .stuck
theorem g_int1 {K : PySem.W.Frag} : GC1 K (fun xs H Q => (∃ i, xs = [.int i] ∧ Q (.int i) H) ∨ ∃ k, xs = [.bl k] ∧ Q (.int (if k = true then 1 else 0)) H) gInt1 := by
  intro ct W σ F H v d Q fh vv p
  unfold gInt1 at p
  split at p
  · rw [vv.int]
    exact .inl ⟨_, rfl, ok_frz fh (.int _) p⟩
  · rw [vv.bl]
    exact .inr ⟨_, rfl, ok_frz fh (.int _) p⟩
  · exact p.elim
theorem ee_int1 (hm : X.mg "int" = none) (ha : EE X ct W a ma) (hg : Gl X "int" := by rfl) (hs : starEach [a] X.env = (false, eval a X.env) :: starEach [] X.env := by rfl) : EE X ct W (.Call (.Name "int" p) [a] [] pos) (op1 gInt1 ma) := ee_t1 call_int1 g_int1 hm (by decide +kernel) ha hg (hs := hs)
def gStr1 : PyData → EO
  | .int i => if i.natAbs < 1000000 then .ok (.str (toString i)) .frz else .stuck
  | _ => .stuck
theorem log_small {n : Nat} (h : n < 1000000) : n.log2 < 1920 := by
  by_cases h0 : n = 0
  · subst h0
    decide
  · exact Nat.lt_of_lt_of_le ((Nat.log2_lt h0).mpr (Nat.lt_of_lt_of_le h (by decide : 1000000 ≤ 2 ^ 20))) (by decide)
theorem g_str1 {K : PySem.W.Frag} : GC1 K (fun xs H Q => ∃ i : Int, xs = [.int i] ∧ i.natAbs.log2 < 1920 ∧ Q (.str (toString i)) H) gStr1 := by
  intro ct W σ F H v d Q fh vv p
  unfold gStr1 at p
  split at p
  · split at p
    · rename_i hz
      rw [vv.int]
      exact ⟨_, rfl, log_small hz, ok_frz fh (.str _) p⟩
    · exact p.elim
  · exact p.elim
theorem ee_str1 (hm : X.mg "str" = none) (ha : EE X ct W a ma) (hg : Gl X "str" := by rfl) (hs : starEach [a] X.env = (false, eval a X.env) :: starEach [] X.env := by rfl) : EE X ct W (.Call (.Name "str" p) [a] [] pos) (op1 gStr1 ma) := ee_t1 call_str_int g_str1 hm (by decide +kernel) ha hg (hs := hs)

/-! ### list(range(..)), tuple(range(..)) -/
def rgLE (m : Gm → Option (List PyData)) : Gm → EO := fun G => match m G with
  | some ds => .ok (.list ds) .new
  | none => .stuck
def rgTE (m : Gm → Option (List PyData)) : Gm → EO := fun G => match m G with
  | some ds => .ok (.tuple ds) .frz
  | none => .stuck
theorem rgV_dq {K : PySem.W.Frag} {F : Hp} (lo : Int) : ∀ n : Nat, DqAll K F ((List.range n).map fun i => V.int (lo + (i : Nat))) (rgD lo n)
  | 0 => .nil
  | n + 1 => by
    unfold rgD
    rw [List.range_succ, List.map_append, List.map_append]
    exact dpAll_app (rgV_dq lo n) (.cons (.int _) .nil)
theorem ee_listRg {p2 pos2 : Pos} (hc : X.calm = true) (hm : X.mg "list" = none) (hm2 : X.mg "range" = none) (ha : EE X ct W a ma) (hg : Gl X "list" := by rfl) (hg2 : Gl X "range" := by rfl) (na : starEach [a] X.env = (false, eval a X.env) :: starEach [] X.env := by rfl)
    (na2 : starEach [.Call (.Name "range" p2) [a] [] pos2] X.env = (false, eval (.Call (.Name "range" p2) [a] [] pos2) X.env) :: starEach [] X.env := by rfl) :
    EE X ct W (.Call (.Name "list" p) [.Call (.Name "range" p2) [a] [] pos2] [] pos) (rgLE (rg1 ma)) :=
  pe_imp (pe_listRg hc hg hm (prg_1 hg2 hm2 ha na) na2) fun σ H Q ⟨F0, H0, F, G, r, q⟩ => by
    refine ⟨F0, H0, F, G, r, ?_⟩
    unfold rgLE rg1 at q
    revert q
    cases ma G with
    | ok d w =>
      cases d with
      | int n =>
        intro q v F1 H1 x rv
        simp only at q
        rw [(VV.of x.fh rv).int]
        by_cases hz : n.natAbs ≤ 1000000
        · rw [if_pos hz] at q
          refine ⟨n, rfl, ⟨by decide, by decide, by omega, by omega, by omega⟩, fun l hl => ?_⟩
          have e : rgV 0 n = (List.range n.toNat).map fun i => V.int (0 + (i : Nat)) := by unfold rgV; rw [Int.sub_zero]
          rw [e]
          exact ok_newL x.fh (rgV_dq 0 n.toNat) (post_ext q x) hl
        · rw [if_neg hz] at q
          exact q.elim
      | none => exact fun q => q.elim
      | bool b => exact fun q => q.elim
      | str y => exact fun q => q.elim
      | list ds => exact fun q => q.elim
      | tuple ds => exact fun q => q.elim
      | dict ds => exact fun q => q.elim
    | exc c pl => exact fun q => q.elim
    | stuck => exact fun q => q.elim
theorem ee_tupRg {p2 pos2 : Pos} (hc : X.calm = true) (hm : X.mg "tuple" = none) (hm2 : X.mg "range" = none) (ha : EE X ct W a ma) (hg : Gl X "tuple" := by rfl) (hg2 : Gl X "range" := by rfl) (na : starEach [a] X.env = (false, eval a X.env) :: starEach [] X.env := by rfl)
    (na2 : starEach [.Call (.Name "range" p2) [a] [] pos2] X.env = (false, eval (.Call (.Name "range" p2) [a] [] pos2) X.env) :: starEach [] X.env := by rfl) :
    EE X ct W (.Call (.Name "tuple" p) [.Call (.Name "range" p2) [a] [] pos2] [] pos) (rgTE (rg1 ma)) :=
  pe_imp (pe_tupRg hc hg hm (prg_1 hg2 hm2 ha na) na2) fun σ H Q ⟨F0, H0, F, G, r, q⟩ => by
    refine ⟨F0, H0, F, G, r, ?_⟩
    unfold rgTE rg1 at q
    revert q
    cases ma G with
    | ok d w =>
      cases d with
      | int n =>
        intro q v F1 H1 x rv
        simp only at q
        rw [(VV.of x.fh rv).int]
        by_cases hz : n.natAbs ≤ 1000000
        · rw [if_pos hz] at q
          refine ⟨n, rfl, ⟨by decide, by decide, by omega, by omega, by omega⟩, fun l hl => ?_⟩
          have e : rgV 0 n = (List.range n.toNat).map fun i => V.int (0 + (i : Nat)) := by unfold rgV; rw [Int.sub_zero]
          rw [e]
          exact ok_newT x.fh (rgV_dq 0 n.toNat) (post_ext q x) hl
        · rw [if_neg hz] at q
          exact q.elim
      | none => exact fun q => q.elim
      | bool b => exact fun q => q.elim
      | str y => exact fun q => q.elim
      | list ds => exact fun q => q.elim
      | tuple ds => exact fun q => q.elim
      | dict ds => exact fun q => q.elim
    | exc c pl => exact fun q => q.elim
    | stuck => exact fun q => q.elim

/-! ### isinstance -/
def tyD : PyData → Option String
  | .none => some "NoneType"
  | .bool _ => some "bool"
  | .int _ => some "int"
  | .str _ => some "str"
  | .list _ => some "list"
  | .tuple _ => some "tuple"
  | .dict _ => none
end

/-! ### defs -/
def postF (K : PySem.W.Frag) (ct : Nat → Addr) (F H : Hp) (Q : VK) (E : XK) : FO → Prop
  | .ok d => ∀ v F2 H2, Ext F H F2 H2 → Dq K F2 v d → Q v H2
  | .exc c pl => ∀ cls dd F2 H2, Ext F H F2 H2 → XR K ct F2 H2 c pl cls dd → E cls dd H2
  | .stuck => False
/-- the promise: data in, data out -/
def spM (K : PySem.W.Frag) (ct : Nat → Addr) (f : List PyData → FO) : Sp := fun vs H Q E => ∃ F ds, Same F H ∧ DqAll K F vs ds ∧ postF K ct F H Q E (f ds)
def callE (f : List PyData → FO) (ms : Gm → AO) : Gm → EO := fun G => (ms G).bindE fun ds => (f ds).toE
def startG (n : Nat) (ds : List PyData) : Gm := ds.map (fun d => some (.dat d)) ++ List.replicate (n - ds.length) none
/-- a def's worth by its body's: n slots, k parameters -/
def defM (n k : Nat) (m : Gm → SO) : List PyData → FO := fun ds => if ds.length = k then match m (startG n ds) with
  | .ret d => .ok d
  | .next _ => .ok .none
  | .exc c pl _ => .exc c pl
  | _ => .stuck else .stuck
section
variable {X : Cx} {ct : Nat → Addr} {W : WX} {e : Expr} {es : List Expr} {ms : Gm → AO} {pos p : Pos} {x : Str} {k j : Nat} {f : Addr} {fd : FuncData} {ps : List Str} {fm : List PyData → FO}
theorem call_of {K : PySem.W.Frag} {σ : St} {H : Hp} {Q : VK} (h : tM K ct W (callE fm ms) σ H Q) : tCallS (spM K ct fm) (WE W) (tMA K ct W ms) σ H Q := by
  obtain ⟨F0, H0, F, G, r, p⟩ := h
  refine ⟨F0, H0, F, G, r, postA_mono (postA_bindE p) fun vs H1 ⟨ds, F1, x, ra, p2⟩ => ⟨F1, ds, x.fh, ra, ?_⟩⟩
  revert p2
  cases fm ds with
  | ok d => exact fun p2 v F2 H2 x2 q => p2 v F2 H2 x2 q
  | exc c pl => exact fun p2 => p2
  | stuck => exact fun p2 => p2
theorem ee_call (F : FnOk X.prog X.w X.K X.mg X.base (L2.CX X.prog X.w) j f fd ps (spM X.K ct fm)) (hr : Room k X.A) (hjk : j ≤ k) (hm : X.mg x = some (.ref f)) (hk : PySem.W.keepIn X.K (.ref f) = true) (hb : Binds X.K fd ps []) (tk : Takes X W) (ha : EA X ct W (e :: es) ms)
    (hg : Gl X x := by rfl) (hdb : (x == ("__debug__" : Str)) = false := by decide) (he : starEach (e :: es) X.env = (false, eval e X.env) :: starEach es X.env := by rfl) (hpl : (backTo pos (starEach es X.env)).any (·.1) = false := by rfl) :
    EE X ct W (.Call (.Name x p) (e :: es) [] pos) (callE fm ms) := pe_imp (pe_callS F (hr.mono hjk) hg hm hk hb (fun σ => passAt tk σ) ha hdb he hpl) fun σ H Q h => call_of h
end
section
variable {P : Program} {w : World} {K : PySem.W.Frag} {mg : Str → Option Value} {base : Heap}
theorem rep_start {F H : Hp} {N : List Str} {vs : List V} {ds : List PyData} (fh : Same F H) (ra : DqAll K F vs ds) : Rep K F H F H (startG N.length ds) (L2.start N vs) where
  fh := fh
  hh := Same.refl _
  ff := Same.refl _
  ap := fun _ _ _ e => e
  len := by
    unfold startG L2.start
    rw [List.length_append, List.length_append, List.length_map, List.length_map, List.length_replicate, List.length_replicate, dpAll_len ra]
  slot := fun i s h => by
    unfold startG at h
    by_cases hi : i < ds.length
    · rw [List.getElem?_append_left (by simpa using hi), List.getElem?_map] at h
      cases e : ds[i]? with
      | none => rw [e] at h; cases h
      | some d =>
        rw [e] at h
        cases h
        obtain ⟨v, hv, rv⟩ := dpAll_get ra e
        refine ⟨v, ?_, rv⟩
        unfold L2.start
        rw [List.getElem?_append_left (by rw [List.length_map, dpAll_len ra]; exact hi), List.getElem?_map, hv]
        rfl
    · rw [List.getElem?_append_right (by simpa using hi), List.getElem?_replicate] at h
      split at h <;> cases h
  dist := fun i j v ne h1 h2 e1 e2 => by
    obtain ⟨es, h⟩ := isOwn_ex h1
    unfold startG at h
    by_cases hi : i < ds.length
    · rw [List.getElem?_append_left (by simpa using hi), List.getElem?_map] at h
      cases e : ds[i]? with
      | none => rw [e] at h; cases h
      | some d => rw [e] at h; cases h
    · rw [List.getElem?_append_right (by simpa using hi), List.getElem?_replicate] at h
      split at h <;> cases h
/-- the wish of a def about what it lets out -/
abbrev WD (E : XK) : WX := fun cls d _ H => E cls d H
/-- THE RULE for a def -/
theorem fn_ok {x qual : Str} {st : Stmt} {f : Addr} {fd : FuncData} {N ps : List Str} {k : Nat} {ct : Nat → Addr} {m : Gm → SO} (F : Fun K x qual st f fd) (S : FnScope N ps (defScope st))
    (hb : ∀ (cdv : Value) (A : Around) (outer : List Env) (s : Shared) (H : Hp) (E : XK), Room k (cxOf (L2.CX P w) P w K mg base N qual (defScope st) f cdv A outer s H E).A →
      Takes (cxOf (L2.CX P w) P w K mg base N qual (defScope st) f cdv A outer s H E) (WD E) →
      PassesOwn (model P w) (cxOf (L2.CX P w) P w K mg base N qual (defScope st) f cdv A outer s H E).A (cxOf (L2.CX P w) P w K mg base N qual (defScope st) f cdv A outer s H E).env (cxOf (L2.CX P w) P w K mg base N qual (defScope st) f cdv A outer s H E).xe →
      ESs (cxOf (L2.CX P w) P w K mg base N qual (defScope st) f cdv A outer s H E) ct (WD E) (defBody st) m) :
    FnOk P w K mg base (L2.CX P w) (k + 1) f fd ps (spM K ct (defM N.length ps.length m)) := by
  refine F.okX S (fun vs H Q E h => ?_) (fun cdv A outer s H vs Q E hr h => ⟨_, hb cdv A outer s H E hr (takes_of rfl rfl rfl rfl) (passes_of rfl), ?_⟩)
  · obtain ⟨F1, ds, fh, ra, p⟩ := h
    unfold defM at p
    split at p
    · rename_i e
      rw [dpAll_len ra]
      exact e
    · exact p.elim
  · obtain ⟨F1, ds, fh, ra, p⟩ := h
    refine ⟨F1, H, F1, startG N.length ds, rep_start fh ra, ?_⟩
    unfold defM at p
    split at p
    · revert p
      cases m (startG N.length ds) with
      | next G => exact fun p σ2 F2 H2 s2 r2 => p .non F2 H2 r2.extOf .non
      | ret d => exact fun p v F2 H2 x2 q => p v F2 H2 x2 q
      | exc c pl G => exact fun p cls dd σ2 F2 H2 s2 r2 q => p cls dd F2 H2 r2.extOf q
      | brk G => exact fun p => p.elim
      | cont G => exact fun p => p.elim
      | stuck => exact fun p => p.elim
    · exact p.elim
end
section
variable {X : Cx} {ct : Nat → Addr} {W : WX} {x m : Str} {j c : Nat} {p p2 pos pos2 : Pos}
/-- what the written part says of an own exception class without an __init__ -/
structure XcT (K : PySem.W.Frag) (mg : Str → Option Value) (x : Str) (C : Addr) : Prop where
  gC : mg x = some (.ref C)
  ex : PySem.W.excIn K C [.type "ValueError", .type "Exception", .type "BaseException", .type "object"] "ValueError.__new__" = true
  kp : PySem.W.keepIn K (.ref C) = true
  sb : PySem.W.subIn K (.ref C) (.type "BaseException") = some true
  ty : PySem.W.typeIn K (.ref C) = some (.type "type")
def raiseS (c : Nat) : Gm → SO := fun G => .exc c none G
theorem es_raise (hc : X.calm = true) (T : XcT X.K X.mg x (ct c)) (tk : Takes X W) (hg : Gl X x := by rfl) (hdb : (x == ("__debug__" : Str)) = false := by decide) : ES X ct W (.Raise (some (.Call (.Name x p) [.Constant (.str m) j p2] [] pos)) none pos2) (raiseS c) :=
  ps_imp (ps_raise hc tk (pmk_own PySem.F.excBase_ValueError T.ex T.gC T.kp (raises_own T.sb T.ty) hg hdb)) fun D σ H ⟨F0, H0, F, G, r, q⟩ => q (.ref (ct c)) none σ F H (Same.refl _) r ⟨rfl, rfl⟩
end
end VL

set_option Elab.async false
set_option linter.all false
set_option maxRecDepth 100000
/-! VK: the value layer: isinstance of a built-in type, len(set(tuple of ints)). -/
namespace VL
open PySem L2
section
variable {X : Cx} {ct : Nat → Addr} {W : WX} {a b c e : Expr} {ma mb mc me : Gm → EO} {pos p p2 p3 : Pos} {x : Str}
inductive Ty where
  | none | bool | int | str | list | tuple
def Ty.nm : Ty → String
  | .none => "NoneType"
  | .bool => "bool"
  | .int => "int"
  | .str => "str"
  | .list => "list"
  | .tuple => "tuple"
def tyOf : PyData → Option Ty
  | .none => some .none
  | .bool _ => some .bool
  | .int _ => some .int
  | .str _ => some .str
  | .list _ => some .list
  | .tuple _ => some .tuple
  | .dict _ => Option.none
def subTy : Ty → Ty → Bool
  | .bool, .int => true
  | .none, .none => true
  | .bool, .bool => true
  | .int, .int => true
  | .str, .str => true
  | .list, .list => true
  | .tuple, .tuple => true
  | _, _ => false
theorem kit_sub (s t : Ty) : kitB s.nm t.nm = some (subTy s t) := by
  cases s <;> cases t <;> decide +kernel
def gIsi (T : Ty) : PyData → EO := fun d => match tyOf d with
  | some t => .ok (.bool (subTy t T)) .frz
  | Option.none => .stuck
theorem ty_x {K : PySem.W.Frag} {F H : Hp} {v : V} {d : PyData} {t : Ty} (fh : Same F H) (h : VV K F H v d) (e : tyOf d = some t) : TyX K H v (.type t.nm) := by
  cases d with
  | none => cases e; rw [h.non]; exact .base .non
  | bool b => cases e; rw [h.bl]; exact .base (.bl b)
  | int i => cases e; rw [h.int]; exact .base (.int i)
  | str y => cases e; rw [h.str]; exact .base (.str y)
  | list ds =>
    cases e
    obtain ⟨_, b, vs, rfl, h1, _⟩ := h
    exact .base (.lst h1)
  | tuple ds =>
    cases e
    obtain ⟨_, b, vs, rfl, h1, _⟩ := h
    exact .base (.tup (fh _ _ h1))
  | dict kvs => cases e
theorem ee_isi (T : Ty) (hm : X.mg "isinstance" = none) (hmT : X.mg x = none) (hv : bootBuiltins x = some (.type T.nm)) (ha : EE X ct W a ma) (hg : Gl X "isinstance" := by rfl) (hgT : Gl X x := by rfl) (hn : x ≠ "__name__" := by decide) (hdb : (x == ("__debug__" : Str)) = false := by decide)
    (hs : starEach [a, .Name x p2] X.env = (false, eval a X.env) :: starEach [.Name x p2] X.env := by rfl) (hs2 : starEach [.Name x p2] X.env = (false, eval (.Name x p2) X.env) :: starEach [] X.env := by rfl) (hpl : (backTo pos (starEach [.Name x p2] X.env)).any (·.1) = false := by rfl) :
    EE X ct W (.Call (.Name "isinstance" p) [a, .Name x p2] [] pos) (op1 (gIsi T) ma) :=
  pe_imp (pe_callB call_isi hg hm PyProof.Rows.boot_isinstance (pa_cons ha (pa_cons (pe_bltn (v := .ty T.nm) hgT hmT hv rfl hn hdb) pa_nil hs2) hs) (he := hs) (hpl := hpl)) fun σ H Q h =>
    tM_mono (tM_view (k := fun _ d => gIsi T d) h) fun v H1 ⟨F0, H0, F1, G, d, rp, vv, q⟩ => by
      unfold gIsi at q
      split at q
      · rename_i t e
        exact ⟨v, .ty T.nm, .type t.nm, .type T.nm, subTy t T, rfl, .ty _, ty_x rp.fh vv e, kit_ty (kit_sub t T), ok_frz rp.fh (.bl _) q⟩
      · exact q.elim

/-! ### len(set(t)) -/
def dedup : List Int → List Int
  | [] => []
  | n :: ns => if (dedup ns).contains n = true then dedup ns else n :: dedup ns
theorem mem_dedup {n : Int} : ∀ {ns : List Int}, n ∈ dedup ns ↔ n ∈ ns
  | [] => Iff.rfl
  | m :: ns => by
    unfold dedup
    split
    · rename_i h
      rw [List.contains_iff_mem] at h
      rw [mem_dedup (ns := ns), List.mem_cons]
      constructor
      · exact .inr
      · rintro (e | e)
        · subst e
          exact mem_dedup.mp h
        · exact e
    · rw [List.mem_cons, List.mem_cons, mem_dedup (ns := ns)]
theorem nodup_dedup : ∀ (ns : List Int), (dedup ns).Nodup
  | [] => List.nodup_nil
  | m :: ns => by
    unfold dedup
    split
    · exact nodup_dedup ns
    · rename_i h
      rw [List.contains_iff_mem] at h
      exact List.nodup_cons.mpr ⟨h, nodup_dedup ns⟩
theorem len_le_of : ∀ {l m : List Int}, l.Nodup → (∀ a ∈ l, a ∈ m) → l.length ≤ m.length
  | [], _, _, _ => Nat.zero_le _
  | a :: l, m, nd, h => by
    have ha : a ∈ m := h a List.mem_cons_self
    obtain ⟨n1, n2⟩ := List.nodup_cons.mp nd
    have ih := len_le_of (m := m.erase a) n2 fun b hb => (List.mem_erase_of_ne (fun (e : b = a) => n1 (by rw [← e]; exact hb))).mpr (h b (List.mem_cons_of_mem _ hb))
    rw [List.length_erase_of_mem ha] at ih
    have := List.length_pos_of_mem ha
    rw [List.length_cons]
    omega
def allInts : List PyData → Option (List Int)
  | [] => some []
  | .int n :: ds => match allInts ds with
    | some ns => some (n :: ns)
    | none => none
  | _ => none
theorem ints_vals {K : PySem.W.Frag} {F : Hp} : ∀ {ds : List PyData} {vs : List V} {ns : List Int}, DqAll K F vs ds → allInts ds = some ns → vs = ns.map V.int
  | [], _, _, h, e => by cases h; cases e; rfl
  | .int n :: ds, _, _, h, e => by
    unfold allInts at e
    cases h with
    | cons h1 h2 =>
      split at e
      · rename_i ns2 e2
        cases e
        cases h1
        rw [ints_vals h2 e2]
        rfl
      · cases e
  | .none :: ds, _, _, _, e => by cases e
  | .bool _ :: ds, _, _, _, e => by cases e
  | .str _ :: ds, _, _, _, e => by cases e
  | .list _ :: ds, _, _, _, e => by cases e
  | .tuple _ :: ds, _, _, _, e => by cases e
  | .dict _ :: ds, _, _, _, e => by cases e
def gLenSet : PyData → EO
  | .tuple ds => match allInts ds with
    | some ns => if ns.length ≤ 1000 then .ok (.int (dedup ns).length) .frz else .stuck
    | none => .stuck
  | _ => .stuck
theorem ee_lenSet (hc : X.calm = true) (hm : X.mg "len" = none) (hm2 : X.mg "set" = none) (ha : EE X ct W a ma) (hg : Gl X "len" := by rfl) (hg2 : Gl X "set" := by rfl) (na : starEach [a] X.env = (false, eval a X.env) :: starEach [] X.env := by rfl) :
    EE X ct W (.Call (.Name "len" p) [.Call (.Name "set" p2) [a] [] p3] [] pos) (op1 gLenSet ma) := by
  refine ⟨fun pins s σ H Q I h => ?_⟩
  have h1 := tM_mono (tM_view (k := fun _ d => gLenSet d) h) (Q2 := fun v H1 => ∃ (l : Addr) (ns : List Int), v = .ref l ∧ SqT X.K H1 l (ns.map V.int) ∧ ns.length ≤ 1000 ∧ Q (.int (dedup ns).length) H1) fun v H1 ⟨F0, H0, F1, G, d, rp, vv, q⟩ => by
    unfold gLenSet at q
    split at q
    · split at q
      · rename_i ns e
        split at q
        · rename_i hz
          obtain ⟨_, b, vs, rfl, hb, ra⟩ := vv
          have ev := ints_vals ra e
          subst ev
          exact ⟨b, ns, rfl, SqT.of (rp.fh _ _ hb), hz, ok_frz rp.fh (.int _) q⟩
        · exact q.elim
      · exact q.elim
    · exact q.elim
  refine PyProof.Rows.Call_ (ld_blt I hg hm PySem.boot_len (PyProof.Rows.callWith_builtin1 (PyProof.Rows.args_cons ?_ rfl) rfl rfl))
  refine PyProof.Rows.Call_ (ld_blt I hg2 hm2 PyProof.Rows.boot_set (PyProof.Rows.callWith_type1 (PyProof.Rows.args_cons (thn (ha.run pins s σ H _ I h1) fun v s1 ⟨x, H1, I1, r1, q1⟩ => PyProof.Rows.args_nil ?_) na) na rfl))
  obtain ⟨l, ns, rfl, hq, hl, q1⟩ := q1
  cases r1
  obtain ⟨its, r, pl, hz⟩ := I1.tuple hq
  refine call_set_tupI ns (I1.ok.hd hc) pl (by simpa using RZ.intsAre_vals r) (by unfold scanBound; omega) fun h2 tk cnt hS _ hk => ?_
  refine PyProof.Rows.args_nil ?_
  obtain ⟨o, es, ep, t, ho, hex, hd, _, hnd, hmem, hlt, hf, hn, _⟩ := hS
  have I2 : Inv X pins σ H1 { s1 with heap := h2, toks := tk } := I1.kept hk
  have hle : es.toList.map keyOf = es.toList.map keyOf := rfl
  have e1 : (es.toList.map keyOf).length = (dedup ns).length := by
    refine Nat.le_antisymm (len_le_of hnd fun k hk2 => ?_) (len_le_of (nodup_dedup ns) fun k hk2 => ?_)
    · exact mem_dedup.mpr (of_decide_eq_true ((hmem k).mpr hk2))
    · exact (hmem k).mp (decide_eq_true (mem_dedup.mp hk2))
  rw [List.length_map, Array.length_toList] at e1
  exact PySem.call_len_set ho hex hd hf (by have := hlt; unfold scanBound at this; omega) ⟨.int es.size, H1, I2.tok _, ⟨_, rfl⟩, by rw [e1]; exact q1⟩
end
end VL

set_option Elab.async false
set_option linter.all false
set_option maxRecDepth 100000
/-! VM: the value layer: sorted of a list of tuples of small ints. -/
namespace VL
open PySem L2
theorem dpAll_perm {K : PySem.W.Frag} {H : Hp} {us vs : List V} (h : us.Perm vs) : ∀ {ds : List PyData}, DqAll K H vs ds → ∃ es, es.Perm ds ∧ DqAll K H us es := by
  induction h with
  | nil => exact fun r => ⟨_, List.Perm.refl _, r⟩
  | cons x _ ih =>
    intro ds r
    cases r with
    | cons h1 t1 =>
      obtain ⟨es, p, q⟩ := ih t1
      exact ⟨_, p.cons _, .cons h1 q⟩
  | swap x y l =>
    intro ds r
    cases r with
    | cons h1 t1 =>
      cases t1 with
      | cons h2 t2 => exact ⟨_, List.Perm.swap _ _ _, .cons h2 (.cons h1 t2)⟩
  | trans _ _ ih1 ih2 =>
    intro ds r
    obtain ⟨es, p, q⟩ := ih2 r
    obtain ⟨fs, p2, q2⟩ := ih1 q
    exact ⟨fs, p2.trans p, q2⟩
def codeT (ns : List Int) : Int := TS.code 64 ns
def insT (x : List Int) : List (List Int) → List (List Int)
  | [] => [x]
  | y :: ys => if codeT x ≤ codeT y then x :: y :: ys else y :: insT x ys
def isortT : List (List Int) → List (List Int)
  | [] => []
  | x :: xs => insT x (isortT xs)
theorem insT_perm (x : List Int) : ∀ ys, (insT x ys).Perm (x :: ys)
  | [] => List.Perm.refl _
  | y :: ys => by
    unfold insT
    split
    · exact List.Perm.refl _
    · exact ((insT_perm x ys).cons y).trans (List.Perm.swap _ _ _)
theorem isortT_perm : ∀ xs, (isortT xs).Perm xs
  | [] => List.Perm.refl _
  | x :: xs => (insT_perm x _).trans ((isortT_perm xs).cons x)
theorem insT_sorted (x : List Int) : ∀ ys, ys.Pairwise (fun a b => codeT a ≤ codeT b) → (insT x ys).Pairwise (fun a b => codeT a ≤ codeT b)
  | [], _ => List.pairwise_singleton _ _
  | y :: ys, h => by
    unfold insT
    obtain ⟨h1, h2⟩ := List.pairwise_cons.mp h
    split
    · rename_i hc
      refine List.pairwise_cons.mpr ⟨fun z hz => ?_, h⟩
      rcases List.mem_cons.mp hz with e | e
      · rw [e]; exact hc
      · exact Int.le_trans hc (h1 z e)
    · rename_i hc
      refine List.pairwise_cons.mpr ⟨fun z hz => ?_, insT_sorted x ys h2⟩
      rcases List.mem_cons.mp ((insT_perm x ys).mem_iff.mp hz) with e | e
      · rw [e]; omega
      · exact h1 z e
theorem isortT_sorted : ∀ xs, (isortT xs).Pairwise (fun a b => codeT a ≤ codeT b)
  | [] => List.Pairwise.nil
  | x :: xs => insT_sorted x _ (isortT_sorted xs)
theorem sorted_same : ∀ {l m : List Int}, l.Perm m → l.Pairwise (· ≤ ·) → m.Pairwise (· ≤ ·) → l = m
  | [], m, p, _, _ => (List.Perm.nil_eq p)
  | a :: l, [], p, _, _ => absurd p.length_eq (by simp)
  | a :: l, b :: m, p, h1, h2 => by
    obtain ⟨a1, a2⟩ := List.pairwise_cons.mp h1
    obtain ⟨b1, b2⟩ := List.pairwise_cons.mp h2
    have e : a = b := by
      have hb : b ∈ a :: l := p.mem_iff.mpr List.mem_cons_self
      have ha : a ∈ b :: m := p.mem_iff.mp List.mem_cons_self
      rcases List.mem_cons.mp hb with q | q
      · exact q.symm
      · rcases List.mem_cons.mp ha with q2 | q2
        · exact q2
        · exact Int.le_antisymm (a1 b q) (b1 a q2)
    subst e
    rw [sorted_same (List.Perm.cons_inv p) a2 b2]
theorem code_inj : ∀ {r q : List Int}, r.length = q.length → TS.Bd 64 r → TS.Bd 64 q → codeT r = codeT q → r = q
  | [], [], _, _, _, _ => rfl
  | [], _ :: _, h, _, _, _ => by cases h
  | _ :: _, [], h, _, _, _ => by cases h
  | d :: r, e :: q, hl, hr, hq, h => by
    have hl2 : r.length = q.length := Nat.succ.inj hl
    have hr2 : TS.Bd 64 r := fun m hm => hr m (List.mem_cons_of_mem _ hm)
    have hq2 : TS.Bd 64 q := fun m hm => hq m (List.mem_cons_of_mem _ hm)
    have ed : d = e := by
      by_cases h1 : d < e
      · have := TS.code_lt hl2 hr2 hq2 h1
        unfold codeT at h
        omega
      · by_cases h2 : e < d
        · have := TS.code_lt hl2.symm hq2 hr2 h2
          unfold codeT at h
          omega
        · omega
    subst ed
    have n1 : ¬ codeT r < codeT q := fun z => by
      have := (TS.code_same (d := d) (B := 64) hl2).mpr z
      unfold codeT at h
      omega
    have n2 : ¬ codeT q < codeT r := fun z => by
      have := (TS.code_same (d := d) (B := 64) hl2.symm).mpr z
      unfold codeT at h
      omega
    rw [code_inj hl2 hr2 hq2 (by omega)]
theorem map_inj_on {f : List Int → Int} : ∀ {l m : List (List Int)}, (∀ a ∈ l, ∀ b ∈ m, f a = f b → a = b) → l.map f = m.map f → l = m
  | [], [], _, _ => rfl
  | [], _ :: _, _, h => by cases h
  | _ :: _, [], _, h => by cases h
  | a :: l, b :: m, i, h => by
    rw [List.map_cons, List.map_cons] at h
    obtain ⟨h1, h2⟩ := List.cons.inj h
    rw [i a List.mem_cons_self b List.mem_cons_self h1, map_inj_on (fun x hx y hy => i x (List.mem_cons_of_mem _ hx) y (List.mem_cons_of_mem _ hy)) h2]
/-- the data as tuples of ints -/
def intTups : List PyData → Option (List (List Int))
  | [] => some []
  | .tuple ds :: r => match allInts ds, intTups r with
    | some ns, some nss => some (ns :: nss)
    | _, _ => none
  | _ => none
def tupD (ns : List Int) : PyData := .tuple (ns.map PyData.int)
def okT (d : Nat) (ns : List Int) : Bool := ns.length == d && ns.all fun n => decide (0 ≤ n) && decide (n < 64)
theorem bd_of {d : Nat} {ns : List Int} (h : okT d ns = true) : ns.length = d ∧ TS.Bd 64 ns := by
  unfold okT at h
  rw [Bool.and_eq_true, beq_iff_eq, List.all_eq_true] at h
  refine ⟨h.1, fun m hm => ?_⟩
  have := h.2 m hm
  rw [Bool.and_eq_true, decide_eq_true_eq, decide_eq_true_eq] at this
  exact this
theorem allInts_eq : ∀ {ds : List PyData} {ns : List Int}, allInts ds = some ns → ds = ns.map PyData.int
  | [], _, e => by cases e; rfl
  | .int n :: ds, _, e => by
    unfold allInts at e
    split at e
    · rename_i ns2 e2
      cases e
      rw [allInts_eq e2]
      rfl
    · cases e
  | .none :: ds, _, e => by cases e
  | .bool _ :: ds, _, e => by cases e
  | .str _ :: ds, _, e => by cases e
  | .list _ :: ds, _, e => by cases e
  | .tuple _ :: ds, _, e => by cases e
  | .dict _ :: ds, _, e => by cases e
theorem intTups_eq : ∀ {ds : List PyData} {nss : List (List Int)}, intTups ds = some nss → ds = nss.map tupD
  | [], _, e => by cases e; rfl
  | .tuple es :: ds, _, e => by
    unfold intTups at e
    split at e
    · rename_i ns nss e1 e2
      cases e
      rw [intTups_eq e2, allInts_eq e1]
      rfl
    · cases e
  | .none :: ds, _, e => by cases e
  | .bool _ :: ds, _, e => by cases e
  | .int _ :: ds, _, e => by cases e
  | .str _ :: ds, _, e => by cases e
  | .list _ :: ds, _, e => by cases e
  | .dict _ :: ds, _, e => by cases e
def gSortT : PyData → EO
  | .list ds => match intTups ds with
    | some nss => if (decide (nss.length < 64) && nss.all (okT (nss.headD [0]).length) && decide (1 ≤ (nss.headD [0]).length)) = true then .ok (.list ((isortT nss).map tupD)) .new else .stuck
    | none => .stuck
  | _ => .stuck
theorem tupI_of {K : PySem.W.Frag} {F H : Hp} {v : V} {ns : List Int} (fh : Same F H) (h : Dq K F v (tupD ns)) : TupI K H v ns := by
  unfold tupD at h
  cases h with
  | tup hs ha =>
    have ev : ∀ (ns : List Int) (vs : List V), DqAll K F vs (ns.map PyData.int) → vs = ns.map V.int := by
      intro ns
      induction ns with
      | nil => intro vs h; cases h; rfl
      | cons n ns ih =>
        intro vs h
        cases h with
        | cons h1 t1 =>
          cases h1
          rw [ih _ t1]
          rfl
    have := ev ns _ ha
    subst this
    exact ⟨_, rfl, SqT.of (fh _ _ hs)⟩
theorem perm_map {α β : Type} {f : α → β} : ∀ {l : List β} {m : List α}, l.Perm (m.map f) → ∃ n : List α, n.Perm m ∧ l = n.map f := by
  intro l m h
  generalize hm : m.map f = k at h
  induction h generalizing m with
  | nil =>
    cases m with
    | nil => exact ⟨[], List.Perm.refl _, rfl⟩
    | cons _ _ => cases hm
  | cons x _ ih =>
    cases m with
    | nil => cases hm
    | cons a m =>
      obtain ⟨e1, e2⟩ := List.cons.inj hm
      obtain ⟨n, p, e⟩ := ih e2
      exact ⟨a :: n, p.cons a, by rw [e, List.map_cons, e1]⟩
  | swap x y l =>
    cases m with
    | nil => cases hm
    | cons a m =>
      cases m with
      | nil => cases (List.cons.inj hm).2
      | cons b m =>
        obtain ⟨e1, e2⟩ := List.cons.inj hm
        obtain ⟨e3, e4⟩ := List.cons.inj e2
        exact ⟨b :: a :: m, List.Perm.swap _ _ _, by rw [List.map_cons, List.map_cons, e1, e3, e4]⟩
  | trans _ _ ih1 ih2 =>
    obtain ⟨n, p, e⟩ := ih2 hm
    obtain ⟨n2, p2, e2⟩ := ih1 e.symm
    exact ⟨n2, p2.trans p, e2⟩
theorem dqAll_pair {K : PySem.W.Frag} {F : Hp} {R : V → V → Prop} {S : List Int → List Int → Prop} (i : ∀ x y n m, Dq K F x (tupD n) → Dq K F y (tupD m) → R x y → S n m) : ∀ {vs : List V} {mss : List (List Int)}, DqAll K F vs (mss.map tupD) → vs.Pairwise R → mss.Pairwise S
  | _, [], _, _ => List.Pairwise.nil
  | _, m :: mss, h, p => by
    rw [List.map_cons] at h
    cases h with
    | cons h1 t1 =>
      obtain ⟨p1, p2⟩ := List.pairwise_cons.mp p
      refine List.pairwise_cons.mpr ⟨fun n hn => ?_, dqAll_pair i t1 p2⟩
      obtain ⟨k, hk⟩ := List.mem_iff_getElem?.mp hn
      obtain ⟨v, hv, rv⟩ := dpAll_get t1 (i := k) (d := tupD n) (by rw [List.getElem?_map, hk]; rfl)
      exact i _ _ _ _ h1 rv (p1 v (List.mem_of_getElem? hv))
theorem g_sortT {K : PySem.W.Frag} : GC1 K (fun vs H Q => ∃ d, 1 ≤ d ∧ rSortU K d 64 vs H Q) gSortT := by
  intro ct W σ F H v d Q fh vv p
  unfold gSortT at p
  split at p
  · split at p
    · rename_i ds nss e
      split at p
      · rename_i hc
        rw [Bool.and_eq_true, Bool.and_eq_true, decide_eq_true_eq, decide_eq_true_eq, List.all_eq_true] at hc
        obtain ⟨⟨h64, hall⟩, h1⟩ := hc
        have ed := intTups_eq e
        subst ed
        obtain ⟨_, b, vs, rfl, hb, ra⟩ := vv
        have hlen := dpAll_len ra
        rw [List.length_map] at hlen
        refine ⟨_, h1, b, vs, rfl, SqL.of hb, by omega, fun x hx => ?_, fun ys q hp hs hq => ?_⟩
        · obtain ⟨i, hi⟩ := List.mem_iff_getElem?.mp hx
          obtain ⟨dx, hd, rx⟩ := dpAll_getV ra hi
          rw [List.getElem?_map] at hd
          cases hn : nss[i]? with
          | none => rw [hn] at hd; cases hd
          | some ns =>
            rw [hn] at hd
            cases hd
            exact ⟨ns, tupI_of fh rx, bd_of (hall ns (List.mem_of_getElem? hn))⟩
        · obtain ⟨es, pe, re⟩ := dpAll_perm hp ra
          obtain ⟨mss, pm, em⟩ := perm_map pe
          subst em
          have sm : mss.Pairwise (fun a b => codeT a ≤ codeT b) := dqAll_pair (fun x y n m hx hy r => r n m (tupI_of fh hx) (tupI_of fh hy)) re hs
          have same : mss = isortT nss := by
            refine map_inj_on (f := codeT) (fun a ha b hb h => ?_) (sorted_same ((pm.trans (isortT_perm nss).symm).map codeT) (List.pairwise_map.mpr sm) (List.pairwise_map.mpr (isortT_sorted nss)))
            obtain ⟨la, ba⟩ := bd_of (hall a (pm.mem_iff.mp ha))
            obtain ⟨lb, bb⟩ := bd_of (hall b ((isortT_perm nss).mem_iff.mp hb))
            exact code_inj (la.trans lb.symm) ba bb h
          rw [same] at re
          exact ok_newL fh re p hq
      · exact p.elim
    · exact p.elim
  · exact p.elim
section
variable {X : Cx} {ct : Nat → Addr} {W : WX} {a : Expr} {ma : Gm → EO} {pos p : Pos}
theorem cr_sortAny : CallR X (.builtin "sorted") (fun vs H Q => ∃ d, 1 ≤ d ∧ rSortU X.K d 64 vs H Q) := by
  intro pins s σ H vs us Q I r h
  obtain ⟨d, hd, h2⟩ := h
  exact cr_sortT hd pins s σ H vs us Q I r h2
theorem ee_sortT (hm : X.mg "sorted" = none) (ha : EE X ct W a ma) (hg : Gl X "sorted" := by rfl) (hs : starEach [a] X.env = (false, eval a X.env) :: starEach [] X.env := by rfl) : EE X ct W (.Call (.Name "sorted" p) [a] [] pos) (op1 gSortT ma) := ee_b1 cr_sortAny g_sortT hm (by decide +kernel) ha hg (hs := hs)
end
end VL

set_option Elab.async false
set_option linter.all false
set_option maxRecDepth 100000
/-! VN: the value layer: x[::-1] of a list or a tuple. -/
namespace VL
open PySem PySem.Spec PyProof.Rows L2
section
variable {prog : Program} {w : World} {A : Around} {E : Value → Shared → Prop} {s : Shared}
theorem applied_back {sl : Addr} {vs : Value} {n : Nat} {Q : Int × Int × Nat → Shared → Prop} (hs : s.heap.IsSliceOf sl .none .none vs) (ps : IsPart vs (some (-1))) (h : Q ((n : Int) - 1, -1, n) s) :
    wpAny (model prog w) A (Builtin.Slice.sliceApplied (.ref sl) (pure (n : Int))) Q E s := by
  obtain ⟨ob, hob, _, hfs⟩ := id hs
  unfold Builtin.Slice.sliceApplied Builtin.Slice.sliceFields
  refine wpAny_bind (wpAny_bind (wpAny_field hob hfs (x := Value.none) rfl (wpAny_bind (wpAny_field hob hfs (x := Value.none) rfl (wpAny_bind (wpAny_field hob hfs (x := vs) rfl (wpAny_pure ?_)))))))
  refine wpAny_bind (HT.slicePart_ ps ?_)
  show wpAny _ _ (if ((-1 : Int) == 0) = true then _ else _) _ _ s
  rw [if_neg (show ¬ (((-1 : Int) == 0) = true) by decide)]
  refine wpAny_bind (PyProof.Rows.slicePart_none (wpAny_bind (PyProof.Rows.slicePart_none (wpAny_bind (wpAny_pure ?_)))))
  show wpAny _ _ (pure ((n : Int) - 1, (-1 : Int), Builtin.Slice.slicePlaces ((n : Int) - 1) (-1) (-1))) _ _ s
  have e : Builtin.Slice.slicePlaces ((n : Int) - 1) (-1) (-1) = n := by
    unfold Builtin.Slice.slicePlaces
    have e1 : (-(-1 : Int)) = 1 := by decide
    rw [if_neg (show ¬ ((-1 : Int) > 0) by decide), e1, Int.ediv_one]
    split <;> omega
  rw [e]
  exact wpAny_pure h
theorem fm_congr {α β : Type} {f g : α → Option β} : ∀ {l : List α}, (∀ a ∈ l, f a = g a) → l.filterMap f = l.filterMap g
  | [], _ => rfl
  | a :: l, h => by
    rw [List.filterMap_cons, List.filterMap_cons, h a List.mem_cons_self, fm_congr fun b hb => h b (List.mem_cons_of_mem _ hb)]
theorem pick_back (xs : Array Value) : ((List.range xs.size).filterMap fun (m : Nat) => xs[(((xs.size : Nat) : Int) - 1 + (m : Int) * -1).toNat]?).toArray = xs.toList.reverse.toArray := by
  have e : (List.range xs.size).filterMap (fun (m : Nat) => xs[(((xs.size : Nat) : Int) - 1 + (m : Int) * -1).toNat]?) = ((List.range xs.size).map fun k => xs.size - 1 - k).filterMap (xs[·]?) := by
    rw [List.filterMap_map]
    refine fm_congr fun m hm => ?_
    have := List.mem_range.mp hm
    show xs[(((xs.size : Nat) : Int) - 1 + (m : Int) * -1).toNat]? = xs[xs.size - 1 - m]?
    have e2 : (((xs.size : Nat) : Int) - 1 + (m : Int) * -1).toNat = xs.size - 1 - m := by omega
    rw [e2]
  rw [e, PySem.W.krv_range, List.filterMap_reverse, PySem.W.krv_all]
theorem getItem_tuple_back {t sl : Addr} {items : Array Value} {vs : Value} {Q : Value → Shared → Prop} (ht : IsTup s.heap t items) (hs : s.heap.IsSliceOf sl .none .none vs) (ps : IsPart vs (some (-1)))
    (h : Q (.ref s.heap.objs.size) { s with heap := s.heap.push { cls := .type "tuple", data := .seq items.toList.reverse.toArray } }) (hsz : items.size ≤ sizeLine) : wpAny (model prog w) A (getItem (.ref t) (.ref sl)) Q E s := by
  have hk : sizeOk (.seq items.toList.reverse.toArray) := by
    show items.toList.reverse.toArray.size ≤ sizeLine
    rw [List.size_toArray, List.length_reverse, Array.length_toList]
    exact hsz
  obtain ⟨ob, hob, hcl, hfs⟩ := id hs
  have hT : s.TypeIs (.ref sl) "slice" := ⟨ob, hob, hcl⟩
  unfold getItem
  try with_reducible refine wpAny_holding ?_
  first
    | refine wpAny_bind (wpAny_pure ?_)
    | skip
  refine wpAny_bind (wpAny_sequenceKey ht.typeIs (by decide) ?_)
  refine wpAny_bind (wpAny_callSpecial?_slot (name := Str.ofString "__getitem__") ht.typeIs PyProof.Rows.slot_tuple_getitem (wpAny_call_entry PyProof.Rows.slot_tuple_getitem ht.typeIs PyProof.Rows.entry_tuple_getitem ?_ (PyProof.Rows.args_tuple_getitem _ _)))
  show wpAny _ _ (Builtin.Tuple.tupleItemsOf (.ref t) >>= _) _ _ s
  refine wpAny_bind (PyProof.Rows.tupleItemsOf_ ht (wpAny_bind (wpAny_typeOf hT ?_)))
  rw [if_pos (by decide)]
  refine wpAny_bind (applied_back hs ps ?_)
  show wpAny _ _ (if ((((items.size : Nat) : Int) - 1) == 0 && (-1 : Int) == 1 && items.size == items.size) = true then _ else _) _ _ s
  rw [if_neg (show ¬ (((((items.size : Nat) : Int) - 1) == 0 && (-1 : Int) == 1 && items.size == items.size) = true) by rw [show ((-1 : Int) == 1) = false by decide, Bool.and_false, Bool.false_and]; exact Bool.false_ne_true), pick_back]
  first
    | exact wpAny_bind (m := Builtin.Tuple.tupleExact _) (wpAny_newObj_type (wpAny_pure ⟨_, rfl, wpAny_pure h⟩) hk)
    | exact wpAny_bind (m := Builtin.Tuple.tupleExact _) (wpAny_newObj_type (wpAny_bind (wpAny_pure (wpAny_pure ⟨_, rfl, wpAny_pure h⟩))) hk)
    | exact wpAny_bind (wpAny_bind (m := Builtin.Tuple.tupleExact _) (wpAny_newObj_type (wpAny_pure (wpAny_pure ⟨_, rfl, wpAny_pure h⟩)) hk))
    | exact wpAny_bind (wpAny_bind (m := Builtin.Tuple.tupleExact _) (wpAny_newObj_type (wpAny_pure ⟨_, rfl, wpAny_pure h⟩) hk))
end
def gRev : PyData → EO
  | .list ds => .ok (.list ds.reverse) .new
  | .tuple ds => .ok (.tuple ds.reverse) .frz
  | _ => .stuck
theorem vals_rev : ∀ {xs : List V} {us : List Value}, Vals xs us → Vals xs.reverse us.reverse
  | _, _, .nil => .nil
  | _, _, .cons r t => by
    rw [List.reverse_cons, List.reverse_cons]
    exact (vals_rev t).append (.cons r .nil)
section
variable {X : Cx} {ct : Nat → Addr} {W : WX} {e : Expr} {me : Gm → EO} {pos p1 p2 p3 : Pos} {k : Nat}
theorem ee_rev (he : EE X ct W e me) : EE X ct W (.Subscript e (.Slice none none (some (.UnaryOp .USub (.Constant (.int 1) k p1) p2)) p3) pos) (op1 gRev me) := by
  refine ⟨fun pins s σ H Q I h => ?_⟩
  have h1 := tM_mono (tM_view (k := fun _ d => gRev d) h) (Q2 := fun v H1 => ∃ a xs, v = .ref a ∧ ((SqL X.K H1 a xs ∧ ∀ p, H1 p = none → Q (.ref p) (upd H1 p (.lst xs.reverse))) ∨ (SqT X.K H1 a xs ∧ ∀ p, H1 p = none → Q (.ref p) (upd H1 p (.tup xs.reverse))))) fun v H1 ⟨F0, H0, F1, G, d, rp, vv, q⟩ => by
    unfold gRev at q
    split at q
    · obtain ⟨_, b, vs, rfl, hb, ra⟩ := vv
      exact ⟨b, vs, rfl, .inl ⟨SqL.of hb, fun p hp => ok_newL rp.fh (dpAll_rev ra) q hp⟩⟩
    · obtain ⟨_, b, vs, rfl, hb, ra⟩ := vv
      exact ⟨b, vs, rfl, .inr ⟨SqT.of (rp.fh _ _ hb), fun p hp => ok_newT rp.fh (dpAll_rev ra) q hp⟩⟩
    · exact q.elim
  refine PyProof.Rows.Subscript_ (thn (he.run pins s σ H _ I h1) fun v s1 ⟨x, H1, I1, r1, q1⟩ => ?_)
  obtain ⟨a, xs, ex, hx⟩ := q1
  subst ex
  cases r1
  have hst : PO X (some (.UnaryOp .USub (.Constant (.int 1) k p1) p2)) (tPart (tUn (rU fun i => .int (-i)) (tC (.int 1)))) := po_some (pe_un un_neg pe_int)
  have hno : ∀ (s1 : Shared) (H1 : Hp), Inv X pins σ H1 s1 → wpAny (model X.prog X.w) X.A (evalPart none X.env) (fun u s' => u = .none ∧ s' = s1) X.xe s1 := fun s1 H1 I1 => by
    rw [evalPart_none]
    exact wpAny_pure ⟨rfl, rfl⟩
  refine wpAny_Slice (thn (hno s1 H1 I1) fun vl s2 ⟨el, e2⟩ => ?_)
  subst el e2
  refine thn (hno _ H1 I1) fun vu s3 ⟨eu, e3⟩ => ?_
  subst eu e3
  refine thn (hst.run pins _ σ H1 (fun o H4 => o = some (-1) ∧ H4 = H1) I1 ⟨1, rfl, -1, rfl, rfl, rfl⟩) fun vs s4 ⟨o, H4, I4, ps, eo, e4⟩ => ?_
  subst eo e4
  have I5 : Inv X pins σ H4 { s4 with heap := s4.heap.push { cls := .type "slice", data := .fields #[.none, .none, vs] } } := I4.kept (t' := s4.toks) fun b ob q => Heap.get?_push_of_some _ q
  show wpAny (model X.prog X.w) X.A (subscriptTail e (.Slice none none (some (.UnaryOp .USub (.Constant (.int 1) k p1) p2)) p3) (.ref a) (.ref s4.heap.objs.size)) (EP X pins σ Q) X.xe { s4 with heap := s4.heap.push { cls := .type "slice", data := .fields #[.none, .none, vs] } }
  rcases hx with ⟨hx, q⟩ | ⟨hx, q⟩
  · obtain ⟨its, r, ht, hz⟩ := I5.list hx
    have hlen := r.length
    refine PyProof.Rows.tail_any (ops := [.ref a, .ref s4.heap.objs.size]) ht.isList.typeIs PySem.slot_list_getitem.lookup (wpAny_getItem_list_slice ht.isList (Heap.IsSliceOf.new _ Value.none Value.none vs) .none .none ps (by decide) ?_ (by rw [List.size_toArray]; omega)) (by with_unfolding_all rfl)
    rw [PySem.W.krv_pick]
    exact ⟨.ref _, _, I5.laid (t' := s4.toks) (o := .lst xs.reverse) (fun b ob q => Heap.get?_push_of_some _ q) (Nat.le_refl _) ⟨by rw [List.length_reverse]; exact hz, _, 0, vals_rev r, Heap.get?_push_size _ rfl⟩, rfl, q _ (I5.hok.fresh (Nat.le_refl _))⟩
  · obtain ⟨its, r, ht, hz⟩ := I5.tuple hx
    have hlen := r.length
    refine PyProof.Rows.tail_any (ops := [.ref a, .ref s4.heap.objs.size]) ht.typeIs PyProof.Rows.slot_tuple_getitem.lookup (getItem_tuple_back ht (Heap.IsSliceOf.new _ Value.none Value.none vs) ps ?_ (by rw [List.size_toArray]; omega)) (by with_unfolding_all rfl)
    exact ⟨.ref _, _, I5.laid (t' := s4.toks) (o := .tup xs.reverse) (fun b ob q => Heap.get?_push_of_some _ q) (Nat.le_refl _) ⟨by rw [List.length_reverse]; exact hz, its.reverse, vals_rev r, ⟨_, Heap.get?_push_size _ rfl, rfl, _, rfl⟩⟩, rfl, q _ (I5.hok.fresh (Nat.le_refl _))⟩
end
end VL

set_option Elab.async false
set_option linter.all false
set_option maxRecDepth 100000
/-! VO: the value layer: popped values used, several targets, calls by their table. -/
namespace VL
open PySem L2
section
variable {X : Cx} {ct : Nat → Addr} {W : WX} {a b c e : Expr} {ma mb mc me : Gm → EO} {pos p2 : Pos} {x y : Str} {i j : Nat} {px py apos : Pos} {mx : Gm → XO}
theorem postX_mono {K : PySem.W.Frag} {F0 H0 F H : Hp} {σ : St} {Q Q2 : VK} {o : XO} (h : postX K ct W F0 H0 σ F H Q o) (q : ∀ v H1, Q v H1 → Q2 v H1) : postX K ct W F0 H0 σ F H Q2 o := by
  cases o with
  | ok d G2 => exact fun v F2 H2 s r rv => q _ _ (h v F2 H2 s r rv)
  | exc c pl => exact h
  | stuck => exact h
def XO.bindS (G : Gm) (o : XO) (k : PyData → Gm → SO) : SO := match o with
  | .ok d G2 => k d G2
  | .exc c pl => .exc c pl G
  | .stuck => .stuck
theorem postX_S {K : PySem.W.Frag} {F0 H0 F H : Hp} {G : Gm} {σ : St} {D : Ends} {o : XO} {k : PyData → Gm → SO} (r : Rep K F0 H0 F H G σ) (p : postS K ct W F0 H0 D F (o.bindS G k)) :
    postX K ct W F0 H0 σ F H (fun v H1 => ∃ d G2 F1, Same F F1 ∧ Dq K F1 v d ∧ Rep K F0 H0 F1 H1 G2 σ ∧ postS K ct W F0 H0 D F1 (k d G2)) o := by
  cases o with
  | ok d G2 => exact fun v F1 H1 s r1 q => ⟨d, G2, F1, s, q, r1, postS_same (o := k d G2) p s⟩
  | exc c pl => exact fun cls dd F1 H1 x q => p cls dd σ F1 H1 x.ff (r.ext x) q
  | stuck => exact p
def appXS (j : Nat) (mx : Gm → XO) : Gm → SO := fun G => match G[j]? with
  | some (some (.own _)) => (mx G).bindS G fun d G2 => match G2[j]? with
    | some (some (.own ds)) => if ds.length < big then .next (G2.set j (some (.own (ds ++ [d])))) else .stuck
    | _ => .stuck
  | _ => .stuck
theorem es_appendX (he : EX X ct W e mx) (hj : X.N[j]? = some x := by rfl) (hv : Vis X.env.scope x := by first | exact Or.inl rfl | exact Or.inr (Or.inl rfl)) (hd : (x == ("__debug__" : Str)) = false := by decide) (hcd : (x == ("__classdict__" : Str)) = false := by decide)
    (hs1 : starEach [e] X.env = (false, eval e X.env) :: starEach [] X.env := by rfl) (hline : (apos.endLine == p2.line) = true := by rfl) :
    ES X ct W (.Expr (.Call (.Attribute (.Name x px) "append" apos) [e] [] p2) pos) (appXS j mx) :=
  ps_imp (ps_expr (pe_bm PySem.F.plainAttrs_list PySem.F.slot_list_append PySem.F.type_list_append mt_append (pe_var hj hv hd hcd) (pa_cons he pa_nil hs1) (hline := hline) (hs := hs1) (hfew := by rw [hs1] <;> rfl))) fun D σ H ⟨F0, H0, F, G, r, p⟩ => by
    unfold appXS at p
    split at p
    · rename_i ds0 e
      obtain ⟨v, hv, q, vs, rfl, h0, hf, hp, ha⟩ := r.slot j _ e
      refine ⟨_, hv, .inl ⟨rfl, vs, SqL.of hp⟩, F0, H0, F, G, r, postX_mono (postX_S (k := fun d G2 => match G2[j]? with
        | some (some (.own ds)) => if ds.length < big then .next (G2.set j (some (.own (ds ++ [d])))) else .stuck
        | _ => .stuck) r p) fun y H1 ⟨d, G2, F1, s1, ry, r1, p1⟩ => ?_⟩
      split at p1
      · rename_i ds e2
        split at p1
        · rename_i hz
          obtain ⟨v2, hv2, q2, vs2, e3, h02, hf2, hp2, ha2⟩ := r1.slot j _ e2
          rw [hv] at hv2
          cases hv2
          cases e3
          exact ⟨q, vs2, y, rfl, rfl, hp2, by rw [dpAll_len ha2]; exact big_lt hz, p1 σ F1 _ (Same.refl _) (r1.mut e2 hv (dpAll_app ha2 (.cons ry .nil)))⟩
        · exact p1.elim
      · exact p1.elim
    · exact p.elim
def asgXS (i : Nat) (mx : Gm → XO) : Gm → SO := fun G => (mx G).bindS G fun d G2 => .next (G2.set i (some (.dat d)))
theorem es_asgX (he : EX X ct W e mx) (hN : X.N.Nodup) (hi : X.N[i]? = some x := by rfl) (hx : Loc X.env.scope x := by first | exact Or.inl rfl | exact Or.inr rfl) (hs : swapsWith e (some (.Name x px)) pos.line X.env = pure false := by rfl)
    (hf : X.fn x = true ∨ X.env.scope.names.lookup x = some .local := by first | exact .inl rfl | exact .inr rfl) : ES X ct W (.Assign [.Name x px] e pos) (asgXS i mx) :=
  ps_imp (ps_set hN hi hx he hs hf) fun D σ H ⟨F0, H0, F, G, r, p⟩ => ⟨F0, H0, F, G, r, postX_mono (postX_S (k := fun d G2 => .next (G2.set i (some (.dat d)))) r p) fun v H1 ⟨d, G2, F1, s1, q, r1, p1⟩ => p1 _ F1 H1 (Same.refl _) (r1.dat i q)⟩
/-- f(x.pop()) -/
def callX (f : List PyData → FO) (mx : Gm → XO) : Gm → XO := fun G => match mx G with
  | .ok d G2 => match f [d] with
    | .ok z => .ok z G2
    | .exc _ _ => .stuck
    | .stuck => .stuck
  | .exc c pl => .exc c pl
  | .stuck => .stuck
def iterX (mx : Gm → XO) : Gm → IO := fun G => match mx G with
  | .ok (.list ds) G2 => .ok ds G2
  | .ok _ _ => .stuck
  | .exc c pl => .exc c pl
  | .stuck => .stuck
theorem ei_listX {tg : Expr} (ha : EX X ct W a mx) : EI X ct W tg a (iterX mx) :=
  pi_imp (pi_list ha) fun σ H R ⟨F0, H0, F, G, r, p⟩ => by
    refine ⟨F0, H0, F, G, r, ?_⟩
    unfold iterX at p
    revert p
    cases mx G with
    | ok d G2 =>
      cases d with
      | list ds =>
        intro p v F1 H1 s1 r1 q
        cases q with
        | lst hs ha => exact ⟨_, rfl, ⟨_, SqL.of (r1.fh _ _ hs)⟩, p (Itl X.K _) F1 H1 s1 r1 (it_list hs ha)⟩
      | none => exact fun p => p.elim
      | bool b => exact fun p => p.elim
      | int i => exact fun p => p.elim
      | str y => exact fun p => p.elim
      | tuple ds => exact fun p => p.elim
      | dict ds => exact fun p => p.elim
    | exc c pl => exact fun p => p
    | stuck => exact fun p => p.elim
/-- a, b = e -/
def asg2S (i j : Nat) (me : Gm → EO) : Gm → SO := fun G => (me G).bindS G fun d _ => match d with
  | .tuple [u, v] => .next ((G.set i (some (.dat u))).set j (some (.dat v)))
  | _ => .stuck
theorem es_asg2 {n : Nat} {pt : Pos} (hc : X.calm = true) (he : EE X ct W e me) (hN : X.N.Nodup) (hi : X.N[i]? = some x := by rfl) (hx : Loc X.env.scope x := by first | exact Or.inl rfl | exact Or.inr rfl) (hf : X.fn x = true ∨ X.env.scope.names.lookup x = some .local := by first | exact .inl rfl | exact .inr rfl)
    (hj : X.N[j]? = some y := by rfl) (hy : Loc X.env.scope y := by first | exact Or.inl rfl | exact Or.inr rfl) (hg : X.fn y = true ∨ X.env.scope.names.lookup y = some .local := by first | exact .inl rfl | exact .inr rfl)
    (hs : swapsWithSole [.Tuple [.Name x px, .Name y py] n pt] e pos.line X.env = pure false := by rfl) (hw : swappedStores [.Tuple [.Name x px, .Name y py] n pt] e X.env = pure none := by rfl) :
    ES X ct W (.Assign [.Tuple [.Name x px, .Name y py] n pt] e pos) (asg2S i j me) :=
  ps_imp (ps_asg he (pg_tup (n := 2) hc (pgs_cons (pg_name hN hi hx hf) (pgs_cons (pg_name hN hj hy hg) pgs_nil))) hs hw) fun D σ H ⟨F0, H0, F, G, r, p⟩ => by
    refine ⟨F0, H0, F, G, r, post_mono (post_S (k := fun d _ => match d with
      | .tuple [u, v] => .next ((G.set i (some (.dat u))).set j (some (.dat v)))
      | _ => .stuck) r p) fun v H1 ⟨d, w, F1, x1, q, r1, p1⟩ => ?_⟩
    split at p1
    · obtain ⟨_, b, vs, rfl, hb, ra⟩ := VV.of x1.fh q
      cases ra with
      | cons h1 t1 =>
        cases t1 with
        | cons h2 t2 =>
          cases t2
          exact ⟨_, _, rfl, SqT.of (x1.fh _ _ hb), rfl, _, _, rfl, _, _, rfl, rfl, p1 _ F1 H1 (Same.refl _) ((r1.dat i h1).dat j h2)⟩
    · exact p1.elim
/-- a, b = e1, e2; both frozen -/
def parS (i j : Nat) (ms : Gm → AO) : Gm → SO := fun G => match ms G with
  | .ok [u, v] => .next ((G.set i (some (.dat u))).set j (some (.dat v)))
  | .ok _ => .stuck
  | .exc c pl => .exc c pl G
  | .stuck => .stuck
theorem es_par {ms : Gm → AO} {px py pt : Pos} {kt k2 : Nat} {pt2 : Pos} (hc : X.calm = true) (hN : X.N.Nodup) (ha : EA X ct W [a, b] ms) (hij : i ≠ j) (hi : X.N[i]? = some x := by rfl) (hj : X.N[j]? = some y := by rfl)
    (hx : X.env.scope.names.lookup x = some .local := by rfl) (hy : X.env.scope.names.lookup y = some .local := by rfl)
    (hw : swappedStores [.Tuple [.Name x px, .Name y py] kt pt] (.Tuple [a, b] k2 pt2) X.env = pure (some [x, y]) := by rfl)
    (hs : swapsWithSole [.Tuple [.Name x px, .Name y py] kt pt] (.Tuple [a, b] k2 pt2) pos.line X.env = pure false := by rfl) :
    ES X ct W (.Assign [.Tuple [.Name x px, .Name y py] kt pt] (.Tuple [a, b] k2 pt2) pos) (parS i j ms) :=
  ps_imp (ps_par hc hN hi hj hij hx hy ha hw hs) fun D σ H ⟨F0, H0, F, G, r, p⟩ => by
    refine ⟨F0, H0, F, G, r, ?_⟩
    unfold parS at p
    revert p
    cases ms G with
    | exc c pl => exact fun p cls dd F1 H1 x1 q => p cls dd σ F1 H1 x1.ff (r.ext x1) q
    | stuck => exact fun p => p
    | ok ds =>
      intro p vs F1 H1 x1 q
      cases q with
      | nil => exact p.elim
      | cons h1 t1 =>
        cases t1 with
        | nil => exact p.elim
        | cons h2 t2 =>
          cases t2 with
          | nil => exact ⟨_, _, rfl, p _ F1 H1 x1.ff (((r.ext x1).dat i h1).dat j h2)⟩
          | cons _ _ => exact p.elim
end
/-! ### a def by its name -/
structure CallT (P : Program) (w : World) (K : PySem.W.Frag) (mg : Str → Option Value) (base : Heap) (ct : Nat → Addr) (x : Str) (k : Nat) (fm : List PyData → FO) : Prop where
  ex : ∃ (f : Addr) (fd : FuncData) (ps : List Str), mg x = some (.ref f) ∧ PySem.W.keepIn K (.ref f) = true ∧ Binds K fd ps [] ∧ FnOk P w K mg base (L2.CX P w) k f fd ps (spM K ct fm)
section
variable {X : Cx} {ct : Nat → Addr} {W : WX} {e : Expr} {es : List Expr} {ms : Gm → AO} {pos p : Pos} {x : Str} {k j : Nat} {fm : List PyData → FO} {mx : Gm → XO}
theorem ee_fn (C : CallT X.prog X.w X.K X.mg X.base ct x j fm) (hr : Room k X.A) (tk : Takes X W) (ha : EA X ct W (e :: es) ms) (hjk : j ≤ k := by decide)
    (hg : Gl X x := by rfl) (hdb : (x == ("__debug__" : Str)) = false := by decide) (he : starEach (e :: es) X.env = (false, eval e X.env) :: starEach es X.env := by rfl) (hpl : (backTo pos (starEach es X.env)).any (·.1) = false := by rfl) :
    EE X ct W (.Call (.Name x p) (e :: es) [] pos) (callE fm ms) := by
  obtain ⟨f, fd, ps, hm, hk, hb, F⟩ := C.ex
  exact ee_call F hr hjk hm hk hb tk ha hg hdb he hpl
theorem ex_fn (C : CallT X.prog X.w X.K X.mg X.base ct x j fm) (hr : Room k X.A) (tk : Takes X W) (ha : EX X ct W e mx) (hjk : j ≤ k := by decide)
    (hg : Gl X x := by rfl) (hdb : (x == ("__debug__" : Str)) = false := by decide) (he : starEach [e] X.env = (false, eval e X.env) :: starEach [] X.env := by rfl) (hpl : (backTo pos (starEach [] X.env)).any (·.1) = false := by rfl) :
    EX X ct W (.Call (.Name x p) [e] [] pos) (callX fm mx) := by
  obtain ⟨f, fd, ps, hm, hk, hb, F⟩ := C.ex
  refine pe_imp (pe_callS F (hr.mono hjk) hg hm hk hb (fun σ => passAt tk σ) (pa_cons ha pa_nil he) hdb he hpl) fun σ H Q ⟨F0, H0, F, G, r, p⟩ => ?_
  refine ⟨F0, H0, F, G, r, ?_⟩
  unfold callX at p
  revert p
  cases mx G with
  | exc c pl => exact fun p => p
  | stuck => exact fun p => p
  | ok d G2 =>
    intro p v F1 H1 s1 r1 q
    refine ⟨F1, [d], r1.fh, .cons q .nil, ?_⟩
    simp only at p
    revert p
    cases fm [d] with
    | ok z => exact fun p u F2 H2 x2 q2 => p u F2 H2 (s1.trans x2.ff) (r1.ext x2) q2
    | exc c pl => exact fun p => p.elim
    | stuck => exact fun p => p.elim
end
end VL

set_option Elab.async false
set_option linter.all false
set_option maxRecDepth 100000
/-! VP: the value layer: the end of a law. -/
namespace VL
open PySem L2
/-- the script as data -/
def scrD (ns : List Int) : PyData := .dict (ns.map fun n => (.int n, .none))
def spLaw (K : PySem.W.Frag) : Sp := fun vs H Q _ => ∃ (a : Addr) (ns : List Int), vs = [.ref a] ∧ SqL K H a (ns.map V.int) ∧ ns.length ≤ 63 ∧ ∀ H2, Q (.bl true) H2
theorem law_fn {P : Program} {w : World} {K : PySem.W.Frag} {mg : Str → Option Value} {base : Heap} {ct : Nat → Addr} {k : Nat} {f : Addr} {fd : FuncData} {ps : List Str} {fm : List PyData → FO}
    (F : FnOk P w K mg base (L2.CX P w) k f fd ps (spM K ct fm)) (h : ∀ ns : List Int, ns.length ≤ 63 → fm [scrD ns] = .ok (.bool true)) : FnOk P w K mg base (L2.CX P w) k f fd ps (spLaw K) :=
  F.imp fun vs H Q E ⟨a, ns, e, hs, hl, q⟩ => by
    subst e
    refine ⟨H, [scrD ns], Same.refl H, .cons (.scr hs) .nil, ?_⟩
    rw [h ns hl]
    intro v F2 H2 x r
    cases r
    exact q H2
def ctOf (l : List Addr) : Nat → Addr := fun n => l.getD n 0
theorem walk_end {l : PySem.W.OpenLaw} {q : Program} {loose : List Str} {XP : (Str → Option Value) → Heap → Prop} {YP : World → Heap → Prop} {d : DefRec} {K : Params → PySem.W.Frag} (k : Nat) (hn : l.most = some 63) (hdf : d.params.defaults = []) (hr : Room k callerA)
    (hY : ∀ (w : World) (h : Heap), YP w h → (K w.params).In h)
    (F : ∀ (w : World) (mg : Str → Option Value) (fa : Addr) (h : Heap), (K w.params).In h → h.Ns mainGlobals mg → mg d.name = some (.ref fa) →
      ∃ fd : FuncData, (∀ (s : Shared) (u : Value), BindsTo s fd ⟨[u], []⟩ [("script", u)]) ∧ ∀ base : Heap, (K w.params).In base → base.Ns mainGlobals mg → FnOk l.prog w (K w.params) mg base (L2.CX l.prog w) k fa fd ["script"] (spLaw (K w.params))) :
    PySem.W.WalkO q loose XP YP l.row.toRowW d [] (fun f vs => PySem.call f vs) :=
  L2.walk_of (n := 63) (k := k) (x := "script") (CX := fun w => L2.CX l.prog w) (sp := fun w => spLaw (K w.params)) hn (by decide) hdf hr hY F (fun _ _ a ns hl _ hS => ⟨a, ns, rfl, hS, hl, fun _ => rfl⟩) fun w H s e s2 h => by
    obtain ⟨_, _, _, _, _, _, _, _, _, _, _, _, z⟩ := h
    exact z
end VL

set_option Elab.async false
set_option linter.all false
set_option maxRecDepth 100000
/-! VQ: try, with several clauses that name what they catch. -/
namespace VL
open PySem PySem.Spec PyProof.Rows L2
/-- the ends within a clause that names slot i -/
def endsAs (i : Nat) (D : Ends) : Ends := { nx := fun τ J => D.nx (τ.set i none) J, rt := D.rt, bk := fun τ J => D.bk (τ.set i none) J, ct := fun τ J => D.ct (τ.set i none) J }
abbrev Cl := Value × (Addr → Value → Option Addr → TS)
/-- what the clauses wish of what flies out of the body -/
def wClauses (K : PySem.W.Frag) (i : Nat) (Wo : WX) (D : Ends) : List Cl → WX
  | [] => Wo
  | q :: qs => fun cls d τ J => ∃ yes, PySem.W.exmOne K cls q.1 = some yes ∧ (yes = true → ∀ a, J a = none → q.2 a cls d (endsAs i D) (τ.set i (some (.ref a))) J) ∧ (yes = false → wClauses K i Wo D qs cls d τ J)
inductive Clauses (X : Cx) (n : Str) : List ExceptHandler → List Cl → Prop
  | nil : Clauses X n [] []
  | cons {x : Str} {c : Value} {ts : Addr → Value → Option Addr → TS} {st : Stmt} {sts : List Stmt} {np hp : Pos} {hds : List ExceptHandler} {l : List Cl} (nm : Names X x c)
      (su : ∀ (a : Addr) (oe : Obj) (cls : Value) (d : Option Addr) (pn : List (Addr × Obj)), Zc cls d oe → (∃ fs, oe.data = .fields fs) → PSs (X.suite a ((a, oe) :: pn)) (st :: sts) (ts a cls d))
      (more : Clauses X n hds l) : Clauses X n (.ExceptHandler (some (.Name x np)) (some n) (st :: sts) hp :: hds) ((c, ts) :: l)
section
variable {X : Cx} {n : Str} {i : Nat} {body : List Stmt} {hd : ExceptHandler} {hds : List ExceptHandler} {l : List Cl} {pos : Pos} {tb : WX → TS} {Wo : WX}
theorem ps_try_clauses (hst : X.stack = X.env :: X.outer) (hfl : X.env.frame = some X.env.locals) (nd : X.N.Nodup) (at_i : X.N[i]? = some n) (loc : X.env.kindOf n = some .local) (tk : L2.Takes X Wo)
    (hb : ∀ (W : WX) (pn : List (Addr × Obj)) (xe : Value → Shared → Prop), L2.Takes (X.tr pn xe) W → PassesOwn (model X.prog X.w) X.A X.env xe → PSs (X.tr pn xe) body (tb W))
    (hc : Clauses X n (hd :: hds) l) : PS X (.Try body (hd :: hds) [] [] pos) (fun D σ H => tb (wClauses X.K i Wo D l) D σ H) := by
  constructor
  intro pins s σ H D inv asked
  have fine := inv.ok
  have frames : X.A.frames = some (X.env :: X.outer) := fine.frames.trans (congrArg some hst)
  refine wpAny_Try_except (wpAny_mono ((hb (wClauses X.K i Wo D l) (X.pn ++ pins)
    (fun x s₁ => wpAny (model X.prog X.w) X.A (noteFrame x X.env) (fun _ s₂ => wpAny (model X.prog X.w) X.A (setFlight x none) (fun _ s₃ => wpAny (model X.prog X.w) X.A (handleBy x X.env (hd :: hds)) (SP X pins D) X.xe s₃) X.xe s₂) X.xe s₁)
    (fun u t fly => ?_) PassesOwn.looking).run [] s σ H D (inv.toTry _) asked) (fun f t out => ?_) (fun _ _ z => z))
  · obtain ⟨a, B, t0, pins2, τ, J, cls, d, rfl, inv2, kept, up, sky, fresh, os, bare, wish⟩ := fly
    have inv1 : Inv X pins τ J t0 := inv2.ofTry fine
    rw [hst] at sky
    refine Sky.land Zc.steady frames hfl sky fun h1 fl1 up1 => ?_
    have here : Inv X pins τ J { t with heap := h1 } := inv1.landed kept fl1.1 (up.trans up1) os bare
    obtain ⟨oe, vs, got, zc, flds⟩ := fl1.there
    have off : a ∉ frs (X.env :: X.outer) := fun hm => by
      obtain ⟨_, o2, g2, nf⟩ := (fl1.2.2.1).mem hm
      rw [got] at g2
      cases g2
      exact nf _ flds
    have offL : a ≠ X.env.locals := fun z => off (List.mem_filterMap.mpr ⟨X.env, List.mem_cons_self, by rw [hfl, z]⟩)
    have offF : a ∉ X.fs := fun hm => by
      obtain ⟨e, he, q⟩ := List.mem_filterMap.mp hm
      exact off (List.mem_filterMap.mpr ⟨e, List.mem_cons_of_mem _ he, q⟩)
    have held := here.suite got flds fresh offL offF
    have all : ∀ {hs2 : List ExceptHandler} {l2 : List Cl}, Clauses X n hs2 l2 → wClauses X.K i Wo D l2 cls d τ J → wpAny (model X.prog X.w) X.A (handleBy (.ref a) X.env hs2) (SP X pins D) X.xe { t with heap := h1 } := by
      intro hs2 l2 cl
      induction cl with
      | nil =>
        intro w
        refine wpAny_handleBy_nil ?_
        obtain ⟨_, _, _, o1, f1, T, oT, ts1, g1, _, d1, e1, _⟩ := id fl1
        unfold PySem.passOn
        refine wpAny_bind (wpAny_field g1 d1 e1 ?_)
        rw [if_neg (by simp)]
        have last : wpAny (model X.prog X.w) X.A (setFlight (.ref a) X.env.frame) (fun _ s4 => wpAny (model X.prog X.w) X.A (throw (.ref a) : Sem Flow) (SP X pins D) X.xe s4) X.xe { t with heap := h1 } := by
          rw [hfl]
          refine HandSPX.setFlight_upZ fl1 fun h2 fl2 up2 => wpAny_throw (tk _ _ ⟨a, B, t0, pins, τ, J, cls, d, rfl, inv1, kept, (up.trans up1).trans up2, .inr (.inr ?_), fresh, os, bare, w⟩)
          rw [hst]
          exact fl2
        first
          | exact wpAny_bind (wpAny_pure (wpAny_bind last))
          | exact wpAny_bind last
      | @cons x c ts st sts np hp hds2 l2 nm su more ih =>
        rintro ⟨yes, is, y1, y0⟩
        refine wpAny_handleBy_cons (codeAny_handlers_test ?_) (by intro q; cases q)
        have ty : PySem.W.Looks (model X.prog X.w) h1 (typeOf (.ref a)) cls := fun A Q E s k q => wpAny_typeOf_ref (k _ _ got) (zc.1 ▸ q)
        have named : ∀ {Q E : Value → Shared → Prop}, Q c { t with heap := h1 } → wpAny (model X.prog X.w) (X.A.mark (some (.ref a))) (eval (.Name x np) X.env) Q E { t with heap := h1 } := fun {Q E} q => by
          obtain ⟨g, db, m | ⟨m, bv, nn⟩⟩ := nm
          · exact ld_glob (X := X.suite a ((a, oe) :: (X.pn ++ pins))) held g m q db
          · exact ld_blt (X := X.suite a ((a, oe) :: (X.pn ++ pins))) held g m bv q nn db
        refine named ((PySem.W.exm_one (M := model X.prog X.w) here.kIn ty is).here ?_)
        cases yes with
        | false => exact ih (y0 rfl)
        | true =>
          refine codeAny_handlers_suite_as (HandSPX.lands_againZ fl1 fun h2 fl2 up2 => ?_)
          have here2 : Inv X pins τ J { t with heap := h2 } := inv1.landed kept fl2.1 ((up.trans up1).trans up2) os bare
          obtain ⟨oe2, vs2, got2, zc2, flds2⟩ := fl2.there
          refine store_ok (X := X.suite a ((a, oe2) :: (X.pn ++ pins))) (v := .ref a) (here2.suite got2 flds2 fresh offL offF) nd at_i (.inl loc) rfl (fun t5 inv5 => ?_) (.inr loc)
          refine wpAny_mono ((su a oe2 cls d (X.pn ++ pins) zc2 ⟨_, flds2⟩).run [] t5 _ J _ inv5 (y1 rfl a fresh)) (fun f t6 out => ?_) (fun _ _ z => z.elim)
          have done : ∀ {τ6 : L2.St} {J6 : Hp} {Q : Shared → Prop}, Inv (X.suite a ((a, oe2) :: (X.pn ++ pins))) [] τ6 J6 t6 → (∀ t7, Inv X pins (τ6.set i none) J6 t7 → Q t7) →
              wpAny (model X.prog X.w) X.A (do bindName X.env n .none; unbindBehindTheSuite X.env n hp) (fun _ t7 => Q t7) X.xe t6 := fun inv6 q => gone_ok (inv6.unsuite fine) nd at_i loc q
          cases f with
          | ret u =>
            obtain ⟨v, τ6, J6, inv6, r, q⟩ := out
            exact done inv6 fun t7 inv7 => ⟨v, _, J6, inv7, r, q⟩
          | next =>
            obtain ⟨τ6, J6, inv6, q⟩ := out
            exact done inv6 fun t7 inv7 => ⟨_, J6, inv7, q⟩
          | brk =>
            obtain ⟨τ6, J6, inv6, q⟩ := out
            exact done inv6 fun t7 inv7 => ⟨_, J6, inv7, q⟩
          | cont =>
            obtain ⟨τ6, J6, inv6, q⟩ := out
            exact done inv6 fun t7 inv7 => ⟨_, J6, inv7, q⟩
    exact all hc wish
  · cases f with
    | ret u =>
      obtain ⟨v, τ, J, inv2, r, q⟩ := out
      exact ⟨v, τ, J, inv2.ofTry fine, r, q⟩
    | next =>
      obtain ⟨τ, J, inv2, q⟩ := out
      exact wpAny_execs_nil ⟨τ, J, inv2.ofTry fine, q⟩
    | brk =>
      obtain ⟨τ, J, inv2, q⟩ := out
      exact ⟨τ, J, inv2.ofTry fine, q⟩
    | cont =>
      obtain ⟨τ, J, inv2, q⟩ := out
      exact ⟨τ, J, inv2.ofTry fine, q⟩
end
end VL

set_option Elab.async false
set_option linter.all false
set_option maxRecDepth 100000
/-! VR: try with clauses that return a text by what isinstance says of the caught. -/
namespace VL
open PySem PySem.Spec PyProof.Rows L2
/-- in a clause that holds a in slot i: a test, a value -/
def tT1 (i : Nat) (a : Addr) (b : Bool) : TT := fun σ H Q => σ[i]? = some (some (.ref a)) ∧ Q b H
def tV1 (i : Nat) (a : Addr) (v : V) : TE := fun σ H Q => σ[i]? = some (some (.ref a)) ∧ Q v H
def tR1 (i : Nat) (a : Addr) (s : Str) : TS := fun D σ H => σ[i]? = some (some (.ref a)) ∧ D.rt (.str s) H
section
variable {X : Cx} {a C : Addr} {oe : Obj} {pn : List (Addr × Obj)} {i : Nat} {n x : Str} {p p1 p2 pos : Pos} {b b2 : Bool} {cv : Value} {c : V}
theorem pe_isE (E : ExcC X.K C) (hz : Zc (.ref C) none oe) (hf : ∃ fs, oe.data = .fields fs) (hk : PySem.W.kitOne X.K (.ref C) cv = some b) (hm : X.mg "isinstance" = none) (hmc : X.mg x = some cv) (r : RelV c cv) (ru : ∀ u, RelV c u → u = cv) (hi : X.N[i]? = some n)
    (hv : Vis X.env.scope n) (hg : Gl X "isinstance") (hgx : Gl X x) (hd : (n == ("__debug__" : Str)) = false) (hcd : (n == ("__classdict__" : Str)) = false) (hdx : (x == ("__debug__" : Str)) = false) :
    PE (X.suite a ((a, oe) :: pn)) (.Call (.Name "isinstance" p) [.Name n p1, .Name x p2] [] pos) (tV1 i a (.bl b)) :=
  pe_imp (pe_callB (X := X.suite a ((a, oe) :: pn)) (call_isE (X := X) E hz hf) hg hm PyProof.Rows.boot_isinstance
    (pa_cons (pe_var (X := X.suite a ((a, oe) :: pn)) hi hv hd hcd) (pa_cons (pe_glob (X := X.suite a ((a, oe) :: pn)) hgx hmc r hdx) pa_nil rfl) rfl) (he := rfl) (hpl := rfl))
    fun σ H Q ⟨h1, h2⟩ => ⟨.ref a, h1, c, cv, b, rfl, ru, hk, h2⟩
theorem pe_isC {C2 : Addr} (b : Bool) (E : ExcC X.K C) (hz : Zc (.ref C) none oe) (hf : ∃ fs, oe.data = .fields fs) (hk : PySem.W.kitOne X.K (.ref C) (.ref C2) = some b) (hm : X.mg "isinstance" = none) (hmc : X.mg x = some (.ref C2)) (hi : X.N[i]? = some n := by rfl)
    (hv : Vis X.env.scope n := by first | exact .inl rfl | exact .inr (.inl rfl) | exact .inr (.inr rfl)) (hg : Gl X "isinstance" := by rfl) (hgx : Gl X x := by rfl) (hd : (n == ("__debug__" : Str)) = false := by decide) (hcd : (n == ("__classdict__" : Str)) = false := by decide) (hdx : (x == ("__debug__" : Str)) = false := by decide) :
    PE (X.suite a ((a, oe) :: pn)) (.Call (.Name "isinstance" p) [.Name n p1, .Name x p2] [] pos) (tV1 i a (.bl b)) :=
  pe_isE (c := .ref C2) E hz hf hk hm hmc rfl (fun u h => by cases h; rfl) hi hv hg hgx hd hcd hdx
theorem pt_1 {e : Expr} {Y : Cx} (h : PE Y e (tV1 i a (.bl b))) (he : ∀ whole, isTrue e Y.env whole = (do let v ← whole; standAt e.pos; holding [v] (truthy v)) := by intro _; rfl) : PT Y e (tT1 i a b) :=
  pt_imp (pt_val h he) fun σ H Q ⟨h1, h2⟩ => ⟨h1, b, rfl, h2⟩
theorem pt_1not {e : Expr} {Y : Cx} (h : PT Y e (tT1 i a b)) : PT Y (.UnaryOp .Not e pos) (tT1 i a (!b)) :=
  pt_imp (pt_not h) fun σ H Q ⟨h1, h2⟩ => ⟨h1, h2⟩
theorem pt_1and {e e2 : Expr} {Y : Cx} (h : PT Y e (tT1 i a b)) (h2 : PT Y e2 (tT1 i a b2)) : PT Y (.BoolOp .And [e, e2] pos) (tT1 i a (b && b2)) :=
  pt_imp (pw_and h (pw_and1 h2)).pt fun σ H Q ⟨q1, q2⟩ => ⟨q1, by
    cases b with
    | true => exact iteT ⟨q1, q2⟩
    | false => exact iteF q2⟩
theorem ps_1ret {e : Expr} {Y : Cx} {s s2 : Str} {j j2 : Nat} (h : PT Y e (tT1 i a b)) : PSs Y [.Return (some (.IfExp e (.Constant (.str s) j p) (.Constant (.str s2) j2 p1) p2)) pos] (tR1 i a (if b = true then s else s2)) :=
  pss_imp (pss_one (ps_ret (pe_ifExp h pe_str pe_str))) fun D σ H ⟨q1, q2⟩ => ⟨q1, by
    cases b with
    | true => exact iteT q2
    | false => exact iteF q2⟩
end
/-- the classes' facts, from what k_is answers -/
theorem kit_own {K : PySem.W.Frag} {D C : Addr} {b : Bool} (hb : PySem.W.subIn K (.ref D) (.ref C) = some b) (hs : PySem.W.subIn K (.ref D) (.ref D) = some true) (hd : PySem.W.hasDictIn K C = true) (ht : PySem.W.typeIn K (.ref C) = some (.type "type")) : PySem.W.kitOne K (.ref D) (.ref C) = some b := by
  unfold PySem.W.kitOne
  by_cases e : D = C
  · subst e
    rw [hb] at hs
    cases hs
    rw [if_pos (beq_self_eq_true _)]
  · rw [if_neg (by
      intro h
      exact e (Value.ref.inj (beq_iff_eq.mp h)))]
    obtain ⟨cd, hc, _⟩ := PySem.W.any_some hd
    show (if ((PySem.W.clsIn K C).isSome && PySem.W.typeIn K (.ref C) == some (.type "type")) = true then PySem.W.subIn K (.ref D) (.ref C) else none) = some b
    rw [hc, ht]
    exact hb
/-- what a clause gives, class by class -/
inductive Ev (P : Nat → Str → Prop) : List (Nat × Str) → Prop
  | nil : Ev P []
  | cons {c : Nat} {s : Str} {l : List (Nat × Str)} : P c s → Ev P l → Ev P ((c, s) :: l)
theorem Ev.at {P : Nat → Str → Prop} : ∀ {l : List (Nat × Str)} {c : Nat} {s : Str}, Ev P l → l.lookup c = some s → P c s
  | _, c, s, .nil, e => by cases e
  | (c2, s2) :: l, c, s, .cons h t, e => by
    rw [List.lookup_cons] at e
    by_cases hc : (c == c2) = true
    · rw [hc] at e
      cases e
      rw [beq_iff_eq] at hc
      rw [hc]
      exact h
    · rw [Bool.eq_false_iff.mpr hc] at e
      exact t.at e
/-- a clause, by a list of classes and texts -/
def clT (ct : Nat → Addr) (i : Nat) (f : List (Nat × Str)) : Addr → Value → Option Addr → TS := fun a cls d D σ H => ∃ c s, cls = .ref (ct c) ∧ d = none ∧ f.lookup c = some s ∧ tR1 i a s D σ H
theorem cl_ok {X : Cx} {ct : Nat → Addr} {i : Nat} {sts : List Stmt} {f : List (Nat × Str)} (h : Ev (fun c s => ∀ (a : Addr) (oe : Obj) (pn : List (Addr × Obj)), Zc (.ref (ct c)) none oe → (∃ fs, oe.data = .fields fs) → PSs (X.suite a ((a, oe) :: pn)) sts (tR1 i a s)) f) :
    ∀ (a : Addr) (oe : Obj) (cls : Value) (d : Option Addr) (pn : List (Addr × Obj)), Zc cls d oe → (∃ fs, oe.data = .fields fs) → PSs (X.suite a ((a, oe) :: pn)) sts (clT ct i f a cls d) :=
  fun a oe cls d pn hz hf => ⟨fun pins s σ H D I q => by
    obtain ⟨c, t, e1, e2, e3, q⟩ := q
    subst e1
    subst e2
    exact (h.at e3 a oe pn hz hf).run pins s σ H D I q⟩
/-- a clause is passed by -/
theorem cl_no {K : PySem.W.Frag} {i : Nat} {D : Ends} {cls : Value} {d : Option Addr} {τ : L2.St} {J : Hp} {Wo : WX} {q : Cl} {l : List Cl} (h : PySem.W.exmOne K cls q.1 = some false) (r : wClauses K i Wo D l cls d τ J) : wClauses K i Wo D (q :: l) cls d τ J :=
  ⟨false, h, fun z => (nomatch z), fun _ => r⟩
theorem cl_yes {K : PySem.W.Frag} {ct : Nat → Addr} {i c : Nat} {D : Ends} {τ : L2.St} {J : Hp} {Wo : WX} {cv : Value} {f : List (Nat × Str)} {s : Str} {l : List Cl} (hl : i < τ.length) (hr : D.rt (.str s) J) (h : PySem.W.exmOne K (.ref (ct c)) cv = some true) (e : f.lookup c = some s) :
    wClauses K i Wo D ((cv, clT ct i f) :: l) (.ref (ct c)) none τ J :=
  ⟨true, h, fun _ a _ => ⟨c, s, rfl, rfl, e, by rw [List.getElem?_set_self hl], hr⟩, fun z => (nomatch z)⟩
def tryK (i : Nat) (tbl : List (Nat × Str)) (o : SO) : SO := match o with
  | .exc c none G => if i < G.length then (match tbl.lookup c with
    | some s => .ret (.str s)
    | none => .stuck) else .stuck
  | .exc _ (some _) _ => .stuck
  | o => o
def tryS (i : Nat) (tbl : List (Nat × Str)) (mb : Gm → SO) : Gm → SO := fun G => tryK i tbl (mb G)
abbrev noW : WX := fun _ _ _ _ => False
section
variable {X : Cx} {ct : Nat → Addr} {W : WX} {n : Str} {i : Nat} {body : List Stmt} {hd : ExceptHandler} {hds : List ExceptHandler} {l : List Cl} {pos : Pos} {mb : Gm → SO} {tbl : List (Nat × Str)}
theorem es_try (hst : X.stack = X.env :: X.outer) (hfl : X.env.frame = some X.env.locals) (nd : X.N.Nodup) (at_i : X.N[i]? = some n) (loc : X.env.kindOf n = some .local)
    (hb : ∀ (W : WX) (pn : List (Addr × Obj)) (xe : Value → Shared → Prop), L2.Takes (X.tr pn xe) W → PassesOwn (model X.prog X.w) X.A X.env xe → ESs (X.tr pn xe) ct W body mb)
    (hc : Clauses X n (hd :: hds) l) (ht : Ev (fun c s => ∀ (D : Ends) (τ : L2.St) (J : Hp), i < τ.length → D.rt (.str s) J → wClauses X.K i noW D l (.ref (ct c)) none τ J) tbl) : ES X ct W (.Try body (hd :: hds) [] [] pos) (tryS i tbl mb) :=
  ps_imp (ps_try_clauses hst hfl nd at_i loc (Wo := noW) (tb := fun W => sM X.K ct W mb) takes_none5 hb hc) fun D σ H ⟨F0, H0, F, G, r, p⟩ => by
    refine ⟨F0, H0, F, G, r, ?_⟩
    unfold tryS at p
    revert p
    cases e : mb G with
    | next G2 => exact fun p => p
    | ret d => exact fun p => p
    | brk G2 => exact fun p => p
    | cont G2 => exact fun p => p
    | stuck => exact fun p => p
    | exc c pl G2 =>
      cases pl with
      | some d => exact fun p => p.elim
      | none =>
        intro p
        unfold tryK at p
        by_cases hl : i < G2.length
        · simp only [if_pos hl] at p
          cases et : tbl.lookup c with
          | none => rw [et] at p; exact p.elim
          | some s =>
            rw [et] at p
            intro cls dd σ2 F2 H2 sm r2 x
            obtain ⟨e1, e2⟩ := x
            subst e1
            subst e2
            exact ht.at et D σ2 H2 (by rw [← r2.len]; exact hl) (p (.str s) F2 H2 r2.extOf (.str s))
        · simp only [if_neg hl] at p
          exact p.elim
end
end VL

set_option Elab.async false
set_option linter.all false
set_option maxRecDepth 100000
/-! VS: max, sum of a list of ints; min of two; list.count. -/
namespace VL
open PySem L2
section
variable {X : Cx} {ct : Nat → Addr} {W : WX} {a b c e : Expr} {ma mb mc me : Gm → EO} {pos p apos : Pos} {x : Str}
def maxL : Int → List Int → Int
  | m, [] => m
  | m, n :: ns => maxL (if m < n then n else m) ns
theorem maxL_ge : ∀ (ns : List Int) (m : Int), m ≤ maxL m ns ∧ ∀ y ∈ ns, y ≤ maxL m ns
  | [], m => ⟨Int.le_refl _, fun y hy => by cases hy⟩
  | n :: ns, m => by
    obtain ⟨h1, h2⟩ := maxL_ge ns (if m < n then n else m)
    unfold maxL
    by_cases h : m < n
    · rw [if_pos h] at h1 h2 ⊢
      refine ⟨by omega, fun y hy => ?_⟩
      rcases List.mem_cons.mp hy with rfl | hy
      · exact h1
      · exact h2 y hy
    · rw [if_neg h] at h1 h2 ⊢
      refine ⟨h1, fun y hy => ?_⟩
      rcases List.mem_cons.mp hy with rfl | hy
      · omega
      · exact h2 y hy
theorem maxL_mem : ∀ (ns : List Int) (m : Int), maxL m ns ∈ m :: ns
  | [], m => List.mem_singleton.mpr rfl
  | n :: ns, m => by
    unfold maxL
    have := maxL_mem ns (if m < n then n else m)
    rcases List.mem_cons.mp this with h | h
    · rw [h]
      split
      · exact List.mem_cons_of_mem _ List.mem_cons_self
      · exact List.mem_cons_self
    · exact List.mem_cons_of_mem _ (List.mem_cons_of_mem _ h)
def gMax : PyData → EO
  | .list ds => match allInts ds with
    | some (n :: ns) => .ok (.int (maxL n ns)) .frz
    | _ => .stuck
  | _ => .stuck
def gSum : PyData → EO
  | .list ds => match allInts ds with
    | some ns => .ok (.int ns.sum) .frz
    | _ => .stuck
  | _ => .stuck
theorem g_max {K : PySem.W.Frag} : GC1 K (rMax K) gMax := by
  intro ct W σ F H v d Q fh vv q
  unfold gMax at q
  split at q
  · split at q
    · rename_i ds n ns e
      obtain ⟨_, l, vs, rfl, h1, r1⟩ := vv
      have := ints_vals r1 e
      subst this
      refine ⟨l, n :: ns, rfl, SqL.of h1, Nat.zero_lt_succ _, fun m hm hy => ?_⟩
      have e2 : m = maxL n ns := Int.le_antisymm (by
        rcases List.mem_cons.mp hm with h | h
        · rw [h]; exact (maxL_ge ns n).1
        · exact (maxL_ge ns n).2 m h) (hy _ (maxL_mem ns n))
      rw [e2]
      exact ok_frz fh (.int _) q
    · exact q.elim
  · exact q.elim
theorem g_sum {K : PySem.W.Frag} : GC1 K (rSum K) gSum := by
  intro ct W σ F H v d Q fh vv q
  unfold gSum at q
  split at q
  · split at q
    · rename_i ds ns e
      obtain ⟨_, l, vs, rfl, h1, r1⟩ := vv
      have := ints_vals r1 e
      subst this
      exact ⟨l, ns, rfl, SqL.of h1, ok_frz fh (.int _) q⟩
    · exact q.elim
  · exact q.elim
theorem ee_max (hm : X.mg "max" = none) (ha : EE X ct W a ma) (hc : X.calm = true := by rfl) (hg : Gl X "max" := by rfl) (hs : starEach [a] X.env = (false, eval a X.env) :: starEach [] X.env := by rfl) : EE X ct W (.Call (.Name "max" p) [a] [] pos) (op1 gMax ma) := ee_b1 (cr_max hc) g_max hm (by decide +kernel) ha hg (hs := hs)
theorem ee_sum (hm : X.mg "sum" = none) (ha : EE X ct W a ma) (hc : X.calm = true := by rfl) (hg : Gl X "sum" := by rfl) (hs : starEach [a] X.env = (false, eval a X.env) :: starEach [] X.env := by rfl) : EE X ct W (.Call (.Name "sum" p) [a] [] pos) (op1 gSum ma) := ee_b1 (cr_sum hc) g_sum hm (by decide +kernel) ha hg (hs := hs)
def gMin : PyData → PyData → EO
  | .int i, .int j => .ok (.int (if j < i then j else i)) .frz
  | _, _ => .stuck
theorem ee_min (hc : X.calm = true) (hm : X.mg "min" = none) (ha : EE X ct W a ma) (hb : EE X ct W b mb) (hg : Gl X "min" := by rfl) (hs : starEach [a, b] X.env = (false, eval a X.env) :: starEach [b] X.env := by rfl) (hs2 : starEach [b] X.env = (false, eval b X.env) :: starEach [] X.env := by rfl)
    (hpl : (backTo pos (starEach [b] X.env)).any (·.1) = false := by rfl) : EE X ct W (.Call (.Name "min" p) [a, b] [] pos) (op2 gMin ma mb) :=
  pe_imp (pe_callB (call_min2 hc) hg hm (by decide +kernel) (pa_cons ha (pa_cons hb pa_nil hs2) hs) (he := hs) (hpl := hpl)) fun σ H Q h => by
    refine tM_mono (tM_view (k := fun G d => (mb G).bind fun e _ => gMin d e) h) fun v H1 ⟨F0, H0, F1, G, d, rp, vv, q⟩ => ?_
    refine tM_mono (tM_viewAt rp q) fun u H2 ⟨F2, e2, x2, vu, q2⟩ => ?_
    revert q2
    cases d with
    | int i =>
      cases e2 with
      | int j =>
        intro q2
        have e1 := vv.int
        have e3 := vu.int
        subst e1
        subst e3
        exact ⟨i, j, rfl, ok_frz x2.fh (.int _) q2⟩
      | _ => exact fun q2 => q2.elim
    | _ => cases e2 <;> exact fun q2 => q2.elim
def gCount : PyData → PyData → EO
  | .list ds, .int k => match allInts ds with
    | some ns => .ok (.int (ns.count k : Nat)) .frz
    | _ => .stuck
  | _, _ => .stuck
def cntE (ma mb : Gm → EO) : Gm → EO := fun G => (ma G).bind fun d _ => match d with
  | .list ds => (mb G).bind fun e _ => gCount (.list ds) e
  | _ => .stuck
theorem ee_count (ha : EE X ct W a ma) (hb : EE X ct W b mb) (hbase : attributeBase a "count" X.env (eval a X.env) = eval a X.env := by rfl) (hs1 : starEach [b] X.env = (false, eval b X.env) :: starEach [] X.env := by rfl) (hline : (apos.endLine == pos.line) = true := by rfl) :
    EE X ct W (.Call (.Attribute a "count" apos) [b] [] pos) (cntE ma mb) :=
  pe_imp (pe_bm PySem.F.plainAttrs_list PySem.F.slot_list_count PySem.F.type_list_count mt_lcount ha (pa_cons hb pa_nil hs1) (hbase := hbase) (hline := hline) (hs := hs1) (hfew := by rw [hs1] <;> rfl)) fun σ H Q h => by
    refine tM_mono (tM_view (k := fun G d => match d with
      | .list ds => (mb G).bind fun e _ => gCount (.list ds) e
      | _ => .stuck) h) fun v H1 ⟨F0, H0, F1, G, d, rp, vv, q⟩ => ?_
    have isl : ∃ ds, d = .list ds := by
      cases d with
      | list ds => exact ⟨ds, rfl⟩
      | _ => exact q.elim
    obtain ⟨ds, rfl⟩ := isl
    obtain ⟨l1, l2, lvs, rfl, lh, lr⟩ := vv
    refine ⟨.inl ⟨rfl, lvs, SqL.of lh⟩, ?_⟩
    refine tM_mono (tM_viewAt rp q) fun u H2 ⟨F2, e2, x2, vu, q2⟩ => ?_
    unfold gCount at q2
    split at q2
    · rename_i ds2 k ed
      cases ed
      split at q2
      · rename_i ns e3
        have := ints_vals lr e3
        subst this
        have e1 := vu.int
        subst e1
        exact ⟨_, ns, k, rfl, rfl, SqL.of (x2.hh _ _ lh), ok_frz x2.fh (.int _) q2⟩
      · exact q2.elim
    · exact q2.elim
end
end VL

set_option Elab.async false
set_option linter.all false
set_option maxRecDepth 100000
/-! VT: for x, y in zip(list, list). -/
namespace VL
open PySem L2
section
variable {K : PySem.W.Frag} {F H Hs : Hp}
def zipD (ds es : List PyData) : List PyData := List.zipWith (fun x y => .tuple [x, y]) ds es
theorem zip_get : ∀ {ds es : List PyData} {i : Nat} {d : PyData}, (zipD ds es)[i]? = some d → ∃ x y, ds[i]? = some x ∧ es[i]? = some y ∧ d = .tuple [x, y]
  | [], _, i, d, h => by simp [zipD] at h
  | _ :: _, [], i, d, h => by simp [zipD] at h
  | x :: ds, y :: es, 0, d, h => by
    simp [zipD] at h
    exact ⟨x, y, rfl, rfl, h.symm⟩
  | x :: ds, y :: es, i + 1, d, h => by
    obtain ⟨u, v, h1, h2, h3⟩ := zip_get (ds := ds) (es := es) (i := i) (d := d) (by simpa [zipD] using h)
    exact ⟨u, v, by simpa using h1, by simpa using h2, h3⟩
theorem it_zip {a b : Addr} {vs us : List V} {ds es : List PyData} (ha : Hs a = some (.lst vs)) (hb : Hs b = some (.lst us)) (r : DqAll K F vs ds) (q : DqAll K F us es) : ItOk K F Hs (Itz K a b) (zipD ds es) where
  go := fun i F2 H2 d s1 s2 s3 e => by
    obtain ⟨x, y, e1, e2, rfl⟩ := zip_get e
    obtain ⟨v, hv, rv⟩ := dpAll_get r e1
    obtain ⟨u, hu, ru⟩ := dpAll_get q e2
    have sa : SqL K H2 a vs := SqL.of (s3 _ _ ha)
    have sb : SqL K H2 b us := SqL.of (s3 _ _ hb)
    refine ⟨⟨vs, us, v, u, sa, sb, hv, hu⟩, fun z H3 w => ?_⟩
    obtain ⟨T, v2, u2, rfl, hT, rfl, h1, h2⟩ := w
    have z1 := h1 vs sa
    rw [hv] at z1
    cases z1
    have z2 := h2 us sb
    rw [hu] at z2
    cases z2
    have hF : F2 T = none := by
      cases ef : F2 T with
      | none => rfl
      | some o => rw [s2 _ _ ef] at hT; cases hT
    refine ⟨upd F2 T (.tup [v, u]), Ext.newF s2 hT, .tup upd_same (.cons ?_ (.cons ?_ .nil))⟩
    · exact dp_mono (same_new hF) _ _ (dp_mono s1 _ _ rv)
    · exact dp_mono (same_new hF) _ _ (dp_mono s1 _ _ ru)
  stop := fun F2 H2 s1 s2 s3 => by
    refine ⟨vs, us, SqL.of (s3 _ _ ha), SqL.of (s3 _ _ hb), ?_⟩
    unfold zipD
    rw [List.length_zipWith, dpAll_len r, dpAll_len q]
    omega
end
section
variable {X : Cx} {ct : Nat → Addr} {W : WX} {a b : Expr} {ms : Gm → AO} {pos p tpos : Pos} {elts : List Expr} {kk : Nat}
def iterZ (ms : Gm → AO) : Gm → IO := fun G => match ms G with
  | .ok [.list ds, .list es] => .ok (zipD ds es) G
  | .exc c pl => .exc c pl
  | _ => .stuck
theorem ei_zip (hm : X.mg "zip" = none) (ha : EA X ct W [a, b] ms) (hg : Gl X "zip" := by rfl) (hs : starEach [a, b] X.env = (false, eval a X.env) :: starEach [b] X.env := by rfl) (hpl : (backTo pos (starEach [b] X.env)).any (·.1) = false := by rfl) :
    EI X ct W (.Tuple elts kk tpos) (.Call (.Name "zip" p) [a, b] [] pos) (iterZ ms) :=
  pi_imp (RZ.pi_zipA hg hm ha hs hpl) fun σ H R ⟨F0, H0, F, G, r, p⟩ => by
    refine ⟨F0, H0, F, G, r, ?_⟩
    unfold iterZ at p
    revert p
    cases e : ms G with
    | exc c pl => exact fun p => p
    | stuck => exact fun p => p.elim
    | ok l =>
      intro p vs F2 H2 x q
      match l, p, q with
      | [.list ds, .list es], p, q =>
        cases q with
        | cons h1 t =>
          cases t with
          | cons h2 t2 =>
            cases t2
            cases h1 with
            | @lst a1 v1 _ s1 r1 =>
              cases h2 with
              | @lst a2 v2 _ s2 r2 =>
                have fh := x.fh
                exact ⟨a1, a2, v1, v2, rfl, .inl ⟨SqL.of (fh _ _ s1), SqL.of (fh _ _ s2), p _ F2 H2 x.ff (r.ext x) (it_zip s1 s2 r1 r2)⟩⟩
end
end VL

set_option Elab.async false
set_option linter.all false
set_option maxRecDepth 100000
/-! VU: an assignment that freezes. -/
namespace VL
open PySem L2
section
variable {X : Cx} {ct : Nat → Addr} {W : WX} {a b c e : Expr} {ma mb mc me : Gm → EO} {pos : Pos}
def asgF (i : Nat) (m : Gm → EO) : Gm → SO := fun G => (m G).bindS G fun d w => takeS G d w fun G d => .next (G.set i (some (.dat d)))
theorem asgF_of {K : PySem.W.Frag} {i : Nat} {D : Ends} {σ : St} {H : Hp} (h : sM K ct W (asgF i me) D σ H) : tAsg (tM K ct W me) (gName i) D σ H := by
  obtain ⟨F0, H0, F, G, r, p⟩ := h
  refine ⟨F0, H0, F, G, r, post_mono (post_S r p) fun v H1 ⟨d, w, F1, x, q, r1, p2⟩ => ?_⟩
  show D.nx (σ.set i (some v)) H1
  obtain ⟨G2, d2, F2, _, r2, q2, p4⟩ := take_of r x q p2
  exact p4 _ F2 H1 (Same.refl _) (r2.dat i q2)
theorem es_asgF {i : Nat} {x : Str} {pos2 : Pos} (he : EE X ct W e me) (hN : X.N.Nodup) (hi : X.N[i]? = some x := by rfl) (hx : Loc X.env.scope x := by first | exact Or.inl rfl | exact Or.inr rfl) (hs : swapsWith e (some (.Name x pos2)) pos.line X.env = pure false := by rfl)
    (hf : X.fn x = true ∨ X.env.scope.names.lookup x = some .local := by first | exact .inl rfl | exact .inr rfl) : ES X ct W (.Assign [.Name x pos2] e pos) (asgF i me) :=
  ps_imp (ps_set hN hi hx he hs hf) fun D σ H h => asgF_of h
variable {tg it elt : Expr} {ifs : List Expr} {scope : Scope} {mi : Gm → IC} {tgt : PyData → Gm → Option Gm} {mt : Gm → BO}
theorem es_asgCF {i : Nat} {y : Str} {py spos : Pos} (N : List Str) (sc : Scope) (own : List (Str × Nat)) (hc : X.calm = true) (hN : X.N.Nodup) (ok : blkC N sc scope own = true)
    (hsw : swapsWith (.ListComp elt [⟨tg, it, ifs, 0⟩] scope pos) (some (.Name y py)) spos.line X.env = pure true) (hi : EC X tg it mi)
    (hg : ∀ (s : Shared) (H : Hp) (C : Addr) (cl : List (Str × Addr)) (fp : List Addr), EGW (X.blk s H scope (compEnvC scope cl C X.env) fp) (own.map (·.2)) tg tgt) (ht : ∀ (s : Shared) (H : Hp) (C : Addr) (cl : List (Str × Addr)) (fp : List Addr), ETs (X.blk s H scope (compEnvC scope cl C X.env) fp) ct W0 ifs mt)
    (he : ∀ (s : Shared) (H : Hp) (C : Addr) (cl : List (Str × Addr)) (fp : List Addr), EE (X.blk s H scope (compEnvC scope cl C X.env) fp) ct W0 elt me) (eN : X.N = N := by rfl) (eS : X.env.scope = sc := by rfl) (hy : X.N[i]? = some y := by rfl) (hyl : X.env.scope.names.lookup y = some .local := by rfl) (hs : ∀ x, foldedSetIterable it X.env x = pure x := by intro _; rfl) :
    ES X ct W (.Assign [.Name y py] (.ListComp elt [⟨tg, it, ifs, 0⟩] scope pos) spos) (asgF i (compE mi (own.map (·.2)) tgt mt me)) :=
  ps_imp (ps_setLc (own := own) hc hN hy hyl hsw hi (blkOk_by (by rw [eN, eS]; exact ok)) hg ht he hs) fun D σ H h => comp_of (asgF_of h)
end
end VL

set_option Elab.async false
set_option linter.all false
set_option maxRecDepth 100000
/-! VW: try with clauses of any statements: within a clause, slot i holds the caught exception a. -/
namespace VL
open PySem PySem.Spec PyProof.Rows L2
/-- slot i holds a -/
abbrev At (i : Nat) (a : Addr) (σ : L2.St) : Prop := σ[i]? = some (some (V.ref a))
def tMi (K : PySem.W.Frag) (ct : Nat → Addr) (W : WX) (i : Nat) (a : Addr) (m : Gm → EO) : TE := fun σ H Q => At i a σ ∧ tM K ct W m σ H Q
def tMBi (K : PySem.W.Frag) (ct : Nat → Addr) (W : WX) (i : Nat) (a : Addr) (m : Gm → BO) : TT := fun σ H Q => At i a σ ∧ tMB K ct W m σ H Q
def tMAi (K : PySem.W.Frag) (ct : Nat → Addr) (W : WX) (i : Nat) (a : Addr) (m : Gm → AO) : TA := fun σ H Q => At i a σ ∧ tMA K ct W m σ H Q
def keepD (i : Nat) (a : Addr) (D : Ends) : Ends := { D with nx := fun τ J => At i a τ → D.nx τ J }
def sMi (K : PySem.W.Frag) (ct : Nat → Addr) (W : WX) (i : Nat) (a : Addr) (m : Gm → SO) : TS := fun D σ H => At i a σ ∧ sM K ct W m (keepD i a D) σ H
abbrev EEi (X : Cx) (ct : Nat → Addr) (W : WX) (i : Nat) (a : Addr) (e : Expr) (m : Gm → EO) : Prop := PE X e (tMi X.K ct W i a m)
abbrev EBi (X : Cx) (ct : Nat → Addr) (W : WX) (i : Nat) (a : Addr) (e : Expr) (m : Gm → BO) : Prop := PT X e (tMBi X.K ct W i a m)
abbrev EAi (X : Cx) (ct : Nat → Addr) (W : WX) (i : Nat) (a : Addr) (es : List Expr) (m : Gm → AO) : Prop := PA X es (tMAi X.K ct W i a m)
abbrev ESi (X : Cx) (ct : Nat → Addr) (W : WX) (i : Nat) (a : Addr) (st : Stmt) (m : Gm → SO) : Prop := PS X st (sMi X.K ct W i a m)
abbrev ESsi (X : Cx) (ct : Nat → Addr) (W : WX) (i : Nat) (a : Addr) (sts : List Stmt) (m : Gm → SO) : Prop := PSs X sts (sMi X.K ct W i a m)
section
variable {X : Cx} {ct : Nat → Addr} {W : WX} {i j : Nat} {a : Addr} {e e1 e2 t : Expr} {es rest : List Expr} {me ma mb : Gm → EO} {ms : Gm → AO} {mt : Gm → BO} {pos : Pos} {st : Stmt} {sts : List Stmt} {m1 m2 : Gm → SO} {x : Str}
theorem eei_of (h : EE X ct W e me) : EEi X ct W i a e me := pe_imp h fun _ _ _ h => h.2
theorem ebi_of (h : EB X ct W e mt) : EBi X ct W i a e mt := pt_imp h fun _ _ _ h => h.2
theorem eai_nil : EAi X ct W i a [] nilA := pa_imp (ea_nil (ct := ct) (W := W)) fun _ _ _ h => h.2
theorem eai_cons (ha : EEi X ct W i a e me) (hr : EAi X ct W i a es ms) (hs : starEach (e :: es) X.env = (false, eval e X.env) :: starEach es X.env := by rfl) : EAi X ct W i a (e :: es) (consA me ms) :=
  pa_imp (pa_cons ha hr hs) fun σ H Q ⟨c, F0, H0, F, G, rp, p⟩ => by
    refine ⟨c, F0, H0, F, G, rp, post_mono (postA_hard (k := fun d => (ms G).bind fun ds => .ok (d :: ds)) p) fun v H1 ⟨d, F1, x, r, p2⟩ => ?_⟩
    refine ⟨c, F0, H0, F1, G, rp.ext x, postA_mono (postA_bind p2) fun vs H2 ⟨ds, F2, x2, r2, p3⟩ => ?_⟩
    exact p3 (v :: vs) F2 H2 (Ext.refl x2.fh) (.cons (dp_mono x2.ff _ _ r) r2)
theorem eei_lst (h : EAi X ct W i a es ms) : EEi X ct W i a (.List es pos) (lstE ms) :=
  pe_imp (pe_lst h) fun σ H Q ⟨c, F0, H0, F, G, rp, p⟩ => by
    refine ⟨c, F0, H0, F, G, rp, postA_mono (postA_bindE p) fun vs H1 ⟨ds, F1, x, r, p2⟩ => ?_⟩
    split at p2
    · rename_i hz
      exact ⟨by rw [dpAll_len r]; exact big_line hz, fun q hq => ok_newL x.fh r p2 hq⟩
    · exact p2.elim
theorem eei_add (ha : EEi X ct W i a e1 ma) (hb : EEi X ct W i a e2 mb) : EEi X ct W i a (.BinOp e1 .Add e2 pos) (op2 gAdd ma mb) :=
  pe_imp (pe_op op_addAll ha hb) fun σ H Q ⟨c, h⟩ => by
    refine ⟨c, tM_mono (tM_view (k := fun G d => (mb G).bind fun e _ => gAdd d e) h) fun v H1 ⟨F0, H0, F1, G, d, rp, vv, p⟩ => ?_⟩
    refine ⟨c, tM_mono (tM_viewAt rp p) fun u H2 ⟨F2, e, x, vu, p2⟩ => ?_⟩
    exact g_add ct W σ F2 H2 v u d e Q x.fh (vv.mono x) vu p2
theorem eei_or (ha : EEi X ct W i a e1 ma) (hb : EEi X ct W i a (.BoolOp .Or (e2 :: rest) pos) mb) : EEi X ct W i a (.BoolOp .Or (e1 :: e2 :: rest) pos) (orE ma mb) :=
  pe_imp (pe_or ha hb) fun σ H Q ⟨c, h⟩ => by
    refine ⟨c, tM_mono (tM_view (k := fun G d => match d with
      | .bool true => .ok (.bool true) .frz
      | .bool false => mb G
      | _ => .stuck) h) fun v H1 ⟨F0, H0, F1, G, d, rp, vv, p⟩ => ?_⟩
    split at p
    · exact ⟨true, vv.bl, iteT (ok_frz rp.fh (.bl _) p)⟩
    · exact ⟨false, vv.bl, iteF ⟨c, F0, H0, F1, G, rp, p⟩⟩
    · exact p.elim
theorem eei_one {op : BoolOp} (ha : EEi X ct W i a e ma) : EEi X ct W i a (.BoolOp op [e] pos) ma := pe_one ha
theorem eei_if (ht : EBi X ct W i a t mt) (ha : EEi X ct W i a e1 ma) (hb : EEi X ct W i a e2 mb) : EEi X ct W i a (.IfExp t e1 e2 pos) (ifE mt ma mb) :=
  pe_imp (pe_ifExp ht ha hb) fun σ H Q ⟨c, F0, H0, F, G, rp, p⟩ => by
    refine ⟨c, F0, H0, F, G, rp, postB_mono (postB_bindE p) fun k H1 ⟨F1, x, p2⟩ => ?_⟩
    cases k with
    | true => exact iteT ⟨c, F0, H0, F1, G, rp.ext x, p2⟩
    | false => exact iteF ⟨c, F0, H0, F1, G, rp.ext x, p2⟩
theorem ebi_truth (ha : EEi X ct W i a e ma) (he : ∀ whole, isTrue e X.env whole = (do let v ← whole; standAt e.pos; holding [v] (truthy v)) := by intro _; rfl) : EBi X ct W i a e (truthB ma) :=
  pt_imp (pt_truth ha he) fun _ _ _ h => ⟨h.1, truth_of h.2⟩
abbrev EWi (X : Cx) (ct : Nat → Addr) (W : WX) (i : Nat) (a : Addr) (e : Expr) (m : Gm → BO) : Prop := PW X e (tMBi X.K ct W i a m)
variable {ta tb : Gm → BO}
theorem ewi_and1 (ha : EBi X ct W i a e ta) : EWi X ct W i a (.BoolOp .And [e] pos) ta := pw_and1 ha
theorem ewi_or1 (ha : EBi X ct W i a e ta) : EWi X ct W i a (.BoolOp .Or [e] pos) ta := pw_or1 ha
theorem ewi_and (ha : EBi X ct W i a e ta) (hb : EWi X ct W i a (.BoolOp .And (e2 :: rest) pos) tb) : EWi X ct W i a (.BoolOp .And (e :: e2 :: rest) pos) (andB ta tb) :=
  pw_imp (pw_and ha hb) fun σ H Q h => ⟨h.1, tMB_mono (tMB_bind h.2) fun k H1 ⟨F0, H0, F1, G, rp, p⟩ => by
    cases k with
    | true => exact iteT ⟨h.1, F0, H0, F1, G, rp, p⟩
    | false => exact iteF (p F1 H1 (Ext.refl rp.fh))⟩
theorem ewi_or (ha : EBi X ct W i a e ta) (hb : EWi X ct W i a (.BoolOp .Or (e2 :: rest) pos) tb) : EWi X ct W i a (.BoolOp .Or (e :: e2 :: rest) pos) (orB ta tb) :=
  pw_imp (pw_or ha hb) fun σ H Q h => ⟨h.1, tMB_mono (tMB_bind h.2) fun k H1 ⟨F0, H0, F1, G, rp, p⟩ => by
    cases k with
    | true => exact iteT (p F1 H1 (Ext.refl rp.fh))
    | false => exact iteF ⟨h.1, F0, H0, F1, G, rp, p⟩⟩
theorem ebi_w {m : Gm → BO} (h : EWi X ct W i a e m) : EBi X ct W i a e m := h.pt
theorem ebi_not (ha : EBi X ct W i a e ta) : EBi X ct W i a (.UnaryOp .Not e pos) (notB ta) :=
  pt_imp (pt_not ha) fun σ H Q h => ⟨h.1, tMB_mono (tMB_bind h.2) fun k H1 ⟨F0, H0, F1, G, rp, p⟩ => p F1 H1 (Ext.refl rp.fh)⟩
/-- isinstance of the caught -/
theorem eei_is {C C2 : Addr} {oe : Obj} {pn : List (Addr × Obj)} {n : Str} {p p1 p2 : Pos} (b : Bool) (E : ExcC X.K C) (hz : Zc (.ref C) none oe) (hf : ∃ fs, oe.data = .fields fs) (hk : PySem.W.kitOne X.K (.ref C) (.ref C2) = some b) (hm : X.mg "isinstance" = none) (hmc : X.mg x = some (.ref C2)) (hi : X.N[i]? = some n := by rfl)
    (hv : Vis X.env.scope n := by first | exact .inl rfl | exact .inr (.inl rfl) | exact .inr (.inr rfl)) (hg : Gl X "isinstance" := by rfl) (hgx : Gl X x := by rfl) (hd : (n == ("__debug__" : Str)) = false := by decide) (hcd : (n == ("__classdict__" : Str)) = false := by decide) (hdx : (x == ("__debug__" : Str)) = false := by decide) :
    EEi (X.suite a ((a, oe) :: pn)) ct W i a (.Call (.Name "isinstance" p) [.Name n p1, .Name x p2] [] pos) (cE (.bool b)) :=
  pe_imp (pe_isC b E hz hf hk hm hmc hi hv hg hgx hd hcd hdx) fun σ H Q ⟨c, h⟩ => ⟨c, tC_of (v := .bl b) (σ := σ) (fun _ => .bl _) h⟩
/-! statements -/
theorem esi_asg {pos2 : Pos} (he : EEi X ct W i a e me) (hN : X.N.Nodup) (hij : j ≠ i) (hi : X.N[j]? = some x := by rfl) (hx : Loc X.env.scope x := by first | exact Or.inl rfl | exact Or.inr rfl) (hs : swapsWith e (some (.Name x pos2)) pos.line X.env = pure false := by rfl)
    (hf : X.fn x = true ∨ X.env.scope.names.lookup x = some .local := by first | exact .inl rfl | exact .inr rfl) : ESi X ct W i a (.Assign [.Name x pos2] e pos) (asgS j me) :=
  ps_imp (ps_set hN hi hx he hs hf) fun D σ H ⟨c, h⟩ => ⟨c, tM_mono (asg_of h) fun v H1 (q : At i a (σ.set j (some v)) → D.nx (σ.set j (some v)) H1) => q (by
    show (σ.set j (some v))[i]? = _
    rw [List.getElem?_set_ne hij]
    exact c)⟩
theorem esi_ret (he : EEi X ct W i a e me) : ESi X ct W i a (.Return (some e) pos) (retS me) :=
  ps_imp (ps_ret he) fun D σ H ⟨c, F0, H0, F, G, r, p⟩ => ⟨c, F0, H0, F, G, r, post_mono (post_S r p) fun v H1 ⟨d, w, F1, x, q, _, p2⟩ => by
    obtain ⟨G2, d2, F2, _, r2, q2, p3⟩ := take_of r x q p2
    exact p3 v F2 H1 r2.extOf q2⟩
theorem essi_one (h : ESi X ct W i a st m1) : ESsi X ct W i a [st] m1 := pss_one h
theorem essi_cons (h1 : ESi X ct W i a st m1) (h2 : ESsi X ct W i a sts m2) : ESsi X ct W i a (st :: sts) (seqS m1 m2) :=
  pss_imp (pss_cons h1 h2) fun D σ H ⟨c, F0, H0, F, G, r, p⟩ => by
    refine ⟨c, F0, H0, F, G, r, ?_⟩
    unfold seqS at p
    revert p
    cases m1 G with
    | next G1 => exact fun p σ2 F2 H2 s r2 c2 => ⟨c2, F0, H0, F2, G1, r2, postS_same p s⟩
    | ret d => exact fun p => p
    | brk G1 => exact fun p => p
    | cont G1 => exact fun p => p
    | exc c pl G1 => exact fun p => p
    | stuck => exact fun p => p
end
/-! the statement -/
abbrev Cb := List (Nat × (Gm → SO))
inductive EvG (P : Nat → (Gm → SO) → Prop) : Cb → Prop
  | nil : EvG P []
  | cons {c : Nat} {s : Gm → SO} {l : Cb} : P c s → EvG P l → EvG P ((c, s) :: l)
theorem EvG.at {P : Nat → (Gm → SO) → Prop} : ∀ {l : Cb} {c : Nat} {s : Gm → SO}, EvG P l → l.lookup c = some s → P c s
  | _, c, s, .nil, e => by cases e
  | (c2, s2) :: l, c, s, .cons h t, e => by
    rw [List.lookup_cons] at e
    by_cases hc : (c == c2) = true
    · rw [hc] at e
      cases e
      rw [beq_iff_eq] at hc
      rw [hc]
      exact h
    · rw [Bool.eq_false_iff.mpr hc] at e
      exact t.at e
def clG (K : PySem.W.Frag) (ct : Nat → Addr) (i : Nat) (f : Cb) : Addr → Value → Option Addr → TS := fun a cls d D σ H => ∃ c m, cls = .ref (ct c) ∧ d = none ∧ f.lookup c = some m ∧ sMi K ct noW i a m D σ H
theorem clG_ok {X : Cx} {ct : Nat → Addr} {i : Nat} {sts : List Stmt} {f : Cb} (h : EvG (fun c m => ∀ (a : Addr) (oe : Obj) (pn : List (Addr × Obj)), Zc (.ref (ct c)) none oe → (∃ fs, oe.data = .fields fs) → ESsi (X.suite a ((a, oe) :: pn)) ct noW i a sts m) f) :
    ∀ (a : Addr) (oe : Obj) (cls : Value) (d : Option Addr) (pn : List (Addr × Obj)), Zc cls d oe → (∃ fs, oe.data = .fields fs) → PSs (X.suite a ((a, oe) :: pn)) sts (clG X.K ct i f a cls d) :=
  fun a oe cls d pn hz hf => ⟨fun pins s σ H D I q => by
    obtain ⟨c, t, e1, e2, e3, q⟩ := q
    subst e1
    subst e2
    exact (h.at e3 a oe pn hz hf).run pins s σ H D I q⟩
def clrS (i : Nat) (o : SO) : SO := match o with
  | .next G => .next (G.set i none)
  | .ret d => .ret d
  | _ => .stuck
def tryGK (i : Nat) (tbl : Cb) (o : SO) : SO := match o with
  | .exc c none G => if i < G.length then (match tbl.lookup c with
    | some m => clrS i (m (G.set i none))
    | none => .stuck) else .stuck
  | .exc _ (some _) _ => .stuck
  | o => o
def tryGS (i : Nat) (tbl : Cb) (mb : Gm → SO) : Gm → SO := fun G => tryGK i tbl (mb G)
/-- a clause's wish, from what is left -/
theorem clr_of {K : PySem.W.Frag} {ct : Nat → Addr} {i : Nat} {a : Addr} {m : Gm → SO} {F0 H0 F H : Hp} {G : Gm} {τ : L2.St} {D : Ends} (hl : i < τ.length) (r : Rep K F0 H0 F H G τ) (p : postS K ct noW F0 H0 D F (clrS i (m (G.set i none)))) :
    sMi K ct noW i a m (endsAs i D) (τ.set i (some (.ref a))) H := by
  refine ⟨by show (τ.set i (some (.ref a)))[i]? = _; rw [List.getElem?_set_self hl], F0, H0, F, G.set i none, r.forget i (some (.ref a)), ?_⟩
  revert p
  cases m (G.set i none) with
  | next G1 => exact fun p σ2 F2 H2 s r2 _ => p _ F2 H2 s (r2.forget i none)
  | ret d => exact fun p => p
  | brk G1 => exact fun p => p.elim
  | cont G1 => exact fun p => p.elim
  | exc c pl G1 => exact fun p => p.elim
  | stuck => exact fun p => p.elim
theorem clG_yes {K : PySem.W.Frag} {ct : Nat → Addr} {i c : Nat} {D : Ends} {τ : L2.St} {J : Hp} {Wo : WX} {cv : Value} {f : Cb} {m : Gm → SO} {l : List Cl} (hr : ∀ a, sMi K ct noW i a m (endsAs i D) (τ.set i (some (.ref a))) J) (h : PySem.W.exmOne K (.ref (ct c)) cv = some true) (e : f.lookup c = some m) :
    wClauses K i Wo D ((cv, clG K ct i f) :: l) (.ref (ct c)) none τ J :=
  ⟨true, h, fun _ a _ => ⟨c, m, rfl, rfl, e, hr a⟩, fun z => (nomatch z)⟩
section
variable {X : Cx} {ct : Nat → Addr} {W : WX} {n : Str} {i : Nat} {body : List Stmt} {hd : ExceptHandler} {hds : List ExceptHandler} {l : List Cl} {pos : Pos} {mb : Gm → SO} {tbl : Cb}
theorem postS_noW {K : PySem.W.Frag} {F0 H0 F : Hp} {D : Ends} {i : Nat} {o : SO} (p : postS K ct W F0 H0 D F (clrS i o)) : postS K ct noW F0 H0 D F (clrS i o) := by
  cases o <;> exact p
theorem es_tryG (hst : X.stack = X.env :: X.outer) (hfl : X.env.frame = some X.env.locals) (nd : X.N.Nodup) (at_i : X.N[i]? = some n) (loc : X.env.kindOf n = some .local)
    (hb : ∀ (W : WX) (pn : List (Addr × Obj)) (xe : Value → Shared → Prop), L2.Takes (X.tr pn xe) W → PassesOwn (model X.prog X.w) X.A X.env xe → ESs (X.tr pn xe) ct W body mb)
    (hc : Clauses X n (hd :: hds) l) (ht : EvG (fun c m => ∀ (D : Ends) (τ : L2.St) (J : Hp), (∀ a, sMi X.K ct noW i a m (endsAs i D) (τ.set i (some (.ref a))) J) → wClauses X.K i noW D l (.ref (ct c)) none τ J) tbl) : ES X ct W (.Try body (hd :: hds) [] [] pos) (tryGS i tbl mb) :=
  ps_imp (ps_try_clauses hst hfl nd at_i loc (Wo := noW) (tb := fun W => sM X.K ct W mb) takes_none5 hb hc) fun D σ H ⟨F0, H0, F, G, r, p⟩ => by
    refine ⟨F0, H0, F, G, r, ?_⟩
    unfold tryGS at p
    revert p
    cases e : mb G with
    | next G2 => exact fun p => p
    | ret d => exact fun p => p
    | brk G2 => exact fun p => p
    | cont G2 => exact fun p => p
    | stuck => exact fun p => p
    | exc c pl G2 =>
      cases pl with
      | some d => exact fun p => p.elim
      | none =>
        intro p
        unfold tryGK at p
        by_cases hl : i < G2.length
        · simp only [if_pos hl] at p
          cases et : tbl.lookup c with
          | none => rw [et] at p; exact p.elim
          | some m =>
            rw [et] at p
            intro cls dd σ2 F2 H2 sm r2 x
            obtain ⟨e1, e2⟩ := x
            subst e1
            subst e2
            exact ht.at et D σ2 H2 fun a => clr_of (by rw [← r2.len]; exact hl) r2 (postS_noW (postS_same p sm))
        · simp only [if_neg hl] at p
          exact p.elim
end
end VL

set_option Elab.async false
set_option linter.all false
set_option maxRecDepth 100000
/-! MA: reckoning with the worths: loops by an invariant, comprehensions by a function. -/
namespace VL
open PySem L2
theorem forL_inv {tgt : PyData → Gm → Option Gm} {body : Gm → SO} (P : Nat → Gm → Prop) : ∀ {ds : List PyData} {i : Nat} {G : Gm}, P i G → (∀ k d G, ds[k]? = some d → P (i + k) G → ∃ G1 G2, tgt d G = some G1 ∧ body G1 = .next G2 ∧ P (i + k + 1) G2) →
    ∃ G2, forL tgt body ds G = .next G2 ∧ P (i + ds.length) G2
  | [], i, G, p, _ => ⟨G, rfl, p⟩
  | d :: ds, i, G, p, h => by
    obtain ⟨G1, G2, h1, h2, p2⟩ := h 0 d G rfl p
    obtain ⟨G3, h3, p3⟩ := forL_inv P (ds := ds) (i := i + 1) (G := G2) p2 fun k d2 G hk pk => by
      have := h (k + 1) d2 G (by simpa using hk) (by rw [show i + (k + 1) = i + 1 + k by omega]; exact pk)
      rw [show i + (k + 1) + 1 = i + 1 + k + 1 by omega] at this
      exact this
    refine ⟨G3, ?_, by rw [List.length_cons, show i + (ds.length + 1) = i + 1 + ds.length by omega]; exact p3⟩
    unfold forL
    rw [h1]
    simp only
    rw [h2]
    exact h3
/-- a loop, by an invariant of the turn's number -/
theorem for_inv {tgt : PyData → Gm → Option Gm} {body : Gm → SO} {ds : List PyData} {G : Gm} (P : Nat → Gm → Prop) (h0 : P 0 G) (h : ∀ k d G, ds[k]? = some d → P k G → ∃ G1 G2, tgt d G = some G1 ∧ body G1 = .next G2 ∧ P (k + 1) G2) :
    ∃ G2, forL tgt body ds G = .next G2 ∧ P ds.length G2 := by
  have := forL_inv (tgt := tgt) (body := body) P (ds := ds) (i := 0) (G := G) h0 fun k d G hk pk => by
    rw [Nat.zero_add] at pk ⊢
    exact h k d G hk pk
  rw [Nat.zero_add] at this
  exact this
/-- a loop that may return: either it runs through, or it returns r -/
theorem forL_ret {tgt : PyData → Gm → Option Gm} {body : Gm → SO} (P : Nat → Gm → Prop) (R : Nat → PyData → Prop) : ∀ {ds : List PyData} {i : Nat} {G : Gm}, P i G → (∀ k d G, ds[k]? = some d → P (i + k) G → ∃ G1, tgt d G = some G1 ∧ ((∃ G2, body G1 = .next G2 ∧ P (i + k + 1) G2) ∨ ∃ r, body G1 = .ret r ∧ R (i + k) r)) →
    (∃ G2, forL tgt body ds G = .next G2 ∧ P (i + ds.length) G2) ∨ ∃ k r, k < ds.length ∧ forL tgt body ds G = .ret r ∧ R (i + k) r
  | [], i, G, p, _ => .inl ⟨G, rfl, p⟩
  | d :: ds, i, G, p, h => by
    obtain ⟨G1, h1, ⟨G2, h2, p2⟩ | ⟨r, h2, q⟩⟩ := h 0 d G rfl p
    · have := forL_ret P R (ds := ds) (i := i + 1) (G := G2) p2 fun k d2 G hk pk => by
        have := h (k + 1) d2 G (by simpa using hk) (by rw [show i + (k + 1) = i + 1 + k by omega]; exact pk)
        rw [show i + (k + 1) + 1 = i + 1 + k + 1 by omega, show i + (k + 1) = i + 1 + k by omega] at this
        exact this
      have e : forL tgt body (d :: ds) G = forL tgt body ds G2 := by
        conv => lhs; unfold forL
        rw [h1]
        simp only
        rw [h2]
      rw [e]
      rcases this with ⟨G3, h3, p3⟩ | ⟨k, r, hk, h3, q⟩
      · exact .inl ⟨G3, h3, by rw [List.length_cons, show i + (ds.length + 1) = i + 1 + ds.length by omega]; exact p3⟩
      · exact .inr ⟨k + 1, r, by simpa using hk, h3, by rw [show i + (k + 1) = i + 1 + k by omega]; exact q⟩
    · refine .inr ⟨0, r, Nat.zero_lt_succ _, ?_, q⟩
      unfold forL
      rw [h1]
      simp only
      rw [h2]
theorem compL_map {step : PyData → Option (Option PyData)} {f : PyData → Option PyData} : ∀ {ds : List PyData}, (∀ d ∈ ds, step d = some (f d)) → compL step ds = some (ds.filterMap f)
  | [], _ => rfl
  | d :: ds, h => by
    unfold compL
    rw [h d List.mem_cons_self, compL_map fun x hx => h x (List.mem_cons_of_mem _ hx)]
    cases e : f d with
    | none => simp [List.filterMap_cons, e]
    | some y => simp [List.filterMap_cons, e]
theorem rgD_len (lo : Int) (n : Nat) : (rgD lo n).length = n := by unfold rgD; rw [List.length_map, List.length_range]
theorem rgD_get {lo : Int} {n k : Nat} {d : PyData} (h : (rgD lo n)[k]? = some d) : k < n ∧ d = .int (lo + (k : Nat)) := by
  unfold rgD at h
  rw [List.getElem?_map] at h
  by_cases hk : k < n
  · rw [List.getElem?_range hk] at h
    cases h
    exact ⟨hk, rfl⟩
  · rw [List.getElem?_eq_none (by simpa using hk)] at h
    cases h
/-- the words that open a worth -/
theorem atI_nat {α : Type} {xs : List α} {i : Int} {x : α} (h0 : 0 ≤ i) (h : xs[i.toNat]? = some x) : atI xs i = some x := by
  obtain ⟨hl, _⟩ := List.getElem?_eq_some_iff.mp h
  unfold atI ixN
  rw [if_pos h0, if_pos (by omega)]
  exact h
end VL

set_option Elab.async false
set_option linter.all false
set_option maxRecDepth 100000
/-! MB: the worths step by step, for simp. -/
namespace VL
open PySem L2
def SO.seq (o : SO) (m : Gm → SO) : SO := match o with
  | .next G => m G
  | r => r
@[simp] theorem seqS_eq {m1 m2 : Gm → SO} {G : Gm} : seqS m1 m2 G = SO.seq (m1 G) m2 := by
  unfold seqS SO.seq
  cases m1 G <;> rfl
@[simp] theorem seq_next {m : Gm → SO} {G : Gm} : SO.seq (.next G) m = m G := rfl
@[simp] theorem seq_ret {m : Gm → SO} {d : PyData} : SO.seq (.ret d) m = .ret d := rfl
@[simp] theorem seq_exc {m : Gm → SO} {c : Nat} {pl : Option PyData} {G : Gm} : SO.seq (.exc c pl G) m = .exc c pl G := rfl
@[simp] theorem seq_stuck {m : Gm → SO} : SO.seq .stuck m = .stuck := rfl
@[simp] theorem nilS_eq {G : Gm} : nilS G = .next G := rfl
@[simp] theorem stuckS_eq {G : Gm} : stuckS G = .stuck := rfl
@[simp] theorem ifS_eq {t : Gm → BO} {m1 m2 : Gm → SO} {G : Gm} : ifS t m1 m2 G = (t G).bindS G fun k => if k = true then m1 G else m2 G := rfl
@[simp] theorem bindS_b {G : Gm} {k : Bool → SO} {b : Bool} : BO.bindS G (.ok b) k = k b := rfl
@[simp] theorem bindS_bx {G : Gm} {k : Bool → SO} {c : Nat} {pl : Option PyData} : BO.bindS G (.exc c pl) k = .exc c pl G := rfl
@[simp] theorem bindB_b {k : Bool → BO} {b : Bool} : BO.bind (.ok b) k = k b := rfl
@[simp] theorem bindE_b {k : Bool → EO} {b : Bool} : BO.bindE (.ok b) k = k b := rfl
def boolO : PyData → BO
  | .bool b => .ok b
  | _ => .stuck
def truthO (d : PyData) : BO := match truthD d with
  | some b => .ok b
  | none => .stuck
@[simp] theorem boolB_eq {m : Gm → EO} {G : Gm} : boolB m G = (m G).bindB fun d _ => boolO d := by
  unfold boolB
  cases m G with
  | ok d w => cases d <;> rfl
  | exc c pl => rfl
  | stuck => rfl
@[simp] theorem boolO_b {b : Bool} : boolO (.bool b) = .ok b := rfl
@[simp] theorem truthB_eq {m : Gm → EO} {G : Gm} : truthB m G = (m G).bindB fun d _ => truthO d := rfl
@[simp] theorem truthO_b {b : Bool} : truthO (.bool b) = .ok b := rfl
@[simp] theorem truthO_n : truthO .none = .ok false := rfl
@[simp] theorem truthO_i {i : Int} : truthO (.int i) = .ok (i != 0) := rfl
@[simp] theorem truthO_l {ds : List PyData} : truthO (.list ds) = .ok (!ds.isEmpty) := rfl
@[simp] theorem truthO_t {ds : List PyData} : truthO (.tuple ds) = .ok (!ds.isEmpty) := rfl
@[simp] theorem andB_eq {x y : Gm → BO} {G : Gm} : andB x y G = (x G).bind fun k => if k = true then y G else .ok false := rfl
@[simp] theorem orB_eq {x y : Gm → BO} {G : Gm} : orB x y G = (x G).bind fun k => if k = true then .ok true else y G := rfl
@[simp] theorem notB_eq {x : Gm → BO} {G : Gm} : notB x G = (x G).bind fun k => .ok (!k) := rfl
@[simp] theorem yesB_eq {G : Gm} : yesB G = .ok true := rfl
@[simp] theorem bind_ok {d : PyData} {w : Wh} {k : PyData → Wh → EO} : EO.bind (.ok d w) k = k d w := rfl
@[simp] theorem bind_exc {c : Nat} {pl : Option PyData} {k : PyData → Wh → EO} : EO.bind (.exc c pl) k = .exc c pl := rfl
@[simp] theorem bind_stuck {k : PyData → Wh → EO} : EO.bind .stuck k = .stuck := rfl
@[simp] theorem bindB_ok {d : PyData} {w : Wh} {k : PyData → Wh → BO} : EO.bindB (.ok d w) k = k d w := rfl
@[simp] theorem bindB_exc {c : Nat} {pl : Option PyData} {k : PyData → Wh → BO} : EO.bindB (.exc c pl) k = .exc c pl := rfl
@[simp] theorem bindA_ok {d : PyData} {w : Wh} {k : PyData → Wh → AO} : EO.bindA (.ok d w) k = k d w := rfl
@[simp] theorem bindS_ok {G : Gm} {d : PyData} {w : Wh} {k : PyData → Wh → SO} : EO.bindS G (.ok d w) k = k d w := rfl
@[simp] theorem bindS_exc {G : Gm} {c : Nat} {pl : Option PyData} {k : PyData → Wh → SO} : EO.bindS G (.exc c pl) k = .exc c pl G := rfl
@[simp] theorem abind_ok {ds : List PyData} {k : List PyData → AO} : AO.bind (.ok ds) k = k ds := rfl
@[simp] theorem abindE_ok {ds : List PyData} {k : List PyData → EO} : AO.bindE (.ok ds) k = k ds := rfl
@[simp] theorem toE_ok {d : PyData} : FO.toE (.ok d) = .ok d .frz := rfl
@[simp] theorem toE_exc {c : Nat} {pl : Option PyData} : FO.toE (.exc c pl) = .exc c pl := rfl
@[simp] theorem hard_frz {d : PyData} : EO.hard (.ok d .frz) = .ok d .frz := rfl
@[simp] theorem hard_new {d : PyData} : EO.hard (.ok d .new) = .ok d .frz := rfl
@[simp] theorem hard_exc {c : Nat} {pl : Option PyData} : EO.hard (.exc c pl) = .exc c pl := rfl
def varO (i : Nat) : Option (Option Sl) → EO
  | some (some (.dat d)) => .ok d .frz
  | some (some (.own ds)) => .ok (.list ds) (.own i)
  | _ => .stuck
@[simp] theorem varE_eq {i : Nat} {G : Gm} : varE i G = varO i G[i]? := by
  unfold varE varO
  cases G[i]? with
  | none => rfl
  | some o =>
    cases o with
    | none => rfl
    | some s => cases s <;> rfl
@[simp] theorem varO_d {i : Nat} {d : PyData} : varO i (some (some (.dat d))) = .ok d .frz := rfl
@[simp] theorem varO_o {i : Nat} {ds : List PyData} : varO i (some (some (.own ds))) = .ok (.list ds) (.own i) := rfl
@[simp] theorem cE_eq {d : PyData} {G : Gm} : cE d G = .ok d .frz := rfl
@[simp] theorem op2_eq {g : PyData → PyData → EO} {ma mb : Gm → EO} {G : Gm} : op2 g ma mb G = (ma G).bind fun d _ => (mb G).bind fun e _ => g d e := rfl
@[simp] theorem op1_eq {g : PyData → EO} {ma : Gm → EO} {G : Gm} : op1 g ma G = (ma G).bind fun d _ => g d := rfl
@[simp] theorem nilA_eq {G : Gm} : nilA G = .ok [] := rfl
@[simp] theorem consA_eq {ma : Gm → EO} {mr : Gm → AO} {G : Gm} : consA ma mr G = (ma G).hard.bindA fun d _ => (mr G).bind fun ds => .ok (d :: ds) := rfl
@[simp] theorem callE_eq {f : List PyData → FO} {ms : Gm → AO} {G : Gm} : callE f ms G = (ms G).bindE fun ds => (f ds).toE := rfl
@[simp] theorem tupE_eq {ms : Gm → AO} {G : Gm} : tupE ms G = (ms G).bindE fun ds => if ds.length ≤ big then .ok (.tuple ds) .frz else .stuck := rfl
@[simp] theorem lstE_eq {ms : Gm → AO} {G : Gm} : lstE ms G = (ms G).bindE fun ds => if ds.length ≤ big then .ok (.list ds) .new else .stuck := rfl
@[simp] theorem ifE_eq {t : Gm → BO} {ma mb : Gm → EO} {G : Gm} : ifE t ma mb G = (t G).bindE fun k => if k = true then ma G else mb G := rfl
def andK (mb : Gm → EO) (G : Gm) : PyData → EO
  | .bool true => mb G
  | .bool false => .ok (.bool false) .frz
  | _ => .stuck
def orK (mb : Gm → EO) (G : Gm) : PyData → EO
  | .bool true => .ok (.bool true) .frz
  | .bool false => mb G
  | _ => .stuck
@[simp] theorem andE_eq {ma mb : Gm → EO} {G : Gm} : andE ma mb G = (ma G).bind fun d _ => andK mb G d := by
  unfold andE
  congr
@[simp] theorem orE_eq {ma mb : Gm → EO} {G : Gm} : orE ma mb G = (ma G).bind fun d _ => orK mb G d := by
  unfold orE
  congr
@[simp] theorem andK_b {mb : Gm → EO} {G : Gm} {b : Bool} : andK mb G (.bool b) = if b = true then mb G else .ok (.bool false) .frz := by cases b <;> rfl
@[simp] theorem orK_b {mb : Gm → EO} {G : Gm} {b : Bool} : orK mb G (.bool b) = if b = true then .ok (.bool true) .frz else mb G := by cases b <;> rfl
@[simp] theorem gNot_b {b : Bool} : gNot (.bool b) = .ok (.bool (!b)) .frz := rfl
def chainK (g2 : PyData → PyData → EO) (mc : Gm → EO) (G : Gm) (e : PyData) : PyData → EO
  | .bool true => (mc G).bind fun f _ => g2 e f
  | .bool false => .ok (.bool false) .frz
  | _ => .stuck
@[simp] theorem chainE_eq {g g2 : PyData → PyData → EO} {ma mb mc : Gm → EO} {G : Gm} : chainE g g2 ma mb mc G = (ma G).bind fun d _ => (mb G).bind fun e _ => (g d e).bind fun z _ => chainK g2 mc G e z := by
  unfold chainE
  congr
@[simp] theorem chainK_b {g2 : PyData → PyData → EO} {mc : Gm → EO} {G : Gm} {e : PyData} {b : Bool} : chainK g2 mc G e (.bool b) = if b = true then (mc G).bind fun f _ => g2 e f else .ok (.bool false) .frz := by cases b <;> rfl
/-! operators -/
def optE : Option PyData → EO
  | some d => .ok d .frz
  | none => .stuck
@[simp] theorem optE_some {d : PyData} : optE (some d) = .ok d .frz := rfl
@[simp] theorem gInt_eq {g : Int → Int → Option PyData} {i j : Int} : gInt g (.int i) (.int j) = optE (g i j) := by
  show (match g i j with
    | some d => EO.ok d .frz
    | none => .stuck) = _
  cases g i j <;> rfl
@[simp] theorem iSub_eq {i j : Int} : iSub i j = some (.int (i - j)) := rfl
@[simp] theorem iLt_eq {i j : Int} : iLt i j = some (.bool (decide (i < j))) := rfl
@[simp] theorem iLe_eq {i j : Int} : iLe i j = some (.bool (decide (i ≤ j))) := rfl
@[simp] theorem iGt_eq {i j : Int} : iGt i j = some (.bool (decide (j < i))) := rfl
@[simp] theorem iGe_eq {i j : Int} : iGe i j = some (.bool (decide (j ≤ i))) := rfl
theorem iMod_pos {i j : Int} (h : 0 < j) : iMod i j = some (.int (i % j)) := if_pos h
theorem iFdiv_pos {i j : Int} (h : 0 < j) (h2 : j < 1073741824) : iFdiv i j = some (.int (i / j)) := if_pos ⟨h, h2⟩
@[simp] theorem gAdd_i {i j : Int} : gAdd (.int i) (.int j) = .ok (.int (i + j)) .frz := rfl
@[simp] theorem gAdd_l {a b : List PyData} : gAdd (.list a) (.list b) = if a.length + b.length ≤ big then .ok (.list (a ++ b)) .new else .stuck := rfl
@[simp] theorem gAdd_t {a b : List PyData} : gAdd (.tuple a) (.tuple b) = if a.length + b.length ≤ big then .ok (.tuple (a ++ b)) .frz else .stuck := rfl
theorem gMul_i {i j : Int} (h : (-(2 ^ 64) < i ∧ i < 2 ^ 64) ∨ (-(2 ^ 64) < j ∧ j < 2 ^ 64)) : gMul (.int i) (.int j) = .ok (.int (i * j)) .frz := by
  show (if (decide (-(2 ^ 64) < i ∧ i < 2 ^ 64) || decide (-(2 ^ 64) < j ∧ j < 2 ^ 64)) = true then EO.ok (.int (i * j)) .frz else .stuck) = _
  rw [if_pos]
  rw [Bool.or_eq_true, decide_eq_true_eq, decide_eq_true_eq]
  exact h
@[simp] theorem gLen_l {ds : List PyData} : gLen (.list ds) = .ok (.int ds.length) .frz := rfl
@[simp] theorem gLen_t {ds : List PyData} : gLen (.tuple ds) = .ok (.int ds.length) .frz := rfl
@[simp] theorem gLen_d {ds : List (PyData × PyData)} : gLen (.dict ds) = .ok (.int ds.length) .frz := rfl
@[simp] theorem gTuple_l {ds : List PyData} : gTuple (.list ds) = .ok (.tuple ds) .frz := rfl
@[simp] theorem gTuple_t {ds : List PyData} : gTuple (.tuple ds) = .ok (.tuple ds) .frz := rfl
@[simp] theorem gList_l {ds : List PyData} : gList (.list ds) = .ok (.list ds) .new := rfl
@[simp] theorem gList_t {ds : List PyData} : gList (.tuple ds) = .ok (.list ds) .new := rfl
@[simp] theorem gRev_l {ds : List PyData} : gRev (.list ds) = .ok (.list ds.reverse) .new := rfl
@[simp] theorem gRev_t {ds : List PyData} : gRev (.tuple ds) = .ok (.tuple ds.reverse) .frz := rfl
@[simp] theorem gInt1_b {b : Bool} : gInt1 (.bool b) = .ok (.int (if b = true then 1 else 0)) .frz := rfl
@[simp] theorem gIx_l {ds : List PyData} {i : Int} : gIx (.list ds) (.int i) = optE (atI ds i) := by
  show (match atI ds i with
    | some d => EO.ok d .frz
    | none => .stuck) = _
  cases atI ds i <;> rfl
@[simp] theorem gIx_t {ds : List PyData} {i : Int} : gIx (.tuple ds) (.int i) = optE (atI ds i) := by
  show (match atI ds i with
    | some d => EO.ok d .frz
    | none => .stuck) = _
  cases atI ds i <;> rfl
@[simp] theorem gIx_d {ds : List (PyData × PyData)} {i : Int} : gIx (.dict ds) (.int i) = optE ((atI ds i).map (·.1)) := by
  show (match atI ds i with
    | some d => EO.ok d.1 .frz
    | none => .stuck) = _
  cases atI ds i <;> rfl
@[simp] theorem gEq_i {i j : Int} : gEq (.int i) (.int j) = .ok (.bool (i == j)) .frz := rfl
@[simp] theorem gNe_i {i j : Int} : gNe (.int i) (.int j) = .ok (.bool (!(i == j))) .frz := rfl
theorem gEq_s {d e : PyData} (h1 : SeqAt.shaped d = true) (h2 : SeqAt.shaped e = true) : gEq d e = .ok (.bool (PyData.eqv d e)) .frz := by
  unfold gEq
  split
  · rw [PyData.eqv]
  · rw [h1, h2]
    rfl
theorem gNe_s {d e : PyData} (h1 : SeqAt.shaped d = true) (h2 : SeqAt.shaped e = true) : gNe d e = .ok (.bool (!PyData.eqv d e)) .frz := by
  unfold gNe
  split
  · rw [PyData.eqv]
  · rw [h1, h2]
    rfl
@[simp] theorem gIs_n {neg : Bool} {d : PyData} : gIs neg d .none = .ok (.bool (if neg = true then !isNone d else isNone d)) .frz := by cases d <;> rfl
/-! statements -/
def retK (G : Gm) (d : PyData) (w : Wh) : SO := takeS G d w fun _ d => .ret d
@[simp] theorem retS_eq {m : Gm → EO} {G : Gm} : retS m G = (m G).bindS G (retK G) := rfl
@[simp] theorem retK_frz {G : Gm} {d : PyData} : retK G d .frz = .ret d := rfl
@[simp] theorem retK_new {G : Gm} {d : PyData} : retK G d .new = .ret d := rfl
def ownK (o : Option (Option Sl)) (k : List PyData → SO) : SO := match o with
  | some (some (.own ds)) => k ds
  | _ => .stuck
@[simp] theorem ownK_o {ds : List PyData} {k : List PyData → SO} : ownK (some (some (.own ds))) k = k ds := rfl
theorem takeS_own {G : Gm} {d : PyData} {j : Nat} {k : Gm → PyData → SO} : takeS G d (.own j) k = ownK G[j]? fun ds => k (G.set j (some (.dat (.list ds)))) (.list ds) := by
  show (match G[j]? with
    | some (some (.own ds)) => k (G.set j (some (.dat (.list ds)))) (.list ds)
    | _ => .stuck) = _
  cases G[j]? with
  | none => rfl
  | some o =>
    cases o with
    | none => rfl
    | some s => cases s <;> rfl
@[simp] theorem retK_own {G : Gm} {d : PyData} {j : Nat} : retK G d (.own j) = ownK G[j]? fun ds => .ret (.list ds) := takeS_own
def asgK (i : Nat) (G : Gm) (d : PyData) (w : Wh) : SO := match d, w with
  | .list ds, .new => .next (G.set i (some (.own ds)))
  | d, w => takeS G d w fun G d => .next (G.set i (some (.dat d)))
@[simp] theorem asgS_eq {i : Nat} {m : Gm → EO} {G : Gm} : asgS i m G = (m G).bindS G (asgK i G) := by
  unfold asgS
  congr
@[simp] theorem asgK_frz {i : Nat} {G : Gm} {d : PyData} : asgK i G d .frz = .next (G.set i (some (.dat d))) := by cases d <;> rfl
@[simp] theorem asgK_new {i : Nat} {G : Gm} {ds : List PyData} : asgK i G (.list ds) .new = .next (G.set i (some (.own ds))) := rfl
@[simp] theorem asgK_own {i j : Nat} {G : Gm} {d : PyData} : asgK i G d (.own j) = ownK G[j]? fun ds => .next ((G.set j (some (.dat (.list ds)))).set i (some (.dat (.list ds)))) := by
  have e : asgK i G d (.own j) = takeS G d (.own j) fun G d => .next (G.set i (some (.dat d))) := by cases d <;> rfl
  exact e.trans takeS_own
@[simp] theorem dropS_eq {m : Gm → EO} {G : Gm} : dropS m G = (m G).bindS G fun _ _ => .next G := rfl
@[simp] theorem appS_eq {j : Nat} {me : Gm → EO} {G : Gm} : appS j me G = ownK G[j]? fun ds => (me G).hard.bindS G fun d _ => if ds.length < big then .next (G.set j (some (.own (ds ++ [d])))) else .stuck := by
  unfold appS ownK
  cases G[j]? with
  | none => rfl
  | some o =>
    cases o with
    | none => rfl
    | some s => cases s <;> rfl
def lstK (d : PyData) (k : List PyData → SO) : SO := match d with
  | .list es => k es
  | _ => .stuck
@[simp] theorem lstK_l {es : List PyData} {k : List PyData → SO} : lstK (.list es) k = k es := rfl
@[simp] theorem extS_eq {j : Nat} {me : Gm → EO} {G : Gm} : extS j me G = ownK G[j]? fun ds => (me G).hard.bindS G fun d _ => lstK d fun es => if ds.length + es.length ≤ big then .next (G.set j (some (.own (ds ++ es)))) else .stuck := by
  unfold extS ownK
  cases G[j]? with
  | none => rfl
  | some o =>
    cases o with
    | none => rfl
    | some s => cases s <;> rfl
def intK (d : PyData) (k : Int → SO) : SO := match d with
  | .int n => k n
  | _ => .stuck
@[simp] theorem intK_i {n : Int} {k : Int → SO} : intK (.int n) k = k n := rfl
def ixK (o : Option Nat) (k : Nat → SO) : SO := match o with
  | some n => k n
  | none => .stuck
@[simp] theorem ixK_s {n : Nat} {k : Nat → SO} : ixK (some n) k = k n := rfl
@[simp] theorem setS_eq {j : Nat} {mi me : Gm → EO} {G : Gm} : setS j mi me G = (me G).hard.bindS G fun d _ => ownK G[j]? fun ds => (mi G).bindS G fun k _ => intK k fun n => ixK (ixN ds.length n) fun m => .next (G.set j (some (.own (ds.set m d)))) := by
  unfold setS
  congr
@[simp] theorem raiseS_eq {c : Nat} {G : Gm} : raiseS c G = .exc c none G := rfl
@[simp] theorem xbind_ok {G G2 : Gm} {d : PyData} {k : PyData → Gm → SO} : XO.bindS G (.ok d G2) k = k d G2 := rfl
@[simp] theorem asgXS_eq {i : Nat} {mx : Gm → XO} {G : Gm} : asgXS i mx G = (mx G).bindS G fun d G2 => .next (G2.set i (some (.dat d))) := rfl
@[simp] theorem appXS_eq {j : Nat} {mx : Gm → XO} {G : Gm} : appXS j mx G = ownK G[j]? fun _ => (mx G).bindS G fun d G2 => ownK G2[j]? fun ds => if ds.length < big then .next (G2.set j (some (.own (ds ++ [d])))) else .stuck := by
  unfold appXS ownK
  cases G[j]? with
  | none => rfl
  | some o =>
    cases o with
    | none => rfl
    | some s => cases s <;> rfl
def pairK (d : PyData) (k : PyData → PyData → SO) : SO := match d with
  | .tuple [u, v] => k u v
  | _ => .stuck
@[simp] theorem pairK_t {u v : PyData} {k : PyData → PyData → SO} : pairK (.tuple [u, v]) k = k u v := rfl
@[simp] theorem asg2S_eq {i j : Nat} {me : Gm → EO} {G : Gm} : asg2S i j me G = (me G).bindS G fun d _ => pairK d fun u v => .next ((G.set i (some (.dat u))).set j (some (.dat v))) := by
  unfold asg2S
  congr
/-! loops -/
def IO.run (o : IO) (G : Gm) (tgt : PyData → Gm → Option Gm) (body : Gm → SO) : SO := match o with
  | .ok ds G2 => forL tgt body ds G2
  | .exc c pl => .exc c pl G
  | .stuck => .stuck
@[simp] theorem forS_eq {mi : Gm → IO} {tgt : PyData → Gm → Option Gm} {body : Gm → SO} {G : Gm} : forS mi tgt body G = (mi G).run G tgt body := by
  unfold forS IO.run
  cases mi G <;> rfl
@[simp] theorem run_ok {ds : List PyData} {G G2 : Gm} {tgt : PyData → Gm → Option Gm} {body : Gm → SO} : IO.run (.ok ds G2) G tgt body = forL tgt body ds G2 := rfl
def IO.ofO (o : Option (List PyData)) (G : Gm) : IO := match o with
  | some ds => .ok ds G
  | none => .stuck
@[simp] theorem iterO_eq {m : Gm → Option (List PyData)} {G : Gm} : iterO m G = IO.ofO (m G) G := rfl
@[simp] theorem ofO_some {ds : List PyData} {G : Gm} : IO.ofO (some ds) G = .ok ds G := rfl
def rg1K (o : EO) : Option (List PyData) := match o with
  | .ok (.int n) _ => if n.natAbs ≤ 1000000 then some (rgD 0 n.toNat) else none
  | _ => none
def rg2K (o o2 : EO) : Option (List PyData) := match o, o2 with
  | .ok (.int i) _, .ok (.int j) _ => if i.natAbs ≤ 1000000 ∧ j.natAbs ≤ 1000000 then some (rgD i (j - i).toNat) else none
  | _, _ => none
@[simp] theorem rg1_eq {m : Gm → EO} {G : Gm} : rg1 m G = rg1K (m G) := rfl
@[simp] theorem rg2_eq {m m2 : Gm → EO} {G : Gm} : rg2 m m2 G = rg2K (m G) (m2 G) := rfl
theorem rg1K_i {n : Int} {w : Wh} (h : n.natAbs ≤ 1000000) : rg1K (.ok (.int n) w) = some (rgD 0 n.toNat) := if_pos h
theorem rg2K_i {i j : Int} {w u : Wh} (h : i.natAbs ≤ 1000000 ∧ j.natAbs ≤ 1000000) : rg2K (.ok (.int i) w) (.ok (.int j) u) = some (rgD i (j - i).toNat) := if_pos h
@[simp] theorem toN_eq {i : Nat} {d : PyData} {G : Gm} : toN i d G = some (G.set i (some (.dat d))) := rfl
@[simp] theorem to2_eq {i j : Nat} {x y : PyData} {G : Gm} : to2 i j (.tuple [x, y]) G = some ((G.set i (some (.dat x))).set j (some (.dat y))) := rfl
@[simp] theorem to3_eq {i j k : Nat} {x y z : PyData} {G : Gm} : to3 i j k (.tuple [x, y, z]) G = some (((G.set i (some (.dat x))).set j (some (.dat y))).set k (some (.dat z))) := rfl
def iterTK (o : EO) (G : Gm) : IO := match o with
  | .ok (.tuple ds) _ => .ok ds G
  | .exc c pl => .exc c pl
  | _ => .stuck
@[simp] theorem iterT_eq {m : Gm → EO} {G : Gm} : iterT m G = iterTK (m G) G := rfl
@[simp] theorem iterTK_t {ds : List PyData} {w : Wh} {G : Gm} : iterTK (.ok (.tuple ds) w) G = .ok ds G := rfl
def iterLK (o : EO) (G : Gm) : IO := match o with
  | .ok (.list ds) (.own j) => match G[j]? with
    | some (some (.own es)) => .ok es (G.set j (some (.dat (.list es))))
    | _ => .stuck
  | .ok (.list ds) _ => .ok ds G
  | .exc c pl => .exc c pl
  | _ => .stuck
@[simp] theorem iterL_eq {m : Gm → EO} {G : Gm} : iterL m G = iterLK (m G) G := rfl
@[simp] theorem iterLK_frz {ds : List PyData} {G : Gm} : iterLK (.ok (.list ds) .frz) G = .ok ds G := rfl
@[simp] theorem iterLK_new {ds : List PyData} {G : Gm} : iterLK (.ok (.list ds) .new) G = .ok ds G := rfl
def ownI (o : Option (Option Sl)) (k : List PyData → IO) : IO := match o with
  | some (some (.own ds)) => k ds
  | _ => .stuck
@[simp] theorem ownI_o {ds : List PyData} {k : List PyData → IO} : ownI (some (some (.own ds))) k = k ds := rfl
@[simp] theorem iterLK_own {ds : List PyData} {j : Nat} {G : Gm} : iterLK (.ok (.list ds) (.own j)) G = ownI G[j]? fun es => .ok es (G.set j (some (.dat (.list es)))) := by
  show (match G[j]? with
    | some (some (.own es)) => IO.ok es (G.set j (some (.dat (.list es))))
    | _ => .stuck) = _
  cases G[j]? with
  | none => rfl
  | some o =>
    cases o with
    | none => rfl
    | some s => cases s <;> rfl
/-! comprehensions -/
def IC.run (o : IC) (step : PyData → Option (Option PyData)) : EO := match o with
  | .ok ds => if ds.length ≤ big then (match compL step ds with
    | some ys => .ok (.list ys) .new
    | none => .stuck) else .stuck
  | .stuck => .stuck
theorem compE_eq {mi : Gm → IC} {vs : List Nat} {tgt : PyData → Gm → Option Gm} {mt : Gm → BO} {me : Gm → EO} {G : Gm} : compE mi vs tgt mt me G = (mi G).run (stepC tgt mt me (wipeG G vs)) := by
  unfold compE IC.run
  cases mi G <;> rfl
theorem run_comp {ds : List PyData} {step : PyData → Option (Option PyData)} {f : PyData → Option PyData} (hl : ds.length ≤ big) (h : ∀ d ∈ ds, step d = some (f d)) : IC.run (.ok ds) step = .ok (.list (ds.filterMap f)) .new := by
  unfold IC.run
  simp only
  rw [if_pos hl, compL_map h]
def IC.ofO (o : Option (List PyData)) : IC := match o with
  | some ds => .ok ds
  | none => .stuck
@[simp] theorem compO_eq {m : Gm → Option (List PyData)} {G : Gm} : compO m G = IC.ofO (m G) := rfl
@[simp] theorem icO_some {ds : List PyData} : IC.ofO (some ds) = .ok ds := rfl
def compiLK (o : EO) : IC := match o with
  | .ok (.list ds) _ => .ok ds
  | _ => .stuck
def compiTK (o : EO) : IC := match o with
  | .ok (.tuple ds) _ => .ok ds
  | _ => .stuck
@[simp] theorem compiL_eq {m : Gm → EO} {G : Gm} : compiL m G = compiLK (m G) := rfl
@[simp] theorem compiT_eq {m : Gm → EO} {G : Gm} : compiT m G = compiTK (m G) := rfl
@[simp] theorem compiLK_l {ds : List PyData} {w : Wh} : compiLK (.ok (.list ds) w) = .ok ds := rfl
@[simp] theorem compiTK_t {ds : List PyData} {w : Wh} : compiTK (.ok (.tuple ds) w) = .ok ds := rfl
def tstK (b : BO) (k : Option (Option PyData)) : Option (Option PyData) := match b with
  | .ok true => k
  | .ok false => some none
  | _ => none
@[simp] theorem tstK_b {b : Bool} {k : Option (Option PyData)} : tstK (.ok b) k = if b = true then k else some none := by cases b <;> rfl
def eltK (e : EO) : Option (Option PyData) := match e with
  | .ok y _ => some (some y)
  | _ => none
@[simp] theorem eltK_ok {y : PyData} {w : Wh} : eltK (.ok y w) = some (some y) := rfl
def tgtK (o : Option Gm) (k : Gm → Option (Option PyData)) : Option (Option PyData) := match o with
  | some G => k G
  | none => none
@[simp] theorem tgtK_s {G : Gm} {k : Gm → Option (Option PyData)} : tgtK (some G) k = k G := rfl
@[simp] theorem stepC_eq {tgt : PyData → Gm → Option Gm} {mt : Gm → BO} {me : Gm → EO} {G : Gm} {d : PyData} : stepC tgt mt me G d = tgtK (tgt d G) fun G1 => tstK (mt G1) (eltK (me G1).hard) := by
  unfold stepC tgtK
  cases tgt d G with
  | none => rfl
  | some G1 =>
    simp only
    unfold tstK
    cases mt G1 with
    | exc c pl => rfl
    | stuck => rfl
    | ok b =>
      cases b with
      | false => rfl
      | true =>
        show (match (me G1).hard with
          | .ok y _ => some (some y)
          | _ => none) = eltK (me G1).hard
        cases (me G1).hard <;> rfl
@[simp] theorem wipeG_nil {G : Gm} : wipeG G [] = G := rfl
@[simp] theorem wipeG_cons {G : Gm} {v : Nat} {vs : List Nat} : wipeG G (v :: vs) = (wipeG G vs).set v none := rfl
/-! ranges as data -/
def rgLK (o : Option (List PyData)) : EO := match o with
  | some ds => .ok (.list ds) .new
  | none => .stuck
def rgTK (o : Option (List PyData)) : EO := match o with
  | some ds => .ok (.tuple ds) .frz
  | none => .stuck
@[simp] theorem rgLE_eq {m : Gm → Option (List PyData)} {G : Gm} : rgLE m G = rgLK (m G) := rfl
@[simp] theorem rgTE_eq {m : Gm → Option (List PyData)} {G : Gm} : rgTE m G = rgTK (m G) := rfl
@[simp] theorem rgLK_s {ds : List PyData} : rgLK (some ds) = .ok (.list ds) .new := rfl
@[simp] theorem rgTK_s {ds : List PyData} : rgTK (some ds) = .ok (.tuple ds) .frz := rfl
/-! pops -/
def popK (G : Gm) (j : Nat) (o : Option (Option Sl)) (e : EO) : XO := match o, e with
  | some (some (.own ds)), .ok (.int i) _ => if 0 ≤ i ∧ i < ds.length ∧ ds.length ≤ big then match ds[i.toNat]? with
      | some d => .ok d (G.set j (some (.own (ds.eraseIdx i.toNat))))
      | none => .stuck else .stuck
  | _, _ => .stuck
@[simp] theorem popAtX_eq {j : Nat} {mi : Gm → EO} {G : Gm} : popAtX j mi G = popK G j G[j]? (mi G) := rfl
theorem popK_o {G : Gm} {j : Nat} {ds : List PyData} {i : Int} {w : Wh} {d : PyData} (h0 : 0 ≤ i) (hb : ds.length ≤ big) (h : ds[i.toNat]? = some d) : popK G j (some (some (.own ds))) (.ok (.int i) w) = .ok d (G.set j (some (.own (ds.eraseIdx i.toNat)))) := by
  obtain ⟨hl, _⟩ := List.getElem?_eq_some_iff.mp h
  unfold popK
  simp only
  rw [if_pos ⟨h0, by omega, hb⟩, h]
/-! slices -/
def slK (d : PyData) (l u : Option (Option Int)) : EO := match l, u with
  | some l, some u => gSl d l u
  | _, _ => .stuck
@[simp] theorem slE_eq {me : Gm → EO} {ml mh : Gm → Option (Option Int)} {G : Gm} : slE me ml mh G = (me G).bind fun d _ => slK d (ml G) (mh G) := rfl
@[simp] theorem slK_s {d : PyData} {l u : Option Int} : slK d (some l) (some u) = gSl d l u := rfl
@[simp] theorem partN_eq {G : Gm} : partN G = some none := rfl
def partK (e : EO) : Option (Option Int) := match e with
  | .ok (.int i) _ => some (some i)
  | _ => none
@[simp] theorem partS_eq {m : Gm → EO} {G : Gm} : partS m G = partK (m G) := rfl
@[simp] theorem partK_i {i : Int} {w : Wh} : partK (.ok (.int i) w) = some (some i) := rfl
@[simp] theorem gSl_l {ds : List PyData} {lo hi : Option Int} : gSl (.list ds) lo hi = .ok (.list (cutD ds lo hi)) .new := rfl
@[simp] theorem gSl_t {ds : List PyData} {lo hi : Option Int} : gSl (.tuple ds) lo hi = .ok (.tuple (cutD ds lo hi)) .frz := rfl
/-! tuples of ints as a whole -/
@[simp] theorem gIx_tup {o : List Int} {i : Int} : gIx (tupD o) (.int i) = optE (atI (o.map PyData.int) i) := gIx_t
@[simp] theorem gLen_tup {o : List Int} : gLen (tupD o) = .ok (.int o.length) .frz := by
  show EO.ok (.int (o.map PyData.int).length) .frz = _
  rw [List.length_map]
@[simp] theorem gRev_tup {o : List Int} : gRev (tupD o) = .ok (tupD o.reverse) .frz := by
  show EO.ok (.tuple (o.map PyData.int).reverse) .frz = _
  rw [← List.map_reverse]
  rfl
/-! defs -/
theorem defM_ret {n k : Nat} {m : Gm → SO} {ds : List PyData} {d : PyData} (h : ds.length = k) (e : m (startG n ds) = .ret d) : defM n k m ds = .ok d := by
  unfold defM
  rw [if_pos h, e]
theorem defM_exc {n k : Nat} {m : Gm → SO} {ds : List PyData} {c : Nat} {pl : Option PyData} {G : Gm} (h : ds.length = k) (e : m (startG n ds) = .exc c pl G) : defM n k m ds = .exc c pl := by
  unfold defM
  rw [if_pos h, e]
theorem defM_next {n k : Nat} {m : Gm → SO} {ds : List PyData} {G : Gm} (h : ds.length = k) (e : m (startG n ds) = .next G) : defM n k m ds = .ok .none := by
  unfold defM
  rw [if_pos h, e]
end VL

set_option Elab.async false
set_option linter.all false
set_option maxRecDepth 100000
/-! MC: shapes of worths, and when two worths are equal. -/
namespace VL
open PySem L2
/-- a worth without dicts and texts, at most k deep -/
def Shp (k : Nat) (d : PyData) : Prop := d.canLay0 = true ∧ d.depth ≤ k
theorem Shp.shaped {k : Nat} {d : PyData} (h : Shp k d) (hk : k ≤ 64) : SeqAt.shaped d = true := by
  unfold SeqAt.shaped
  rw [h.1, Bool.true_and, decide_eq_true_eq]
  exact Nat.le_trans h.2 hk
theorem shp_int (i : Int) : Shp 1 (.int i) := ⟨rfl, by simp [PyData.depth]⟩
theorem shp_bool (b : Bool) : Shp 1 (.bool b) := ⟨rfl, by simp [PyData.depth]⟩
theorem shp_none : Shp 1 .none := ⟨rfl, by simp [PyData.depth]⟩
theorem shp_all {k : Nat} : ∀ {ds : List PyData}, (∀ d ∈ ds, Shp k d) → PyData.canLayAll0 ds = true ∧ PyData.depthAll ds ≤ k
  | [], _ => ⟨rfl, by simp [PyData.depthAll]⟩
  | d :: ds, h => by
    have h1 := h d List.mem_cons_self
    have h2 := shp_all fun x hx => h x (List.mem_cons_of_mem _ hx)
    refine ⟨by rw [PyData.canLayAll0, h1.1, h2.1]; rfl, ?_⟩
    rw [PyData.depthAll]
    exact Nat.max_le.mpr ⟨h1.2, h2.2⟩
theorem shp_list {k : Nat} {ds : List PyData} (h : ∀ d ∈ ds, Shp k d) : Shp (k + 1) (.list ds) := by
  have := shp_all h
  refine ⟨by rw [PyData.canLay0]; exact this.1, ?_⟩
  rw [PyData.depth]
  omega
theorem shp_tuple {k : Nat} {ds : List PyData} (h : ∀ d ∈ ds, Shp k d) : Shp (k + 1) (.tuple ds) := by
  have := shp_all h
  refine ⟨by rw [PyData.canLay0]; exact this.1, ?_⟩
  rw [PyData.depth]
  omega
theorem shp_tup (o : List Int) : Shp 2 (tupD o) := shp_tuple fun d hd => by
  obtain ⟨v, _, rfl⟩ := List.mem_map.mp hd
  exact shp_int v
theorem shp_ints (o : List Int) : Shp 2 (.list (o.map PyData.int)) := shp_list fun d hd => by
  obtain ⟨v, _, rfl⟩ := List.mem_map.mp hd
  exact shp_int v
theorem shp_tups (os : List (List Int)) : Shp 3 (.list (os.map tupD)) := shp_list fun d hd => by
  obtain ⟨v, _, rfl⟩ := List.mem_map.mp hd
  exact shp_tup v
theorem shp_map {α : Type} {f : α → PyData} {k : Nat} (h : ∀ x, Shp k (f x)) (xs : List α) : ∀ d ∈ xs.map f, Shp k d := fun d hd => by
  obtain ⟨v, _, rfl⟩ := List.mem_map.mp hd
  exact h v
theorem eqv_ints : ∀ a b : List Int, PyData.eqvAll (a.map PyData.int) (b.map PyData.int) = decide (a = b)
  | [], [] => by rw [List.map_nil, PyData.eqvAll]; rfl
  | [], y :: b => by rw [List.map_nil, List.map_cons, PyData.eqvAll]; simp
  | x :: a, [] => by rw [List.map_nil, List.map_cons, PyData.eqvAll]; simp
  | x :: a, y :: b => by
    rw [List.map_cons, List.map_cons, PyData.eqvAll, PyData.eqv, eqv_ints a b]
    by_cases h : x = y <;> simp [h]
theorem eqv_map {α : Type} [DecidableEq α] {f : α → PyData} (h : ∀ x y, PyData.eqv (f x) (f y) = decide (x = y)) : ∀ a b : List α, PyData.eqvAll (a.map f) (b.map f) = decide (a = b)
  | [], [] => by rw [List.map_nil, PyData.eqvAll]; rfl
  | [], y :: b => by rw [List.map_nil, List.map_cons, PyData.eqvAll]; simp
  | x :: a, [] => by rw [List.map_nil, List.map_cons, PyData.eqvAll]; simp
  | x :: a, y :: b => by
    rw [List.map_cons, List.map_cons, PyData.eqvAll, h, eqv_map h a b]
    by_cases h : x = y <;> simp [h]
theorem eqv_tup (a b : List Int) : PyData.eqv (tupD a) (tupD b) = decide (a = b) := by
  show PyData.eqv (.tuple _) (.tuple _) = _
  rw [PyData.eqv]
  exact eqv_ints a b
theorem eqv_tups (a b : List (List Int)) : PyData.eqv (.list (a.map tupD)) (.list (b.map tupD)) = decide (a = b) := by
  rw [PyData.eqv]
  exact eqv_map eqv_tup a b
theorem gEq_tup {a b : List Int} : gEq (tupD a) (tupD b) = .ok (.bool (decide (a = b))) .frz := by
  rw [gEq_s ((shp_tup a).shaped (by decide)) ((shp_tup b).shaped (by decide)), eqv_tup]
theorem gNe_tup {a b : List Int} : gNe (tupD a) (tupD b) = .ok (.bool (!decide (a = b))) .frz := by
  rw [gNe_s ((shp_tup a).shaped (by decide)) ((shp_tup b).shaped (by decide)), eqv_tup]
theorem gEq_tups {a b : List (List Int)} : gEq (.list (a.map tupD)) (.list (b.map tupD)) = .ok (.bool (decide (a = b))) .frz := by
  rw [gEq_s ((shp_tups a).shaped (by decide)) ((shp_tups b).shaped (by decide)), eqv_tups]
theorem gNe_tups {a b : List (List Int)} : gNe (.list (a.map tupD)) (.list (b.map tupD)) = .ok (.bool (!decide (a = b))) .frz := by
  rw [gNe_s ((shp_tups a).shaped (by decide)) ((shp_tups b).shaped (by decide)), eqv_tups]
theorem any_tups {a : List Int} : ∀ {os : List (List Int)}, ((os.map tupD).any fun z => PyData.eqv z (tupD a)) = os.contains a
  | [] => rfl
  | o :: os => by
    rw [List.map_cons, List.any_cons, eqv_tup, any_tups, List.contains_cons]
    congr 1
    rw [Bool.eq_iff_iff, decide_eq_true_eq, beq_iff_eq]
    exact ⟨Eq.symm, Eq.symm⟩
theorem gIn_tups {a : List Int} {os : List (List Int)} : gIn (tupD a) (.list (os.map tupD)) = .ok (.bool (os.contains a)) .frz := by
  unfold gIn
  simp only
  rw [(shp_tup a).shaped (by decide), (shp_tups os).shaped (by decide), any_tups]
  rfl
theorem gNotIn_tups {a : List Int} {os : List (List Int)} : gNotIn (tupD a) (.list (os.map tupD)) = .ok (.bool (!os.contains a)) .frz := by
  unfold gNotIn
  simp only
  rw [(shp_tup a).shaped (by decide), (shp_tups os).shaped (by decide), any_tups]
  rfl
end VL

set_option Elab.async false
set_option linter.all false
set_option maxRecDepth 100000
/-! MD: comprehensions and loops over lists of one kind; places, cuts. -/
namespace VL
open PySem L2
theorem fm_map {α β : Type} {enc : α → PyData} {p : α → Bool} {g : α → β} {f : PyData → Option β} : ∀ {xs : List α}, (∀ a ∈ xs, f (enc a) = if p a = true then some (g a) else none) → (xs.map enc).filterMap f = (xs.filter p).map g
  | [], _ => rfl
  | x :: xs, h => by
    rw [List.map_cons, List.filterMap_cons, h x List.mem_cons_self, List.filter_cons]
    have ih := fm_map (enc := enc) (p := p) (g := g) (f := f) (xs := xs) fun a ha => h a (List.mem_cons_of_mem _ ha)
    by_cases hp : p x = true
    · rw [if_pos hp, if_pos hp, ih]
      rfl
    · rw [if_neg hp, if_neg hp, ih]
/-- a comprehension over a list of one kind -/
theorem comp_fm {α : Type} {enc : α → PyData} {step : PyData → Option (Option PyData)} {p : α → Bool} {g : α → PyData} {xs : List α} (hl : xs.length ≤ big) (h : ∀ a ∈ xs, step (enc a) = some (if p a = true then some (g a) else none)) :
    IC.run (.ok (xs.map enc)) step = .ok (.list ((xs.filter p).map g)) .new := by
  rw [run_comp (f := fun d => (step d).getD none) (by rw [List.length_map]; exact hl) fun d hd => by
    obtain ⟨a, ha, rfl⟩ := List.mem_map.mp hd
    rw [h a ha]
    rfl]
  rw [fm_map (p := p) (g := g) fun a ha => by rw [h a ha]; rfl]
theorem comp_all {α : Type} {enc : α → PyData} {step : PyData → Option (Option PyData)} {g : α → PyData} {xs : List α} (hl : xs.length ≤ big) (h : ∀ a ∈ xs, step (enc a) = some (some (g a))) :
    IC.run (.ok (xs.map enc)) step = .ok (.list (xs.map g)) .new := by
  rw [comp_fm (p := fun _ => true) (g := g) hl fun a ha => by rw [h a ha]; rfl]
  rw [List.filter_eq_self.mpr fun _ _ => rfl]
/-- comprehensions over a range -/
theorem rgD_map (lo : Int) (n : Nat) : rgD lo n = (List.range n).map fun i => PyData.int (lo + ((i : Nat) : Int)) := rfl
theorem atI_map {α : Type} {f : α → PyData} {xs : List α} {p : Nat} {z : α} (h : p < xs.length) : atI (xs.map f) ((p : Nat) : Int) = some (f (xs.getD p z)) := by
  refine atI_nat (by omega) ?_
  rw [Int.toNat_natCast, List.getElem?_map, List.getElem?_eq_getElem h, List.getD_eq_getElem?_getD, List.getElem?_eq_getElem h]
  rfl
theorem ixN_last {n : Nat} (h : 0 < n) : ixN n (-1) = some (n - 1) := by
  unfold ixN
  rw [if_neg (by omega), if_pos (by omega)]
  congr 1
  omega
theorem atI_last {α : Type} {f : α → PyData} {xs : List α} {z : α} (h : 0 < xs.length) : atI (xs.map f) (-1) = some (f (xs.getD (xs.length - 1) z)) := by
  unfold atI
  rw [List.length_map, ixN_last h]
  show (xs.map f)[xs.length - 1]? = _
  rw [List.getElem?_map, List.getElem?_eq_getElem (by omega), List.getD_eq_getElem?_getD, List.getElem?_eq_getElem (by omega)]
  rfl
theorem cut_toN {α : Type} {f : α → PyData} {xs : List α} {p : Nat} : cutD (xs.map f) none (some ((p : Nat) : Int)) = (xs.take p).map f := by
  unfold cutD
  rw [HT.sIx_nat, HT.sIx_none, List.drop_zero, Nat.sub_zero, List.length_map, ← List.map_take]
  congr 1
  rw [Nat.min_def]
  split
  · rfl
  · rename_i h
    rw [List.take_of_length_le (Nat.le_refl _), List.take_of_length_le (by omega)]
theorem cut_fromN {α : Type} {f : α → PyData} {xs : List α} {p : Nat} : cutD (xs.map f) (some ((p : Nat) : Int)) none = (xs.drop p).map f := by
  unfold cutD
  rw [HT.sIx_nat, HT.sIx_none, List.take_of_length_le (by rw [List.length_drop]; exact Nat.le_refl _), List.length_map, ← List.map_drop]
  congr 1
  rw [Nat.min_def]
  split
  · rfl
  · rename_i h
    rw [List.drop_eq_nil_of_le (Nat.le_refl _), List.drop_eq_nil_of_le (by omega)]
/-- a loop over a list of one kind, by an invariant of what is behind and what is to come -/
theorem for_list {α : Type} {enc : α → PyData} {tgt : PyData → Gm → Option Gm} {body : Gm → SO} (P : List α → Gm → Prop) : ∀ {xs : List α} {pre : List α} {G : Gm}, P pre G →
    (∀ pre a G, a ∈ xs → P pre G → ∃ G1 G2, tgt (enc a) G = some G1 ∧ body G1 = .next G2 ∧ P (pre ++ [a]) G2) → ∃ G2, forL tgt body (xs.map enc) G = .next G2 ∧ P (pre ++ xs) G2
  | [], pre, G, p, _ => ⟨G, rfl, by rw [List.append_nil]; exact p⟩
  | x :: xs, pre, G, p, h => by
    obtain ⟨G1, G2, h1, h2, p2⟩ := h pre x G List.mem_cons_self p
    obtain ⟨G3, h3, p3⟩ := for_list P (xs := xs) (pre := pre ++ [x]) (G := G2) p2 fun pre a G ha => h pre a G (List.mem_cons_of_mem _ ha)
    refine ⟨G3, ?_, by rw [List.append_assoc] at p3; exact p3⟩
    rw [List.map_cons]
    unfold forL
    rw [h1]
    simp only
    rw [h2]
    exact h3
end VL
namespace VL
open PySem L2
/-- an assignment that freezes -/
def asfK (i : Nat) (G : Gm) (d : PyData) (w : Wh) : SO := takeS G d w fun G d => .next (G.set i (some (.dat d)))
@[simp] theorem asgF_eq {i : Nat} {m : Gm → EO} {G : Gm} : asgF i m G = (m G).bindS G (asfK i G) := rfl
@[simp] theorem asfK_frz {i : Nat} {G : Gm} {d : PyData} : asfK i G d .frz = .next (G.set i (some (.dat d))) := rfl
@[simp] theorem asfK_new {i : Nat} {G : Gm} {d : PyData} : asfK i G d .new = .next (G.set i (some (.dat d))) := rfl
/-- texts, equal or not -/
theorem gEq_str {x y : Str} (hx : SeqAt.shaped (.str x) = true := by decide +kernel) (hy : SeqAt.shaped (.str y) = true := by decide +kernel) : gEq (.str x) (.str y) = .ok (.bool (x == y)) .frz := by
  rw [gEq_s hx hy, PyData.eqv]
theorem gNe_str {x y : Str} (hx : SeqAt.shaped (.str x) = true := by decide +kernel) (hy : SeqAt.shaped (.str y) = true := by decide +kernel) : gNe (.str x) (.str y) = .ok (.bool (!(x == y))) .frz := by
  rw [gNe_s hx hy, PyData.eqv]
end VL
namespace VL
open PySem L2
/-- lists of truths -/
theorem eqv_bools (a b : List Bool) : PyData.eqv (.list (a.map PyData.bool)) (.list (b.map PyData.bool)) = decide (a = b) := by
  rw [PyData.eqv]
  refine eqv_map (fun x y => ?_) a b
  rw [PyData.eqv]
  cases x <;> cases y <;> rfl
theorem gEq_bools {a b : List Bool} : gEq (.list (a.map PyData.bool)) (.list (b.map PyData.bool)) = .ok (.bool (decide (a = b))) .frz := by
  rw [gEq_s ((shp_list (shp_map shp_bool a)).shaped (by decide)) ((shp_list (shp_map shp_bool b)).shaped (by decide)), eqv_bools]
/-- which exception a def raises, for a look by the kernel -/
def isExc (c : Nat) : FO → Bool
  | .exc d none => Nat.beq d c
  | _ => false
theorem isExc_ok {c : Nat} {o : FO} (h : isExc c o = true) : o = .exc c none := by
  unfold isExc at h
  split at h
  · rw [Nat.eq_of_beq_eq_true h]
  · cases h
end VL

set_option Elab.async false
set_option linter.all false
set_option maxRecDepth 100000
namespace Lw
open PySem L2 VL
def top (i : Nat) : Stmt := PySem.Challenge.pw_lowerorders_k20_first_exception.main.body.getD i (.Pass ⟨0, 0, 0, 0⟩)
abbrev s_in_range : Stmt := top 13
def b_in_range : Gm → SO := (retS (andE (op1 (gIsi .int) (varE 0)) (andE (op1 gNot (op1 (gIsi .bool) (varE 0))) (chainE (gInt iLe) (gInt iLe) (varE 1) (varE 0) (varE 2)))))
def m_in_range : List PyData → FO := defM 3 3 b_in_range
abbrev N_in_range : List Str := ["value", "low", "high"]
theorem sc_in_range : FnScope N_in_range ["value", "low", "high"] (defScope s_in_range) := ⟨rfl, rfl, rfl, by decide +kernel, rfl, by decide +kernel, by decide +kernel⟩
theorem ok_in_range {P : Program} {w : World} {K : PySem.W.Frag} {mg : Str → Option Value} {base : Heap} {ct : Nat → Addr} {f : Addr} {fd : FuncData} (F : Fun K "in_range" "in_range" s_in_range f fd) (b_isinstance : mg "isinstance" = none) (b_int : mg "int" = none) (b_bool : mg "bool" = none) :
    FnOk P w K mg base (L2.CX P w) 1 f fd ["value", "low", "high"] (spM K ct m_in_range) :=
  have nd := sc_in_range.nd
  fn_ok (k := 0) F sc_in_range fun cdv A outer s H E hr tk hp =>
  (ess_one (es_ret (ee_and (ee_isi .int b_isinstance b_int (by decide +kernel) (ee_var 0)) (ee_and (ee_not (ee_isi .bool b_isinstance b_bool (by decide +kernel) (ee_var 0))) (ee_one (ee_chain cm_le cm_le (ee_var 1) (ee_var 0) (ee_var 2)))))))
abbrev s_is_order : Stmt := top 14
def C1_is_order : Gm → EO := compE (compiT (varE 0)) [1] (toN 1) (notB (truthB (callE m_in_range (consA (varE 1) (consA (cE (.int 0)) (consA (op2 (gInt iSub) (op1 gLen (varE 0)) (cE (.int 1))) nilA)))))) (varE 1)
def b_is_order : Gm → SO := (seqS (ifS (orB (notB (truthB (op1 (gIsi .tuple) (varE 0)))) (notB (boolB (chainE (gInt iLe) (gInt iLe) (cE (.int 1)) (op1 gLen (varE 0)) (cE (.int 6)))))) (retS (cE (.bool false))) nilS)
  (seqS (ifS (truthB C1_is_order) (retS (cE (.bool false))) nilS)
  (retS (op2 gEq (op1 gLenSet (varE 0)) (op1 gLen (varE 0))))))
def m_is_order : List PyData → FO := defM 2 1 b_is_order
abbrev N_is_order : List Str := ["value", "one"]
theorem sc_is_order : FnScope N_is_order ["value"] (defScope s_is_order) := ⟨rfl, rfl, rfl, by decide +kernel, rfl, by decide +kernel, by decide +kernel⟩
theorem ok_is_order {P : Program} {w : World} {K : PySem.W.Frag} {mg : Str → Option Value} {base : Heap} {ct : Nat → Addr} {f : Addr} {fd : FuncData} (F : Fun K "is_order" "is_order" s_is_order f fd) (b_isinstance : mg "isinstance" = none) (b_tuple : mg "tuple" = none) (b_len : mg "len" = none) (b_set : mg "set" = none) {t_MAX_SIZE : Tok} (k_MAX_SIZE : mg "MAX_SIZE" = some (.int 6 t_MAX_SIZE)) (C_in_range : CallT P w K mg base ct "in_range" 1 m_in_range) :
    FnOk P w K mg base (L2.CX P w) 2 f fd ["value"] (spM K ct m_is_order) :=
  have nd := sc_is_order.nd
  fn_ok (k := 1) F sc_is_order fun cdv A outer s H E hr tk hp =>
  (ess_cons (es_if (eb_w (ew_or (eb_not (eb_truth (ee_isi .tuple b_isinstance b_tuple (by decide +kernel) (ee_var 0)))) (ew_or1 (eb_not (eb_chain cm_le cm_le ee_int (ee_len b_len (ee_var 0)) (ee_glI k_MAX_SIZE)))))) (ess_one (es_ret ee_bl)) ess_nil)
  (ess_cons (es_if (eb_truth (ee_comp N_is_order (defScope s_is_order) [("one", 1)] rfl nd (by decide +kernel) (ec_tup (ct := ct) (ee_var 0)) (fun _ _ _ _ _ => (egw_name nd (by decide))) (fun _ _ _ _ _ => (ets_one (eb_not (eb_truth (ee_fn C_in_range hr takes0 (ea_cons (ee_var 1) (ea_cons ee_int (ea_cons (ee_sub (ee_len b_len (ee_var 0)) ee_int) ea_nil)))))))) (fun _ _ _ _ _ => (ee_var 1)))) (ess_one (es_ret ee_bl)) ess_nil)
  (ess_one (es_ret (ee_cmp (cm_eq hr) (ee_lenSet rfl b_len b_set (ee_var 0)) (ee_len b_len (ee_var 0)))))))
abbrev s_check_order : Stmt := top 15
def b_check_order : Gm → SO := (ifS (notB (truthB (callE m_is_order (consA (varE 0) nilA)))) (raiseS 2) nilS)
def m_check_order : List PyData → FO := defM 1 1 b_check_order
abbrev N_check_order : List Str := ["order"]
theorem sc_check_order : FnScope N_check_order ["order"] (defScope s_check_order) := ⟨rfl, rfl, rfl, by decide +kernel, rfl, by decide +kernel, by decide +kernel⟩
theorem ok_check_order {P : Program} {w : World} {K : PySem.W.Frag} {mg : Str → Option Value} {base : Heap} {ct : Nat → Addr} {f : Addr} {fd : FuncData} (F : Fun K "check_order" "check_order" s_check_order f fd) (C_is_order : CallT P w K mg base ct "is_order" 2 m_is_order) (X_InvalidOrder : XcT K mg "InvalidOrder" (ct 2)) :
    FnOk P w K mg base (L2.CX P w) 3 f fd ["order"] (spM K ct m_check_order) :=
  have nd := sc_check_order.nd
  fn_ok (k := 2) F sc_check_order fun cdv A outer s H E hr tk hp =>
  (ess_one (es_if (eb_not (eb_truth (ee_fn C_is_order hr tk (ea_cons (ee_var 0) ea_nil)))) (ess_one (es_raise (c := 2) rfl X_InvalidOrder tk)) ess_nil))
abbrev s_check_pair : Stmt := top 16
def b_check_pair : Gm → SO := (seqS (dropS (callE m_check_order (consA (varE 0) nilA)))
  (ifS (orB (notB (truthB (callE m_is_order (consA (varE 1) nilA)))) (boolB (op2 gNe (op1 gLen (varE 1)) (op1 gLen (varE 0))))) (raiseS 2) nilS))
def m_check_pair : List PyData → FO := defM 2 2 b_check_pair
abbrev N_check_pair : List Str := ["one", "other"]
theorem sc_check_pair : FnScope N_check_pair ["one", "other"] (defScope s_check_pair) := ⟨rfl, rfl, rfl, by decide +kernel, rfl, by decide +kernel, by decide +kernel⟩
theorem ok_check_pair {P : Program} {w : World} {K : PySem.W.Frag} {mg : Str → Option Value} {base : Heap} {ct : Nat → Addr} {f : Addr} {fd : FuncData} (F : Fun K "check_pair" "check_pair" s_check_pair f fd) (b_len : mg "len" = none) (C_check_order : CallT P w K mg base ct "check_order" 3 m_check_order) (C_is_order : CallT P w K mg base ct "is_order" 2 m_is_order) (X_InvalidOrder : XcT K mg "InvalidOrder" (ct 2)) :
    FnOk P w K mg base (L2.CX P w) 4 f fd ["one", "other"] (spM K ct m_check_pair) :=
  have nd := sc_check_pair.nd
  fn_ok (k := 3) F sc_check_pair fun cdv A outer s H E hr tk hp =>
  (ess_cons (es_expr (ee_fn C_check_order hr tk (ea_cons (ee_var 0) ea_nil)))
  (ess_one (es_if (eb_w (ew_or (eb_not (eb_truth (ee_fn C_is_order hr tk (ea_cons (ee_var 1) ea_nil)))) (ew_or1 (eb_cmp (cm_ne hr) (ee_len b_len (ee_var 1)) (ee_len b_len (ee_var 0)))))) (ess_one (es_raise (c := 2) rfl X_InvalidOrder tk)) ess_nil)))
abbrev s_great_of : Stmt := top 17
def C1_great_of : Gm → EO := compE (compiT (slE (varE 0) partN (partS (varE 1)))) [3] (toN 3) (boolB (op2 (gInt iGe) (varE 3) (varE 2))) (varE 3)
def b_great_of : Gm → SO := (retS (op1 gLen C1_great_of))
def m_great_of : List PyData → FO := defM 4 3 b_great_of
abbrev N_great_of : List Str := ["order", "first", "value", "number"]
theorem sc_great_of : FnScope N_great_of ["order", "first", "value"] (defScope s_great_of) := ⟨rfl, rfl, rfl, by decide +kernel, rfl, by decide +kernel, by decide +kernel⟩
theorem ok_great_of {P : Program} {w : World} {K : PySem.W.Frag} {mg : Str → Option Value} {base : Heap} {ct : Nat → Addr} {f : Addr} {fd : FuncData} (F : Fun K "great_of" "great_of" s_great_of f fd) (b_len : mg "len" = none) :
    FnOk P w K mg base (L2.CX P w) 1 f fd ["order", "first", "value"] (spM K ct m_great_of) :=
  have nd := sc_great_of.nd
  fn_ok (k := 0) F sc_great_of fun cdv A outer s H E hr tk hp =>
  (ess_one (es_ret (ee_len b_len (ee_comp N_great_of (defScope s_great_of) [("number", 3)] rfl nd (by decide +kernel) (ec_tup (ct := ct) (ee_slice (ee_var 0) eo_none (eo_some (ct := ct) (ee_var 1)))) (fun _ _ _ _ _ => (egw_name nd (by decide))) (fun _ _ _ _ _ => (ets_one (eb_cmp cm_ge (ee_var 3) (ee_var 2)))) (fun _ _ _ _ _ => (ee_var 3))))))
abbrev s_great_count : Stmt := top 18
def b_great_count : Gm → SO := (seqS (dropS (callE m_check_order (consA (varE 0) nilA)))
  (seqS (ifS (orB (notB (truthB (callE m_in_range (consA (varE 1) (consA (cE (.int 0)) (consA (op1 gLen (varE 0)) nilA)))))) (notB (truthB (callE m_in_range (consA (varE 2) (consA (cE (.int 0)) (consA (op1 gLen (varE 0)) nilA))))))) (raiseS 3) nilS)
  stuckS))
def m_great_count : List PyData → FO := defM 3 3 b_great_count
abbrev N_great_count : List Str := ["order", "first", "value"]
theorem sc_great_count : FnScope N_great_count ["order", "first", "value"] (defScope s_great_count) := ⟨rfl, rfl, rfl, by decide +kernel, rfl, by decide +kernel, by decide +kernel⟩
theorem ok_great_count {P : Program} {w : World} {K : PySem.W.Frag} {mg : Str → Option Value} {base : Heap} {ct : Nat → Addr} {f : Addr} {fd : FuncData} (F : Fun K "great_count" "great_count" s_great_count f fd) (b_len : mg "len" = none) (C_check_order : CallT P w K mg base ct "check_order" 3 m_check_order) (C_in_range : CallT P w K mg base ct "in_range" 1 m_in_range) (X_InvalidNumber : XcT K mg "InvalidNumber" (ct 3)) :
    FnOk P w K mg base (L2.CX P w) 4 f fd ["order", "first", "value"] (spM K ct m_great_count) :=
  have nd := sc_great_count.nd
  fn_ok (k := 3) F sc_great_count fun cdv A outer s H E hr tk hp =>
  (ess_cons (es_expr (ee_fn C_check_order hr tk (ea_cons (ee_var 0) ea_nil)))
  (ess_cons (es_if (eb_w (ew_or (eb_not (eb_truth (ee_fn C_in_range hr tk (ea_cons (ee_var 1) (ea_cons ee_int (ea_cons (ee_len b_len (ee_var 0)) ea_nil)))))) (ew_or1 (eb_not (eb_truth (ee_fn C_in_range hr tk (ea_cons (ee_var 2) (ea_cons ee_int (ea_cons (ee_len b_len (ee_var 0)) ea_nil))))))))) (ess_one (es_raise (c := 3) rfl X_InvalidNumber tk)) ess_nil)
  (ess_one es_never)))
abbrev s_exchanged : Stmt := top 19
def b_exchanged : Gm → SO := (seqS (asgS 3 (op1 gList (varE 0)))
  (seqS (setS 3 (varE 1) (op2 gIx (varE 0) (varE 2)))
  (seqS (setS 3 (varE 2) (op2 gIx (varE 0) (varE 1)))
  (retS (op1 gTuple (varE 3))))))
def m_exchanged : List PyData → FO := defM 4 3 b_exchanged
abbrev N_exchanged : List Str := ["order", "place", "later", "result"]
theorem sc_exchanged : FnScope N_exchanged ["order", "place", "later"] (defScope s_exchanged) := ⟨rfl, rfl, rfl, by decide +kernel, rfl, by decide +kernel, by decide +kernel⟩
theorem ok_exchanged {P : Program} {w : World} {K : PySem.W.Frag} {mg : Str → Option Value} {base : Heap} {ct : Nat → Addr} {f : Addr} {fd : FuncData} (F : Fun K "exchanged" "exchanged" s_exchanged f fd) (b_list : mg "list" = none) (b_tuple : mg "tuple" = none) :
    FnOk P w K mg base (L2.CX P w) 1 f fd ["order", "place", "later"] (spM K ct m_exchanged) :=
  have nd := sc_exchanged.nd
  fn_ok (k := 0) F sc_exchanged fun cdv A outer s H E hr tk hp =>
  (ess_cons (es_asg (ee_list b_list (ee_var 0)) nd)
  (ess_cons (es_setitem (ee_ix (ee_var 0) (ee_var 2)) (ee_var 1))
  (ess_cons (es_setitem (ee_ix (ee_var 0) (ee_var 1)) (ee_var 2))
  (ess_one (es_ret (ee_tuple b_tuple (ee_var 3)))))))
abbrev s_first_fault : Stmt := top 22
def L1_first_fault : Gm → SO := (ifS (boolB (op2 (gInt iGt) (callE m_great_of (consA (varE 0) (consA (varE 2) (consA (varE 3) nilA)))) (callE m_great_of (consA (varE 1) (consA (varE 2) (consA (varE 3) nilA)))))) (retS (tupE (consA (varE 2) (consA (varE 3) nilA)))) nilS)
def L2_first_fault : Gm → SO := (forS (iterO (rg2 (cE (.int 1)) (op1 gLen (varE 0)))) (toN 3) L1_first_fault)
def b_first_fault : Gm → SO := (seqS (forS (iterO (rg2 (cE (.int 1)) (op1 gLen (varE 0)))) (toN 2) L2_first_fault)
  (retS (cE .none)))
def m_first_fault : List PyData → FO := defM 4 2 b_first_fault
abbrev N_first_fault : List Str := ["one", "other", "first", "value"]
theorem sc_first_fault : FnScope N_first_fault ["one", "other"] (defScope s_first_fault) := ⟨rfl, rfl, rfl, by decide +kernel, rfl, by decide +kernel, by decide +kernel⟩
theorem ok_first_fault {P : Program} {w : World} {K : PySem.W.Frag} {mg : Str → Option Value} {base : Heap} {ct : Nat → Addr} {f : Addr} {fd : FuncData} (F : Fun K "first_fault" "first_fault" s_first_fault f fd) (b_range : mg "range" = none) (b_len : mg "len" = none) (C_great_of : CallT P w K mg base ct "great_of" 1 m_great_of) :
    FnOk P w K mg base (L2.CX P w) 2 f fd ["one", "other"] (spM K ct m_first_fault) :=
  have nd := sc_first_fault.nd
  fn_ok (k := 1) F sc_first_fault fun cdv A outer s H E hr tk hp =>
  (ess_cons (es_for hp rfl (ei_range2 b_range ee_int (ee_len b_len (ee_var 0))) (eg_name nd) (ess_one (es_for hp rfl (ei_range2 b_range ee_int (ee_len b_len (ee_var 0))) (eg_name nd) (ess_one (es_if (eb_cmp cm_gt (ee_fn C_great_of hr tk (ea_cons (ee_var 0) (ea_cons (ee_var 2) (ea_cons (ee_var 3) ea_nil)))) (ee_fn C_great_of hr tk (ea_cons (ee_var 1) (ea_cons (ee_var 2) (ea_cons (ee_var 3) ea_nil))))) (ess_one (es_ret (ee_tup (ea_cons (ee_var 2) (ea_cons (ee_var 3) ea_nil))))) ess_nil)))))
  (ess_one (es_ret ee_non)))
abbrev s_is_below : Stmt := top 23
def b_is_below : Gm → SO := (seqS (dropS (callE m_check_pair (consA (varE 0) (consA (varE 1) nilA))))
  stuckS)
def m_is_below : List PyData → FO := defM 2 2 b_is_below
abbrev N_is_below : List Str := ["one", "other"]
theorem sc_is_below : FnScope N_is_below ["one", "other"] (defScope s_is_below) := ⟨rfl, rfl, rfl, by decide +kernel, rfl, by decide +kernel, by decide +kernel⟩
theorem ok_is_below {P : Program} {w : World} {K : PySem.W.Frag} {mg : Str → Option Value} {base : Heap} {ct : Nat → Addr} {f : Addr} {fd : FuncData} (F : Fun K "is_below" "is_below" s_is_below f fd) (C_check_pair : CallT P w K mg base ct "check_pair" 4 m_check_pair) :
    FnOk P w K mg base (L2.CX P w) 5 f fd ["one", "other"] (spM K ct m_is_below) :=
  have nd := sc_is_below.nd
  fn_ok (k := 4) F sc_is_below fun cdv A outer s H E hr tk hp =>
  (ess_cons (es_expr (ee_fn C_check_pair hr tk (ea_cons (ee_var 0) (ea_cons (ee_var 1) ea_nil))))
  (ess_one es_never))
abbrev s_paper : Stmt := top 24
def b_paper : Gm → SO := (seqS (dropS (callE m_check_pair (consA (varE 0) (consA (varE 1) nilA))))
  (seqS stuckS
  (seqS stuckS
  stuckS)))
def m_paper : List PyData → FO := defM 3 2 b_paper
abbrev N_paper : List Str := ["one", "other", "found"]
theorem sc_paper : FnScope N_paper ["one", "other"] (defScope s_paper) := ⟨rfl, rfl, rfl, by decide +kernel, rfl, by decide +kernel, by decide +kernel⟩
theorem ok_paper {P : Program} {w : World} {K : PySem.W.Frag} {mg : Str → Option Value} {base : Heap} {ct : Nat → Addr} {f : Addr} {fd : FuncData} (F : Fun K "paper" "paper" s_paper f fd) (C_check_pair : CallT P w K mg base ct "check_pair" 4 m_check_pair) :
    FnOk P w K mg base (L2.CX P w) 5 f fd ["one", "other"] (spM K ct m_paper) :=
  have nd := sc_paper.nd
  fn_ok (k := 4) F sc_paper fun cdv A outer s H E hr tk hp =>
  (ess_cons (es_expr (ee_fn C_check_pair hr tk (ea_cons (ee_var 0) (ea_cons (ee_var 1) ea_nil))))
  (ess_cons es_never
  (ess_cons es_never
  (ess_one es_never))))
abbrev s_is_paper : Stmt := top 25
def b_is_paper : Gm → SO := (seqS (dropS (callE m_check_pair (consA (varE 0) (consA (varE 1) nilA))))
  (seqS stuckS
  stuckS))
def m_is_paper : List PyData → FO := defM 4 3 b_is_paper
abbrev N_is_paper : List Str := ["one", "other", "value", "part"]
theorem sc_is_paper : FnScope N_is_paper ["one", "other", "value"] (defScope s_is_paper) := ⟨rfl, rfl, rfl, by decide +kernel, rfl, by decide +kernel, by decide +kernel⟩
theorem ok_is_paper {P : Program} {w : World} {K : PySem.W.Frag} {mg : Str → Option Value} {base : Heap} {ct : Nat → Addr} {f : Addr} {fd : FuncData} (F : Fun K "is_paper" "is_paper" s_is_paper f fd) (C_check_pair : CallT P w K mg base ct "check_pair" 4 m_check_pair) :
    FnOk P w K mg base (L2.CX P w) 5 f fd ["one", "other", "value"] (spM K ct m_is_paper) :=
  have nd := sc_is_paper.nd
  fn_ok (k := 4) F sc_is_paper fun cdv A outer s H E hr tk hp =>
  (ess_cons (es_expr (ee_fn C_check_pair hr tk (ea_cons (ee_var 0) (ea_cons (ee_var 1) ea_nil))))
  (ess_cons es_never
  (ess_one es_never)))
abbrev s_steps_up : Stmt := top 26
def C1_steps_up : Gm → EO := compE (compiT (slE (varE 0) (partS (op2 gAdd (varE 2) (cE (.int 1)))) (partS (varE 3)))) [5] (toN 5) (boolB (chainE (gInt iLt) (gInt iLt) (op2 gIx (varE 0) (varE 2)) (varE 5) (op2 gIx (varE 0) (varE 3)))) (varE 5)
def L1_steps_up : Gm → SO := (seqS (asgS 4 C1_steps_up)
  (ifS (andB (boolB (op2 (gInt iLt) (op2 gIx (varE 0) (varE 2)) (op2 gIx (varE 0) (varE 3)))) (notB (truthB (varE 4)))) (appS 1 (callE m_exchanged (consA (varE 0) (consA (varE 2) (consA (varE 3) nilA))))) nilS))
def L2_steps_up : Gm → SO := (forS (iterO (rg2 (op2 gAdd (varE 2) (cE (.int 1))) (op1 gLen (varE 0)))) (toN 3) L1_steps_up)
def b_steps_up : Gm → SO := (seqS (asgS 1 (lstE nilA))
  (seqS (forS (iterO (rg1 (op1 gLen (varE 0)))) (toN 2) L2_steps_up)
  (retS (op1 gSortT (varE 1)))))
def m_steps_up : List PyData → FO := defM 6 1 b_steps_up
abbrev N_steps_up : List Str := ["order", "result", "place", "later", "between", "number"]
theorem sc_steps_up : FnScope N_steps_up ["order"] (defScope s_steps_up) := ⟨rfl, rfl, rfl, by decide +kernel, rfl, by decide +kernel, by decide +kernel⟩
theorem ok_steps_up {P : Program} {w : World} {K : PySem.W.Frag} {mg : Str → Option Value} {base : Heap} {ct : Nat → Addr} {f : Addr} {fd : FuncData} (F : Fun K "steps_up" "steps_up" s_steps_up f fd) (b_range : mg "range" = none) (b_len : mg "len" = none) (b_sorted : mg "sorted" = none) (C_exchanged : CallT P w K mg base ct "exchanged" 1 m_exchanged) :
    FnOk P w K mg base (L2.CX P w) 2 f fd ["order"] (spM K ct m_steps_up) :=
  have nd := sc_steps_up.nd
  fn_ok (k := 1) F sc_steps_up fun cdv A outer s H E hr tk hp =>
  (ess_cons (es_asg (ee_lst ea_nil) nd)
  (ess_cons (es_for hp rfl (ei_range1 b_range (ee_len b_len (ee_var 0))) (eg_name nd) (ess_one (es_for hp rfl (ei_range2 b_range (ee_add (ee_var 2) ee_int) (ee_len b_len (ee_var 0))) (eg_name nd) (ess_cons (es_asgC N_steps_up (defScope s_steps_up) [("number", 5)] rfl nd (by decide +kernel) (sw_true rfl rfl rfl (by decide +kernel)) (ec_tup (ct := ct) (ee_slice (ee_var 0) (eo_some (ct := ct) (ee_add (ee_var 2) ee_int)) (eo_some (ct := ct) (ee_var 3)))) (fun _ _ _ _ _ => (egw_name nd (by decide))) (fun _ _ _ _ _ => (ets_one (eb_chain cm_lt cm_lt (ee_ix (ee_var 0) (ee_var 2)) (ee_var 5) (ee_ix (ee_var 0) (ee_var 3))))) (fun _ _ _ _ _ => (ee_var 5)))
  (ess_one (es_if (eb_w (ew_and (eb_cmp cm_lt (ee_ix (ee_var 0) (ee_var 2)) (ee_ix (ee_var 0) (ee_var 3))) (ew_and1 (eb_not (eb_truth (ee_var 4)))))) (ess_one (es_append (ee_fn C_exchanged hr tk (ea_cons (ee_var 0) (ea_cons (ee_var 2) (ea_cons (ee_var 3) ea_nil)))))) ess_nil))))))
  (ess_one (es_ret (ee_sortT b_sorted (ee_var 1))))))
abbrev s_way_up : Stmt := top 27
def b_way_up : Gm → SO := (seqS (dropS (callE m_check_pair (consA (varE 0) (consA (varE 1) nilA))))
  (seqS stuckS
  (seqS stuckS
  (seqS stuckS
  stuckS))))
def m_way_up : List PyData → FO := defM 4 2 b_way_up
abbrev N_way_up : List Str := ["one", "other", "result", "more"]
theorem sc_way_up : FnScope N_way_up ["one", "other"] (defScope s_way_up) := ⟨rfl, rfl, rfl, by decide +kernel, rfl, by decide +kernel, by decide +kernel⟩
theorem ok_way_up {P : Program} {w : World} {K : PySem.W.Frag} {mg : Str → Option Value} {base : Heap} {ct : Nat → Addr} {f : Addr} {fd : FuncData} (F : Fun K "way_up" "way_up" s_way_up f fd) (C_check_pair : CallT P w K mg base ct "check_pair" 4 m_check_pair) :
    FnOk P w K mg base (L2.CX P w) 5 f fd ["one", "other"] (spM K ct m_way_up) :=
  have nd := sc_way_up.nd
  fn_ok (k := 4) F sc_way_up fun cdv A outer s H E hr tk hp =>
  (ess_cons (es_expr (ee_fn C_check_pair hr tk (ea_cons (ee_var 0) (ea_cons (ee_var 1) ea_nil))))
  (ess_cons es_never
  (ess_cons es_never
  (ess_cons es_never
  (ess_one es_never)))))
abbrev s_check_below : Stmt := top 30
def b_check_below : Gm → SO := (seqS (dropS (callE m_check_pair (consA (varE 0) (consA (varE 1) nilA))))
  (ifS (boolB (op2 (gIs true) (callE m_first_fault (consA (varE 0) (consA (varE 1) nilA))) (cE .none))) (raiseS 6) nilS))
def m_check_below : List PyData → FO := defM 2 2 b_check_below
abbrev N_check_below : List Str := ["one", "other"]
theorem sc_check_below : FnScope N_check_below ["one", "other"] (defScope s_check_below) := ⟨rfl, rfl, rfl, by decide +kernel, rfl, by decide +kernel, by decide +kernel⟩
theorem ok_check_below {P : Program} {w : World} {K : PySem.W.Frag} {mg : Str → Option Value} {base : Heap} {ct : Nat → Addr} {f : Addr} {fd : FuncData} (F : Fun K "check_below" "check_below" s_check_below f fd) (C_check_pair : CallT P w K mg base ct "check_pair" 4 m_check_pair) (C_first_fault : CallT P w K mg base ct "first_fault" 2 m_first_fault) (X_NotBelow : XcT K mg "NotBelow" (ct 6)) :
    FnOk P w K mg base (L2.CX P w) 5 f fd ["one", "other"] (spM K ct m_check_below) :=
  have nd := sc_check_below.nd
  fn_ok (k := 4) F sc_check_below fun cdv A outer s H E hr tk hp =>
  (ess_cons (es_expr (ee_fn C_check_pair hr tk (ea_cons (ee_var 0) (ea_cons (ee_var 1) ea_nil))))
  (ess_one (es_if (eb_cmp cm_isn (ee_fn C_first_fault hr tk (ea_cons (ee_var 0) (ea_cons (ee_var 1) ea_nil))) ee_non) (ess_one (es_raise (c := 6) rfl X_NotBelow tk)) ess_nil)))
abbrev s_between : Stmt := top 32
def b_between : Gm → SO := (seqS (dropS (callE m_check_below (consA (varE 0) (consA (varE 1) nilA))))
  stuckS)
def m_between : List PyData → FO := defM 2 2 b_between
abbrev N_between : List Str := ["one", "other"]
theorem sc_between : FnScope N_between ["one", "other"] (defScope s_between) := ⟨rfl, rfl, rfl, by decide +kernel, rfl, by decide +kernel, by decide +kernel⟩
theorem ok_between {P : Program} {w : World} {K : PySem.W.Frag} {mg : Str → Option Value} {base : Heap} {ct : Nat → Addr} {f : Addr} {fd : FuncData} (F : Fun K "between" "between" s_between f fd) (C_check_below : CallT P w K mg base ct "check_below" 5 m_check_below) :
    FnOk P w K mg base (L2.CX P w) 6 f fd ["one", "other"] (spM K ct m_between) :=
  have nd := sc_between.nd
  fn_ok (k := 5) F sc_between fun cdv A outer s H E hr tk hp =>
  (ess_cons (es_expr (ee_fn C_check_below hr tk (ea_cons (ee_var 0) (ea_cons (ee_var 1) ea_nil))))
  (ess_one es_never))
abbrev s_is_step : Stmt := top 33
def b_is_step : Gm → SO := (retS (op2 gIn (varE 1) (callE m_steps_up (consA (varE 0) nilA))))
def m_is_step : List PyData → FO := defM 2 2 b_is_step
abbrev N_is_step : List Str := ["one", "other"]
theorem sc_is_step : FnScope N_is_step ["one", "other"] (defScope s_is_step) := ⟨rfl, rfl, rfl, by decide +kernel, rfl, by decide +kernel, by decide +kernel⟩
theorem ok_is_step {P : Program} {w : World} {K : PySem.W.Frag} {mg : Str → Option Value} {base : Heap} {ct : Nat → Addr} {f : Addr} {fd : FuncData} (F : Fun K "is_step" "is_step" s_is_step f fd) (C_steps_up : CallT P w K mg base ct "steps_up" 2 m_steps_up) :
    FnOk P w K mg base (L2.CX P w) 3 f fd ["one", "other"] (spM K ct m_is_step) :=
  have nd := sc_is_step.nd
  fn_ok (k := 2) F sc_is_step fun cdv A outer s H E hr tk hp =>
  (ess_one (es_ret (ee_cmp (cm_in hr) (ee_var 1) (ee_fn C_steps_up hr tk (ea_cons (ee_var 0) ea_nil)))))
abbrev s_is_chain : Stmt := top 34
def C1_is_chain : Gm → EO := compE (compiL (varE 0)) [1] (toN 1) (notB (truthB (callE m_is_order (consA (varE 1) nilA)))) (varE 1)
def L1_is_chain : Gm → SO := (ifS (notB (truthB (callE m_is_step (consA (varE 1) (consA (varE 2) nilA))))) (retS (cE (.bool false))) nilS)
def b_is_chain : Gm → SO := (seqS (ifS (orB (notB (truthB (op1 (gIsi .list) (varE 0)))) (notB (truthB (varE 0)))) (retS (cE (.bool false))) nilS)
  (seqS (ifS (truthB C1_is_chain) (retS (cE (.bool false))) nilS)
  (seqS (forS (iterZ (consA (varE 0) (consA (slE (varE 0) (partS (cE (.int 1))) partN) nilA))) (to2 1 2) L1_is_chain)
  (retS (cE (.bool true))))))
def m_is_chain : List PyData → FO := defM 3 1 b_is_chain
abbrev N_is_chain : List Str := ["value", "order", "following"]
theorem sc_is_chain : FnScope N_is_chain ["value"] (defScope s_is_chain) := ⟨rfl, rfl, rfl, by decide +kernel, rfl, by decide +kernel, by decide +kernel⟩
theorem ok_is_chain {P : Program} {w : World} {K : PySem.W.Frag} {mg : Str → Option Value} {base : Heap} {ct : Nat → Addr} {f : Addr} {fd : FuncData} (F : Fun K "is_chain" "is_chain" s_is_chain f fd) (b_isinstance : mg "isinstance" = none) (b_list : mg "list" = none) (b_zip : mg "zip" = none) (C_is_order : CallT P w K mg base ct "is_order" 2 m_is_order) (C_is_step : CallT P w K mg base ct "is_step" 3 m_is_step) :
    FnOk P w K mg base (L2.CX P w) 4 f fd ["value"] (spM K ct m_is_chain) :=
  have nd := sc_is_chain.nd
  fn_ok (k := 3) F sc_is_chain fun cdv A outer s H E hr tk hp =>
  (ess_cons (es_if (eb_w (ew_or (eb_not (eb_truth (ee_isi .list b_isinstance b_list (by decide +kernel) (ee_var 0)))) (ew_or1 (eb_not (eb_truth (ee_var 0)))))) (ess_one (es_ret ee_bl)) ess_nil)
  (ess_cons (es_if (eb_truth (ee_comp N_is_chain (defScope s_is_chain) [("order", 1)] rfl nd (by decide +kernel) (ec_list (ct := ct) (ee_var 0)) (fun _ _ _ _ _ => (egw_name nd (by decide))) (fun _ _ _ _ _ => (ets_one (eb_not (eb_truth (ee_fn C_is_order hr takes0 (ea_cons (ee_var 1) ea_nil)))))) (fun _ _ _ _ _ => (ee_var 1)))) (ess_one (es_ret ee_bl)) ess_nil)
  (ess_cons (es_for hp rfl (ei_zip b_zip (ea_cons (ee_var 0) (ea_cons (ee_slice (ee_var 0) (eo_some (ct := ct) ee_int) eo_none) ea_nil))) (eg_tup2 rfl nd) (ess_one (es_if (eb_not (eb_truth (ee_fn C_is_step hr tk (ea_cons (ee_var 1) (ea_cons (ee_var 2) ea_nil))))) (ess_one (es_ret ee_bl)) ess_nil)))
  (ess_one (es_ret ee_bl)))))
abbrev s_change_at : Stmt := top 35
def b_change_at : Gm → SO := (seqS (ifS (notB (truthB (callE m_is_chain (consA (varE 0) nilA)))) (raiseS 4) nilS)
  (seqS stuckS
  (seqS stuckS
  (seqS stuckS
  stuckS))))
def m_change_at : List PyData → FO := defM 5 2 b_change_at
abbrev N_change_at : List Str := ["chain", "place", "fitting", "others", "order"]
theorem sc_change_at : FnScope N_change_at ["chain", "place"] (defScope s_change_at) := ⟨rfl, rfl, rfl, by decide +kernel, rfl, by decide +kernel, by decide +kernel⟩
theorem ok_change_at {P : Program} {w : World} {K : PySem.W.Frag} {mg : Str → Option Value} {base : Heap} {ct : Nat → Addr} {f : Addr} {fd : FuncData} (F : Fun K "change_at" "change_at" s_change_at f fd) (C_is_chain : CallT P w K mg base ct "is_chain" 4 m_is_chain) (X_InvalidChain : XcT K mg "InvalidChain" (ct 4)) :
    FnOk P w K mg base (L2.CX P w) 5 f fd ["chain", "place"] (spM K ct m_change_at) :=
  have nd := sc_change_at.nd
  fn_ok (k := 4) F sc_change_at fun cdv A outer s H E hr tk hp =>
  (ess_cons (es_if (eb_not (eb_truth (ee_fn C_is_chain hr tk (ea_cons (ee_var 0) ea_nil)))) (ess_one (es_raise (c := 4) rfl X_InvalidChain tk)) ess_nil)
  (ess_cons es_never
  (ess_cons es_never
  (ess_cons es_never
  (ess_one es_never)))))
abbrev s_chain_road : Stmt := top 36
def L1_chain_road : Gm → SO := (ifS (notB (truthB (callE m_is_chain (consA (varE 2) nilA)))) (raiseS 4) nilS)
def b_chain_road : Gm → SO := (seqS (forS (iterT (tupE (consA (varE 0) (consA (varE 1) nilA)))) (toN 2) L1_chain_road)
  (seqS stuckS
  (seqS stuckS
  (seqS stuckS
  (seqS stuckS
  (seqS stuckS
  (seqS stuckS
  stuckS)))))))
def m_chain_road : List PyData → FO := defM 8 2 b_chain_road
abbrev N_chain_road : List Str := ["one", "other", "chain", "before", "queue", "result", "place", "more"]
theorem sc_chain_road : FnScope N_chain_road ["one", "other"] (defScope s_chain_road) := ⟨rfl, rfl, rfl, by decide +kernel, rfl, by decide +kernel, by decide +kernel⟩
theorem ok_chain_road {P : Program} {w : World} {K : PySem.W.Frag} {mg : Str → Option Value} {base : Heap} {ct : Nat → Addr} {f : Addr} {fd : FuncData} (F : Fun K "chain_road" "chain_road" s_chain_road f fd) (C_is_chain : CallT P w K mg base ct "is_chain" 4 m_is_chain) (X_InvalidChain : XcT K mg "InvalidChain" (ct 4)) :
    FnOk P w K mg base (L2.CX P w) 5 f fd ["one", "other"] (spM K ct m_chain_road) :=
  have nd := sc_chain_road.nd
  fn_ok (k := 4) F sc_chain_road fun cdv A outer s H E hr tk hp =>
  (ess_cons (es_for hp rfl (ei_tup (ee_tup (ea_cons (ee_var 0) (ea_cons (ee_var 1) ea_nil)))) (eg_name nd) (ess_one (es_if (eb_not (eb_truth (ee_fn C_is_chain hr tk (ea_cons (ee_var 2) ea_nil)))) (ess_one (es_raise (c := 4) rfl X_InvalidChain tk)) ess_nil)))
  (ess_cons es_never
  (ess_cons es_never
  (ess_cons es_never
  (ess_cons es_never
  (ess_cons es_never
  (ess_cons es_never
  (ess_one es_never))))))))
abbrev s_check_answers : Stmt := top 39
def C1_check_answers : Gm → EO := compE (compiT (varE 2)) [3] (toN 3) (notB (truthB (callE m_in_range (consA (varE 3) (consA (cE (.int 0)) (consA (varE 0) nilA)))))) (varE 3)
def L1_check_answers : Gm → SO := (seqS (ifS (orB (notB (truthB (op1 (gIsi .tuple) (varE 2)))) (boolB (op2 gNe (op1 gLen (varE 2)) (cE (.int 3))))) (raiseS 5) nilS)
  (ifS (truthB C1_check_answers) (raiseS 5) nilS))
def b_check_answers : Gm → SO := (seqS (ifS (notB (truthB (callE m_in_range (consA (varE 0) (consA (cE (.int 1)) (consA (cE (.int 5)) nilA)))))) (raiseS 3) nilS)
  (seqS (ifS (notB (truthB (op1 (gIsi .tuple) (varE 1)))) (raiseS 5) nilS)
  (forS (iterT (varE 1)) (toN 2) L1_check_answers)))
def m_check_answers : List PyData → FO := defM 4 2 b_check_answers
abbrev N_check_answers : List Str := ["size", "answers", "answer", "part"]
theorem sc_check_answers : FnScope N_check_answers ["size", "answers"] (defScope s_check_answers) := ⟨rfl, rfl, rfl, by decide +kernel, rfl, by decide +kernel, by decide +kernel⟩
theorem ok_check_answers {P : Program} {w : World} {K : PySem.W.Frag} {mg : Str → Option Value} {base : Heap} {ct : Nat → Addr} {f : Addr} {fd : FuncData} (F : Fun K "check_answers" "check_answers" s_check_answers f fd) (b_isinstance : mg "isinstance" = none) (b_tuple : mg "tuple" = none) (b_len : mg "len" = none) {t_MAX_HIDDEN : Tok} (k_MAX_HIDDEN : mg "MAX_HIDDEN" = some (.int 5 t_MAX_HIDDEN)) (C_in_range : CallT P w K mg base ct "in_range" 1 m_in_range) (X_InvalidNumber : XcT K mg "InvalidNumber" (ct 3)) (X_InvalidAnswers : XcT K mg "InvalidAnswers" (ct 5)) :
    FnOk P w K mg base (L2.CX P w) 2 f fd ["size", "answers"] (spM K ct m_check_answers) :=
  have nd := sc_check_answers.nd
  fn_ok (k := 1) F sc_check_answers fun cdv A outer s H E hr tk hp =>
  (ess_cons (es_if (eb_not (eb_truth (ee_fn C_in_range hr tk (ea_cons (ee_var 0) (ea_cons ee_int (ea_cons (ee_glI k_MAX_HIDDEN) ea_nil)))))) (ess_one (es_raise (c := 3) rfl X_InvalidNumber tk)) ess_nil)
  (ess_cons (es_if (eb_not (eb_truth (ee_isi .tuple b_isinstance b_tuple (by decide +kernel) (ee_var 1)))) (ess_one (es_raise (c := 5) rfl X_InvalidAnswers tk)) ess_nil)
  (ess_one (es_for hp rfl (ei_tup (ee_var 1)) (eg_name nd) (ess_cons (es_if (eb_w (ew_or (eb_not (eb_truth (ee_isi .tuple b_isinstance b_tuple (by decide +kernel) (ee_var 2)))) (ew_or1 (eb_cmp (cm_ne hr) (ee_len b_len (ee_var 2)) ee_int)))) (ess_one (es_raise (c := 5) rfl X_InvalidAnswers tk)) ess_nil)
  (ess_one (es_if (eb_truth (ee_comp N_check_answers (defScope s_check_answers) [("part", 3)] rfl nd (by decide +kernel) (ec_tup (ct := ct) (ee_var 2)) (fun _ _ _ _ _ => (egw_name nd (by decide))) (fun _ _ _ _ _ => (ets_one (eb_not (eb_truth (ee_fn C_in_range hr takes0 (ea_cons (ee_var 3) (ea_cons ee_int (ea_cons (ee_var 0) ea_nil)))))))) (fun _ _ _ _ _ => (ee_var 3)))) (ess_one (es_raise (c := 5) rfl X_InvalidAnswers tk)) ess_nil)))))))
abbrev s_candidates : Stmt := top 40
def b_candidates : Gm → SO := (seqS (dropS (callE m_check_answers (consA (varE 0) (consA (varE 1) nilA))))
  (seqS stuckS
  (seqS stuckS
  stuckS)))
def m_candidates : List PyData → FO := defM 7 2 b_candidates
abbrev N_candidates : List Str := ["size", "answers", "result", "order", "first", "value", "count"]
theorem sc_candidates : FnScope N_candidates ["size", "answers"] (defScope s_candidates) := ⟨rfl, rfl, rfl, by decide +kernel, rfl, by decide +kernel, by decide +kernel⟩
theorem ok_candidates {P : Program} {w : World} {K : PySem.W.Frag} {mg : Str → Option Value} {base : Heap} {ct : Nat → Addr} {f : Addr} {fd : FuncData} (F : Fun K "candidates" "candidates" s_candidates f fd) (C_check_answers : CallT P w K mg base ct "check_answers" 2 m_check_answers) :
    FnOk P w K mg base (L2.CX P w) 3 f fd ["size", "answers"] (spM K ct m_candidates) :=
  have nd := sc_candidates.nd
  fn_ok (k := 2) F sc_candidates fun cdv A outer s H E hr tk hp =>
  (ess_cons (es_expr (ee_fn C_check_answers hr tk (ea_cons (ee_var 0) (ea_cons (ee_var 1) ea_nil))))
  (ess_cons es_never
  (ess_cons es_never
  (ess_one es_never))))
abbrev s_best_question : Stmt := top 41
def b_best_question : Gm → SO := (seqS (asgS 2 (callE m_candidates (consA (varE 0) (consA (varE 1) nilA))))
  (seqS stuckS
  (seqS stuckS
  (seqS stuckS
  stuckS))))
def m_best_question : List PyData → FO := defM 10 2 b_best_question
abbrev N_best_question : List Str := ["size", "answers", "found", "best", "first", "value", "here", "worst", "order", "count"]
theorem sc_best_question : FnScope N_best_question ["size", "answers"] (defScope s_best_question) := ⟨rfl, rfl, rfl, by decide +kernel, rfl, by decide +kernel, by decide +kernel⟩
theorem ok_best_question {P : Program} {w : World} {K : PySem.W.Frag} {mg : Str → Option Value} {base : Heap} {ct : Nat → Addr} {f : Addr} {fd : FuncData} (F : Fun K "best_question" "best_question" s_best_question f fd) (C_candidates : CallT P w K mg base ct "candidates" 3 m_candidates) :
    FnOk P w K mg base (L2.CX P w) 4 f fd ["size", "answers"] (spM K ct m_best_question) :=
  have nd := sc_best_question.nd
  fn_ok (k := 3) F sc_best_question fun cdv A outer s H E hr tk hp =>
  (ess_cons (es_asg (ee_fn C_candidates hr tk (ea_cons (ee_var 0) (ea_cons (ee_var 1) ea_nil))) nd)
  (ess_cons es_never
  (ess_cons es_never
  (ess_cons es_never
  (ess_one es_never)))))
abbrev s_is_pattern_at : Stmt := top 45
def b_is_pattern_at : Gm → SO := (seqS (dropS (callE m_check_order (consA (varE 0) nilA)))
  (seqS stuckS
  (seqS stuckS
  stuckS)))
def m_is_pattern_at : List PyData → FO := defM 3 2 b_is_pattern_at
abbrev N_is_pattern_at : List Str := ["order", "value", "place"]
theorem sc_is_pattern_at : FnScope N_is_pattern_at ["order", "value"] (defScope s_is_pattern_at) := ⟨rfl, rfl, rfl, by decide +kernel, rfl, by decide +kernel, by decide +kernel⟩
theorem ok_is_pattern_at {P : Program} {w : World} {K : PySem.W.Frag} {mg : Str → Option Value} {base : Heap} {ct : Nat → Addr} {f : Addr} {fd : FuncData} (F : Fun K "is_pattern_at" "is_pattern_at" s_is_pattern_at f fd) (C_check_order : CallT P w K mg base ct "check_order" 3 m_check_order) :
    FnOk P w K mg base (L2.CX P w) 4 f fd ["order", "value"] (spM K ct m_is_pattern_at) :=
  have nd := sc_is_pattern_at.nd
  fn_ok (k := 3) F sc_is_pattern_at fun cdv A outer s H E hr tk hp =>
  (ess_cons (es_expr (ee_fn C_check_order hr tk (ea_cons (ee_var 0) ea_nil)))
  (ess_cons es_never
  (ess_cons es_never
  (ess_one es_never))))
abbrev s__law_cell : Stmt := top 47
def b__law_cell : Gm → SO := (seqS (ifS (boolB (op2 (gInt iLt) (varE 1) (op1 gLen (varE 0)))) (retS (op2 gIx (varE 0) (varE 1))) nilS)
  (retS (cE (.int 0))))
def m__law_cell : List PyData → FO := defM 2 2 b__law_cell
abbrev N__law_cell : List Str := ["script", "k"]
theorem sc__law_cell : FnScope N__law_cell ["script", "k"] (defScope s__law_cell) := ⟨rfl, rfl, rfl, by decide +kernel, rfl, by decide +kernel, by decide +kernel⟩
theorem ok__law_cell {P : Program} {w : World} {K : PySem.W.Frag} {mg : Str → Option Value} {base : Heap} {ct : Nat → Addr} {f : Addr} {fd : FuncData} (F : Fun K "_law_cell" "_law_cell" s__law_cell f fd) (b_len : mg "len" = none) :
    FnOk P w K mg base (L2.CX P w) 1 f fd ["script", "k"] (spM K ct m__law_cell) :=
  have nd := sc__law_cell.nd
  fn_ok (k := 0) F sc__law_cell fun cdv A outer s H E hr tk hp =>
  (ess_cons (es_if (eb_cmp cm_lt (ee_var 1) (ee_len b_len (ee_var 0))) (ess_one (es_ret (ee_ix (ee_var 0) (ee_var 1)))) ess_nil)
  (ess_one (es_ret ee_int)))
abbrev s__law_asked : Stmt := top 48
def b__law_asked : Gm → SO := (seqS (ifS (boolB (op2 gEq (varE 0) (cE (.int 0)))) (retS (callE m_great_count (consA (varE 1) (consA (varE 1) (consA (varE 1) nilA))))) nilS)
  (seqS (ifS (boolB (op2 gEq (varE 0) (cE (.int 1)))) (retS (callE m_is_below (consA (varE 1) (consA (varE 1) nilA)))) nilS)
  (seqS (ifS (boolB (op2 gEq (varE 0) (cE (.int 2)))) (retS (callE m_paper (consA (varE 1) (consA (varE 1) nilA)))) nilS)
  (seqS (ifS (boolB (op2 gEq (varE 0) (cE (.int 3)))) (retS (callE m_is_paper (consA (tupE (consA (cE (.int 0)) (consA (cE (.int 1)) nilA))) (consA (varE 1) (consA (varE 1) nilA))))) nilS)
  (seqS (ifS (boolB (op2 gEq (varE 0) (cE (.int 4)))) (retS (callE m_way_up (consA (tupE (consA (cE (.int 1)) (consA (cE (.int 0)) nilA))) (consA (varE 1) nilA)))) nilS)
  (seqS (ifS (boolB (op2 gEq (varE 0) (cE (.int 5)))) (retS (callE m_between (consA (tupE (consA (cE (.int 1)) (consA (cE (.int 0)) nilA))) (consA (varE 1) nilA)))) nilS)
  (seqS (ifS (boolB (op2 gEq (varE 0) (cE (.int 6)))) (retS (callE m_change_at (consA (varE 1) (consA (varE 1) nilA)))) nilS)
  (seqS (ifS (boolB (op2 gEq (varE 0) (cE (.int 7)))) (retS (callE m_chain_road (consA (varE 1) (consA (varE 1) nilA)))) nilS)
  (seqS (ifS (boolB (op2 gEq (varE 0) (cE (.int 8)))) (retS (callE m_candidates (consA (varE 1) (consA (varE 1) nilA)))) nilS)
  (seqS (ifS (boolB (op2 gEq (varE 0) (cE (.int 9)))) (retS (callE m_best_question (consA (varE 1) (consA (varE 1) nilA)))) nilS)
  (seqS (ifS (boolB (op2 gEq (varE 0) (cE (.int 10)))) (retS (callE m_great_count (consA (tupE (consA (cE (.int 0)) (consA (cE (.int 1)) nilA))) (consA (varE 1) (consA (varE 1) nilA))))) nilS)
  (retS (callE m_is_pattern_at (consA (varE 1) (consA (varE 1) nilA)))))))))))))))
def m__law_asked : List PyData → FO := defM 2 2 b__law_asked
abbrev N__law_asked : List Str := ["mode", "odd"]
theorem sc__law_asked : FnScope N__law_asked ["mode", "odd"] (defScope s__law_asked) := ⟨rfl, rfl, rfl, by decide +kernel, rfl, by decide +kernel, by decide +kernel⟩
theorem ok__law_asked {P : Program} {w : World} {K : PySem.W.Frag} {mg : Str → Option Value} {base : Heap} {ct : Nat → Addr} {f : Addr} {fd : FuncData} (F : Fun K "_law_asked" "_law_asked" s__law_asked f fd) (C_great_count : CallT P w K mg base ct "great_count" 4 m_great_count) (C_is_below : CallT P w K mg base ct "is_below" 5 m_is_below) (C_paper : CallT P w K mg base ct "paper" 5 m_paper) (C_is_paper : CallT P w K mg base ct "is_paper" 5 m_is_paper) (C_way_up : CallT P w K mg base ct "way_up" 5 m_way_up) (C_between : CallT P w K mg base ct "between" 6 m_between) (C_change_at : CallT P w K mg base ct "change_at" 5 m_change_at) (C_chain_road : CallT P w K mg base ct "chain_road" 5 m_chain_road) (C_candidates : CallT P w K mg base ct "candidates" 3 m_candidates) (C_best_question : CallT P w K mg base ct "best_question" 4 m_best_question) (C_is_pattern_at : CallT P w K mg base ct "is_pattern_at" 4 m_is_pattern_at) :
    FnOk P w K mg base (L2.CX P w) 7 f fd ["mode", "odd"] (spM K ct m__law_asked) :=
  have nd := sc__law_asked.nd
  fn_ok (k := 6) F sc__law_asked fun cdv A outer s H E hr tk hp =>
  (ess_cons (es_if (eb_cmp (cm_eq hr) (ee_var 0) ee_int) (ess_one (es_ret (ee_fn C_great_count hr tk (ea_cons (ee_var 1) (ea_cons (ee_var 1) (ea_cons (ee_var 1) ea_nil)))))) ess_nil)
  (ess_cons (es_if (eb_cmp (cm_eq hr) (ee_var 0) ee_int) (ess_one (es_ret (ee_fn C_is_below hr tk (ea_cons (ee_var 1) (ea_cons (ee_var 1) ea_nil))))) ess_nil)
  (ess_cons (es_if (eb_cmp (cm_eq hr) (ee_var 0) ee_int) (ess_one (es_ret (ee_fn C_paper hr tk (ea_cons (ee_var 1) (ea_cons (ee_var 1) ea_nil))))) ess_nil)
  (ess_cons (es_if (eb_cmp (cm_eq hr) (ee_var 0) ee_int) (ess_one (es_ret (ee_fn C_is_paper hr tk (ea_cons (ee_tup (ea_cons ee_int (ea_cons ee_int ea_nil))) (ea_cons (ee_var 1) (ea_cons (ee_var 1) ea_nil)))))) ess_nil)
  (ess_cons (es_if (eb_cmp (cm_eq hr) (ee_var 0) ee_int) (ess_one (es_ret (ee_fn C_way_up hr tk (ea_cons (ee_tup (ea_cons ee_int (ea_cons ee_int ea_nil))) (ea_cons (ee_var 1) ea_nil))))) ess_nil)
  (ess_cons (es_if (eb_cmp (cm_eq hr) (ee_var 0) ee_int) (ess_one (es_ret (ee_fn C_between hr tk (ea_cons (ee_tup (ea_cons ee_int (ea_cons ee_int ea_nil))) (ea_cons (ee_var 1) ea_nil))))) ess_nil)
  (ess_cons (es_if (eb_cmp (cm_eq hr) (ee_var 0) ee_int) (ess_one (es_ret (ee_fn C_change_at hr tk (ea_cons (ee_var 1) (ea_cons (ee_var 1) ea_nil))))) ess_nil)
  (ess_cons (es_if (eb_cmp (cm_eq hr) (ee_var 0) ee_int) (ess_one (es_ret (ee_fn C_chain_road hr tk (ea_cons (ee_var 1) (ea_cons (ee_var 1) ea_nil))))) ess_nil)
  (ess_cons (es_if (eb_cmp (cm_eq hr) (ee_var 0) ee_int) (ess_one (es_ret (ee_fn C_candidates hr tk (ea_cons (ee_var 1) (ea_cons (ee_var 1) ea_nil))))) ess_nil)
  (ess_cons (es_if (eb_cmp (cm_eq hr) (ee_var 0) ee_int) (ess_one (es_ret (ee_fn C_best_question hr tk (ea_cons (ee_var 1) (ea_cons (ee_var 1) ea_nil))))) ess_nil)
  (ess_cons (es_if (eb_cmp (cm_eq hr) (ee_var 0) ee_int) (ess_one (es_ret (ee_fn C_great_count hr tk (ea_cons (ee_tup (ea_cons ee_int (ea_cons ee_int ea_nil))) (ea_cons (ee_var 1) (ea_cons (ee_var 1) ea_nil)))))) ess_nil)
  (ess_one (es_ret (ee_fn C_is_pattern_at hr tk (ea_cons (ee_var 1) (ea_cons (ee_var 1) ea_nil))))))))))))))))
abbrev s_law : Stmt := top 49
def T1_law : Gm → SO := (seqS (asgS 4 (lstE (consA (cE (.bool true)) (consA (cE (.bool false)) (consA (cE (.bool false)) nilA))))) (seqS (asgS 4 (op2 gAdd (varE 4) (lstE (consA (cE (.bool false)) (consA (cE (.bool false)) (consA (cE (.bool false)) nilA)))))) (asgS 4 (op2 gAdd (varE 4) (lstE (consA (cE (.bool false)) (consA (cE (.bool false)) (consA (cE (.bool false)) nilA))))))))
def T2_law : Gm → SO := (seqS (asgS 4 (lstE (consA (cE (.bool false)) (consA (cE (.bool true)) (consA (cE (.bool false)) nilA))))) (seqS (asgS 4 (op2 gAdd (varE 4) (lstE (consA (cE (.bool false)) (consA (cE (.bool false)) (consA (cE (.bool false)) nilA)))))) (asgS 4 (op2 gAdd (varE 4) (lstE (consA (cE (.bool false)) (consA (cE (.bool false)) (consA (cE (.bool false)) nilA))))))))
def T3_law : Gm → SO := (seqS (asgS 4 (lstE (consA (cE (.bool false)) (consA (cE (.bool false)) (consA (cE (.bool true)) nilA))))) (seqS (asgS 4 (op2 gAdd (varE 4) (lstE (consA (cE (.bool false)) (consA (cE (.bool false)) (consA (cE (.bool false)) nilA)))))) (asgS 4 (op2 gAdd (varE 4) (lstE (consA (cE (.bool false)) (consA (cE (.bool false)) (consA (cE (.bool false)) nilA))))))))
def T4_law : Gm → SO := (seqS (asgS 4 (lstE (consA (cE (.bool false)) (consA (cE (.bool false)) (consA (cE (.bool false)) nilA))))) (seqS (asgS 4 (op2 gAdd (varE 4) (lstE (consA (cE (.bool true)) (consA (cE (.bool false)) (consA (cE (.bool false)) nilA)))))) (asgS 4 (op2 gAdd (varE 4) (lstE (consA (cE (.bool false)) (consA (cE (.bool false)) (consA (cE (.bool false)) nilA))))))))
def T5_law : Gm → SO := (seqS (asgS 4 (lstE (consA (cE (.bool false)) (consA (cE (.bool false)) (consA (cE (.bool false)) nilA))))) (seqS (asgS 4 (op2 gAdd (varE 4) (lstE (consA (cE (.bool false)) (consA (cE (.bool true)) (consA (cE (.bool false)) nilA)))))) (asgS 4 (op2 gAdd (varE 4) (lstE (consA (cE (.bool false)) (consA (cE (.bool false)) (consA (cE (.bool false)) nilA))))))))
def T6_law : Gm → SO := (seqS (asgS 4 (lstE (consA (cE (.bool false)) (consA (cE (.bool false)) (consA (cE (.bool false)) nilA))))) (seqS (asgS 4 (op2 gAdd (varE 4) (lstE (consA (cE (.bool false)) (consA (cE (.bool false)) (consA (cE (.bool true)) nilA)))))) (asgS 4 (op2 gAdd (varE 4) (lstE (consA (cE (.bool false)) (consA (cE (.bool false)) (consA (cE (.bool false)) nilA))))))))
def T7_law : Gm → SO := (seqS (asgS 4 (lstE (consA (cE (.bool false)) (consA (cE (.bool false)) (consA (cE (.bool false)) nilA))))) (seqS (asgS 4 (op2 gAdd (varE 4) (lstE (consA (cE (.bool false)) (consA (cE (.bool false)) (consA (cE (.bool false)) nilA)))))) (asgS 4 (op2 gAdd (varE 4) (lstE (consA (cE (.bool false)) (consA (cE (.bool false)) (consA (cE (.bool true)) nilA))))))))
def T8_law : Gm → SO := (dropS (callE m__law_asked (consA (varE 1) (consA (varE 2) nilA))))
def C1_law : Gm → EO := compE (compO (rg1 (cE (.int 9)))) [6] (toN 6) yesB (op2 gEq (varE 6) (varE 3))
def b_law : Gm → SO := (seqS (asgS 1 (op2 (gInt iMod) (callE m__law_cell (consA (varE 0) (consA (cE (.int 0)) nilA))) (cE (.int 12))))
  (seqS (asgS 2 (op2 gIx (lstE (consA (cE .none) (consA (cE (.str "x")) (consA (lstE (consA (cE (.int 7)) nilA)) (consA (cE (.int (-5))) nilA))))) (op2 (gInt iMod) (callE m__law_cell (consA (varE 0) (consA (cE (.int 1)) nilA))) (cE (.int 4)))))
  (seqS (asgS 3 (op2 gIx (lstE (consA (cE (.int 0)) (consA (cE (.int 0)) (consA (cE (.int 0)) (consA (cE (.int 0)) (consA (cE (.int 0)) (consA (cE (.int 0)) (consA (cE (.int 2)) (consA (cE (.int 2)) (consA (cE (.int 1)) (consA (cE (.int 1)) (consA (cE (.int 1)) (consA (cE (.int 0)) nilA))))))))))))) (varE 1)))
  (seqS (asgS 4 (lstE nilA))
  (seqS (tryGS 5 [(2, T1_law), (3, T2_law), (4, T3_law), (5, T4_law), (6, T5_law), (7, T6_law), (10, T7_law)] T8_law)
  (retS (op2 gEq (varE 4) C1_law)))))))
def m_law : List PyData → FO := defM 7 1 b_law
abbrev N_law : List Str := ["script", "mode", "odd", "wanted", "found", "e", "at"]
theorem sc_law : FnScope N_law ["script"] (defScope s_law) := ⟨rfl, rfl, rfl, by decide +kernel, rfl, by decide +kernel, by decide +kernel⟩
theorem ok_law {P : Program} {w : World} {K : PySem.W.Frag} {mg : Str → Option Value} {base : Heap} {ct : Nat → Addr} {f : Addr} {fd : FuncData} (F : Fun K "law" "law" s_law f fd) (b_isinstance : mg "isinstance" = none) (b_range : mg "range" = none) (C__law_cell : CallT P w K mg base ct "_law_cell" 1 m__law_cell) (C__law_asked : CallT P w K mg base ct "_law_asked" 7 m__law_asked) (n_OrderError : mg "OrderError" = some (.ref (ct 0))) (n_InvalidChain : mg "InvalidChain" = some (.ref (ct 4))) (n_InvalidNumber : mg "InvalidNumber" = some (.ref (ct 3))) (n_InvalidOrder : mg "InvalidOrder" = some (.ref (ct 2))) (n_Below : mg "Below" = some (.ref (ct 7))) (n_NotBelow : mg "NotBelow" = some (.ref (ct 6))) (n_InvalidAnswers : mg "InvalidAnswers" = some (.ref (ct 5))) (n_TooMany : mg "TooMany" = some (.ref (ct 10))) (n_CannotExchange : mg "CannotExchange" = some (.ref (ct 9))) (n_IsEven : mg "IsEven" = some (.ref (ct 8))) (xm_InvalidOrder_OrderError : PySem.W.exmOne K (.ref (ct 2)) (.ref (ct 0)) = some true) (xm_InvalidNumber_OrderError : PySem.W.exmOne K (.ref (ct 3)) (.ref (ct 0)) = some true) (xm_InvalidChain_OrderError : PySem.W.exmOne K (.ref (ct 4)) (.ref (ct 0)) = some true) (xm_InvalidAnswers_OrderError : PySem.W.exmOne K (.ref (ct 5)) (.ref (ct 0)) = some true) (xm_NotBelow_OrderError : PySem.W.exmOne K (.ref (ct 6)) (.ref (ct 0)) = some true) (xm_Below_OrderError : PySem.W.exmOne K (.ref (ct 7)) (.ref (ct 0)) = some true) (xm_TooMany_OrderError : PySem.W.exmOne K (.ref (ct 10)) (.ref (ct 0)) = some true) (kt_InvalidOrder_InvalidChain : PySem.W.kitOne K (.ref (ct 2)) (.ref (ct 4)) = some false) (kt_InvalidOrder_InvalidNumber : PySem.W.kitOne K (.ref (ct 2)) (.ref (ct 3)) = some false) (kt_InvalidOrder_InvalidOrder : PySem.W.kitOne K (.ref (ct 2)) (.ref (ct 2)) = some true) (kt_InvalidOrder_Below : PySem.W.kitOne K (.ref (ct 2)) (.ref (ct 7)) = some false) (kt_InvalidOrder_NotBelow : PySem.W.kitOne K (.ref (ct 2)) (.ref (ct 6)) = some false) (kt_InvalidOrder_InvalidAnswers : PySem.W.kitOne K (.ref (ct 2)) (.ref (ct 5)) = some false) (kt_InvalidOrder_TooMany : PySem.W.kitOne K (.ref (ct 2)) (.ref (ct 10)) = some false) (kt_InvalidOrder_CannotExchange : PySem.W.kitOne K (.ref (ct 2)) (.ref (ct 9)) = some false) (kt_InvalidOrder_IsEven : PySem.W.kitOne K (.ref (ct 2)) (.ref (ct 8)) = some false) (kt_InvalidNumber_InvalidChain : PySem.W.kitOne K (.ref (ct 3)) (.ref (ct 4)) = some false) (kt_InvalidNumber_InvalidNumber : PySem.W.kitOne K (.ref (ct 3)) (.ref (ct 3)) = some true) (kt_InvalidNumber_InvalidOrder : PySem.W.kitOne K (.ref (ct 3)) (.ref (ct 2)) = some false) (kt_InvalidNumber_Below : PySem.W.kitOne K (.ref (ct 3)) (.ref (ct 7)) = some false) (kt_InvalidNumber_NotBelow : PySem.W.kitOne K (.ref (ct 3)) (.ref (ct 6)) = some false) (kt_InvalidNumber_InvalidAnswers : PySem.W.kitOne K (.ref (ct 3)) (.ref (ct 5)) = some false) (kt_InvalidNumber_TooMany : PySem.W.kitOne K (.ref (ct 3)) (.ref (ct 10)) = some false) (kt_InvalidNumber_CannotExchange : PySem.W.kitOne K (.ref (ct 3)) (.ref (ct 9)) = some false) (kt_InvalidNumber_IsEven : PySem.W.kitOne K (.ref (ct 3)) (.ref (ct 8)) = some false) (kt_InvalidChain_InvalidChain : PySem.W.kitOne K (.ref (ct 4)) (.ref (ct 4)) = some true) (kt_InvalidChain_InvalidNumber : PySem.W.kitOne K (.ref (ct 4)) (.ref (ct 3)) = some false) (kt_InvalidChain_InvalidOrder : PySem.W.kitOne K (.ref (ct 4)) (.ref (ct 2)) = some false) (kt_InvalidChain_Below : PySem.W.kitOne K (.ref (ct 4)) (.ref (ct 7)) = some false) (kt_InvalidChain_NotBelow : PySem.W.kitOne K (.ref (ct 4)) (.ref (ct 6)) = some false) (kt_InvalidChain_InvalidAnswers : PySem.W.kitOne K (.ref (ct 4)) (.ref (ct 5)) = some false) (kt_InvalidChain_TooMany : PySem.W.kitOne K (.ref (ct 4)) (.ref (ct 10)) = some false) (kt_InvalidChain_CannotExchange : PySem.W.kitOne K (.ref (ct 4)) (.ref (ct 9)) = some false) (kt_InvalidChain_IsEven : PySem.W.kitOne K (.ref (ct 4)) (.ref (ct 8)) = some false) (kt_InvalidAnswers_InvalidChain : PySem.W.kitOne K (.ref (ct 5)) (.ref (ct 4)) = some false) (kt_InvalidAnswers_InvalidNumber : PySem.W.kitOne K (.ref (ct 5)) (.ref (ct 3)) = some false) (kt_InvalidAnswers_InvalidOrder : PySem.W.kitOne K (.ref (ct 5)) (.ref (ct 2)) = some false) (kt_InvalidAnswers_Below : PySem.W.kitOne K (.ref (ct 5)) (.ref (ct 7)) = some false) (kt_InvalidAnswers_NotBelow : PySem.W.kitOne K (.ref (ct 5)) (.ref (ct 6)) = some false) (kt_InvalidAnswers_InvalidAnswers : PySem.W.kitOne K (.ref (ct 5)) (.ref (ct 5)) = some true) (kt_InvalidAnswers_TooMany : PySem.W.kitOne K (.ref (ct 5)) (.ref (ct 10)) = some false) (kt_InvalidAnswers_CannotExchange : PySem.W.kitOne K (.ref (ct 5)) (.ref (ct 9)) = some false) (kt_InvalidAnswers_IsEven : PySem.W.kitOne K (.ref (ct 5)) (.ref (ct 8)) = some false) (kt_NotBelow_InvalidChain : PySem.W.kitOne K (.ref (ct 6)) (.ref (ct 4)) = some false) (kt_NotBelow_InvalidNumber : PySem.W.kitOne K (.ref (ct 6)) (.ref (ct 3)) = some false) (kt_NotBelow_InvalidOrder : PySem.W.kitOne K (.ref (ct 6)) (.ref (ct 2)) = some false) (kt_NotBelow_Below : PySem.W.kitOne K (.ref (ct 6)) (.ref (ct 7)) = some false) (kt_NotBelow_NotBelow : PySem.W.kitOne K (.ref (ct 6)) (.ref (ct 6)) = some true) (kt_NotBelow_InvalidAnswers : PySem.W.kitOne K (.ref (ct 6)) (.ref (ct 5)) = some false) (kt_NotBelow_TooMany : PySem.W.kitOne K (.ref (ct 6)) (.ref (ct 10)) = some false) (kt_NotBelow_CannotExchange : PySem.W.kitOne K (.ref (ct 6)) (.ref (ct 9)) = some false) (kt_NotBelow_IsEven : PySem.W.kitOne K (.ref (ct 6)) (.ref (ct 8)) = some false) (kt_Below_InvalidChain : PySem.W.kitOne K (.ref (ct 7)) (.ref (ct 4)) = some false) (kt_Below_InvalidNumber : PySem.W.kitOne K (.ref (ct 7)) (.ref (ct 3)) = some false) (kt_Below_InvalidOrder : PySem.W.kitOne K (.ref (ct 7)) (.ref (ct 2)) = some false) (kt_Below_Below : PySem.W.kitOne K (.ref (ct 7)) (.ref (ct 7)) = some true) (kt_Below_NotBelow : PySem.W.kitOne K (.ref (ct 7)) (.ref (ct 6)) = some false) (kt_Below_InvalidAnswers : PySem.W.kitOne K (.ref (ct 7)) (.ref (ct 5)) = some false) (kt_Below_TooMany : PySem.W.kitOne K (.ref (ct 7)) (.ref (ct 10)) = some false) (kt_Below_CannotExchange : PySem.W.kitOne K (.ref (ct 7)) (.ref (ct 9)) = some false) (kt_Below_IsEven : PySem.W.kitOne K (.ref (ct 7)) (.ref (ct 8)) = some false) (kt_TooMany_InvalidChain : PySem.W.kitOne K (.ref (ct 10)) (.ref (ct 4)) = some false) (kt_TooMany_InvalidNumber : PySem.W.kitOne K (.ref (ct 10)) (.ref (ct 3)) = some false) (kt_TooMany_InvalidOrder : PySem.W.kitOne K (.ref (ct 10)) (.ref (ct 2)) = some false) (kt_TooMany_Below : PySem.W.kitOne K (.ref (ct 10)) (.ref (ct 7)) = some false) (kt_TooMany_NotBelow : PySem.W.kitOne K (.ref (ct 10)) (.ref (ct 6)) = some false) (kt_TooMany_InvalidAnswers : PySem.W.kitOne K (.ref (ct 10)) (.ref (ct 5)) = some false) (kt_TooMany_TooMany : PySem.W.kitOne K (.ref (ct 10)) (.ref (ct 10)) = some true) (kt_TooMany_CannotExchange : PySem.W.kitOne K (.ref (ct 10)) (.ref (ct 9)) = some false) (kt_TooMany_IsEven : PySem.W.kitOne K (.ref (ct 10)) (.ref (ct 8)) = some false) (ec_InvalidOrder : ExcC K (ct 2)) (ec_InvalidNumber : ExcC K (ct 3)) (ec_InvalidChain : ExcC K (ct 4)) (ec_InvalidAnswers : ExcC K (ct 5)) (ec_NotBelow : ExcC K (ct 6)) (ec_Below : ExcC K (ct 7)) (ec_TooMany : ExcC K (ct 10)) :
    FnOk P w K mg base (L2.CX P w) 8 f fd ["script"] (spM K ct m_law) :=
  have nd := sc_law.nd
  fn_ok (k := 7) F sc_law fun cdv A outer s H E hr tk hp =>
  (ess_cons (es_asg (ee_mod (ee_fn C__law_cell hr tk (ea_cons (ee_var 0) (ea_cons ee_int ea_nil))) ee_int) nd)
  (ess_cons (es_asg (ee_ix (ee_lst (ea_cons ee_non (ea_cons ee_str (ea_cons (ee_lst (ea_cons ee_int ea_nil)) (ea_cons ee_neg ea_nil))))) (ee_mod (ee_fn C__law_cell hr tk (ea_cons (ee_var 0) (ea_cons ee_int ea_nil))) ee_int)) nd)
  (ess_cons (es_asg (ee_ix (ee_lst (ea_cons ee_int (ea_cons ee_int (ea_cons ee_int (ea_cons ee_int (ea_cons ee_int (ea_cons ee_int (ea_cons ee_int (ea_cons ee_int (ea_cons ee_int (ea_cons ee_int (ea_cons ee_int (ea_cons ee_int ea_nil))))))))))))) (ee_var 1)) nd)
  (ess_cons (es_asg (ee_lst ea_nil) nd)
  (ess_cons (es_tryG rfl rfl nd rfl rfl (fun W pn xe tk hp => (ess_one (es_expr (ee_fn C__law_asked hr tk (ea_cons (ee_var 1) (ea_cons (ee_var 2) ea_nil)))))) (Clauses.cons ⟨rfl, by decide, .inl n_OrderError⟩ (clG_ok (ct := ct) (i := 5) (f := [(2, T1_law), (3, T2_law), (4, T3_law), (5, T4_law), (6, T5_law), (7, T6_law), (10, T7_law)]) (EvG.cons (fun a oe pn hz hf => (essi_cons (esi_asg (eei_lst (eai_cons (eei_is true ec_InvalidOrder hz hf kt_InvalidOrder_InvalidOrder b_isinstance n_InvalidOrder) (eai_cons (eei_is false ec_InvalidOrder hz hf kt_InvalidOrder_InvalidNumber b_isinstance n_InvalidNumber) (eai_cons (eei_is false ec_InvalidOrder hz hf kt_InvalidOrder_InvalidChain b_isinstance n_InvalidChain) eai_nil)))) nd (by decide)) (essi_cons (esi_asg (eei_add (eei_of (ee_var 4)) (eei_lst (eai_cons (eei_is false ec_InvalidOrder hz hf kt_InvalidOrder_InvalidAnswers b_isinstance n_InvalidAnswers) (eai_cons (eei_is false ec_InvalidOrder hz hf kt_InvalidOrder_NotBelow b_isinstance n_NotBelow) (eai_cons (eei_is false ec_InvalidOrder hz hf kt_InvalidOrder_Below b_isinstance n_Below) eai_nil))))) nd (by decide)) (essi_one (esi_asg (eei_add (eei_of (ee_var 4)) (eei_lst (eai_cons (eei_is false ec_InvalidOrder hz hf kt_InvalidOrder_IsEven b_isinstance n_IsEven) (eai_cons (eei_is false ec_InvalidOrder hz hf kt_InvalidOrder_CannotExchange b_isinstance n_CannotExchange) (eai_cons (eei_is false ec_InvalidOrder hz hf kt_InvalidOrder_TooMany b_isinstance n_TooMany) eai_nil))))) nd (by decide)))))) (EvG.cons (fun a oe pn hz hf => (essi_cons (esi_asg (eei_lst (eai_cons (eei_is false ec_InvalidNumber hz hf kt_InvalidNumber_InvalidOrder b_isinstance n_InvalidOrder) (eai_cons (eei_is true ec_InvalidNumber hz hf kt_InvalidNumber_InvalidNumber b_isinstance n_InvalidNumber) (eai_cons (eei_is false ec_InvalidNumber hz hf kt_InvalidNumber_InvalidChain b_isinstance n_InvalidChain) eai_nil)))) nd (by decide)) (essi_cons (esi_asg (eei_add (eei_of (ee_var 4)) (eei_lst (eai_cons (eei_is false ec_InvalidNumber hz hf kt_InvalidNumber_InvalidAnswers b_isinstance n_InvalidAnswers) (eai_cons (eei_is false ec_InvalidNumber hz hf kt_InvalidNumber_NotBelow b_isinstance n_NotBelow) (eai_cons (eei_is false ec_InvalidNumber hz hf kt_InvalidNumber_Below b_isinstance n_Below) eai_nil))))) nd (by decide)) (essi_one (esi_asg (eei_add (eei_of (ee_var 4)) (eei_lst (eai_cons (eei_is false ec_InvalidNumber hz hf kt_InvalidNumber_IsEven b_isinstance n_IsEven) (eai_cons (eei_is false ec_InvalidNumber hz hf kt_InvalidNumber_CannotExchange b_isinstance n_CannotExchange) (eai_cons (eei_is false ec_InvalidNumber hz hf kt_InvalidNumber_TooMany b_isinstance n_TooMany) eai_nil))))) nd (by decide)))))) (EvG.cons (fun a oe pn hz hf => (essi_cons (esi_asg (eei_lst (eai_cons (eei_is false ec_InvalidChain hz hf kt_InvalidChain_InvalidOrder b_isinstance n_InvalidOrder) (eai_cons (eei_is false ec_InvalidChain hz hf kt_InvalidChain_InvalidNumber b_isinstance n_InvalidNumber) (eai_cons (eei_is true ec_InvalidChain hz hf kt_InvalidChain_InvalidChain b_isinstance n_InvalidChain) eai_nil)))) nd (by decide)) (essi_cons (esi_asg (eei_add (eei_of (ee_var 4)) (eei_lst (eai_cons (eei_is false ec_InvalidChain hz hf kt_InvalidChain_InvalidAnswers b_isinstance n_InvalidAnswers) (eai_cons (eei_is false ec_InvalidChain hz hf kt_InvalidChain_NotBelow b_isinstance n_NotBelow) (eai_cons (eei_is false ec_InvalidChain hz hf kt_InvalidChain_Below b_isinstance n_Below) eai_nil))))) nd (by decide)) (essi_one (esi_asg (eei_add (eei_of (ee_var 4)) (eei_lst (eai_cons (eei_is false ec_InvalidChain hz hf kt_InvalidChain_IsEven b_isinstance n_IsEven) (eai_cons (eei_is false ec_InvalidChain hz hf kt_InvalidChain_CannotExchange b_isinstance n_CannotExchange) (eai_cons (eei_is false ec_InvalidChain hz hf kt_InvalidChain_TooMany b_isinstance n_TooMany) eai_nil))))) nd (by decide)))))) (EvG.cons (fun a oe pn hz hf => (essi_cons (esi_asg (eei_lst (eai_cons (eei_is false ec_InvalidAnswers hz hf kt_InvalidAnswers_InvalidOrder b_isinstance n_InvalidOrder) (eai_cons (eei_is false ec_InvalidAnswers hz hf kt_InvalidAnswers_InvalidNumber b_isinstance n_InvalidNumber) (eai_cons (eei_is false ec_InvalidAnswers hz hf kt_InvalidAnswers_InvalidChain b_isinstance n_InvalidChain) eai_nil)))) nd (by decide)) (essi_cons (esi_asg (eei_add (eei_of (ee_var 4)) (eei_lst (eai_cons (eei_is true ec_InvalidAnswers hz hf kt_InvalidAnswers_InvalidAnswers b_isinstance n_InvalidAnswers) (eai_cons (eei_is false ec_InvalidAnswers hz hf kt_InvalidAnswers_NotBelow b_isinstance n_NotBelow) (eai_cons (eei_is false ec_InvalidAnswers hz hf kt_InvalidAnswers_Below b_isinstance n_Below) eai_nil))))) nd (by decide)) (essi_one (esi_asg (eei_add (eei_of (ee_var 4)) (eei_lst (eai_cons (eei_is false ec_InvalidAnswers hz hf kt_InvalidAnswers_IsEven b_isinstance n_IsEven) (eai_cons (eei_is false ec_InvalidAnswers hz hf kt_InvalidAnswers_CannotExchange b_isinstance n_CannotExchange) (eai_cons (eei_is false ec_InvalidAnswers hz hf kt_InvalidAnswers_TooMany b_isinstance n_TooMany) eai_nil))))) nd (by decide)))))) (EvG.cons (fun a oe pn hz hf => (essi_cons (esi_asg (eei_lst (eai_cons (eei_is false ec_NotBelow hz hf kt_NotBelow_InvalidOrder b_isinstance n_InvalidOrder) (eai_cons (eei_is false ec_NotBelow hz hf kt_NotBelow_InvalidNumber b_isinstance n_InvalidNumber) (eai_cons (eei_is false ec_NotBelow hz hf kt_NotBelow_InvalidChain b_isinstance n_InvalidChain) eai_nil)))) nd (by decide)) (essi_cons (esi_asg (eei_add (eei_of (ee_var 4)) (eei_lst (eai_cons (eei_is false ec_NotBelow hz hf kt_NotBelow_InvalidAnswers b_isinstance n_InvalidAnswers) (eai_cons (eei_is true ec_NotBelow hz hf kt_NotBelow_NotBelow b_isinstance n_NotBelow) (eai_cons (eei_is false ec_NotBelow hz hf kt_NotBelow_Below b_isinstance n_Below) eai_nil))))) nd (by decide)) (essi_one (esi_asg (eei_add (eei_of (ee_var 4)) (eei_lst (eai_cons (eei_is false ec_NotBelow hz hf kt_NotBelow_IsEven b_isinstance n_IsEven) (eai_cons (eei_is false ec_NotBelow hz hf kt_NotBelow_CannotExchange b_isinstance n_CannotExchange) (eai_cons (eei_is false ec_NotBelow hz hf kt_NotBelow_TooMany b_isinstance n_TooMany) eai_nil))))) nd (by decide)))))) (EvG.cons (fun a oe pn hz hf => (essi_cons (esi_asg (eei_lst (eai_cons (eei_is false ec_Below hz hf kt_Below_InvalidOrder b_isinstance n_InvalidOrder) (eai_cons (eei_is false ec_Below hz hf kt_Below_InvalidNumber b_isinstance n_InvalidNumber) (eai_cons (eei_is false ec_Below hz hf kt_Below_InvalidChain b_isinstance n_InvalidChain) eai_nil)))) nd (by decide)) (essi_cons (esi_asg (eei_add (eei_of (ee_var 4)) (eei_lst (eai_cons (eei_is false ec_Below hz hf kt_Below_InvalidAnswers b_isinstance n_InvalidAnswers) (eai_cons (eei_is false ec_Below hz hf kt_Below_NotBelow b_isinstance n_NotBelow) (eai_cons (eei_is true ec_Below hz hf kt_Below_Below b_isinstance n_Below) eai_nil))))) nd (by decide)) (essi_one (esi_asg (eei_add (eei_of (ee_var 4)) (eei_lst (eai_cons (eei_is false ec_Below hz hf kt_Below_IsEven b_isinstance n_IsEven) (eai_cons (eei_is false ec_Below hz hf kt_Below_CannotExchange b_isinstance n_CannotExchange) (eai_cons (eei_is false ec_Below hz hf kt_Below_TooMany b_isinstance n_TooMany) eai_nil))))) nd (by decide)))))) (EvG.cons (fun a oe pn hz hf => (essi_cons (esi_asg (eei_lst (eai_cons (eei_is false ec_TooMany hz hf kt_TooMany_InvalidOrder b_isinstance n_InvalidOrder) (eai_cons (eei_is false ec_TooMany hz hf kt_TooMany_InvalidNumber b_isinstance n_InvalidNumber) (eai_cons (eei_is false ec_TooMany hz hf kt_TooMany_InvalidChain b_isinstance n_InvalidChain) eai_nil)))) nd (by decide)) (essi_cons (esi_asg (eei_add (eei_of (ee_var 4)) (eei_lst (eai_cons (eei_is false ec_TooMany hz hf kt_TooMany_InvalidAnswers b_isinstance n_InvalidAnswers) (eai_cons (eei_is false ec_TooMany hz hf kt_TooMany_NotBelow b_isinstance n_NotBelow) (eai_cons (eei_is false ec_TooMany hz hf kt_TooMany_Below b_isinstance n_Below) eai_nil))))) nd (by decide)) (essi_one (esi_asg (eei_add (eei_of (ee_var 4)) (eei_lst (eai_cons (eei_is false ec_TooMany hz hf kt_TooMany_IsEven b_isinstance n_IsEven) (eai_cons (eei_is false ec_TooMany hz hf kt_TooMany_CannotExchange b_isinstance n_CannotExchange) (eai_cons (eei_is true ec_TooMany hz hf kt_TooMany_TooMany b_isinstance n_TooMany) eai_nil))))) nd (by decide)))))) EvG.nil)))))))) Clauses.nil) (EvG.cons (fun _ _ _ hr2 => (clG_yes hr2 xm_InvalidOrder_OrderError rfl)) (EvG.cons (fun _ _ _ hr2 => (clG_yes hr2 xm_InvalidNumber_OrderError rfl)) (EvG.cons (fun _ _ _ hr2 => (clG_yes hr2 xm_InvalidChain_OrderError rfl)) (EvG.cons (fun _ _ _ hr2 => (clG_yes hr2 xm_InvalidAnswers_OrderError rfl)) (EvG.cons (fun _ _ _ hr2 => (clG_yes hr2 xm_NotBelow_OrderError rfl)) (EvG.cons (fun _ _ _ hr2 => (clG_yes hr2 xm_Below_OrderError rfl)) (EvG.cons (fun _ _ _ hr2 => (clG_yes hr2 xm_TooMany_OrderError rfl)) EvG.nil))))))))
  (ess_one (es_ret (ee_cmp (cm_eq hr) (ee_var 4) (ee_comp N_law (defScope s_law) [("at", 6)] rfl nd (by decide +kernel) (ec_range1 (ct := ct) b_range ee_int) (fun _ _ _ _ _ => (egw_name nd (by decide))) (fun _ _ _ _ _ => ets_nil) (fun _ _ _ _ _ => (ee_cmp (cm_eq hr) (ee_var 6) (ee_var 3))))))))))))
end Lw

set_option linter.all false
set_option maxRecDepth 1000000
namespace Lw
open PySem L2 VL
theorem at_mem {ds : List PyData} {i : Int} (h0 : 0 ≤ i) (h : i < ds.length) : ∃ d, d ∈ ds ∧ atI ds i = some d := by
  have hl : i.toNat < ds.length := by omega
  exact ⟨ds[i.toNat], List.getElem_mem hl, atI_nat h0 (by simp [hl])⟩
/-! ### the law: twelve calls, four odd things -/
def odds20 : List PyData := [.none, .str "x", .list [.int 7], .int (-5)]
def want20 : List Nat := [0, 0, 0, 0, 0, 0, 2, 2, 1, 1, 1, 0]
theorem asked_all : (List.range 12).all (fun m => odds20.all fun o => isExc (want20.getD m 0 + 2) (m__law_asked [.int (m : Nat), o])) = true := by decide +kernel
theorem law20 {m : Nat} {o : PyData} (hm : m < 12) (ho : o ∈ odds20) : m__law_asked [.int (m : Nat), o] = .exc (want20.getD m 0 + 2) none := by
  have := List.all_eq_true.mp asked_all m (List.mem_range.mpr hm)
  exact isExc_ok (List.all_eq_true.mp this o ho)
theorem cell_ok {ns : List Int} {k : Int} (h0 : 0 ≤ k) : m__law_cell [scrD ns, .int k] = .ok (.int (ns.getD k.toNat 0)) := by
  refine defM_ret rfl ?_
  by_cases h : k < ns.length
  · have e : atI (ns.map fun n => (PyData.int n, PyData.none)) k = some (.int (ns.getD k.toNat 0), .none) := atI_nat h0 (by
      have : k.toNat < ns.length := by omega
      simp [this])
    simp only [List.getD_eq_getElem?_getD] at e ⊢
    simp [b__law_cell, startG, scrD, h, e]
  · have : ns.length ≤ k.toNat := by omega
    simp [b__law_cell, startG, scrD, h, List.getElem?_eq_none this]
theorem wanted_cases {m : Nat} (hm : m < 12) : want20.getD m 0 = 0 ∨ want20.getD m 0 = 1 ∨ want20.getD m 0 = 2 := by
  have : (List.range 12).all (fun m => Nat.ble (want20.getD m 0) 2) = true := by decide +kernel
  have := Nat.le_of_ble_eq_true (List.all_eq_true.mp this m (List.mem_range.mpr hm))
  omega
theorem c1_20 {w : Nat} {a b c d e f : Option Sl} : C1_law [a, b, c, some (.dat (.int (w : Nat))), d, e, f] = .ok (.list (((List.range 9).map fun k => decide (k = w)).map PyData.bool)) .new := by
  unfold C1_law
  rw [compE_eq]
  have r : rg1K (.ok (.int 9) .frz) = some (rgD 0 9) := rfl
  have hi : (compO (rg1 (cE (.int 9)))) [a, b, c, some (.dat (.int (w : Nat))), d, e, f] = .ok (rgD 0 9) := by simp [r]
  rw [hi, rgD_map, comp_all (g := fun k => PyData.bool (decide (k = w))) (by decide) fun k hk => by
    have : ((k : Int) == (w : Int)) = decide (k = w) := by
      rw [Bool.eq_iff_iff, beq_iff_eq, decide_eq_true_eq]
      omega
    simp [this]]
  rw [List.map_map]
  rfl
theorem law_true (ns : List Int) (_ : ns.length ≤ 63) : m_law [scrD ns] = .ok (.bool true) := by
  have hc0 := cell_ok (ns := ns) (k := 0) (by decide)
  have hc1 := cell_ok (ns := ns) (k := 1) (by decide)
  generalize ns.getD (Int.toNat 0) 0 = v0 at hc0
  generalize ns.getD (Int.toNat 1) 0 = v1 at hc1
  have m0 : iMod v0 12 = some (.int (v0 % 12)) := iMod_pos (by omega)
  have m1 : iMod v1 4 = some (.int (v1 % 4)) := iMod_pos (by omega)
  obtain ⟨m, hm⟩ : ∃ m : Nat, v0 % 12 = (m : Nat) := ⟨(v0 % 12).toNat, by omega⟩
  have hm12 : m < 12 := by omega
  have g0 : gEq (.list [.bool true, .bool false, .bool false, .bool false, .bool false, .bool false, .bool false, .bool false, .bool false]) (.list (((List.range 9).map fun k => decide (k = 0)).map PyData.bool)) = .ok (.bool true) .frz := (gEq_bools (a := [true, false, false, false, false, false, false, false, false])).trans (congrArg (fun b => EO.ok (.bool b) .frz) (by decide +kernel))
  have g1 : gEq (.list [.bool false, .bool true, .bool false, .bool false, .bool false, .bool false, .bool false, .bool false, .bool false]) (.list (((List.range 9).map fun k => decide (k = 1)).map PyData.bool)) = .ok (.bool true) .frz := (gEq_bools (a := [false, true, false, false, false, false, false, false, false])).trans (congrArg (fun b => EO.ok (.bool b) .frz) (by decide +kernel))
  have g2 : gEq (.list [.bool false, .bool false, .bool true, .bool false, .bool false, .bool false, .bool false, .bool false, .bool false]) (.list (((List.range 9).map fun k => decide (k = 2)).map PyData.bool)) = .ok (.bool true) .frz := (gEq_bools (a := [false, false, true, false, false, false, false, false, false])).trans (congrArg (fun b => EO.ok (.bool b) .frz) (by decide +kernel))
  obtain ⟨o, ho, eo⟩ := at_mem (ds := odds20) (i := v1 % 4) (by omega) (by show v1 % 4 < 4; omega)
  have hask := law20 hm12 ho
  have ew : atI ([.int 0, .int 0, .int 0, .int 0, .int 0, .int 0, .int 2, .int 2, .int 1, .int 1, .int 1, .int 0] : List PyData) ((m : Nat) : Int) = some (.int ((want20.getD m 0 : Nat) : Int)) := by
    have := atI_map (f := fun k : Nat => PyData.int (k : Nat)) (xs := want20) (p := m) (z := 0) hm12
    exact this
  have hw := wanted_cases hm12
  generalize want20.getD m 0 = w at hask ew hw
  have b3 : 3 ≤ big := by decide
  have b1 : 1 ≤ big := by decide
  have b0 : 0 ≤ big := by decide
  have b4 : 4 ≤ big := by decide
  have b12 : 12 ≤ big := by decide
  have b6 : 6 ≤ big := by decide
  have b9 : 9 ≤ big := by decide
  refine defM_ret rfl ?_
  have eo2 : atI [.none, .str "x", .list [.int 7], .int (-5)] (v1 % 4) = some o := eo
  simp only [b_law, startG, List.map_cons, List.map_nil, List.length_cons, List.length_nil, Nat.reduceAdd, Nat.reduceSub, List.replicate, List.cons_append, List.nil_append, seqS_eq, asgS_eq, op2_eq, callE_eq, consA_eq, varE_eq, List.getElem?_cons_zero, List.getElem?_cons_succ, varO_d, cE_eq, hard_frz, hard_new, bindA_ok, nilA_eq, abind_ok, abindE_ok, hc0, hc1, toE_ok, bind_ok, gInt_eq, m0, m1, hm, optE_some, bindS_ok, asgK_frz, asgK_new, List.set_cons_zero, List.set_cons_succ, seq_next, lstE_eq, b1, b4, b12, b0, if_true, gIx_l, eo2, ew]
  have e8 : T8_law [some (.dat (scrD ns)), some (.dat (.int (m : Nat))), some (.dat o), some (.dat (.int (w : Nat))), some (.own []), none, none] = .exc (w + 2) none [some (.dat (scrD ns)), some (.dat (.int (m : Nat))), some (.dat o), some (.dat (.int (w : Nat))), some (.own []), none, none] := by
    simp [T8_law, hask]
  show SO.seq (tryGK 5 _ (T8_law _)) _ = _
  rw [e8]
  rcases hw with z | z | z <;> subst z
  · have hc := c1_20 (w := 0) (a := some (.dat (scrD ns))) (b := some (.dat (.int (m : Nat)))) (c := some (.dat o)) (d := some (.own [.bool true, .bool false, .bool false, .bool false, .bool false, .bool false, .bool false, .bool false, .bool false])) (e := none) (f := none)
    show SO.seq (clrS 5 (T1_law [some (.dat (scrD ns)), some (.dat (.int (m : Nat))), some (.dat o), some (.dat (.int (0 : Nat))), some (.own []), none, none])) _ = _
    simp only [T1_law, seqS_eq, asgS_eq, op2_eq, consA_eq, varE_eq, List.getElem?_cons_zero, List.getElem?_cons_succ, varO_d, varO_o, cE_eq, hard_frz, bindA_ok, nilA_eq, abind_ok, abindE_ok, bind_ok, bindS_ok, asgK_new, List.set_cons_zero, List.set_cons_succ, seq_next, lstE_eq, List.length_cons, List.length_nil, Nat.reduceAdd, b3, b6, b9, if_true, gAdd_l, List.cons_append, List.nil_append, clrS, retS_eq, hc, g0, retK_frz]
  · have hc := c1_20 (w := 1) (a := some (.dat (scrD ns))) (b := some (.dat (.int (m : Nat)))) (c := some (.dat o)) (d := some (.own [.bool false, .bool true, .bool false, .bool false, .bool false, .bool false, .bool false, .bool false, .bool false])) (e := none) (f := none)
    show SO.seq (clrS 5 (T2_law [some (.dat (scrD ns)), some (.dat (.int (m : Nat))), some (.dat o), some (.dat (.int (1 : Nat))), some (.own []), none, none])) _ = _
    simp only [T2_law, seqS_eq, asgS_eq, op2_eq, consA_eq, varE_eq, List.getElem?_cons_zero, List.getElem?_cons_succ, varO_d, varO_o, cE_eq, hard_frz, bindA_ok, nilA_eq, abind_ok, abindE_ok, bind_ok, bindS_ok, asgK_new, List.set_cons_zero, List.set_cons_succ, seq_next, lstE_eq, List.length_cons, List.length_nil, Nat.reduceAdd, b3, b6, b9, if_true, gAdd_l, List.cons_append, List.nil_append, clrS, retS_eq, hc, g1, retK_frz]
  · have hc := c1_20 (w := 2) (a := some (.dat (scrD ns))) (b := some (.dat (.int (m : Nat)))) (c := some (.dat o)) (d := some (.own [.bool false, .bool false, .bool true, .bool false, .bool false, .bool false, .bool false, .bool false, .bool false])) (e := none) (f := none)
    show SO.seq (clrS 5 (T3_law [some (.dat (scrD ns)), some (.dat (.int (m : Nat))), some (.dat o), some (.dat (.int (2 : Nat))), some (.own []), none, none])) _ = _
    simp only [T3_law, seqS_eq, asgS_eq, op2_eq, consA_eq, varE_eq, List.getElem?_cons_zero, List.getElem?_cons_succ, varO_d, varO_o, cE_eq, hard_frz, bindA_ok, nilA_eq, abind_ok, abindE_ok, bind_ok, bindS_ok, asgK_new, List.set_cons_zero, List.set_cons_succ, seq_next, lstE_eq, List.length_cons, List.length_nil, Nat.reduceAdd, b3, b6, b9, if_true, gAdd_l, List.cons_append, List.nil_append, clrS, retS_eq, hc, g2, retK_frz]
end Lw

set_option Elab.async false
set_option linter.all false
set_option maxRecDepth 100000
namespace Lw
open PySem L2 VL
theorem all_mk {l : PySem.W.OpenLaw} {w : World} {K : PySem.W.Frag} {h : Heap} {mg : Str → Option Value} {fa f_in_range f_is_order f_check_order f_check_pair f_great_of f_great_count f_exchanged f_first_fault f_is_below f_paper f_is_paper f_steps_up f_way_up f_check_below f_between f_is_step f_is_chain f_change_at f_chain_road f_check_answers f_candidates f_best_question f_is_pattern_at f__law_cell f__law_asked f_law c_OrderError c_InvalidOrder c_InvalidNumber c_InvalidChain c_InvalidAnswers c_NotBelow c_Below c_IsEven c_CannotExchange c_TooMany : Addr} {od_in_range an_in_range od_is_order an_is_order od_check_order an_check_order od_check_pair an_check_pair od_great_of an_great_of od_great_count an_great_count od_exchanged an_exchanged od_first_fault an_first_fault od_is_below an_is_below od_paper an_paper od_is_paper an_is_paper od_steps_up an_steps_up od_way_up an_way_up od_check_below an_check_below od_between an_between od_is_step an_is_step od_is_chain an_is_chain od_change_at an_change_at od_chain_road an_chain_road od_check_answers an_check_answers od_candidates an_candidates od_best_question an_best_question od_is_pattern_at an_is_pattern_at od__law_cell an__law_cell od__law_asked an__law_asked od_law an_law : Option Addr} {sl_in_range sl_is_order sl_check_order sl_check_pair sl_great_of sl_great_count sl_exchanged sl_first_fault sl_is_below sl_paper sl_is_paper sl_steps_up sl_way_up sl_check_below sl_between sl_is_step sl_is_chain sl_change_at sl_chain_road sl_check_answers sl_candidates sl_best_question sl_is_pattern_at sl__law_cell sl__law_asked sl_law : Array (Option Value)} {oc_in_range kV_in_range dc_in_range pm_in_range cd_in_range ct_in_range oc_is_order kV_is_order dc_is_order pm_is_order cd_is_order ct_is_order oc_check_order kV_check_order dc_check_order pm_check_order cd_check_order ct_check_order oc_check_pair kV_check_pair dc_check_pair pm_check_pair cd_check_pair ct_check_pair oc_great_of kV_great_of dc_great_of pm_great_of cd_great_of ct_great_of oc_great_count kV_great_count dc_great_count pm_great_count cd_great_count ct_great_count oc_exchanged kV_exchanged dc_exchanged pm_exchanged cd_exchanged ct_exchanged oc_first_fault kV_first_fault dc_first_fault pm_first_fault cd_first_fault ct_first_fault oc_is_below kV_is_below dc_is_below pm_is_below cd_is_below ct_is_below oc_paper kV_paper dc_paper pm_paper cd_paper ct_paper oc_is_paper kV_is_paper dc_is_paper pm_is_paper cd_is_paper ct_is_paper oc_steps_up kV_steps_up dc_steps_up pm_steps_up cd_steps_up ct_steps_up oc_way_up kV_way_up dc_way_up pm_way_up cd_way_up ct_way_up oc_check_below kV_check_below dc_check_below pm_check_below cd_check_below ct_check_below oc_between kV_between dc_between pm_between cd_between ct_between oc_is_step kV_is_step dc_is_step pm_is_step cd_is_step ct_is_step oc_is_chain kV_is_chain dc_is_chain pm_is_chain cd_is_chain ct_is_chain oc_change_at kV_change_at dc_change_at pm_change_at cd_change_at ct_change_at oc_chain_road kV_chain_road dc_chain_road pm_chain_road cd_chain_road ct_chain_road oc_check_answers kV_check_answers dc_check_answers pm_check_answers cd_check_answers ct_check_answers oc_candidates kV_candidates dc_candidates pm_candidates cd_candidates ct_candidates oc_best_question kV_best_question dc_best_question pm_best_question cd_best_question ct_best_question oc_is_pattern_at kV_is_pattern_at dc_is_pattern_at pm_is_pattern_at cd_is_pattern_at ct_is_pattern_at oc__law_cell kV__law_cell dc__law_cell pm__law_cell cd__law_cell ct__law_cell oc__law_asked kV__law_asked dc__law_asked pm__law_asked cd__law_asked ct__law_asked oc_law kV_law dc_law pm_law cd_law ct_law : Value} {t_MAX_SIZE t_MAX_HIDDEN : Tok}
    (X : K.In h) (G : h.Ns mainGlobals mg) (hfa : mg "law" = some (.ref fa))
    (a_in_range : PySem.W.nsIn K mainGlobals "in_range" = some (some (.ref f_in_range)))
    (l_in_range : K.lookup f_in_range = some ⟨oc_in_range, od_in_range, .func (PySem.W.fnOf "in_range" "in_range" (defArgs s_in_range) (defBody s_in_range) (defScope s_in_range) .none kV_in_range dc_in_range pm_in_range an_in_range cd_in_range ct_in_range), sl_in_range⟩)
    (co_in_range : PySem.W.codeIn K cd_in_range "in_range" = true)
    (ke_in_range : PySem.W.keepIn K (.ref f_in_range) = true)
    (a_is_order : PySem.W.nsIn K mainGlobals "is_order" = some (some (.ref f_is_order)))
    (l_is_order : K.lookup f_is_order = some ⟨oc_is_order, od_is_order, .func (PySem.W.fnOf "is_order" "is_order" (defArgs s_is_order) (defBody s_is_order) (defScope s_is_order) .none kV_is_order dc_is_order pm_is_order an_is_order cd_is_order ct_is_order), sl_is_order⟩)
    (co_is_order : PySem.W.codeIn K cd_is_order "is_order" = true)
    (ke_is_order : PySem.W.keepIn K (.ref f_is_order) = true)
    (a_check_order : PySem.W.nsIn K mainGlobals "check_order" = some (some (.ref f_check_order)))
    (l_check_order : K.lookup f_check_order = some ⟨oc_check_order, od_check_order, .func (PySem.W.fnOf "check_order" "check_order" (defArgs s_check_order) (defBody s_check_order) (defScope s_check_order) .none kV_check_order dc_check_order pm_check_order an_check_order cd_check_order ct_check_order), sl_check_order⟩)
    (co_check_order : PySem.W.codeIn K cd_check_order "check_order" = true)
    (ke_check_order : PySem.W.keepIn K (.ref f_check_order) = true)
    (a_check_pair : PySem.W.nsIn K mainGlobals "check_pair" = some (some (.ref f_check_pair)))
    (l_check_pair : K.lookup f_check_pair = some ⟨oc_check_pair, od_check_pair, .func (PySem.W.fnOf "check_pair" "check_pair" (defArgs s_check_pair) (defBody s_check_pair) (defScope s_check_pair) .none kV_check_pair dc_check_pair pm_check_pair an_check_pair cd_check_pair ct_check_pair), sl_check_pair⟩)
    (co_check_pair : PySem.W.codeIn K cd_check_pair "check_pair" = true)
    (ke_check_pair : PySem.W.keepIn K (.ref f_check_pair) = true)
    (a_great_of : PySem.W.nsIn K mainGlobals "great_of" = some (some (.ref f_great_of)))
    (l_great_of : K.lookup f_great_of = some ⟨oc_great_of, od_great_of, .func (PySem.W.fnOf "great_of" "great_of" (defArgs s_great_of) (defBody s_great_of) (defScope s_great_of) .none kV_great_of dc_great_of pm_great_of an_great_of cd_great_of ct_great_of), sl_great_of⟩)
    (co_great_of : PySem.W.codeIn K cd_great_of "great_of" = true)
    (ke_great_of : PySem.W.keepIn K (.ref f_great_of) = true)
    (a_great_count : PySem.W.nsIn K mainGlobals "great_count" = some (some (.ref f_great_count)))
    (l_great_count : K.lookup f_great_count = some ⟨oc_great_count, od_great_count, .func (PySem.W.fnOf "great_count" "great_count" (defArgs s_great_count) (defBody s_great_count) (defScope s_great_count) .none kV_great_count dc_great_count pm_great_count an_great_count cd_great_count ct_great_count), sl_great_count⟩)
    (co_great_count : PySem.W.codeIn K cd_great_count "great_count" = true)
    (ke_great_count : PySem.W.keepIn K (.ref f_great_count) = true)
    (a_exchanged : PySem.W.nsIn K mainGlobals "exchanged" = some (some (.ref f_exchanged)))
    (l_exchanged : K.lookup f_exchanged = some ⟨oc_exchanged, od_exchanged, .func (PySem.W.fnOf "exchanged" "exchanged" (defArgs s_exchanged) (defBody s_exchanged) (defScope s_exchanged) .none kV_exchanged dc_exchanged pm_exchanged an_exchanged cd_exchanged ct_exchanged), sl_exchanged⟩)
    (co_exchanged : PySem.W.codeIn K cd_exchanged "exchanged" = true)
    (ke_exchanged : PySem.W.keepIn K (.ref f_exchanged) = true)
    (a_first_fault : PySem.W.nsIn K mainGlobals "first_fault" = some (some (.ref f_first_fault)))
    (l_first_fault : K.lookup f_first_fault = some ⟨oc_first_fault, od_first_fault, .func (PySem.W.fnOf "first_fault" "first_fault" (defArgs s_first_fault) (defBody s_first_fault) (defScope s_first_fault) .none kV_first_fault dc_first_fault pm_first_fault an_first_fault cd_first_fault ct_first_fault), sl_first_fault⟩)
    (co_first_fault : PySem.W.codeIn K cd_first_fault "first_fault" = true)
    (ke_first_fault : PySem.W.keepIn K (.ref f_first_fault) = true)
    (a_is_below : PySem.W.nsIn K mainGlobals "is_below" = some (some (.ref f_is_below)))
    (l_is_below : K.lookup f_is_below = some ⟨oc_is_below, od_is_below, .func (PySem.W.fnOf "is_below" "is_below" (defArgs s_is_below) (defBody s_is_below) (defScope s_is_below) .none kV_is_below dc_is_below pm_is_below an_is_below cd_is_below ct_is_below), sl_is_below⟩)
    (co_is_below : PySem.W.codeIn K cd_is_below "is_below" = true)
    (ke_is_below : PySem.W.keepIn K (.ref f_is_below) = true)
    (a_paper : PySem.W.nsIn K mainGlobals "paper" = some (some (.ref f_paper)))
    (l_paper : K.lookup f_paper = some ⟨oc_paper, od_paper, .func (PySem.W.fnOf "paper" "paper" (defArgs s_paper) (defBody s_paper) (defScope s_paper) .none kV_paper dc_paper pm_paper an_paper cd_paper ct_paper), sl_paper⟩)
    (co_paper : PySem.W.codeIn K cd_paper "paper" = true)
    (ke_paper : PySem.W.keepIn K (.ref f_paper) = true)
    (a_is_paper : PySem.W.nsIn K mainGlobals "is_paper" = some (some (.ref f_is_paper)))
    (l_is_paper : K.lookup f_is_paper = some ⟨oc_is_paper, od_is_paper, .func (PySem.W.fnOf "is_paper" "is_paper" (defArgs s_is_paper) (defBody s_is_paper) (defScope s_is_paper) .none kV_is_paper dc_is_paper pm_is_paper an_is_paper cd_is_paper ct_is_paper), sl_is_paper⟩)
    (co_is_paper : PySem.W.codeIn K cd_is_paper "is_paper" = true)
    (ke_is_paper : PySem.W.keepIn K (.ref f_is_paper) = true)
    (a_steps_up : PySem.W.nsIn K mainGlobals "steps_up" = some (some (.ref f_steps_up)))
    (l_steps_up : K.lookup f_steps_up = some ⟨oc_steps_up, od_steps_up, .func (PySem.W.fnOf "steps_up" "steps_up" (defArgs s_steps_up) (defBody s_steps_up) (defScope s_steps_up) .none kV_steps_up dc_steps_up pm_steps_up an_steps_up cd_steps_up ct_steps_up), sl_steps_up⟩)
    (co_steps_up : PySem.W.codeIn K cd_steps_up "steps_up" = true)
    (ke_steps_up : PySem.W.keepIn K (.ref f_steps_up) = true)
    (a_way_up : PySem.W.nsIn K mainGlobals "way_up" = some (some (.ref f_way_up)))
    (l_way_up : K.lookup f_way_up = some ⟨oc_way_up, od_way_up, .func (PySem.W.fnOf "way_up" "way_up" (defArgs s_way_up) (defBody s_way_up) (defScope s_way_up) .none kV_way_up dc_way_up pm_way_up an_way_up cd_way_up ct_way_up), sl_way_up⟩)
    (co_way_up : PySem.W.codeIn K cd_way_up "way_up" = true)
    (ke_way_up : PySem.W.keepIn K (.ref f_way_up) = true)
    (a_check_below : PySem.W.nsIn K mainGlobals "check_below" = some (some (.ref f_check_below)))
    (l_check_below : K.lookup f_check_below = some ⟨oc_check_below, od_check_below, .func (PySem.W.fnOf "check_below" "check_below" (defArgs s_check_below) (defBody s_check_below) (defScope s_check_below) .none kV_check_below dc_check_below pm_check_below an_check_below cd_check_below ct_check_below), sl_check_below⟩)
    (co_check_below : PySem.W.codeIn K cd_check_below "check_below" = true)
    (ke_check_below : PySem.W.keepIn K (.ref f_check_below) = true)
    (a_between : PySem.W.nsIn K mainGlobals "between" = some (some (.ref f_between)))
    (l_between : K.lookup f_between = some ⟨oc_between, od_between, .func (PySem.W.fnOf "between" "between" (defArgs s_between) (defBody s_between) (defScope s_between) .none kV_between dc_between pm_between an_between cd_between ct_between), sl_between⟩)
    (co_between : PySem.W.codeIn K cd_between "between" = true)
    (ke_between : PySem.W.keepIn K (.ref f_between) = true)
    (a_is_step : PySem.W.nsIn K mainGlobals "is_step" = some (some (.ref f_is_step)))
    (l_is_step : K.lookup f_is_step = some ⟨oc_is_step, od_is_step, .func (PySem.W.fnOf "is_step" "is_step" (defArgs s_is_step) (defBody s_is_step) (defScope s_is_step) .none kV_is_step dc_is_step pm_is_step an_is_step cd_is_step ct_is_step), sl_is_step⟩)
    (co_is_step : PySem.W.codeIn K cd_is_step "is_step" = true)
    (ke_is_step : PySem.W.keepIn K (.ref f_is_step) = true)
    (a_is_chain : PySem.W.nsIn K mainGlobals "is_chain" = some (some (.ref f_is_chain)))
    (l_is_chain : K.lookup f_is_chain = some ⟨oc_is_chain, od_is_chain, .func (PySem.W.fnOf "is_chain" "is_chain" (defArgs s_is_chain) (defBody s_is_chain) (defScope s_is_chain) .none kV_is_chain dc_is_chain pm_is_chain an_is_chain cd_is_chain ct_is_chain), sl_is_chain⟩)
    (co_is_chain : PySem.W.codeIn K cd_is_chain "is_chain" = true)
    (ke_is_chain : PySem.W.keepIn K (.ref f_is_chain) = true)
    (a_change_at : PySem.W.nsIn K mainGlobals "change_at" = some (some (.ref f_change_at)))
    (l_change_at : K.lookup f_change_at = some ⟨oc_change_at, od_change_at, .func (PySem.W.fnOf "change_at" "change_at" (defArgs s_change_at) (defBody s_change_at) (defScope s_change_at) .none kV_change_at dc_change_at pm_change_at an_change_at cd_change_at ct_change_at), sl_change_at⟩)
    (co_change_at : PySem.W.codeIn K cd_change_at "change_at" = true)
    (ke_change_at : PySem.W.keepIn K (.ref f_change_at) = true)
    (a_chain_road : PySem.W.nsIn K mainGlobals "chain_road" = some (some (.ref f_chain_road)))
    (l_chain_road : K.lookup f_chain_road = some ⟨oc_chain_road, od_chain_road, .func (PySem.W.fnOf "chain_road" "chain_road" (defArgs s_chain_road) (defBody s_chain_road) (defScope s_chain_road) .none kV_chain_road dc_chain_road pm_chain_road an_chain_road cd_chain_road ct_chain_road), sl_chain_road⟩)
    (co_chain_road : PySem.W.codeIn K cd_chain_road "chain_road" = true)
    (ke_chain_road : PySem.W.keepIn K (.ref f_chain_road) = true)
    (a_check_answers : PySem.W.nsIn K mainGlobals "check_answers" = some (some (.ref f_check_answers)))
    (l_check_answers : K.lookup f_check_answers = some ⟨oc_check_answers, od_check_answers, .func (PySem.W.fnOf "check_answers" "check_answers" (defArgs s_check_answers) (defBody s_check_answers) (defScope s_check_answers) .none kV_check_answers dc_check_answers pm_check_answers an_check_answers cd_check_answers ct_check_answers), sl_check_answers⟩)
    (co_check_answers : PySem.W.codeIn K cd_check_answers "check_answers" = true)
    (ke_check_answers : PySem.W.keepIn K (.ref f_check_answers) = true)
    (a_candidates : PySem.W.nsIn K mainGlobals "candidates" = some (some (.ref f_candidates)))
    (l_candidates : K.lookup f_candidates = some ⟨oc_candidates, od_candidates, .func (PySem.W.fnOf "candidates" "candidates" (defArgs s_candidates) (defBody s_candidates) (defScope s_candidates) .none kV_candidates dc_candidates pm_candidates an_candidates cd_candidates ct_candidates), sl_candidates⟩)
    (co_candidates : PySem.W.codeIn K cd_candidates "candidates" = true)
    (ke_candidates : PySem.W.keepIn K (.ref f_candidates) = true)
    (a_best_question : PySem.W.nsIn K mainGlobals "best_question" = some (some (.ref f_best_question)))
    (l_best_question : K.lookup f_best_question = some ⟨oc_best_question, od_best_question, .func (PySem.W.fnOf "best_question" "best_question" (defArgs s_best_question) (defBody s_best_question) (defScope s_best_question) .none kV_best_question dc_best_question pm_best_question an_best_question cd_best_question ct_best_question), sl_best_question⟩)
    (co_best_question : PySem.W.codeIn K cd_best_question "best_question" = true)
    (ke_best_question : PySem.W.keepIn K (.ref f_best_question) = true)
    (a_is_pattern_at : PySem.W.nsIn K mainGlobals "is_pattern_at" = some (some (.ref f_is_pattern_at)))
    (l_is_pattern_at : K.lookup f_is_pattern_at = some ⟨oc_is_pattern_at, od_is_pattern_at, .func (PySem.W.fnOf "is_pattern_at" "is_pattern_at" (defArgs s_is_pattern_at) (defBody s_is_pattern_at) (defScope s_is_pattern_at) .none kV_is_pattern_at dc_is_pattern_at pm_is_pattern_at an_is_pattern_at cd_is_pattern_at ct_is_pattern_at), sl_is_pattern_at⟩)
    (co_is_pattern_at : PySem.W.codeIn K cd_is_pattern_at "is_pattern_at" = true)
    (ke_is_pattern_at : PySem.W.keepIn K (.ref f_is_pattern_at) = true)
    (a__law_cell : PySem.W.nsIn K mainGlobals "_law_cell" = some (some (.ref f__law_cell)))
    (l__law_cell : K.lookup f__law_cell = some ⟨oc__law_cell, od__law_cell, .func (PySem.W.fnOf "_law_cell" "_law_cell" (defArgs s__law_cell) (defBody s__law_cell) (defScope s__law_cell) .none kV__law_cell dc__law_cell pm__law_cell an__law_cell cd__law_cell ct__law_cell), sl__law_cell⟩)
    (co__law_cell : PySem.W.codeIn K cd__law_cell "_law_cell" = true)
    (ke__law_cell : PySem.W.keepIn K (.ref f__law_cell) = true)
    (a__law_asked : PySem.W.nsIn K mainGlobals "_law_asked" = some (some (.ref f__law_asked)))
    (l__law_asked : K.lookup f__law_asked = some ⟨oc__law_asked, od__law_asked, .func (PySem.W.fnOf "_law_asked" "_law_asked" (defArgs s__law_asked) (defBody s__law_asked) (defScope s__law_asked) .none kV__law_asked dc__law_asked pm__law_asked an__law_asked cd__law_asked ct__law_asked), sl__law_asked⟩)
    (co__law_asked : PySem.W.codeIn K cd__law_asked "_law_asked" = true)
    (ke__law_asked : PySem.W.keepIn K (.ref f__law_asked) = true)
    (a_law : PySem.W.nsIn K mainGlobals "law" = some (some (.ref f_law)))
    (l_law : K.lookup f_law = some ⟨oc_law, od_law, .func (PySem.W.fnOf "law" "law" (defArgs s_law) (defBody s_law) (defScope s_law) .none kV_law dc_law pm_law an_law cd_law ct_law), sl_law⟩)
    (co_law : PySem.W.codeIn K cd_law "law" = true)
    (ke_law : PySem.W.keepIn K (.ref f_law) = true)
    (xa_OrderError : PySem.W.nsIn K mainGlobals "OrderError" = some (some (.ref c_OrderError)))
    (xa_InvalidOrder : PySem.W.nsIn K mainGlobals "InvalidOrder" = some (some (.ref c_InvalidOrder)))
    (xe_InvalidOrder : PySem.W.excIn K c_InvalidOrder [.type "ValueError", .type "Exception", .type "BaseException", .type "object"] "ValueError.__new__" = true)
    (xk_InvalidOrder : PySem.W.keepIn K (.ref c_InvalidOrder) = true)
    (xs_InvalidOrder : PySem.W.subIn K (.ref c_InvalidOrder) (.type "BaseException") = some true)
    (xt_InvalidOrder : PySem.W.typeIn K (.ref c_InvalidOrder) = some (.type "type"))
    (xa_InvalidNumber : PySem.W.nsIn K mainGlobals "InvalidNumber" = some (some (.ref c_InvalidNumber)))
    (xe_InvalidNumber : PySem.W.excIn K c_InvalidNumber [.type "ValueError", .type "Exception", .type "BaseException", .type "object"] "ValueError.__new__" = true)
    (xk_InvalidNumber : PySem.W.keepIn K (.ref c_InvalidNumber) = true)
    (xs_InvalidNumber : PySem.W.subIn K (.ref c_InvalidNumber) (.type "BaseException") = some true)
    (xt_InvalidNumber : PySem.W.typeIn K (.ref c_InvalidNumber) = some (.type "type"))
    (xa_InvalidChain : PySem.W.nsIn K mainGlobals "InvalidChain" = some (some (.ref c_InvalidChain)))
    (xe_InvalidChain : PySem.W.excIn K c_InvalidChain [.type "ValueError", .type "Exception", .type "BaseException", .type "object"] "ValueError.__new__" = true)
    (xk_InvalidChain : PySem.W.keepIn K (.ref c_InvalidChain) = true)
    (xs_InvalidChain : PySem.W.subIn K (.ref c_InvalidChain) (.type "BaseException") = some true)
    (xt_InvalidChain : PySem.W.typeIn K (.ref c_InvalidChain) = some (.type "type"))
    (xa_InvalidAnswers : PySem.W.nsIn K mainGlobals "InvalidAnswers" = some (some (.ref c_InvalidAnswers)))
    (xe_InvalidAnswers : PySem.W.excIn K c_InvalidAnswers [.type "ValueError", .type "Exception", .type "BaseException", .type "object"] "ValueError.__new__" = true)
    (xk_InvalidAnswers : PySem.W.keepIn K (.ref c_InvalidAnswers) = true)
    (xs_InvalidAnswers : PySem.W.subIn K (.ref c_InvalidAnswers) (.type "BaseException") = some true)
    (xt_InvalidAnswers : PySem.W.typeIn K (.ref c_InvalidAnswers) = some (.type "type"))
    (xa_NotBelow : PySem.W.nsIn K mainGlobals "NotBelow" = some (some (.ref c_NotBelow)))
    (xe_NotBelow : PySem.W.excIn K c_NotBelow [.type "ValueError", .type "Exception", .type "BaseException", .type "object"] "ValueError.__new__" = true)
    (xk_NotBelow : PySem.W.keepIn K (.ref c_NotBelow) = true)
    (xs_NotBelow : PySem.W.subIn K (.ref c_NotBelow) (.type "BaseException") = some true)
    (xt_NotBelow : PySem.W.typeIn K (.ref c_NotBelow) = some (.type "type"))
    (xa_Below : PySem.W.nsIn K mainGlobals "Below" = some (some (.ref c_Below)))
    (xa_IsEven : PySem.W.nsIn K mainGlobals "IsEven" = some (some (.ref c_IsEven)))
    (xa_CannotExchange : PySem.W.nsIn K mainGlobals "CannotExchange" = some (some (.ref c_CannotExchange)))
    (xa_TooMany : PySem.W.nsIn K mainGlobals "TooMany" = some (some (.ref c_TooMany)))
    (fs_InvalidOrder_OrderError : PySem.W.subIn K (.ref c_InvalidOrder) (.ref c_OrderError) = some true)
    (fs_InvalidOrder_InvalidOrder : PySem.W.subIn K (.ref c_InvalidOrder) (.ref c_InvalidOrder) = some true)
    (fs_InvalidNumber_OrderError : PySem.W.subIn K (.ref c_InvalidNumber) (.ref c_OrderError) = some true)
    (fs_InvalidNumber_InvalidNumber : PySem.W.subIn K (.ref c_InvalidNumber) (.ref c_InvalidNumber) = some true)
    (fs_InvalidChain_OrderError : PySem.W.subIn K (.ref c_InvalidChain) (.ref c_OrderError) = some true)
    (fs_InvalidChain_InvalidChain : PySem.W.subIn K (.ref c_InvalidChain) (.ref c_InvalidChain) = some true)
    (fs_InvalidAnswers_OrderError : PySem.W.subIn K (.ref c_InvalidAnswers) (.ref c_OrderError) = some true)
    (fs_InvalidAnswers_InvalidAnswers : PySem.W.subIn K (.ref c_InvalidAnswers) (.ref c_InvalidAnswers) = some true)
    (fs_NotBelow_OrderError : PySem.W.subIn K (.ref c_NotBelow) (.ref c_OrderError) = some true)
    (fs_NotBelow_NotBelow : PySem.W.subIn K (.ref c_NotBelow) (.ref c_NotBelow) = some true)
    (fs_Below_OrderError : PySem.W.subIn K (.ref c_Below) (.ref c_OrderError) = some true)
    (fs_Below_Below : PySem.W.subIn K (.ref c_Below) (.ref c_Below) = some true)
    (fs_TooMany_OrderError : PySem.W.subIn K (.ref c_TooMany) (.ref c_OrderError) = some true)
    (fs_TooMany_TooMany : PySem.W.subIn K (.ref c_TooMany) (.ref c_TooMany) = some true)
    (fs_InvalidOrder_InvalidChain : PySem.W.subIn K (.ref c_InvalidOrder) (.ref c_InvalidChain) = some false)
    (fs_InvalidOrder_InvalidNumber : PySem.W.subIn K (.ref c_InvalidOrder) (.ref c_InvalidNumber) = some false)
    (fs_InvalidOrder_Below : PySem.W.subIn K (.ref c_InvalidOrder) (.ref c_Below) = some false)
    (fs_InvalidOrder_NotBelow : PySem.W.subIn K (.ref c_InvalidOrder) (.ref c_NotBelow) = some false)
    (fs_InvalidOrder_InvalidAnswers : PySem.W.subIn K (.ref c_InvalidOrder) (.ref c_InvalidAnswers) = some false)
    (fs_InvalidOrder_TooMany : PySem.W.subIn K (.ref c_InvalidOrder) (.ref c_TooMany) = some false)
    (fs_InvalidOrder_CannotExchange : PySem.W.subIn K (.ref c_InvalidOrder) (.ref c_CannotExchange) = some false)
    (fs_InvalidOrder_IsEven : PySem.W.subIn K (.ref c_InvalidOrder) (.ref c_IsEven) = some false)
    (fs_InvalidNumber_InvalidChain : PySem.W.subIn K (.ref c_InvalidNumber) (.ref c_InvalidChain) = some false)
    (fs_InvalidNumber_InvalidOrder : PySem.W.subIn K (.ref c_InvalidNumber) (.ref c_InvalidOrder) = some false)
    (fs_InvalidNumber_Below : PySem.W.subIn K (.ref c_InvalidNumber) (.ref c_Below) = some false)
    (fs_InvalidNumber_NotBelow : PySem.W.subIn K (.ref c_InvalidNumber) (.ref c_NotBelow) = some false)
    (fs_InvalidNumber_InvalidAnswers : PySem.W.subIn K (.ref c_InvalidNumber) (.ref c_InvalidAnswers) = some false)
    (fs_InvalidNumber_TooMany : PySem.W.subIn K (.ref c_InvalidNumber) (.ref c_TooMany) = some false)
    (fs_InvalidNumber_CannotExchange : PySem.W.subIn K (.ref c_InvalidNumber) (.ref c_CannotExchange) = some false)
    (fs_InvalidNumber_IsEven : PySem.W.subIn K (.ref c_InvalidNumber) (.ref c_IsEven) = some false)
    (fs_InvalidChain_InvalidNumber : PySem.W.subIn K (.ref c_InvalidChain) (.ref c_InvalidNumber) = some false)
    (fs_InvalidChain_InvalidOrder : PySem.W.subIn K (.ref c_InvalidChain) (.ref c_InvalidOrder) = some false)
    (fs_InvalidChain_Below : PySem.W.subIn K (.ref c_InvalidChain) (.ref c_Below) = some false)
    (fs_InvalidChain_NotBelow : PySem.W.subIn K (.ref c_InvalidChain) (.ref c_NotBelow) = some false)
    (fs_InvalidChain_InvalidAnswers : PySem.W.subIn K (.ref c_InvalidChain) (.ref c_InvalidAnswers) = some false)
    (fs_InvalidChain_TooMany : PySem.W.subIn K (.ref c_InvalidChain) (.ref c_TooMany) = some false)
    (fs_InvalidChain_CannotExchange : PySem.W.subIn K (.ref c_InvalidChain) (.ref c_CannotExchange) = some false)
    (fs_InvalidChain_IsEven : PySem.W.subIn K (.ref c_InvalidChain) (.ref c_IsEven) = some false)
    (fs_InvalidAnswers_InvalidChain : PySem.W.subIn K (.ref c_InvalidAnswers) (.ref c_InvalidChain) = some false)
    (fs_InvalidAnswers_InvalidNumber : PySem.W.subIn K (.ref c_InvalidAnswers) (.ref c_InvalidNumber) = some false)
    (fs_InvalidAnswers_InvalidOrder : PySem.W.subIn K (.ref c_InvalidAnswers) (.ref c_InvalidOrder) = some false)
    (fs_InvalidAnswers_Below : PySem.W.subIn K (.ref c_InvalidAnswers) (.ref c_Below) = some false)
    (fs_InvalidAnswers_NotBelow : PySem.W.subIn K (.ref c_InvalidAnswers) (.ref c_NotBelow) = some false)
    (fs_InvalidAnswers_TooMany : PySem.W.subIn K (.ref c_InvalidAnswers) (.ref c_TooMany) = some false)
    (fs_InvalidAnswers_CannotExchange : PySem.W.subIn K (.ref c_InvalidAnswers) (.ref c_CannotExchange) = some false)
    (fs_InvalidAnswers_IsEven : PySem.W.subIn K (.ref c_InvalidAnswers) (.ref c_IsEven) = some false)
    (fs_NotBelow_InvalidChain : PySem.W.subIn K (.ref c_NotBelow) (.ref c_InvalidChain) = some false)
    (fs_NotBelow_InvalidNumber : PySem.W.subIn K (.ref c_NotBelow) (.ref c_InvalidNumber) = some false)
    (fs_NotBelow_InvalidOrder : PySem.W.subIn K (.ref c_NotBelow) (.ref c_InvalidOrder) = some false)
    (fs_NotBelow_Below : PySem.W.subIn K (.ref c_NotBelow) (.ref c_Below) = some false)
    (fs_NotBelow_InvalidAnswers : PySem.W.subIn K (.ref c_NotBelow) (.ref c_InvalidAnswers) = some false)
    (fs_NotBelow_TooMany : PySem.W.subIn K (.ref c_NotBelow) (.ref c_TooMany) = some false)
    (fs_NotBelow_CannotExchange : PySem.W.subIn K (.ref c_NotBelow) (.ref c_CannotExchange) = some false)
    (fs_NotBelow_IsEven : PySem.W.subIn K (.ref c_NotBelow) (.ref c_IsEven) = some false)
    (fs_Below_InvalidChain : PySem.W.subIn K (.ref c_Below) (.ref c_InvalidChain) = some false)
    (fs_Below_InvalidNumber : PySem.W.subIn K (.ref c_Below) (.ref c_InvalidNumber) = some false)
    (fs_Below_InvalidOrder : PySem.W.subIn K (.ref c_Below) (.ref c_InvalidOrder) = some false)
    (fs_Below_NotBelow : PySem.W.subIn K (.ref c_Below) (.ref c_NotBelow) = some false)
    (fs_Below_InvalidAnswers : PySem.W.subIn K (.ref c_Below) (.ref c_InvalidAnswers) = some false)
    (fs_Below_TooMany : PySem.W.subIn K (.ref c_Below) (.ref c_TooMany) = some false)
    (fs_Below_CannotExchange : PySem.W.subIn K (.ref c_Below) (.ref c_CannotExchange) = some false)
    (fs_Below_IsEven : PySem.W.subIn K (.ref c_Below) (.ref c_IsEven) = some false)
    (fs_TooMany_InvalidChain : PySem.W.subIn K (.ref c_TooMany) (.ref c_InvalidChain) = some false)
    (fs_TooMany_InvalidNumber : PySem.W.subIn K (.ref c_TooMany) (.ref c_InvalidNumber) = some false)
    (fs_TooMany_InvalidOrder : PySem.W.subIn K (.ref c_TooMany) (.ref c_InvalidOrder) = some false)
    (fs_TooMany_Below : PySem.W.subIn K (.ref c_TooMany) (.ref c_Below) = some false)
    (fs_TooMany_NotBelow : PySem.W.subIn K (.ref c_TooMany) (.ref c_NotBelow) = some false)
    (fs_TooMany_InvalidAnswers : PySem.W.subIn K (.ref c_TooMany) (.ref c_InvalidAnswers) = some false)
    (fs_TooMany_CannotExchange : PySem.W.subIn K (.ref c_TooMany) (.ref c_CannotExchange) = some false)
    (fs_TooMany_IsEven : PySem.W.subIn K (.ref c_TooMany) (.ref c_IsEven) = some false)
    (fd_Below : PySem.W.hasDictIn K c_Below = true)
    (ft_Below : PySem.W.typeIn K (.ref c_Below) = some (.type "type"))
    (fb_Below : PySem.W.subIn K (.ref c_Below) (.type "BaseException") = some true)
    (fd_CannotExchange : PySem.W.hasDictIn K c_CannotExchange = true)
    (ft_CannotExchange : PySem.W.typeIn K (.ref c_CannotExchange) = some (.type "type"))
    (fb_CannotExchange : PySem.W.subIn K (.ref c_CannotExchange) (.type "BaseException") = some true)
    (fd_InvalidAnswers : PySem.W.hasDictIn K c_InvalidAnswers = true)
    (ft_InvalidAnswers : PySem.W.typeIn K (.ref c_InvalidAnswers) = some (.type "type"))
    (fb_InvalidAnswers : PySem.W.subIn K (.ref c_InvalidAnswers) (.type "BaseException") = some true)
    (fd_InvalidChain : PySem.W.hasDictIn K c_InvalidChain = true)
    (ft_InvalidChain : PySem.W.typeIn K (.ref c_InvalidChain) = some (.type "type"))
    (fb_InvalidChain : PySem.W.subIn K (.ref c_InvalidChain) (.type "BaseException") = some true)
    (fd_InvalidNumber : PySem.W.hasDictIn K c_InvalidNumber = true)
    (ft_InvalidNumber : PySem.W.typeIn K (.ref c_InvalidNumber) = some (.type "type"))
    (fb_InvalidNumber : PySem.W.subIn K (.ref c_InvalidNumber) (.type "BaseException") = some true)
    (fd_InvalidOrder : PySem.W.hasDictIn K c_InvalidOrder = true)
    (ft_InvalidOrder : PySem.W.typeIn K (.ref c_InvalidOrder) = some (.type "type"))
    (fb_InvalidOrder : PySem.W.subIn K (.ref c_InvalidOrder) (.type "BaseException") = some true)
    (fd_IsEven : PySem.W.hasDictIn K c_IsEven = true)
    (ft_IsEven : PySem.W.typeIn K (.ref c_IsEven) = some (.type "type"))
    (fb_IsEven : PySem.W.subIn K (.ref c_IsEven) (.type "BaseException") = some true)
    (fd_NotBelow : PySem.W.hasDictIn K c_NotBelow = true)
    (ft_NotBelow : PySem.W.typeIn K (.ref c_NotBelow) = some (.type "type"))
    (fb_NotBelow : PySem.W.subIn K (.ref c_NotBelow) (.type "BaseException") = some true)
    (fd_OrderError : PySem.W.hasDictIn K c_OrderError = true)
    (ft_OrderError : PySem.W.typeIn K (.ref c_OrderError) = some (.type "type"))
    (fb_OrderError : PySem.W.subIn K (.ref c_OrderError) (.type "BaseException") = some true)
    (fd_TooMany : PySem.W.hasDictIn K c_TooMany = true)
    (ft_TooMany : PySem.W.typeIn K (.ref c_TooMany) = some (.type "type"))
    (fb_TooMany : PySem.W.subIn K (.ref c_TooMany) (.type "BaseException") = some true)
    (e1_InvalidOrder : PySem.W.findIn K (.ref c_InvalidOrder) "__getattribute__" = some (some (.builtin "BaseException.__getattribute__")))
    (e2_InvalidOrder : PySem.W.findIn K (.ref c_InvalidOrder) "__getattr__" = some none)
    (e3_InvalidOrder : PySem.W.subIn K (.ref c_InvalidOrder) (.type "BaseException") = some true)
    (e4_InvalidOrder : PySem.W.hasDictIn K c_InvalidOrder = true)
    (e5_InvalidOrder : PySem.W.findIn K (.ref c_InvalidOrder) "__class__" = some (some (.builtin "object.__class__")))
    (e6_InvalidOrder : PySem.W.mroIn K c_InvalidOrder (.type "object") = some true)
    (e1_InvalidNumber : PySem.W.findIn K (.ref c_InvalidNumber) "__getattribute__" = some (some (.builtin "BaseException.__getattribute__")))
    (e2_InvalidNumber : PySem.W.findIn K (.ref c_InvalidNumber) "__getattr__" = some none)
    (e3_InvalidNumber : PySem.W.subIn K (.ref c_InvalidNumber) (.type "BaseException") = some true)
    (e4_InvalidNumber : PySem.W.hasDictIn K c_InvalidNumber = true)
    (e5_InvalidNumber : PySem.W.findIn K (.ref c_InvalidNumber) "__class__" = some (some (.builtin "object.__class__")))
    (e6_InvalidNumber : PySem.W.mroIn K c_InvalidNumber (.type "object") = some true)
    (e1_InvalidChain : PySem.W.findIn K (.ref c_InvalidChain) "__getattribute__" = some (some (.builtin "BaseException.__getattribute__")))
    (e2_InvalidChain : PySem.W.findIn K (.ref c_InvalidChain) "__getattr__" = some none)
    (e3_InvalidChain : PySem.W.subIn K (.ref c_InvalidChain) (.type "BaseException") = some true)
    (e4_InvalidChain : PySem.W.hasDictIn K c_InvalidChain = true)
    (e5_InvalidChain : PySem.W.findIn K (.ref c_InvalidChain) "__class__" = some (some (.builtin "object.__class__")))
    (e6_InvalidChain : PySem.W.mroIn K c_InvalidChain (.type "object") = some true)
    (e1_InvalidAnswers : PySem.W.findIn K (.ref c_InvalidAnswers) "__getattribute__" = some (some (.builtin "BaseException.__getattribute__")))
    (e2_InvalidAnswers : PySem.W.findIn K (.ref c_InvalidAnswers) "__getattr__" = some none)
    (e3_InvalidAnswers : PySem.W.subIn K (.ref c_InvalidAnswers) (.type "BaseException") = some true)
    (e4_InvalidAnswers : PySem.W.hasDictIn K c_InvalidAnswers = true)
    (e5_InvalidAnswers : PySem.W.findIn K (.ref c_InvalidAnswers) "__class__" = some (some (.builtin "object.__class__")))
    (e6_InvalidAnswers : PySem.W.mroIn K c_InvalidAnswers (.type "object") = some true)
    (e1_NotBelow : PySem.W.findIn K (.ref c_NotBelow) "__getattribute__" = some (some (.builtin "BaseException.__getattribute__")))
    (e2_NotBelow : PySem.W.findIn K (.ref c_NotBelow) "__getattr__" = some none)
    (e3_NotBelow : PySem.W.subIn K (.ref c_NotBelow) (.type "BaseException") = some true)
    (e4_NotBelow : PySem.W.hasDictIn K c_NotBelow = true)
    (e5_NotBelow : PySem.W.findIn K (.ref c_NotBelow) "__class__" = some (some (.builtin "object.__class__")))
    (e6_NotBelow : PySem.W.mroIn K c_NotBelow (.type "object") = some true)
    (e1_Below : PySem.W.findIn K (.ref c_Below) "__getattribute__" = some (some (.builtin "BaseException.__getattribute__")))
    (e2_Below : PySem.W.findIn K (.ref c_Below) "__getattr__" = some none)
    (e3_Below : PySem.W.subIn K (.ref c_Below) (.type "BaseException") = some true)
    (e4_Below : PySem.W.hasDictIn K c_Below = true)
    (e5_Below : PySem.W.findIn K (.ref c_Below) "__class__" = some (some (.builtin "object.__class__")))
    (e6_Below : PySem.W.mroIn K c_Below (.type "object") = some true)
    (e1_TooMany : PySem.W.findIn K (.ref c_TooMany) "__getattribute__" = some (some (.builtin "BaseException.__getattribute__")))
    (e2_TooMany : PySem.W.findIn K (.ref c_TooMany) "__getattr__" = some none)
    (e3_TooMany : PySem.W.subIn K (.ref c_TooMany) (.type "BaseException") = some true)
    (e4_TooMany : PySem.W.hasDictIn K c_TooMany = true)
    (e5_TooMany : PySem.W.findIn K (.ref c_TooMany) "__class__" = some (some (.builtin "object.__class__")))
    (e6_TooMany : PySem.W.mroIn K c_TooMany (.type "object") = some true)
    (e7 : PySem.W.specialIn K (.builtin "object.__class__") "__get__" = some (some (.builtin "getset_descriptor.__get__")))
    (e8 : PySem.W.takesIn K (.builtin "object.__class__") = some true)
    (z_bool : PySem.W.nsIn K mainGlobals "bool" = some none)
    (z_int : PySem.W.nsIn K mainGlobals "int" = some none)
    (z_isinstance : PySem.W.nsIn K mainGlobals "isinstance" = some none)
    (z_len : PySem.W.nsIn K mainGlobals "len" = some none)
    (z_list : PySem.W.nsIn K mainGlobals "list" = some none)
    (z_range : PySem.W.nsIn K mainGlobals "range" = some none)
    (z_set : PySem.W.nsIn K mainGlobals "set" = some none)
    (z_sorted : PySem.W.nsIn K mainGlobals "sorted" = some none)
    (z_tuple : PySem.W.nsIn K mainGlobals "tuple" = some none)
    (z_zip : PySem.W.nsIn K mainGlobals "zip" = some none)
    (g_MAX_SIZE : PySem.W.nsIn K mainGlobals "MAX_SIZE" = some (some (.int 6 t_MAX_SIZE)))
    (g_MAX_HIDDEN : PySem.W.nsIn K mainGlobals "MAX_HIDDEN" = some (some (.int 5 t_MAX_HIDDEN)))
    : ∃ fd : FuncData, (∀ (s : Shared) (v : Value), BindsTo s fd ⟨[v], []⟩ [("script", v)]) ∧ ∀ base : Heap, K.In base → base.Ns mainGlobals mg → FnOk l.prog w K mg base (L2.CX l.prog w) 8 fa fd ["script"] (spLaw K) := by
  have e := hfa.symm.trans (PySem.W.mg_of X G a_law)
  cases e
  refine ⟨PySem.W.fnOf "law" "law" (defArgs s_law) (defBody s_law) (defScope s_law) .none kV_law dc_law pm_law an_law cd_law ct_law, fun s v => .of_eq rfl, fun base _ _ => ?_⟩
  obtain ⟨ct, ect⟩ : ∃ ct : Nat → Addr, ct = ctOf [c_OrderError, 0, c_InvalidOrder, c_InvalidNumber, c_InvalidChain, c_InvalidAnswers, c_NotBelow, c_Below, c_IsEven, c_CannotExchange, c_TooMany] := ⟨_, rfl⟩
  have n_InvalidAnswers : mg "InvalidAnswers" = some (.ref (ct 5)) := by
    rw [ect]
    exact PySem.W.mg_of X G xa_InvalidAnswers
  have n_InvalidOrder : mg "InvalidOrder" = some (.ref (ct 2)) := by
    rw [ect]
    exact PySem.W.mg_of X G xa_InvalidOrder
  have n_CannotExchange : mg "CannotExchange" = some (.ref (ct 9)) := by
    rw [ect]
    exact PySem.W.mg_of X G xa_CannotExchange
  have n_Below : mg "Below" = some (.ref (ct 7)) := by
    rw [ect]
    exact PySem.W.mg_of X G xa_Below
  have n_OrderError : mg "OrderError" = some (.ref (ct 0)) := by
    rw [ect]
    exact PySem.W.mg_of X G xa_OrderError
  have n_InvalidNumber : mg "InvalidNumber" = some (.ref (ct 3)) := by
    rw [ect]
    exact PySem.W.mg_of X G xa_InvalidNumber
  have n_TooMany : mg "TooMany" = some (.ref (ct 10)) := by
    rw [ect]
    exact PySem.W.mg_of X G xa_TooMany
  have n_IsEven : mg "IsEven" = some (.ref (ct 8)) := by
    rw [ect]
    exact PySem.W.mg_of X G xa_IsEven
  have n_NotBelow : mg "NotBelow" = some (.ref (ct 6)) := by
    rw [ect]
    exact PySem.W.mg_of X G xa_NotBelow
  have n_InvalidChain : mg "InvalidChain" = some (.ref (ct 4)) := by
    rw [ect]
    exact PySem.W.mg_of X G xa_InvalidChain
  have xm_InvalidOrder_OrderError : PySem.W.exmOne K (.ref (ct 2)) (.ref (ct 0)) = some true := by
    rw [ect]
    exact PySem.W.exm_ref fb_OrderError fd_OrderError ft_OrderError fs_InvalidOrder_OrderError
  have xm_InvalidNumber_OrderError : PySem.W.exmOne K (.ref (ct 3)) (.ref (ct 0)) = some true := by
    rw [ect]
    exact PySem.W.exm_ref fb_OrderError fd_OrderError ft_OrderError fs_InvalidNumber_OrderError
  have xm_InvalidChain_OrderError : PySem.W.exmOne K (.ref (ct 4)) (.ref (ct 0)) = some true := by
    rw [ect]
    exact PySem.W.exm_ref fb_OrderError fd_OrderError ft_OrderError fs_InvalidChain_OrderError
  have xm_InvalidAnswers_OrderError : PySem.W.exmOne K (.ref (ct 5)) (.ref (ct 0)) = some true := by
    rw [ect]
    exact PySem.W.exm_ref fb_OrderError fd_OrderError ft_OrderError fs_InvalidAnswers_OrderError
  have xm_NotBelow_OrderError : PySem.W.exmOne K (.ref (ct 6)) (.ref (ct 0)) = some true := by
    rw [ect]
    exact PySem.W.exm_ref fb_OrderError fd_OrderError ft_OrderError fs_NotBelow_OrderError
  have xm_Below_OrderError : PySem.W.exmOne K (.ref (ct 7)) (.ref (ct 0)) = some true := by
    rw [ect]
    exact PySem.W.exm_ref fb_OrderError fd_OrderError ft_OrderError fs_Below_OrderError
  have xm_TooMany_OrderError : PySem.W.exmOne K (.ref (ct 10)) (.ref (ct 0)) = some true := by
    rw [ect]
    exact PySem.W.exm_ref fb_OrderError fd_OrderError ft_OrderError fs_TooMany_OrderError
  have kt_InvalidOrder_InvalidChain : PySem.W.kitOne K (.ref (ct 2)) (.ref (ct 4)) = some false := by
    rw [ect]
    exact kit_own fs_InvalidOrder_InvalidChain fs_InvalidOrder_InvalidOrder fd_InvalidChain ft_InvalidChain
  have kt_InvalidOrder_InvalidNumber : PySem.W.kitOne K (.ref (ct 2)) (.ref (ct 3)) = some false := by
    rw [ect]
    exact kit_own fs_InvalidOrder_InvalidNumber fs_InvalidOrder_InvalidOrder fd_InvalidNumber ft_InvalidNumber
  have kt_InvalidOrder_InvalidOrder : PySem.W.kitOne K (.ref (ct 2)) (.ref (ct 2)) = some true := by
    rw [ect]
    exact kit_own fs_InvalidOrder_InvalidOrder fs_InvalidOrder_InvalidOrder fd_InvalidOrder ft_InvalidOrder
  have kt_InvalidOrder_Below : PySem.W.kitOne K (.ref (ct 2)) (.ref (ct 7)) = some false := by
    rw [ect]
    exact kit_own fs_InvalidOrder_Below fs_InvalidOrder_InvalidOrder fd_Below ft_Below
  have kt_InvalidOrder_NotBelow : PySem.W.kitOne K (.ref (ct 2)) (.ref (ct 6)) = some false := by
    rw [ect]
    exact kit_own fs_InvalidOrder_NotBelow fs_InvalidOrder_InvalidOrder fd_NotBelow ft_NotBelow
  have kt_InvalidOrder_InvalidAnswers : PySem.W.kitOne K (.ref (ct 2)) (.ref (ct 5)) = some false := by
    rw [ect]
    exact kit_own fs_InvalidOrder_InvalidAnswers fs_InvalidOrder_InvalidOrder fd_InvalidAnswers ft_InvalidAnswers
  have kt_InvalidOrder_TooMany : PySem.W.kitOne K (.ref (ct 2)) (.ref (ct 10)) = some false := by
    rw [ect]
    exact kit_own fs_InvalidOrder_TooMany fs_InvalidOrder_InvalidOrder fd_TooMany ft_TooMany
  have kt_InvalidOrder_CannotExchange : PySem.W.kitOne K (.ref (ct 2)) (.ref (ct 9)) = some false := by
    rw [ect]
    exact kit_own fs_InvalidOrder_CannotExchange fs_InvalidOrder_InvalidOrder fd_CannotExchange ft_CannotExchange
  have kt_InvalidOrder_IsEven : PySem.W.kitOne K (.ref (ct 2)) (.ref (ct 8)) = some false := by
    rw [ect]
    exact kit_own fs_InvalidOrder_IsEven fs_InvalidOrder_InvalidOrder fd_IsEven ft_IsEven
  have kt_InvalidNumber_InvalidChain : PySem.W.kitOne K (.ref (ct 3)) (.ref (ct 4)) = some false := by
    rw [ect]
    exact kit_own fs_InvalidNumber_InvalidChain fs_InvalidNumber_InvalidNumber fd_InvalidChain ft_InvalidChain
  have kt_InvalidNumber_InvalidNumber : PySem.W.kitOne K (.ref (ct 3)) (.ref (ct 3)) = some true := by
    rw [ect]
    exact kit_own fs_InvalidNumber_InvalidNumber fs_InvalidNumber_InvalidNumber fd_InvalidNumber ft_InvalidNumber
  have kt_InvalidNumber_InvalidOrder : PySem.W.kitOne K (.ref (ct 3)) (.ref (ct 2)) = some false := by
    rw [ect]
    exact kit_own fs_InvalidNumber_InvalidOrder fs_InvalidNumber_InvalidNumber fd_InvalidOrder ft_InvalidOrder
  have kt_InvalidNumber_Below : PySem.W.kitOne K (.ref (ct 3)) (.ref (ct 7)) = some false := by
    rw [ect]
    exact kit_own fs_InvalidNumber_Below fs_InvalidNumber_InvalidNumber fd_Below ft_Below
  have kt_InvalidNumber_NotBelow : PySem.W.kitOne K (.ref (ct 3)) (.ref (ct 6)) = some false := by
    rw [ect]
    exact kit_own fs_InvalidNumber_NotBelow fs_InvalidNumber_InvalidNumber fd_NotBelow ft_NotBelow
  have kt_InvalidNumber_InvalidAnswers : PySem.W.kitOne K (.ref (ct 3)) (.ref (ct 5)) = some false := by
    rw [ect]
    exact kit_own fs_InvalidNumber_InvalidAnswers fs_InvalidNumber_InvalidNumber fd_InvalidAnswers ft_InvalidAnswers
  have kt_InvalidNumber_TooMany : PySem.W.kitOne K (.ref (ct 3)) (.ref (ct 10)) = some false := by
    rw [ect]
    exact kit_own fs_InvalidNumber_TooMany fs_InvalidNumber_InvalidNumber fd_TooMany ft_TooMany
  have kt_InvalidNumber_CannotExchange : PySem.W.kitOne K (.ref (ct 3)) (.ref (ct 9)) = some false := by
    rw [ect]
    exact kit_own fs_InvalidNumber_CannotExchange fs_InvalidNumber_InvalidNumber fd_CannotExchange ft_CannotExchange
  have kt_InvalidNumber_IsEven : PySem.W.kitOne K (.ref (ct 3)) (.ref (ct 8)) = some false := by
    rw [ect]
    exact kit_own fs_InvalidNumber_IsEven fs_InvalidNumber_InvalidNumber fd_IsEven ft_IsEven
  have kt_InvalidChain_InvalidChain : PySem.W.kitOne K (.ref (ct 4)) (.ref (ct 4)) = some true := by
    rw [ect]
    exact kit_own fs_InvalidChain_InvalidChain fs_InvalidChain_InvalidChain fd_InvalidChain ft_InvalidChain
  have kt_InvalidChain_InvalidNumber : PySem.W.kitOne K (.ref (ct 4)) (.ref (ct 3)) = some false := by
    rw [ect]
    exact kit_own fs_InvalidChain_InvalidNumber fs_InvalidChain_InvalidChain fd_InvalidNumber ft_InvalidNumber
  have kt_InvalidChain_InvalidOrder : PySem.W.kitOne K (.ref (ct 4)) (.ref (ct 2)) = some false := by
    rw [ect]
    exact kit_own fs_InvalidChain_InvalidOrder fs_InvalidChain_InvalidChain fd_InvalidOrder ft_InvalidOrder
  have kt_InvalidChain_Below : PySem.W.kitOne K (.ref (ct 4)) (.ref (ct 7)) = some false := by
    rw [ect]
    exact kit_own fs_InvalidChain_Below fs_InvalidChain_InvalidChain fd_Below ft_Below
  have kt_InvalidChain_NotBelow : PySem.W.kitOne K (.ref (ct 4)) (.ref (ct 6)) = some false := by
    rw [ect]
    exact kit_own fs_InvalidChain_NotBelow fs_InvalidChain_InvalidChain fd_NotBelow ft_NotBelow
  have kt_InvalidChain_InvalidAnswers : PySem.W.kitOne K (.ref (ct 4)) (.ref (ct 5)) = some false := by
    rw [ect]
    exact kit_own fs_InvalidChain_InvalidAnswers fs_InvalidChain_InvalidChain fd_InvalidAnswers ft_InvalidAnswers
  have kt_InvalidChain_TooMany : PySem.W.kitOne K (.ref (ct 4)) (.ref (ct 10)) = some false := by
    rw [ect]
    exact kit_own fs_InvalidChain_TooMany fs_InvalidChain_InvalidChain fd_TooMany ft_TooMany
  have kt_InvalidChain_CannotExchange : PySem.W.kitOne K (.ref (ct 4)) (.ref (ct 9)) = some false := by
    rw [ect]
    exact kit_own fs_InvalidChain_CannotExchange fs_InvalidChain_InvalidChain fd_CannotExchange ft_CannotExchange
  have kt_InvalidChain_IsEven : PySem.W.kitOne K (.ref (ct 4)) (.ref (ct 8)) = some false := by
    rw [ect]
    exact kit_own fs_InvalidChain_IsEven fs_InvalidChain_InvalidChain fd_IsEven ft_IsEven
  have kt_InvalidAnswers_InvalidChain : PySem.W.kitOne K (.ref (ct 5)) (.ref (ct 4)) = some false := by
    rw [ect]
    exact kit_own fs_InvalidAnswers_InvalidChain fs_InvalidAnswers_InvalidAnswers fd_InvalidChain ft_InvalidChain
  have kt_InvalidAnswers_InvalidNumber : PySem.W.kitOne K (.ref (ct 5)) (.ref (ct 3)) = some false := by
    rw [ect]
    exact kit_own fs_InvalidAnswers_InvalidNumber fs_InvalidAnswers_InvalidAnswers fd_InvalidNumber ft_InvalidNumber
  have kt_InvalidAnswers_InvalidOrder : PySem.W.kitOne K (.ref (ct 5)) (.ref (ct 2)) = some false := by
    rw [ect]
    exact kit_own fs_InvalidAnswers_InvalidOrder fs_InvalidAnswers_InvalidAnswers fd_InvalidOrder ft_InvalidOrder
  have kt_InvalidAnswers_Below : PySem.W.kitOne K (.ref (ct 5)) (.ref (ct 7)) = some false := by
    rw [ect]
    exact kit_own fs_InvalidAnswers_Below fs_InvalidAnswers_InvalidAnswers fd_Below ft_Below
  have kt_InvalidAnswers_NotBelow : PySem.W.kitOne K (.ref (ct 5)) (.ref (ct 6)) = some false := by
    rw [ect]
    exact kit_own fs_InvalidAnswers_NotBelow fs_InvalidAnswers_InvalidAnswers fd_NotBelow ft_NotBelow
  have kt_InvalidAnswers_InvalidAnswers : PySem.W.kitOne K (.ref (ct 5)) (.ref (ct 5)) = some true := by
    rw [ect]
    exact kit_own fs_InvalidAnswers_InvalidAnswers fs_InvalidAnswers_InvalidAnswers fd_InvalidAnswers ft_InvalidAnswers
  have kt_InvalidAnswers_TooMany : PySem.W.kitOne K (.ref (ct 5)) (.ref (ct 10)) = some false := by
    rw [ect]
    exact kit_own fs_InvalidAnswers_TooMany fs_InvalidAnswers_InvalidAnswers fd_TooMany ft_TooMany
  have kt_InvalidAnswers_CannotExchange : PySem.W.kitOne K (.ref (ct 5)) (.ref (ct 9)) = some false := by
    rw [ect]
    exact kit_own fs_InvalidAnswers_CannotExchange fs_InvalidAnswers_InvalidAnswers fd_CannotExchange ft_CannotExchange
  have kt_InvalidAnswers_IsEven : PySem.W.kitOne K (.ref (ct 5)) (.ref (ct 8)) = some false := by
    rw [ect]
    exact kit_own fs_InvalidAnswers_IsEven fs_InvalidAnswers_InvalidAnswers fd_IsEven ft_IsEven
  have kt_NotBelow_InvalidChain : PySem.W.kitOne K (.ref (ct 6)) (.ref (ct 4)) = some false := by
    rw [ect]
    exact kit_own fs_NotBelow_InvalidChain fs_NotBelow_NotBelow fd_InvalidChain ft_InvalidChain
  have kt_NotBelow_InvalidNumber : PySem.W.kitOne K (.ref (ct 6)) (.ref (ct 3)) = some false := by
    rw [ect]
    exact kit_own fs_NotBelow_InvalidNumber fs_NotBelow_NotBelow fd_InvalidNumber ft_InvalidNumber
  have kt_NotBelow_InvalidOrder : PySem.W.kitOne K (.ref (ct 6)) (.ref (ct 2)) = some false := by
    rw [ect]
    exact kit_own fs_NotBelow_InvalidOrder fs_NotBelow_NotBelow fd_InvalidOrder ft_InvalidOrder
  have kt_NotBelow_Below : PySem.W.kitOne K (.ref (ct 6)) (.ref (ct 7)) = some false := by
    rw [ect]
    exact kit_own fs_NotBelow_Below fs_NotBelow_NotBelow fd_Below ft_Below
  have kt_NotBelow_NotBelow : PySem.W.kitOne K (.ref (ct 6)) (.ref (ct 6)) = some true := by
    rw [ect]
    exact kit_own fs_NotBelow_NotBelow fs_NotBelow_NotBelow fd_NotBelow ft_NotBelow
  have kt_NotBelow_InvalidAnswers : PySem.W.kitOne K (.ref (ct 6)) (.ref (ct 5)) = some false := by
    rw [ect]
    exact kit_own fs_NotBelow_InvalidAnswers fs_NotBelow_NotBelow fd_InvalidAnswers ft_InvalidAnswers
  have kt_NotBelow_TooMany : PySem.W.kitOne K (.ref (ct 6)) (.ref (ct 10)) = some false := by
    rw [ect]
    exact kit_own fs_NotBelow_TooMany fs_NotBelow_NotBelow fd_TooMany ft_TooMany
  have kt_NotBelow_CannotExchange : PySem.W.kitOne K (.ref (ct 6)) (.ref (ct 9)) = some false := by
    rw [ect]
    exact kit_own fs_NotBelow_CannotExchange fs_NotBelow_NotBelow fd_CannotExchange ft_CannotExchange
  have kt_NotBelow_IsEven : PySem.W.kitOne K (.ref (ct 6)) (.ref (ct 8)) = some false := by
    rw [ect]
    exact kit_own fs_NotBelow_IsEven fs_NotBelow_NotBelow fd_IsEven ft_IsEven
  have kt_Below_InvalidChain : PySem.W.kitOne K (.ref (ct 7)) (.ref (ct 4)) = some false := by
    rw [ect]
    exact kit_own fs_Below_InvalidChain fs_Below_Below fd_InvalidChain ft_InvalidChain
  have kt_Below_InvalidNumber : PySem.W.kitOne K (.ref (ct 7)) (.ref (ct 3)) = some false := by
    rw [ect]
    exact kit_own fs_Below_InvalidNumber fs_Below_Below fd_InvalidNumber ft_InvalidNumber
  have kt_Below_InvalidOrder : PySem.W.kitOne K (.ref (ct 7)) (.ref (ct 2)) = some false := by
    rw [ect]
    exact kit_own fs_Below_InvalidOrder fs_Below_Below fd_InvalidOrder ft_InvalidOrder
  have kt_Below_Below : PySem.W.kitOne K (.ref (ct 7)) (.ref (ct 7)) = some true := by
    rw [ect]
    exact kit_own fs_Below_Below fs_Below_Below fd_Below ft_Below
  have kt_Below_NotBelow : PySem.W.kitOne K (.ref (ct 7)) (.ref (ct 6)) = some false := by
    rw [ect]
    exact kit_own fs_Below_NotBelow fs_Below_Below fd_NotBelow ft_NotBelow
  have kt_Below_InvalidAnswers : PySem.W.kitOne K (.ref (ct 7)) (.ref (ct 5)) = some false := by
    rw [ect]
    exact kit_own fs_Below_InvalidAnswers fs_Below_Below fd_InvalidAnswers ft_InvalidAnswers
  have kt_Below_TooMany : PySem.W.kitOne K (.ref (ct 7)) (.ref (ct 10)) = some false := by
    rw [ect]
    exact kit_own fs_Below_TooMany fs_Below_Below fd_TooMany ft_TooMany
  have kt_Below_CannotExchange : PySem.W.kitOne K (.ref (ct 7)) (.ref (ct 9)) = some false := by
    rw [ect]
    exact kit_own fs_Below_CannotExchange fs_Below_Below fd_CannotExchange ft_CannotExchange
  have kt_Below_IsEven : PySem.W.kitOne K (.ref (ct 7)) (.ref (ct 8)) = some false := by
    rw [ect]
    exact kit_own fs_Below_IsEven fs_Below_Below fd_IsEven ft_IsEven
  have kt_TooMany_InvalidChain : PySem.W.kitOne K (.ref (ct 10)) (.ref (ct 4)) = some false := by
    rw [ect]
    exact kit_own fs_TooMany_InvalidChain fs_TooMany_TooMany fd_InvalidChain ft_InvalidChain
  have kt_TooMany_InvalidNumber : PySem.W.kitOne K (.ref (ct 10)) (.ref (ct 3)) = some false := by
    rw [ect]
    exact kit_own fs_TooMany_InvalidNumber fs_TooMany_TooMany fd_InvalidNumber ft_InvalidNumber
  have kt_TooMany_InvalidOrder : PySem.W.kitOne K (.ref (ct 10)) (.ref (ct 2)) = some false := by
    rw [ect]
    exact kit_own fs_TooMany_InvalidOrder fs_TooMany_TooMany fd_InvalidOrder ft_InvalidOrder
  have kt_TooMany_Below : PySem.W.kitOne K (.ref (ct 10)) (.ref (ct 7)) = some false := by
    rw [ect]
    exact kit_own fs_TooMany_Below fs_TooMany_TooMany fd_Below ft_Below
  have kt_TooMany_NotBelow : PySem.W.kitOne K (.ref (ct 10)) (.ref (ct 6)) = some false := by
    rw [ect]
    exact kit_own fs_TooMany_NotBelow fs_TooMany_TooMany fd_NotBelow ft_NotBelow
  have kt_TooMany_InvalidAnswers : PySem.W.kitOne K (.ref (ct 10)) (.ref (ct 5)) = some false := by
    rw [ect]
    exact kit_own fs_TooMany_InvalidAnswers fs_TooMany_TooMany fd_InvalidAnswers ft_InvalidAnswers
  have kt_TooMany_TooMany : PySem.W.kitOne K (.ref (ct 10)) (.ref (ct 10)) = some true := by
    rw [ect]
    exact kit_own fs_TooMany_TooMany fs_TooMany_TooMany fd_TooMany ft_TooMany
  have kt_TooMany_CannotExchange : PySem.W.kitOne K (.ref (ct 10)) (.ref (ct 9)) = some false := by
    rw [ect]
    exact kit_own fs_TooMany_CannotExchange fs_TooMany_TooMany fd_CannotExchange ft_CannotExchange
  have kt_TooMany_IsEven : PySem.W.kitOne K (.ref (ct 10)) (.ref (ct 8)) = some false := by
    rw [ect]
    exact kit_own fs_TooMany_IsEven fs_TooMany_TooMany fd_IsEven ft_IsEven
  have ec_InvalidOrder : ExcC K (ct 2) := by
    rw [ect]
    exact ⟨e1_InvalidOrder, e2_InvalidOrder, e3_InvalidOrder, e4_InvalidOrder, e5_InvalidOrder, e7, e8, e6_InvalidOrder⟩
  have ec_InvalidNumber : ExcC K (ct 3) := by
    rw [ect]
    exact ⟨e1_InvalidNumber, e2_InvalidNumber, e3_InvalidNumber, e4_InvalidNumber, e5_InvalidNumber, e7, e8, e6_InvalidNumber⟩
  have ec_InvalidChain : ExcC K (ct 4) := by
    rw [ect]
    exact ⟨e1_InvalidChain, e2_InvalidChain, e3_InvalidChain, e4_InvalidChain, e5_InvalidChain, e7, e8, e6_InvalidChain⟩
  have ec_InvalidAnswers : ExcC K (ct 5) := by
    rw [ect]
    exact ⟨e1_InvalidAnswers, e2_InvalidAnswers, e3_InvalidAnswers, e4_InvalidAnswers, e5_InvalidAnswers, e7, e8, e6_InvalidAnswers⟩
  have ec_NotBelow : ExcC K (ct 6) := by
    rw [ect]
    exact ⟨e1_NotBelow, e2_NotBelow, e3_NotBelow, e4_NotBelow, e5_NotBelow, e7, e8, e6_NotBelow⟩
  have ec_Below : ExcC K (ct 7) := by
    rw [ect]
    exact ⟨e1_Below, e2_Below, e3_Below, e4_Below, e5_Below, e7, e8, e6_Below⟩
  have ec_TooMany : ExcC K (ct 10) := by
    rw [ect]
    exact ⟨e1_TooMany, e2_TooMany, e3_TooMany, e4_TooMany, e5_TooMany, e7, e8, e6_TooMany⟩
  have X_InvalidOrder : XcT K mg "InvalidOrder" (ct 2) := by
    rw [ect]
    exact ⟨PySem.W.mg_of X G xa_InvalidOrder, xe_InvalidOrder, xk_InvalidOrder, xs_InvalidOrder, xt_InvalidOrder⟩
  have X_InvalidNumber : XcT K mg "InvalidNumber" (ct 3) := by
    rw [ect]
    exact ⟨PySem.W.mg_of X G xa_InvalidNumber, xe_InvalidNumber, xk_InvalidNumber, xs_InvalidNumber, xt_InvalidNumber⟩
  have X_InvalidChain : XcT K mg "InvalidChain" (ct 4) := by
    rw [ect]
    exact ⟨PySem.W.mg_of X G xa_InvalidChain, xe_InvalidChain, xk_InvalidChain, xs_InvalidChain, xt_InvalidChain⟩
  have X_InvalidAnswers : XcT K mg "InvalidAnswers" (ct 5) := by
    rw [ect]
    exact ⟨PySem.W.mg_of X G xa_InvalidAnswers, xe_InvalidAnswers, xk_InvalidAnswers, xs_InvalidAnswers, xt_InvalidAnswers⟩
  have X_NotBelow : XcT K mg "NotBelow" (ct 6) := by
    rw [ect]
    exact ⟨PySem.W.mg_of X G xa_NotBelow, xe_NotBelow, xk_NotBelow, xs_NotBelow, xt_NotBelow⟩
  have b_bool := PySem.W.mg_none_of X G z_bool
  have b_int := PySem.W.mg_none_of X G z_int
  have b_isinstance := PySem.W.mg_none_of X G z_isinstance
  have b_len := PySem.W.mg_none_of X G z_len
  have b_list := PySem.W.mg_none_of X G z_list
  have b_range := PySem.W.mg_none_of X G z_range
  have b_set := PySem.W.mg_none_of X G z_set
  have b_sorted := PySem.W.mg_none_of X G z_sorted
  have b_tuple := PySem.W.mg_none_of X G z_tuple
  have b_zip := PySem.W.mg_none_of X G z_zip
  have k_MAX_SIZE := PySem.W.mg_of X G g_MAX_SIZE
  have k_MAX_HIDDEN := PySem.W.mg_of X G g_MAX_HIDDEN
  have F__law_cell := fun_mk (st := s__law_cell) l__law_cell co__law_cell ke__law_cell
  have B__law_cell := F__law_cell.binds (ps := ["script", "k"]) fun _ _ _ _ _ _ us hl => match us, hl with | [_, _], _ => rfl
  have C__law_cell : CallT l.prog w K mg base ct "_law_cell" 1 m__law_cell := ⟨_, _, _, PySem.W.mg_of X G a__law_cell, ke__law_cell, B__law_cell, ok__law_cell F__law_cell b_len⟩
  have F_in_range := fun_mk (st := s_in_range) l_in_range co_in_range ke_in_range
  have B_in_range := F_in_range.binds (ps := ["value", "low", "high"]) fun _ _ _ _ _ _ us hl => match us, hl with | [_, _, _], _ => rfl
  have C_in_range : CallT l.prog w K mg base ct "in_range" 1 m_in_range := ⟨_, _, _, PySem.W.mg_of X G a_in_range, ke_in_range, B_in_range, ok_in_range F_in_range b_isinstance b_int b_bool⟩
  have F_is_order := fun_mk (st := s_is_order) l_is_order co_is_order ke_is_order
  have B_is_order := F_is_order.binds (ps := ["value"]) fun _ _ _ _ _ _ us hl => match us, hl with | [_], _ => rfl
  have C_is_order : CallT l.prog w K mg base ct "is_order" 2 m_is_order := ⟨_, _, _, PySem.W.mg_of X G a_is_order, ke_is_order, B_is_order, ok_is_order F_is_order b_isinstance b_tuple b_len b_set k_MAX_SIZE C_in_range⟩
  have F_check_order := fun_mk (st := s_check_order) l_check_order co_check_order ke_check_order
  have B_check_order := F_check_order.binds (ps := ["order"]) fun _ _ _ _ _ _ us hl => match us, hl with | [_], _ => rfl
  have C_check_order : CallT l.prog w K mg base ct "check_order" 3 m_check_order := ⟨_, _, _, PySem.W.mg_of X G a_check_order, ke_check_order, B_check_order, ok_check_order F_check_order C_is_order X_InvalidOrder⟩
  have F_great_count := fun_mk (st := s_great_count) l_great_count co_great_count ke_great_count
  have B_great_count := F_great_count.binds (ps := ["order", "first", "value"]) fun _ _ _ _ _ _ us hl => match us, hl with | [_, _, _], _ => rfl
  have C_great_count : CallT l.prog w K mg base ct "great_count" 4 m_great_count := ⟨_, _, _, PySem.W.mg_of X G a_great_count, ke_great_count, B_great_count, ok_great_count F_great_count b_len C_check_order C_in_range X_InvalidNumber⟩
  have F_check_pair := fun_mk (st := s_check_pair) l_check_pair co_check_pair ke_check_pair
  have B_check_pair := F_check_pair.binds (ps := ["one", "other"]) fun _ _ _ _ _ _ us hl => match us, hl with | [_, _], _ => rfl
  have C_check_pair : CallT l.prog w K mg base ct "check_pair" 4 m_check_pair := ⟨_, _, _, PySem.W.mg_of X G a_check_pair, ke_check_pair, B_check_pair, ok_check_pair F_check_pair b_len C_check_order C_is_order X_InvalidOrder⟩
  have F_is_below := fun_mk (st := s_is_below) l_is_below co_is_below ke_is_below
  have B_is_below := F_is_below.binds (ps := ["one", "other"]) fun _ _ _ _ _ _ us hl => match us, hl with | [_, _], _ => rfl
  have C_is_below : CallT l.prog w K mg base ct "is_below" 5 m_is_below := ⟨_, _, _, PySem.W.mg_of X G a_is_below, ke_is_below, B_is_below, ok_is_below F_is_below C_check_pair⟩
  have F_paper := fun_mk (st := s_paper) l_paper co_paper ke_paper
  have B_paper := F_paper.binds (ps := ["one", "other"]) fun _ _ _ _ _ _ us hl => match us, hl with | [_, _], _ => rfl
  have C_paper : CallT l.prog w K mg base ct "paper" 5 m_paper := ⟨_, _, _, PySem.W.mg_of X G a_paper, ke_paper, B_paper, ok_paper F_paper C_check_pair⟩
  have F_is_paper := fun_mk (st := s_is_paper) l_is_paper co_is_paper ke_is_paper
  have B_is_paper := F_is_paper.binds (ps := ["one", "other", "value"]) fun _ _ _ _ _ _ us hl => match us, hl with | [_, _, _], _ => rfl
  have C_is_paper : CallT l.prog w K mg base ct "is_paper" 5 m_is_paper := ⟨_, _, _, PySem.W.mg_of X G a_is_paper, ke_is_paper, B_is_paper, ok_is_paper F_is_paper C_check_pair⟩
  have F_way_up := fun_mk (st := s_way_up) l_way_up co_way_up ke_way_up
  have B_way_up := F_way_up.binds (ps := ["one", "other"]) fun _ _ _ _ _ _ us hl => match us, hl with | [_, _], _ => rfl
  have C_way_up : CallT l.prog w K mg base ct "way_up" 5 m_way_up := ⟨_, _, _, PySem.W.mg_of X G a_way_up, ke_way_up, B_way_up, ok_way_up F_way_up C_check_pair⟩
  have F_great_of := fun_mk (st := s_great_of) l_great_of co_great_of ke_great_of
  have B_great_of := F_great_of.binds (ps := ["order", "first", "value"]) fun _ _ _ _ _ _ us hl => match us, hl with | [_, _, _], _ => rfl
  have C_great_of : CallT l.prog w K mg base ct "great_of" 1 m_great_of := ⟨_, _, _, PySem.W.mg_of X G a_great_of, ke_great_of, B_great_of, ok_great_of F_great_of b_len⟩
  have F_first_fault := fun_mk (st := s_first_fault) l_first_fault co_first_fault ke_first_fault
  have B_first_fault := F_first_fault.binds (ps := ["one", "other"]) fun _ _ _ _ _ _ us hl => match us, hl with | [_, _], _ => rfl
  have C_first_fault : CallT l.prog w K mg base ct "first_fault" 2 m_first_fault := ⟨_, _, _, PySem.W.mg_of X G a_first_fault, ke_first_fault, B_first_fault, ok_first_fault F_first_fault b_range b_len C_great_of⟩
  have F_check_below := fun_mk (st := s_check_below) l_check_below co_check_below ke_check_below
  have B_check_below := F_check_below.binds (ps := ["one", "other"]) fun _ _ _ _ _ _ us hl => match us, hl with | [_, _], _ => rfl
  have C_check_below : CallT l.prog w K mg base ct "check_below" 5 m_check_below := ⟨_, _, _, PySem.W.mg_of X G a_check_below, ke_check_below, B_check_below, ok_check_below F_check_below C_check_pair C_first_fault X_NotBelow⟩
  have F_between := fun_mk (st := s_between) l_between co_between ke_between
  have B_between := F_between.binds (ps := ["one", "other"]) fun _ _ _ _ _ _ us hl => match us, hl with | [_, _], _ => rfl
  have C_between : CallT l.prog w K mg base ct "between" 6 m_between := ⟨_, _, _, PySem.W.mg_of X G a_between, ke_between, B_between, ok_between F_between C_check_below⟩
  have F_exchanged := fun_mk (st := s_exchanged) l_exchanged co_exchanged ke_exchanged
  have B_exchanged := F_exchanged.binds (ps := ["order", "place", "later"]) fun _ _ _ _ _ _ us hl => match us, hl with | [_, _, _], _ => rfl
  have C_exchanged : CallT l.prog w K mg base ct "exchanged" 1 m_exchanged := ⟨_, _, _, PySem.W.mg_of X G a_exchanged, ke_exchanged, B_exchanged, ok_exchanged F_exchanged b_list b_tuple⟩
  have F_steps_up := fun_mk (st := s_steps_up) l_steps_up co_steps_up ke_steps_up
  have B_steps_up := F_steps_up.binds (ps := ["order"]) fun _ _ _ _ _ _ us hl => match us, hl with | [_], _ => rfl
  have C_steps_up : CallT l.prog w K mg base ct "steps_up" 2 m_steps_up := ⟨_, _, _, PySem.W.mg_of X G a_steps_up, ke_steps_up, B_steps_up, ok_steps_up F_steps_up b_range b_len b_sorted C_exchanged⟩
  have F_is_step := fun_mk (st := s_is_step) l_is_step co_is_step ke_is_step
  have B_is_step := F_is_step.binds (ps := ["one", "other"]) fun _ _ _ _ _ _ us hl => match us, hl with | [_, _], _ => rfl
  have C_is_step : CallT l.prog w K mg base ct "is_step" 3 m_is_step := ⟨_, _, _, PySem.W.mg_of X G a_is_step, ke_is_step, B_is_step, ok_is_step F_is_step C_steps_up⟩
  have F_is_chain := fun_mk (st := s_is_chain) l_is_chain co_is_chain ke_is_chain
  have B_is_chain := F_is_chain.binds (ps := ["value"]) fun _ _ _ _ _ _ us hl => match us, hl with | [_], _ => rfl
  have C_is_chain : CallT l.prog w K mg base ct "is_chain" 4 m_is_chain := ⟨_, _, _, PySem.W.mg_of X G a_is_chain, ke_is_chain, B_is_chain, ok_is_chain F_is_chain b_isinstance b_list b_zip C_is_order C_is_step⟩
  have F_change_at := fun_mk (st := s_change_at) l_change_at co_change_at ke_change_at
  have B_change_at := F_change_at.binds (ps := ["chain", "place"]) fun _ _ _ _ _ _ us hl => match us, hl with | [_, _], _ => rfl
  have C_change_at : CallT l.prog w K mg base ct "change_at" 5 m_change_at := ⟨_, _, _, PySem.W.mg_of X G a_change_at, ke_change_at, B_change_at, ok_change_at F_change_at C_is_chain X_InvalidChain⟩
  have F_chain_road := fun_mk (st := s_chain_road) l_chain_road co_chain_road ke_chain_road
  have B_chain_road := F_chain_road.binds (ps := ["one", "other"]) fun _ _ _ _ _ _ us hl => match us, hl with | [_, _], _ => rfl
  have C_chain_road : CallT l.prog w K mg base ct "chain_road" 5 m_chain_road := ⟨_, _, _, PySem.W.mg_of X G a_chain_road, ke_chain_road, B_chain_road, ok_chain_road F_chain_road C_is_chain X_InvalidChain⟩
  have F_check_answers := fun_mk (st := s_check_answers) l_check_answers co_check_answers ke_check_answers
  have B_check_answers := F_check_answers.binds (ps := ["size", "answers"]) fun _ _ _ _ _ _ us hl => match us, hl with | [_, _], _ => rfl
  have C_check_answers : CallT l.prog w K mg base ct "check_answers" 2 m_check_answers := ⟨_, _, _, PySem.W.mg_of X G a_check_answers, ke_check_answers, B_check_answers, ok_check_answers F_check_answers b_isinstance b_tuple b_len k_MAX_HIDDEN C_in_range X_InvalidNumber X_InvalidAnswers⟩
  have F_candidates := fun_mk (st := s_candidates) l_candidates co_candidates ke_candidates
  have B_candidates := F_candidates.binds (ps := ["size", "answers"]) fun _ _ _ _ _ _ us hl => match us, hl with | [_, _], _ => rfl
  have C_candidates : CallT l.prog w K mg base ct "candidates" 3 m_candidates := ⟨_, _, _, PySem.W.mg_of X G a_candidates, ke_candidates, B_candidates, ok_candidates F_candidates C_check_answers⟩
  have F_best_question := fun_mk (st := s_best_question) l_best_question co_best_question ke_best_question
  have B_best_question := F_best_question.binds (ps := ["size", "answers"]) fun _ _ _ _ _ _ us hl => match us, hl with | [_, _], _ => rfl
  have C_best_question : CallT l.prog w K mg base ct "best_question" 4 m_best_question := ⟨_, _, _, PySem.W.mg_of X G a_best_question, ke_best_question, B_best_question, ok_best_question F_best_question C_candidates⟩
  have F_is_pattern_at := fun_mk (st := s_is_pattern_at) l_is_pattern_at co_is_pattern_at ke_is_pattern_at
  have B_is_pattern_at := F_is_pattern_at.binds (ps := ["order", "value"]) fun _ _ _ _ _ _ us hl => match us, hl with | [_, _], _ => rfl
  have C_is_pattern_at : CallT l.prog w K mg base ct "is_pattern_at" 4 m_is_pattern_at := ⟨_, _, _, PySem.W.mg_of X G a_is_pattern_at, ke_is_pattern_at, B_is_pattern_at, ok_is_pattern_at F_is_pattern_at C_check_order⟩
  have F__law_asked := fun_mk (st := s__law_asked) l__law_asked co__law_asked ke__law_asked
  have B__law_asked := F__law_asked.binds (ps := ["mode", "odd"]) fun _ _ _ _ _ _ us hl => match us, hl with | [_, _], _ => rfl
  have C__law_asked : CallT l.prog w K mg base ct "_law_asked" 7 m__law_asked := ⟨_, _, _, PySem.W.mg_of X G a__law_asked, ke__law_asked, B__law_asked, ok__law_asked F__law_asked C_great_count C_is_below C_paper C_is_paper C_way_up C_between C_change_at C_chain_road C_candidates C_best_question C_is_pattern_at⟩
  have F_law := fun_mk (st := s_law) l_law co_law ke_law
  exact law_fn (ct := ct) (ok_law (P := l.prog) (w := w) (base := base) F_law b_isinstance b_range C__law_cell C__law_asked n_OrderError n_InvalidChain n_InvalidNumber n_InvalidOrder n_Below n_NotBelow n_InvalidAnswers n_TooMany n_CannotExchange n_IsEven xm_InvalidOrder_OrderError xm_InvalidNumber_OrderError xm_InvalidChain_OrderError xm_InvalidAnswers_OrderError xm_NotBelow_OrderError xm_Below_OrderError xm_TooMany_OrderError kt_InvalidOrder_InvalidChain kt_InvalidOrder_InvalidNumber kt_InvalidOrder_InvalidOrder kt_InvalidOrder_Below kt_InvalidOrder_NotBelow kt_InvalidOrder_InvalidAnswers kt_InvalidOrder_TooMany kt_InvalidOrder_CannotExchange kt_InvalidOrder_IsEven kt_InvalidNumber_InvalidChain kt_InvalidNumber_InvalidNumber kt_InvalidNumber_InvalidOrder kt_InvalidNumber_Below kt_InvalidNumber_NotBelow kt_InvalidNumber_InvalidAnswers kt_InvalidNumber_TooMany kt_InvalidNumber_CannotExchange kt_InvalidNumber_IsEven kt_InvalidChain_InvalidChain kt_InvalidChain_InvalidNumber kt_InvalidChain_InvalidOrder kt_InvalidChain_Below kt_InvalidChain_NotBelow kt_InvalidChain_InvalidAnswers kt_InvalidChain_TooMany kt_InvalidChain_CannotExchange kt_InvalidChain_IsEven kt_InvalidAnswers_InvalidChain kt_InvalidAnswers_InvalidNumber kt_InvalidAnswers_InvalidOrder kt_InvalidAnswers_Below kt_InvalidAnswers_NotBelow kt_InvalidAnswers_InvalidAnswers kt_InvalidAnswers_TooMany kt_InvalidAnswers_CannotExchange kt_InvalidAnswers_IsEven kt_NotBelow_InvalidChain kt_NotBelow_InvalidNumber kt_NotBelow_InvalidOrder kt_NotBelow_Below kt_NotBelow_NotBelow kt_NotBelow_InvalidAnswers kt_NotBelow_TooMany kt_NotBelow_CannotExchange kt_NotBelow_IsEven kt_Below_InvalidChain kt_Below_InvalidNumber kt_Below_InvalidOrder kt_Below_Below kt_Below_NotBelow kt_Below_InvalidAnswers kt_Below_TooMany kt_Below_CannotExchange kt_Below_IsEven kt_TooMany_InvalidChain kt_TooMany_InvalidNumber kt_TooMany_InvalidOrder kt_TooMany_Below kt_TooMany_NotBelow kt_TooMany_InvalidAnswers kt_TooMany_TooMany kt_TooMany_CannotExchange kt_TooMany_IsEven ec_InvalidOrder ec_InvalidNumber ec_InvalidChain ec_InvalidAnswers ec_NotBelow ec_Below ec_TooMany) law_true
end Lw
open PySem PySem.W PyProof.Rows in
set_option maxRecDepth 100000 in
set_option maxHeartbeats 0 in
theorem PySem.Challenge.cw_lowerorders_k20_first_exception_holds : PySem.Challenge.rw_lowerorders_k20_first_exception.Holds := by
  w_on; o_law; k_head; (case hw => w_witness2)
  k_fill
  refine VL.walk_end (l := PySem.Challenge.rw_lowerorders_k20_first_exception) 8 rfl rfl ⟨rfl, by decide, by decide⟩ (fun w h Y => PySem.W.kIn_of Y) ?F
  case F =>
    intro w mg fa h KX G hmg
    refine' Lw.all_mk KX G hmg ?a_in_range ?l_in_range ?co_in_range ?ke_in_range ?a_is_order ?l_is_order ?co_is_order ?ke_is_order ?a_check_order ?l_check_order ?co_check_order ?ke_check_order ?a_check_pair ?l_check_pair ?co_check_pair ?ke_check_pair ?a_great_of ?l_great_of ?co_great_of ?ke_great_of ?a_great_count ?l_great_count ?co_great_count ?ke_great_count ?a_exchanged ?l_exchanged ?co_exchanged ?ke_exchanged ?a_first_fault ?l_first_fault ?co_first_fault ?ke_first_fault ?a_is_below ?l_is_below ?co_is_below ?ke_is_below ?a_paper ?l_paper ?co_paper ?ke_paper ?a_is_paper ?l_is_paper ?co_is_paper ?ke_is_paper ?a_steps_up ?l_steps_up ?co_steps_up ?ke_steps_up ?a_way_up ?l_way_up ?co_way_up ?ke_way_up ?a_check_below ?l_check_below ?co_check_below ?ke_check_below ?a_between ?l_between ?co_between ?ke_between ?a_is_step ?l_is_step ?co_is_step ?ke_is_step ?a_is_chain ?l_is_chain ?co_is_chain ?ke_is_chain ?a_change_at ?l_change_at ?co_change_at ?ke_change_at ?a_chain_road ?l_chain_road ?co_chain_road ?ke_chain_road ?a_check_answers ?l_check_answers ?co_check_answers ?ke_check_answers ?a_candidates ?l_candidates ?co_candidates ?ke_candidates ?a_best_question ?l_best_question ?co_best_question ?ke_best_question ?a_is_pattern_at ?l_is_pattern_at ?co_is_pattern_at ?ke_is_pattern_at ?a__law_cell ?l__law_cell ?co__law_cell ?ke__law_cell ?a__law_asked ?l__law_asked ?co__law_asked ?ke__law_asked ?a_law ?l_law ?co_law ?ke_law ?xa_OrderError ?xa_InvalidOrder ?xe_InvalidOrder ?xk_InvalidOrder ?xs_InvalidOrder ?xt_InvalidOrder ?xa_InvalidNumber ?xe_InvalidNumber ?xk_InvalidNumber ?xs_InvalidNumber ?xt_InvalidNumber ?xa_InvalidChain ?xe_InvalidChain ?xk_InvalidChain ?xs_InvalidChain ?xt_InvalidChain ?xa_InvalidAnswers ?xe_InvalidAnswers ?xk_InvalidAnswers ?xs_InvalidAnswers ?xt_InvalidAnswers ?xa_NotBelow ?xe_NotBelow ?xk_NotBelow ?xs_NotBelow ?xt_NotBelow ?xa_Below ?xa_IsEven ?xa_CannotExchange ?xa_TooMany ?fs_InvalidOrder_OrderError ?fs_InvalidOrder_InvalidOrder ?fs_InvalidNumber_OrderError ?fs_InvalidNumber_InvalidNumber ?fs_InvalidChain_OrderError ?fs_InvalidChain_InvalidChain ?fs_InvalidAnswers_OrderError ?fs_InvalidAnswers_InvalidAnswers ?fs_NotBelow_OrderError ?fs_NotBelow_NotBelow ?fs_Below_OrderError ?fs_Below_Below ?fs_TooMany_OrderError ?fs_TooMany_TooMany ?fs_InvalidOrder_InvalidChain ?fs_InvalidOrder_InvalidNumber ?fs_InvalidOrder_Below ?fs_InvalidOrder_NotBelow ?fs_InvalidOrder_InvalidAnswers ?fs_InvalidOrder_TooMany ?fs_InvalidOrder_CannotExchange ?fs_InvalidOrder_IsEven ?fs_InvalidNumber_InvalidChain ?fs_InvalidNumber_InvalidOrder ?fs_InvalidNumber_Below ?fs_InvalidNumber_NotBelow ?fs_InvalidNumber_InvalidAnswers ?fs_InvalidNumber_TooMany ?fs_InvalidNumber_CannotExchange ?fs_InvalidNumber_IsEven ?fs_InvalidChain_InvalidNumber ?fs_InvalidChain_InvalidOrder ?fs_InvalidChain_Below ?fs_InvalidChain_NotBelow ?fs_InvalidChain_InvalidAnswers ?fs_InvalidChain_TooMany ?fs_InvalidChain_CannotExchange ?fs_InvalidChain_IsEven ?fs_InvalidAnswers_InvalidChain ?fs_InvalidAnswers_InvalidNumber ?fs_InvalidAnswers_InvalidOrder ?fs_InvalidAnswers_Below ?fs_InvalidAnswers_NotBelow ?fs_InvalidAnswers_TooMany ?fs_InvalidAnswers_CannotExchange ?fs_InvalidAnswers_IsEven ?fs_NotBelow_InvalidChain ?fs_NotBelow_InvalidNumber ?fs_NotBelow_InvalidOrder ?fs_NotBelow_Below ?fs_NotBelow_InvalidAnswers ?fs_NotBelow_TooMany ?fs_NotBelow_CannotExchange ?fs_NotBelow_IsEven ?fs_Below_InvalidChain ?fs_Below_InvalidNumber ?fs_Below_InvalidOrder ?fs_Below_NotBelow ?fs_Below_InvalidAnswers ?fs_Below_TooMany ?fs_Below_CannotExchange ?fs_Below_IsEven ?fs_TooMany_InvalidChain ?fs_TooMany_InvalidNumber ?fs_TooMany_InvalidOrder ?fs_TooMany_Below ?fs_TooMany_NotBelow ?fs_TooMany_InvalidAnswers ?fs_TooMany_CannotExchange ?fs_TooMany_IsEven ?fd_Below ?ft_Below ?fb_Below ?fd_CannotExchange ?ft_CannotExchange ?fb_CannotExchange ?fd_InvalidAnswers ?ft_InvalidAnswers ?fb_InvalidAnswers ?fd_InvalidChain ?ft_InvalidChain ?fb_InvalidChain ?fd_InvalidNumber ?ft_InvalidNumber ?fb_InvalidNumber ?fd_InvalidOrder ?ft_InvalidOrder ?fb_InvalidOrder ?fd_IsEven ?ft_IsEven ?fb_IsEven ?fd_NotBelow ?ft_NotBelow ?fb_NotBelow ?fd_OrderError ?ft_OrderError ?fb_OrderError ?fd_TooMany ?ft_TooMany ?fb_TooMany ?e1_InvalidOrder ?e2_InvalidOrder ?e3_InvalidOrder ?e4_InvalidOrder ?e5_InvalidOrder ?e6_InvalidOrder ?e1_InvalidNumber ?e2_InvalidNumber ?e3_InvalidNumber ?e4_InvalidNumber ?e5_InvalidNumber ?e6_InvalidNumber ?e1_InvalidChain ?e2_InvalidChain ?e3_InvalidChain ?e4_InvalidChain ?e5_InvalidChain ?e6_InvalidChain ?e1_InvalidAnswers ?e2_InvalidAnswers ?e3_InvalidAnswers ?e4_InvalidAnswers ?e5_InvalidAnswers ?e6_InvalidAnswers ?e1_NotBelow ?e2_NotBelow ?e3_NotBelow ?e4_NotBelow ?e5_NotBelow ?e6_NotBelow ?e1_Below ?e2_Below ?e3_Below ?e4_Below ?e5_Below ?e6_Below ?e1_TooMany ?e2_TooMany ?e3_TooMany ?e4_TooMany ?e5_TooMany ?e6_TooMany ?e7 ?e8 ?z_bool ?z_int ?z_isinstance ?z_len ?z_list ?z_range ?z_set ?z_sorted ?z_tuple ?z_zip ?g_MAX_SIZE ?g_MAX_HIDDEN
    (case a_in_range => k_is)
    (case l_in_range => k_is)
    (case co_in_range => k_is)
    (case ke_in_range => k_is)
    (case a_is_order => k_is)
    (case l_is_order => k_is)
    (case co_is_order => k_is)
    (case ke_is_order => k_is)
    (case a_check_order => k_is)
    (case l_check_order => k_is)
    (case co_check_order => k_is)
    (case ke_check_order => k_is)
    (case a_check_pair => k_is)
    (case l_check_pair => k_is)
    (case co_check_pair => k_is)
    (case ke_check_pair => k_is)
    (case a_great_of => k_is)
    (case l_great_of => k_is)
    (case co_great_of => k_is)
    (case ke_great_of => k_is)
    (case a_great_count => k_is)
    (case l_great_count => k_is)
    (case co_great_count => k_is)
    (case ke_great_count => k_is)
    (case a_exchanged => k_is)
    (case l_exchanged => k_is)
    (case co_exchanged => k_is)
    (case ke_exchanged => k_is)
    (case a_first_fault => k_is)
    (case l_first_fault => k_is)
    (case co_first_fault => k_is)
    (case ke_first_fault => k_is)
    (case a_is_below => k_is)
    (case l_is_below => k_is)
    (case co_is_below => k_is)
    (case ke_is_below => k_is)
    (case a_paper => k_is)
    (case l_paper => k_is)
    (case co_paper => k_is)
    (case ke_paper => k_is)
    (case a_is_paper => k_is)
    (case l_is_paper => k_is)
    (case co_is_paper => k_is)
    (case ke_is_paper => k_is)
    (case a_steps_up => k_is)
    (case l_steps_up => k_is)
    (case co_steps_up => k_is)
    (case ke_steps_up => k_is)
    (case a_way_up => k_is)
    (case l_way_up => k_is)
    (case co_way_up => k_is)
    (case ke_way_up => k_is)
    (case a_check_below => k_is)
    (case l_check_below => k_is)
    (case co_check_below => k_is)
    (case ke_check_below => k_is)
    (case a_between => k_is)
    (case l_between => k_is)
    (case co_between => k_is)
    (case ke_between => k_is)
    (case a_is_step => k_is)
    (case l_is_step => k_is)
    (case co_is_step => k_is)
    (case ke_is_step => k_is)
    (case a_is_chain => k_is)
    (case l_is_chain => k_is)
    (case co_is_chain => k_is)
    (case ke_is_chain => k_is)
    (case a_change_at => k_is)
    (case l_change_at => k_is)
    (case co_change_at => k_is)
    (case ke_change_at => k_is)
    (case a_chain_road => k_is)
    (case l_chain_road => k_is)
    (case co_chain_road => k_is)
    (case ke_chain_road => k_is)
    (case a_check_answers => k_is)
    (case l_check_answers => k_is)
    (case co_check_answers => k_is)
    (case ke_check_answers => k_is)
    (case a_candidates => k_is)
    (case l_candidates => k_is)
    (case co_candidates => k_is)
    (case ke_candidates => k_is)
    (case a_best_question => k_is)
    (case l_best_question => k_is)
    (case co_best_question => k_is)
    (case ke_best_question => k_is)
    (case a_is_pattern_at => k_is)
    (case l_is_pattern_at => k_is)
    (case co_is_pattern_at => k_is)
    (case ke_is_pattern_at => k_is)
    (case a__law_cell => k_is)
    (case l__law_cell => k_is)
    (case co__law_cell => k_is)
    (case ke__law_cell => k_is)
    (case a__law_asked => k_is)
    (case l__law_asked => k_is)
    (case co__law_asked => k_is)
    (case ke__law_asked => k_is)
    (case a_law => k_is)
    (case l_law => k_is)
    (case co_law => k_is)
    (case ke_law => k_is)
    (case xa_OrderError => k_is)
    (case xa_InvalidOrder => k_is)
    (case xe_InvalidOrder => k_exc)
    (case xk_InvalidOrder => k_is)
    (case xs_InvalidOrder => k_is)
    (case xt_InvalidOrder => k_is)
    (case xa_InvalidNumber => k_is)
    (case xe_InvalidNumber => k_exc)
    (case xk_InvalidNumber => k_is)
    (case xs_InvalidNumber => k_is)
    (case xt_InvalidNumber => k_is)
    (case xa_InvalidChain => k_is)
    (case xe_InvalidChain => k_exc)
    (case xk_InvalidChain => k_is)
    (case xs_InvalidChain => k_is)
    (case xt_InvalidChain => k_is)
    (case xa_InvalidAnswers => k_is)
    (case xe_InvalidAnswers => k_exc)
    (case xk_InvalidAnswers => k_is)
    (case xs_InvalidAnswers => k_is)
    (case xt_InvalidAnswers => k_is)
    (case xa_NotBelow => k_is)
    (case xe_NotBelow => k_exc)
    (case xk_NotBelow => k_is)
    (case xs_NotBelow => k_is)
    (case xt_NotBelow => k_is)
    (case xa_Below => k_is)
    (case xa_IsEven => k_is)
    (case xa_CannotExchange => k_is)
    (case xa_TooMany => k_is)
    (case fs_InvalidOrder_OrderError => k_is)
    (case fs_InvalidOrder_InvalidOrder => k_is)
    (case fs_InvalidNumber_OrderError => k_is)
    (case fs_InvalidNumber_InvalidNumber => k_is)
    (case fs_InvalidChain_OrderError => k_is)
    (case fs_InvalidChain_InvalidChain => k_is)
    (case fs_InvalidAnswers_OrderError => k_is)
    (case fs_InvalidAnswers_InvalidAnswers => k_is)
    (case fs_NotBelow_OrderError => k_is)
    (case fs_NotBelow_NotBelow => k_is)
    (case fs_Below_OrderError => k_is)
    (case fs_Below_Below => k_is)
    (case fs_TooMany_OrderError => k_is)
    (case fs_TooMany_TooMany => k_is)
    (case fs_InvalidOrder_InvalidChain => k_is)
    (case fs_InvalidOrder_InvalidNumber => k_is)
    (case fs_InvalidOrder_Below => k_is)
    (case fs_InvalidOrder_NotBelow => k_is)
    (case fs_InvalidOrder_InvalidAnswers => k_is)
    (case fs_InvalidOrder_TooMany => k_is)
    (case fs_InvalidOrder_CannotExchange => k_is)
    (case fs_InvalidOrder_IsEven => k_is)
    (case fs_InvalidNumber_InvalidChain => k_is)
    (case fs_InvalidNumber_InvalidOrder => k_is)
    (case fs_InvalidNumber_Below => k_is)
    (case fs_InvalidNumber_NotBelow => k_is)
    (case fs_InvalidNumber_InvalidAnswers => k_is)
    (case fs_InvalidNumber_TooMany => k_is)
    (case fs_InvalidNumber_CannotExchange => k_is)
    (case fs_InvalidNumber_IsEven => k_is)
    (case fs_InvalidChain_InvalidNumber => k_is)
    (case fs_InvalidChain_InvalidOrder => k_is)
    (case fs_InvalidChain_Below => k_is)
    (case fs_InvalidChain_NotBelow => k_is)
    (case fs_InvalidChain_InvalidAnswers => k_is)
    (case fs_InvalidChain_TooMany => k_is)
    (case fs_InvalidChain_CannotExchange => k_is)
    (case fs_InvalidChain_IsEven => k_is)
    (case fs_InvalidAnswers_InvalidChain => k_is)
    (case fs_InvalidAnswers_InvalidNumber => k_is)
    (case fs_InvalidAnswers_InvalidOrder => k_is)
    (case fs_InvalidAnswers_Below => k_is)
    (case fs_InvalidAnswers_NotBelow => k_is)
    (case fs_InvalidAnswers_TooMany => k_is)
    (case fs_InvalidAnswers_CannotExchange => k_is)
    (case fs_InvalidAnswers_IsEven => k_is)
    (case fs_NotBelow_InvalidChain => k_is)
    (case fs_NotBelow_InvalidNumber => k_is)
    (case fs_NotBelow_InvalidOrder => k_is)
    (case fs_NotBelow_Below => k_is)
    (case fs_NotBelow_InvalidAnswers => k_is)
    (case fs_NotBelow_TooMany => k_is)
    (case fs_NotBelow_CannotExchange => k_is)
    (case fs_NotBelow_IsEven => k_is)
    (case fs_Below_InvalidChain => k_is)
    (case fs_Below_InvalidNumber => k_is)
    (case fs_Below_InvalidOrder => k_is)
    (case fs_Below_NotBelow => k_is)
    (case fs_Below_InvalidAnswers => k_is)
    (case fs_Below_TooMany => k_is)
    (case fs_Below_CannotExchange => k_is)
    (case fs_Below_IsEven => k_is)
    (case fs_TooMany_InvalidChain => k_is)
    (case fs_TooMany_InvalidNumber => k_is)
    (case fs_TooMany_InvalidOrder => k_is)
    (case fs_TooMany_Below => k_is)
    (case fs_TooMany_NotBelow => k_is)
    (case fs_TooMany_InvalidAnswers => k_is)
    (case fs_TooMany_CannotExchange => k_is)
    (case fs_TooMany_IsEven => k_is)
    (case fd_Below => k_is)
    (case ft_Below => k_is)
    (case fb_Below => k_is)
    (case fd_CannotExchange => k_is)
    (case ft_CannotExchange => k_is)
    (case fb_CannotExchange => k_is)
    (case fd_InvalidAnswers => k_is)
    (case ft_InvalidAnswers => k_is)
    (case fb_InvalidAnswers => k_is)
    (case fd_InvalidChain => k_is)
    (case ft_InvalidChain => k_is)
    (case fb_InvalidChain => k_is)
    (case fd_InvalidNumber => k_is)
    (case ft_InvalidNumber => k_is)
    (case fb_InvalidNumber => k_is)
    (case fd_InvalidOrder => k_is)
    (case ft_InvalidOrder => k_is)
    (case fb_InvalidOrder => k_is)
    (case fd_IsEven => k_is)
    (case ft_IsEven => k_is)
    (case fb_IsEven => k_is)
    (case fd_NotBelow => k_is)
    (case ft_NotBelow => k_is)
    (case fb_NotBelow => k_is)
    (case fd_OrderError => k_is)
    (case ft_OrderError => k_is)
    (case fb_OrderError => k_is)
    (case fd_TooMany => k_is)
    (case ft_TooMany => k_is)
    (case fb_TooMany => k_is)
    (case e1_InvalidOrder => k_is)
    (case e2_InvalidOrder => k_is)
    (case e3_InvalidOrder => k_is)
    (case e4_InvalidOrder => k_is)
    (case e5_InvalidOrder => k_is)
    (case e6_InvalidOrder => k_is)
    (case e1_InvalidNumber => k_is)
    (case e2_InvalidNumber => k_is)
    (case e3_InvalidNumber => k_is)
    (case e4_InvalidNumber => k_is)
    (case e5_InvalidNumber => k_is)
    (case e6_InvalidNumber => k_is)
    (case e1_InvalidChain => k_is)
    (case e2_InvalidChain => k_is)
    (case e3_InvalidChain => k_is)
    (case e4_InvalidChain => k_is)
    (case e5_InvalidChain => k_is)
    (case e6_InvalidChain => k_is)
    (case e1_InvalidAnswers => k_is)
    (case e2_InvalidAnswers => k_is)
    (case e3_InvalidAnswers => k_is)
    (case e4_InvalidAnswers => k_is)
    (case e5_InvalidAnswers => k_is)
    (case e6_InvalidAnswers => k_is)
    (case e1_NotBelow => k_is)
    (case e2_NotBelow => k_is)
    (case e3_NotBelow => k_is)
    (case e4_NotBelow => k_is)
    (case e5_NotBelow => k_is)
    (case e6_NotBelow => k_is)
    (case e1_Below => k_is)
    (case e2_Below => k_is)
    (case e3_Below => k_is)
    (case e4_Below => k_is)
    (case e5_Below => k_is)
    (case e6_Below => k_is)
    (case e1_TooMany => k_is)
    (case e2_TooMany => k_is)
    (case e3_TooMany => k_is)
    (case e4_TooMany => k_is)
    (case e5_TooMany => k_is)
    (case e6_TooMany => k_is)
    (case e7 => k_is)
    (case e8 => k_is)
    (case z_bool => k_is)
    (case z_int => k_is)
    (case z_isinstance => k_is)
    (case z_len => k_is)
    (case z_list => k_is)
    (case z_range => k_is)
    (case z_set => k_is)
    (case z_sorted => k_is)
    (case z_tuple => k_is)
    (case z_zip => k_is)
    (case g_MAX_SIZE => k_is)
    (case g_MAX_HIDDEN => k_is)
#print axioms PySem.Challenge.cw_lowerorders_k20_first_exception_holds

