import PyProof.Rows.All
import Wide.All
import OpenK.AllK
import Wide.FinOn
import HandS.ForMost
import HandS.ForExc
import HandS.Deep
import HandS.TupAny
import HandS.IsInst
import HandS.Conv
import HandS.Style
import HandS.Zip
import HandS.SetFor
import HandS.TupMul
import HandS.TupSets
import HandS.ExcIs
import HandS.TryMany
import HandS.NoneIn
import KE.GoesMore
import HandS.SortOrd
import HandS.DictTup
import KE.KDictSum
import HandS.SortInts
import HandS.Small
import KE.KDictDisplayH
import PyProof.Rows.AssignMoreSeq
import HandS.Iter
import KE.SortData
import HandS.Text
import HandS.Replace
import HandS.ExcInit
import HandS.ExcField
import HandS.CallSlots
import KE.KCallOwn
import HandS.RaiseMore
import KE.KFmtOwn
import PyProof.InstEq
import HandS.TupLen
import KE.KeyNested
import KE.KDictKeyed
import PySem.Challenge.RW_lowerorders_k10_whole_chain_roads
set_option Elab.async false
set_option linter.all false
set_option maxRecDepth 100000
set_option maxHeartbeats 4000000
namespace L2
open PySem PySem.Spec PyProof.Rows
theorem tuple_mul1 (l : Addr) (items : Array Value) (n : Nat) (dd : Option Addr) (sl : Array (Option Value)) (u : Tok) :
    Meets (Builtin.«tuple.__mul__» ⟨[.ref l, .int 1 u], []⟩) (fun _ R s => s.heap.get? l = some { cls := .type "tuple", dict := dd, data := .seq items n, slots := sl } ∧ R (.ok (.ret (Value.ref l))) s) :=
  .of_wp fun prog w A R s ⟨hl, h⟩ => by
    obtain ⟨hp, g, d, tk, os⟩ := s
    have f1 := AutoSeq1.idx_int
    have c1 : (items.isEmpty || (1 : Int) == 1) = true := by rw [show ((1 : Int) == 1) = true from rfl, Bool.or_true]
    wp_walk using wpAny_loadPart' hl
    repeat (first
      | (refine wpAny_ite_false (decide_eq_false (by decide)) ?_; wp_walk using wpAny_loadPart' hl)
      | (refine wpAny_ite_true (decide_eq_true c1) ?_; wp_walk using wpAny_loadPart' hl))
    exact ⟨_, rfl, h⟩
/-- t * 1 is t -/
def rRep1 (K : PySem.W.Frag) : R2 := fun x y H Q => ∃ l xs, x = .ref l ∧ y = .int 1 ∧ SqT K H l xs ∧ Q (.ref l) H
theorem op_rep1 {X : Cx} : OpR X (binaryOp .Mult) (rRep1 X.K) := by
  rintro pins s σ H x y v u Q I rx ry ⟨l, xs, rfl, rfl, hT, q⟩
  cases rx
  obtain ⟨t, rfl⟩ := ry
  obtain ⟨its, _, ⟨⟨cls, dd, data, sl⟩, ho, hc, n, hd⟩, _⟩ := I.tuple hT
  simp only at hc hd
  subst hc hd
  exact wpAny_binaryOp_repeat_ref (T := "tuple") (U := "int") (by decide) ⟨_, ho, rfl⟩ (fun s2 => typeIs_int s2 1 t) noFill_tuple_mul F.fills_int_mul F.slot_int_rmul repeat_tuple F.slot_int_index.lookup
    (call_meets F.slot_int_rmul (typeIs_int s 1 t) F.entry_int_rmul (F.args_int_rmul_2 _ _) (int_rmul_tuple 1 t l its.toArray n dd sl) ⟨ho, rfl, ⟨_, ho, rfl⟩, call_meets F.slot_tuple_mul ⟨_, ho, rfl⟩ F.entry_tuple_mul (F.args_tuple_mul_2 _ _) (tuple_mul1 l its.toArray n dd sl t) ⟨ho, ⟨.ref l, H, I, rfl, q⟩⟩⟩)
end L2
/-! V0, the plain kind: how a tuple of the program's lies in the heap, and what makes one. -/
namespace VL
open PySem L2
def TpO (o : HO) (vs : List V) : Prop := o = .tup vs
theorem TpO.tup (vs : List V) : TpO (.tup vs) vs := rfl
theorem TpO.sq {K : PySem.W.Frag} {H : Hp} {a : Addr} {o : HO} {vs : List V} (t : TpO o vs) (h : H a = some o) : SqT K H a vs := by
  cases t
  exact SqT.of h
theorem TpO.ty {K : PySem.W.Frag} {H : Hp} {a : Addr} {o : HO} {vs : List V} (t : TpO o vs) (h : H a = some o) : TyX K H (.ref a) (.type "tuple") := by
  cases t
  exact .base (.tup h)
theorem objT {P : Program} {w : World} {h : Heap} {a : Addr} {ob : Obj} {xs : List V} (_ : h.get? a = some ob) (_ : ob.dict = none) (ok : ∀ H, ObjOk P w H h a (.tup xs)) : ∃ o, TpO o xs ∧ ∀ H, ObjOk P w H h a o := ⟨_, rfl, ok⟩
def tTupO (t : TA) : TE := fun σ H Q => t σ H fun xs H1 => xs.length ≤ sizeLine ∧ ∀ p o, TpO o xs → H1 p = none → Q (.ref p) (upd H1 p o)
def rCatO (K : PySem.W.Frag) : R2 := fun x y H Q => ∃ a b xs ys, x = .ref a ∧ y = .ref b ∧ SqT K H a xs ∧ SqT K H b ys ∧ xs.length + ys.length ≤ sizeLine ∧
  (xs = [] → Q (.ref b) H) ∧ (xs ≠ [] → ys = [] → Q (.ref a) H) ∧ (xs ≠ [] → ys ≠ [] → ∀ p o, TpO o (xs ++ ys) → H p = none → Q (.ref p) (upd H p o))
def rSlO (K : PySem.W.Frag) : V → Option Int → Option Int → Hp → VK → Prop := fun x lo hi H Q => ∃ a xs, x = .ref a ∧ SqT K H a xs ∧
  (HT.sIx xs.length 0 lo = 0 ∧ HT.sIx xs.length xs.length hi = xs.length → Q (.ref a) H) ∧ (¬ (HT.sIx xs.length 0 lo = 0 ∧ HT.sIx xs.length xs.length hi = xs.length) → ∀ p o, TpO o (cutV xs lo hi) → H p = none → Q (.ref p) (upd H p o))
abbrev mulT : Bool := true
def rRepO (K : PySem.W.Frag) : R2 := fun x y H Q => rRepT K x y H Q ∨ rRep1 K x y H Q
def rTupO (K : PySem.W.Frag) : List V → Hp → VK → Prop := fun xs H Q => ∃ p ys, xs = [.ref p] ∧ ((SqL K H p ys ∧ ∀ l o, TpO o ys → H l = none → Q (.ref l) (upd H l o)) ∨ (SqT K H p ys ∧ Q (.ref p) H))
def tTupRgO (te : St → Hp → (Int → Int → Hp → Prop) → Prop) : TE := fun σ H Q => te σ H fun a b H1 => RgOk a b ∧ ∀ q o, TpO o (rgV a b) → H1 q = none → Q (.ref q) (upd H1 q o)
section
variable {X : Cx} {es : List Expr} {t : TA} {pos p : Pos} {e : Expr} {te : St → Hp → (Int → Int → Hp → Prop) → Prop}
theorem pe_tupO {x1 : Nat} (h : PA X es t) (hm : ∀ σ H Q Q2, (∀ xs H, Q xs H → Q2 xs H) → t σ H Q → t σ H Q2) : PE X (.Tuple es x1 pos) (tTupO t) :=
  ⟨fun pins s σ H Q I q => (pe_tup h).run pins s σ H Q I (hm σ H _ _ (fun xs H1 ⟨z, k⟩ => ⟨z, fun p hp => k p _ rfl hp⟩) q)⟩
theorem op_catO : OpR X (binaryOp .Add) (rCatO X.K) := fun pins s σ H x y v u Q I rx ry ⟨a, b, xs, ys, e1, e2, ha, hb, hz, q0, q1, q2⟩ =>
  op_catA pins s σ H x y v u Q I rx ry ⟨a, b, xs, ys, e1, e2, ha, hb, hz, q0, q1, fun h1 h2 p hp => q2 h1 h2 p _ rfl hp⟩
theorem op_repO : OpR X (binaryOp .Mult) (rRepO X.K) := OpR.or op_repT op_rep1
theorem repO_of {K : PySem.W.Frag} {x y : V} {H : Hp} {Q : VK} (_ : mulT = true) (h : ∃ l k xs, x = .ref l ∧ y = .int k ∧ SqT K H l xs ∧ xs ≠ [] ∧ 2 ≤ k ∧ k ≤ 1000 ∧ xs.length ≤ 1000 ∧ ∀ p o, TpO o (List.replicate k.toNat xs).flatten → H p = none → Q (.ref p) (upd H p o)) : rRepO K x y H Q := by
  obtain ⟨l, k, xs, e1, e2, h1, h2, h3, h4, h5, q⟩ := h
  exact .inl ⟨l, k, xs, e1, e2, h1, h2, h3, h4, h5, fun p hp => q p _ rfl hp⟩
theorem rep1_of {K : PySem.W.Frag} {x y : V} {H : Hp} {Q : VK} (_ : mulT = true) (h : ∃ l xs, x = .ref l ∧ y = .int 1 ∧ SqT K H l xs ∧ Q (.ref l) H) : rRepO K x y H Q := .inr h
theorem sl_tupO : SlR X (rSlO X.K) := fun pins s σ H x v vl vu lo hi sl Q I rx hs pl pu ⟨a, xs, e1, hx, q1, q2⟩ =>
  sl_tupA pins s σ H x v vl vu lo hi sl Q I rx hs pl pu ⟨a, xs, e1, hx, q1, fun hw p hp => q2 hw p _ rfl hp⟩
theorem call_tupO : CallR X (.type "tuple") (rTupO X.K) := fun pins s σ H xs us Q I r ⟨p, ys, e1, h⟩ => call_tuple_of pins s σ H xs us Q I r ⟨p, ys, e1, by
  rcases h with ⟨h1, q⟩ | h
  · exact .inl ⟨h1, fun l hl => q l _ rfl hl⟩
  · exact .inr h⟩
theorem pe_tupRgO (hc : X.calm = true) (hg : Gl X "tuple") (hm : X.mg "tuple" = none) (he : PRg X e te) (hmo : ∀ σ H Q Q2, (∀ a b H, Q a b H → Q2 a b H) → te σ H Q → te σ H Q2) (na : starEach [e] X.env = (false, eval e X.env) :: starEach [] X.env := by rfl) :
    PE X (.Call (.Name "tuple" p) [e] [] pos) (tTupRgO te) := ⟨fun pins s σ H Q I q => (pe_tupRg hc hg hm he na).run pins s σ H Q I (hmo σ H _ _ (fun a b H1 ⟨z, k⟩ => ⟨z, fun p hp => k p _ rfl hp⟩) q)⟩
end
end VL

set_option Elab.async false
set_option linter.all false
set_option maxRecDepth 100000
/-! VA: the value layer. Data (PyData) in the place of addresses: what an expression is worth (EO), what a statement leaves (SO), each as a function of the slots' contents; the rules say that the code does so. -/
namespace VL
open PySem L2

/-! ### heaps -/
/-- not a tuple: tuples may be frozen at any time -/
def NT : HO → Prop
  | .tup _ => False
  | _ => True
structure Ext (F H F2 H2 : Hp) : Prop where
  ff : Same F F2
  fh : Same F2 H2
  hh : Same H H2
  ap : ∀ a o, H a = some o → F a = none → NT o → F2 a = none
theorem Ext.refl {F H : Hp} (h : Same F H) : Ext F H F H := ⟨Same.refl F, h, Same.refl H, fun _ _ _ e _ => e⟩
theorem Ext.trans {F H F1 H1 F2 H2 : Hp} (a : Ext F H F1 H1) (b : Ext F1 H1 F2 H2) : Ext F H F2 H2 :=
  ⟨a.ff.trans b.ff, b.fh, a.hh.trans b.hh, fun x o h e t => b.ap x o (a.hh x o h) (a.ap x o h e t) t⟩
theorem same_new {H : Hp} {p : Addr} {o : HO} (h : H p = none) : Same H (upd H p o) := fun a u e => by
  rw [upd_ne (ne_of_none e h)]
  exact e
/-- a new object, tracked, not frozen -/
theorem Ext.new {F H : Hp} {p : Addr} {o : HO} (fh : Same F H) (h : H p = none) : Ext F H F (upd H p o) :=
  ⟨Same.refl F, fh.trans (same_new h), same_new h, fun _ _ _ e _ => e⟩
/-- a new object, frozen at once -/
theorem Ext.newF {F H : Hp} {p : Addr} {o : HO} (fh : Same F H) (h : H p = none) : Ext F H (upd F p o) (upd H p o) := by
  have hf : F p = none := fh.free h
  refine ⟨same_new hf, fun a u e => ?_, same_new h, fun a u e1 e2 _ => ?_⟩
  · by_cases z : a = p
    · subst z
      rw [upd_same] at e ⊢
      exact e
    · rw [upd_ne z] at e ⊢
      exact fh a u e
  · rw [upd_ne (ne_of_none e1 h)]
    exact e2
/-- what stands tracked and is younger than H is frozen -/
theorem Ext.freeze {F H F2 H2 : Hp} {p : Addr} {o : HO} (x : Ext F H F2 H2) (hp : H p = none) (h2 : H2 p = some o) : Ext F H (upd F2 p o) H2 := by
  refine ⟨fun a u e => ?_, fun a u e => ?_, x.hh, fun a u e1 e2 t => ?_⟩
  · by_cases z : a = p
    · subst z
      rw [upd_same]
      exact ((x.fh a u (x.ff a u e)).symm.trans h2).symm
    · rw [upd_ne z]
      exact x.ff a u e
  · by_cases z : a = p
    · subst z
      rw [upd_same] at e
      exact h2.trans e
    · rw [upd_ne z] at e
      exact x.fh a u e
  · rw [upd_ne (ne_of_none e1 hp)]
    exact x.ap a u e1 e2 t

/-! ### data -/
theorem sqT_mono {K : PySem.W.Frag} {H H2 : Hp} {a : Addr} {xs : List V} (e : Same H H2) (h : SqT K H a xs) : SqT K H2 a xs := by
  rcases h with (h | ⟨o, h⟩) | h
  · exact .inl (.inl (e _ _ h))
  · exact .inl (.inr ⟨o, e _ _ h⟩)
  · exact .inr h
/-- a tuple of the program's -/
def TpA (H : Hp) (a : Addr) (vs : List V) : Prop := ∃ o, H a = some o ∧ TpO o vs
theorem TpA.mono {H H2 : Hp} {a : Addr} {vs : List V} (h : TpA H a vs) (e : Same H H2) : TpA H2 a vs := let ⟨o, h1, t⟩ := h; ⟨o, e _ _ h1, t⟩
theorem TpA.sq {K : PySem.W.Frag} {H : Hp} {a : Addr} {vs : List V} (h : TpA H a vs) : SqT K H a vs := let ⟨_, h1, t⟩ := h; t.sq h1
mutual
/-- the value v is the data d in H; the script (a list of ints that is known to the object) is told by .dict -/
inductive Dq (K : PySem.W.Frag) (H : Hp) : V → PyData → Prop
  | non : Dq K H .non .none
  | bl (b : Bool) : Dq K H (.bl b) (.bool b)
  | int (i : Int) : Dq K H (.int i) (.int i)
  | str (x : Str) : Dq K H (.str x) (.str x)
  | lst {a : Addr} {vs : List V} {ds : List PyData} : H a = some (.lst vs) → DqAll K H vs ds → Dq K H (.ref a) (.list ds)
  | tup {a : Addr} {vs : List V} {ds : List PyData} : TpA H a vs → DqAll K H vs ds → Dq K H (.ref a) (.tuple ds)
  | scr {a : Addr} {ns : List Int} : SqL K H a (ns.map V.int) → Dq K H (.ref a) (.dict (ns.map fun n => (.int n, .none)))
inductive DqAll (K : PySem.W.Frag) (H : Hp) : List V → List PyData → Prop
  | nil : DqAll K H [] []
  | cons {v : V} {vs : List V} {d : PyData} {ds : List PyData} : Dq K H v d → DqAll K H vs ds → DqAll K H (v :: vs) (d :: ds)
end
mutual
theorem dp_mono {K : PySem.W.Frag} {H H2 : Hp} (e : Same H H2) : ∀ (d : PyData) (v : V), Dq K H v d → Dq K H2 v d
  | .none, _, h => by cases h; exact .non
  | .bool b, _, h => by cases h; exact .bl b
  | .int i, _, h => by cases h; exact .int i
  | .str x, _, h => by cases h; exact .str x
  | .list ds, _, h => by
    cases h with
    | lst hs ha => exact .lst (e _ _ hs) (dpAll_mono e ds _ ha)
  | .tuple ds, _, h => by
    cases h with
    | tup hs ha => exact .tup (hs.mono e) (dpAll_mono e ds _ ha)
  | .dict _, _, h => by
    cases h with
    | scr hs => exact .scr (e.seq hs)
theorem dpAll_mono {K : PySem.W.Frag} {H H2 : Hp} (e : Same H H2) : ∀ (ds : List PyData) (vs : List V), DqAll K H vs ds → DqAll K H2 vs ds
  | [], _, h => by cases h; exact .nil
  | d :: ds, _, h => by
    cases h with
    | cons h1 h2 => exact .cons (dp_mono e d _ h1) (dpAll_mono e ds _ h2)
end
mutual
theorem dq_dp {K : PySem.W.Frag} {H : Hp} : ∀ (d : PyData) (v : V), d.canLay0 = true → Dq K H v d → L2.Dp K H v d
  | .none, _, _, h => by cases h; exact .non
  | .bool b, _, _, h => by cases h; exact .bl b
  | .int i, _, _, h => by cases h; exact .int i
  | .str x, _, _, h => by cases h; exact .str x
  | .list ds, _, c, h => by
    cases h with
    | lst hs ha => exact .lst (SqL.of hs) (dqAll_dp ds _ (by rw [PyData.canLay0] at c; exact c) ha)
  | .tuple ds, _, c, h => by
    cases h with
    | tup hs ha => exact .tup hs.sq (dqAll_dp ds _ (by rw [PyData.canLay0] at c; exact c) ha)
  | .dict _, _, c, h => by rw [PyData.canLay0] at c; cases c
theorem dqAll_dp {K : PySem.W.Frag} {H : Hp} : ∀ (ds : List PyData) (vs : List V), PyData.canLayAll0 ds = true → DqAll K H vs ds → L2.DpAll K H vs ds
  | [], _, _, h => by cases h; exact .nil
  | d :: ds, _, c, h => by
    rw [PyData.canLayAll0, Bool.and_eq_true] at c
    cases h with
    | cons h1 h2 => exact .cons (dq_dp d _ c.1 h1) (dqAll_dp ds _ c.2 h2)
end
theorem dpAll_len {K : PySem.W.Frag} {H : Hp} : ∀ {vs : List V} {ds : List PyData}, DqAll K H vs ds → vs.length = ds.length
  | _, _, .nil => rfl
  | _, _, .cons _ t => by simp [dpAll_len t]
theorem dpAll_get {K : PySem.W.Frag} {H : Hp} : ∀ {vs : List V} {ds : List PyData} {i : Nat} {d : PyData}, DqAll K H vs ds → ds[i]? = some d → ∃ v, vs[i]? = some v ∧ Dq K H v d
  | _, _, _, _, .nil, e => by simp at e
  | _, _, 0, _, .cons r _, e => by simp at e; subst e; exact ⟨_, rfl, r⟩
  | _, _, i + 1, d, .cons _ t, e => by
    obtain ⟨v, h1, h2⟩ := dpAll_get (i := i) (d := d) t (by simpa using e)
    exact ⟨v, by simpa using h1, h2⟩
theorem dpAll_getV {K : PySem.W.Frag} {H : Hp} : ∀ {vs : List V} {ds : List PyData} {i : Nat} {v : V}, DqAll K H vs ds → vs[i]? = some v → ∃ d, ds[i]? = some d ∧ Dq K H v d
  | _, _, _, _, .nil, e => by simp at e
  | _, _, 0, _, .cons r _, e => by simp at e; subst e; exact ⟨_, rfl, r⟩
  | _, _, i + 1, d, .cons _ t, e => by
    obtain ⟨v, h1, h2⟩ := dpAll_getV (i := i) (v := d) t (by simpa using e)
    exact ⟨v, by simpa using h1, h2⟩
theorem dpAll_app {K : PySem.W.Frag} {H : Hp} : ∀ {vs us : List V} {ds es : List PyData}, DqAll K H vs ds → DqAll K H us es → DqAll K H (vs ++ us) (ds ++ es)
  | _, _, _, _, .nil, s => s
  | _, _, _, _, .cons r t, s => .cons r (dpAll_app t s)
theorem dpAll_take {K : PySem.W.Frag} {H : Hp} : ∀ {vs : List V} {ds : List PyData} (n : Nat), DqAll K H vs ds → DqAll K H (vs.take n) (ds.take n)
  | _, _, 0, _ => .nil
  | _, _, _ + 1, .nil => .nil
  | _, _, n + 1, .cons r t => .cons r (dpAll_take n t)
theorem dpAll_drop {K : PySem.W.Frag} {H : Hp} : ∀ {vs : List V} {ds : List PyData} (n : Nat), DqAll K H vs ds → DqAll K H (vs.drop n) (ds.drop n)
  | _, _, 0, r => r
  | _, _, _ + 1, .nil => .nil
  | _, _, n + 1, .cons _ t => dpAll_drop n t
theorem dpAll_set {K : PySem.W.Frag} {H : Hp} {v : V} {d : PyData} (r : Dq K H v d) : ∀ {vs : List V} {ds : List PyData} (n : Nat), DqAll K H vs ds → DqAll K H (vs.set n v) (ds.set n d)
  | _, _, _, .nil => .nil
  | _, _, 0, .cons _ t => .cons r t
  | _, _, n + 1, .cons q t => .cons q (dpAll_set r n t)
theorem dpAll_rev {K : PySem.W.Frag} {H : Hp} : ∀ {vs : List V} {ds : List PyData}, DqAll K H vs ds → DqAll K H vs.reverse ds.reverse
  | _, _, .nil => .nil
  | _, _, .cons r t => by
    rw [List.reverse_cons, List.reverse_cons]
    exact dpAll_app (dpAll_rev t) (.cons r .nil)

/-! ### outcomes -/
/-- how the worth lies: frozen data; a new list; the own list in slot i -/
inductive Wh where
  | frz | new | own (i : Nat)
/-- what an expression is worth -/
inductive EO where
  | ok (d : PyData) (w : Wh) | exc (c : Nat) (pl : Option PyData) | stuck
/-- what a slot holds -/
inductive Sl where
  | dat (d : PyData)
  | own (ds : List PyData)
  /-- an own dict whose keys are tuples of ints -/
  | dic (kvs : List (List Int × PyData))
  /-- such a dict while it is walked: read, not written -/
  | lkd (kvs : List (List Int × PyData))
  /-- a climber: its orders so far, how many are kept -/
  | clm (os : List PyData) (k : Int)
  /-- an own dict whose keys are tuples of tuples of ints -/
  | nst (kvs : List (List (List Int) × PyData))
abbrev Gm := List (Option Sl)
inductive SO where
  | next (G : Gm) | ret (d : PyData) | brk (G : Gm) | cont (G : Gm) | exc (c : Nat) (pl : Option PyData) (G : Gm) | stuck
inductive BO where
  | ok (b : Bool) | exc (c : Nat) (pl : Option PyData) | stuck
/-- what a def is worth -/
inductive FO where
  | ok (d : PyData) | exc (c : Nat) (pl : Option PyData) | stuck
inductive AO where
  | ok (ds : List PyData) | exc (c : Nat) (pl : Option PyData) | stuck
def EO.bind (o : EO) (k : PyData → Wh → EO) : EO := match o with
  | .ok d w => k d w
  | .exc c pl => .exc c pl
  | .stuck => .stuck
def EO.bindB (o : EO) (k : PyData → Wh → BO) : BO := match o with
  | .ok d w => k d w
  | .exc c pl => .exc c pl
  | .stuck => .stuck
def EO.bindA (o : EO) (k : PyData → Wh → AO) : AO := match o with
  | .ok d w => k d w
  | .exc c pl => .exc c pl
  | .stuck => .stuck
def EO.bindS (G : Gm) (o : EO) (k : PyData → Wh → SO) : SO := match o with
  | .ok d w => k d w
  | .exc c pl => .exc c pl G
  | .stuck => .stuck
def BO.bind (o : BO) (k : Bool → BO) : BO := match o with
  | .ok b => k b
  | .exc c pl => .exc c pl
  | .stuck => .stuck
def BO.bindE (o : BO) (k : Bool → EO) : EO := match o with
  | .ok b => k b
  | .exc c pl => .exc c pl
  | .stuck => .stuck
def BO.bindS (G : Gm) (o : BO) (k : Bool → SO) : SO := match o with
  | .ok b => k b
  | .exc c pl => .exc c pl G
  | .stuck => .stuck
def AO.bind (o : AO) (k : List PyData → AO) : AO := match o with
  | .ok ds => k ds
  | .exc c pl => .exc c pl
  | .stuck => .stuck
def AO.bindE (o : AO) (k : List PyData → EO) : EO := match o with
  | .ok ds => k ds
  | .exc c pl => .exc c pl
  | .stuck => .stuck
def FO.toE : FO → EO
  | .ok d => .ok d .frz
  | .exc c pl => .exc c pl
  | .stuck => .stuck

/-! ### what they mean -/
/-- v is worth d; H: the heap ahead -/
def VR (K : PySem.W.Frag) (H F2 H2 : Hp) (σ : St) (v : V) (d : PyData) : Wh → Prop
  | .frz => Dq K F2 v d
  | .new => ∃ p vs ds, v = .ref p ∧ d = .list ds ∧ H p = none ∧ F2 p = none ∧ H2 p = some (.lst vs) ∧ DqAll K F2 vs ds
  | .own i => σ[i]? = some (some v) ∧ ∃ p vs ds, v = .ref p ∧ d = .list ds ∧ F2 p = none ∧ H2 p = some (.lst vs) ∧ DqAll K F2 vs ds
/-- the view that readers have -/
def VV (K : PySem.W.Frag) (F H : Hp) (v : V) (d : PyData) : Prop :=
  Dq K H v d ∧ match d with
    | .list ds => ∃ a vs, v = .ref a ∧ H a = some (.lst vs) ∧ DqAll K F vs ds
    | .tuple ds => ∃ a vs, v = .ref a ∧ TpA F a vs ∧ DqAll K F vs ds
    | _ => Dq K F v d
theorem VV.of_frz {K : PySem.W.Frag} {F H : Hp} (fh : Same F H) {v : V} : ∀ {d : PyData}, Dq K F v d → VV K F H v d
  | .none, h => ⟨dp_mono fh _ _ h, h⟩
  | .bool _, h => ⟨dp_mono fh _ _ h, h⟩
  | .int _, h => ⟨dp_mono fh _ _ h, h⟩
  | .str _, h => ⟨dp_mono fh _ _ h, h⟩
  | .dict _, h => ⟨dp_mono fh _ _ h, h⟩
  | .list ds, h => by
    refine ⟨dp_mono fh _ _ h, ?_⟩
    cases h with
    | lst hs ha => exact ⟨_, _, rfl, fh _ _ hs, ha⟩
  | .tuple ds, h => by
    refine ⟨dp_mono fh _ _ h, ?_⟩
    cases h with
    | tup hs ha => exact ⟨_, _, rfl, hs, ha⟩
theorem VV.of {K : PySem.W.Frag} {H F2 H2 : Hp} {σ : St} {v : V} {d : PyData} (fh : Same F2 H2) : ∀ {w : Wh}, VR K H F2 H2 σ v d w → VV K F2 H2 v d
  | .frz, h => VV.of_frz fh h
  | .new, ⟨p, vs, ds, e1, e2, _, _, h, ha⟩ => by
    subst e1 e2
    exact ⟨.lst h (dpAll_mono fh _ _ ha), p, vs, rfl, h, ha⟩
  | .own i, ⟨_, p, vs, ds, e1, e2, _, h, ha⟩ => by
    subst e1 e2
    exact ⟨.lst h (dpAll_mono fh _ _ ha), p, vs, rfl, h, ha⟩
/-- a view stays where frozen and own things stay -/
theorem VV.mono {K : PySem.W.Frag} {F H F2 H2 : Hp} {v : V} {d : PyData} (x : Ext F H F2 H2) (h : VV K F H v d) : VV K F2 H2 v d := by
  obtain ⟨h1, h2⟩ := h
  refine ⟨dp_mono x.hh _ _ h1, ?_⟩
  cases d with
  | list ds =>
    obtain ⟨a, vs, e, hs, ha⟩ := h2
    exact ⟨a, vs, e, x.hh _ _ hs, dpAll_mono x.ff _ _ ha⟩
  | tuple ds =>
    obtain ⟨a, vs, e, hs, ha⟩ := h2
    exact ⟨a, vs, e, hs.mono x.ff, dpAll_mono x.ff _ _ ha⟩
  | none => exact dp_mono x.ff _ _ h2
  | bool b => exact dp_mono x.ff _ _ h2
  | int i => exact dp_mono x.ff _ _ h2
  | str y => exact dp_mono x.ff _ _ h2
  | dict kvs => exact dp_mono x.ff _ _ h2
theorem VV.int {K : PySem.W.Frag} {F H : Hp} {v : V} {i : Int} (h : VV K F H v (.int i)) : v = .int i := by cases h.1; rfl
theorem VV.bl {K : PySem.W.Frag} {F H : Hp} {v : V} {b : Bool} (h : VV K F H v (.bool b)) : v = .bl b := by cases h.1; rfl
theorem VV.str {K : PySem.W.Frag} {F H : Hp} {v : V} {x : Str} (h : VV K F H v (.str x)) : v = .str x := by cases h.1; rfl
theorem VV.non {K : PySem.W.Frag} {F H : Hp} {v : V} (h : VV K F H v .none) : v = .non := by cases h.1; rfl
/-- what is new or frozen, made frozen -/
def EO.hard : EO → EO
  | .ok d .frz => .ok d .frz
  | .ok d .new => .ok d .frz
  | .ok _ (.own _) => .stuck
  | .exc c pl => .exc c pl
  | .stuck => .stuck
theorem vr_hard {K : PySem.W.Frag} {F H F2 H2 : Hp} {σ : St} {v : V} {d : PyData} (x : Ext F H F2 H2) : ∀ {w : Wh}, VR K H F2 H2 σ v d w → (∀ i, w ≠ .own i) → ∃ F3, Ext F H F3 H2 ∧ Same F2 F3 ∧ Dq K F3 v d
  | .frz, h, _ => ⟨F2, x, Same.refl _, h⟩
  | .new, ⟨p, vs, ds, e1, e2, h0, hf, h2, ha⟩, _ => by
    subst e1 e2
    have s : Same F2 (upd F2 p (.lst vs)) := same_new hf
    exact ⟨_, x.freeze h0 h2, s, .lst upd_same (dpAll_mono s _ _ ha)⟩
  | .own i, _, hn => (hn i rfl).elim

/-- an exception, its class by number -/
def XR (K : PySem.W.Frag) (ct : Nat → Addr) (F H : Hp) (c : Nat) (pl : Option PyData) (cls : Value) (dd : Option Addr) : Prop :=
  cls = .ref (ct c) ∧ match pl with
    | none => dd = none
    | some d => ∃ a v, dd = some a ∧ F a = some (.xd [(("line" : Str), v)]) ∧ Dq K F v d

/-- a dict's entries, as data -/
def KvD (K : PySem.W.Frag) (F : Hp) (us : List (List Key × V)) (kvs : List (List Int × PyData)) : Prop := us.map (·.1) = kvs.map (fun p => p.1.map Sum.inl) ∧ DqAll K F (us.map (·.2)) (kvs.map (·.2))
theorem KvD.mono {K : PySem.W.Frag} {F F2 : Hp} {us : List (List Key × V)} {kvs : List (List Int × PyData)} (h : KvD K F us kvs) (e : Same F F2) : KvD K F2 us kvs := ⟨h.1, dpAll_mono e _ _ h.2⟩
/-- a tuple of tuples of ints, its hash -/
abbrev chT (c : List (List Int)) : PyData := .tuple (c.map fun o => .tuple (o.map PyData.int))
def chHash (c : List (List Int)) : Int := reduceHash (Builtin.Tuple.tupleHashOf (c.map fun o => reduceHash (Builtin.Tuple.tupleHashOf (o.map hashInt))))
/-- a dict with such keys: the key, where its tuple stands, the value -/
def nstP (p : Addr) (xs : List (List (List Int) × Addr × Value)) : Heap → Prop := fun h => ∃ o es ep, h.get? p = some o ∧ o.ExactDict ∧ o.data = .dict es ep ∧ es.toList = xs.map fun x => ⟨chHash x.1, .ref x.2.1, x.2.2⟩
def nstO (p : Addr) (xs : List (List (List Int) × Addr × Value)) : HO := .ext (nstP p xs)
structure NsD (K : PySem.W.Frag) (F : Hp) (p : Addr) (xs : List (List (List Int) × Addr × Value)) (kvs : List (List (List Int) × PyData)) : Prop where
  sys : (p == sysModules) = false
  keys : xs.map (·.1) = kvs.map (·.1)
  nd : (xs.map (·.1)).Nodup
  at_ : ∀ x ∈ xs, Dq K F (.ref x.2.1) (chT x.1)
  vals : ∃ vs : List V, Vals vs (xs.map (·.2.2)) ∧ DqAll K F vs (kvs.map (·.2))
theorem NsD.mono {K : PySem.W.Frag} {F F2 : Hp} {p : Addr} {xs : List (List (List Int) × Addr × Value)} {kvs : List (List (List Int) × PyData)} (h : NsD K F p xs kvs) (e : Same F F2) : NsD K F2 p xs kvs :=
  ⟨h.sys, h.keys, h.nd, fun x hx => dp_mono e _ _ (h.at_ x hx), let ⟨vs, h1, h2⟩ := h.vals; ⟨vs, h1, dpAll_mono e _ _ h2⟩⟩
/-- the fields of a climber -/
abbrev clF (l : Addr) (k : Int) : List (Str × V) := [("steps", .ref l), ("kept", .int k)]
/-- the class of climbers -/
def IsC (K : PySem.W.Frag) (C : Addr) : Prop := PySem.W.nsIn K mainGlobals "Climber" = some (some (.ref C))
/-- the slots -/
def SR (K : PySem.W.Frag) (H0 F H : Hp) (v : V) : Sl → Prop
  | .dat d => Dq K F v d
  | .own ds => ∃ p vs, v = .ref p ∧ H0 p = none ∧ F p = none ∧ H p = some (.lst vs) ∧ DqAll K F vs ds
  | .dic kvs => ∃ p us, v = .ref p ∧ H0 p = none ∧ F p = none ∧ H p = some (.dT us) ∧ KvD K F us kvs
  | .lkd kvs => ∃ p od us, v = .ref p ∧ H p = some (.frz od (.dT us)) ∧ KvD K F us kvs
  | .clm os k => ∃ p C dx l vs, v = .ref p ∧ IsC K C ∧ F p = some (.ins C dx (clF l k)) ∧ H0 l = none ∧ F l = none ∧ H l = some (.lst vs) ∧ DqAll K F vs os
  | .nst kvs => ∃ p xs, v = .ref p ∧ H0 p = none ∧ F p = none ∧ H p = some (nstO p xs) ∧ NsD K F p xs kvs
/-- what the slot may change lies at a -/
def mutA (F : Hp) (v : V) (a : Addr) : Sl → Prop
  | .dat _ => False
  | .own _ => v = .ref a
  | .dic _ => v = .ref a
  | .lkd _ => False
  | .clm _ _ => ∃ p C dx k, v = .ref p ∧ F p = some (.ins C dx (clF a k))
  | .nst _ => v = .ref a
theorem mut_back {K : PySem.W.Frag} {H0 F H F2 : Hp} {v : V} {a : Addr} {s : Sl} (q : SR K H0 F H v s) (e : Same F F2) (m : mutA F2 v a s) : mutA F v a s := by
  cases s with
  | dat d => exact m
  | own ds => exact m
  | dic kvs => exact m
  | nst kvs => exact m
  | lkd kvs => exact m
  | clm os k =>
    obtain ⟨p, C, dx, l, vs, rfl, _, hp, _⟩ := q
    obtain ⟨p2, C2, dx2, k2, e1, h2⟩ := m
    cases e1
    have z := (e _ _ hp).symm.trans h2
    cases z
    exact ⟨p, C, dx, k, rfl, hp⟩
theorem mut_at {K : PySem.W.Frag} {H0 F H : Hp} {v : V} {a : Addr} {s : Sl} (q : SR K H0 F H v s) (m : mutA F v a s) : H0 a = none ∧ F a = none ∧ ∃ o, H a = some o ∧ NT o := by
  cases s with
  | dat d => exact m.elim
  | own ds =>
    obtain ⟨p, vs, rfl, h0, hf, hp, _⟩ := q
    cases m
    exact ⟨h0, hf, _, hp, trivial⟩
  | dic kvs =>
    obtain ⟨p, us, rfl, h0, hf, hp, _⟩ := q
    cases m
    exact ⟨h0, hf, _, hp, trivial⟩
  | nst kvs =>
    obtain ⟨p, us, rfl, h0, hf, hp, _⟩ := q
    cases m
    exact ⟨h0, hf, _, hp, trivial⟩
  | lkd kvs => exact m.elim
  | clm os k =>
    obtain ⟨p, C, dx, l, vs, rfl, _, hp, h0, hf, hl, _⟩ := q
    obtain ⟨p2, C2, dx2, k2, e1, h2⟩ := m
    cases e1
    have z := hp.symm.trans h2
    cases z
    exact ⟨h0, hf, _, hl, trivial⟩
theorem SR.ext {K : PySem.W.Frag} {H0 F H F2 H2 : Hp} {v : V} {s : Sl} (q : SR K H0 F H v s) (x : Ext F H F2 H2) : SR K H0 F2 H2 v s := by
  cases s with
  | dat d => exact dp_mono x.ff _ _ q
  | own ds =>
    obtain ⟨p, vs, e, h0, hf, hp, ha⟩ := q
    exact ⟨p, vs, e, h0, x.ap p _ hp hf trivial, x.hh p _ hp, dpAll_mono x.ff _ _ ha⟩
  | dic kvs =>
    obtain ⟨p, us, e, h0, hf, hp, ha⟩ := q
    exact ⟨p, us, e, h0, x.ap p _ hp hf trivial, x.hh p _ hp, ha.mono x.ff⟩
  | nst kvs =>
    obtain ⟨p, us, e, h0, hf, hp, ha⟩ := q
    exact ⟨p, us, e, h0, x.ap p _ hp hf trivial, x.hh p _ hp, ha.mono x.ff⟩
  | lkd kvs =>
    obtain ⟨p, od, us, e, hp, ha⟩ := q
    exact ⟨p, od, us, e, x.hh p _ hp, ha.mono x.ff⟩
  | clm os k =>
    obtain ⟨p, C, dx, l, vs, e, ic, hp, h0, hf, hl, ha⟩ := q
    exact ⟨p, C, dx, l, vs, e, ic, x.ff p _ hp, h0, x.ap l _ hl hf trivial, x.hh l _ hl, dpAll_mono x.ff _ _ ha⟩
/-- another thing is changed -/
theorem SR.upd {K : PySem.W.Frag} {H0 F H : Hp} {v : V} {s : Sl} {a : Addr} {o o2 : HO} (q : SR K H0 F H v s) (ha : H a = some o) (nf : ∀ od u, o ≠ .frz od u) (n : ¬ mutA F v a s) : SR K H0 F (L2.upd H a o2) v s := by
  cases s with
  | dat d => exact q
  | own ds =>
    obtain ⟨p, vs, e, h0, hf, hp, hd⟩ := q
    exact ⟨p, vs, e, h0, hf, by rw [upd_ne (fun z => n (by rw [← z]; exact e))]; exact hp, hd⟩
  | dic kvs =>
    obtain ⟨p, us, e, h0, hf, hp, hd⟩ := q
    exact ⟨p, us, e, h0, hf, by rw [upd_ne (fun z => n (by rw [← z]; exact e))]; exact hp, hd⟩
  | nst kvs =>
    obtain ⟨p, us, e, h0, hf, hp, hd⟩ := q
    exact ⟨p, us, e, h0, hf, by rw [upd_ne (fun z => n (by rw [← z]; exact e))]; exact hp, hd⟩
  | lkd kvs =>
    obtain ⟨p, od, us, e, hp, hd⟩ := q
    refine ⟨p, od, us, e, ?_, hd⟩
    rw [upd_ne (fun z => by
      rw [z, ha] at hp
      exact nf _ _ (Option.some.inj hp))]
    exact hp
  | clm os k =>
    obtain ⟨p, C, dx, l, vs, e, ic, hp, h0, hf, hl, hd⟩ := q
    exact ⟨p, C, dx, l, vs, e, ic, hp, h0, hf, by rw [upd_ne (fun z => n (by rw [← z]; exact ⟨p, C, dx, k, e, hp⟩))]; exact hl, hd⟩
/-- another thing is frozen -/
theorem SR.frz {K : PySem.W.Frag} {H0 F H : Hp} {v : V} {s : Sl} {a : Addr} {o : HO} (q : SR K H0 F H v s) (hfa : F a = none) (n : ¬ mutA F v a s) : SR K H0 (L2.upd F a o) H v s := by
  have sF : Same F (L2.upd F a o) := same_new hfa
  cases s with
  | dat d => exact dp_mono sF _ _ q
  | own ds =>
    obtain ⟨p, vs, e, h0, hf, hp, hd⟩ := q
    exact ⟨p, vs, e, h0, by rw [upd_ne (fun z => n (by rw [← z]; exact e))]; exact hf, hp, dpAll_mono sF _ _ hd⟩
  | dic kvs =>
    obtain ⟨p, us, e, h0, hf, hp, hd⟩ := q
    exact ⟨p, us, e, h0, by rw [upd_ne (fun z => n (by rw [← z]; exact e))]; exact hf, hp, hd.mono sF⟩
  | nst kvs =>
    obtain ⟨p, us, e, h0, hf, hp, hd⟩ := q
    exact ⟨p, us, e, h0, by rw [upd_ne (fun z => n (by rw [← z]; exact e))]; exact hf, hp, hd.mono sF⟩
  | lkd kvs =>
    obtain ⟨p, od, us, e, hp, hd⟩ := q
    exact ⟨p, od, us, e, hp, hd.mono sF⟩
  | clm os k =>
    obtain ⟨p, C, dx, l, vs, e, ic, hp, h0, hf, hl, hd⟩ := q
    exact ⟨p, C, dx, l, vs, e, ic, sF _ _ hp, h0, by rw [upd_ne (fun z => n (by rw [← z]; exact ⟨p, C, dx, k, e, hp⟩))]; exact hf, hl, dpAll_mono sF _ _ hd⟩
structure Rep (K : PySem.W.Frag) (F0 H0 F H : Hp) (G : Gm) (σ : St) : Prop where
  fh : Same F H
  hh : Same H0 H
  ff : Same F0 F
  ap : ∀ a o, H0 a = some o → F0 a = none → NT o → F a = none
  len : G.length = σ.length
  slot : ∀ (i : Nat) (s : Sl), G[i]? = some (some s) → ∃ v, σ[i]? = some (some v) ∧ SR K H0 F H v s
  dist : ∀ (i j : Nat) (s t : Sl) (v u : V) (a : Addr), i ≠ j → G[i]? = some (some s) → G[j]? = some (some t) → σ[i]? = some (some v) → σ[j]? = some (some u) → mutA F v a s → mutA F u a t → False
theorem Rep.at {K : PySem.W.Frag} {F0 H0 F H : Hp} {G : Gm} {σ : St} (r : Rep K F0 H0 F H G σ) {i : Nat} {s : Sl} {v : V} (e : G[i]? = some (some s)) (h : σ[i]? = some (some v)) : SR K H0 F H v s := by
  obtain ⟨u, hu, q⟩ := r.slot i s e
  rw [h] at hu
  cases hu
  exact q
theorem Rep.ext {K : PySem.W.Frag} {F0 H0 F H F2 H2 : Hp} {G : Gm} {σ : St} (r : Rep K F0 H0 F H G σ) (x : Ext F H F2 H2) : Rep K F0 H0 F2 H2 G σ where
  fh := x.fh
  hh := r.hh.trans x.hh
  ff := r.ff.trans x.ff
  ap := fun a o h e t => x.ap a o (r.hh a o h) (r.ap a o h e t) t
  len := r.len
  slot := fun i s h => by
    obtain ⟨v, h1, h2⟩ := r.slot i s h
    exact ⟨v, h1, h2.ext x⟩
  dist := fun i j s t v u a ne h1 h2 e1 e2 m1 m2 => r.dist i j s t v u a ne h1 h2 e1 e2 (mut_back (r.at h1 e1) x.ff m1) (mut_back (r.at h2 e2) x.ff m2)

/-! ### readings by worth -/
def post (K : PySem.W.Frag) (ct : Nat → Addr) (W : WX) (σ : St) (F H : Hp) (Q : VK) : EO → Prop
  | .ok d w => ∀ v F2 H2, Ext F H F2 H2 → VR K H F2 H2 σ v d w → Q v H2
  | .exc c pl => ∀ cls dd F2 H2, Ext F H F2 H2 → XR K ct F2 H2 c pl cls dd → W cls dd σ H2
  | .stuck => False
def postB (K : PySem.W.Frag) (ct : Nat → Addr) (W : WX) (σ : St) (F H : Hp) (Q : Bool → Hp → Prop) : BO → Prop
  | .ok b => ∀ F2 H2, Ext F H F2 H2 → Q b H2
  | .exc c pl => ∀ cls dd F2 H2, Ext F H F2 H2 → XR K ct F2 H2 c pl cls dd → W cls dd σ H2
  | .stuck => False
def postA (K : PySem.W.Frag) (ct : Nat → Addr) (W : WX) (σ : St) (F H : Hp) (Q : List V → Hp → Prop) : AO → Prop
  | .ok ds => ∀ vs F2 H2, Ext F H F2 H2 → DqAll K F2 vs ds → Q vs H2
  | .exc c pl => ∀ cls dd F2 H2, Ext F H F2 H2 → XR K ct F2 H2 c pl cls dd → W cls dd σ H2
  | .stuck => False
def postS (K : PySem.W.Frag) (ct : Nat → Addr) (W : WX) (F0 H0 : Hp) (D : Ends) (F : Hp) : SO → Prop
  | .next G => ∀ σ2 F2 H2, Same F F2 → Rep K F0 H0 F2 H2 G σ2 → D.nx σ2 H2
  | .brk G => ∀ σ2 F2 H2, Same F F2 → Rep K F0 H0 F2 H2 G σ2 → D.bk σ2 H2
  | .cont G => ∀ σ2 F2 H2, Same F F2 → Rep K F0 H0 F2 H2 G σ2 → D.ct σ2 H2
  | .ret d => ∀ v F2 H2, Ext F0 H0 F2 H2 → Dq K F2 v d → D.rt v H2
  | .exc c pl G => ∀ cls dd σ2 F2 H2, Same F F2 → Rep K F0 H0 F2 H2 G σ2 → XR K ct F2 H2 c pl cls dd → W cls dd σ2 H2
  | .stuck => False
def tM (K : PySem.W.Frag) (ct : Nat → Addr) (W : WX) (m : Gm → EO) : TE := fun σ H Q => ∃ F0 H0 F G, Rep K F0 H0 F H G σ ∧ post K ct W σ F H Q (m G)
def tMB (K : PySem.W.Frag) (ct : Nat → Addr) (W : WX) (m : Gm → BO) : TT := fun σ H Q => ∃ F0 H0 F G, Rep K F0 H0 F H G σ ∧ postB K ct W σ F H Q (m G)
def tMA (K : PySem.W.Frag) (ct : Nat → Addr) (W : WX) (m : Gm → AO) : TA := fun σ H Q => ∃ F0 H0 F G, Rep K F0 H0 F H G σ ∧ postA K ct W σ F H Q (m G)
def sM (K : PySem.W.Frag) (ct : Nat → Addr) (W : WX) (m : Gm → SO) : TS := fun D σ H => ∃ F0 H0 F G, Rep K F0 H0 F H G σ ∧ postS K ct W F0 H0 D F (m G)
theorem Rep.extOf {K : PySem.W.Frag} {F0 H0 F H : Hp} {G : Gm} {σ : St} (r : Rep K F0 H0 F H G σ) : Ext F0 H0 F H := ⟨r.ff, r.fh, r.hh, r.ap⟩

/-! ### moving along -/
section
variable {K : PySem.W.Frag} {ct : Nat → Addr} {W : WX} {σ : St} {F H F1 H1 F2 H2 : Hp} {Q : VK}
theorem vr_back {v : V} {d : PyData} (x : Same H H1) : ∀ {w : Wh}, VR K H1 F2 H2 σ v d w → VR K H F2 H2 σ v d w
  | .frz, h => h
  | .new, ⟨p, vs, ds, e1, e2, h0, r⟩ => ⟨p, vs, ds, e1, e2, x.free h0, r⟩
  | .own _, h => h
theorem post_ext {o : EO} (h : post K ct W σ F H Q o) (x : Ext F H F1 H1) : post K ct W σ F1 H1 Q o := by
  cases o with
  | ok d w => exact fun v F2 H2 x2 r => h v F2 H2 (x.trans x2) (vr_back x.hh r)
  | exc c pl => exact fun cls dd F2 H2 x2 r => h cls dd F2 H2 (x.trans x2) r
  | stuck => exact h
theorem postB_ext {Q : Bool → Hp → Prop} {o : BO} (h : postB K ct W σ F H Q o) (x : Ext F H F1 H1) : postB K ct W σ F1 H1 Q o := by
  cases o with
  | ok b => exact fun F2 H2 x2 => h F2 H2 (x.trans x2)
  | exc c pl => exact fun cls dd F2 H2 x2 r => h cls dd F2 H2 (x.trans x2) r
  | stuck => exact h
theorem postA_ext {Q : List V → Hp → Prop} {o : AO} (h : postA K ct W σ F H Q o) (x : Ext F H F1 H1) : postA K ct W σ F1 H1 Q o := by
  cases o with
  | ok ds => exact fun vs F2 H2 x2 r => h vs F2 H2 (x.trans x2) r
  | exc c pl => exact fun cls dd F2 H2 x2 r => h cls dd F2 H2 (x.trans x2) r
  | stuck => exact h
theorem post_bind {o : EO} {k : PyData → Wh → EO} (h : post K ct W σ F H Q (o.bind k)) :
    post K ct W σ F H (fun v H1 => ∃ d w F1, Ext F H F1 H1 ∧ VR K H F1 H1 σ v d w ∧ post K ct W σ F1 H1 Q (k d w)) o := by
  cases o with
  | ok d w => exact fun v F1 H1 x r => ⟨d, w, F1, x, r, post_ext (o := k d w) h x⟩
  | exc c pl => exact h
  | stuck => exact h
theorem post_bindB {Q : Bool → Hp → Prop} {o : EO} {k : PyData → Wh → BO} (h : postB K ct W σ F H Q (o.bindB k)) :
    post K ct W σ F H (fun v H1 => ∃ d w F1, Ext F H F1 H1 ∧ VR K H F1 H1 σ v d w ∧ postB K ct W σ F1 H1 Q (k d w)) o := by
  cases o with
  | ok d w => exact fun v F1 H1 x r => ⟨d, w, F1, x, r, postB_ext (o := k d w) h x⟩
  | exc c pl => exact h
  | stuck => exact h
theorem post_bindA {Q : List V → Hp → Prop} {o : EO} {k : PyData → Wh → AO} (h : postA K ct W σ F H Q (o.bindA k)) :
    post K ct W σ F H (fun v H1 => ∃ d w F1, Ext F H F1 H1 ∧ VR K H F1 H1 σ v d w ∧ postA K ct W σ F1 H1 Q (k d w)) o := by
  cases o with
  | ok d w => exact fun v F1 H1 x r => ⟨d, w, F1, x, r, postA_ext (o := k d w) h x⟩
  | exc c pl => exact h
  | stuck => exact h
theorem postB_bind {Q : Bool → Hp → Prop} {o : BO} {k : Bool → BO} (h : postB K ct W σ F H Q (o.bind k)) :
    postB K ct W σ F H (fun b H1 => ∃ F1, Ext F H F1 H1 ∧ postB K ct W σ F1 H1 Q (k b)) o := by
  cases o with
  | ok b => exact fun F1 H1 x => ⟨F1, x, postB_ext (o := k b) h x⟩
  | exc c pl => exact h
  | stuck => exact h
theorem postB_bindE {o : BO} {k : Bool → EO} (h : post K ct W σ F H Q (o.bindE k)) :
    postB K ct W σ F H (fun b H1 => ∃ F1, Ext F H F1 H1 ∧ post K ct W σ F1 H1 Q (k b)) o := by
  cases o with
  | ok b => exact fun F1 H1 x => ⟨F1, x, post_ext (o := k b) h x⟩
  | exc c pl => exact h
  | stuck => exact h
theorem postA_bind {Q : List V → Hp → Prop} {o : AO} {k : List PyData → AO} (h : postA K ct W σ F H Q (o.bind k)) :
    postA K ct W σ F H (fun vs H1 => ∃ ds F1, Ext F H F1 H1 ∧ DqAll K F1 vs ds ∧ postA K ct W σ F1 H1 Q (k ds)) o := by
  cases o with
  | ok ds => exact fun vs F1 H1 x r => ⟨ds, F1, x, r, postA_ext (o := k ds) h x⟩
  | exc c pl => exact h
  | stuck => exact h
theorem postA_bindE {o : AO} {k : List PyData → EO} (h : post K ct W σ F H Q (o.bindE k)) :
    postA K ct W σ F H (fun vs H1 => ∃ ds F1, Ext F H F1 H1 ∧ DqAll K F1 vs ds ∧ post K ct W σ F1 H1 Q (k ds)) o := by
  cases o with
  | ok ds => exact fun vs F1 H1 x r => ⟨ds, F1, x, r, post_ext (o := k ds) h x⟩
  | exc c pl => exact h
  | stuck => exact h
/-- made frozen -/
theorem post_hard {o : EO} (h : post K ct W σ F H Q o.hard) : post K ct W σ F H (fun v H1 => ∃ d F1, o.hard = .ok d .frz ∧ Ext F H F1 H1 ∧ Dq K F1 v d ∧ Q v H1) o := by
  cases o with
  | ok d w =>
    cases w with
    | frz => exact fun v F1 H1 x r => ⟨d, F1, rfl, x, r, h v F1 H1 x r⟩
    | new =>
      intro v F1 H1 x r
      obtain ⟨F3, x3, _, r3⟩ := vr_hard x r (fun i e => nomatch e)
      exact ⟨d, F3, rfl, x3, r3, h v F3 H1 x3 r3⟩
    | own i => exact h.elim
  | exc c pl => exact h
  | stuck => exact h
end

/-! ### the judgements -/
abbrev EE (X : Cx) (ct : Nat → Addr) (W : WX) (e : Expr) (m : Gm → EO) : Prop := PE X e (tM X.K ct W m)
abbrev EB (X : Cx) (ct : Nat → Addr) (W : WX) (e : Expr) (m : Gm → BO) : Prop := PT X e (tMB X.K ct W m)
abbrev EA (X : Cx) (ct : Nat → Addr) (W : WX) (es : List Expr) (m : Gm → AO) : Prop := PA X es (tMA X.K ct W m)
abbrev ES (X : Cx) (ct : Nat → Addr) (W : WX) (st : Stmt) (m : Gm → SO) : Prop := PS X st (sM X.K ct W m)
abbrev ESs (X : Cx) (ct : Nat → Addr) (W : WX) (sts : List Stmt) (m : Gm → SO) : Prop := PSs X sts (sM X.K ct W m)
theorem pe_imp {X : Cx} {e : Expr} {t t2 : TE} (h : PE X e t) (i : ∀ σ H Q, t2 σ H Q → t σ H Q) : PE X e t2 := ⟨fun pins s σ H Q I q => h.run pins s σ H Q I (i σ H Q q)⟩
theorem pt_imp {X : Cx} {e : Expr} {t t2 : TT} (h : PT X e t) (i : ∀ σ H Q, t2 σ H Q → t σ H Q) : PT X e t2 := ⟨fun pins s σ H Q I q => h.run pins s σ H Q I (i σ H Q q)⟩
theorem pw_imp {X : Cx} {e : Expr} {t t2 : TT} (h : PW X e t) (i : ∀ σ H Q, t2 σ H Q → t σ H Q) : PW X e t2 := ⟨fun wh pins s σ H Q I q => h.run wh pins s σ H Q I (i σ H Q q)⟩
theorem pa_imp {X : Cx} {es : List Expr} {t t2 : TA} (h : PA X es t) (i : ∀ σ H Q, t2 σ H Q → t σ H Q) : PA X es t2 := ⟨fun pos pins s σ H Q I q => h.run pos pins s σ H Q I (i σ H Q q)⟩
theorem ps_imp {X : Cx} {st : Stmt} {t t2 : TS} (h : PS X st t) (i : ∀ D σ H, t2 D σ H → t D σ H) : PS X st t2 := ⟨fun pins s σ H D I q => h.run pins s σ H D I (i D σ H q)⟩
theorem pss_imp {X : Cx} {st : List Stmt} {t t2 : TS} (h : PSs X st t) (i : ∀ D σ H, t2 D σ H → t D σ H) : PSs X st t2 := ⟨fun pins s σ H D I q => h.run pins s σ H D I (i D σ H q)⟩

/-! ### names and constants -/
def varE (i : Nat) : Gm → EO := fun G => match G[i]? with
  | some (some (.dat d)) => .ok d .frz
  | some (some (.own ds)) => .ok (.list ds) (.own i)
  | _ => .stuck
def cE (d : PyData) : Gm → EO := fun _ => .ok d .frz
section
variable {X : Cx} {ct : Nat → Addr} {W : WX}
theorem tVar_of {K : PySem.W.Frag} {i : Nat} {σ : St} {H : Hp} {Q : VK} (h : tM K ct W (varE i) σ H Q) : tVar i σ H Q := by
  obtain ⟨F0, H0, F, G, r, p⟩ := h
  unfold varE at p
  have x := Ext.refl r.fh
  split at p
  · rename_i d e
    obtain ⟨v, h1, h2⟩ := r.slot i _ e
    exact ⟨v, h1, p v F H x h2⟩
  · rename_i ds e
    obtain ⟨v, h1, q, vs, e1, _, hf, hp, ha⟩ := r.slot i _ e
    exact ⟨v, h1, p v F H x ⟨h1, q, vs, ds, e1, rfl, hf, hp, ha⟩⟩
  · exact p.elim
theorem ee_var (i : Nat) {x : Str} {pos : Pos} (hN : X.N[i]? = some x := by rfl) (hv : Vis X.env.scope x := by first | exact Or.inl rfl | exact Or.inr (Or.inl rfl) | exact Or.inr (Or.inr rfl)) (hd : (x == ("__debug__" : Str)) = false := by decide)
    (hcd : (x == ("__classdict__" : Str)) = false := by decide) : EE X ct W (.Name x pos) (varE i) := pe_imp (pe_var hN hv hd hcd) fun _ _ _ h => tVar_of h
theorem tC_of {K : PySem.W.Frag} {v : V} {d : PyData} (hd : ∀ F, Dq K F v d) {σ : St} {H : Hp} {Q : VK} (h : tM K ct W (cE d) σ H Q) : tC v σ H Q := by
  obtain ⟨F0, H0, F, G, r, p⟩ := h
  exact p v F H (Ext.refl r.fh) (hd F)
theorem ee_int {i : Int} {j : Nat} {pos : Pos} : EE X ct W (.Constant (.int i) j pos) (cE (.int i)) := pe_imp pe_int fun _ _ _ h => tC_of (fun _ => .int i) h
theorem ee_bl {b : Bool} {j : Nat} {pos : Pos} : EE X ct W (.Constant (.bool b) j pos) (cE (.bool b)) := pe_imp pe_bl fun _ _ _ h => tC_of (fun _ => .bl b) h
theorem ee_non {j : Nat} {pos : Pos} : EE X ct W (.Constant .none j pos) (cE .none) := pe_imp pe_non fun _ _ _ h => tC_of (fun _ => .non) h
theorem ee_str {x : Str} {j : Nat} {pos : Pos} : EE X ct W (.Constant (.str x) j pos) (cE (.str x)) := pe_imp pe_str fun _ _ _ h => tC_of (fun _ => .str x) h
/-- a module's int or text -/
theorem ee_glI {x : Str} {i : Int} {t : Tok} {pos : Pos} (hm : X.mg x = some (.int i t)) (hg : Gl X x := by rfl) (hd : (x == ("__debug__" : Str)) = false := by decide) : EE X ct W (.Name x pos) (cE (.int i)) :=
  pe_imp (pe_glob hg hm (v := .int i) ⟨t, rfl⟩ hd) fun _ _ _ h => tC_of (fun _ => .int i) h
theorem ee_glS {x y : Str} {t : Tok} {pos : Pos} (hm : X.mg x = some (.str y t)) (hg : Gl X x := by rfl) (hd : (x == ("__debug__" : Str)) = false := by decide) : EE X ct W (.Name x pos) (cE (.str y)) :=
  pe_imp (pe_glob hg hm (v := .str y) ⟨t, rfl⟩ hd) fun _ _ _ h => tC_of (fun _ => .str y) h

/-! ### operators -/
def op2 (g : PyData → PyData → EO) (ma mb : Gm → EO) : Gm → EO := fun G => (ma G).bind fun d _ => (mb G).bind fun e _ => g d e
def op1 (g : PyData → EO) (ma : Gm → EO) : Gm → EO := fun G => (ma G).bind fun d _ => g d
def G2 (K : PySem.W.Frag) (r : R2) (g : PyData → PyData → EO) : Prop := ∀ (ct : Nat → Addr) (W : WX) (σ : St) (F H : Hp) (x y : V) (d e : PyData) (Q : VK), Same F H → VV K F H x d → VV K F H y e → post K ct W σ F H Q (g d e) → r x y H Q
def G1 (K : PySem.W.Frag) (r : V → Hp → VK → Prop) (g : PyData → EO) : Prop := ∀ (ct : Nat → Addr) (W : WX) (σ : St) (F H : Hp) (x : V) (d : PyData) (Q : VK), Same F H → VV K F H x d → post K ct W σ F H Q (g d) → r x H Q
/-- the first part's worth seen, then the rest -/
theorem tM_view {K : PySem.W.Frag} {ma : Gm → EO} {k : Gm → PyData → EO} {σ : St} {H : Hp} {Q : VK} (h : tM K ct W (fun G => (ma G).bind fun d _ => k G d) σ H Q) :
    tM K ct W ma σ H (fun v H1 => ∃ F0 H0 F1 G d, Rep K F0 H0 F1 H1 G σ ∧ VV K F1 H1 v d ∧ post K ct W σ F1 H1 Q (k G d)) := by
  obtain ⟨F0, H0, F, G, rp, p⟩ := h
  refine ⟨F0, H0, F, G, rp, ?_⟩
  have p1 := post_bind p
  revert p1
  cases ma G with
  | ok d w =>
    intro p1 v F1 H1 x1 r1
    obtain ⟨d', w', F1', x1', r1', p2⟩ := p1 v F1 H1 x1 r1
    exact ⟨F0, H0, F1', G, d', rp.ext x1', VV.of x1'.fh r1', p2⟩
  | exc c pl => exact fun p1 => p1
  | stuck => exact fun p1 => p1
theorem tM_mono {K : PySem.W.Frag} {m : Gm → EO} {σ : St} {H : Hp} {Q Q2 : VK} (h : tM K ct W m σ H Q) (q : ∀ v H1, Q v H1 → Q2 v H1) : tM K ct W m σ H Q2 := by
  obtain ⟨F0, H0, F, G, rp, p⟩ := h
  refine ⟨F0, H0, F, G, rp, ?_⟩
  revert p
  cases m G with
  | ok d w => exact fun p v F1 H1 x r => q _ _ (p v F1 H1 x r)
  | exc c pl => exact fun p => p
  | stuck => exact fun p => p
/-- another part in a known place -/
theorem tM_viewAt {K : PySem.W.Frag} {ma : Gm → EO} {k : PyData → EO} {σ : St} {F0 H0 F H : Hp} {G : Gm} {Q : VK} (rp : Rep K F0 H0 F H G σ) (p : post K ct W σ F H Q ((ma G).bind fun d _ => k d)) :
    tM K ct W ma σ H (fun v H1 => ∃ F1 d, Ext F H F1 H1 ∧ VV K F1 H1 v d ∧ post K ct W σ F1 H1 Q (k d)) := by
  refine ⟨F0, H0, F, G, rp, ?_⟩
  have p1 := post_bind p
  revert p1
  cases ma G with
  | ok d w =>
    intro p1 v F1 H1 x1 r1
    obtain ⟨d', w', F1', x1', r1', p2⟩ := p1 v F1 H1 x1 r1
    exact ⟨F1', d', x1', VV.of x1'.fh r1', p2⟩
  | exc c pl => exact fun p1 => p1
  | stuck => exact fun p1 => p1
theorem op2_of {K : PySem.W.Frag} {r : R2} {g : PyData → PyData → EO} {ma mb : Gm → EO} (hg : G2 K r g) {σ : St} {H : Hp} {Q : VK} (h : tM K ct W (op2 g ma mb) σ H Q) : tOp r (tM K ct W ma) (tM K ct W mb) σ H Q := by
  refine tM_mono (tM_view (k := fun G d => (mb G).bind fun e _ => g d e) h) fun v H1 ⟨F0, H0, F1, G, d, rp, vv, p⟩ => ?_
  refine tM_mono (tM_viewAt rp p) fun u H2 ⟨F2, e, x, vu, p2⟩ => ?_
  exact hg ct W σ F2 H2 v u d e Q x.fh (vv.mono x) vu p2
theorem op1_of {K : PySem.W.Frag} {r : V → Hp → VK → Prop} {g : PyData → EO} {ma : Gm → EO} (hg : G1 K r g) {σ : St} {H : Hp} {Q : VK} (h : tM K ct W (op1 g ma) σ H Q) : tUn r (tM K ct W ma) σ H Q :=
  tM_mono (tM_view (k := fun _ d => g d) h) fun v H1 ⟨F0, H0, F1, G, d, rp, vv, p⟩ => hg ct W σ F1 H1 v d Q rp.fh vv p
end
end VL

set_option Elab.async false
set_option linter.all false
set_option maxRecDepth 100000
/-! VB: the value layer: operators, comparisons, tests, displays, arguments, subscripts, slices. -/
namespace VL
open PySem L2
section
variable {X : Cx} {ct : Nat → Addr} {W : WX} {a b c : Expr} {ma mb mc : Gm → EO} {pos : Pos}
/-- the size that lists keep -/
abbrev big : Nat := 1000000
theorem big_line {n : Nat} (h : n ≤ big) : n ≤ sizeLine := Nat.le_trans h (by decide)
theorem ok_frz {K : PySem.W.Frag} {σ : St} {F H : Hp} {Q : VK} {d : PyData} {v : V} (fh : Same F H) (r : Dq K F v d) (p : post K ct W σ F H Q (.ok d .frz)) : Q v H := p v F H (Ext.refl fh) r
theorem ok_newL {K : PySem.W.Frag} {σ : St} {F H : Hp} {Q : VK} {ds : List PyData} {vs : List V} (fh : Same F H) (r : DqAll K F vs ds) (p : post K ct W σ F H Q (.ok (.list ds) .new)) {q : Addr} (hq : H q = none) : Q (.ref q) (upd H q (.lst vs)) :=
  p (.ref q) F _ (Ext.new fh hq) ⟨q, vs, ds, rfl, rfl, hq, fh.free hq, upd_same, r⟩
theorem ok_newT {K : PySem.W.Frag} {σ : St} {F H : Hp} {Q : VK} {ds : List PyData} {vs : List V} (fh : Same F H) (r : DqAll K F vs ds) (p : post K ct W σ F H Q (.ok (.tuple ds) .frz)) {q : Addr} {o : HO} (to : TpO o vs) (hq : H q = none) : Q (.ref q) (upd H q o) :=
  p (.ref q) (upd F q o) _ (Ext.newF fh hq) (Dq.tup ⟨o, upd_same, to⟩ (dpAll_mono (same_new (fh.free hq)) _ _ r))
theorem OpR.imp {f : Value → Value → Sem Value} {r r2 : R2} (h : OpR X f r) (i : ∀ x y H Q, r2 x y H Q → r x y H Q) : OpR X f r2 := fun pins s σ H x y v u Q I rx ry q => h pins s σ H x y v u Q I rx ry (i x y H Q q)

/-! ### arithmetic -/
def gAdd : PyData → PyData → EO
  | .int i, .int j => .ok (.int (i + j)) .frz
  | .list xs, .list ys => if xs.length + ys.length ≤ big then .ok (.list (xs ++ ys)) .new else .stuck
  | .tuple xs, .tuple ys => if xs.length + ys.length ≤ big then .ok (.tuple (xs ++ ys)) .frz else .stuck
  | .str x, .str y => if x.length + y.length ≤ big then .ok (.str (x ++ y)) .frz else .stuck
  | _, _ => .stuck
def rAddAll (K : PySem.W.Frag) : R2 := fun x y H Q => ((rI0 fun i j => .int (i + j)) x y H Q ∨ rCat x y H Q) ∨ rCatO K x y H Q ∨ ∃ i j, x = .str i ∧ y = .str j ∧ i.length + j.length ≤ sizeLine ∧ Q (.str (i ++ j)) H
theorem op_addAll : OpR X (binaryOp .Add) (rAddAll X.K) := OpR.or (OpR.or op_add op_cat) (OpR.or op_catO op_add_str)
theorem g_add {K : PySem.W.Frag} : G2 K (rAddAll K) gAdd := by
  intro ct W σ F H x y d e Q fh vx vy p
  unfold gAdd at p
  split at p
  · rename_i i j
    rw [vx.int, vy.int]
    exact .inl (.inl ⟨i, j, rfl, rfl, ok_frz fh (.int _) p⟩)
  · rename_i xs ys
    split at p
    · rename_i hz
      obtain ⟨_, a, vs, rfl, h1, r1⟩ := vx
      obtain ⟨_, b, us, rfl, h2, r2⟩ := vy
      refine .inl (.inr ⟨a, b, vs, us, rfl, rfl, h1, h2, ?_, fun q hq => ok_newL fh (dpAll_app r1 r2) p hq⟩)
      rw [dpAll_len r1, dpAll_len r2]
      exact big_line hz
    · exact p.elim
  · rename_i xs ys
    split at p
    · rename_i hz
      obtain ⟨_, a, vs, rfl, h1, r1⟩ := vx
      obtain ⟨_, b, us, rfl, h2, r2⟩ := vy
      have e1 := dpAll_len r1
      have e2 := dpAll_len r2
      refine .inr (.inl ⟨a, b, vs, us, rfl, rfl, (h1.mono fh).sq, (h2.mono fh).sq, by rw [e1, e2]; exact big_line hz, fun z => ?_, fun _ z => ?_, fun _ _ q o to hq => ok_newT fh (dpAll_app r1 r2) p to hq⟩)
      · subst z
        cases r1
        exact ok_frz fh (.tup h2 r2) p
      · subst z
        cases r2
        rw [List.append_nil] at p
        exact ok_frz fh (.tup h1 r1) p
    · exact p.elim
  · rename_i s t
    split at p
    · rename_i hz
      rw [vx.str, vy.str]
      exact .inr (.inr ⟨s, t, rfl, rfl, big_line hz, ok_frz fh (.str _) p⟩)
    · exact p.elim
  · exact p.elim
theorem ee_add (ha : EE X ct W a ma) (hb : EE X ct W b mb) : EE X ct W (.BinOp a .Add b pos) (op2 gAdd ma mb) := pe_imp (pe_op op_addAll ha hb) fun _ _ _ h => op2_of g_add h
def gInt (g : Int → Int → Option PyData) : PyData → PyData → EO
  | .int i, .int j => match g i j with
    | some d => .ok d .frz
    | none => .stuck
  | _, _ => .stuck
theorem g_int {K : PySem.W.Frag} {C : Int → Int → Prop} {f : Int → Int → V} {g : Int → Int → Option PyData} (h : ∀ i j d, g i j = some d → C i j ∧ ∀ F, Dq K F (f i j) d) : G2 K (rI C f) (gInt g) := by
  intro ct W σ F H x y d e Q fh vx vy p
  unfold gInt at p
  split at p
  · rename_i i j
    split at p
    · rename_i z hz
      rw [vx.int, vy.int]
      exact ⟨i, j, rfl, rfl, (h i j z hz).1, ok_frz fh ((h i j z hz).2 F) p⟩
    · exact p.elim
  · exact p.elim
theorem rI_true {f : Int → Int → V} (x y : V) (H : Hp) (Q : VK) (h : rI (fun _ _ => True) f x y H Q) : rI0 f x y H Q := by
  obtain ⟨i, j, h1, h2, _, q⟩ := h
  exact ⟨i, j, h1, h2, q⟩
def iSub (i j : Int) : Option PyData := some (.int (i - j))
def iFdiv (i j : Int) : Option PyData := if 0 < j ∧ j < 1073741824 then some (.int (i / j)) else none
def iMod (i j : Int) : Option PyData := if 0 < j then some (.int (i % j)) else none
def iPow (i j : Int) : Option PyData := if 0 ≤ j ∧ j ≤ 1000 ∧ i.natAbs ≤ 1000 then some (.int (i ^ j.toNat)) else none
def iLt (i j : Int) : Option PyData := some (.bool (decide (i < j)))
def iLe (i j : Int) : Option PyData := some (.bool (decide (i ≤ j)))
def iGt (i j : Int) : Option PyData := some (.bool (decide (j < i)))
def iGe (i j : Int) : Option PyData := some (.bool (decide (j ≤ i)))
theorem ee_sub (ha : EE X ct W a ma) (hb : EE X ct W b mb) : EE X ct W (.BinOp a .Sub b pos) (op2 (gInt iSub) ma mb) :=
  pe_imp (pe_op (OpR.imp op_sub rI_true) ha hb) fun _ _ _ h => op2_of (g_int fun i j d e => by cases e; exact ⟨trivial, fun _ => .int _⟩) h
theorem ee_fdiv (ha : EE X ct W a ma) (hb : EE X ct W b mb) : EE X ct W (.BinOp a .FloorDiv b pos) (op2 (gInt iFdiv) ma mb) :=
  pe_imp (pe_op op_fdiv ha hb) fun _ _ _ h => op2_of (g_int fun i j d e => by
    unfold iFdiv at e
    split at e
    · rename_i hc
      cases e
      exact ⟨hc, fun _ => .int _⟩
    · cases e) h
theorem ee_mod (ha : EE X ct W a ma) (hb : EE X ct W b mb) : EE X ct W (.BinOp a .Mod b pos) (op2 (gInt iMod) ma mb) :=
  pe_imp (pe_op op_mod ha hb) fun _ _ _ h => op2_of (g_int fun i j d e => by
    unfold iMod at e
    split at e
    · rename_i hc
      cases e
      exact ⟨hc, fun _ => .int _⟩
    · cases e) h
theorem ee_pow (ha : EE X ct W a ma) (hb : EE X ct W b mb) : EE X ct W (.BinOp a .Pow b pos) (op2 (gInt iPow) ma mb) :=
  pe_imp (pe_op op_pow ha hb) fun _ _ _ h => op2_of (g_int fun i j d e => by
    unfold iPow at e
    split at e
    · rename_i hc
      cases e
      exact ⟨⟨hc.1, by omega, by omega⟩, fun _ => .int _⟩
    · cases e) h
/-- * : ints; a list and an int -/
def gMul : PyData → PyData → EO
  | .int i, .int j => if (decide (-(2 ^ 64) < i ∧ i < 2 ^ 64) || decide (-(2 ^ 64) < j ∧ j < 2 ^ 64)) = true then .ok (.int (i * j)) .frz else .stuck
  | .list xs, .int j => if 0 ≤ j ∧ j ≤ 1000 ∧ xs.length * j.toNat ≤ big then .ok (.list (List.replicate j.toNat xs).flatten) .new else .stuck
  | .tuple xs, .int j => if mulT = true ∧ 2 ≤ j ∧ j ≤ 1000 ∧ (xs.isEmpty = false) ∧ xs.length ≤ 1000 then .ok (.tuple (List.replicate j.toNat xs).flatten) .frz else if mulT = true ∧ j = 1 then .ok (.tuple xs) .frz else .stuck
  | _, _ => .stuck
theorem dpAll_rep {K : PySem.W.Frag} {H : Hp} {vs : List V} {ds : List PyData} (r : DqAll K H vs ds) : ∀ n : Nat, DqAll K H (List.replicate n vs).flatten (List.replicate n ds).flatten
  | 0 => .nil
  | n + 1 => by
    rw [List.replicate_succ, List.replicate_succ, List.flatten_cons, List.flatten_cons]
    exact dpAll_app r (dpAll_rep r n)
end
end VL

set_option Elab.async false
set_option linter.all false
set_option maxRecDepth 100000
/-! VC: the value layer: *, comparisons, tests, displays, arguments. -/
namespace VL
open PySem L2
section
variable {X : Cx} {ct : Nat → Addr} {W : WX} {a b c : Expr} {ma mb mc : Gm → EO} {pos : Pos}
def rMulAll (K : PySem.W.Frag) : R2 := fun x y H Q => ((rI CMul fun i j => .int (i * j)) x y H Q ∨ rRep x y H Q) ∨ rRepO K x y H Q
theorem op_mulAll : OpR X (binaryOp .Mult) (rMulAll X.K) := OpR.or (OpR.or op_mul op_rep) op_repO
theorem g_mul {K : PySem.W.Frag} : G2 K (rMulAll K) gMul := by
  intro ct W σ F H x y d e Q fh vx vy p
  unfold gMul at p
  split at p
  · rename_i i j
    split at p
    · rename_i hc
      rw [vx.int, vy.int]
      rw [Bool.or_eq_true, decide_eq_true_eq, decide_eq_true_eq] at hc
      exact .inl (.inl ⟨i, j, rfl, rfl, hc, ok_frz fh (.int _) p⟩)
    · exact p.elim
  · rename_i xs j
    split at p
    · rename_i hc
      obtain ⟨_, a, vs, rfl, h1, r1⟩ := vx
      rw [vy.int]
      refine .inl (.inr ⟨a, j, vs, rfl, rfl, h1, by omega, by omega, ?_, fun q hq => ok_newL fh (dpAll_rep r1 _) p hq⟩)
      rw [dpAll_len r1]
      exact big_line hc.2.2
    · exact p.elim
  · rename_i xs j
    split at p
    · rename_i hc
      obtain ⟨_, a, vs, rfl, h1, r1⟩ := vx
      rw [vy.int]
      refine .inr (repO_of hc.1 ⟨a, j, vs, rfl, rfl, (h1.mono fh).sq, fun z => ?_, hc.2.1, hc.2.2.1, ?_, fun q o to hq => ok_newT fh (dpAll_rep r1 _) p to hq⟩)
      · subst z
        cases r1
        exact Bool.noConfusion hc.2.2.2.1
      · rw [dpAll_len r1]
        exact hc.2.2.2.2
    · split at p
      · rename_i hc
        obtain ⟨_, a, vs, rfl, h1, r1⟩ := vx
        obtain ⟨hc1, rfl⟩ := hc
        rw [vy.int]
        exact .inr (rep1_of hc1 ⟨a, vs, rfl, rfl, (h1.mono fh).sq, ok_frz fh (.tup h1 r1) p⟩)
      · exact p.elim
  · exact p.elim
theorem ee_mul (ha : EE X ct W a ma) (hb : EE X ct W b mb) : EE X ct W (.BinOp a .Mult b pos) (op2 gMul ma mb) := pe_imp (pe_op op_mulAll ha hb) fun _ _ _ h => op2_of g_mul h
theorem ee_neg {i : Int} {j : Nat} {p2 : Pos} : EE X ct W (.UnaryOp .USub (.Constant (.int i) j p2) pos) (cE (.int (-i))) :=
  pe_imp (pe_un un_neg pe_int) fun σ H Q h => ⟨i, rfl, tC_of (v := .int (-i)) (σ := σ) (fun _ => .int _) h⟩

/-! ### comparisons, as values -/
def gEq : PyData → PyData → EO
  | .int i, .int j => .ok (.bool (i == j)) .frz
  | d, e => if (SeqAt.shaped d && SeqAt.shaped e) = true then .ok (.bool (PyData.eqv d e)) .frz else .stuck
def gNe : PyData → PyData → EO
  | .int i, .int j => .ok (.bool (!(i == j))) .frz
  | d, e => if (SeqAt.shaped d && SeqAt.shaped e) = true then .ok (.bool (!PyData.eqv d e)) .frz else .stuck
theorem shaped_int (i : Int) : SeqAt.shaped (.int i) = true := by simp [SeqAt.shaped, PyData.canLay0, PyData.depth]
theorem dq_shaped {K : PySem.W.Frag} {H : Hp} {v : V} {d : PyData} (h : Dq K H v d) (s : SeqAt.shaped d = true) : L2.Dp K H v d := dq_dp d v (SeqAt.canLay_of_shaped s) h
theorem g_eq {K : PySem.W.Frag} : G2 K (rEqD K) gEq := by
  intro ct W σ F H x y d e Q fh vx vy p
  unfold gEq at p
  split at p
  · rename_i i j
    exact ⟨_, _, dq_shaped vx.1 (shaped_int i), dq_shaped vy.1 (shaped_int j), shaped_int i, shaped_int j, ok_frz fh (.bl _) (by rw [PyData.eqv]; exact p)⟩
  · split at p
    · rename_i hc
      rw [Bool.and_eq_true] at hc
      exact ⟨_, _, dq_shaped vx.1 hc.1, dq_shaped vy.1 hc.2, hc.1, hc.2, ok_frz fh (.bl _) p⟩
    · exact p.elim
theorem g_ne {K : PySem.W.Frag} : G2 K (rNeD K) gNe := by
  intro ct W σ F H x y d e Q fh vx vy p
  unfold gNe at p
  split at p
  · rename_i i j
    exact ⟨_, _, dq_shaped vx.1 (shaped_int i), dq_shaped vy.1 (shaped_int j), shaped_int i, shaped_int j, ok_frz fh (.bl _) (by rw [PyData.eqv]; exact p)⟩
  · split at p
    · rename_i hc
      rw [Bool.and_eq_true] at hc
      exact ⟨_, _, dq_shaped vx.1 hc.1, dq_shaped vy.1 hc.2, hc.1, hc.2, ok_frz fh (.bl _) p⟩
    · exact p.elim
/-- in: a list of data -/
def gIn : PyData → PyData → EO
  | d, .list es => if (SeqAt.shaped d && SeqAt.shaped (.list es)) = true then .ok (.bool (es.any fun z => PyData.eqv z d)) .frz else .stuck
  | _, _ => .stuck
def gNotIn : PyData → PyData → EO
  | d, .list es => if (SeqAt.shaped d && SeqAt.shaped (.list es)) = true then .ok (.bool (!es.any fun z => PyData.eqv z d)) .frz else .stuck
  | _, _ => .stuck
theorem g_in {K : PySem.W.Frag} : G2 K (rInD K) gIn := by
  intro ct W σ F H x y d e Q fh vx vy p
  unfold gIn at p
  split at p
  · split at p
    · rename_i hc
      rw [Bool.and_eq_true] at hc
      exact ⟨_, _, dq_shaped vx.1 hc.1, dq_shaped vy.1 hc.2, hc.1, hc.2, ok_frz fh (.bl _) p⟩
    · exact p.elim
  · exact p.elim
theorem g_notIn {K : PySem.W.Frag} : G2 K (rNotInD K) gNotIn := by
  intro ct W σ F H x y d e Q fh vx vy p
  unfold gNotIn at p
  split at p
  · split at p
    · rename_i hc
      rw [Bool.and_eq_true] at hc
      exact ⟨_, _, dq_shaped vx.1 hc.1, dq_shaped vy.1 hc.2, hc.1, hc.2, ok_frz fh (.bl _) p⟩
    · exact p.elim
  · exact p.elim
/-- in: a tuple of flat things; a text -/
def flatD : PyData → Bool
  | .none | .bool _ | .int _ | .str _ => true
  | _ => false
def toV : PyData → V
  | .none => .non
  | .bool b => .bl b
  | .int i => .int i
  | .str x => .str x
  | _ => .non
theorem flat_v {K : PySem.W.Frag} {H : Hp} {v : V} {d : PyData} (h : Dq K H v d) (f : flatD d = true) : v = toV d := by
  cases h <;> first | rfl | cases f
theorem flat_vs {K : PySem.W.Frag} {H : Hp} : ∀ {vs : List V} {ds : List PyData}, DqAll K H vs ds → ds.all flatD = true → vs = ds.map toV
  | _, _, .nil, _ => rfl
  | _, _, .cons h t, f => by
    rw [List.all_cons, Bool.and_eq_true] at f
    rw [flat_v h f.1, flat_vs t f.2]
    rfl
theorem flat_flatV : ∀ d : PyData, flatD d = true → flatV (toV d) = true
  | .none, _ => rfl
  | .bool _, _ => rfl
  | .int _, _ => rfl
  | .str _, _ => rfl
  | .list _, h => nomatch h
  | .tuple _, h => nomatch h
  | .dict _, h => nomatch h
theorem flat_all : ∀ ds : List PyData, ds.all flatD = true → (ds.map toV).all flatV = true
  | [], _ => rfl
  | d :: ds, h => by
    rw [List.all_cons, Bool.and_eq_true] at h
    rw [List.map_cons, List.all_cons, flat_flatV d h.1, flat_all ds h.2]
    rfl
def gInF (neg : Bool) : PyData → PyData → EO
  | d, .tuple es => if (flatD d && es.all flatD) = true then .ok (.bool (if neg = true then !inV (toV d) (es.map toV) else inV (toV d) (es.map toV))) .frz else .stuck
  | _, _ => .stuck
theorem g_inF {K : PySem.W.Frag} {neg : Bool} : G2 K (rIn K neg) (gInF neg) := by
  intro ct W σ F H x y d e Q fh vx vy p
  unfold gInF at p
  split at p
  · split at p
    · rename_i es hc
      rw [Bool.and_eq_true] at hc
      obtain ⟨_, a, vs, rfl, h1, r1⟩ := vy
      rw [flat_v vx.1 hc.1]
      have e1 := flat_vs r1 hc.2
      subst e1
      exact ⟨a, _, rfl, .inr (h1.mono fh).sq, flat_flatV _ hc.1, flat_all _ hc.2, ok_frz fh (.bl _) p⟩
    · exact p.elim
  · exact p.elim
def gInS (neg : Bool) : PyData → PyData → EO
  | .str x, .str y => .ok (.bool (if neg = true then !(!(Builtin.Str.occurrences y x 0 y.length 1).isEmpty) else !(Builtin.Str.occurrences y x 0 y.length 1).isEmpty)) .frz
  | _, _ => .stuck
theorem g_inS {K : PySem.W.Frag} : G2 K (fun x y H Q => ∃ i j, x = .str i ∧ y = .str j ∧ Q (.bl (!(Builtin.Str.occurrences j i 0 j.length 1).isEmpty)) H) (gInS false) := by
  intro ct W σ F H x y d e Q fh vx vy p
  unfold gInS at p
  split at p
  · rw [vx.str, vy.str]
    exact ⟨_, _, rfl, rfl, ok_frz fh (.bl _) p⟩
  · exact p.elim
theorem g_notInS {K : PySem.W.Frag} : G2 K (fun x y H Q => ∃ i j, x = .str i ∧ y = .str j ∧ Q (.bl (!(!(Builtin.Str.occurrences j i 0 j.length 1).isEmpty))) H) (gInS true) := by
  intro ct W σ F H x y d e Q fh vx vy p
  unfold gInS at p
  split at p
  · rw [vx.str, vy.str]
    exact ⟨_, _, rfl, rfl, ok_frz fh (.bl _) p⟩
  · exact p.elim
def isNone : PyData → Bool
  | .none => true
  | _ => false
theorem none_iff {K : PySem.W.Frag} {H : Hp} {v : V} {d : PyData} (h : Dq K H v d) : decide (v = .non) = isNone d := by
  cases h <;> first | rfl | exact decide_eq_false (fun z => nomatch z)
def gIs (neg : Bool) : PyData → PyData → EO
  | d, .none => .ok (.bool (if neg = true then !isNone d else isNone d)) .frz
  | _, _ => .stuck
theorem g_is {K : PySem.W.Frag} : G2 K (fun x y H Q => y = .non ∧ Q (.bl (decide (x = .non))) H) (gIs false) := by
  intro ct W σ F H x y d e Q fh vx vy p
  unfold gIs at p
  split at p
  · exact ⟨vy.non, ok_frz fh (.bl _) (by rw [none_iff vx.1]; exact p)⟩
  · exact p.elim
theorem g_isN {K : PySem.W.Frag} : G2 K (fun x y H Q => y = .non ∧ Q (.bl (!decide (x = .non))) H) (gIs true) := by
  intro ct W σ F H x y d e Q fh vx vy p
  unfold gIs at p
  split at p
  · exact ⟨vy.non, ok_frz fh (.bl _) (by rw [none_iff vx.1]; exact p)⟩
  · exact p.elim

/-- a comparison by its operator: the rule and its worth -/
structure Cm (X : Cx) (op : CmpOp) (g : PyData → PyData → EO) : Prop where
  ex : ∃ r, OpR X (compareOp op) r ∧ G2 X.K r g
theorem cm_lt : Cm X .Lt (gInt iLt) := ⟨_, OpR.imp op_lt rI_true, g_int fun i j d e => by cases e; exact ⟨trivial, fun _ => .bl _⟩⟩
theorem cm_le : Cm X .LtE (gInt iLe) := ⟨_, OpR.imp op_le rI_true, g_int fun i j d e => by cases e; exact ⟨trivial, fun _ => .bl _⟩⟩
theorem cm_gt : Cm X .Gt (gInt iGt) := ⟨_, OpR.imp op_gt rI_true, g_int fun i j d e => by cases e; exact ⟨trivial, fun _ => .bl _⟩⟩
theorem cm_ge : Cm X .GtE (gInt iGe) := ⟨_, OpR.imp op_ge rI_true, g_int fun i j d e => by cases e; exact ⟨trivial, fun _ => .bl _⟩⟩
theorem cm_eq {k : Nat} (hr : Room k X.A) : Cm X .Eq gEq := ⟨_, op_eqD hr.units, g_eq⟩
theorem cm_ne {k : Nat} (hr : Room k X.A) : Cm X .NotEq gNe := ⟨_, op_neD hr.units, g_ne⟩
theorem cm_in {k : Nat} (hr : Room k X.A) : Cm X .In gIn := ⟨_, op_inD (by have := hr.un; omega), g_in⟩
theorem cm_nin {k : Nat} (hr : Room k X.A) : Cm X .NotIn gNotIn := ⟨_, op_notInD (by have := hr.un; omega), g_notIn⟩
theorem cm_inF : Cm X .In (gInF false) := ⟨_, op_in_seq, g_inF⟩
theorem cm_ninF : Cm X .NotIn (gInF true) := ⟨_, op_notIn_seq, g_inF⟩
theorem cm_inS : Cm X .In (gInS false) := ⟨_, op_in_str, g_inS⟩
theorem cm_ninS : Cm X .NotIn (gInS true) := ⟨_, op_notin_str, g_notInS⟩
theorem cm_is : Cm X .Is (gIs false) := ⟨_, op_isN, g_is⟩
theorem cm_isn : Cm X .IsNot (gIs true) := ⟨_, op_notN, g_isN⟩
theorem ee_cmp {op : CmpOp} {g : PyData → PyData → EO} (hc : Cm X op g) (ha : EE X ct W a ma) (hb : EE X ct W b mb) (hm : behindInMarks op b = false := by first | exact nomark _ | rfl | with_unfolding_all rfl) : EE X ct W (.Compare a [op] [b] pos) (op2 g ma mb) := by
  obtain ⟨r, h1, h2⟩ := hc.ex
  exact pe_imp (pe_cmpR h1 ha hb hm) fun _ _ _ h => op2_of h2 h
end
end VL

set_option Elab.async false
set_option linter.all false
set_option maxRecDepth 100000
/-! VD: the value layer: chains, tests, displays, arguments, subscripts, slices. -/
namespace VL
open PySem L2
section
variable {X : Cx} {ct : Nat → Addr} {W : WX} {a b c : Expr} {ma mb mc : Gm → EO} {pos : Pos}
theorem post_mono {K : PySem.W.Frag} {σ : St} {F H : Hp} {Q Q2 : VK} {o : EO} (h : post K ct W σ F H Q o) (q : ∀ v H1, Q v H1 → Q2 v H1) : post K ct W σ F H Q2 o := by
  cases o with
  | ok d w => exact fun v F1 H1 x r => q _ _ (h v F1 H1 x r)
  | exc c pl => exact h
  | stuck => exact h
theorem postB_mono {K : PySem.W.Frag} {σ : St} {F H : Hp} {Q Q2 : Bool → Hp → Prop} {o : BO} (h : postB K ct W σ F H Q o) (q : ∀ v H1, Q v H1 → Q2 v H1) : postB K ct W σ F H Q2 o := by
  cases o with
  | ok b => exact fun F1 H1 x => q _ _ (h F1 H1 x)
  | exc c pl => exact h
  | stuck => exact h
theorem postA_mono {K : PySem.W.Frag} {σ : St} {F H : Hp} {Q Q2 : List V → Hp → Prop} {o : AO} (h : postA K ct W σ F H Q o) (q : ∀ v H1, Q v H1 → Q2 v H1) : postA K ct W σ F H Q2 o := by
  cases o with
  | ok ds => exact fun vs F1 H1 x r => q _ _ (h vs F1 H1 x r)
  | exc c pl => exact h
  | stuck => exact h

/-! ### a < b < c -/
def chainE (g g2 : PyData → PyData → EO) (ma mb mc : Gm → EO) : Gm → EO := fun G => (ma G).bind fun d _ => (mb G).bind fun e _ => (g d e).bind fun z _ => match z with
  | .bool true => (mc G).bind fun f _ => g2 e f
  | .bool false => .ok (.bool false) .frz
  | _ => .stuck
theorem chain_of {K : PySem.W.Frag} {r r2 : R2} {g g2 : PyData → PyData → EO} (h1 : G2 K r g) (h2 : G2 K r2 g2) {σ : St} {H : Hp} {Q : VK} (h : tM K ct W (chainE g g2 ma mb mc) σ H Q) : tChain r r2 (tM K ct W ma) (tM K ct W mb) (tM K ct W mc) σ H Q := by
  refine tM_mono (tM_view (k := fun G d => (mb G).bind fun e _ => (g d e).bind fun z _ => match z with
    | .bool true => (mc G).bind fun f _ => g2 e f
    | .bool false => .ok (.bool false) .frz
    | _ => .stuck) h) fun v H1 ⟨F0, H0, F1, G, d, rp, vv, p⟩ => ?_
  refine tM_mono (tM_viewAt rp p) fun u H2 ⟨F2, e, x, vu, p2⟩ => ?_
  refine h1 ct W σ F2 H2 v u d e _ x.fh (vv.mono x) vu ?_
  refine post_mono (post_bind p2) fun z H3 ⟨dz, w, F3, x3, rz, p3⟩ => ?_
  have vz := VV.of x3.fh rz
  split at p3
  · refine ⟨true, vz.bl, iteT ?_⟩
    refine tM_mono (tM_viewAt ((rp.ext x).ext x3) p3) fun t H4 ⟨F4, f, x4, vt, p4⟩ => ?_
    exact h2 ct W σ F4 H4 u t e f Q x4.fh ((vu.mono x3).mono x4) vt p4
  · exact ⟨false, vz.bl, iteF (ok_frz x3.fh (.bl _) p3)⟩
  · exact p3.elim
theorem ee_chain {op op2 : CmpOp} {g g2 : PyData → PyData → EO} (h1 : Cm X op g) (h2 : Cm X op2 g2) (ha : EE X ct W a ma) (hb : EE X ct W b mb) (hc : EE X ct W c mc)
    (hm : lastMarks [op, op2] [b, c] = false := by with_unfolding_all rfl) : EE X ct W (.Compare a [op, op2] [b, c] pos) (chainE g g2 ma mb mc) := by
  obtain ⟨r, o1, k1⟩ := h1.ex
  obtain ⟨r2, o2, k2⟩ := h2.ex
  exact pe_imp (pe_chain o1 o2 ha hb hc hm) fun _ _ _ h => chain_of k1 k2 h

/-! ### tests -/
def truthD : PyData → Option Bool
  | .none => some false
  | .bool b => some b
  | .int i => some (i != 0)
  | .str x => if x.length ≤ big then some ((x.length : Int) != 0) else none
  | .list ds => some (!ds.isEmpty)
  | .tuple ds => some (!ds.isEmpty)
  | .dict _ => none
def truthB (m : Gm → EO) : Gm → BO := fun G => (m G).bindB fun d _ => match truthD d with
  | some b => .ok b
  | none => .stuck
def boolB (m : Gm → EO) : Gm → BO := fun G => (m G).bindB fun d _ => match d with
  | .bool b => .ok b
  | _ => .stuck
theorem dpAll_empty {K : PySem.W.Frag} {H : Hp} {vs : List V} {ds : List PyData} (r : DqAll K H vs ds) : (!ds.isEmpty) = !vs.isEmpty := by cases r <;> rfl
theorem tru_of {K : PySem.W.Frag} {F H : Hp} {v : V} {d : PyData} {k : Bool} (fh : Same F H) (h : VV K F H v d) (e : truthD d = some k) : TruV K v H k := by
  cases d with
  | none => cases e; rw [h.non]; rfl
  | bool b => cases e; rw [h.bl]; rfl
  | int i => cases e; rw [h.int]; rfl
  | str x =>
    have e2 : (if x.length ≤ big then some ((x.length : Int) != 0) else none) = some k := e
    split at e2
    · rename_i hz
      cases e2
      rw [h.str]
      exact ⟨big_line hz, rfl⟩
    · cases e2
  | list ds =>
    cases e
    obtain ⟨_, a, vs, rfl, h1, r⟩ := h
    exact .inl ⟨vs, SqL.of h1, dpAll_empty r⟩
  | tuple ds =>
    cases e
    obtain ⟨_, a, vs, rfl, h1, r⟩ := h
    exact .inr (.inl ⟨vs, (h1.mono fh).sq, dpAll_empty r⟩)
  | dict kvs => cases e
theorem tMB_view {K : PySem.W.Frag} {k : PyData → BO} {σ : St} {H : Hp} {Q : Bool → Hp → Prop} (h : tMB K ct W (fun G => (ma G).bindB fun d _ => k d) σ H Q) :
    tM K ct W ma σ H (fun v H1 => ∃ F1 d, Same F1 H1 ∧ VV K F1 H1 v d ∧ postB K ct W σ F1 H1 Q (k d)) := by
  obtain ⟨F0, H0, F, G, rp, p⟩ := h
  exact ⟨F0, H0, F, G, rp, post_mono (post_bindB p) fun v H1 ⟨d, w, F1, x, r, p2⟩ => ⟨F1, d, x.fh, VV.of x.fh r, p2⟩⟩
theorem truth_of {K : PySem.W.Frag} {σ : St} {H : Hp} {Q : Bool → Hp → Prop} (h : tMB K ct W (truthB ma) σ H Q) : tM K ct W ma σ H (fun x H1 => ∃ k, TruV K x H1 k ∧ Q k H1) := by
  refine tM_mono (tMB_view (k := fun d => match truthD d with
    | some b => .ok b
    | none => .stuck) h) fun v H1 ⟨F1, d, fh, vv, p⟩ => ?_
  split at p
  · rename_i k e
    exact ⟨k, tru_of fh vv e, p F1 H1 (Ext.refl fh)⟩
  · exact p.elim
theorem bool_of {K : PySem.W.Frag} {σ : St} {H : Hp} {Q : Bool → Hp → Prop} (h : tMB K ct W (boolB ma) σ H Q) : tM K ct W ma σ H (fun x H1 => ∃ k, x = .bl k ∧ Q k H1) := by
  refine tM_mono (tMB_view (k := fun d => match d with
    | .bool b => .ok b
    | _ => .stuck) h) fun v H1 ⟨F1, d, fh, vv, p⟩ => ?_
  split at p
  · rename_i k
    exact ⟨k, vv.bl, p F1 H1 (Ext.refl fh)⟩
  · exact p.elim
theorem eb_truth (ha : EE X ct W a ma) (he : ∀ whole, isTrue a X.env whole = (do let v ← whole; standAt a.pos; holding [v] (truthy v)) := by intro _; rfl) : EB X ct W a (truthB ma) := pt_imp (pt_truth ha he) fun _ _ _ h => truth_of h
theorem eb_cmp {op : CmpOp} {g : PyData → PyData → EO} (hc : Cm X op g) (ha : EE X ct W a ma) (hb : EE X ct W b mb) (hm : behindInMarks op b = false := by first | exact nomark _ | rfl | with_unfolding_all rfl) : EB X ct W (.Compare a [op] [b] pos) (boolB (op2 g ma mb)) := by
  obtain ⟨r, h1, h2⟩ := hc.ex
  exact pt_imp (pt_cmpR h1 ha hb hm) fun _ _ _ h => op2_of h2 (bool_of h)
theorem eb_chain {op op2 : CmpOp} {g g2 : PyData → PyData → EO} (h1 : Cm X op g) (h2 : Cm X op2 g2) (ha : EE X ct W a ma) (hb : EE X ct W b mb) (hc : EE X ct W c mc)
    (hm : lastMarks [op, op2] [b, c] = false := by with_unfolding_all rfl) : EB X ct W (.Compare a [op, op2] [b, c] pos) (boolB (chainE g g2 ma mb mc)) := by
  obtain ⟨r, o1, k1⟩ := h1.ex
  obtain ⟨r2, o2, k2⟩ := h2.ex
  exact pt_imp (pt_chain o1 o2 ha hb hc hm) fun _ _ _ h => chain_of k1 k2 (bool_of h)
def andB (x y : Gm → BO) : Gm → BO := fun G => (x G).bind fun k => if k = true then y G else .ok false
def orB (x y : Gm → BO) : Gm → BO := fun G => (x G).bind fun k => if k = true then .ok true else y G
def notB (x : Gm → BO) : Gm → BO := fun G => (x G).bind fun k => .ok (!k)
abbrev EW (X : Cx) (ct : Nat → Addr) (W : WX) (e : Expr) (m : Gm → BO) : Prop := PW X e (tMB X.K ct W m)
variable {ta tb : Gm → BO} {rest : List Expr}
theorem tMB_bind {K : PySem.W.Frag} {k : Gm → Bool → BO} {σ : St} {H : Hp} {Q : Bool → Hp → Prop} (h : tMB K ct W (fun G => (ta G).bind (k G)) σ H Q) :
    tMB K ct W ta σ H (fun b H1 => ∃ F0 H0 F1 G, Rep K F0 H0 F1 H1 G σ ∧ postB K ct W σ F1 H1 Q (k G b)) := by
  obtain ⟨F0, H0, F, G, rp, p⟩ := h
  exact ⟨F0, H0, F, G, rp, postB_mono (postB_bind p) fun b H1 ⟨F1, x, p2⟩ => ⟨F0, H0, F1, G, rp.ext x, p2⟩⟩
theorem tMB_mono {K : PySem.W.Frag} {σ : St} {H : Hp} {Q Q2 : Bool → Hp → Prop} (h : tMB K ct W ta σ H Q) (q : ∀ b H1, Q b H1 → Q2 b H1) : tMB K ct W ta σ H Q2 := by
  obtain ⟨F0, H0, F, G, rp, p⟩ := h
  exact ⟨F0, H0, F, G, rp, postB_mono p q⟩
theorem ew_and1 (ha : EB X ct W a ta) : EW X ct W (.BoolOp .And [a] pos) ta := pw_and1 ha
theorem ew_or1 (ha : EB X ct W a ta) : EW X ct W (.BoolOp .Or [a] pos) ta := pw_or1 ha
theorem ew_and (ha : EB X ct W a ta) (hb : EW X ct W (.BoolOp .And (b :: rest) pos) tb) : EW X ct W (.BoolOp .And (a :: b :: rest) pos) (andB ta tb) :=
  pw_imp (pw_and ha hb) fun σ H Q h => tMB_mono (tMB_bind h) fun k H1 ⟨F0, H0, F1, G, rp, p⟩ => by
    cases k with
    | true => exact iteT ⟨F0, H0, F1, G, rp, p⟩
    | false => exact iteF (p F1 H1 (Ext.refl rp.fh))
theorem ew_or (ha : EB X ct W a ta) (hb : EW X ct W (.BoolOp .Or (b :: rest) pos) tb) : EW X ct W (.BoolOp .Or (a :: b :: rest) pos) (orB ta tb) :=
  pw_imp (pw_or ha hb) fun σ H Q h => tMB_mono (tMB_bind h) fun k H1 ⟨F0, H0, F1, G, rp, p⟩ => by
    cases k with
    | true => exact iteT (p F1 H1 (Ext.refl rp.fh))
    | false => exact iteF ⟨F0, H0, F1, G, rp, p⟩
theorem eb_w {e : Expr} {m : Gm → BO} (h : EW X ct W e m) : EB X ct W e m := h.pt
theorem eb_not (ha : EB X ct W a ta) : EB X ct W (.UnaryOp .Not a pos) (notB ta) :=
  pt_imp (pt_not ha) fun σ H Q h => tMB_mono (tMB_bind h) fun k H1 ⟨F0, H0, F1, G, rp, p⟩ => p F1 H1 (Ext.refl rp.fh)

/-! ### and, or, not as values; a if t else b -/
def andE (ma mb : Gm → EO) : Gm → EO := fun G => (ma G).bind fun d _ => match d with
  | .bool true => mb G
  | .bool false => .ok (.bool false) .frz
  | _ => .stuck
def orE (ma mb : Gm → EO) : Gm → EO := fun G => (ma G).bind fun d _ => match d with
  | .bool true => .ok (.bool true) .frz
  | .bool false => mb G
  | _ => .stuck
def gNot : PyData → EO
  | .bool k => .ok (.bool (!k)) .frz
  | _ => .stuck
def ifE (t : Gm → BO) (ma mb : Gm → EO) : Gm → EO := fun G => (t G).bindE fun k => if k = true then ma G else mb G
theorem ee_one {op : BoolOp} (ha : EE X ct W a ma) : EE X ct W (.BoolOp op [a] pos) ma := pe_one ha
theorem ee_and (ha : EE X ct W a ma) (hb : EE X ct W (.BoolOp .And (b :: rest) pos) mb) : EE X ct W (.BoolOp .And (a :: b :: rest) pos) (andE ma mb) :=
  pe_imp (pe_and ha hb) fun σ H Q h => by
    refine tM_mono (tM_view (k := fun G d => match d with
      | .bool true => mb G
      | .bool false => .ok (.bool false) .frz
      | _ => .stuck) h) fun v H1 ⟨F0, H0, F1, G, d, rp, vv, p⟩ => ?_
    split at p
    · exact ⟨true, vv.bl, iteT ⟨F0, H0, F1, G, rp, p⟩⟩
    · exact ⟨false, vv.bl, iteF (ok_frz rp.fh (.bl _) p)⟩
    · exact p.elim
theorem ee_or (ha : EE X ct W a ma) (hb : EE X ct W (.BoolOp .Or (b :: rest) pos) mb) : EE X ct W (.BoolOp .Or (a :: b :: rest) pos) (orE ma mb) :=
  pe_imp (pe_or ha hb) fun σ H Q h => by
    refine tM_mono (tM_view (k := fun G d => match d with
      | .bool true => .ok (.bool true) .frz
      | .bool false => mb G
      | _ => .stuck) h) fun v H1 ⟨F0, H0, F1, G, d, rp, vv, p⟩ => ?_
    split at p
    · exact ⟨true, vv.bl, iteT (ok_frz rp.fh (.bl _) p)⟩
    · exact ⟨false, vv.bl, iteF ⟨F0, H0, F1, G, rp, p⟩⟩
    · exact p.elim
theorem ee_not (ha : EE X ct W a ma) : EE X ct W (.UnaryOp .Not a pos) (op1 gNot ma) :=
  pe_imp (pe_not ha) fun σ H Q h => by
    refine tM_mono (tM_view (k := fun _ d => gNot d) h) fun v H1 ⟨F0, H0, F1, G, d, rp, vv, p⟩ => ?_
    unfold gNot at p
    split at p
    · exact ⟨_, vv.bl, ok_frz rp.fh (.bl _) p⟩
    · exact p.elim
theorem ee_if {t : Expr} (ht : EB X ct W t ta) (ha : EE X ct W a ma) (hb : EE X ct W b mb) : EE X ct W (.IfExp t a b pos) (ifE ta ma mb) :=
  pe_imp (pe_ifExp ht ha hb) fun σ H Q ⟨F0, H0, F, G, rp, p⟩ => by
    refine ⟨F0, H0, F, G, rp, postB_mono (postB_bindE p) fun k H1 ⟨F1, x, p2⟩ => ?_⟩
    cases k with
    | true => exact iteT ⟨F0, H0, F1, G, rp.ext x, p2⟩
    | false => exact iteF ⟨F0, H0, F1, G, rp.ext x, p2⟩

/-! ### arguments, displays -/
def nilA : Gm → AO := fun _ => .ok []
def consA (ma : Gm → EO) (mr : Gm → AO) : Gm → AO := fun G => (ma G).hard.bindA fun d _ => (mr G).bind fun ds => .ok (d :: ds)
variable {e : Expr} {es : List Expr} {me : Gm → EO} {ms : Gm → AO}
theorem ea_nil : EA X ct W [] nilA := pa_imp pa_nil fun σ H Q ⟨F0, H0, F, G, rp, p⟩ => p [] F H (Ext.refl rp.fh) .nil
theorem postA_hard {K : PySem.W.Frag} {σ : St} {F H : Hp} {Q : List V → Hp → Prop} {o : EO} {k : PyData → AO} (h : postA K ct W σ F H Q (o.hard.bindA fun d _ => k d)) : post K ct W σ F H (fun v H1 => ∃ d F1, Ext F H F1 H1 ∧ Dq K F1 v d ∧ postA K ct W σ F1 H1 Q (k d)) o := by
  cases o with
  | ok d w =>
    cases w with
    | frz => exact fun v F1 H1 x r => ⟨d, F1, x, r, postA_ext (o := k d) h x⟩
    | new =>
      intro v F1 H1 x r
      obtain ⟨F3, x3, _, r3⟩ := vr_hard x r (fun i e => nomatch e)
      exact ⟨d, F3, x3, r3, postA_ext (o := k d) h x3⟩
    | own i => exact h.elim
  | exc c pl => exact h
  | stuck => exact h
theorem ea_cons (ha : EE X ct W e me) (hr : EA X ct W es ms) (hs : starEach (e :: es) X.env = (false, eval e X.env) :: starEach es X.env := by rfl) : EA X ct W (e :: es) (consA me ms) :=
  pa_imp (pa_cons ha hr hs) fun σ H Q ⟨F0, H0, F, G, rp, p⟩ => by
    refine ⟨F0, H0, F, G, rp, post_mono (postA_hard (k := fun d => (ms G).bind fun ds => .ok (d :: ds)) p) fun v H1 ⟨d, F1, x, r, p2⟩ => ?_⟩
    refine ⟨F0, H0, F1, G, rp.ext x, postA_mono (postA_bind p2) fun vs H2 ⟨ds, F2, x2, r2, p3⟩ => ?_⟩
    exact p3 (v :: vs) F2 H2 (Ext.refl x2.fh) (.cons (dp_mono x2.ff _ _ r) r2)
def tupE (ms : Gm → AO) : Gm → EO := fun G => (ms G).bindE fun ds => if ds.length ≤ big then .ok (.tuple ds) .frz else .stuck
def lstE (ms : Gm → AO) : Gm → EO := fun G => (ms G).bindE fun ds => if ds.length ≤ big then .ok (.list ds) .new else .stuck
theorem ee_tup {x1 : Nat} (h : EA X ct W es ms) : EE X ct W (.Tuple es x1 pos) (tupE ms) :=
  pe_imp (pe_tupO h fun σ H Q Q2 i ⟨F0, H0, F, G, rp, p⟩ => ⟨F0, H0, F, G, rp, postA_mono p i⟩) fun σ H Q ⟨F0, H0, F, G, rp, p⟩ => by
    refine ⟨F0, H0, F, G, rp, postA_mono (postA_bindE p) fun vs H1 ⟨ds, F1, x, r, p2⟩ => ?_⟩
    split at p2
    · rename_i hz
      exact ⟨by rw [dpAll_len r]; exact big_line hz, fun q o to hq => ok_newT x.fh r p2 to hq⟩
    · exact p2.elim
theorem ee_lst (h : EA X ct W es ms) : EE X ct W (.List es pos) (lstE ms) :=
  pe_imp (pe_lst h) fun σ H Q ⟨F0, H0, F, G, rp, p⟩ => by
    refine ⟨F0, H0, F, G, rp, postA_mono (postA_bindE p) fun vs H1 ⟨ds, F1, x, r, p2⟩ => ?_⟩
    split at p2
    · rename_i hz
      exact ⟨by rw [dpAll_len r]; exact big_line hz, fun q hq => ok_newL x.fh r p2 hq⟩
    · exact p2.elim

/-! ### subscripts -/
def gIx : PyData → PyData → EO
  | .list ds, .int i => match atI ds i with
    | some d => .ok d .frz
    | none => .stuck
  | .tuple ds, .int i => match atI ds i with
    | some d => .ok d .frz
    | none => .stuck
  | .str x, .int i => if x.length ≤ big then match atI x.cps.toList i with
    | some c => .ok (.str ⟨#[c]⟩) .frz
    | none => .stuck else .stuck
  | .dict kvs, .int i => match atI kvs i with
    | some d => .ok d.1 .frz
    | none => .stuck
  | _, _ => .stuck
theorem dpAll_at {K : PySem.W.Frag} {H : Hp} {vs : List V} {ds : List PyData} {i : Int} {d : PyData} (r : DqAll K H vs ds) (e : atI ds i = some d) : ∃ v, atI vs i = some v ∧ Dq K H v d := by
  unfold atI at e ⊢
  rw [dpAll_len r]
  cases h : ixN ds.length i with
  | none => rw [h] at e; cases e
  | some j =>
    rw [h] at e
    exact dpAll_get r e
theorem g_ix {K : PySem.W.Frag} : G2 K (rIx K) gIx := by
  intro ct W σ F H x y d e Q fh vx vy p
  unfold gIx at p
  split at p
  · split at p
    · rename_i z hz
      obtain ⟨_, a, vs, rfl, h1, r1⟩ := vx
      obtain ⟨v, hv, rv⟩ := dpAll_at r1 hz
      rw [vy.int]
      exact .inl ⟨a, vs, _, v, rfl, rfl, SqL.of h1, hv, ok_frz fh rv p⟩
    · exact p.elim
  · split at p
    · rename_i z hz
      obtain ⟨_, a, vs, rfl, h1, r1⟩ := vx
      obtain ⟨v, hv, rv⟩ := dpAll_at r1 hz
      rw [vy.int]
      exact .inr (.inl ⟨a, vs, _, v, rfl, rfl, (h1.mono fh).sq, hv, ok_frz fh rv p⟩)
    · exact p.elim
  · split at p
    · rename_i hz
      split at p
      · rename_i z hz2
        rw [vx.str, vy.int]
        exact .inr (.inr ⟨_, _, z, rfl, rfl, big_line hz, hz2, ok_frz fh (.str _) p⟩)
      · exact p.elim
    · exact p.elim
  · rename_i kvs i
    split at p
    · rename_i z hz
      have hd := vx.1
      clear vx
      rw [vy.int]
      cases hd with
      | @scr b ns hs =>
        unfold atI at hz
        rw [List.length_map] at hz
        cases hj : ixN ns.length i with
        | none => rw [hj] at hz; cases hz
        | some j =>
          rw [hj] at hz
          have hz1 : (ns.map fun n => (PyData.int n, PyData.none))[j]? = some z := hz
          rw [List.getElem?_map] at hz1
          cases hn : ns[j]? with
          | none => rw [hn] at hz1; cases hz1
          | some n =>
            rw [hn] at hz1
            cases hz1
            refine .inl ⟨b, _, i, .int n, rfl, rfl, hs, ?_, ok_frz fh (.int n) p⟩
            unfold atI
            rw [List.length_map, hj]
            show (ns.map V.int)[j]? = some (V.int n)
            rw [List.getElem?_map, hn]
            rfl
    · exact p.elim
  · exact p.elim
theorem ee_ix (ha : EE X ct W a ma) (hb : EE X ct W b mb) (hs : PlainIx b := by exact fun _ _ => rfl) : EE X ct W (.Subscript a b pos) (op2 gIx ma mb) := pe_imp (pe_ix ix_seq ha hb hs) fun _ _ _ h => op2_of g_ix h
end
end VL

set_option Elab.async false
set_option linter.all false
set_option maxRecDepth 100000
/-! VE: the value layer: slots, statements. -/
namespace VL
open PySem L2
section
variable {K : PySem.W.Frag} {F0 H0 F H : Hp} {G : Gm} {σ : St}
theorem get_set {α : Type} {l : List (Option α)} {i j : Nat} {x : Option α} {s : α} (h : (l.set i x)[j]? = some (some s)) : (i = j ∧ x = some s ∧ i < l.length) ∨ (i ≠ j ∧ l[j]? = some (some s)) := by
  by_cases e : i = j
  · subst e
    by_cases hl : i < l.length
    · rw [List.getElem?_set_self hl] at h
      exact .inl ⟨rfl, Option.some.inj h, hl⟩
    · rw [List.getElem?_eq_none (by simpa using hl)] at h
      cases h
  · rw [List.getElem?_set_ne e] at h
    exact .inr ⟨e, h⟩
theorem set_ne {i j : Nat} {x : Option V} {v : V} (e : i ≠ j) (h : (σ.set i x)[j]? = some (some v)) : σ[j]? = some (some v) := by
  rw [List.getElem?_set_ne e] at h
  exact h
theorem set_eq {i : Nat} {x v : V} (h : (σ.set i (some x))[i]? = some (some v)) : x = v := by
  by_cases hl : i < σ.length
  · rw [List.getElem?_set_self hl] at h
    exact Option.some.inj (Option.some.inj h)
  · rw [List.getElem?_eq_none (by simpa using hl)] at h
    cases h
/-- slot i is given s anew -/
theorem Rep.put {v : V} {s : Sl} (r : Rep K F0 H0 F H G σ) (i : Nat) (q : SR K H0 F H v s) (new : ∀ (j : Nat) (t : Sl) (u : V) (a : Addr), i ≠ j → G[j]? = some (some t) → σ[j]? = some (some u) → mutA F u a t → mutA F v a s → False) :
    Rep K F0 H0 F H (G.set i (some s)) (σ.set i (some v)) where
  fh := r.fh
  hh := r.hh
  ff := r.ff
  ap := r.ap
  len := by rw [List.length_set, List.length_set]; exact r.len
  slot := fun j t e => by
    rcases get_set e with ⟨rfl, e2, hl⟩ | ⟨ne, e2⟩
    · cases e2
      exact ⟨v, List.getElem?_set_self (by rw [← r.len]; exact hl), q⟩
    · obtain ⟨u, h1, h2⟩ := r.slot j t e2
      exact ⟨u, by rw [List.getElem?_set_ne ne]; exact h1, h2⟩
  dist := fun j k t t2 u u2 a ne h1 h2 e1 e2 m1 m2 => by
    rcases get_set h1 with ⟨rfl, z1, _⟩ | ⟨n1, g1⟩
    · rcases get_set h2 with ⟨rfl, _, _⟩ | ⟨n2, g2⟩
      · exact ne rfl
      · cases z1
        have := set_eq e1
        subst this
        exact new k t2 u2 a n2 g2 (set_ne n2 e2) m2 m1
    · rcases get_set h2 with ⟨rfl, z2, _⟩ | ⟨n2, g2⟩
      · cases z2
        have := set_eq e2
        subst this
        exact new j t u a n1 g1 (set_ne n1 e1) m1 m2
      · exact r.dist j k t t2 u u2 a ne g1 g2 (set_ne n1 e1) (set_ne n2 e2) m1 m2
theorem Rep.dat {v : V} {d : PyData} (r : Rep K F0 H0 F H G σ) (i : Nat) (h : Dq K F v d) : Rep K F0 H0 F H (G.set i (some (.dat d))) (σ.set i (some v)) := r.put i (s := .dat d) h fun _ _ _ _ _ _ _ _ m => m
theorem Rep.forget (r : Rep K F0 H0 F H G σ) (i : Nat) (x : Option V) : Rep K F0 H0 F H (G.set i none) (σ.set i x) where
  fh := r.fh
  hh := r.hh
  ff := r.ff
  ap := r.ap
  len := by rw [List.length_set, List.length_set]; exact r.len
  slot := fun j s e => by
    rcases get_set e with ⟨_, e2, _⟩ | ⟨ne, e2⟩
    · cases e2
    · obtain ⟨u, h1, h2⟩ := r.slot j s e2
      exact ⟨u, by rw [List.getElem?_set_ne ne]; exact h1, h2⟩
  dist := fun j k t t2 u u2 a ne h1 h2 e1 e2 m1 m2 => by
    rcases get_set h1 with ⟨_, z1, _⟩ | ⟨n1, g1⟩
    · cases z1
    · rcases get_set h2 with ⟨_, z2, _⟩ | ⟨n2, g2⟩
      · cases z2
      · exact r.dist j k t t2 u u2 a ne g1 g2 (set_ne n1 e1) (set_ne n2 e2) m1 m2
/-- slot i is no longer spoken of -/
theorem Rep.drop (r : Rep K F0 H0 F H G σ) (i : Nat) : Rep K F0 H0 F H (G.set i none) σ where
  fh := r.fh
  hh := r.hh
  ff := r.ff
  ap := r.ap
  len := by rw [List.length_set]; exact r.len
  slot := fun j s e => by
    rcases get_set e with ⟨_, e2, _⟩ | ⟨ne, e2⟩
    · cases e2
    · exact r.slot j s e2
  dist := fun j k t t2 u u2 a ne h1 h2 e1 e2 m1 m2 => by
    rcases get_set h1 with ⟨_, z1, _⟩ | ⟨n1, g1⟩
    · cases z1
    · rcases get_set h2 with ⟨_, z2, _⟩ | ⟨n2, g2⟩
      · cases z2
      · exact r.dist j k t t2 u u2 a ne g1 g2 e1 e2 m1 m2
/-- what a slot may change is tracked, and neither frozen nor older -/
theorem Rep.at_mut {i : Nat} {s : Sl} {v : V} {a : Addr} (r : Rep K F0 H0 F H G σ) (e : G[i]? = some (some s)) (h : σ[i]? = some (some v)) (m : mutA F v a s) : H0 a = none ∧ F a = none ∧ ∃ o, H a = some o ∧ NT o := mut_at (r.at e h) m
theorem Rep.own {p : Addr} {vs : List V} {ds : List PyData} (r : Rep K F0 H0 F H G σ) (i : Nat) (h0 : H0 p = none) (hf : F p = none) (hp : H p = some (.lst vs)) (ha : DqAll K F vs ds)
    (new : ∀ (j : Nat) (t : Sl) (u : V), G[j]? = some (some t) → σ[j]? = some (some u) → mutA F u p t → False) : Rep K F0 H0 F H (G.set i (some (.own ds))) (σ.set i (some (.ref p))) :=
  r.put i (s := .own ds) ⟨p, vs, rfl, h0, hf, hp, ha⟩ fun j t u a _ g e m m2 => by
    cases m2
    exact new j t u g e m
/-- a slot's own list is frozen -/
theorem Rep.freeze {i : Nat} {ds : List PyData} (r : Rep K F0 H0 F H G σ) (e : G[i]? = some (some (.own ds))) :
    ∃ p vs, σ[i]? = some (some (.ref p)) ∧ F p = none ∧ H0 p = none ∧ H p = some (.lst vs) ∧ DqAll K F vs ds ∧ Rep K F0 H0 (upd F p (.lst vs)) H (G.set i (some (.dat (.list ds)))) σ := by
  obtain ⟨v, hv, p, vs, rfl, h0, hf, hp, ha⟩ := r.slot i _ e
  have sF : Same F (upd F p (.lst vs)) := same_new hf
  refine ⟨p, vs, hv, hf, h0, hp, ha, fun a o q => ?_, r.hh, r.ff.trans sF, fun a o q1 q2 t => ?_, by rw [List.length_set]; exact r.len, fun j s q => ?_, fun j k t t2 u u2 a ne h1 h2 e1 e2 m1 m2 => ?_⟩
  · by_cases z : a = p
    · subst z
      rw [upd_same] at q
      exact hp.trans q
    · rw [upd_ne z] at q
      exact r.fh a o q
  · rw [upd_ne (ne_of_none q1 h0)]
    exact r.ap a o q1 q2 t
  · rcases get_set q with ⟨rfl, e2, hl⟩ | ⟨ne, e2⟩
    · cases e2
      exact ⟨_, hv, .lst upd_same (dpAll_mono sF _ _ ha)⟩
    · obtain ⟨u, h1, h2⟩ := r.slot j s e2
      exact ⟨u, h1, h2.frz hf fun m => r.dist i j _ _ _ _ p ne e e2 hv h1 rfl m⟩
  · rcases get_set h1 with ⟨_, z1, _⟩ | ⟨n1, g1⟩
    · cases z1
      exact m1
    · rcases get_set h2 with ⟨_, z2, _⟩ | ⟨n2, g2⟩
      · cases z2
        exact m2
      · exact r.dist j k t t2 u u2 a ne g1 g2 e1 e2 (mut_back (r.at g1 e1) sF m1) (mut_back (r.at g2 e2) sF m2)
/-- what slot i may change is changed -/
theorem Rep.chg {i : Nat} {a : Addr} {s t : Sl} {v : V} {o o2 : HO} (r : Rep K F0 H0 F H G σ) (e : G[i]? = some (some s)) (hv : σ[i]? = some (some v)) (m : mutA F v a s) (ho : H a = some o) (nf : ∀ od u, o ≠ .frz od u)
    (q : SR K H0 F (upd H a o2) v t) (back : ∀ b, mutA F v b t → mutA F v b s) : Rep K F0 H0 F (upd H a o2) (G.set i (some t)) σ := by
  obtain ⟨h0, hf, _⟩ := r.at_mut e hv m
  refine ⟨fun b z h => ?_, fun b z h => ?_, r.ff, r.ap, by rw [List.length_set]; exact r.len, fun j s2 h => ?_, fun j k t1 t2 u u2 b ne h1 h2 e1 e2 m1 m2 => ?_⟩
  · rw [upd_ne (ne_of_none h hf)]
    exact r.fh b z h
  · rw [upd_ne (ne_of_none h h0)]
    exact r.hh b z h
  · rcases get_set h with ⟨rfl, e2, hl⟩ | ⟨ne, e2⟩
    · cases e2
      exact ⟨v, hv, q⟩
    · obtain ⟨u, h1, h2⟩ := r.slot j s2 e2
      exact ⟨u, h1, h2.upd ho nf fun m2 => r.dist i j _ _ _ _ a ne e e2 hv h1 m m2⟩
  · rcases get_set h1 with ⟨rfl, z1, _⟩ | ⟨n1, g1⟩
    · cases z1
      rcases get_set h2 with ⟨rfl, _, _⟩ | ⟨n2, g2⟩
      · exact ne rfl
      · rw [hv] at e1
        cases e1
        exact r.dist i k s t2 v u2 b n2 e g2 hv e2 (back b m1) m2
    · rcases get_set h2 with ⟨rfl, z2, _⟩ | ⟨n2, g2⟩
      · cases z2
        rw [hv] at e2
        cases e2
        exact r.dist j i t1 s u v b ne g1 e e1 hv m1 (back b m2)
      · exact r.dist j k t1 t2 u u2 b ne g1 g2 e1 e2 m1 m2
/-- a slot's own list is changed -/
theorem Rep.mut {i : Nat} {p : Addr} {ds es : List PyData} {us : List V} (r : Rep K F0 H0 F H G σ) (e : G[i]? = some (some (.own ds))) (hv : σ[i]? = some (some (.ref p))) (ha : DqAll K F us es) :
    Rep K F0 H0 F (upd H p (.lst us)) (G.set i (some (.own es))) σ := by
  obtain ⟨q, vs, e1, h0, hf, hp, _⟩ := r.at e hv
  cases e1
  exact r.chg e hv (a := p) (t := .own es) rfl hp (fun _ _ z => nomatch z) ⟨p, us, rfl, h0, hf, upd_same, ha⟩ fun b m => m
end

section
variable {X : Cx} {ct : Nat → Addr} {W : WX} {a b c e : Expr} {ma mb mc me : Gm → EO} {pos : Pos}
theorem postS_same {K : PySem.W.Frag} {F0 H0 F F2 : Hp} {D : Ends} {o : SO} (h : postS K ct W F0 H0 D F o) (s : Same F F2) : postS K ct W F0 H0 D F2 o := by
  cases o with
  | next G => exact fun σ2 F3 H3 s3 r => h σ2 F3 H3 (s.trans s3) r
  | brk G => exact fun σ2 F3 H3 s3 r => h σ2 F3 H3 (s.trans s3) r
  | cont G => exact fun σ2 F3 H3 s3 r => h σ2 F3 H3 (s.trans s3) r
  | ret d => exact h
  | exc c pl G => exact fun cls dd σ2 F3 H3 s3 r => h cls dd σ2 F3 H3 (s.trans s3) r
  | stuck => exact h
/-! ### blocks -/
def nilS : Gm → SO := fun G => .next G
def seqS (m1 m2 : Gm → SO) : Gm → SO := fun G => match m1 G with
  | .next G1 => m2 G1
  | r => r
variable {st : Stmt} {sts : List Stmt} {m1 m2 : Gm → SO}
theorem ess_nil : ESs X ct W [] nilS := pss_imp pss_nil fun D σ H ⟨F0, H0, F, G, r, p⟩ => p σ F H (Same.refl F) r
theorem ess_cons (h1 : ES X ct W st m1) (h2 : ESs X ct W sts m2) : ESs X ct W (st :: sts) (seqS m1 m2) :=
  pss_imp (pss_cons h1 h2) fun D σ H ⟨F0, H0, F, G, r, p⟩ => by
    refine ⟨F0, H0, F, G, r, ?_⟩
    unfold seqS at p
    revert p
    cases m1 G with
    | next G1 => exact fun p σ2 F2 H2 s r2 => ⟨F0, H0, F2, G1, r2, postS_same p s⟩
    | ret d => exact fun p => p
    | brk G1 => exact fun p => p
    | cont G1 => exact fun p => p
    | exc c pl G1 => exact fun p => p
    | stuck => exact fun p => p
theorem ess_one (h1 : ES X ct W st m1) : ESs X ct W [st] m1 := pss_one h1
theorem es_pass : ES X ct W (.Pass pos) nilS := ps_imp ps_pass fun D σ H ⟨F0, H0, F, G, r, p⟩ => p σ F H (Same.refl F) r
def stuckS : Gm → SO := fun _ => .stuck
/-- what is never come to -/
theorem ess_never : ESs X ct W sts stuckS := pss_imp pss_never fun D σ H ⟨F0, H0, F, G, r, p⟩ => p
theorem es_never : ES X ct W st stuckS := ps_imp ps_never fun D σ H ⟨F0, H0, F, G, r, p⟩ => p
/-! ### from an expression -/
theorem post_S {K : PySem.W.Frag} {F0 H0 F H : Hp} {G : Gm} {σ : St} {D : Ends} {o : EO} {k : PyData → Wh → SO} (r : Rep K F0 H0 F H G σ) (p : postS K ct W F0 H0 D F (o.bindS G k)) :
    post K ct W σ F H (fun v H1 => ∃ d w F1, Ext F H F1 H1 ∧ VR K H F1 H1 σ v d w ∧ Rep K F0 H0 F1 H1 G σ ∧ postS K ct W F0 H0 D F1 (k d w)) o := by
  cases o with
  | ok d w => exact fun v F1 H1 x q => ⟨d, w, F1, x, q, r.ext x, postS_same (o := k d w) p x.ff⟩
  | exc c pl => exact fun cls dd F1 H1 x q => p cls dd σ F1 H1 x.ff (r.ext x) q
  | stuck => exact p
theorem postB_S {K : PySem.W.Frag} {F0 H0 F H : Hp} {G : Gm} {σ : St} {D : Ends} {o : BO} {k : Bool → SO} (r : Rep K F0 H0 F H G σ) (p : postS K ct W F0 H0 D F (o.bindS G k)) :
    postB K ct W σ F H (fun b H1 => ∃ F1, Ext F H F1 H1 ∧ Rep K F0 H0 F1 H1 G σ ∧ postS K ct W F0 H0 D F1 (k b)) o := by
  cases o with
  | ok b => exact fun F1 H1 x => ⟨F1, x, r.ext x, postS_same (o := k b) p x.ff⟩
  | exc c pl => exact fun cls dd F1 H1 x q => p cls dd σ F1 H1 x.ff (r.ext x) q
  | stuck => exact p
/-- what is worth d is made frozen, if it is not an own list: then the slot is -/
def takeS (G : Gm) (d : PyData) (w : Wh) (k : Gm → PyData → SO) : SO := match w with
  | .own j => match G[j]? with
    | some (some (.own ds)) => k (G.set j (some (.dat (.list ds)))) (.list ds)
    | _ => .stuck
  | _ => k G d
theorem take_of {K : PySem.W.Frag} {F0 H0 F H F1 H1 : Hp} {G : Gm} {σ : St} {D : Ends} {v : V} {d : PyData} {w : Wh} {k : Gm → PyData → SO} (r : Rep K F0 H0 F H G σ) (x : Ext F H F1 H1) (q : VR K H F1 H1 σ v d w) (p : postS K ct W F0 H0 D F1 (takeS G d w k)) :
    ∃ G2 d2 F2, Same F1 F2 ∧ Rep K F0 H0 F2 H1 G2 σ ∧ Dq K F2 v d2 ∧ postS K ct W F0 H0 D F2 (k G2 d2) := by
  cases w with
  | frz => exact ⟨G, d, F1, Same.refl _, r.ext x, q, p⟩
  | new =>
    obtain ⟨F3, x3, s3, r3⟩ := vr_hard x q (fun i e => nomatch e)
    exact ⟨G, d, F3, s3, r.ext x3, r3, postS_same (o := k G d) p s3⟩
  | own j =>
    unfold takeS at p
    simp only at p
    split at p
    · rename_i ds e
      obtain ⟨q1, _⟩ := q
      obtain ⟨p2, vs, hv, hf, h0, hp, ha, r2⟩ := (r.ext x).freeze e
      rw [q1] at hv
      cases hv
      have sF : Same F1 (upd F1 p2 (.lst vs)) := same_new hf
      exact ⟨_, _, _, sF, r2, .lst upd_same (dpAll_mono sF _ _ ha), postS_same p sF⟩
    · exact p.elim
def retS (m : Gm → EO) : Gm → SO := fun G => (m G).bindS G fun d w => takeS G d w fun _ d => .ret d
theorem es_ret (he : EE X ct W e me) : ES X ct W (.Return (some e) pos) (retS me) :=
  ps_imp (ps_ret he) fun D σ H ⟨F0, H0, F, G, r, p⟩ => ⟨F0, H0, F, G, r, post_mono (post_S r p) fun v H1 ⟨d, w, F1, x, q, _, p2⟩ => by
    obtain ⟨G2, d2, F2, _, r2, q2, p3⟩ := take_of r x q p2
    exact p3 v F2 H1 r2.extOf q2⟩
def asgS (i : Nat) (m : Gm → EO) : Gm → SO := fun G => (m G).bindS G fun d w => match d, w with
  | .list ds, .new => .next (G.set i (some (.own ds)))
  | d, w => takeS G d w fun G d => .next (G.set i (some (.dat d)))
theorem asg_of {K : PySem.W.Frag} {i : Nat} {D : Ends} {σ : St} {H : Hp} (h : sM K ct W (asgS i me) D σ H) : tAsg (tM K ct W me) (gName i) D σ H := by
  obtain ⟨F0, H0, F, G, r, p⟩ := h
  refine ⟨F0, H0, F, G, r, post_mono (post_S r p) fun v H1 ⟨d, w, F1, x, q, r1, p2⟩ => ?_⟩
  show D.nx (σ.set i (some v)) H1
  have other : postS K ct W F0 H0 D F1 (takeS G d w fun G d => .next (G.set i (some (.dat d)))) → D.nx (σ.set i (some v)) H1 := fun p3 => by
    obtain ⟨G2, d2, F2, _, r2, q2, p4⟩ := take_of r x q p3
    exact p4 _ F2 H1 (Same.refl _) (r2.dat i q2)
  split at p2
  · obtain ⟨pa, vs, ds, rfl, e2, h0, hf, hp, ha⟩ := q
    cases e2
    refine p2 _ F1 H1 (Same.refl _) (r1.own i (r.hh.free h0) hf hp ha fun j t u g e m => ?_)
    obtain ⟨_, _, o3, hp3, _⟩ := r.at_mut g e (mut_back (r.at g e) x.ff m)
    rw [h0] at hp3
    cases hp3
  · exact other p2
theorem es_asg {i : Nat} {x : Str} {pos2 : Pos} (he : EE X ct W e me) (hN : X.N.Nodup) (hi : X.N[i]? = some x := by rfl) (hx : Loc X.env.scope x := by first | exact Or.inl rfl | exact Or.inr rfl) (hs : swapsWith e (some (.Name x pos2)) pos.line X.env = pure false := by rfl)
    (hf : X.fn x = true ∨ X.env.scope.names.lookup x = some .local := by first | exact .inl rfl | exact .inr rfl) : ES X ct W (.Assign [.Name x pos2] e pos) (asgS i me) :=
  ps_imp (ps_set hN hi hx he hs hf) fun D σ H h => asg_of h
def ifS (t : Gm → BO) (m1 m2 : Gm → SO) : Gm → SO := fun G => (t G).bindS G fun k => if k = true then m1 G else m2 G
theorem es_if {t : Expr} {mt : Gm → BO} {s1 s2 : List Stmt} (ht : EB X ct W t mt) (h1 : ESs X ct W s1 m1) (h2 : ESs X ct W s2 m2) : ES X ct W (.If t s1 s2 pos) (ifS mt m1 m2) :=
  ps_imp (ps_if ht h1 h2) fun D σ H ⟨F0, H0, F, G, r, p⟩ => ⟨F0, H0, F, G, r, postB_mono (postB_S r p) fun k H1 ⟨F1, x, r1, p2⟩ => by
    cases k with
    | true => exact iteT ⟨F0, H0, F1, G, r1, p2⟩
    | false => exact iteF ⟨F0, H0, F1, G, r1, p2⟩⟩
def dropS (m : Gm → EO) : Gm → SO := fun G => (m G).bindS G fun _ _ => .next G
theorem es_expr (he : EE X ct W e me) (hs : swapsWith e none pos.line X.env = pure false := by rfl) : ES X ct W (.Expr e pos) (dropS me) :=
  ps_imp (ps_expr he hs) fun D σ H ⟨F0, H0, F, G, r, p⟩ => ⟨F0, H0, F, G, r, post_mono (post_S r p) fun v H1 ⟨d, w, F1, x, q, r1, p2⟩ => p2 σ F1 H1 (Same.refl _) r1⟩
end
end VL

set_option Elab.async false
set_option linter.all false
set_option maxRecDepth 100000
/-! VF: the value layer: targets, what is walked, for, while, comprehensions. -/
namespace VL
open PySem L2
/-! ### targets -/
def gM (K : PySem.W.Frag) (tgt : PyData → Gm → Option Gm) : TG := fun v σ H Q => ∃ F0 H0 F G d G2, Rep K F0 H0 F H G σ ∧ Dq K F v d ∧ tgt d G = some G2 ∧ ∀ σ2, Rep K F0 H0 F H G2 σ2 → Q σ2 H
abbrev EG (X : Cx) (tg : Expr) (tgt : PyData → Gm → Option Gm) : Prop := PG X tg (gM X.K tgt)
theorem pg_imp {X : Cx} {tg : Expr} {t t2 : TG} (h : PG X tg t) (i : ∀ v σ H Q, t2 v σ H Q → t v σ H Q) : PG X tg t2 := ⟨fun pins s σ H v u Q I r q => h.run pins s σ H v u Q I r (i v σ H Q q)⟩
def toN (i : Nat) : PyData → Gm → Option Gm := fun d G => some (G.set i (some (.dat d)))
def to2 (i j : Nat) : PyData → Gm → Option Gm := fun d G => match d with
  | .tuple [x, y] => some ((G.set i (some (.dat x))).set j (some (.dat y)))
  | _ => none
def to3 (i j k : Nat) : PyData → Gm → Option Gm := fun d G => match d with
  | .tuple [x, y, z] => some (((G.set i (some (.dat x))).set j (some (.dat y))).set k (some (.dat z)))
  | _ => none
section
variable {X : Cx} {pos p1 p2 p3 : Pos} {i j k : Nat} {x y z : Str}
theorem eg_name (hN : X.N.Nodup) (hi : X.N[i]? = some x := by rfl) (hx : Loc X.env.scope x := by first | exact Or.inl rfl | exact Or.inr rfl) (hf : X.fn x = true ∨ X.env.scope.names.lookup x = some .local := by first | exact .inl rfl | exact .inr rfl) : EG X (.Name x pos) (toN i) :=
  pg_imp (pg_name hN hi hx hf) fun v σ H Q ⟨F0, H0, F, G, d, G2, r, q, e, h⟩ => by
    cases e
    exact h _ (r.dat i q)
theorem eg_tup2 {n : Nat} (hc : X.calm = true) (hN : X.N.Nodup) (hi : X.N[i]? = some x := by rfl) (hx : Loc X.env.scope x := by first | exact Or.inl rfl | exact Or.inr rfl) (hf : X.fn x = true ∨ X.env.scope.names.lookup x = some .local := by first | exact .inl rfl | exact .inr rfl)
    (hj : X.N[j]? = some y := by rfl) (hy : Loc X.env.scope y := by first | exact Or.inl rfl | exact Or.inr rfl) (hg : X.fn y = true ∨ X.env.scope.names.lookup y = some .local := by first | exact .inl rfl | exact .inr rfl) :
    EG X (.Tuple [.Name x p1, .Name y p2] n pos) (to2 i j) :=
  pg_imp (pg_tup (n := 2) hc (pgs_cons (pg_name hN hi hx hf) (pgs_cons (pg_name hN hj hy hg) pgs_nil))) fun v σ H Q ⟨F0, H0, F, G, d, G2, r, q, e, h⟩ => by
    unfold to2 at e
    split at e
    · cases e
      cases q with
      | tup hs ha =>
        cases ha with
        | cons h1 t1 =>
          cases t1 with
          | cons h2 t2 =>
            cases t2
            exact ⟨_, _, rfl, (hs.mono r.fh).sq, rfl, _, _, rfl, _, _, rfl, rfl, h _ ((r.dat i h1).dat j h2)⟩
    · cases e
theorem eg_tup3 {n : Nat} (hc : X.calm = true) (hN : X.N.Nodup) (hi : X.N[i]? = some x := by rfl) (hx : Loc X.env.scope x := by first | exact Or.inl rfl | exact Or.inr rfl) (hf : X.fn x = true ∨ X.env.scope.names.lookup x = some .local := by first | exact .inl rfl | exact .inr rfl)
    (hj : X.N[j]? = some y := by rfl) (hy : Loc X.env.scope y := by first | exact Or.inl rfl | exact Or.inr rfl) (hg : X.fn y = true ∨ X.env.scope.names.lookup y = some .local := by first | exact .inl rfl | exact .inr rfl)
    (hk : X.N[k]? = some z := by rfl) (hz : Loc X.env.scope z := by first | exact Or.inl rfl | exact Or.inr rfl) (hh : X.fn z = true ∨ X.env.scope.names.lookup z = some .local := by first | exact .inl rfl | exact .inr rfl) :
    EG X (.Tuple [.Name x p1, .Name y p2, .Name z p3] n pos) (to3 i j k) :=
  pg_imp (pg_tup (n := 3) hc (pgs_cons (pg_name hN hi hx hf) (pgs_cons (pg_name hN hj hy hg) (pgs_cons (pg_name hN hk hz hh) pgs_nil)))) fun v σ H Q ⟨F0, H0, F, G, d, G2, r, q, e, h⟩ => by
    unfold to3 at e
    split at e
    · cases e
      cases q with
      | tup hs ha =>
        cases ha with
        | cons h1 t1 =>
          cases t1 with
          | cons h2 t2 =>
            cases t2 with
            | cons h3 t3 =>
              cases t3
              exact ⟨_, _, rfl, (hs.mono r.fh).sq, rfl, _, _, rfl, _, _, rfl, _, _, rfl, rfl, h _ (((r.dat i h1).dat j h2).dat k h3)⟩
    · cases e
end

/-! ### what is walked -/
structure ItOk (K : PySem.W.Frag) (F Hs : Hp) (J : It) (ds : List PyData) : Prop where
  go : ∀ (i : Nat) (F2 H2 : Hp) (d : PyData), Same F F2 → Same F2 H2 → Same Hs H2 → ds[i]? = some d → J.go i H2 ∧ ∀ x H3, J.yld i H2 x H3 → ∃ F3, Ext F2 H2 F3 H3 ∧ Dq K F3 x d
  stop : ∀ (F2 H2 : Hp), Same F F2 → Same F2 H2 → Same Hs H2 → J.stop ds.length H2
inductive IO where
  | ok (ds : List PyData) (G : Gm) | exc (c : Nat) (pl : Option PyData) | stuck
/-- for a comprehension: the slots stay -/
inductive IC where
  | ok (ds : List PyData) | stuck
def tMI (K : PySem.W.Frag) (ct : Nat → Addr) (W : WX) (m : Gm → IO) : TI := fun σ H R => ∃ F0 H0 F G, Rep K F0 H0 F H G σ ∧ match m G with
  | .ok ds G2 => ∀ J F2 H2, Same F F2 → Rep K F0 H0 F2 H2 G2 σ → ItOk K F2 F2 J ds → R J H2
  | .exc c pl => ∀ cls dd F2 H2, Ext F H F2 H2 → XR K ct F2 H2 c pl cls dd → W cls dd σ H2
  | .stuck => False
def tMC (K : PySem.W.Frag) (m : Gm → IC) : TI := fun σ H R => ∃ F0 H0 F G, Rep K F0 H0 F H G σ ∧ match m G with
  | .ok ds => ∀ J F2 H2, Ext F H F2 H2 → ItOk K F2 H2 J ds → R J H2
  | .stuck => False
abbrev EI (X : Cx) (ct : Nat → Addr) (W : WX) (tg it : Expr) (m : Gm → IO) : Prop := PI X tg it (tMI X.K ct W m)
abbrev EC (X : Cx) (tg it : Expr) (m : Gm → IC) : Prop := PI X tg it (tMC X.K m)
theorem pi_imp {X : Cx} {tg it : Expr} {t t2 : TI} (h : PI X tg it t) (i : ∀ σ H R, t2 σ H R → t σ H R) : PI X tg it t2 := ⟨fun pins s σ H R I q => h.run pins s σ H R I (i σ H R q)⟩
section
variable {K : PySem.W.Frag} {F H Hs : Hp}
theorem it_list {a : Addr} {vs : List V} {ds : List PyData} (h : Hs a = some (.lst vs)) (r : DqAll K F vs ds) : ItOk K F Hs (Itl K a) ds where
  go := fun i F2 H2 d s1 s2 s3 e => by
    obtain ⟨v, hv, rv⟩ := dpAll_get r e
    have sq : SqL K H2 a vs := SqL.of (s3 _ _ h)
    refine ⟨⟨vs, v, sq, hv⟩, fun x H3 y => ?_⟩
    obtain ⟨rfl, y⟩ := y
    have z := y vs sq
    rw [hv] at z
    cases z
    exact ⟨F2, Ext.refl s2, dp_mono s1 _ _ rv⟩
  stop := fun F2 H2 s1 s2 s3 => ⟨vs, SqL.of (s3 _ _ h), by rw [dpAll_len r]; exact Nat.le_refl _⟩
theorem it_tup {a : Addr} {vs : List V} {ds : List PyData} (h : TpA F a vs) (r : DqAll K F vs ds) : ItOk K F Hs (Itt K a) ds where
  go := fun i F2 H2 d s1 s2 s3 e => by
    obtain ⟨v, hv, rv⟩ := dpAll_get r e
    have sq : SqT K H2 a vs := ((h.mono s1).mono s2).sq
    refine ⟨⟨vs, v, sq, hv⟩, fun x H3 y => ?_⟩
    obtain ⟨rfl, y⟩ := y
    have z := y vs sq
    rw [hv] at z
    cases z
    exact ⟨F2, Ext.refl s2, dp_mono s1 _ _ rv⟩
  stop := fun F2 H2 s1 s2 s3 => ⟨vs, ((h.mono s1).mono s2).sq, by rw [dpAll_len r]; exact Nat.le_refl _⟩
def rgD (lo : Int) (n : Nat) : List PyData := (List.range n).map fun i => .int (lo + (i : Nat))
theorem it_range {lo : Int} {n : Nat} : ItOk K F Hs (Itr lo n) (rgD lo n) where
  go := fun i F2 H2 d s1 s2 s3 e => by
    unfold rgD at e
    rw [List.getElem?_map] at e
    by_cases hi : i < n
    · rw [List.getElem?_range hi] at e
      cases e
      exact ⟨hi, fun x H3 y => by
        obtain ⟨rfl, rfl⟩ := y
        exact ⟨F2, Ext.refl s2, .int _⟩⟩
    · rw [List.getElem?_eq_none (by simpa using hi)] at e
      cases e
  stop := fun F2 H2 s1 s2 s3 => by
    unfold rgD
    rw [List.length_map, List.length_range]
    exact Nat.le_refl _
end
section
variable {X : Cx} {ct : Nat → Addr} {W : WX} {a b c e tg : Expr} {ma mb mc me : Gm → EO} {pos : Pos}
def iterL (m : Gm → EO) : Gm → IO := fun G => match m G with
  | .ok (.list ds) (.own j) => match G[j]? with
    | some (some (.own es)) => .ok es (G.set j (some (.dat (.list es))))
    | _ => .stuck
  | .ok (.list ds) _ => .ok ds G
  | .exc c pl => .exc c pl
  | _ => .stuck
def iterT (m : Gm → EO) : Gm → IO := fun G => match m G with
  | .ok (.tuple ds) _ => .ok ds G
  | .exc c pl => .exc c pl
  | _ => .stuck
theorem ei_list (ha : EE X ct W a ma) : EI X ct W tg a (iterL ma) :=
  pi_imp (pi_list ha) fun σ H R ⟨F0, H0, F, G, r, p⟩ => by
    refine ⟨F0, H0, F, G, r, ?_⟩
    unfold iterL at p
    revert p
    cases e : ma G with
    | ok d w =>
      cases d with
      | list ds =>
        cases w with
        | own j =>
          intro p v F1 H1 x q
          simp only at p
          split at p
          · rename_i ds2 G2 hm
            split at hm
            · rename_i es eo
              cases hm
              obtain ⟨q1, _⟩ := q
              obtain ⟨p2, vs, hv, hf, h0, hp, ha2, r2⟩ := (r.ext x).freeze eo
              rw [q1] at hv
              cases hv
              have sF : Same F1 (upd F1 p2 (.lst vs)) := same_new hf
              exact ⟨p2, rfl, ⟨vs, SqL.of hp⟩, p (Itl X.K p2) _ H1 (x.ff.trans sF) r2 (it_list upd_same (dpAll_mono sF _ _ ha2))⟩
            · cases hm
          · rename_i hm
            split at hm <;> cases hm
          · exact p.elim
        | frz =>
          intro p v F1 H1 x q
          cases q with
          | lst hs ha2 => exact ⟨_, rfl, ⟨_, SqL.of (x.fh _ _ hs)⟩, p (Itl X.K _) F1 H1 x.ff (r.ext x) (it_list hs ha2)⟩
        | new =>
          intro p v F1 H1 x q
          obtain ⟨F3, x3, s3, q3⟩ := vr_hard x q (fun i e => nomatch e)
          cases q3 with
          | lst hs ha2 => exact ⟨_, rfl, ⟨_, SqL.of (x3.fh _ _ hs)⟩, p (Itl X.K _) F3 H1 x3.ff (r.ext x3) (it_list hs ha2)⟩
      | none => exact fun p => p.elim
      | bool b => exact fun p => p.elim
      | int i => exact fun p => p.elim
      | str y => exact fun p => p.elim
      | tuple ds => exact fun p => p.elim
      | dict ds => exact fun p => p.elim
    | exc c pl => exact fun p => p
    | stuck => exact fun p => p.elim
theorem ei_tup (ha : EE X ct W a ma) : EI X ct W tg a (iterT ma) :=
  pi_imp (pi_tup ha) fun σ H R ⟨F0, H0, F, G, r, p⟩ => by
    refine ⟨F0, H0, F, G, r, ?_⟩
    unfold iterT at p
    revert p
    cases e : ma G with
    | ok d w =>
      cases d with
      | tuple ds =>
        intro p v F1 H1 x q
        obtain ⟨_, b, vs, rfl, hs, ha2⟩ := VV.of x.fh q
        exact ⟨_, rfl, ⟨_, (hs.mono x.fh).sq⟩, p (Itt X.K _) F1 H1 x.ff (r.ext x) (it_tup hs ha2)⟩
      | none => exact fun p => p.elim
      | bool b => exact fun p => p.elim
      | int i => exact fun p => p.elim
      | str y => exact fun p => p.elim
      | list ds => exact fun p => p.elim
      | dict ds => exact fun p => p.elim
    | exc c pl => exact fun p => p
    | stuck => exact fun p => p.elim
/-- in a comprehension no exception leaves -/
abbrev W0 : WX := fun _ _ _ _ => False
def compiL (m : Gm → EO) : Gm → IC := fun G => match m G with
  | .ok (.list ds) _ => .ok ds
  | _ => .stuck
def compiT (m : Gm → EO) : Gm → IC := fun G => match m G with
  | .ok (.tuple ds) _ => .ok ds
  | _ => .stuck
theorem ec_list (ha : EE X ct W0 a ma) : EC X tg a (compiL ma) :=
  pi_imp (pi_list ha) fun σ H R ⟨F0, H0, F, G, r, p⟩ => by
    refine ⟨F0, H0, F, G, r, ?_⟩
    unfold compiL at p
    revert p
    cases e : ma G with
    | ok d w =>
      cases d with
      | list ds =>
        intro p v F1 H1 x q
        obtain ⟨_, b, vs, rfl, hs, ha2⟩ := VV.of x.fh q
        exact ⟨_, rfl, ⟨_, SqL.of hs⟩, p (Itl X.K _) F1 H1 x (it_list hs ha2)⟩
      | none => exact fun p => p.elim
      | bool b => exact fun p => p.elim
      | int i => exact fun p => p.elim
      | str y => exact fun p => p.elim
      | tuple ds => exact fun p => p.elim
      | dict ds => exact fun p => p.elim
    | exc c pl => exact fun p => p.elim
    | stuck => exact fun p => p.elim
theorem ec_tup (ha : EE X ct W0 a ma) : EC X tg a (compiT ma) :=
  pi_imp (pi_tup ha) fun σ H R ⟨F0, H0, F, G, r, p⟩ => by
    refine ⟨F0, H0, F, G, r, ?_⟩
    unfold compiT at p
    revert p
    cases e : ma G with
    | ok d w =>
      cases d with
      | tuple ds =>
        intro p v F1 H1 x q
        obtain ⟨_, b, vs, rfl, hs, ha2⟩ := VV.of x.fh q
        exact ⟨_, rfl, ⟨_, (hs.mono x.fh).sq⟩, p (Itt X.K _) F1 H1 x (it_tup hs ha2)⟩
      | none => exact fun p => p.elim
      | bool b => exact fun p => p.elim
      | int i => exact fun p => p.elim
      | str y => exact fun p => p.elim
      | list ds => exact fun p => p.elim
      | dict ds => exact fun p => p.elim
    | exc c pl => exact fun p => p.elim
    | stuck => exact fun p => p.elim
/-! ranges -/

def rg1 (m : Gm → EO) (G : Gm) : Option (List PyData) := match m G with
  | .ok (.int n) _ => if n.natAbs ≤ 1000000 then some (rgD 0 n.toNat) else none
  | _ => none
def rg2 (m m2 : Gm → EO) (G : Gm) : Option (List PyData) := match m G, m2 G with
  | .ok (.int i) _, .ok (.int j) _ => if i.natAbs ≤ 1000000 ∧ j.natAbs ≤ 1000000 then some (rgD i (j - i).toNat) else none
  | _, _ => none
def iterO (m : Gm → Option (List PyData)) : Gm → IO := fun G => match m G with
  | some ds => .ok ds G
  | none => .stuck
def compO (m : Gm → Option (List PyData)) : Gm → IC := fun G => match m G with
  | some ds => .ok ds
  | none => .stuck
theorem rg1_of {K : PySem.W.Frag} {σ : St} {F0 H0 F H : Hp} {G : Gm} {ds : List PyData} {R : It → Hp → Prop} (r : Rep K F0 H0 F H G σ) (hm : rg1 ma G = some ds) (p : ∀ J F2 H2, Ext F H F2 H2 → ItOk K F2 F2 J ds → R J H2) :
    iRng1 (tCons (tM K ct W ma) tNil) σ H R := by
  refine ⟨F0, H0, F, G, r, ?_⟩
  unfold rg1 at hm
  revert hm
  cases ma G with
  | ok d w =>
    cases d with
    | int n =>
      intro hm v F1 H1 x q
      have hm2 : (if n.natAbs ≤ 1000000 then some (rgD 0 n.toNat) else none) = some ds := hm
      split at hm2
      · rename_i hc
        cases hm2
        rw [(VV.of x.fh q).int]
        exact ⟨n, rfl, by omega, by omega, p (Itr 0 n.toNat) F1 H1 x it_range⟩
      · cases hm2
    | none => exact fun hm => nomatch hm
    | bool b => exact fun hm => nomatch hm
    | str y => exact fun hm => nomatch hm
    | list ds => exact fun hm => nomatch hm
    | tuple ds => exact fun hm => nomatch hm
    | dict ds => exact fun hm => nomatch hm
  | exc c pl => exact fun hm => nomatch hm
  | stuck => exact fun hm => nomatch hm
theorem rg2_of {K : PySem.W.Frag} {σ : St} {F0 H0 F H : Hp} {G : Gm} {ds : List PyData} {R : It → Hp → Prop} (r : Rep K F0 H0 F H G σ) (hm : rg2 ma mb G = some ds) (p : ∀ J F2 H2, Ext F H F2 H2 → ItOk K F2 F2 J ds → R J H2) :
    iRng2 (tCons (tM K ct W ma) (tCons (tM K ct W mb) tNil)) σ H R := by
  refine ⟨F0, H0, F, G, r, ?_⟩
  unfold rg2 at hm
  split at hm
  · rename_i i w1 j w2 e1 e2
    split at hm
    · rename_i hc
      cases hm
      rw [e1]
      intro v F1 H1 x q
      refine ⟨F0, H0, F1, G, r.ext x, ?_⟩
      rw [e2]
      intro u F2 H2 x2 q2
      rw [(VV.of x.fh q).int, (VV.of x2.fh q2).int]
      exact ⟨i, j, rfl, ⟨by omega, by omega, by omega, by omega⟩, p (Itr i (j - i).toNat) F2 H2 (x.trans x2) it_range⟩
    · cases hm
  · cases hm
theorem ei_range1 {p : Pos} (hm : X.mg "range" = none) (ha : EE X ct W a ma) (hg : Gl X "range" := by rfl) (hs : starEach [a] X.env = [(false, eval a X.env)] := by rfl) : EI X ct W tg (.Call (.Name "range" p) [a] [] pos) (iterO (rg1 ma)) :=
  pi_imp (pi_range1 hg hm (pa_cons ha pa_nil hs) hs) fun σ H R ⟨F0, H0, F, G, r, q⟩ => by
    unfold iterO at q
    split at q
    · rename_i ds G2 hm2
      split at hm2
      · rename_i ds2 hd
        cases hm2
        exact rg1_of r hd fun J F2 H2 x i => q J F2 H2 x.ff (r.ext x) i
      · cases hm2
    · rename_i hm2
      split at hm2 <;> cases hm2
    · exact q.elim
theorem ei_range2 {p : Pos} (hm : X.mg "range" = none) (ha : EE X ct W a ma) (hb : EE X ct W b mb) (hg : Gl X "range" := by rfl) (hs : starEach [a, b] X.env = [(false, eval a X.env), (false, eval b X.env)] := by rfl) (hs2 : starEach [b] X.env = [(false, eval b X.env)] := by rfl) :
    EI X ct W tg (.Call (.Name "range" p) [a, b] [] pos) (iterO (rg2 ma mb)) :=
  pi_imp (pi_range2 hg hm (pa_cons ha (pa_cons hb pa_nil hs2) (by rw [hs, hs2])) hs hs2) fun σ H R ⟨F0, H0, F, G, r, q⟩ => by
    unfold iterO at q
    split at q
    · rename_i ds G2 hm2
      split at hm2
      · rename_i ds2 hd
        cases hm2
        exact rg2_of r hd fun J F2 H2 x i => q J F2 H2 x.ff (r.ext x) i
      · cases hm2
    · rename_i hm2
      split at hm2 <;> cases hm2
    · exact q.elim
theorem itOk_hs {K : PySem.W.Frag} {F H : Hp} {J : It} {ds : List PyData} (h : ItOk K F F J ds) (fh : Same F H) : ItOk K F H J ds := ⟨fun i F2 H2 d s1 s2 s3 e => h.go i F2 H2 d s1 s2 (fh.trans s3) e, fun F2 H2 s1 s2 s3 => h.stop F2 H2 s1 s2 (fh.trans s3)⟩
theorem ec_range1 {p : Pos} (hm : X.mg "range" = none) (ha : EE X ct W0 a ma) (hg : Gl X "range" := by rfl) (hs : starEach [a] X.env = [(false, eval a X.env)] := by rfl) : EC X tg (.Call (.Name "range" p) [a] [] pos) (compO (rg1 ma)) :=
  pi_imp (pi_range1 hg hm (pa_cons ha pa_nil hs) hs) fun σ H R ⟨F0, H0, F, G, r, q⟩ => by
    unfold compO at q
    split at q
    · rename_i ds hm2
      split at hm2
      · rename_i ds2 hd
        cases hm2
        exact rg1_of r hd fun J F2 H2 x i => q J F2 H2 x (itOk_hs i x.fh)
      · cases hm2
    · exact q.elim
theorem ec_range2 {p : Pos} (hm : X.mg "range" = none) (ha : EE X ct W0 a ma) (hb : EE X ct W0 b mb) (hg : Gl X "range" := by rfl) (hs : starEach [a, b] X.env = [(false, eval a X.env), (false, eval b X.env)] := by rfl) (hs2 : starEach [b] X.env = [(false, eval b X.env)] := by rfl) :
    EC X tg (.Call (.Name "range" p) [a, b] [] pos) (compO (rg2 ma mb)) :=
  pi_imp (pi_range2 hg hm (pa_cons ha (pa_cons hb pa_nil hs2) (by rw [hs, hs2])) hs hs2) fun σ H R ⟨F0, H0, F, G, r, q⟩ => by
    unfold compO at q
    split at q
    · rename_i ds hm2
      split at hm2
      · rename_i ds2 hd
        cases hm2
        exact rg2_of r hd fun J F2 H2 x i => q J F2 H2 x (itOk_hs i x.fh)
      · cases hm2
    · exact q.elim
end
end VL

set_option Elab.async false
set_option linter.all false
set_option maxRecDepth 100000
/-! VG: the value layer: for, while, comprehensions. -/
namespace VL
open PySem L2
def forL (tgt : PyData → Gm → Option Gm) (body : Gm → SO) : List PyData → Gm → SO
  | [], G => .next G
  | d :: ds, G => match tgt d G with
    | none => .stuck
    | some G1 => match body G1 with
      | .next G2 => forL tgt body ds G2
      | .cont G2 => forL tgt body ds G2
      | .brk G2 => .next G2
      | .ret d => .ret d
      | .exc c pl G2 => .exc c pl G2
      | .stuck => .stuck
def forS (mi : Gm → IO) (tgt : PyData → Gm → Option Gm) (body : Gm → SO) : Gm → SO := fun G => match mi G with
  | .ok ds G2 => forL tgt body ds G2
  | .exc c pl => .exc c pl G
  | .stuck => .stuck
def whileL (cond : Gm → BO) (body : Gm → SO) : Nat → Gm → SO
  | 0, _ => .stuck
  | n + 1, G => match cond G with
    | .ok true => match body G with
      | .next G2 => whileL cond body n G2
      | .cont G2 => whileL cond body n G2
      | .brk G2 => .next G2
      | .ret d => .ret d
      | .exc c pl G2 => .exc c pl G2
      | .stuck => .stuck
    | .ok false => .next G
    | .exc c pl => .exc c pl G
    | .stuck => .stuck
section
variable {X : Cx} {ct : Nat → Addr} {W : WX} {a b c e tg it : Expr} {ma mb mc me : Gm → EO} {pos : Pos} {sts : List Stmt} {mb : Gm → SO} {mi : Gm → IO} {tgt : PyData → Gm → Option Gm}
theorem es_for (hp : PassesOwn (model X.prog X.w) X.A X.env X.xe) (hc : X.calm = true) (hi : EI X ct W tg it mi) (hg : EG X tg tgt) (hb : ESs X ct W sts mb) (hs : ∀ x, foldedSetIterable it X.env x = pure x := by intro _; rfl) : ES X ct W (.For tg it sts [] pos) (forS mi tgt mb) :=
  ps_imp (ps_for hp hc hi hg hb hs) fun D σ H ⟨F0, H0, F, G, r, p⟩ => by
    refine ⟨F0, H0, F, G, r, ?_⟩
    unfold forS at p
    revert p
    cases mi G with
    | exc c pl => exact fun p cls dd F2 H2 x q => p cls dd σ F2 H2 x.ff (r.ext x) q
    | stuck => exact fun p => p
    | ok ds G2 =>
      intro p J F2 H2 s2 r2 io
      refine ⟨fun i m σ H => m = ds.length - i ∧ i ≤ ds.length ∧ ∃ F3 G3, Same F2 F3 ∧ Rep X.K F0 H0 F3 H G3 σ ∧ postS X.K ct W F0 H0 D F3 (forL tgt mb (ds.drop i) G3), ⟨ds.length, by simp, Nat.zero_le _, F2, G2, Same.refl _, r2, postS_same p s2⟩, ?_⟩
      rintro i m σ3 H3 ⟨rfl, hi3, F3, G3, s3, r3, p3⟩
      by_cases hlt : i < ds.length
      · have hd : ds.drop i = ds[i] :: ds.drop (i + 1) := List.drop_eq_getElem_cons hlt
        obtain ⟨hgo, hy⟩ := io.go i F3 H3 ds[i] s3 r3.fh (s3.trans r3.fh) (by simp [hlt])
        refine .inr ⟨hgo, fun σ4 H4 => ∃ F4 G4, Same F2 F4 ∧ Rep X.K F0 H0 F4 H4 G4 σ4 ∧ postS X.K ct W F0 H0 D F4 (forL tgt mb (ds.drop (i + 1)) G4), fun σ4 H4 ⟨F4, G4, s4, r4, p4⟩ => ⟨ds.length - (i + 1), by omega, rfl, hlt, F4, G4, s4, r4, p4⟩, fun x H4 y => ?_⟩
        obtain ⟨F4, x4, q4⟩ := hy x H4 y
        rw [hd] at p3
        unfold forL at p3
        cases ht : tgt ds[i] G3 with
        | none =>
          rw [ht] at p3
          exact p3.elim
        | some G4 =>
          rw [ht] at p3
          refine ⟨F0, H0, F4, G3, ds[i], G4, r3.ext x4, q4, ht, fun σ5 r5 => ⟨F0, H0, F4, G4, r5, ?_⟩⟩
          simp only at p3
          revert p3
          cases mb G4 with
          | next G5 => exact fun p3 σ6 F6 H6 s6 r6 => ⟨F6, G5, (s3.trans x4.ff).trans s6, r6, postS_same p3 (x4.ff.trans s6)⟩
          | cont G5 => exact fun p3 σ6 F6 H6 s6 r6 => ⟨F6, G5, (s3.trans x4.ff).trans s6, r6, postS_same p3 (x4.ff.trans s6)⟩
          | brk G5 => exact fun p3 σ6 F6 H6 s6 r6 => p3 σ6 F6 H6 (x4.ff.trans s6) r6
          | ret d => exact fun p3 => p3
          | exc c pl G5 => exact fun p3 cls dd σ6 F6 H6 s6 r6 q6 => p3 cls dd σ6 F6 H6 (x4.ff.trans s6) r6 q6
          | stuck => exact fun p3 => p3
      · have e : i = ds.length := by omega
        subst e
        rw [List.drop_length] at p3
        exact .inl ⟨io.stop F3 H3 s3 r3.fh (s3.trans r3.fh), p3 σ3 F3 H3 (Same.refl _) r3⟩
theorem es_while {t : Expr} {mt : Gm → BO} (n : Nat) (hp : PassesOwn (model X.prog X.w) X.A X.env X.xe) (ht : EB X ct W t mt) (hb : ESs X ct W sts mb) : ES X ct W (.While t sts [] pos) (whileL mt mb n) :=
  ps_imp (ps_while hp ht hb) fun D σ H ⟨F0, H0, F, G, r, p⟩ => by
    refine ⟨fun m σ H => ∃ F3 G3, Same F F3 ∧ Rep X.K F0 H0 F3 H G3 σ ∧ postS X.K ct W F0 H0 D F3 (whileL mt mb m G3), ⟨n, F, G, Same.refl _, r, p⟩, ?_⟩
    rintro m σ3 H3 ⟨F3, G3, s3, r3, p3⟩
    cases m with
    | zero => exact p3.elim
    | succ m =>
      refine ⟨F0, H0, F3, G3, r3, ?_⟩
      unfold whileL at p3
      revert p3
      cases mt G3 with
      | exc c pl => exact fun p3 cls dd F2 H2 x q => p3 cls dd σ3 F2 H2 x.ff (r3.ext x) q
      | stuck => exact fun p3 => p3
      | ok k =>
        cases k with
        | false => exact fun p3 F4 H4 x4 => iteF (p3 σ3 F4 H4 x4.ff (r3.ext x4))
        | true =>
          intro p3 F4 H4 x4
          refine iteT ⟨fun σ5 H5 => ∃ F5 G5, Same F F5 ∧ Rep X.K F0 H0 F5 H5 G5 σ5 ∧ postS X.K ct W F0 H0 D F5 (whileL mt mb m G5), fun σ5 H5 q => ⟨m, Nat.lt_succ_self m, q⟩, F0, H0, F4, G3, r3.ext x4, ?_⟩
          simp only at p3
          revert p3
          cases mb G3 with
          | next G5 => exact fun p3 σ6 F6 H6 s6 r6 => ⟨F6, G5, (s3.trans x4.ff).trans s6, r6, postS_same p3 (x4.ff.trans s6)⟩
          | cont G5 => exact fun p3 σ6 F6 H6 s6 r6 => ⟨F6, G5, (s3.trans x4.ff).trans s6, r6, postS_same p3 (x4.ff.trans s6)⟩
          | brk G5 => exact fun p3 σ6 F6 H6 s6 r6 => p3 σ6 F6 H6 (x4.ff.trans s6) r6
          | ret d => exact fun p3 => p3
          | exc c pl G5 => exact fun p3 cls dd σ6 F6 H6 s6 r6 q6 => p3 cls dd σ6 F6 H6 (x4.ff.trans s6) r6 q6
          | stuck => exact fun p3 => p3

/-! ### comprehensions -/
def stepC (tgt : PyData → Gm → Option Gm) (mt : Gm → BO) (me : Gm → EO) (G : Gm) (d : PyData) : Option (Option PyData) := match tgt d G with
  | none => none
  | some G1 => match mt G1 with
    | .ok true => match (me G1).hard with
      | .ok y _ => some (some y)
      | _ => none
    | .ok false => some none
    | _ => none
def compL (step : PyData → Option (Option PyData)) : List PyData → Option (List PyData)
  | [] => some []
  | d :: ds => match step d with
    | none => none
    | some none => compL step ds
    | some (some y) => match compL step ds with
      | some ys => some (y :: ys)
      | none => none
def wipeG (G : Gm) : List Nat → Gm
  | [] => G
  | v :: vs => (wipeG G vs).set v none
def compE (mi : Gm → IC) (vs : List Nat) (tgt : PyData → Gm → Option Gm) (mt : Gm → BO) (me : Gm → EO) : Gm → EO := fun G => match mi G with
  | .ok ds => if ds.length ≤ big then match compL (stepC tgt mt me (wipeG G vs)) ds with
    | some ys => .ok (.list ys) .new
    | none => .stuck else .stuck
  | .stuck => .stuck
theorem Rep.wipe {K : PySem.W.Frag} {F0 H0 F H : Hp} {G : Gm} {σ : St} (r : Rep K F0 H0 F H G σ) : ∀ vs : List Nat, Rep K F0 H0 F H (wipeG G vs) (L2.wipe σ vs)
  | [] => r
  | v :: vs => (r.wipe vs).forget v none
def yesB : Gm → BO := fun _ => .ok true
abbrev ETs (X : Cx) (ct : Nat → Addr) (W : WX) (ifs : List Expr) (m : Gm → BO) : Prop := PTs X ifs (tMB X.K ct W m)
theorem pts_imp {ifs : List Expr} {t t2 : TT} (h : PTs X ifs t) (i : ∀ σ H Q, t2 σ H Q → t σ H Q) : PTs X ifs t2 := ⟨fun pins s σ H Q I q => h.run pins s σ H Q I (i σ H Q q)⟩
theorem ets_nil : ETs X ct W [] yesB := pts_imp pts_nil fun σ H Q ⟨F0, H0, F, G, r, p⟩ => p F H (Ext.refl r.fh)
theorem ets_one {t : Expr} {mt : Gm → BO} (h : EB X ct W t mt) : ETs X ct W [t] mt := pts_one h
/-- the target within a comprehension: what it does to the slots is forgotten by wipe -/
def gMW (K : PySem.W.Frag) (vs : List Nat) (tgt : PyData → Gm → Option Gm) : TG := fun v σ H Q => ∃ F0 H0 F G d G2, Rep K F0 H0 F H G σ ∧ Dq K F v d ∧ tgt d G = some G2 ∧ ∀ σ2, Rep K F0 H0 F H G2 σ2 → L2.wipe σ2 vs = L2.wipe σ vs → Q σ2 H
theorem wipe_len (σ : St) : ∀ vs : List Nat, (L2.wipe σ vs).length = σ.length := wipe_length σ
theorem set_none_comm {σ : St} {i j : Nat} {x : Option V} : (σ.set i x).set j none = if i = j then σ.set j none else (σ.set j none).set i x := by
  split
  · rename_i e
    subst e
    rw [List.set_set]
  · rename_i e
    rw [List.set_comm _ _ e]
theorem wipe_set {i : Nat} {x : Option V} : ∀ {vs : List Nat} {σ : St}, i ∈ vs → L2.wipe (σ.set i x) vs = L2.wipe σ vs
  | [], _, h => by cases h
  | v :: vs, σ, h => by
    unfold L2.wipe
    by_cases hi : i ∈ vs
    · rw [wipe_set hi]
    · have e : i = v := by
        rcases List.mem_cons.mp h with e | e
        · exact e
        · exact absurd e hi
      subst e
      have out : ∀ (ws : List Nat) (τ : St), i ∉ ws → L2.wipe (τ.set i x) ws = (L2.wipe τ ws).set i x := by
        intro ws
        induction ws with
        | nil => exact fun τ _ => rfl
        | cons w ws ih =>
          intro τ hn
          unfold L2.wipe
          rw [ih τ fun z => hn (List.mem_cons_of_mem _ z), List.set_comm _ _ (fun z => hn (by rw [z]; exact List.mem_cons_self))]
      rw [out vs σ hi, List.set_set]
theorem wipe_wipe {vs : List Nat} : ∀ {ws : List Nat} {σ : St}, (∀ w ∈ ws, w ∈ vs) → L2.wipe (L2.wipe σ ws) vs = L2.wipe σ vs
  | [], _, _ => rfl
  | w :: ws, σ, h => by
    show L2.wipe ((L2.wipe σ ws).set w none) vs = _
    rw [wipe_set (h w List.mem_cons_self), wipe_wipe fun z hz => h z (List.mem_cons_of_mem _ hz)]
abbrev EGW (X : Cx) (vs : List Nat) (tg : Expr) (tgt : PyData → Gm → Option Gm) : Prop := PG X tg (gMW X.K vs tgt)
end
end VL

set_option Elab.async false
set_option linter.all false
set_option maxRecDepth 100000
/-! VH: the value layer: the comprehension's rule; lists that are changed. -/
namespace VL
open PySem L2
section
variable {X : Cx} {ct : Nat → Addr} {W : WX} {pos p1 p2 p3 : Pos} {i j k : Nat} {x y z : Str} {vs : List Nat}
theorem egw_name (hN : X.N.Nodup) (hv : i ∈ vs) (hi : X.N[i]? = some x := by rfl) (hx : Loc X.env.scope x := by first | exact Or.inl rfl | exact Or.inr rfl) (hf : X.fn x = true ∨ X.env.scope.names.lookup x = some .local := by first | exact .inl rfl | exact .inr rfl) : EGW X vs (.Name x pos) (toN i) :=
  pg_imp (pg_name hN hi hx hf) fun v σ H Q ⟨F0, H0, F, G, d, G2, r, q, e, h⟩ => by
    cases e
    exact h _ (r.dat i q) (wipe_set hv)
theorem egw_tup3 {n : Nat} (hc : X.calm = true) (hN : X.N.Nodup) (hvi : i ∈ vs) (hvj : j ∈ vs) (hvk : k ∈ vs) (hi : X.N[i]? = some x := by rfl) (hx : Loc X.env.scope x := by first | exact Or.inl rfl | exact Or.inr rfl) (hf : X.fn x = true ∨ X.env.scope.names.lookup x = some .local := by first | exact .inl rfl | exact .inr rfl)
    (hj : X.N[j]? = some y := by rfl) (hy : Loc X.env.scope y := by first | exact Or.inl rfl | exact Or.inr rfl) (hg : X.fn y = true ∨ X.env.scope.names.lookup y = some .local := by first | exact .inl rfl | exact .inr rfl)
    (hk : X.N[k]? = some z := by rfl) (hz : Loc X.env.scope z := by first | exact Or.inl rfl | exact Or.inr rfl) (hh : X.fn z = true ∨ X.env.scope.names.lookup z = some .local := by first | exact .inl rfl | exact .inr rfl) :
    EGW X vs (.Tuple [.Name x p1, .Name y p2, .Name z p3] n pos) (to3 i j k) :=
  pg_imp (pg_tup (n := 3) hc (pgs_cons (pg_name hN hi hx hf) (pgs_cons (pg_name hN hj hy hg) (pgs_cons (pg_name hN hk hz hh) pgs_nil)))) fun v σ H Q ⟨F0, H0, F, G, d, G2, r, q, e, h⟩ => by
    unfold to3 at e
    split at e
    · cases e
      cases q with
      | tup hs ha =>
        cases ha with
        | cons h1 t1 =>
          cases t1 with
          | cons h2 t2 =>
            cases t2 with
            | cons h3 t3 =>
              cases t3
              exact ⟨_, _, rfl, (hs.mono r.fh).sq, rfl, _, _, rfl, _, _, rfl, _, _, rfl, rfl, h _ (((r.dat i h1).dat j h2).dat k h3) (by rw [wipe_set hvk, wipe_set hvj, wipe_set hvi])⟩
    · cases e
end
section
variable {K : PySem.W.Frag} {ct : Nat → Addr} {W : WX} {mi : Gm → IC} {vs : List Nat} {tgt : PyData → Gm → Option Gm} {mt : Gm → BO} {me : Gm → EO}
theorem comp_of {σ : St} {H : Hp} {Q : VK} (h : tM K ct W (compE mi vs tgt mt me) σ H Q) : tLc (tMC K mi) (gMW K vs tgt) (tMB K ct W0 mt) (tM K ct W0 me) vs σ H Q := by
  obtain ⟨F0, H0, F, G, r, p⟩ := h
  refine ⟨F0, H0, F, G, r, ?_⟩
  unfold compE at p
  revert p
  cases mi G with
  | stuck => exact fun p => p
  | ok ds =>
    intro p J F2 H2 x2 io D hD
    simp only at p
    split at p
    · rename_i hbig
      split at p
      · rename_i ys hys
        have fD : F2 D = none := x2.fh.free hD
        refine ⟨fun i m H5 => m = ds.length - i ∧ i ≤ ds.length ∧ ∃ F3 acc accV rest, Ext F2 H2 F3 H5 ∧ F3 D = none ∧ H5 D = some (.lst accV) ∧ DqAll K F3 accV acc ∧ acc.length ≤ i ∧ compL (stepC tgt mt me (wipeG G vs)) (ds.drop i) = some rest ∧ acc ++ rest = ys,
          ⟨ds.length, by simp, Nat.zero_le _, F2, [], [], ys, Ext.new x2.fh hD, fD, upd_same, .nil, Nat.le_refl _, hys, rfl⟩, ?_⟩
        rintro i m H5 ⟨rfl, hi, F3, acc, accV, rest, x3, f3, h5, ra, la, hc, hy⟩
        by_cases hlt : i < ds.length
        · have hd : ds.drop i = ds[i] :: ds.drop (i + 1) := List.drop_eq_getElem_cons hlt
          obtain ⟨hgo, hyl⟩ := io.go i F3 H5 ds[i] x3.ff x3.fh x3.hh (by simp [hlt])
          refine .inr ⟨hgo, fun H6 => ∃ F3 acc accV rest, Ext F2 H2 F3 H6 ∧ F3 D = none ∧ H6 D = some (.lst accV) ∧ DqAll K F3 accV acc ∧ acc.length ≤ i + 1 ∧ compL (stepC tgt mt me (wipeG G vs)) (ds.drop (i + 1)) = some rest ∧ acc ++ rest = ys,
            fun H6 q => ⟨ds.length - (i + 1), by omega, rfl, hlt, q⟩, fun x H6 yl => ?_⟩
          obtain ⟨F4, x4, q4⟩ := hyl x H6 yl
          have r4 : Rep K F0 H0 F4 H6 (wipeG G vs) (L2.wipe σ vs) := (((r.ext x2).ext x3).ext x4).wipe vs
          rw [hd] at hc
          unfold compL at hc
          cases hst : stepC tgt mt me (wipeG G vs) ds[i] with
          | none =>
            rw [hst] at hc
            cases hc
          | some oy =>
            rw [hst] at hc
            unfold stepC at hst
            cases ht : tgt ds[i] (wipeG G vs) with
            | none =>
              rw [ht] at hst
              cases hst
            | some G1 =>
              rw [ht] at hst
              simp only at hst
              refine ⟨F0, H0, F4, wipeG G vs, ds[i], G1, r4, q4, ht, fun σ2 r5 hw => ⟨hw.trans (wipe_wipe fun _ z => z), F0, H0, F4, G1, r5, ?_⟩⟩
              have f4 : F4 D = none := x4.ap D _ h5 f3 trivial
              have h6 : H6 D = some (.lst accV) := x4.hh D _ h5
              cases hmt : mt G1 with
              | exc c pl =>
                rw [hmt] at hst
                cases hst
              | stuck =>
                rw [hmt] at hst
                cases hst
              | ok kb =>
                rw [hmt] at hst
                cases kb with
                | false =>
                  simp only [Option.some.injEq] at hst
                  subst hst
                  intro F5 H7 x5
                  refine iteF ⟨F5, acc, accV, rest, (x3.trans x4).trans x5, x5.ap D _ h6 f4 trivial, x5.hh D _ h6, dpAll_mono (x4.ff.trans x5.ff) _ _ ra, Nat.le_succ_of_le la, hc, hy⟩
                | true =>
                  simp only at hst
                  intro F5 H7 x5
                  refine iteT ⟨F0, H0, F5, G1, r5.ext x5, ?_⟩
                  have key : ∀ yv w, me G1 = .ok yv w → (∀ n, w ≠ .own n) → oy = some yv → post K ct W0 σ2 F5 H7 (fun y H4 => ∃ acc, H4 D = some (.lst acc) ∧ acc.length < sizeLine ∧ ∃ F3 acc_1 accV rest, Ext F2 H2 F3 (upd H4 D (.lst (acc ++ [y]))) ∧ F3 D = none ∧ upd H4 D (.lst (acc ++ [y])) D = some (.lst accV) ∧ DqAll K F3 accV acc_1 ∧ acc_1.length ≤ i + 1 ∧ compL (stepC tgt mt me (wipeG G vs)) (ds.drop (i + 1)) = some rest ∧ acc_1 ++ rest = ys) (me G1) := by
                    intro yv w em nw eo
                    subst eo
                    rw [em]
                    intro v F6 H8 x6 vr
                    obtain ⟨F7, x7, _, q7⟩ := vr_hard x6 vr nw
                    have h7 : H7 D = some (.lst accV) := x5.hh D _ h6
                    have f5 : F5 D = none := x5.ap D _ h6 f4 trivial
                    have h8 : H8 D = some (.lst accV) := x7.hh D _ h7
                    have f7 : F7 D = none := x7.ap D _ h7 f5 trivial
                    have x27 : Ext F2 H2 F7 H8 := ((x3.trans x4).trans x5).trans x7
                    cases hrest : compL (stepC tgt mt me (wipeG G vs)) (ds.drop (i + 1)) with
                    | none =>
                      rw [hrest] at hc
                      cases hc
                    | some rest2 =>
                      rw [hrest] at hc
                      simp only [Option.some.injEq] at hc
                      subst hc
                      refine ⟨accV, h8, ?_, F7, acc ++ [yv], accV ++ [v], rest2, ⟨x27.ff, fun a o q => ?_, fun a o q => ?_, x27.ap⟩, f7, upd_same, dpAll_app (dpAll_mono ((x4.ff.trans x5.ff).trans x7.ff) _ _ ra) (.cons q7 .nil), ?_, rfl, ?_⟩
                      · rw [dpAll_len ra]
                        have := big_line hbig
                        omega
                      · rw [upd_ne (ne_of_none q f7)]
                        exact x27.fh a o q
                      · rw [upd_ne (ne_of_none q hD)]
                        exact x27.hh a o q
                      · rw [List.length_append]
                        exact Nat.succ_le_succ la
                      · rw [List.append_assoc]
                        exact hy
                  cases hme : me G1 with
                  | exc c pl =>
                    rw [hme] at hst
                    cases hst
                  | stuck =>
                    rw [hme] at hst
                    cases hst
                  | ok yv w =>
                    rw [hme] at hst
                    rw [← hme]
                    cases w with
                    | frz =>
                      simp only [EO.hard, Option.some.injEq] at hst
                      exact key yv .frz hme (fun n e => nomatch e) hst.symm
                    | new =>
                      simp only [EO.hard, Option.some.injEq] at hst
                      exact key yv .new hme (fun n e => nomatch e) hst.symm
                    | own n => cases hst
        · have e : i = ds.length := by omega
          subst e
          rw [List.drop_length] at hc
          cases hc
          rw [List.append_nil] at hy
          subst hy
          exact .inl ⟨io.stop F3 H5 x3.ff x3.fh x3.hh, p (.ref D) F3 H5 (x2.trans x3) ⟨D, accV, acc, rfl, rfl, x2.hh.free hD, f3, h5, ra⟩⟩
      · exact p.elim
    · exact p.elim
end
section
variable {X : Cx} {ct : Nat → Addr} {W : WX} {pos : Pos} {elt tg it : Expr} {ifs : List Expr} {scope : Scope} {mi : Gm → IC} {tgt : PyData → Gm → Option Gm} {mt : Gm → BO} {me : Gm → EO}
theorem ee_comp (N : List Str) (sc : Scope) (own : List (Str × Nat)) (hc : X.calm = true) (hN : X.N.Nodup) (ok : blkC N sc scope own = true) (hi : EC X tg it mi)
    (hg : ∀ (s : Shared) (H : Hp) (C : Addr) (cl : List (Str × Addr)) (fp : List Addr), EGW (X.blk s H scope (compEnvC scope cl C X.env) fp) (own.map (·.2)) tg tgt) (ht : ∀ (s : Shared) (H : Hp) (C : Addr) (cl : List (Str × Addr)) (fp : List Addr), ETs (X.blk s H scope (compEnvC scope cl C X.env) fp) ct W0 ifs mt)
    (he : ∀ (s : Shared) (H : Hp) (C : Addr) (cl : List (Str × Addr)) (fp : List Addr), EE (X.blk s H scope (compEnvC scope cl C X.env) fp) ct W0 elt me) (eN : X.N = N := by rfl) (eS : X.env.scope = sc := by rfl) (hs : ∀ x, foldedSetIterable it X.env x = pure x := by intro _; rfl) :
    EE X ct W (.ListComp elt [⟨tg, it, ifs, 0⟩] scope pos) (compE mi (own.map (·.2)) tgt mt me) := pe_imp (pe_lc (own := own) hc hN hi (blkOk_by (by rw [eN, eS]; exact ok)) hg ht he hs) fun σ H Q h => comp_of h
theorem es_asgC {i : Nat} {y : Str} {py spos : Pos} (N : List Str) (sc : Scope) (own : List (Str × Nat)) (hc : X.calm = true) (hN : X.N.Nodup) (ok : blkC N sc scope own = true)
    (hsw : swapsWith (.ListComp elt [⟨tg, it, ifs, 0⟩] scope pos) (some (.Name y py)) spos.line X.env = pure true) (hi : EC X tg it mi)
    (hg : ∀ (s : Shared) (H : Hp) (C : Addr) (cl : List (Str × Addr)) (fp : List Addr), EGW (X.blk s H scope (compEnvC scope cl C X.env) fp) (own.map (·.2)) tg tgt) (ht : ∀ (s : Shared) (H : Hp) (C : Addr) (cl : List (Str × Addr)) (fp : List Addr), ETs (X.blk s H scope (compEnvC scope cl C X.env) fp) ct W0 ifs mt)
    (he : ∀ (s : Shared) (H : Hp) (C : Addr) (cl : List (Str × Addr)) (fp : List Addr), EE (X.blk s H scope (compEnvC scope cl C X.env) fp) ct W0 elt me) (eN : X.N = N := by rfl) (eS : X.env.scope = sc := by rfl) (hy : X.N[i]? = some y := by rfl) (hyl : X.env.scope.names.lookup y = some .local := by rfl) (hs : ∀ x, foldedSetIterable it X.env x = pure x := by intro _; rfl) :
    ES X ct W (.Assign [.Name y py] (.ListComp elt [⟨tg, it, ifs, 0⟩] scope pos) spos) (asgS i (compE mi (own.map (·.2)) tgt mt me)) :=
  ps_imp (ps_setLc (own := own) hc hN hy hyl hsw hi (blkOk_by (by rw [eN, eS]; exact ok)) hg ht he hs) fun D σ H h => comp_of (asg_of h)
end
end VL

set_option Elab.async false
set_option linter.all false
set_option maxRecDepth 100000
/-! VI: the value layer: slices, lists that are changed, len, list, tuple. -/
namespace VL
open PySem L2
section
variable {X : Cx} {ct : Nat → Addr} {W : WX} {a b c e : Expr} {ma mb mc me : Gm → EO} {pos p2 : Pos}
/-! ### slices -/
def partN : Gm → Option (Option Int) := fun _ => some none
def partS (m : Gm → EO) : Gm → Option (Option Int) := fun G => match m G with
  | .ok (.int i) _ => some (some i)
  | _ => none
def tMO (K : PySem.W.Frag) (m : Gm → Option (Option Int)) : TO := fun σ H Q => ∃ F0 H0 F G, Rep K F0 H0 F H G σ ∧ match m G with
  | some o => ∀ F2 H2, Ext F H F2 H2 → Q o H2
  | none => False
abbrev EOp (X : Cx) (e : Option Expr) (m : Gm → Option (Option Int)) : Prop := PO X e (tMO X.K m)
theorem po_imp {e : Option Expr} {t t2 : TO} (h : PO X e t) (i : ∀ σ H Q, t2 σ H Q → t σ H Q) : PO X e t2 := ⟨fun pins s σ H Q I q => h.run pins s σ H Q I (i σ H Q q)⟩
theorem eo_none : EOp X none partN := po_imp po_none fun σ H Q ⟨F0, H0, F, G, r, p⟩ => p F H (Ext.refl r.fh)
theorem eo_some (he : EE X ct W0 e me) : EOp X (some e) (partS me) := po_imp (po_some he) fun σ H Q ⟨F0, H0, F, G, r, p⟩ => by
  refine ⟨F0, H0, F, G, r, ?_⟩
  unfold partS at p
  revert p
  cases me G with
  | ok d w =>
    cases d with
    | int i => exact fun p v F2 H2 x q => ⟨i, (VV.of x.fh q).int, p F2 H2 x⟩
    | none => exact fun p => p.elim
    | bool b => exact fun p => p.elim
    | str y => exact fun p => p.elim
    | list ds => exact fun p => p.elim
    | tuple ds => exact fun p => p.elim
    | dict ds => exact fun p => p.elim
  | exc c pl => exact fun p => p.elim
  | stuck => exact fun p => p.elim
def cutD (xs : List PyData) (lo hi : Option Int) : List PyData := (xs.drop (HT.sIx xs.length 0 lo)).take (HT.sIx xs.length xs.length hi - HT.sIx xs.length 0 lo)
theorem dpAll_cut {K : PySem.W.Frag} {H : Hp} {vs : List V} {ds : List PyData} {lo hi : Option Int} (r : DqAll K H vs ds) : DqAll K H (cutV vs lo hi) (cutD ds lo hi) := by
  unfold cutV cutD
  rw [dpAll_len r]
  exact dpAll_take _ (dpAll_drop _ r)
def gSl (d : PyData) (lo hi : Option Int) : EO := match d with
  | .list ds => .ok (.list (cutD ds lo hi)) .new
  | .tuple ds => .ok (.tuple (cutD ds lo hi)) .frz
  | .str x => if x.length ≤ big then .ok (.str (cutS x lo hi)) .frz else .stuck
  | _ => .stuck
def slE (me : Gm → EO) (ml mh : Gm → Option (Option Int)) : Gm → EO := fun G => (me G).bind fun d _ => match ml G, mh G with
  | some l, some u => gSl d l u
  | _, _ => .stuck
theorem ee_slice {lo hi : Option Expr} {ml mh : Gm → Option (Option Int)} (he : EE X ct W e me) (hl : EOp X lo ml) (hh : EOp X hi mh) : EE X ct W (.Subscript e (.Slice lo hi none p2) pos) (slE me ml mh) :=
  pe_imp (pe_slice (SlR.or sl_list (SlR.or sl_tupO sl_str)) he hl hh) fun σ H Q h => by
    refine tM_mono (tM_view (k := fun G d => match ml G, mh G with
      | some l, some u => gSl d l u
      | _, _ => .stuck) h) fun v H1 ⟨F0, H0, F1, G, d, rp, vv, p⟩ => ?_
    split at p
    · rename_i l u el eu
      refine ⟨F0, H0, F1, G, rp, ?_⟩
      rw [el]
      intro F2 H2 x2
      refine ⟨F0, H0, F2, G, rp.ext x2, ?_⟩
      rw [eu]
      intro F3 H3 x3
      have vv3 := (vv.mono x2).mono x3
      have p3 := post_ext p (x2.trans x3)
      unfold gSl at p3
      split at p3
      · obtain ⟨_, b, vs, rfl, h1, r1⟩ := vv3
        exact .inl ⟨b, vs, rfl, SqL.of h1, fun q hq => ok_newL x3.fh (dpAll_cut r1) p3 hq⟩
      · rename_i ds
        obtain ⟨_, b, vs, rfl, h1, r1⟩ := vv3
        refine .inr (.inl ⟨b, vs, rfl, (h1.mono x3.fh).sq, fun hw => ?_, fun _ q o to hq => ok_newT x3.fh (dpAll_cut r1) p3 to hq⟩)
        have e1 : cutD ds l u = ds := by
          unfold cutD
          rw [dpAll_len r1] at hw
          rw [hw.1, hw.2, List.drop_zero, Nat.sub_zero, List.take_length]
        rw [e1] at p3
        exact ok_frz x3.fh (.tup h1 r1) p3
      · split at p3
        · rename_i hz
          rw [vv3.str]
          exact .inr (.inr ⟨_, rfl, big_line hz, ok_frz x3.fh (.str _) p3⟩)
        · exact p3.elim
      · exact p3.elim
    · exact p.elim

/-! ### statements that change a list -/
theorem postS_hard {K : PySem.W.Frag} {F0 H0 F H : Hp} {G : Gm} {σ : St} {D : Ends} {o : EO} {k : PyData → SO} (r : Rep K F0 H0 F H G σ) (h : postS K ct W F0 H0 D F (o.hard.bindS G fun d _ => k d)) :
    post K ct W σ F H (fun v H1 => ∃ d F1, Ext F H F1 H1 ∧ Dq K F1 v d ∧ Rep K F0 H0 F1 H1 G σ ∧ postS K ct W F0 H0 D F1 (k d)) o := by
  cases o with
  | ok d w =>
    cases w with
    | frz => exact fun v F1 H1 x q => ⟨d, F1, x, q, r.ext x, postS_same (o := k d) h x.ff⟩
    | new =>
      intro v F1 H1 x q
      obtain ⟨F3, x3, _, r3⟩ := vr_hard x q (fun i e => nomatch e)
      exact ⟨d, F3, x3, r3, r.ext x3, postS_same (o := k d) h x3.ff⟩
    | own i => exact h.elim
  | exc c pl => exact fun cls dd F1 H1 x q => h cls dd σ F1 H1 x.ff (r.ext x) q
  | stuck => exact h
def appS (j : Nat) (me : Gm → EO) : Gm → SO := fun G => match G[j]? with
  | some (some (.own ds)) => (me G).hard.bindS G fun d _ => if ds.length < big then .next (G.set j (some (.own (ds ++ [d])))) else .stuck
  | _ => .stuck
def extS (j : Nat) (me : Gm → EO) : Gm → SO := fun G => match G[j]? with
  | some (some (.own ds)) => (me G).hard.bindS G fun d _ => match d with
    | .list es => if ds.length + es.length ≤ big then .next (G.set j (some (.own (ds ++ es)))) else .stuck
    | _ => .stuck
  | _ => .stuck
theorem big_lt {n : Nat} (h : n < big) : n < sizeLine := Nat.lt_of_lt_of_le h (by decide)
variable {x : Str} {j : Nat} {px apos : Pos}
theorem es_append (he : EE X ct W e me) (hj : X.N[j]? = some x := by rfl) (hv : Vis X.env.scope x := by first | exact Or.inl rfl | exact Or.inr (Or.inl rfl)) (hd : (x == ("__debug__" : Str)) = false := by decide) (hcd : (x == ("__classdict__" : Str)) = false := by decide)
    (hs1 : starEach [e] X.env = (false, eval e X.env) :: starEach [] X.env := by rfl) (hline : (apos.endLine == p2.line) = true := by rfl) :
    ES X ct W (.Expr (.Call (.Attribute (.Name x px) "append" apos) [e] [] p2) pos) (appS j me) :=
  ps_imp (ps_expr (pe_bm PySem.F.plainAttrs_list PySem.F.slot_list_append PySem.F.type_list_append mt_append (pe_var hj hv hd hcd) (pa_cons he pa_nil hs1) (hline := hline) (hs := hs1) (hfew := by rw [hs1] <;> rfl))) fun D σ H ⟨F0, H0, F, G, r, p⟩ => by
    unfold appS at p
    split at p
    · rename_i ds e
      obtain ⟨v, hv, q, vs, rfl, h0, hf, hp, ha⟩ := r.slot j _ e
      refine ⟨_, hv, .inl ⟨rfl, vs, SqL.of hp⟩, F0, H0, F, G, r, post_mono (postS_hard r p) fun y H1 ⟨d, F1, x1, ry, r1, p1⟩ => ?_⟩
      split at p1
      · rename_i hz
        refine ⟨q, vs, y, rfl, rfl, x1.hh _ _ hp, by rw [dpAll_len ha]; exact big_lt hz, ?_⟩
        exact p1 σ F1 _ (Same.refl _) (r1.mut e hv (dpAll_app (dpAll_mono x1.ff _ _ ha) (.cons ry .nil)))
      · exact p1.elim
    · exact p.elim
theorem es_extend (he : EE X ct W e me) (hj : X.N[j]? = some x := by rfl) (hv : Vis X.env.scope x := by first | exact Or.inl rfl | exact Or.inr (Or.inl rfl)) (hd : (x == ("__debug__" : Str)) = false := by decide) (hcd : (x == ("__classdict__" : Str)) = false := by decide)
    (hs1 : starEach [e] X.env = (false, eval e X.env) :: starEach [] X.env := by rfl) (hline : (apos.endLine == p2.line) = true := by rfl) :
    ES X ct W (.Expr (.Call (.Attribute (.Name x px) "extend" apos) [e] [] p2) pos) (extS j me) :=
  ps_imp (ps_expr (pe_bm PySem.F.plainAttrs_list PySem.F.slot_list_extend PySem.F.type_list_extend mt_extend (pe_var hj hv hd hcd) (pa_cons he pa_nil hs1) (hline := hline) (hs := hs1) (hfew := by rw [hs1] <;> rfl))) fun D σ H ⟨F0, H0, F, G, r, p⟩ => by
    unfold extS at p
    split at p
    · rename_i ds e
      obtain ⟨v, hv, q, vs, rfl, h0, hf, hp, ha⟩ := r.slot j _ e
      refine ⟨_, hv, .inl ⟨rfl, vs, SqL.of hp⟩, F0, H0, F, G, r, post_mono (postS_hard (k := fun d => match d with
        | .list es => if ds.length + es.length ≤ big then .next (G.set j (some (.own (ds ++ es)))) else .stuck
        | _ => .stuck) r p) fun y H1 ⟨d, F1, x1, ry, r1, p1⟩ => ?_⟩
      split at p1
      · split at p1
        · rename_i hz
          cases ry with
          | lst hs ra =>
            refine ⟨q, _, vs, _, rfl, rfl, x1.hh _ _ hp, x1.fh _ _ hs, by rw [dpAll_len ha, dpAll_len ra]; exact big_line hz, ?_⟩
            exact p1 σ F1 _ (Same.refl _) (r1.mut e hv (dpAll_app (dpAll_mono x1.ff _ _ ha) ra))
        · exact p1.elim
      · exact p1.elim
    · exact p.elim
def setS (j : Nat) (mi me : Gm → EO) : Gm → SO := fun G => (me G).hard.bindS G fun d _ => match G[j]? with
  | some (some (.own ds)) => (mi G).bindS G fun k _ => match k with
    | .int n => match ixN ds.length n with
      | some m => .next (G.set j (some (.own (ds.set m d))))
      | none => .stuck
    | _ => .stuck
  | _ => .stuck
theorem es_setitem {i : Expr} {mi : Gm → EO} (he : EE X ct W e me) (hi : EE X ct W i mi) (hj : X.N[j]? = some x := by rfl) (hv : Vis X.env.scope x := by first | exact Or.inl rfl | exact Or.inr (Or.inl rfl)) (hd : (x == ("__debug__" : Str)) = false := by decide) (hcd : (x == ("__classdict__" : Str)) = false := by decide)
    (ha : ∀ v, assign (.Subscript (.Name x px) i p2) X.env v = (do
      let ov ← holding [v] (eval (.Name x px) X.env)
      let iv ← holding [v, ov] (eval i X.env)
      standAt p2
      holding [v, ov, iv] (setItem ov iv v)
      release [v, ov, iv] []) := by intro _; rfl)
    (hs : swapsWithSole [.Subscript (.Name x px) i p2] e pos.line X.env = pure false := by rfl) (hw : swappedStores [.Subscript (.Name x px) i p2] e X.env = pure none := by rfl) :
    ES X ct W (.Assign [.Subscript (.Name x px) i p2] e pos) (setS j mi me) :=
  ps_imp (ps_asg he (pg_sub (pe_var hj hv hd hcd) hi set_list ha) hs hw) fun D σ H ⟨F0, H0, F, G, r, p⟩ => by
    refine ⟨F0, H0, F, G, r, post_mono (postS_hard (k := fun d => match G[j]? with
      | some (some (.own ds)) => (mi G).bindS G fun k _ => match k with
        | .int n => match ixN ds.length n with
          | some m => .next (G.set j (some (.own (ds.set m d))))
          | none => .stuck
        | _ => .stuck
      | _ => .stuck) r p) fun y H1 ⟨d, F1, x1, ry, r1, p1⟩ => ?_⟩
    split at p1
    · rename_i ds e
      obtain ⟨v, hv, q, vs, rfl, h0, hf, hp, ha⟩ := r1.slot j _ e
      refine ⟨_, hv, F0, H0, F1, G, r1, post_mono (post_S (k := fun k _ => match k with
        | .int n => match ixN ds.length n with
          | some m => .next (G.set j (some (.own (ds.set m d))))
          | none => .stuck
        | _ => .stuck) r1 p1) fun u H2 ⟨dk, w, F2, x2, ru, r2, p2⟩ => ?_⟩
      have vu := VV.of x2.fh ru
      split at p2
      · split at p2
        · rename_i hm
          rw [vu.int]
          refine ⟨q, vs, _, _, rfl, rfl, x2.hh _ _ hp, by rw [dpAll_len ha]; exact hm, ?_⟩
          exact p2 σ F2 _ (Same.refl _) (r2.mut e hv (dpAll_set (dp_mono x2.ff _ _ ry) _ (dpAll_mono x2.ff _ _ ha)))
        · exact p2.elim
      · exact p2.elim
    · exact p1.elim

/-! ### expressions that change a list: x.pop(), x.pop(i) -/
inductive XO where
  | ok (d : PyData) (G : Gm) | exc (c : Nat) (pl : Option PyData) | stuck
def postX (K : PySem.W.Frag) (ct : Nat → Addr) (W : WX) (F0 H0 : Hp) (σ : St) (F H : Hp) (Q : VK) : XO → Prop
  | .ok d G2 => ∀ v F2 H2, Same F F2 → Rep K F0 H0 F2 H2 G2 σ → Dq K F2 v d → Q v H2
  | .exc c pl => ∀ cls dd F2 H2, Ext F H F2 H2 → XR K ct F2 H2 c pl cls dd → W cls dd σ H2
  | .stuck => False
def tMX (K : PySem.W.Frag) (ct : Nat → Addr) (W : WX) (m : Gm → XO) : TE := fun σ H Q => ∃ F0 H0 F G, Rep K F0 H0 F H G σ ∧ postX K ct W F0 H0 σ F H Q (m G)
abbrev EX (X : Cx) (ct : Nat → Addr) (W : WX) (e : Expr) (m : Gm → XO) : Prop := PE X e (tMX X.K ct W m)
def popX (j : Nat) : Gm → XO := fun G => match G[j]? with
  | some (some (.own ds)) => match ds[ds.length - 1]? with
    | some d => .ok d (G.set j (some (.own ds.dropLast)))
    | none => .stuck
  | _ => .stuck
def popAtX (j : Nat) (mi : Gm → EO) : Gm → XO := fun G => match G[j]?, mi G with
  | some (some (.own ds)), .ok (.int i) _ => if 0 ≤ i ∧ i < ds.length ∧ ds.length ≤ big then match ds[i.toNat]? with
      | some d => .ok d (G.set j (some (.own (ds.eraseIdx i.toNat))))
      | none => .stuck else .stuck
  | _, _ => .stuck
theorem dpAll_dropLast {K : PySem.W.Frag} {H : Hp} {vs : List V} {ds : List PyData} (r : DqAll K H vs ds) : DqAll K H vs.dropLast ds.dropLast := by
  rw [List.dropLast_eq_take, List.dropLast_eq_take, dpAll_len r]
  exact dpAll_take _ r
theorem dpAll_erase {K : PySem.W.Frag} {H : Hp} : ∀ {vs : List V} {ds : List PyData} (n : Nat), DqAll K H vs ds → DqAll K H (vs.eraseIdx n) (ds.eraseIdx n)
  | _, _, _, .nil => .nil
  | _, _, 0, .cons _ t => t
  | _, _, n + 1, .cons q t => .cons q (dpAll_erase n t)
theorem ex_pop (hj : X.N[j]? = some x := by rfl) (hv : Vis X.env.scope x := by first | exact Or.inl rfl | exact Or.inr (Or.inl rfl)) (hd : (x == ("__debug__" : Str)) = false := by decide) (hcd : (x == ("__classdict__" : Str)) = false := by decide)
    (hline : (apos.endLine == p2.line) = true := by rfl) : EX X ct W (.Call (.Attribute (.Name x px) "pop" apos) [] [] p2) (popX j) :=
  pe_imp (pe_bm0 PySem.F.plainAttrs_list PySem.F.slot_list_pop PySem.F.type_list_pop mt_pop (pe_var hj hv hd hcd) (hline := hline)) fun σ H Q ⟨F0, H0, F, G, r, p⟩ => by
    unfold popX at p
    split at p
    · rename_i ds e
      obtain ⟨v, hv, q, vs, rfl, h0, hf, hp, ha⟩ := r.slot j _ e
      split at p
      · rename_i d hd
        obtain ⟨y, hy, ry⟩ := dpAll_get ha hd
        refine ⟨_, hv, .inl ⟨rfl, vs, SqL.of hp⟩, q, vs, y, rfl, rfl, hp, by rw [dpAll_len ha]; exact hy, ?_⟩
        exact p y F _ (Same.refl _) (r.mut e hv (dpAll_dropLast ha)) ry
      · exact p.elim
    · exact p.elim
theorem ex_popAt {i : Expr} {mi : Gm → EO} (hi : EE X ct W i mi) (hj : X.N[j]? = some x := by rfl) (hv : Vis X.env.scope x := by first | exact Or.inl rfl | exact Or.inr (Or.inl rfl)) (hd : (x == ("__debug__" : Str)) = false := by decide) (hcd : (x == ("__classdict__" : Str)) = false := by decide)
    (hs1 : starEach [i] X.env = (false, eval i X.env) :: starEach [] X.env := by rfl) (hline : (apos.endLine == p2.line) = true := by rfl) : EX X ct W (.Call (.Attribute (.Name x px) "pop" apos) [i] [] p2) (popAtX j mi) :=
  pe_imp (pe_bm PySem.F.plainAttrs_list PySem.F.slot_list_pop PySem.F.type_list_pop mt_popAt (pe_var hj hv hd hcd) (pa_cons hi pa_nil hs1) (hline := hline) (hs := hs1) (hfew := by rw [hs1] <;> rfl)) fun σ H Q ⟨F0, H0, F, G, r, p⟩ => by
    unfold popAtX at p
    split at p
    · rename_i ds n w e em
      obtain ⟨v, hv, q, vs, rfl, h0, hf, hp, ha⟩ := r.slot j _ e
      split at p
      · rename_i hc
        split at p
        · rename_i d hd
          refine ⟨_, hv, .inl ⟨rfl, vs, SqL.of hp⟩, F0, H0, F, G, r, ?_⟩
          rw [em]
          intro u F1 H1 x1 ru
          obtain ⟨y, hy, ry⟩ := dpAll_get ha hd
          rw [(VV.of x1.fh ru).int]
          have hl := dpAll_len ha
          have hb : ds.length ≤ 1000000 := hc.2.2
          refine ⟨q, vs, n, n.toNat, y, rfl, rfl, x1.hh _ _ hp, by omega, by omega, PySem.seqIndex_of hc.1 (by rw [hl]; exact hc.2.1), hy, ?_⟩
          exact p y F1 _ x1.ff ((r.ext x1).mut e hv (dpAll_erase _ (dpAll_mono x1.ff _ _ ha))) (dp_mono x1.ff _ _ ry)
        · exact p.elim
      · exact p.elim
    · exact p.elim
end
end VL

set_option Elab.async false
set_option linter.all false
set_option maxRecDepth 100000
/-! VJ: the value layer: calls of built-ins, of defs; defs; raise. -/
namespace VL
open PySem L2
section
variable {X : Cx} {ct : Nat → Addr} {W : WX} {a b c e : Expr} {ma mb mc me : Gm → EO} {pos p : Pos} {x : Str}
/-! ### built-ins of one argument -/
def GC1 (K : PySem.W.Frag) (r : List V → Hp → VK → Prop) (g : PyData → EO) : Prop := ∀ (ct : Nat → Addr) (W : WX) (σ : St) (F H : Hp) (v : V) (d : PyData) (Q : VK), Same F H → VV K F H v d → post K ct W σ F H Q (g d) → r [v] H Q
theorem ee_b1 {id : String} {r : List V → Hp → VK → Prop} {g : PyData → EO} (hc : CallR X (.builtin id) r) (hgr : GC1 X.K r g) (hm : X.mg x = none) (hv : bootBuiltins x = some (.builtin id)) (ha : EE X ct W a ma) (hg : Gl X x := by rfl) (hn : x ≠ "__name__" := by decide) (hdb : (x == ("__debug__" : Str)) = false := by decide)
    (hs : starEach [a] X.env = (false, eval a X.env) :: starEach [] X.env := by rfl) (hpl : (backTo pos (starEach [] X.env)).any (·.1) = false := by rfl) : EE X ct W (.Call (.Name x p) [a] [] pos) (op1 g ma) :=
  pe_imp (pe_callB hc hg hm hv (pa_cons ha pa_nil hs) hn hdb hs hpl) fun σ H Q h => tM_mono (tM_view (k := fun _ d => g d) h) fun v H1 ⟨F0, H0, F1, G, d, rp, vv, q⟩ => hgr ct W σ F1 H1 v d Q rp.fh vv q
theorem ee_t1 {T : String} {r : List V → Hp → VK → Prop} {g : PyData → EO} (hc : CallR X (.type T) r) (hgr : GC1 X.K r g) (hm : X.mg x = none) (hv : bootBuiltins x = some (.type T)) (ha : EE X ct W a ma) (hg : Gl X x := by rfl) (hn : x ≠ "__name__" := by decide) (hdb : (x == ("__debug__" : Str)) = false := by decide)
    (hs : starEach [a] X.env = (false, eval a X.env) :: starEach [] X.env := by rfl) (hpl : (backTo pos (starEach [] X.env)).any (·.1) = false := by rfl) : EE X ct W (.Call (.Name x p) [a] [] pos) (op1 g ma) :=
  pe_imp (pe_callTy hc hg hm hv (pa_cons ha pa_nil hs) hn hdb hs hpl) fun σ H Q h => tM_mono (tM_view (k := fun _ d => g d) h) fun v H1 ⟨F0, H0, F1, G, d, rp, vv, q⟩ => hgr ct W σ F1 H1 v d Q rp.fh vv q
def gLen : PyData → EO
  | .list ds => .ok (.int ds.length) .frz
  | .tuple ds => .ok (.int ds.length) .frz
  | .dict ds => .ok (.int ds.length) .frz
  | .str x => if x.length ≤ big then .ok (.int x.length) .frz else .stuck
  | _ => .stuck
theorem g_len {K : PySem.W.Frag} : GC1 K (fun xs H Q => ∃ x n, xs = [x] ∧ LenV K x H n ∧ Q (.int n) H) gLen := by
  intro ct W σ F H v d Q fh vv p
  unfold gLen at p
  split at p
  · obtain ⟨_, b, vs, rfl, h1, r1⟩ := vv
    exact ⟨_, _, rfl, .inl ⟨vs, SqL.of h1, rfl⟩, ok_frz fh (.int _) (by rw [dpAll_len r1]; exact p)⟩
  · obtain ⟨_, b, vs, rfl, h1, r1⟩ := vv
    exact ⟨_, _, rfl, .inr ⟨vs, (h1.mono fh).sq, rfl⟩, ok_frz fh (.int _) (by rw [dpAll_len r1]; exact p)⟩
  · have hd := vv.1
    clear vv
    cases hd with
    | @scr b ns hs =>
      rw [List.length_map] at p
      exact ⟨_, _, rfl, .inl ⟨_, hs, rfl⟩, ok_frz fh (.int _) (by rw [List.length_map]; exact p)⟩
  · split at p
    · rename_i hz
      rw [vv.str]
      exact ⟨_, _, rfl, ⟨big_line hz, rfl⟩, ok_frz fh (.int _) p⟩
    · exact p.elim
  · exact p.elim
theorem ee_len (hm : X.mg "len" = none) (ha : EE X ct W a ma) (hg : Gl X "len" := by rfl) (hs : starEach [a] X.env = (false, eval a X.env) :: starEach [] X.env := by rfl) : EE X ct W (.Call (.Name "len" p) [a] [] pos) (op1 gLen ma) := ee_b1 call_len g_len hm PySem.boot_len ha hg (hs := hs)
def gList : PyData → EO
  | .list ds => .ok (.list ds) .new
  | .tuple ds => .ok (.list ds) .new
  | _ => .stuck
theorem g_list {K : PySem.W.Frag} : GC1 K (fun xs H Q => ∃ p ys, xs = [.ref p] ∧ (SqL K H p ys ∨ SqT K H p ys) ∧ ∀ l, H l = none → Q (.ref l) (upd H l (.lst ys))) gList := by
  intro ct W σ F H v d Q fh vv p
  unfold gList at p
  split at p
  · obtain ⟨_, b, vs, rfl, h1, r1⟩ := vv
    exact ⟨b, vs, rfl, .inl (SqL.of h1), fun q hq => ok_newL fh r1 p hq⟩
  · obtain ⟨_, b, vs, rfl, h1, r1⟩ := vv
    exact ⟨b, vs, rfl, .inr (h1.mono fh).sq, fun q hq => ok_newL fh r1 p hq⟩
  · exact p.elim
def gTuple : PyData → EO
  | .list ds => .ok (.tuple ds) .frz
  | .tuple ds => .ok (.tuple ds) .frz
  | _ => .stuck
theorem g_tuple {K : PySem.W.Frag} : GC1 K (rTupO K) gTuple := by
  intro ct W σ F H v d Q fh vv p
  unfold gTuple at p
  split at p
  · obtain ⟨_, b, vs, rfl, h1, r1⟩ := vv
    exact ⟨b, vs, rfl, .inl ⟨SqL.of h1, fun q o to hq => ok_newT fh r1 p to hq⟩⟩
  · obtain ⟨_, b, vs, rfl, h1, r1⟩ := vv
    exact ⟨b, vs, rfl, .inr ⟨(h1.mono fh).sq, ok_frz fh (.tup h1 r1) p⟩⟩
  · exact p.elim
theorem ee_list (hm : X.mg "list" = none) (ha : EE X ct W a ma) (hg : Gl X "list" := by rfl) (hs : starEach [a] X.env = (false, eval a X.env) :: starEach [] X.env := by rfl) : EE X ct W (.Call (.Name "list" p) [a] [] pos) (op1 gList ma) := ee_t1 call_list_of g_list hm (by decide +kernel) ha hg (hs := hs)
theorem ee_tuple (hm : X.mg "tuple" = none) (ha : EE X ct W a ma) (hg : Gl X "tuple" := by rfl) (hs : starEach [a] X.env = (false, eval a X.env) :: starEach [] X.env := by rfl) : EE X ct W (.Call (.Name "tuple" p) [a] [] pos) (op1 gTuple ma) := ee_t1 call_tupO g_tuple hm (by decide +kernel) ha hg (hs := hs)
def gInt1 : PyData → EO
  | .int i => .ok (.int i) .frz
  | .bool k => .ok (.int (if k = true then 1 else 0)) .frz
  | _ => .stuck
theorem g_int1 {K : PySem.W.Frag} : GC1 K (fun xs H Q => (∃ i, xs = [.int i] ∧ Q (.int i) H) ∨ ∃ k, xs = [.bl k] ∧ Q (.int (if k = true then 1 else 0)) H) gInt1 := by
  intro ct W σ F H v d Q fh vv p
  unfold gInt1 at p
  split at p
  · rw [vv.int]
    exact .inl ⟨_, rfl, ok_frz fh (.int _) p⟩
  · rw [vv.bl]
    exact .inr ⟨_, rfl, ok_frz fh (.int _) p⟩
  · exact p.elim
theorem ee_int1 (hm : X.mg "int" = none) (ha : EE X ct W a ma) (hg : Gl X "int" := by rfl) (hs : starEach [a] X.env = (false, eval a X.env) :: starEach [] X.env := by rfl) : EE X ct W (.Call (.Name "int" p) [a] [] pos) (op1 gInt1 ma) := ee_t1 call_int1 g_int1 hm (by decide +kernel) ha hg (hs := hs)
def gStr1 : PyData → EO
  | .int i => if i.natAbs < 1000000 then .ok (.str (toString i)) .frz else .stuck
  | _ => .stuck
theorem log_small {n : Nat} (h : n < 1000000) : n.log2 < 1920 := by
  by_cases h0 : n = 0
  · subst h0
    decide
  · exact Nat.lt_of_lt_of_le ((Nat.log2_lt h0).mpr (Nat.lt_of_lt_of_le h (by decide : 1000000 ≤ 2 ^ 20))) (by decide)
theorem g_str1 {K : PySem.W.Frag} : GC1 K (fun xs H Q => ∃ i : Int, xs = [.int i] ∧ i.natAbs.log2 < 1920 ∧ Q (.str (toString i)) H) gStr1 := by
  intro ct W σ F H v d Q fh vv p
  unfold gStr1 at p
  split at p
  · split at p
    · rename_i hz
      rw [vv.int]
      exact ⟨_, rfl, log_small hz, ok_frz fh (.str _) p⟩
    · exact p.elim
  · exact p.elim
theorem ee_str1 (hm : X.mg "str" = none) (ha : EE X ct W a ma) (hg : Gl X "str" := by rfl) (hs : starEach [a] X.env = (false, eval a X.env) :: starEach [] X.env := by rfl) : EE X ct W (.Call (.Name "str" p) [a] [] pos) (op1 gStr1 ma) := ee_t1 call_str_int g_str1 hm (by decide +kernel) ha hg (hs := hs)

/-! ### list(range(..)), tuple(range(..)) -/
def rgLE (m : Gm → Option (List PyData)) : Gm → EO := fun G => match m G with
  | some ds => .ok (.list ds) .new
  | none => .stuck
def rgTE (m : Gm → Option (List PyData)) : Gm → EO := fun G => match m G with
  | some ds => .ok (.tuple ds) .frz
  | none => .stuck
theorem rgV_dq {K : PySem.W.Frag} {F : Hp} (lo : Int) : ∀ n : Nat, DqAll K F ((List.range n).map fun i => V.int (lo + (i : Nat))) (rgD lo n)
  | 0 => .nil
  | n + 1 => by
    unfold rgD
    rw [List.range_succ, List.map_append, List.map_append]
    exact dpAll_app (rgV_dq lo n) (.cons (.int _) .nil)
theorem ee_listRg {p2 pos2 : Pos} (hc : X.calm = true) (hm : X.mg "list" = none) (hm2 : X.mg "range" = none) (ha : EE X ct W a ma) (hg : Gl X "list" := by rfl) (hg2 : Gl X "range" := by rfl) (na : starEach [a] X.env = (false, eval a X.env) :: starEach [] X.env := by rfl)
    (na2 : starEach [.Call (.Name "range" p2) [a] [] pos2] X.env = (false, eval (.Call (.Name "range" p2) [a] [] pos2) X.env) :: starEach [] X.env := by rfl) :
    EE X ct W (.Call (.Name "list" p) [.Call (.Name "range" p2) [a] [] pos2] [] pos) (rgLE (rg1 ma)) :=
  pe_imp (pe_listRg hc hg hm (prg_1 hg2 hm2 ha na) na2) fun σ H Q ⟨F0, H0, F, G, r, q⟩ => by
    refine ⟨F0, H0, F, G, r, ?_⟩
    unfold rgLE rg1 at q
    revert q
    cases ma G with
    | ok d w =>
      cases d with
      | int n =>
        intro q v F1 H1 x rv
        simp only at q
        rw [(VV.of x.fh rv).int]
        by_cases hz : n.natAbs ≤ 1000000
        · rw [if_pos hz] at q
          refine ⟨n, rfl, ⟨by decide, by decide, by omega, by omega, by omega⟩, fun l hl => ?_⟩
          have e : rgV 0 n = (List.range n.toNat).map fun i => V.int (0 + (i : Nat)) := by unfold rgV; rw [Int.sub_zero]
          rw [e]
          exact ok_newL x.fh (rgV_dq 0 n.toNat) (post_ext q x) hl
        · rw [if_neg hz] at q
          exact q.elim
      | none => exact fun q => q.elim
      | bool b => exact fun q => q.elim
      | str y => exact fun q => q.elim
      | list ds => exact fun q => q.elim
      | tuple ds => exact fun q => q.elim
      | dict ds => exact fun q => q.elim
    | exc c pl => exact fun q => q.elim
    | stuck => exact fun q => q.elim
theorem ee_tupRg {p2 pos2 : Pos} (hc : X.calm = true) (hm : X.mg "tuple" = none) (hm2 : X.mg "range" = none) (ha : EE X ct W a ma) (hg : Gl X "tuple" := by rfl) (hg2 : Gl X "range" := by rfl) (na : starEach [a] X.env = (false, eval a X.env) :: starEach [] X.env := by rfl)
    (na2 : starEach [.Call (.Name "range" p2) [a] [] pos2] X.env = (false, eval (.Call (.Name "range" p2) [a] [] pos2) X.env) :: starEach [] X.env := by rfl) :
    EE X ct W (.Call (.Name "tuple" p) [.Call (.Name "range" p2) [a] [] pos2] [] pos) (rgTE (rg1 ma)) :=
  pe_imp (pe_tupRgO hc hg hm (prg_1 hg2 hm2 ha na) (fun σ H Q Q2 i h => tM_mono h fun v H1 ⟨n, e, q⟩ => ⟨n, e, i _ _ _ q⟩) na2) fun σ H Q ⟨F0, H0, F, G, r, q⟩ => by
    refine ⟨F0, H0, F, G, r, ?_⟩
    unfold rgTE rg1 at q
    revert q
    cases ma G with
    | ok d w =>
      cases d with
      | int n =>
        intro q v F1 H1 x rv
        simp only at q
        rw [(VV.of x.fh rv).int]
        by_cases hz : n.natAbs ≤ 1000000
        · rw [if_pos hz] at q
          refine ⟨n, rfl, ⟨by decide, by decide, by omega, by omega, by omega⟩, fun l o to hl => ?_⟩
          have e : rgV 0 n = (List.range n.toNat).map fun i => V.int (0 + (i : Nat)) := by unfold rgV; rw [Int.sub_zero]
          rw [e] at to
          exact ok_newT x.fh (rgV_dq 0 n.toNat) (post_ext q x) to hl
        · rw [if_neg hz] at q
          exact q.elim
      | none => exact fun q => q.elim
      | bool b => exact fun q => q.elim
      | str y => exact fun q => q.elim
      | list ds => exact fun q => q.elim
      | tuple ds => exact fun q => q.elim
      | dict ds => exact fun q => q.elim
    | exc c pl => exact fun q => q.elim
    | stuck => exact fun q => q.elim

/-! ### isinstance -/
def tyD : PyData → Option String
  | .none => some "NoneType"
  | .bool _ => some "bool"
  | .int _ => some "int"
  | .str _ => some "str"
  | .list _ => some "list"
  | .tuple _ => some "tuple"
  | .dict _ => none
end

/-! ### defs -/
def postF (K : PySem.W.Frag) (ct : Nat → Addr) (F H : Hp) (Q : VK) (E : XK) : FO → Prop
  | .ok d => ∀ v F2 H2, Ext F H F2 H2 → Dq K F2 v d → Q v H2
  | .exc c pl => ∀ cls dd F2 H2, Ext F H F2 H2 → XR K ct F2 H2 c pl cls dd → E cls dd H2
  | .stuck => False
/-- the promise: data in, data out -/
def spM (K : PySem.W.Frag) (ct : Nat → Addr) (f : List PyData → FO) : Sp := fun vs H Q E => ∃ F ds, Same F H ∧ DqAll K F vs ds ∧ postF K ct F H Q E (f ds)
def callE (f : List PyData → FO) (ms : Gm → AO) : Gm → EO := fun G => (ms G).bindE fun ds => (f ds).toE
def startG (n : Nat) (ds : List PyData) : Gm := ds.map (fun d => some (.dat d)) ++ List.replicate (n - ds.length) none
/-- a def's worth by its body's: n slots, k parameters -/
def defM (n k : Nat) (m : Gm → SO) : List PyData → FO := fun ds => if ds.length = k then match m (startG n ds) with
  | .ret d => .ok d
  | .next _ => .ok .none
  | .exc c pl _ => .exc c pl
  | _ => .stuck else .stuck
section
variable {X : Cx} {ct : Nat → Addr} {W : WX} {e : Expr} {es : List Expr} {ms : Gm → AO} {pos p : Pos} {x : Str} {k j : Nat} {f : Addr} {fd : FuncData} {ps : List Str} {fm : List PyData → FO}
theorem call_of {K : PySem.W.Frag} {σ : St} {H : Hp} {Q : VK} (h : tM K ct W (callE fm ms) σ H Q) : tCallS (spM K ct fm) (WE W) (tMA K ct W ms) σ H Q := by
  obtain ⟨F0, H0, F, G, r, p⟩ := h
  refine ⟨F0, H0, F, G, r, postA_mono (postA_bindE p) fun vs H1 ⟨ds, F1, x, ra, p2⟩ => ⟨F1, ds, x.fh, ra, ?_⟩⟩
  revert p2
  cases fm ds with
  | ok d => exact fun p2 v F2 H2 x2 q => p2 v F2 H2 x2 q
  | exc c pl => exact fun p2 => p2
  | stuck => exact fun p2 => p2
theorem ee_call (F : FnOk X.prog X.w X.K X.mg X.base (L2.CX X.prog X.w) j f fd ps (spM X.K ct fm)) (hr : Room k X.A) (hjk : j ≤ k) (hm : X.mg x = some (.ref f)) (hk : PySem.W.keepIn X.K (.ref f) = true) (hb : Binds X.K fd ps []) (tk : Takes X W) (ha : EA X ct W (e :: es) ms)
    (hg : Gl X x := by rfl) (hdb : (x == ("__debug__" : Str)) = false := by decide) (he : starEach (e :: es) X.env = (false, eval e X.env) :: starEach es X.env := by rfl) (hpl : (backTo pos (starEach es X.env)).any (·.1) = false := by rfl) :
    EE X ct W (.Call (.Name x p) (e :: es) [] pos) (callE fm ms) := pe_imp (pe_callS F (hr.mono hjk) hg hm hk hb (fun σ => passAt tk σ) ha hdb he hpl) fun σ H Q h => call_of h
end
section
variable {P : Program} {w : World} {K : PySem.W.Frag} {mg : Str → Option Value} {base : Heap}
theorem rep_start {F H : Hp} {N : List Str} {vs : List V} {ds : List PyData} (fh : Same F H) (ra : DqAll K F vs ds) : Rep K F H F H (startG N.length ds) (L2.start N vs) where
  fh := fh
  hh := Same.refl _
  ff := Same.refl _
  ap := fun _ _ _ e _ => e
  len := by
    unfold startG L2.start
    rw [List.length_append, List.length_append, List.length_map, List.length_map, List.length_replicate, List.length_replicate, dpAll_len ra]
  slot := fun i s h => by
    unfold startG at h
    by_cases hi : i < ds.length
    · rw [List.getElem?_append_left (by simpa using hi), List.getElem?_map] at h
      cases e : ds[i]? with
      | none => rw [e] at h; cases h
      | some d =>
        rw [e] at h
        cases h
        obtain ⟨v, hv, rv⟩ := dpAll_get ra e
        refine ⟨v, ?_, rv⟩
        unfold L2.start
        rw [List.getElem?_append_left (by rw [List.length_map, dpAll_len ra]; exact hi), List.getElem?_map, hv]
        rfl
    · rw [List.getElem?_append_right (by simpa using hi), List.getElem?_replicate] at h
      split at h <;> cases h
  dist := fun i j s t v u a ne h1 h2 e1 e2 m1 m2 => by
    have h := h1
    unfold startG at h
    by_cases hi : i < ds.length
    · rw [List.getElem?_append_left (by simpa using hi), List.getElem?_map] at h
      cases e : ds[i]? with
      | none => rw [e] at h; cases h
      | some d => rw [e] at h; cases h; exact m1
    · rw [List.getElem?_append_right (by simpa using hi), List.getElem?_replicate] at h
      split at h <;> cases h
/-- the wish of a def about what it lets out -/
abbrev WD (E : XK) : WX := fun cls d _ H => E cls d H
/-- THE RULE for a def -/
theorem fn_ok {x qual : Str} {st : Stmt} {f : Addr} {fd : FuncData} {N ps : List Str} {k : Nat} {ct : Nat → Addr} {m : Gm → SO} (F : Fun K x qual st f fd) (S : FnScope N ps (defScope st))
    (hb : ∀ (cdv : Value) (A : Around) (outer : List Env) (s : Shared) (H : Hp) (E : XK), Room k (cxOf (L2.CX P w) P w K mg base N qual (defScope st) f cdv A outer s H E).A →
      Takes (cxOf (L2.CX P w) P w K mg base N qual (defScope st) f cdv A outer s H E) (WD E) →
      PassesOwn (model P w) (cxOf (L2.CX P w) P w K mg base N qual (defScope st) f cdv A outer s H E).A (cxOf (L2.CX P w) P w K mg base N qual (defScope st) f cdv A outer s H E).env (cxOf (L2.CX P w) P w K mg base N qual (defScope st) f cdv A outer s H E).xe →
      ESs (cxOf (L2.CX P w) P w K mg base N qual (defScope st) f cdv A outer s H E) ct (WD E) (defBody st) m) :
    FnOk P w K mg base (L2.CX P w) (k + 1) f fd ps (spM K ct (defM N.length ps.length m)) := by
  refine F.okX S (fun vs H Q E h => ?_) (fun cdv A outer s H vs Q E hr h => ⟨_, hb cdv A outer s H E hr (takes_of rfl rfl rfl rfl) (passes_of rfl), ?_⟩)
  · obtain ⟨F1, ds, fh, ra, p⟩ := h
    unfold defM at p
    split at p
    · rename_i e
      rw [dpAll_len ra]
      exact e
    · exact p.elim
  · obtain ⟨F1, ds, fh, ra, p⟩ := h
    refine ⟨F1, H, F1, startG N.length ds, rep_start fh ra, ?_⟩
    unfold defM at p
    split at p
    · revert p
      cases m (startG N.length ds) with
      | next G => exact fun p σ2 F2 H2 s2 r2 => p .non F2 H2 r2.extOf .non
      | ret d => exact fun p v F2 H2 x2 q => p v F2 H2 x2 q
      | exc c pl G => exact fun p cls dd σ2 F2 H2 s2 r2 q => p cls dd F2 H2 r2.extOf q
      | brk G => exact fun p => p.elim
      | cont G => exact fun p => p.elim
      | stuck => exact fun p => p.elim
    · exact p.elim
end
section
variable {X : Cx} {ct : Nat → Addr} {W : WX} {x m : Str} {j c : Nat} {p p2 pos pos2 : Pos}
/-- what the written part says of an own exception class without an __init__ -/
structure XcT (K : PySem.W.Frag) (mg : Str → Option Value) (x : Str) (C : Addr) : Prop where
  gC : mg x = some (.ref C)
  ex : PySem.W.excIn K C [.type "ValueError", .type "Exception", .type "BaseException", .type "object"] "ValueError.__new__" = true
  kp : PySem.W.keepIn K (.ref C) = true
  sb : PySem.W.subIn K (.ref C) (.type "BaseException") = some true
  ty : PySem.W.typeIn K (.ref C) = some (.type "type")
def raiseS (c : Nat) : Gm → SO := fun G => .exc c none G
theorem es_raise (hc : X.calm = true) (T : XcT X.K X.mg x (ct c)) (tk : Takes X W) (hg : Gl X x := by rfl) (hdb : (x == ("__debug__" : Str)) = false := by decide) : ES X ct W (.Raise (some (.Call (.Name x p) [.Constant (.str m) j p2] [] pos)) none pos2) (raiseS c) :=
  ps_imp (ps_raise hc tk (pmk_own PySem.F.excBase_ValueError T.ex T.gC T.kp (raises_own T.sb T.ty) hg hdb)) fun D σ H ⟨F0, H0, F, G, r, q⟩ => q (.ref (ct c)) none σ F H (Same.refl _) r ⟨rfl, rfl⟩
end
end VL

set_option Elab.async false
set_option linter.all false
set_option maxRecDepth 100000
/-! VK: the value layer: isinstance of a built-in type, len(set(tuple of ints)). -/
namespace VL
open PySem L2
section
variable {X : Cx} {ct : Nat → Addr} {W : WX} {a b c e : Expr} {ma mb mc me : Gm → EO} {pos p p2 p3 : Pos} {x : Str}
inductive Ty where
  | none | bool | int | str | list | tuple
def Ty.nm : Ty → String
  | .none => "NoneType"
  | .bool => "bool"
  | .int => "int"
  | .str => "str"
  | .list => "list"
  | .tuple => "tuple"
def tyOf : PyData → Option Ty
  | .none => some .none
  | .bool _ => some .bool
  | .int _ => some .int
  | .str _ => some .str
  | .list _ => some .list
  | .tuple _ => some .tuple
  | .dict _ => Option.none
def subTy : Ty → Ty → Bool
  | .bool, .int => true
  | .none, .none => true
  | .bool, .bool => true
  | .int, .int => true
  | .str, .str => true
  | .list, .list => true
  | .tuple, .tuple => true
  | _, _ => false
theorem kit_sub (s t : Ty) : kitB s.nm t.nm = some (subTy s t) := by
  cases s <;> cases t <;> decide +kernel
def gIsi (T : Ty) : PyData → EO := fun d => match tyOf d with
  | some t => .ok (.bool (subTy t T)) .frz
  | Option.none => .stuck
theorem ty_x {K : PySem.W.Frag} {F H : Hp} {v : V} {d : PyData} {t : Ty} (fh : Same F H) (h : VV K F H v d) (e : tyOf d = some t) : TyX K H v (.type t.nm) := by
  cases d with
  | none => cases e; rw [h.non]; exact .base .non
  | bool b => cases e; rw [h.bl]; exact .base (.bl b)
  | int i => cases e; rw [h.int]; exact .base (.int i)
  | str y => cases e; rw [h.str]; exact .base (.str y)
  | list ds =>
    cases e
    obtain ⟨_, b, vs, rfl, h1, _⟩ := h
    exact .base (.lst h1)
  | tuple ds =>
    cases e
    obtain ⟨_, b, vs, rfl, h1, _⟩ := h
    obtain ⟨o, h1, to⟩ := h1.mono fh
    exact to.ty h1
  | dict kvs => cases e
theorem ee_isi (T : Ty) (hm : X.mg "isinstance" = none) (hmT : X.mg x = none) (hv : bootBuiltins x = some (.type T.nm)) (ha : EE X ct W a ma) (hg : Gl X "isinstance" := by rfl) (hgT : Gl X x := by rfl) (hn : x ≠ "__name__" := by decide) (hdb : (x == ("__debug__" : Str)) = false := by decide)
    (hs : starEach [a, .Name x p2] X.env = (false, eval a X.env) :: starEach [.Name x p2] X.env := by rfl) (hs2 : starEach [.Name x p2] X.env = (false, eval (.Name x p2) X.env) :: starEach [] X.env := by rfl) (hpl : (backTo pos (starEach [.Name x p2] X.env)).any (·.1) = false := by rfl) :
    EE X ct W (.Call (.Name "isinstance" p) [a, .Name x p2] [] pos) (op1 (gIsi T) ma) :=
  pe_imp (pe_callB call_isi hg hm PyProof.Rows.boot_isinstance (pa_cons ha (pa_cons (pe_bltn (v := .ty T.nm) hgT hmT hv rfl hn hdb) pa_nil hs2) hs) (he := hs) (hpl := hpl)) fun σ H Q h =>
    tM_mono (tM_view (k := fun _ d => gIsi T d) h) fun v H1 ⟨F0, H0, F1, G, d, rp, vv, q⟩ => by
      unfold gIsi at q
      split at q
      · rename_i t e
        exact ⟨v, .ty T.nm, .type t.nm, .type T.nm, subTy t T, rfl, .ty _, ty_x rp.fh vv e, kit_ty (kit_sub t T), ok_frz rp.fh (.bl _) q⟩
      · exact q.elim

/-! ### len(set(t)) -/
def dedup : List Int → List Int
  | [] => []
  | n :: ns => if (dedup ns).contains n = true then dedup ns else n :: dedup ns
theorem mem_dedup {n : Int} : ∀ {ns : List Int}, n ∈ dedup ns ↔ n ∈ ns
  | [] => Iff.rfl
  | m :: ns => by
    unfold dedup
    split
    · rename_i h
      rw [List.contains_iff_mem] at h
      rw [mem_dedup (ns := ns), List.mem_cons]
      constructor
      · exact .inr
      · rintro (e | e)
        · subst e
          exact mem_dedup.mp h
        · exact e
    · rw [List.mem_cons, List.mem_cons, mem_dedup (ns := ns)]
theorem nodup_dedup : ∀ (ns : List Int), (dedup ns).Nodup
  | [] => List.nodup_nil
  | m :: ns => by
    unfold dedup
    split
    · exact nodup_dedup ns
    · rename_i h
      rw [List.contains_iff_mem] at h
      exact List.nodup_cons.mpr ⟨h, nodup_dedup ns⟩
theorem len_le_of : ∀ {l m : List Int}, l.Nodup → (∀ a ∈ l, a ∈ m) → l.length ≤ m.length
  | [], _, _, _ => Nat.zero_le _
  | a :: l, m, nd, h => by
    have ha : a ∈ m := h a List.mem_cons_self
    obtain ⟨n1, n2⟩ := List.nodup_cons.mp nd
    have ih := len_le_of (m := m.erase a) n2 fun b hb => (List.mem_erase_of_ne (fun (e : b = a) => n1 (by rw [← e]; exact hb))).mpr (h b (List.mem_cons_of_mem _ hb))
    rw [List.length_erase_of_mem ha] at ih
    have := List.length_pos_of_mem ha
    rw [List.length_cons]
    omega
def allInts : List PyData → Option (List Int)
  | [] => some []
  | .int n :: ds => match allInts ds with
    | some ns => some (n :: ns)
    | none => none
  | _ => none
theorem ints_vals {K : PySem.W.Frag} {F : Hp} : ∀ {ds : List PyData} {vs : List V} {ns : List Int}, DqAll K F vs ds → allInts ds = some ns → vs = ns.map V.int
  | [], _, _, h, e => by cases h; cases e; rfl
  | .int n :: ds, _, _, h, e => by
    unfold allInts at e
    cases h with
    | cons h1 h2 =>
      split at e
      · rename_i ns2 e2
        cases e
        cases h1
        rw [ints_vals h2 e2]
        rfl
      · cases e
  | .none :: ds, _, _, _, e => by cases e
  | .bool _ :: ds, _, _, _, e => by cases e
  | .str _ :: ds, _, _, _, e => by cases e
  | .list _ :: ds, _, _, _, e => by cases e
  | .tuple _ :: ds, _, _, _, e => by cases e
  | .dict _ :: ds, _, _, _, e => by cases e
def gLenSet : PyData → EO
  | .tuple ds => match allInts ds with
    | some ns => if ns.length ≤ 1000 then .ok (.int (dedup ns).length) .frz else .stuck
    | none => .stuck
  | _ => .stuck
theorem ee_lenSet (hc : X.calm = true) (hm : X.mg "len" = none) (hm2 : X.mg "set" = none) (ha : EE X ct W a ma) (hg : Gl X "len" := by rfl) (hg2 : Gl X "set" := by rfl) (na : starEach [a] X.env = (false, eval a X.env) :: starEach [] X.env := by rfl) :
    EE X ct W (.Call (.Name "len" p) [.Call (.Name "set" p2) [a] [] p3] [] pos) (op1 gLenSet ma) := by
  refine ⟨fun pins s σ H Q I h => ?_⟩
  have h1 := tM_mono (tM_view (k := fun _ d => gLenSet d) h) (Q2 := fun v H1 => ∃ (l : Addr) (ns : List Int), v = .ref l ∧ SqT X.K H1 l (ns.map V.int) ∧ ns.length ≤ 1000 ∧ Q (.int (dedup ns).length) H1) fun v H1 ⟨F0, H0, F1, G, d, rp, vv, q⟩ => by
    unfold gLenSet at q
    split at q
    · split at q
      · rename_i ns e
        split at q
        · rename_i hz
          obtain ⟨_, b, vs, rfl, hb, ra⟩ := vv
          have ev := ints_vals ra e
          subst ev
          exact ⟨b, ns, rfl, (hb.mono rp.fh).sq, hz, ok_frz rp.fh (.int _) q⟩
        · exact q.elim
      · exact q.elim
    · exact q.elim
  refine PyProof.Rows.Call_ (ld_blt I hg hm PySem.boot_len (PyProof.Rows.callWith_builtin1 (PyProof.Rows.args_cons ?_ rfl) rfl rfl))
  refine PyProof.Rows.Call_ (ld_blt I hg2 hm2 PyProof.Rows.boot_set (PyProof.Rows.callWith_type1 (PyProof.Rows.args_cons (thn (ha.run pins s σ H _ I h1) fun v s1 ⟨x, H1, I1, r1, q1⟩ => PyProof.Rows.args_nil ?_) na) na rfl))
  obtain ⟨l, ns, rfl, hq, hl, q1⟩ := q1
  cases r1
  obtain ⟨its, r, pl, hz⟩ := I1.tuple hq
  refine call_set_tupI ns (I1.ok.hd hc) pl (by simpa using RZ.intsAre_vals r) (by unfold scanBound; omega) fun h2 tk cnt hS _ hk => ?_
  refine PyProof.Rows.args_nil ?_
  obtain ⟨o, es, ep, t, ho, hex, hd, _, hnd, hmem, hlt, hf, hn, _⟩ := hS
  have I2 : Inv X pins σ H1 { s1 with heap := h2, toks := tk } := I1.kept hk
  have hle : es.toList.map keyOf = es.toList.map keyOf := rfl
  have e1 : (es.toList.map keyOf).length = (dedup ns).length := by
    refine Nat.le_antisymm (len_le_of hnd fun k hk2 => ?_) (len_le_of (nodup_dedup ns) fun k hk2 => ?_)
    · exact mem_dedup.mpr (of_decide_eq_true ((hmem k).mpr hk2))
    · exact (hmem k).mp (decide_eq_true (mem_dedup.mp hk2))
  rw [List.length_map, Array.length_toList] at e1
  exact PySem.call_len_set ho hex hd hf (by have := hlt; unfold scanBound at this; omega) ⟨.int es.size, H1, I2.tok _, ⟨_, rfl⟩, by rw [e1]; exact q1⟩
end
end VL

set_option Elab.async false
set_option linter.all false
set_option maxRecDepth 100000
/-! VM: the value layer: sorted of a list of tuples of small ints. -/
namespace VL
open PySem L2
theorem dpAll_perm {K : PySem.W.Frag} {H : Hp} {us vs : List V} (h : us.Perm vs) : ∀ {ds : List PyData}, DqAll K H vs ds → ∃ es, es.Perm ds ∧ DqAll K H us es := by
  induction h with
  | nil => exact fun r => ⟨_, List.Perm.refl _, r⟩
  | cons x _ ih =>
    intro ds r
    cases r with
    | cons h1 t1 =>
      obtain ⟨es, p, q⟩ := ih t1
      exact ⟨_, p.cons _, .cons h1 q⟩
  | swap x y l =>
    intro ds r
    cases r with
    | cons h1 t1 =>
      cases t1 with
      | cons h2 t2 => exact ⟨_, List.Perm.swap _ _ _, .cons h2 (.cons h1 t2)⟩
  | trans _ _ ih1 ih2 =>
    intro ds r
    obtain ⟨es, p, q⟩ := ih2 r
    obtain ⟨fs, p2, q2⟩ := ih1 q
    exact ⟨fs, p2.trans p, q2⟩
def codeT (ns : List Int) : Int := TS.code 64 ns
def insT (x : List Int) : List (List Int) → List (List Int)
  | [] => [x]
  | y :: ys => if codeT x ≤ codeT y then x :: y :: ys else y :: insT x ys
def isortT : List (List Int) → List (List Int)
  | [] => []
  | x :: xs => insT x (isortT xs)
theorem insT_perm (x : List Int) : ∀ ys, (insT x ys).Perm (x :: ys)
  | [] => List.Perm.refl _
  | y :: ys => by
    unfold insT
    split
    · exact List.Perm.refl _
    · exact ((insT_perm x ys).cons y).trans (List.Perm.swap _ _ _)
theorem isortT_perm : ∀ xs, (isortT xs).Perm xs
  | [] => List.Perm.refl _
  | x :: xs => (insT_perm x _).trans ((isortT_perm xs).cons x)
theorem insT_sorted (x : List Int) : ∀ ys, ys.Pairwise (fun a b => codeT a ≤ codeT b) → (insT x ys).Pairwise (fun a b => codeT a ≤ codeT b)
  | [], _ => List.pairwise_singleton _ _
  | y :: ys, h => by
    unfold insT
    obtain ⟨h1, h2⟩ := List.pairwise_cons.mp h
    split
    · rename_i hc
      refine List.pairwise_cons.mpr ⟨fun z hz => ?_, h⟩
      rcases List.mem_cons.mp hz with e | e
      · rw [e]; exact hc
      · exact Int.le_trans hc (h1 z e)
    · rename_i hc
      refine List.pairwise_cons.mpr ⟨fun z hz => ?_, insT_sorted x ys h2⟩
      rcases List.mem_cons.mp ((insT_perm x ys).mem_iff.mp hz) with e | e
      · rw [e]; omega
      · exact h1 z e
theorem isortT_sorted : ∀ xs, (isortT xs).Pairwise (fun a b => codeT a ≤ codeT b)
  | [] => List.Pairwise.nil
  | x :: xs => insT_sorted x _ (isortT_sorted xs)
theorem sorted_same : ∀ {l m : List Int}, l.Perm m → l.Pairwise (· ≤ ·) → m.Pairwise (· ≤ ·) → l = m
  | [], m, p, _, _ => (List.Perm.nil_eq p)
  | a :: l, [], p, _, _ => absurd p.length_eq (by simp)
  | a :: l, b :: m, p, h1, h2 => by
    obtain ⟨a1, a2⟩ := List.pairwise_cons.mp h1
    obtain ⟨b1, b2⟩ := List.pairwise_cons.mp h2
    have e : a = b := by
      have hb : b ∈ a :: l := p.mem_iff.mpr List.mem_cons_self
      have ha : a ∈ b :: m := p.mem_iff.mp List.mem_cons_self
      rcases List.mem_cons.mp hb with q | q
      · exact q.symm
      · rcases List.mem_cons.mp ha with q2 | q2
        · exact q2
        · exact Int.le_antisymm (a1 b q) (b1 a q2)
    subst e
    rw [sorted_same (List.Perm.cons_inv p) a2 b2]
theorem code_inj : ∀ {r q : List Int}, r.length = q.length → TS.Bd 64 r → TS.Bd 64 q → codeT r = codeT q → r = q
  | [], [], _, _, _, _ => rfl
  | [], _ :: _, h, _, _, _ => by cases h
  | _ :: _, [], h, _, _, _ => by cases h
  | d :: r, e :: q, hl, hr, hq, h => by
    have hl2 : r.length = q.length := Nat.succ.inj hl
    have hr2 : TS.Bd 64 r := fun m hm => hr m (List.mem_cons_of_mem _ hm)
    have hq2 : TS.Bd 64 q := fun m hm => hq m (List.mem_cons_of_mem _ hm)
    have ed : d = e := by
      by_cases h1 : d < e
      · have := TS.code_lt hl2 hr2 hq2 h1
        unfold codeT at h
        omega
      · by_cases h2 : e < d
        · have := TS.code_lt hl2.symm hq2 hr2 h2
          unfold codeT at h
          omega
        · omega
    subst ed
    have n1 : ¬ codeT r < codeT q := fun z => by
      have := (TS.code_same (d := d) (B := 64) hl2).mpr z
      unfold codeT at h
      omega
    have n2 : ¬ codeT q < codeT r := fun z => by
      have := (TS.code_same (d := d) (B := 64) hl2.symm).mpr z
      unfold codeT at h
      omega
    rw [code_inj hl2 hr2 hq2 (by omega)]
theorem map_inj_on {f : List Int → Int} : ∀ {l m : List (List Int)}, (∀ a ∈ l, ∀ b ∈ m, f a = f b → a = b) → l.map f = m.map f → l = m
  | [], [], _, _ => rfl
  | [], _ :: _, _, h => by cases h
  | _ :: _, [], _, h => by cases h
  | a :: l, b :: m, i, h => by
    rw [List.map_cons, List.map_cons] at h
    obtain ⟨h1, h2⟩ := List.cons.inj h
    rw [i a List.mem_cons_self b List.mem_cons_self h1, map_inj_on (fun x hx y hy => i x (List.mem_cons_of_mem _ hx) y (List.mem_cons_of_mem _ hy)) h2]
/-- the data as tuples of ints -/
def intTups : List PyData → Option (List (List Int))
  | [] => some []
  | .tuple ds :: r => match allInts ds, intTups r with
    | some ns, some nss => some (ns :: nss)
    | _, _ => none
  | _ => none
def tupD (ns : List Int) : PyData := .tuple (ns.map PyData.int)
def okT (d : Nat) (ns : List Int) : Bool := ns.length == d && ns.all fun n => decide (0 ≤ n) && decide (n < 64)
theorem bd_of {d : Nat} {ns : List Int} (h : okT d ns = true) : ns.length = d ∧ TS.Bd 64 ns := by
  unfold okT at h
  rw [Bool.and_eq_true, beq_iff_eq, List.all_eq_true] at h
  refine ⟨h.1, fun m hm => ?_⟩
  have := h.2 m hm
  rw [Bool.and_eq_true, decide_eq_true_eq, decide_eq_true_eq] at this
  exact this
theorem allInts_eq : ∀ {ds : List PyData} {ns : List Int}, allInts ds = some ns → ds = ns.map PyData.int
  | [], _, e => by cases e; rfl
  | .int n :: ds, _, e => by
    unfold allInts at e
    split at e
    · rename_i ns2 e2
      cases e
      rw [allInts_eq e2]
      rfl
    · cases e
  | .none :: ds, _, e => by cases e
  | .bool _ :: ds, _, e => by cases e
  | .str _ :: ds, _, e => by cases e
  | .list _ :: ds, _, e => by cases e
  | .tuple _ :: ds, _, e => by cases e
  | .dict _ :: ds, _, e => by cases e
theorem intTups_eq : ∀ {ds : List PyData} {nss : List (List Int)}, intTups ds = some nss → ds = nss.map tupD
  | [], _, e => by cases e; rfl
  | .tuple es :: ds, _, e => by
    unfold intTups at e
    split at e
    · rename_i ns nss e1 e2
      cases e
      rw [intTups_eq e2, allInts_eq e1]
      rfl
    · cases e
  | .none :: ds, _, e => by cases e
  | .bool _ :: ds, _, e => by cases e
  | .int _ :: ds, _, e => by cases e
  | .str _ :: ds, _, e => by cases e
  | .list _ :: ds, _, e => by cases e
  | .dict _ :: ds, _, e => by cases e
def gSortT : PyData → EO
  | .list ds => match intTups ds with
    | some nss => if (decide (nss.length < 64) && nss.all (okT (nss.headD [0]).length) && decide (1 ≤ (nss.headD [0]).length)) = true then .ok (.list ((isortT nss).map tupD)) .new else .stuck
    | none => .stuck
  | _ => .stuck
theorem tupI_of {K : PySem.W.Frag} {F H : Hp} {v : V} {ns : List Int} (fh : Same F H) (h : Dq K F v (tupD ns)) : TupI K H v ns := by
  unfold tupD at h
  cases h with
  | tup hs ha =>
    have ev : ∀ (ns : List Int) (vs : List V), DqAll K F vs (ns.map PyData.int) → vs = ns.map V.int := by
      intro ns
      induction ns with
      | nil => intro vs h; cases h; rfl
      | cons n ns ih =>
        intro vs h
        cases h with
        | cons h1 t1 =>
          cases h1
          rw [ih _ t1]
          rfl
    have := ev ns _ ha
    subst this
    exact ⟨_, rfl, (hs.mono fh).sq⟩
theorem perm_map {α β : Type} {f : α → β} : ∀ {l : List β} {m : List α}, l.Perm (m.map f) → ∃ n : List α, n.Perm m ∧ l = n.map f := by
  intro l m h
  generalize hm : m.map f = k at h
  induction h generalizing m with
  | nil =>
    cases m with
    | nil => exact ⟨[], List.Perm.refl _, rfl⟩
    | cons _ _ => cases hm
  | cons x _ ih =>
    cases m with
    | nil => cases hm
    | cons a m =>
      obtain ⟨e1, e2⟩ := List.cons.inj hm
      obtain ⟨n, p, e⟩ := ih e2
      exact ⟨a :: n, p.cons a, by rw [e, List.map_cons, e1]⟩
  | swap x y l =>
    cases m with
    | nil => cases hm
    | cons a m =>
      cases m with
      | nil => cases (List.cons.inj hm).2
      | cons b m =>
        obtain ⟨e1, e2⟩ := List.cons.inj hm
        obtain ⟨e3, e4⟩ := List.cons.inj e2
        exact ⟨b :: a :: m, List.Perm.swap _ _ _, by rw [List.map_cons, List.map_cons, e1, e3, e4]⟩
  | trans _ _ ih1 ih2 =>
    obtain ⟨n, p, e⟩ := ih2 hm
    obtain ⟨n2, p2, e2⟩ := ih1 e.symm
    exact ⟨n2, p2.trans p, e2⟩
theorem dqAll_pair {K : PySem.W.Frag} {F : Hp} {R : V → V → Prop} {S : List Int → List Int → Prop} (i : ∀ x y n m, Dq K F x (tupD n) → Dq K F y (tupD m) → R x y → S n m) : ∀ {vs : List V} {mss : List (List Int)}, DqAll K F vs (mss.map tupD) → vs.Pairwise R → mss.Pairwise S
  | _, [], _, _ => List.Pairwise.nil
  | _, m :: mss, h, p => by
    rw [List.map_cons] at h
    cases h with
    | cons h1 t1 =>
      obtain ⟨p1, p2⟩ := List.pairwise_cons.mp p
      refine List.pairwise_cons.mpr ⟨fun n hn => ?_, dqAll_pair i t1 p2⟩
      obtain ⟨k, hk⟩ := List.mem_iff_getElem?.mp hn
      obtain ⟨v, hv, rv⟩ := dpAll_get t1 (i := k) (d := tupD n) (by rw [List.getElem?_map, hk]; rfl)
      exact i _ _ _ _ h1 rv (p1 v (List.mem_of_getElem? hv))
theorem g_sortT {K : PySem.W.Frag} : GC1 K (fun vs H Q => ∃ d, 1 ≤ d ∧ rSortU K d 64 vs H Q) gSortT := by
  intro ct W σ F H v d Q fh vv p
  unfold gSortT at p
  split at p
  · split at p
    · rename_i ds nss e
      split at p
      · rename_i hc
        rw [Bool.and_eq_true, Bool.and_eq_true, decide_eq_true_eq, decide_eq_true_eq, List.all_eq_true] at hc
        obtain ⟨⟨h64, hall⟩, h1⟩ := hc
        have ed := intTups_eq e
        subst ed
        obtain ⟨_, b, vs, rfl, hb, ra⟩ := vv
        have hlen := dpAll_len ra
        rw [List.length_map] at hlen
        refine ⟨_, h1, b, vs, rfl, SqL.of hb, by omega, fun x hx => ?_, fun ys q hp hs hq => ?_⟩
        · obtain ⟨i, hi⟩ := List.mem_iff_getElem?.mp hx
          obtain ⟨dx, hd, rx⟩ := dpAll_getV ra hi
          rw [List.getElem?_map] at hd
          cases hn : nss[i]? with
          | none => rw [hn] at hd; cases hd
          | some ns =>
            rw [hn] at hd
            cases hd
            exact ⟨ns, tupI_of fh rx, bd_of (hall ns (List.mem_of_getElem? hn))⟩
        · obtain ⟨es, pe, re⟩ := dpAll_perm hp ra
          obtain ⟨mss, pm, em⟩ := perm_map pe
          subst em
          have sm : mss.Pairwise (fun a b => codeT a ≤ codeT b) := dqAll_pair (fun x y n m hx hy r => r n m (tupI_of fh hx) (tupI_of fh hy)) re hs
          have same : mss = isortT nss := by
            refine map_inj_on (f := codeT) (fun a ha b hb h => ?_) (sorted_same ((pm.trans (isortT_perm nss).symm).map codeT) (List.pairwise_map.mpr sm) (List.pairwise_map.mpr (isortT_sorted nss)))
            obtain ⟨la, ba⟩ := bd_of (hall a (pm.mem_iff.mp ha))
            obtain ⟨lb, bb⟩ := bd_of (hall b ((isortT_perm nss).mem_iff.mp hb))
            exact code_inj (la.trans lb.symm) ba bb h
          rw [same] at re
          exact ok_newL fh re p hq
      · exact p.elim
    · exact p.elim
  · exact p.elim
section
variable {X : Cx} {ct : Nat → Addr} {W : WX} {a : Expr} {ma : Gm → EO} {pos p : Pos}
theorem cr_sortAny : CallR X (.builtin "sorted") (fun vs H Q => ∃ d, 1 ≤ d ∧ rSortU X.K d 64 vs H Q) := by
  intro pins s σ H vs us Q I r h
  obtain ⟨d, hd, h2⟩ := h
  exact cr_sortT hd pins s σ H vs us Q I r h2
theorem ee_sortT (hm : X.mg "sorted" = none) (ha : EE X ct W a ma) (hg : Gl X "sorted" := by rfl) (hs : starEach [a] X.env = (false, eval a X.env) :: starEach [] X.env := by rfl) : EE X ct W (.Call (.Name "sorted" p) [a] [] pos) (op1 gSortT ma) := ee_b1 cr_sortAny g_sortT hm (by decide +kernel) ha hg (hs := hs)
end
end VL

set_option Elab.async false
set_option linter.all false
set_option maxRecDepth 100000
/-! VN: the value layer: x[::-1] of a list or a tuple. -/
namespace VL
open PySem PySem.Spec PyProof.Rows L2
section
variable {prog : Program} {w : World} {A : Around} {E : Value → Shared → Prop} {s : Shared}
theorem applied_back {sl : Addr} {vs : Value} {n : Nat} {Q : Int × Int × Nat → Shared → Prop} (hs : s.heap.IsSliceOf sl .none .none vs) (ps : IsPart vs (some (-1))) (h : Q ((n : Int) - 1, -1, n) s) :
    wpAny (model prog w) A (Builtin.Slice.sliceApplied (.ref sl) (pure (n : Int))) Q E s := by
  obtain ⟨ob, hob, _, hfs⟩ := id hs
  unfold Builtin.Slice.sliceApplied Builtin.Slice.sliceFields
  refine wpAny_bind (wpAny_bind (wpAny_field hob hfs (x := Value.none) rfl (wpAny_bind (wpAny_field hob hfs (x := Value.none) rfl (wpAny_bind (wpAny_field hob hfs (x := vs) rfl (wpAny_pure ?_)))))))
  refine wpAny_bind (HT.slicePart_ ps ?_)
  show wpAny _ _ (if ((-1 : Int) == 0) = true then _ else _) _ _ s
  rw [if_neg (show ¬ (((-1 : Int) == 0) = true) by decide)]
  refine wpAny_bind (PyProof.Rows.slicePart_none (wpAny_bind (PyProof.Rows.slicePart_none (wpAny_bind (wpAny_pure ?_)))))
  show wpAny _ _ (pure ((n : Int) - 1, (-1 : Int), Builtin.Slice.slicePlaces ((n : Int) - 1) (-1) (-1))) _ _ s
  have e : Builtin.Slice.slicePlaces ((n : Int) - 1) (-1) (-1) = n := by
    unfold Builtin.Slice.slicePlaces
    have e1 : (-(-1 : Int)) = 1 := by decide
    rw [if_neg (show ¬ ((-1 : Int) > 0) by decide), e1, Int.ediv_one]
    split <;> omega
  rw [e]
  exact wpAny_pure h
theorem fm_congr {α β : Type} {f g : α → Option β} : ∀ {l : List α}, (∀ a ∈ l, f a = g a) → l.filterMap f = l.filterMap g
  | [], _ => rfl
  | a :: l, h => by
    rw [List.filterMap_cons, List.filterMap_cons, h a List.mem_cons_self, fm_congr fun b hb => h b (List.mem_cons_of_mem _ hb)]
theorem pick_back (xs : Array Value) : ((List.range xs.size).filterMap fun (m : Nat) => xs[(((xs.size : Nat) : Int) - 1 + (m : Int) * -1).toNat]?).toArray = xs.toList.reverse.toArray := by
  have e : (List.range xs.size).filterMap (fun (m : Nat) => xs[(((xs.size : Nat) : Int) - 1 + (m : Int) * -1).toNat]?) = ((List.range xs.size).map fun k => xs.size - 1 - k).filterMap (xs[·]?) := by
    rw [List.filterMap_map]
    refine fm_congr fun m hm => ?_
    have := List.mem_range.mp hm
    show xs[(((xs.size : Nat) : Int) - 1 + (m : Int) * -1).toNat]? = xs[xs.size - 1 - m]?
    have e2 : (((xs.size : Nat) : Int) - 1 + (m : Int) * -1).toNat = xs.size - 1 - m := by omega
    rw [e2]
  rw [e, PySem.W.krv_range, List.filterMap_reverse, PySem.W.krv_all]
theorem getItem_tuple_back {t sl : Addr} {items : Array Value} {vs : Value} {Q : Value → Shared → Prop} (ht : IsTup s.heap t items) (hs : s.heap.IsSliceOf sl .none .none vs) (ps : IsPart vs (some (-1)))
    (h : Q (.ref s.heap.objs.size) { s with heap := s.heap.push { cls := .type "tuple", data := .seq items.toList.reverse.toArray } }) (hsz : items.size ≤ sizeLine) : wpAny (model prog w) A (getItem (.ref t) (.ref sl)) Q E s := by
  have hk : sizeOk (.seq items.toList.reverse.toArray) := by
    show items.toList.reverse.toArray.size ≤ sizeLine
    rw [List.size_toArray, List.length_reverse, Array.length_toList]
    exact hsz
  obtain ⟨ob, hob, hcl, hfs⟩ := id hs
  have hT : s.TypeIs (.ref sl) "slice" := ⟨ob, hob, hcl⟩
  unfold getItem
  try with_reducible refine wpAny_holding ?_
  first
    | refine wpAny_bind (wpAny_pure ?_)
    | skip
  refine wpAny_bind (wpAny_sequenceKey ht.typeIs (by decide) ?_)
  refine wpAny_bind (wpAny_callSpecial?_slot (name := Str.ofString "__getitem__") ht.typeIs PyProof.Rows.slot_tuple_getitem (wpAny_call_entry PyProof.Rows.slot_tuple_getitem ht.typeIs PyProof.Rows.entry_tuple_getitem ?_ (PyProof.Rows.args_tuple_getitem _ _)))
  show wpAny _ _ (Builtin.Tuple.tupleItemsOf (.ref t) >>= _) _ _ s
  refine wpAny_bind (PyProof.Rows.tupleItemsOf_ ht (wpAny_bind (wpAny_typeOf hT ?_)))
  rw [if_pos (by decide)]
  refine wpAny_bind (applied_back hs ps ?_)
  show wpAny _ _ (if ((((items.size : Nat) : Int) - 1) == 0 && (-1 : Int) == 1 && items.size == items.size) = true then _ else _) _ _ s
  rw [if_neg (show ¬ (((((items.size : Nat) : Int) - 1) == 0 && (-1 : Int) == 1 && items.size == items.size) = true) by rw [show ((-1 : Int) == 1) = false by decide, Bool.and_false, Bool.false_and]; exact Bool.false_ne_true), pick_back]
  first
    | exact wpAny_bind (m := Builtin.Tuple.tupleExact _) (wpAny_newObj_type (wpAny_pure ⟨_, rfl, wpAny_pure h⟩) hk)
    | exact wpAny_bind (m := Builtin.Tuple.tupleExact _) (wpAny_newObj_type (wpAny_bind (wpAny_pure (wpAny_pure ⟨_, rfl, wpAny_pure h⟩))) hk)
    | exact wpAny_bind (wpAny_bind (m := Builtin.Tuple.tupleExact _) (wpAny_newObj_type (wpAny_pure (wpAny_pure ⟨_, rfl, wpAny_pure h⟩)) hk))
    | exact wpAny_bind (wpAny_bind (m := Builtin.Tuple.tupleExact _) (wpAny_newObj_type (wpAny_pure ⟨_, rfl, wpAny_pure h⟩) hk))
end
def gRev : PyData → EO
  | .list ds => .ok (.list ds.reverse) .new
  | .tuple ds => .ok (.tuple ds.reverse) .frz
  | _ => .stuck
theorem vals_rev : ∀ {xs : List V} {us : List Value}, Vals xs us → Vals xs.reverse us.reverse
  | _, _, .nil => .nil
  | _, _, .cons r t => by
    rw [List.reverse_cons, List.reverse_cons]
    exact (vals_rev t).append (.cons r .nil)
section
variable {X : Cx} {ct : Nat → Addr} {W : WX} {e : Expr} {me : Gm → EO} {pos p1 p2 p3 : Pos} {k : Nat}
theorem ee_rev (he : EE X ct W e me) : EE X ct W (.Subscript e (.Slice none none (some (.UnaryOp .USub (.Constant (.int 1) k p1) p2)) p3) pos) (op1 gRev me) := by
  refine ⟨fun pins s σ H Q I h => ?_⟩
  have h1 := tM_mono (tM_view (k := fun _ d => gRev d) h) (Q2 := fun v H1 => ∃ a xs, v = .ref a ∧ ((SqL X.K H1 a xs ∧ ∀ p, H1 p = none → Q (.ref p) (upd H1 p (.lst xs.reverse))) ∨ (SqT X.K H1 a xs ∧ ∀ p o, TpO o xs.reverse → H1 p = none → Q (.ref p) (upd H1 p o)))) fun v H1 ⟨F0, H0, F1, G, d, rp, vv, q⟩ => by
    unfold gRev at q
    split at q
    · obtain ⟨_, b, vs, rfl, hb, ra⟩ := vv
      exact ⟨b, vs, rfl, .inl ⟨SqL.of hb, fun p hp => ok_newL rp.fh (dpAll_rev ra) q hp⟩⟩
    · obtain ⟨_, b, vs, rfl, hb, ra⟩ := vv
      exact ⟨b, vs, rfl, .inr ⟨(hb.mono rp.fh).sq, fun p o to hp => ok_newT rp.fh (dpAll_rev ra) q to hp⟩⟩
    · exact q.elim
  refine PyProof.Rows.Subscript_ (thn (he.run pins s σ H _ I h1) fun v s1 ⟨x, H1, I1, r1, q1⟩ => ?_)
  obtain ⟨a, xs, ex, hx⟩ := q1
  subst ex
  cases r1
  have hst : PO X (some (.UnaryOp .USub (.Constant (.int 1) k p1) p2)) (tPart (tUn (rU fun i => .int (-i)) (tC (.int 1)))) := po_some (pe_un un_neg pe_int)
  have hno : ∀ (s1 : Shared) (H1 : Hp), Inv X pins σ H1 s1 → wpAny (model X.prog X.w) X.A (evalPart none X.env) (fun u s' => u = .none ∧ s' = s1) X.xe s1 := fun s1 H1 I1 => by
    rw [evalPart_none]
    exact wpAny_pure ⟨rfl, rfl⟩
  refine wpAny_Slice (thn (hno s1 H1 I1) fun vl s2 ⟨el, e2⟩ => ?_)
  subst el e2
  refine thn (hno _ H1 I1) fun vu s3 ⟨eu, e3⟩ => ?_
  subst eu e3
  refine thn (hst.run pins _ σ H1 (fun o H4 => o = some (-1) ∧ H4 = H1) I1 ⟨1, rfl, -1, rfl, rfl, rfl⟩) fun vs s4 ⟨o, H4, I4, ps, eo, e4⟩ => ?_
  subst eo e4
  have I5 : Inv X pins σ H4 { s4 with heap := s4.heap.push { cls := .type "slice", data := .fields #[.none, .none, vs] } } := I4.kept (t' := s4.toks) fun b ob q => Heap.get?_push_of_some _ q
  show wpAny (model X.prog X.w) X.A (subscriptTail e (.Slice none none (some (.UnaryOp .USub (.Constant (.int 1) k p1) p2)) p3) (.ref a) (.ref s4.heap.objs.size)) (EP X pins σ Q) X.xe { s4 with heap := s4.heap.push { cls := .type "slice", data := .fields #[.none, .none, vs] } }
  rcases hx with ⟨hx, q⟩ | ⟨hx, q⟩
  · obtain ⟨its, r, ht, hz⟩ := I5.list hx
    have hlen := r.length
    refine PyProof.Rows.tail_any (ops := [.ref a, .ref s4.heap.objs.size]) ht.isList.typeIs PySem.slot_list_getitem.lookup (wpAny_getItem_list_slice ht.isList (Heap.IsSliceOf.new _ Value.none Value.none vs) .none .none ps (by decide) ?_ (by rw [List.size_toArray]; omega)) (by with_unfolding_all rfl)
    rw [PySem.W.krv_pick]
    exact ⟨.ref _, _, I5.laid (t' := s4.toks) (o := .lst xs.reverse) (fun b ob q => Heap.get?_push_of_some _ q) (Nat.le_refl _) ⟨by rw [List.length_reverse]; exact hz, _, 0, vals_rev r, Heap.get?_push_size _ rfl⟩, rfl, q _ (I5.hok.fresh (Nat.le_refl _))⟩
  · obtain ⟨its, r, ht, hz⟩ := I5.tuple hx
    have hlen := r.length
    refine PyProof.Rows.tail_any (ops := [.ref a, .ref s4.heap.objs.size]) ht.typeIs PyProof.Rows.slot_tuple_getitem.lookup (getItem_tuple_back ht (Heap.IsSliceOf.new _ Value.none Value.none vs) ps ?_ (by rw [List.size_toArray]; omega)) (by with_unfolding_all rfl)
    obtain ⟨o, to, ok⟩ := objT (P := X.prog) (w := X.w) (h := (s4.heap.push { cls := .type "slice", data := .fields #[.none, .none, vs] }).push { cls := .type "tuple", data := .seq its.toArray.toList.reverse.toArray }) (xs := xs.reverse) (Heap.get?_push_size _ rfl) rfl fun H => ⟨by rw [List.length_reverse]; exact hz, its.reverse, vals_rev r, ⟨_, Heap.get?_push_size _ rfl, rfl, _, rfl⟩⟩
    exact ⟨.ref _, _, I5.laid (t' := s4.toks) (o := o) (fun b ob q => Heap.get?_push_of_some _ q) (Nat.le_refl _) (ok _), rfl, q _ o to (I5.hok.fresh (Nat.le_refl _))⟩
end
end VL

set_option Elab.async false
set_option linter.all false
set_option maxRecDepth 100000
/-! VO: the value layer: popped values used, several targets, calls by their table. -/
namespace VL
open PySem L2
section
variable {X : Cx} {ct : Nat → Addr} {W : WX} {a b c e : Expr} {ma mb mc me : Gm → EO} {pos p2 : Pos} {x y : Str} {i j : Nat} {px py apos : Pos} {mx : Gm → XO}
theorem postX_mono {K : PySem.W.Frag} {F0 H0 F H : Hp} {σ : St} {Q Q2 : VK} {o : XO} (h : postX K ct W F0 H0 σ F H Q o) (q : ∀ v H1, Q v H1 → Q2 v H1) : postX K ct W F0 H0 σ F H Q2 o := by
  cases o with
  | ok d G2 => exact fun v F2 H2 s r rv => q _ _ (h v F2 H2 s r rv)
  | exc c pl => exact h
  | stuck => exact h
def XO.bindS (G : Gm) (o : XO) (k : PyData → Gm → SO) : SO := match o with
  | .ok d G2 => k d G2
  | .exc c pl => .exc c pl G
  | .stuck => .stuck
theorem postX_S {K : PySem.W.Frag} {F0 H0 F H : Hp} {G : Gm} {σ : St} {D : Ends} {o : XO} {k : PyData → Gm → SO} (r : Rep K F0 H0 F H G σ) (p : postS K ct W F0 H0 D F (o.bindS G k)) :
    postX K ct W F0 H0 σ F H (fun v H1 => ∃ d G2 F1, Same F F1 ∧ Dq K F1 v d ∧ Rep K F0 H0 F1 H1 G2 σ ∧ postS K ct W F0 H0 D F1 (k d G2)) o := by
  cases o with
  | ok d G2 => exact fun v F1 H1 s r1 q => ⟨d, G2, F1, s, q, r1, postS_same (o := k d G2) p s⟩
  | exc c pl => exact fun cls dd F1 H1 x q => p cls dd σ F1 H1 x.ff (r.ext x) q
  | stuck => exact p
def appXS (j : Nat) (mx : Gm → XO) : Gm → SO := fun G => match G[j]? with
  | some (some (.own _)) => (mx G).bindS G fun d G2 => match G2[j]? with
    | some (some (.own ds)) => if ds.length < big then .next (G2.set j (some (.own (ds ++ [d])))) else .stuck
    | _ => .stuck
  | _ => .stuck
theorem es_appendX (he : EX X ct W e mx) (hj : X.N[j]? = some x := by rfl) (hv : Vis X.env.scope x := by first | exact Or.inl rfl | exact Or.inr (Or.inl rfl)) (hd : (x == ("__debug__" : Str)) = false := by decide) (hcd : (x == ("__classdict__" : Str)) = false := by decide)
    (hs1 : starEach [e] X.env = (false, eval e X.env) :: starEach [] X.env := by rfl) (hline : (apos.endLine == p2.line) = true := by rfl) :
    ES X ct W (.Expr (.Call (.Attribute (.Name x px) "append" apos) [e] [] p2) pos) (appXS j mx) :=
  ps_imp (ps_expr (pe_bm PySem.F.plainAttrs_list PySem.F.slot_list_append PySem.F.type_list_append mt_append (pe_var hj hv hd hcd) (pa_cons he pa_nil hs1) (hline := hline) (hs := hs1) (hfew := by rw [hs1] <;> rfl))) fun D σ H ⟨F0, H0, F, G, r, p⟩ => by
    unfold appXS at p
    split at p
    · rename_i ds0 e
      obtain ⟨v, hv, q, vs, rfl, h0, hf, hp, ha⟩ := r.slot j _ e
      refine ⟨_, hv, .inl ⟨rfl, vs, SqL.of hp⟩, F0, H0, F, G, r, postX_mono (postX_S (k := fun d G2 => match G2[j]? with
        | some (some (.own ds)) => if ds.length < big then .next (G2.set j (some (.own (ds ++ [d])))) else .stuck
        | _ => .stuck) r p) fun y H1 ⟨d, G2, F1, s1, ry, r1, p1⟩ => ?_⟩
      split at p1
      · rename_i ds e2
        split at p1
        · rename_i hz
          obtain ⟨v2, hv2, q2, vs2, e3, h02, hf2, hp2, ha2⟩ := r1.slot j _ e2
          rw [hv] at hv2
          cases hv2
          cases e3
          exact ⟨q, vs2, y, rfl, rfl, hp2, by rw [dpAll_len ha2]; exact big_lt hz, p1 σ F1 _ (Same.refl _) (r1.mut e2 hv (dpAll_app ha2 (.cons ry .nil)))⟩
        · exact p1.elim
      · exact p1.elim
    · exact p.elim
def asgXS (i : Nat) (mx : Gm → XO) : Gm → SO := fun G => (mx G).bindS G fun d G2 => .next (G2.set i (some (.dat d)))
theorem es_asgX (he : EX X ct W e mx) (hN : X.N.Nodup) (hi : X.N[i]? = some x := by rfl) (hx : Loc X.env.scope x := by first | exact Or.inl rfl | exact Or.inr rfl) (hs : swapsWith e (some (.Name x px)) pos.line X.env = pure false := by rfl)
    (hf : X.fn x = true ∨ X.env.scope.names.lookup x = some .local := by first | exact .inl rfl | exact .inr rfl) : ES X ct W (.Assign [.Name x px] e pos) (asgXS i mx) :=
  ps_imp (ps_set hN hi hx he hs hf) fun D σ H ⟨F0, H0, F, G, r, p⟩ => ⟨F0, H0, F, G, r, postX_mono (postX_S (k := fun d G2 => .next (G2.set i (some (.dat d)))) r p) fun v H1 ⟨d, G2, F1, s1, q, r1, p1⟩ => p1 _ F1 H1 (Same.refl _) (r1.dat i q)⟩
/-- f(x.pop()) -/
def callX (f : List PyData → FO) (mx : Gm → XO) : Gm → XO := fun G => match mx G with
  | .ok d G2 => match f [d] with
    | .ok z => .ok z G2
    | .exc _ _ => .stuck
    | .stuck => .stuck
  | .exc c pl => .exc c pl
  | .stuck => .stuck
def iterX (mx : Gm → XO) : Gm → IO := fun G => match mx G with
  | .ok (.list ds) G2 => .ok ds G2
  | .ok _ _ => .stuck
  | .exc c pl => .exc c pl
  | .stuck => .stuck
theorem ei_listX {tg : Expr} (ha : EX X ct W a mx) : EI X ct W tg a (iterX mx) :=
  pi_imp (pi_list ha) fun σ H R ⟨F0, H0, F, G, r, p⟩ => by
    refine ⟨F0, H0, F, G, r, ?_⟩
    unfold iterX at p
    revert p
    cases mx G with
    | ok d G2 =>
      cases d with
      | list ds =>
        intro p v F1 H1 s1 r1 q
        cases q with
        | lst hs ha => exact ⟨_, rfl, ⟨_, SqL.of (r1.fh _ _ hs)⟩, p (Itl X.K _) F1 H1 s1 r1 (it_list hs ha)⟩
      | none => exact fun p => p.elim
      | bool b => exact fun p => p.elim
      | int i => exact fun p => p.elim
      | str y => exact fun p => p.elim
      | tuple ds => exact fun p => p.elim
      | dict ds => exact fun p => p.elim
    | exc c pl => exact fun p => p
    | stuck => exact fun p => p.elim
/-- a, b = e -/
def asg2S (i j : Nat) (me : Gm → EO) : Gm → SO := fun G => (me G).bindS G fun d _ => match d with
  | .tuple [u, v] => .next ((G.set i (some (.dat u))).set j (some (.dat v)))
  | _ => .stuck
theorem es_asg2 {n : Nat} {pt : Pos} (hc : X.calm = true) (he : EE X ct W e me) (hN : X.N.Nodup) (hi : X.N[i]? = some x := by rfl) (hx : Loc X.env.scope x := by first | exact Or.inl rfl | exact Or.inr rfl) (hf : X.fn x = true ∨ X.env.scope.names.lookup x = some .local := by first | exact .inl rfl | exact .inr rfl)
    (hj : X.N[j]? = some y := by rfl) (hy : Loc X.env.scope y := by first | exact Or.inl rfl | exact Or.inr rfl) (hg : X.fn y = true ∨ X.env.scope.names.lookup y = some .local := by first | exact .inl rfl | exact .inr rfl)
    (hs : swapsWithSole [.Tuple [.Name x px, .Name y py] n pt] e pos.line X.env = pure false := by rfl) (hw : swappedStores [.Tuple [.Name x px, .Name y py] n pt] e X.env = pure none := by rfl) :
    ES X ct W (.Assign [.Tuple [.Name x px, .Name y py] n pt] e pos) (asg2S i j me) :=
  ps_imp (ps_asg he (pg_tup (n := 2) hc (pgs_cons (pg_name hN hi hx hf) (pgs_cons (pg_name hN hj hy hg) pgs_nil))) hs hw) fun D σ H ⟨F0, H0, F, G, r, p⟩ => by
    refine ⟨F0, H0, F, G, r, post_mono (post_S (k := fun d _ => match d with
      | .tuple [u, v] => .next ((G.set i (some (.dat u))).set j (some (.dat v)))
      | _ => .stuck) r p) fun v H1 ⟨d, w, F1, x1, q, r1, p1⟩ => ?_⟩
    split at p1
    · obtain ⟨_, b, vs, rfl, hb, ra⟩ := VV.of x1.fh q
      cases ra with
      | cons h1 t1 =>
        cases t1 with
        | cons h2 t2 =>
          cases t2
          exact ⟨_, _, rfl, (hb.mono x1.fh).sq, rfl, _, _, rfl, _, _, rfl, rfl, p1 _ F1 H1 (Same.refl _) ((r1.dat i h1).dat j h2)⟩
    · exact p1.elim
/-- a, b = e1, e2; both frozen -/
def parS (i j : Nat) (ms : Gm → AO) : Gm → SO := fun G => match ms G with
  | .ok [u, v] => .next ((G.set i (some (.dat u))).set j (some (.dat v)))
  | .ok _ => .stuck
  | .exc c pl => .exc c pl G
  | .stuck => .stuck
theorem es_par {ms : Gm → AO} {px py pt : Pos} {kt k2 : Nat} {pt2 : Pos} (hc : X.calm = true) (hN : X.N.Nodup) (ha : EA X ct W [a, b] ms) (hij : i ≠ j) (hi : X.N[i]? = some x := by rfl) (hj : X.N[j]? = some y := by rfl)
    (hx : X.env.scope.names.lookup x = some .local := by rfl) (hy : X.env.scope.names.lookup y = some .local := by rfl)
    (hw : swappedStores [.Tuple [.Name x px, .Name y py] kt pt] (.Tuple [a, b] k2 pt2) X.env = pure (some [x, y]) := by rfl)
    (hs : swapsWithSole [.Tuple [.Name x px, .Name y py] kt pt] (.Tuple [a, b] k2 pt2) pos.line X.env = pure false := by rfl) :
    ES X ct W (.Assign [.Tuple [.Name x px, .Name y py] kt pt] (.Tuple [a, b] k2 pt2) pos) (parS i j ms) :=
  ps_imp (ps_par hc hN hi hj hij hx hy ha hw hs) fun D σ H ⟨F0, H0, F, G, r, p⟩ => by
    refine ⟨F0, H0, F, G, r, ?_⟩
    unfold parS at p
    revert p
    cases ms G with
    | exc c pl => exact fun p cls dd F1 H1 x1 q => p cls dd σ F1 H1 x1.ff (r.ext x1) q
    | stuck => exact fun p => p
    | ok ds =>
      intro p vs F1 H1 x1 q
      cases q with
      | nil => exact p.elim
      | cons h1 t1 =>
        cases t1 with
        | nil => exact p.elim
        | cons h2 t2 =>
          cases t2 with
          | nil => exact ⟨_, _, rfl, p _ F1 H1 x1.ff (((r.ext x1).dat i h1).dat j h2)⟩
          | cons _ _ => exact p.elim
end
/-! ### a def by its name -/
structure CallT (P : Program) (w : World) (K : PySem.W.Frag) (mg : Str → Option Value) (base : Heap) (ct : Nat → Addr) (x : Str) (k : Nat) (fm : List PyData → FO) : Prop where
  ex : ∃ (f : Addr) (fd : FuncData) (ps : List Str), mg x = some (.ref f) ∧ PySem.W.keepIn K (.ref f) = true ∧ Binds K fd ps [] ∧ FnOk P w K mg base (L2.CX P w) k f fd ps (spM K ct fm)
section
variable {X : Cx} {ct : Nat → Addr} {W : WX} {e : Expr} {es : List Expr} {ms : Gm → AO} {pos p : Pos} {x : Str} {k j : Nat} {fm : List PyData → FO} {mx : Gm → XO}
theorem ee_fn (C : CallT X.prog X.w X.K X.mg X.base ct x j fm) (hr : Room k X.A) (tk : Takes X W) (ha : EA X ct W (e :: es) ms) (hjk : j ≤ k := by decide)
    (hg : Gl X x := by rfl) (hdb : (x == ("__debug__" : Str)) = false := by decide) (he : starEach (e :: es) X.env = (false, eval e X.env) :: starEach es X.env := by rfl) (hpl : (backTo pos (starEach es X.env)).any (·.1) = false := by rfl) :
    EE X ct W (.Call (.Name x p) (e :: es) [] pos) (callE fm ms) := by
  obtain ⟨f, fd, ps, hm, hk, hb, F⟩ := C.ex
  exact ee_call F hr hjk hm hk hb tk ha hg hdb he hpl
theorem ex_fn (C : CallT X.prog X.w X.K X.mg X.base ct x j fm) (hr : Room k X.A) (tk : Takes X W) (ha : EX X ct W e mx) (hjk : j ≤ k := by decide)
    (hg : Gl X x := by rfl) (hdb : (x == ("__debug__" : Str)) = false := by decide) (he : starEach [e] X.env = (false, eval e X.env) :: starEach [] X.env := by rfl) (hpl : (backTo pos (starEach [] X.env)).any (·.1) = false := by rfl) :
    EX X ct W (.Call (.Name x p) [e] [] pos) (callX fm mx) := by
  obtain ⟨f, fd, ps, hm, hk, hb, F⟩ := C.ex
  refine pe_imp (pe_callS F (hr.mono hjk) hg hm hk hb (fun σ => passAt tk σ) (pa_cons ha pa_nil he) hdb he hpl) fun σ H Q ⟨F0, H0, F, G, r, p⟩ => ?_
  refine ⟨F0, H0, F, G, r, ?_⟩
  unfold callX at p
  revert p
  cases mx G with
  | exc c pl => exact fun p => p
  | stuck => exact fun p => p
  | ok d G2 =>
    intro p v F1 H1 s1 r1 q
    refine ⟨F1, [d], r1.fh, .cons q .nil, ?_⟩
    simp only at p
    revert p
    cases fm [d] with
    | ok z => exact fun p u F2 H2 x2 q2 => p u F2 H2 (s1.trans x2.ff) (r1.ext x2) q2
    | exc c pl => exact fun p => p.elim
    | stuck => exact fun p => p.elim
end
end VL

set_option Elab.async false
set_option linter.all false
set_option maxRecDepth 100000
/-! VP: the value layer: the end of a law. -/
namespace VL
open PySem L2
/-- the script as data -/
def scrD (ns : List Int) : PyData := .dict (ns.map fun n => (.int n, .none))
def spLaw (K : PySem.W.Frag) : Sp := fun vs H Q _ => ∃ (a : Addr) (ns : List Int), vs = [.ref a] ∧ SqL K H a (ns.map V.int) ∧ ns.length ≤ 63 ∧ ∀ H2, Q (.bl true) H2
theorem law_fn {P : Program} {w : World} {K : PySem.W.Frag} {mg : Str → Option Value} {base : Heap} {ct : Nat → Addr} {k : Nat} {f : Addr} {fd : FuncData} {ps : List Str} {fm : List PyData → FO}
    (F : FnOk P w K mg base (L2.CX P w) k f fd ps (spM K ct fm)) (h : ∀ ns : List Int, ns.length ≤ 63 → fm [scrD ns] = .ok (.bool true)) : FnOk P w K mg base (L2.CX P w) k f fd ps (spLaw K) :=
  F.imp fun vs H Q E ⟨a, ns, e, hs, hl, q⟩ => by
    subst e
    refine ⟨H, [scrD ns], Same.refl H, .cons (.scr hs) .nil, ?_⟩
    rw [h ns hl]
    intro v F2 H2 x r
    cases r
    exact q H2
def ctOf (l : List Addr) : Nat → Addr := fun n => l.getD n 0
theorem walk_end {l : PySem.W.OpenLaw} {q : Program} {loose : List Str} {XP : (Str → Option Value) → Heap → Prop} {YP : World → Heap → Prop} {d : DefRec} {K : Params → PySem.W.Frag} (k : Nat) (hn : l.most = some 63) (hdf : d.params.defaults = []) (hr : Room k callerA)
    (hY : ∀ (w : World) (h : Heap), YP w h → (K w.params).In h)
    (F : ∀ (w : World) (mg : Str → Option Value) (fa : Addr) (h : Heap), (K w.params).In h → h.Ns mainGlobals mg → mg d.name = some (.ref fa) →
      ∃ fd : FuncData, (∀ (s : Shared) (u : Value), BindsTo s fd ⟨[u], []⟩ [("script", u)]) ∧ ∀ base : Heap, (K w.params).In base → base.Ns mainGlobals mg → FnOk l.prog w (K w.params) mg base (L2.CX l.prog w) k fa fd ["script"] (spLaw (K w.params))) :
    PySem.W.WalkO q loose XP YP l.row.toRowW d [] (fun f vs => PySem.call f vs) :=
  L2.walk_of (n := 63) (k := k) (x := "script") (CX := fun w => L2.CX l.prog w) (sp := fun w => spLaw (K w.params)) hn (by decide) hdf hr hY F (fun _ _ a ns hl _ hS => ⟨a, ns, rfl, hS, hl, fun _ => rfl⟩) fun w H s e s2 h => by
    obtain ⟨_, _, _, _, _, _, _, _, _, _, _, _, z⟩ := h
    exact z
end VL

set_option Elab.async false
set_option linter.all false
set_option maxRecDepth 100000
/-! VQ: try, with several clauses that name what they catch. -/
namespace VL
open PySem PySem.Spec PyProof.Rows L2
/-- the ends within a clause that names slot i -/
def endsAs (i : Nat) (D : Ends) : Ends := { nx := fun τ J => D.nx (τ.set i none) J, rt := D.rt, bk := fun τ J => D.bk (τ.set i none) J, ct := fun τ J => D.ct (τ.set i none) J }
abbrev Cl := Value × (Addr → Value → Option Addr → TS)
/-- what the clauses wish of what flies out of the body -/
def wClauses (K : PySem.W.Frag) (i : Nat) (Wo : WX) (D : Ends) : List Cl → WX
  | [] => Wo
  | q :: qs => fun cls d τ J => ∃ yes, PySem.W.exmOne K cls q.1 = some yes ∧ (yes = true → ∀ a, J a = none → q.2 a cls d (endsAs i D) (τ.set i (some (.ref a))) J) ∧ (yes = false → wClauses K i Wo D qs cls d τ J)
inductive Clauses (X : Cx) (n : Str) : List ExceptHandler → List Cl → Prop
  | nil : Clauses X n [] []
  | cons {x : Str} {c : Value} {ts : Addr → Value → Option Addr → TS} {st : Stmt} {sts : List Stmt} {np hp : Pos} {hds : List ExceptHandler} {l : List Cl} (nm : Names X x c)
      (su : ∀ (a : Addr) (oe : Obj) (cls : Value) (d : Option Addr) (pn : List (Addr × Obj)), Zc cls d oe → (∃ fs, oe.data = .fields fs) → PSs (X.suite a ((a, oe) :: pn)) (st :: sts) (ts a cls d))
      (more : Clauses X n hds l) : Clauses X n (.ExceptHandler (some (.Name x np)) (some n) (st :: sts) hp :: hds) ((c, ts) :: l)
section
variable {X : Cx} {n : Str} {i : Nat} {body : List Stmt} {hd : ExceptHandler} {hds : List ExceptHandler} {l : List Cl} {pos : Pos} {tb : WX → TS} {Wo : WX}
theorem ps_try_clauses (hst : X.stack = X.env :: X.outer) (hfl : X.env.frame = some X.env.locals) (nd : X.N.Nodup) (at_i : X.N[i]? = some n) (loc : X.env.kindOf n = some .local) (tk : L2.Takes X Wo)
    (hb : ∀ (W : WX) (pn : List (Addr × Obj)) (xe : Value → Shared → Prop), L2.Takes (X.tr pn xe) W → PassesOwn (model X.prog X.w) X.A X.env xe → PSs (X.tr pn xe) body (tb W))
    (hc : Clauses X n (hd :: hds) l) : PS X (.Try body (hd :: hds) [] [] pos) (fun D σ H => tb (wClauses X.K i Wo D l) D σ H) := by
  constructor
  intro pins s σ H D inv asked
  have fine := inv.ok
  have frames : X.A.frames = some (X.env :: X.outer) := fine.frames.trans (congrArg some hst)
  refine wpAny_Try_except (wpAny_mono ((hb (wClauses X.K i Wo D l) (X.pn ++ pins)
    (fun x s₁ => wpAny (model X.prog X.w) X.A (noteFrame x X.env) (fun _ s₂ => wpAny (model X.prog X.w) X.A (setFlight x none) (fun _ s₃ => wpAny (model X.prog X.w) X.A (handleBy x X.env (hd :: hds)) (SP X pins D) X.xe s₃) X.xe s₂) X.xe s₁)
    (fun u t fly => ?_) PassesOwn.looking).run [] s σ H D (inv.toTry _) asked) (fun f t out => ?_) (fun _ _ z => z))
  · obtain ⟨a, B, t0, pins2, τ, J, cls, d, rfl, inv2, kept, up, sky, fresh, os, bare, wish⟩ := fly
    have inv1 : Inv X pins τ J t0 := inv2.ofTry fine
    rw [hst] at sky
    refine Sky.land Zc.steady frames hfl sky fun h1 fl1 up1 => ?_
    have here : Inv X pins τ J { t with heap := h1 } := inv1.landed kept fl1.1 (up.trans up1) os bare
    obtain ⟨oe, vs, got, zc, flds⟩ := fl1.there
    have off : a ∉ frs (X.env :: X.outer) := fun hm => by
      obtain ⟨_, o2, g2, nf⟩ := (fl1.2.2.1).mem hm
      rw [got] at g2
      cases g2
      exact nf _ flds
    have offL : a ≠ X.env.locals := fun z => off (List.mem_filterMap.mpr ⟨X.env, List.mem_cons_self, by rw [hfl, z]⟩)
    have offF : a ∉ X.fs := fun hm => by
      obtain ⟨e, he, q⟩ := List.mem_filterMap.mp hm
      exact off (List.mem_filterMap.mpr ⟨e, List.mem_cons_of_mem _ he, q⟩)
    have held := here.suite got flds fresh offL offF
    have all : ∀ {hs2 : List ExceptHandler} {l2 : List Cl}, Clauses X n hs2 l2 → wClauses X.K i Wo D l2 cls d τ J → wpAny (model X.prog X.w) X.A (handleBy (.ref a) X.env hs2) (SP X pins D) X.xe { t with heap := h1 } := by
      intro hs2 l2 cl
      induction cl with
      | nil =>
        intro w
        refine wpAny_handleBy_nil ?_
        obtain ⟨_, _, _, o1, f1, T, oT, ts1, g1, _, d1, e1, _⟩ := id fl1
        unfold PySem.passOn
        refine wpAny_bind (wpAny_field g1 d1 e1 ?_)
        rw [if_neg (by simp)]
        have last : wpAny (model X.prog X.w) X.A (setFlight (.ref a) X.env.frame) (fun _ s4 => wpAny (model X.prog X.w) X.A (throw (.ref a) : Sem Flow) (SP X pins D) X.xe s4) X.xe { t with heap := h1 } := by
          rw [hfl]
          refine HandSPX.setFlight_upZ fl1 fun h2 fl2 up2 => wpAny_throw (tk _ _ ⟨a, B, t0, pins, τ, J, cls, d, rfl, inv1, kept, (up.trans up1).trans up2, .inr (.inr ?_), fresh, os, bare, w⟩)
          rw [hst]
          exact fl2
        first
          | exact wpAny_bind (wpAny_pure (wpAny_bind last))
          | exact wpAny_bind last
      | @cons x c ts st sts np hp hds2 l2 nm su more ih =>
        rintro ⟨yes, is, y1, y0⟩
        refine wpAny_handleBy_cons (codeAny_handlers_test ?_) (by intro q; cases q)
        have ty : PySem.W.Looks (model X.prog X.w) h1 (typeOf (.ref a)) cls := fun A Q E s k q => wpAny_typeOf_ref (k _ _ got) (zc.1 ▸ q)
        have named : ∀ {Q E : Value → Shared → Prop}, Q c { t with heap := h1 } → wpAny (model X.prog X.w) (X.A.mark (some (.ref a))) (eval (.Name x np) X.env) Q E { t with heap := h1 } := fun {Q E} q => by
          obtain ⟨g, db, m | ⟨m, bv, nn⟩⟩ := nm
          · exact ld_glob (X := X.suite a ((a, oe) :: (X.pn ++ pins))) held g m q db
          · exact ld_blt (X := X.suite a ((a, oe) :: (X.pn ++ pins))) held g m bv q nn db
        refine named ((PySem.W.exm_one (M := model X.prog X.w) here.kIn ty is).here ?_)
        cases yes with
        | false => exact ih (y0 rfl)
        | true =>
          refine codeAny_handlers_suite_as (HandSPX.lands_againZ fl1 fun h2 fl2 up2 => ?_)
          have here2 : Inv X pins τ J { t with heap := h2 } := inv1.landed kept fl2.1 ((up.trans up1).trans up2) os bare
          obtain ⟨oe2, vs2, got2, zc2, flds2⟩ := fl2.there
          refine store_ok (X := X.suite a ((a, oe2) :: (X.pn ++ pins))) (v := .ref a) (here2.suite got2 flds2 fresh offL offF) nd at_i (.inl loc) rfl (fun t5 inv5 => ?_) (.inr loc)
          refine wpAny_mono ((su a oe2 cls d (X.pn ++ pins) zc2 ⟨_, flds2⟩).run [] t5 _ J _ inv5 (y1 rfl a fresh)) (fun f t6 out => ?_) (fun _ _ z => z.elim)
          have done : ∀ {τ6 : L2.St} {J6 : Hp} {Q : Shared → Prop}, Inv (X.suite a ((a, oe2) :: (X.pn ++ pins))) [] τ6 J6 t6 → (∀ t7, Inv X pins (τ6.set i none) J6 t7 → Q t7) →
              wpAny (model X.prog X.w) X.A (do bindName X.env n .none; unbindBehindTheSuite X.env n hp) (fun _ t7 => Q t7) X.xe t6 := fun inv6 q => gone_ok (inv6.unsuite fine) nd at_i loc q
          cases f with
          | ret u =>
            obtain ⟨v, τ6, J6, inv6, r, q⟩ := out
            exact done inv6 fun t7 inv7 => ⟨v, _, J6, inv7, r, q⟩
          | next =>
            obtain ⟨τ6, J6, inv6, q⟩ := out
            exact done inv6 fun t7 inv7 => ⟨_, J6, inv7, q⟩
          | brk =>
            obtain ⟨τ6, J6, inv6, q⟩ := out
            exact done inv6 fun t7 inv7 => ⟨_, J6, inv7, q⟩
          | cont =>
            obtain ⟨τ6, J6, inv6, q⟩ := out
            exact done inv6 fun t7 inv7 => ⟨_, J6, inv7, q⟩
    exact all hc wish
  · cases f with
    | ret u =>
      obtain ⟨v, τ, J, inv2, r, q⟩ := out
      exact ⟨v, τ, J, inv2.ofTry fine, r, q⟩
    | next =>
      obtain ⟨τ, J, inv2, q⟩ := out
      exact wpAny_execs_nil ⟨τ, J, inv2.ofTry fine, q⟩
    | brk =>
      obtain ⟨τ, J, inv2, q⟩ := out
      exact ⟨τ, J, inv2.ofTry fine, q⟩
    | cont =>
      obtain ⟨τ, J, inv2, q⟩ := out
      exact ⟨τ, J, inv2.ofTry fine, q⟩
end
end VL

set_option Elab.async false
set_option linter.all false
set_option maxRecDepth 100000
/-! VR: try with clauses that return a text by what isinstance says of the caught. -/
namespace VL
open PySem PySem.Spec PyProof.Rows L2
/-- in a clause that holds a in slot i: a test, a value -/
def tT1 (i : Nat) (a : Addr) (b : Bool) : TT := fun σ H Q => σ[i]? = some (some (.ref a)) ∧ Q b H
def tV1 (i : Nat) (a : Addr) (v : V) : TE := fun σ H Q => σ[i]? = some (some (.ref a)) ∧ Q v H
def tR1 (i : Nat) (a : Addr) (s : Str) : TS := fun D σ H => σ[i]? = some (some (.ref a)) ∧ D.rt (.str s) H
section
variable {X : Cx} {a C : Addr} {oe : Obj} {pn : List (Addr × Obj)} {i : Nat} {n x : Str} {p p1 p2 pos : Pos} {b b2 : Bool} {cv : Value} {c : V}
theorem pe_isE (E : ExcC X.K C) (hz : Zc (.ref C) none oe) (hf : ∃ fs, oe.data = .fields fs) (hk : PySem.W.kitOne X.K (.ref C) cv = some b) (hm : X.mg "isinstance" = none) (hmc : X.mg x = some cv) (r : RelV c cv) (ru : ∀ u, RelV c u → u = cv) (hi : X.N[i]? = some n)
    (hv : Vis X.env.scope n) (hg : Gl X "isinstance") (hgx : Gl X x) (hd : (n == ("__debug__" : Str)) = false) (hcd : (n == ("__classdict__" : Str)) = false) (hdx : (x == ("__debug__" : Str)) = false) :
    PE (X.suite a ((a, oe) :: pn)) (.Call (.Name "isinstance" p) [.Name n p1, .Name x p2] [] pos) (tV1 i a (.bl b)) :=
  pe_imp (pe_callB (X := X.suite a ((a, oe) :: pn)) (call_isE (X := X) E hz hf) hg hm PyProof.Rows.boot_isinstance
    (pa_cons (pe_var (X := X.suite a ((a, oe) :: pn)) hi hv hd hcd) (pa_cons (pe_glob (X := X.suite a ((a, oe) :: pn)) hgx hmc r hdx) pa_nil rfl) rfl) (he := rfl) (hpl := rfl))
    fun σ H Q ⟨h1, h2⟩ => ⟨.ref a, h1, c, cv, b, rfl, ru, hk, h2⟩
theorem pe_isC {C2 : Addr} (b : Bool) (E : ExcC X.K C) (hz : Zc (.ref C) none oe) (hf : ∃ fs, oe.data = .fields fs) (hk : PySem.W.kitOne X.K (.ref C) (.ref C2) = some b) (hm : X.mg "isinstance" = none) (hmc : X.mg x = some (.ref C2)) (hi : X.N[i]? = some n := by rfl)
    (hv : Vis X.env.scope n := by first | exact .inl rfl | exact .inr (.inl rfl) | exact .inr (.inr rfl)) (hg : Gl X "isinstance" := by rfl) (hgx : Gl X x := by rfl) (hd : (n == ("__debug__" : Str)) = false := by decide) (hcd : (n == ("__classdict__" : Str)) = false := by decide) (hdx : (x == ("__debug__" : Str)) = false := by decide) :
    PE (X.suite a ((a, oe) :: pn)) (.Call (.Name "isinstance" p) [.Name n p1, .Name x p2] [] pos) (tV1 i a (.bl b)) :=
  pe_isE (c := .ref C2) E hz hf hk hm hmc rfl (fun u h => by cases h; rfl) hi hv hg hgx hd hcd hdx
theorem pt_1 {e : Expr} {Y : Cx} (h : PE Y e (tV1 i a (.bl b))) (he : ∀ whole, isTrue e Y.env whole = (do let v ← whole; standAt e.pos; holding [v] (truthy v)) := by intro _; rfl) : PT Y e (tT1 i a b) :=
  pt_imp (pt_val h he) fun σ H Q ⟨h1, h2⟩ => ⟨h1, b, rfl, h2⟩
theorem pt_1not {e : Expr} {Y : Cx} (h : PT Y e (tT1 i a b)) : PT Y (.UnaryOp .Not e pos) (tT1 i a (!b)) :=
  pt_imp (pt_not h) fun σ H Q ⟨h1, h2⟩ => ⟨h1, h2⟩
theorem pt_1and {e e2 : Expr} {Y : Cx} (h : PT Y e (tT1 i a b)) (h2 : PT Y e2 (tT1 i a b2)) : PT Y (.BoolOp .And [e, e2] pos) (tT1 i a (b && b2)) :=
  pt_imp (pw_and h (pw_and1 h2)).pt fun σ H Q ⟨q1, q2⟩ => ⟨q1, by
    cases b with
    | true => exact iteT ⟨q1, q2⟩
    | false => exact iteF q2⟩
theorem ps_1ret {e : Expr} {Y : Cx} {s s2 : Str} {j j2 : Nat} (h : PT Y e (tT1 i a b)) : PSs Y [.Return (some (.IfExp e (.Constant (.str s) j p) (.Constant (.str s2) j2 p1) p2)) pos] (tR1 i a (if b = true then s else s2)) :=
  pss_imp (pss_one (ps_ret (pe_ifExp h pe_str pe_str))) fun D σ H ⟨q1, q2⟩ => ⟨q1, by
    cases b with
    | true => exact iteT q2
    | false => exact iteF q2⟩
end
/-- the classes' facts, from what k_is answers -/
theorem kit_own {K : PySem.W.Frag} {D C : Addr} {b : Bool} (hb : PySem.W.subIn K (.ref D) (.ref C) = some b) (hs : PySem.W.subIn K (.ref D) (.ref D) = some true) (hd : PySem.W.hasDictIn K C = true) (ht : PySem.W.typeIn K (.ref C) = some (.type "type")) : PySem.W.kitOne K (.ref D) (.ref C) = some b := by
  unfold PySem.W.kitOne
  by_cases e : D = C
  · subst e
    rw [hb] at hs
    cases hs
    rw [if_pos (beq_self_eq_true _)]
  · rw [if_neg (by
      intro h
      exact e (Value.ref.inj (beq_iff_eq.mp h)))]
    obtain ⟨cd, hc, _⟩ := PySem.W.any_some hd
    show (if ((PySem.W.clsIn K C).isSome && PySem.W.typeIn K (.ref C) == some (.type "type")) = true then PySem.W.subIn K (.ref D) (.ref C) else none) = some b
    rw [hc, ht]
    exact hb
/-- what a clause gives, class by class -/
inductive Ev (P : Nat → Str → Prop) : List (Nat × Str) → Prop
  | nil : Ev P []
  | cons {c : Nat} {s : Str} {l : List (Nat × Str)} : P c s → Ev P l → Ev P ((c, s) :: l)
theorem Ev.at {P : Nat → Str → Prop} : ∀ {l : List (Nat × Str)} {c : Nat} {s : Str}, Ev P l → l.lookup c = some s → P c s
  | _, c, s, .nil, e => by cases e
  | (c2, s2) :: l, c, s, .cons h t, e => by
    rw [List.lookup_cons] at e
    by_cases hc : (c == c2) = true
    · rw [hc] at e
      cases e
      rw [beq_iff_eq] at hc
      rw [hc]
      exact h
    · rw [Bool.eq_false_iff.mpr hc] at e
      exact t.at e
/-- a clause, by a list of classes and texts -/
def clT (ct : Nat → Addr) (i : Nat) (f : List (Nat × Str)) : Addr → Value → Option Addr → TS := fun a cls d D σ H => ∃ c s, cls = .ref (ct c) ∧ d = none ∧ f.lookup c = some s ∧ tR1 i a s D σ H
theorem cl_ok {X : Cx} {ct : Nat → Addr} {i : Nat} {sts : List Stmt} {f : List (Nat × Str)} (h : Ev (fun c s => ∀ (a : Addr) (oe : Obj) (pn : List (Addr × Obj)), Zc (.ref (ct c)) none oe → (∃ fs, oe.data = .fields fs) → PSs (X.suite a ((a, oe) :: pn)) sts (tR1 i a s)) f) :
    ∀ (a : Addr) (oe : Obj) (cls : Value) (d : Option Addr) (pn : List (Addr × Obj)), Zc cls d oe → (∃ fs, oe.data = .fields fs) → PSs (X.suite a ((a, oe) :: pn)) sts (clT ct i f a cls d) :=
  fun a oe cls d pn hz hf => ⟨fun pins s σ H D I q => by
    obtain ⟨c, t, e1, e2, e3, q⟩ := q
    subst e1
    subst e2
    exact (h.at e3 a oe pn hz hf).run pins s σ H D I q⟩
/-- a clause is passed by -/
theorem cl_no {K : PySem.W.Frag} {i : Nat} {D : Ends} {cls : Value} {d : Option Addr} {τ : L2.St} {J : Hp} {Wo : WX} {q : Cl} {l : List Cl} (h : PySem.W.exmOne K cls q.1 = some false) (r : wClauses K i Wo D l cls d τ J) : wClauses K i Wo D (q :: l) cls d τ J :=
  ⟨false, h, fun z => (nomatch z), fun _ => r⟩
theorem cl_yes {K : PySem.W.Frag} {ct : Nat → Addr} {i c : Nat} {D : Ends} {τ : L2.St} {J : Hp} {Wo : WX} {cv : Value} {f : List (Nat × Str)} {s : Str} {l : List Cl} (hl : i < τ.length) (hr : D.rt (.str s) J) (h : PySem.W.exmOne K (.ref (ct c)) cv = some true) (e : f.lookup c = some s) :
    wClauses K i Wo D ((cv, clT ct i f) :: l) (.ref (ct c)) none τ J :=
  ⟨true, h, fun _ a _ => ⟨c, s, rfl, rfl, e, by rw [List.getElem?_set_self hl], hr⟩, fun z => (nomatch z)⟩
def tryK (i : Nat) (tbl : List (Nat × Str)) (o : SO) : SO := match o with
  | .exc c none G => if i < G.length then (match tbl.lookup c with
    | some s => .ret (.str s)
    | none => .stuck) else .stuck
  | .exc _ (some _) _ => .stuck
  | o => o
def tryS (i : Nat) (tbl : List (Nat × Str)) (mb : Gm → SO) : Gm → SO := fun G => tryK i tbl (mb G)
abbrev noW : WX := fun _ _ _ _ => False
section
variable {X : Cx} {ct : Nat → Addr} {W : WX} {n : Str} {i : Nat} {body : List Stmt} {hd : ExceptHandler} {hds : List ExceptHandler} {l : List Cl} {pos : Pos} {mb : Gm → SO} {tbl : List (Nat × Str)}
theorem es_try (hst : X.stack = X.env :: X.outer) (hfl : X.env.frame = some X.env.locals) (nd : X.N.Nodup) (at_i : X.N[i]? = some n) (loc : X.env.kindOf n = some .local)
    (hb : ∀ (W : WX) (pn : List (Addr × Obj)) (xe : Value → Shared → Prop), L2.Takes (X.tr pn xe) W → PassesOwn (model X.prog X.w) X.A X.env xe → ESs (X.tr pn xe) ct W body mb)
    (hc : Clauses X n (hd :: hds) l) (ht : Ev (fun c s => ∀ (D : Ends) (τ : L2.St) (J : Hp), i < τ.length → D.rt (.str s) J → wClauses X.K i noW D l (.ref (ct c)) none τ J) tbl) : ES X ct W (.Try body (hd :: hds) [] [] pos) (tryS i tbl mb) :=
  ps_imp (ps_try_clauses hst hfl nd at_i loc (Wo := noW) (tb := fun W => sM X.K ct W mb) takes_none5 hb hc) fun D σ H ⟨F0, H0, F, G, r, p⟩ => by
    refine ⟨F0, H0, F, G, r, ?_⟩
    unfold tryS at p
    revert p
    cases e : mb G with
    | next G2 => exact fun p => p
    | ret d => exact fun p => p
    | brk G2 => exact fun p => p
    | cont G2 => exact fun p => p
    | stuck => exact fun p => p
    | exc c pl G2 =>
      cases pl with
      | some d => exact fun p => p.elim
      | none =>
        intro p
        unfold tryK at p
        by_cases hl : i < G2.length
        · simp only [if_pos hl] at p
          cases et : tbl.lookup c with
          | none => rw [et] at p; exact p.elim
          | some s =>
            rw [et] at p
            intro cls dd σ2 F2 H2 sm r2 x
            obtain ⟨e1, e2⟩ := x
            subst e1
            subst e2
            exact ht.at et D σ2 H2 (by rw [← r2.len]; exact hl) (p (.str s) F2 H2 r2.extOf (.str s))
        · simp only [if_neg hl] at p
          exact p.elim
end
end VL

set_option Elab.async false
set_option linter.all false
set_option maxRecDepth 100000
/-! VS: max, sum of a list of ints; min of two; list.count. -/
namespace VL
open PySem L2
section
variable {X : Cx} {ct : Nat → Addr} {W : WX} {a b c e : Expr} {ma mb mc me : Gm → EO} {pos p apos : Pos} {x : Str}
def maxL : Int → List Int → Int
  | m, [] => m
  | m, n :: ns => maxL (if m < n then n else m) ns
theorem maxL_ge : ∀ (ns : List Int) (m : Int), m ≤ maxL m ns ∧ ∀ y ∈ ns, y ≤ maxL m ns
  | [], m => ⟨Int.le_refl _, fun y hy => by cases hy⟩
  | n :: ns, m => by
    obtain ⟨h1, h2⟩ := maxL_ge ns (if m < n then n else m)
    unfold maxL
    by_cases h : m < n
    · rw [if_pos h] at h1 h2 ⊢
      refine ⟨by omega, fun y hy => ?_⟩
      rcases List.mem_cons.mp hy with rfl | hy
      · exact h1
      · exact h2 y hy
    · rw [if_neg h] at h1 h2 ⊢
      refine ⟨h1, fun y hy => ?_⟩
      rcases List.mem_cons.mp hy with rfl | hy
      · omega
      · exact h2 y hy
theorem maxL_mem : ∀ (ns : List Int) (m : Int), maxL m ns ∈ m :: ns
  | [], m => List.mem_singleton.mpr rfl
  | n :: ns, m => by
    unfold maxL
    have := maxL_mem ns (if m < n then n else m)
    rcases List.mem_cons.mp this with h | h
    · rw [h]
      split
      · exact List.mem_cons_of_mem _ List.mem_cons_self
      · exact List.mem_cons_self
    · exact List.mem_cons_of_mem _ (List.mem_cons_of_mem _ h)
def gMax : PyData → EO
  | .list ds => match allInts ds with
    | some (n :: ns) => .ok (.int (maxL n ns)) .frz
    | _ => .stuck
  | _ => .stuck
def gSum : PyData → EO
  | .list ds => match allInts ds with
    | some ns => .ok (.int ns.sum) .frz
    | _ => .stuck
  | _ => .stuck
theorem g_max {K : PySem.W.Frag} : GC1 K (rMax K) gMax := by
  intro ct W σ F H v d Q fh vv q
  unfold gMax at q
  split at q
  · split at q
    · rename_i ds n ns e
      obtain ⟨_, l, vs, rfl, h1, r1⟩ := vv
      have := ints_vals r1 e
      subst this
      refine ⟨l, n :: ns, rfl, SqL.of h1, Nat.zero_lt_succ _, fun m hm hy => ?_⟩
      have e2 : m = maxL n ns := Int.le_antisymm (by
        rcases List.mem_cons.mp hm with h | h
        · rw [h]; exact (maxL_ge ns n).1
        · exact (maxL_ge ns n).2 m h) (hy _ (maxL_mem ns n))
      rw [e2]
      exact ok_frz fh (.int _) q
    · exact q.elim
  · exact q.elim
theorem g_sum {K : PySem.W.Frag} : GC1 K (rSum K) gSum := by
  intro ct W σ F H v d Q fh vv q
  unfold gSum at q
  split at q
  · split at q
    · rename_i ds ns e
      obtain ⟨_, l, vs, rfl, h1, r1⟩ := vv
      have := ints_vals r1 e
      subst this
      exact ⟨l, ns, rfl, SqL.of h1, ok_frz fh (.int _) q⟩
    · exact q.elim
  · exact q.elim
theorem ee_max (hm : X.mg "max" = none) (ha : EE X ct W a ma) (hc : X.calm = true := by rfl) (hg : Gl X "max" := by rfl) (hs : starEach [a] X.env = (false, eval a X.env) :: starEach [] X.env := by rfl) : EE X ct W (.Call (.Name "max" p) [a] [] pos) (op1 gMax ma) := ee_b1 (cr_max hc) g_max hm (by decide +kernel) ha hg (hs := hs)
theorem ee_sum (hm : X.mg "sum" = none) (ha : EE X ct W a ma) (hc : X.calm = true := by rfl) (hg : Gl X "sum" := by rfl) (hs : starEach [a] X.env = (false, eval a X.env) :: starEach [] X.env := by rfl) : EE X ct W (.Call (.Name "sum" p) [a] [] pos) (op1 gSum ma) := ee_b1 (cr_sum hc) g_sum hm (by decide +kernel) ha hg (hs := hs)
def gMin : PyData → PyData → EO
  | .int i, .int j => .ok (.int (if j < i then j else i)) .frz
  | _, _ => .stuck
theorem ee_min (hc : X.calm = true) (hm : X.mg "min" = none) (ha : EE X ct W a ma) (hb : EE X ct W b mb) (hg : Gl X "min" := by rfl) (hs : starEach [a, b] X.env = (false, eval a X.env) :: starEach [b] X.env := by rfl) (hs2 : starEach [b] X.env = (false, eval b X.env) :: starEach [] X.env := by rfl)
    (hpl : (backTo pos (starEach [b] X.env)).any (·.1) = false := by rfl) : EE X ct W (.Call (.Name "min" p) [a, b] [] pos) (op2 gMin ma mb) :=
  pe_imp (pe_callB (call_min2 hc) hg hm (by decide +kernel) (pa_cons ha (pa_cons hb pa_nil hs2) hs) (he := hs) (hpl := hpl)) fun σ H Q h => by
    refine tM_mono (tM_view (k := fun G d => (mb G).bind fun e _ => gMin d e) h) fun v H1 ⟨F0, H0, F1, G, d, rp, vv, q⟩ => ?_
    refine tM_mono (tM_viewAt rp q) fun u H2 ⟨F2, e2, x2, vu, q2⟩ => ?_
    revert q2
    cases d with
    | int i =>
      cases e2 with
      | int j =>
        intro q2
        have e1 := vv.int
        have e3 := vu.int
        subst e1
        subst e3
        exact ⟨i, j, rfl, ok_frz x2.fh (.int _) q2⟩
      | _ => exact fun q2 => q2.elim
    | _ => cases e2 <;> exact fun q2 => q2.elim
def gCount : PyData → PyData → EO
  | .list ds, .int k => match allInts ds with
    | some ns => .ok (.int (ns.count k : Nat)) .frz
    | _ => .stuck
  | _, _ => .stuck
def cntE (ma mb : Gm → EO) : Gm → EO := fun G => (ma G).bind fun d _ => match d with
  | .list ds => (mb G).bind fun e _ => gCount (.list ds) e
  | _ => .stuck
theorem ee_count (ha : EE X ct W a ma) (hb : EE X ct W b mb) (hbase : attributeBase a "count" X.env (eval a X.env) = eval a X.env := by rfl) (hs1 : starEach [b] X.env = (false, eval b X.env) :: starEach [] X.env := by rfl) (hline : (apos.endLine == pos.line) = true := by rfl) :
    EE X ct W (.Call (.Attribute a "count" apos) [b] [] pos) (cntE ma mb) :=
  pe_imp (pe_bm PySem.F.plainAttrs_list PySem.F.slot_list_count PySem.F.type_list_count mt_lcount ha (pa_cons hb pa_nil hs1) (hbase := hbase) (hline := hline) (hs := hs1) (hfew := by rw [hs1] <;> rfl)) fun σ H Q h => by
    refine tM_mono (tM_view (k := fun G d => match d with
      | .list ds => (mb G).bind fun e _ => gCount (.list ds) e
      | _ => .stuck) h) fun v H1 ⟨F0, H0, F1, G, d, rp, vv, q⟩ => ?_
    have isl : ∃ ds, d = .list ds := by
      cases d with
      | list ds => exact ⟨ds, rfl⟩
      | _ => exact q.elim
    obtain ⟨ds, rfl⟩ := isl
    obtain ⟨l1, l2, lvs, rfl, lh, lr⟩ := vv
    refine ⟨.inl ⟨rfl, lvs, SqL.of lh⟩, ?_⟩
    refine tM_mono (tM_viewAt rp q) fun u H2 ⟨F2, e2, x2, vu, q2⟩ => ?_
    unfold gCount at q2
    split at q2
    · rename_i ds2 k ed
      cases ed
      split at q2
      · rename_i ns e3
        have := ints_vals lr e3
        subst this
        have e1 := vu.int
        subst e1
        exact ⟨_, ns, k, rfl, rfl, SqL.of (x2.hh _ _ lh), ok_frz x2.fh (.int _) q2⟩
      · exact q2.elim
    · exact q2.elim
end
end VL

set_option Elab.async false
set_option linter.all false
set_option maxRecDepth 100000
/-! VU: an assignment that freezes. -/
namespace VL
open PySem L2
section
variable {X : Cx} {ct : Nat → Addr} {W : WX} {a b c e : Expr} {ma mb mc me : Gm → EO} {pos : Pos}
def asgF (i : Nat) (m : Gm → EO) : Gm → SO := fun G => (m G).bindS G fun d w => takeS G d w fun G d => .next (G.set i (some (.dat d)))
theorem asgF_of {K : PySem.W.Frag} {i : Nat} {D : Ends} {σ : St} {H : Hp} (h : sM K ct W (asgF i me) D σ H) : tAsg (tM K ct W me) (gName i) D σ H := by
  obtain ⟨F0, H0, F, G, r, p⟩ := h
  refine ⟨F0, H0, F, G, r, post_mono (post_S r p) fun v H1 ⟨d, w, F1, x, q, r1, p2⟩ => ?_⟩
  show D.nx (σ.set i (some v)) H1
  obtain ⟨G2, d2, F2, _, r2, q2, p4⟩ := take_of r x q p2
  exact p4 _ F2 H1 (Same.refl _) (r2.dat i q2)
theorem es_asgF {i : Nat} {x : Str} {pos2 : Pos} (he : EE X ct W e me) (hN : X.N.Nodup) (hi : X.N[i]? = some x := by rfl) (hx : Loc X.env.scope x := by first | exact Or.inl rfl | exact Or.inr rfl) (hs : swapsWith e (some (.Name x pos2)) pos.line X.env = pure false := by rfl)
    (hf : X.fn x = true ∨ X.env.scope.names.lookup x = some .local := by first | exact .inl rfl | exact .inr rfl) : ES X ct W (.Assign [.Name x pos2] e pos) (asgF i me) :=
  ps_imp (ps_set hN hi hx he hs hf) fun D σ H h => asgF_of h
variable {tg it elt : Expr} {ifs : List Expr} {scope : Scope} {mi : Gm → IC} {tgt : PyData → Gm → Option Gm} {mt : Gm → BO}
theorem es_asgCF {i : Nat} {y : Str} {py spos : Pos} (N : List Str) (sc : Scope) (own : List (Str × Nat)) (hc : X.calm = true) (hN : X.N.Nodup) (ok : blkC N sc scope own = true)
    (hsw : swapsWith (.ListComp elt [⟨tg, it, ifs, 0⟩] scope pos) (some (.Name y py)) spos.line X.env = pure true) (hi : EC X tg it mi)
    (hg : ∀ (s : Shared) (H : Hp) (C : Addr) (cl : List (Str × Addr)) (fp : List Addr), EGW (X.blk s H scope (compEnvC scope cl C X.env) fp) (own.map (·.2)) tg tgt) (ht : ∀ (s : Shared) (H : Hp) (C : Addr) (cl : List (Str × Addr)) (fp : List Addr), ETs (X.blk s H scope (compEnvC scope cl C X.env) fp) ct W0 ifs mt)
    (he : ∀ (s : Shared) (H : Hp) (C : Addr) (cl : List (Str × Addr)) (fp : List Addr), EE (X.blk s H scope (compEnvC scope cl C X.env) fp) ct W0 elt me) (eN : X.N = N := by rfl) (eS : X.env.scope = sc := by rfl) (hy : X.N[i]? = some y := by rfl) (hyl : X.env.scope.names.lookup y = some .local := by rfl) (hs : ∀ x, foldedSetIterable it X.env x = pure x := by intro _; rfl) :
    ES X ct W (.Assign [.Name y py] (.ListComp elt [⟨tg, it, ifs, 0⟩] scope pos) spos) (asgF i (compE mi (own.map (·.2)) tgt mt me)) :=
  ps_imp (ps_setLc (own := own) hc hN hy hyl hsw hi (blkOk_by (by rw [eN, eS]; exact ok)) hg ht he hs) fun D σ H h => comp_of (asgF_of h)
end
end VL

set_option Elab.async false
set_option linter.all false
set_option maxRecDepth 100000
/-! VW: try with clauses of any statements: within a clause, slot i holds the caught exception a. -/
namespace VL
open PySem PySem.Spec PyProof.Rows L2
/-- slot i holds a -/
abbrev At (i : Nat) (a : Addr) (σ : L2.St) : Prop := σ[i]? = some (some (V.ref a))
def tMi (K : PySem.W.Frag) (ct : Nat → Addr) (W : WX) (i : Nat) (a : Addr) (m : Gm → EO) : TE := fun σ H Q => At i a σ ∧ tM K ct W m σ H Q
def tMBi (K : PySem.W.Frag) (ct : Nat → Addr) (W : WX) (i : Nat) (a : Addr) (m : Gm → BO) : TT := fun σ H Q => At i a σ ∧ tMB K ct W m σ H Q
def tMAi (K : PySem.W.Frag) (ct : Nat → Addr) (W : WX) (i : Nat) (a : Addr) (m : Gm → AO) : TA := fun σ H Q => At i a σ ∧ tMA K ct W m σ H Q
def keepD (i : Nat) (a : Addr) (D : Ends) : Ends := { D with nx := fun τ J => At i a τ → D.nx τ J }
def sMi (K : PySem.W.Frag) (ct : Nat → Addr) (W : WX) (i : Nat) (a : Addr) (m : Gm → SO) : TS := fun D σ H => At i a σ ∧ sM K ct W m (keepD i a D) σ H
abbrev EEi (X : Cx) (ct : Nat → Addr) (W : WX) (i : Nat) (a : Addr) (e : Expr) (m : Gm → EO) : Prop := PE X e (tMi X.K ct W i a m)
abbrev EBi (X : Cx) (ct : Nat → Addr) (W : WX) (i : Nat) (a : Addr) (e : Expr) (m : Gm → BO) : Prop := PT X e (tMBi X.K ct W i a m)
abbrev EAi (X : Cx) (ct : Nat → Addr) (W : WX) (i : Nat) (a : Addr) (es : List Expr) (m : Gm → AO) : Prop := PA X es (tMAi X.K ct W i a m)
abbrev ESi (X : Cx) (ct : Nat → Addr) (W : WX) (i : Nat) (a : Addr) (st : Stmt) (m : Gm → SO) : Prop := PS X st (sMi X.K ct W i a m)
abbrev ESsi (X : Cx) (ct : Nat → Addr) (W : WX) (i : Nat) (a : Addr) (sts : List Stmt) (m : Gm → SO) : Prop := PSs X sts (sMi X.K ct W i a m)
section
variable {X : Cx} {ct : Nat → Addr} {W : WX} {i j : Nat} {a : Addr} {e e1 e2 t : Expr} {es rest : List Expr} {me ma mb : Gm → EO} {ms : Gm → AO} {mt : Gm → BO} {pos : Pos} {st : Stmt} {sts : List Stmt} {m1 m2 : Gm → SO} {x : Str}
theorem eei_of (h : EE X ct W e me) : EEi X ct W i a e me := pe_imp h fun _ _ _ h => h.2
theorem ebi_of (h : EB X ct W e mt) : EBi X ct W i a e mt := pt_imp h fun _ _ _ h => h.2
theorem eai_nil : EAi X ct W i a [] nilA := pa_imp (ea_nil (ct := ct) (W := W)) fun _ _ _ h => h.2
theorem eai_cons (ha : EEi X ct W i a e me) (hr : EAi X ct W i a es ms) (hs : starEach (e :: es) X.env = (false, eval e X.env) :: starEach es X.env := by rfl) : EAi X ct W i a (e :: es) (consA me ms) :=
  pa_imp (pa_cons ha hr hs) fun σ H Q ⟨c, F0, H0, F, G, rp, p⟩ => by
    refine ⟨c, F0, H0, F, G, rp, post_mono (postA_hard (k := fun d => (ms G).bind fun ds => .ok (d :: ds)) p) fun v H1 ⟨d, F1, x, r, p2⟩ => ?_⟩
    refine ⟨c, F0, H0, F1, G, rp.ext x, postA_mono (postA_bind p2) fun vs H2 ⟨ds, F2, x2, r2, p3⟩ => ?_⟩
    exact p3 (v :: vs) F2 H2 (Ext.refl x2.fh) (.cons (dp_mono x2.ff _ _ r) r2)
theorem eei_lst (h : EAi X ct W i a es ms) : EEi X ct W i a (.List es pos) (lstE ms) :=
  pe_imp (pe_lst h) fun σ H Q ⟨c, F0, H0, F, G, rp, p⟩ => by
    refine ⟨c, F0, H0, F, G, rp, postA_mono (postA_bindE p) fun vs H1 ⟨ds, F1, x, r, p2⟩ => ?_⟩
    split at p2
    · rename_i hz
      exact ⟨by rw [dpAll_len r]; exact big_line hz, fun q hq => ok_newL x.fh r p2 hq⟩
    · exact p2.elim
theorem eei_add (ha : EEi X ct W i a e1 ma) (hb : EEi X ct W i a e2 mb) : EEi X ct W i a (.BinOp e1 .Add e2 pos) (op2 gAdd ma mb) :=
  pe_imp (pe_op op_addAll ha hb) fun σ H Q ⟨c, h⟩ => by
    refine ⟨c, tM_mono (tM_view (k := fun G d => (mb G).bind fun e _ => gAdd d e) h) fun v H1 ⟨F0, H0, F1, G, d, rp, vv, p⟩ => ?_⟩
    refine ⟨c, tM_mono (tM_viewAt rp p) fun u H2 ⟨F2, e, x, vu, p2⟩ => ?_⟩
    exact g_add ct W σ F2 H2 v u d e Q x.fh (vv.mono x) vu p2
theorem eei_or (ha : EEi X ct W i a e1 ma) (hb : EEi X ct W i a (.BoolOp .Or (e2 :: rest) pos) mb) : EEi X ct W i a (.BoolOp .Or (e1 :: e2 :: rest) pos) (orE ma mb) :=
  pe_imp (pe_or ha hb) fun σ H Q ⟨c, h⟩ => by
    refine ⟨c, tM_mono (tM_view (k := fun G d => match d with
      | .bool true => .ok (.bool true) .frz
      | .bool false => mb G
      | _ => .stuck) h) fun v H1 ⟨F0, H0, F1, G, d, rp, vv, p⟩ => ?_⟩
    split at p
    · exact ⟨true, vv.bl, iteT (ok_frz rp.fh (.bl _) p)⟩
    · exact ⟨false, vv.bl, iteF ⟨c, F0, H0, F1, G, rp, p⟩⟩
    · exact p.elim
theorem eei_one {op : BoolOp} (ha : EEi X ct W i a e ma) : EEi X ct W i a (.BoolOp op [e] pos) ma := pe_one ha
theorem eei_if (ht : EBi X ct W i a t mt) (ha : EEi X ct W i a e1 ma) (hb : EEi X ct W i a e2 mb) : EEi X ct W i a (.IfExp t e1 e2 pos) (ifE mt ma mb) :=
  pe_imp (pe_ifExp ht ha hb) fun σ H Q ⟨c, F0, H0, F, G, rp, p⟩ => by
    refine ⟨c, F0, H0, F, G, rp, postB_mono (postB_bindE p) fun k H1 ⟨F1, x, p2⟩ => ?_⟩
    cases k with
    | true => exact iteT ⟨c, F0, H0, F1, G, rp.ext x, p2⟩
    | false => exact iteF ⟨c, F0, H0, F1, G, rp.ext x, p2⟩
theorem ebi_truth (ha : EEi X ct W i a e ma) (he : ∀ whole, isTrue e X.env whole = (do let v ← whole; standAt e.pos; holding [v] (truthy v)) := by intro _; rfl) : EBi X ct W i a e (truthB ma) :=
  pt_imp (pt_truth ha he) fun _ _ _ h => ⟨h.1, truth_of h.2⟩
abbrev EWi (X : Cx) (ct : Nat → Addr) (W : WX) (i : Nat) (a : Addr) (e : Expr) (m : Gm → BO) : Prop := PW X e (tMBi X.K ct W i a m)
variable {ta tb : Gm → BO}
theorem ewi_and1 (ha : EBi X ct W i a e ta) : EWi X ct W i a (.BoolOp .And [e] pos) ta := pw_and1 ha
theorem ewi_or1 (ha : EBi X ct W i a e ta) : EWi X ct W i a (.BoolOp .Or [e] pos) ta := pw_or1 ha
theorem ewi_and (ha : EBi X ct W i a e ta) (hb : EWi X ct W i a (.BoolOp .And (e2 :: rest) pos) tb) : EWi X ct W i a (.BoolOp .And (e :: e2 :: rest) pos) (andB ta tb) :=
  pw_imp (pw_and ha hb) fun σ H Q h => ⟨h.1, tMB_mono (tMB_bind h.2) fun k H1 ⟨F0, H0, F1, G, rp, p⟩ => by
    cases k with
    | true => exact iteT ⟨h.1, F0, H0, F1, G, rp, p⟩
    | false => exact iteF (p F1 H1 (Ext.refl rp.fh))⟩
theorem ewi_or (ha : EBi X ct W i a e ta) (hb : EWi X ct W i a (.BoolOp .Or (e2 :: rest) pos) tb) : EWi X ct W i a (.BoolOp .Or (e :: e2 :: rest) pos) (orB ta tb) :=
  pw_imp (pw_or ha hb) fun σ H Q h => ⟨h.1, tMB_mono (tMB_bind h.2) fun k H1 ⟨F0, H0, F1, G, rp, p⟩ => by
    cases k with
    | true => exact iteT (p F1 H1 (Ext.refl rp.fh))
    | false => exact iteF ⟨h.1, F0, H0, F1, G, rp, p⟩⟩
theorem ebi_w {m : Gm → BO} (h : EWi X ct W i a e m) : EBi X ct W i a e m := h.pt
theorem ebi_not (ha : EBi X ct W i a e ta) : EBi X ct W i a (.UnaryOp .Not e pos) (notB ta) :=
  pt_imp (pt_not ha) fun σ H Q h => ⟨h.1, tMB_mono (tMB_bind h.2) fun k H1 ⟨F0, H0, F1, G, rp, p⟩ => p F1 H1 (Ext.refl rp.fh)⟩
/-- isinstance of the caught -/
theorem eei_is {C C2 : Addr} {oe : Obj} {pn : List (Addr × Obj)} {n : Str} {p p1 p2 : Pos} (b : Bool) (E : ExcC X.K C) (hz : Zc (.ref C) none oe) (hf : ∃ fs, oe.data = .fields fs) (hk : PySem.W.kitOne X.K (.ref C) (.ref C2) = some b) (hm : X.mg "isinstance" = none) (hmc : X.mg x = some (.ref C2)) (hi : X.N[i]? = some n := by rfl)
    (hv : Vis X.env.scope n := by first | exact .inl rfl | exact .inr (.inl rfl) | exact .inr (.inr rfl)) (hg : Gl X "isinstance" := by rfl) (hgx : Gl X x := by rfl) (hd : (n == ("__debug__" : Str)) = false := by decide) (hcd : (n == ("__classdict__" : Str)) = false := by decide) (hdx : (x == ("__debug__" : Str)) = false := by decide) :
    EEi (X.suite a ((a, oe) :: pn)) ct W i a (.Call (.Name "isinstance" p) [.Name n p1, .Name x p2] [] pos) (cE (.bool b)) :=
  pe_imp (pe_isC b E hz hf hk hm hmc hi hv hg hgx hd hcd hdx) fun σ H Q ⟨c, h⟩ => ⟨c, tC_of (v := .bl b) (σ := σ) (fun _ => .bl _) h⟩
/-! statements -/
theorem esi_asg {pos2 : Pos} (he : EEi X ct W i a e me) (hN : X.N.Nodup) (hij : j ≠ i) (hi : X.N[j]? = some x := by rfl) (hx : Loc X.env.scope x := by first | exact Or.inl rfl | exact Or.inr rfl) (hs : swapsWith e (some (.Name x pos2)) pos.line X.env = pure false := by rfl)
    (hf : X.fn x = true ∨ X.env.scope.names.lookup x = some .local := by first | exact .inl rfl | exact .inr rfl) : ESi X ct W i a (.Assign [.Name x pos2] e pos) (asgS j me) :=
  ps_imp (ps_set hN hi hx he hs hf) fun D σ H ⟨c, h⟩ => ⟨c, tM_mono (asg_of h) fun v H1 (q : At i a (σ.set j (some v)) → D.nx (σ.set j (some v)) H1) => q (by
    show (σ.set j (some v))[i]? = _
    rw [List.getElem?_set_ne hij]
    exact c)⟩
theorem esi_ret (he : EEi X ct W i a e me) : ESi X ct W i a (.Return (some e) pos) (retS me) :=
  ps_imp (ps_ret he) fun D σ H ⟨c, F0, H0, F, G, r, p⟩ => ⟨c, F0, H0, F, G, r, post_mono (post_S r p) fun v H1 ⟨d, w, F1, x, q, _, p2⟩ => by
    obtain ⟨G2, d2, F2, _, r2, q2, p3⟩ := take_of r x q p2
    exact p3 v F2 H1 r2.extOf q2⟩
theorem essi_one (h : ESi X ct W i a st m1) : ESsi X ct W i a [st] m1 := pss_one h
theorem essi_cons (h1 : ESi X ct W i a st m1) (h2 : ESsi X ct W i a sts m2) : ESsi X ct W i a (st :: sts) (seqS m1 m2) :=
  pss_imp (pss_cons h1 h2) fun D σ H ⟨c, F0, H0, F, G, r, p⟩ => by
    refine ⟨c, F0, H0, F, G, r, ?_⟩
    unfold seqS at p
    revert p
    cases m1 G with
    | next G1 => exact fun p σ2 F2 H2 s r2 c2 => ⟨c2, F0, H0, F2, G1, r2, postS_same p s⟩
    | ret d => exact fun p => p
    | brk G1 => exact fun p => p
    | cont G1 => exact fun p => p
    | exc c pl G1 => exact fun p => p
    | stuck => exact fun p => p
end
/-! the statement -/
abbrev Cb := List (Nat × (Gm → SO))
inductive EvG (P : Nat → (Gm → SO) → Prop) : Cb → Prop
  | nil : EvG P []
  | cons {c : Nat} {s : Gm → SO} {l : Cb} : P c s → EvG P l → EvG P ((c, s) :: l)
theorem EvG.at {P : Nat → (Gm → SO) → Prop} : ∀ {l : Cb} {c : Nat} {s : Gm → SO}, EvG P l → l.lookup c = some s → P c s
  | _, c, s, .nil, e => by cases e
  | (c2, s2) :: l, c, s, .cons h t, e => by
    rw [List.lookup_cons] at e
    by_cases hc : (c == c2) = true
    · rw [hc] at e
      cases e
      rw [beq_iff_eq] at hc
      rw [hc]
      exact h
    · rw [Bool.eq_false_iff.mpr hc] at e
      exact t.at e
def clG (K : PySem.W.Frag) (ct : Nat → Addr) (i : Nat) (f : Cb) : Addr → Value → Option Addr → TS := fun a cls d D σ H => ∃ c m, cls = .ref (ct c) ∧ d = none ∧ f.lookup c = some m ∧ sMi K ct noW i a m D σ H
theorem clG_ok {X : Cx} {ct : Nat → Addr} {i : Nat} {sts : List Stmt} {f : Cb} (h : EvG (fun c m => ∀ (a : Addr) (oe : Obj) (pn : List (Addr × Obj)), Zc (.ref (ct c)) none oe → (∃ fs, oe.data = .fields fs) → ESsi (X.suite a ((a, oe) :: pn)) ct noW i a sts m) f) :
    ∀ (a : Addr) (oe : Obj) (cls : Value) (d : Option Addr) (pn : List (Addr × Obj)), Zc cls d oe → (∃ fs, oe.data = .fields fs) → PSs (X.suite a ((a, oe) :: pn)) sts (clG X.K ct i f a cls d) :=
  fun a oe cls d pn hz hf => ⟨fun pins s σ H D I q => by
    obtain ⟨c, t, e1, e2, e3, q⟩ := q
    subst e1
    subst e2
    exact (h.at e3 a oe pn hz hf).run pins s σ H D I q⟩
def clrS (i : Nat) (o : SO) : SO := match o with
  | .next G => .next (G.set i none)
  | .ret d => .ret d
  | _ => .stuck
def tryGK (i : Nat) (tbl : Cb) (o : SO) : SO := match o with
  | .exc c none G => if i < G.length then (match tbl.lookup c with
    | some m => clrS i (m (G.set i none))
    | none => .stuck) else .stuck
  | .exc _ (some _) _ => .stuck
  | o => o
def tryGS (i : Nat) (tbl : Cb) (mb : Gm → SO) : Gm → SO := fun G => tryGK i tbl (mb G)
/-- a clause's wish, from what is left -/
theorem clr_of {K : PySem.W.Frag} {ct : Nat → Addr} {i : Nat} {a : Addr} {m : Gm → SO} {F0 H0 F H : Hp} {G : Gm} {τ : L2.St} {D : Ends} (hl : i < τ.length) (r : Rep K F0 H0 F H G τ) (p : postS K ct noW F0 H0 D F (clrS i (m (G.set i none)))) :
    sMi K ct noW i a m (endsAs i D) (τ.set i (some (.ref a))) H := by
  refine ⟨by show (τ.set i (some (.ref a)))[i]? = _; rw [List.getElem?_set_self hl], F0, H0, F, G.set i none, r.forget i (some (.ref a)), ?_⟩
  revert p
  cases m (G.set i none) with
  | next G1 => exact fun p σ2 F2 H2 s r2 _ => p _ F2 H2 s (r2.forget i none)
  | ret d => exact fun p => p
  | brk G1 => exact fun p => p.elim
  | cont G1 => exact fun p => p.elim
  | exc c pl G1 => exact fun p => p.elim
  | stuck => exact fun p => p.elim
theorem clG_yes {K : PySem.W.Frag} {ct : Nat → Addr} {i c : Nat} {D : Ends} {τ : L2.St} {J : Hp} {Wo : WX} {cv : Value} {f : Cb} {m : Gm → SO} {l : List Cl} (hr : ∀ a, sMi K ct noW i a m (endsAs i D) (τ.set i (some (.ref a))) J) (h : PySem.W.exmOne K (.ref (ct c)) cv = some true) (e : f.lookup c = some m) :
    wClauses K i Wo D ((cv, clG K ct i f) :: l) (.ref (ct c)) none τ J :=
  ⟨true, h, fun _ a _ => ⟨c, m, rfl, rfl, e, hr a⟩, fun z => (nomatch z)⟩
section
variable {X : Cx} {ct : Nat → Addr} {W : WX} {n : Str} {i : Nat} {body : List Stmt} {hd : ExceptHandler} {hds : List ExceptHandler} {l : List Cl} {pos : Pos} {mb : Gm → SO} {tbl : Cb}
theorem postS_noW {K : PySem.W.Frag} {F0 H0 F : Hp} {D : Ends} {i : Nat} {o : SO} (p : postS K ct W F0 H0 D F (clrS i o)) : postS K ct noW F0 H0 D F (clrS i o) := by
  cases o <;> exact p
theorem es_tryG (hst : X.stack = X.env :: X.outer) (hfl : X.env.frame = some X.env.locals) (nd : X.N.Nodup) (at_i : X.N[i]? = some n) (loc : X.env.kindOf n = some .local)
    (hb : ∀ (W : WX) (pn : List (Addr × Obj)) (xe : Value → Shared → Prop), L2.Takes (X.tr pn xe) W → PassesOwn (model X.prog X.w) X.A X.env xe → ESs (X.tr pn xe) ct W body mb)
    (hc : Clauses X n (hd :: hds) l) (ht : EvG (fun c m => ∀ (D : Ends) (τ : L2.St) (J : Hp), (∀ a, sMi X.K ct noW i a m (endsAs i D) (τ.set i (some (.ref a))) J) → wClauses X.K i noW D l (.ref (ct c)) none τ J) tbl) : ES X ct W (.Try body (hd :: hds) [] [] pos) (tryGS i tbl mb) :=
  ps_imp (ps_try_clauses hst hfl nd at_i loc (Wo := noW) (tb := fun W => sM X.K ct W mb) takes_none5 hb hc) fun D σ H ⟨F0, H0, F, G, r, p⟩ => by
    refine ⟨F0, H0, F, G, r, ?_⟩
    unfold tryGS at p
    revert p
    cases e : mb G with
    | next G2 => exact fun p => p
    | ret d => exact fun p => p
    | brk G2 => exact fun p => p
    | cont G2 => exact fun p => p
    | stuck => exact fun p => p
    | exc c pl G2 =>
      cases pl with
      | some d => exact fun p => p.elim
      | none =>
        intro p
        unfold tryGK at p
        by_cases hl : i < G2.length
        · simp only [if_pos hl] at p
          cases et : tbl.lookup c with
          | none => rw [et] at p; exact p.elim
          | some m =>
            rw [et] at p
            intro cls dd σ2 F2 H2 sm r2 x
            obtain ⟨e1, e2⟩ := x
            subst e1
            subst e2
            exact ht.at et D σ2 H2 fun a => clr_of (by rw [← r2.len]; exact hl) r2 (postS_noW (postS_same p sm))
        · simp only [if_neg hl] at p
          exact p.elim
end
end VL

set_option Elab.async false
set_option linter.all false
set_option maxRecDepth 100000
/-! VX: enumerate over a tuple; four names from a list. -/
namespace PySem
set_option maxHeartbeats 1000000 in
theorem meets_enumerate_newT (l : Addr) (items : Array Value) (n : Nat) (dct : Option Addr) (sl : Array (Option Value)) :
    Meets (Builtin.«enumerate.__new__» ⟨[.type "enumerate", .ref l], []⟩) (fun _ R s => s.heap.get? l = some { cls := .type "tuple", dict := dct, data := .seq items n, slots := sl } ∧
      R (.ok (.ret (.ref (s.heap.push { cls := .type "tuple_iterator", data := .fields #[.ref l, .int 0 0] }).objs.size)))
        { s with heap := (s.heap.push { cls := .type "tuple_iterator", data := .fields #[.ref l, .int 0 0] }).push { cls := .type "enumerate", data := .fields #[.none, .bool false, .ref s.heap.objs.size, rawInt 0, .none, .none] } }) :=
  .of_wp fun prog w A R s h => by
    obtain ⟨hp, g, d, tk, os⟩ := s; obtain ⟨hl, h⟩ := h
    have hsub := sub_enumerate
    have hL : Heap.IsTuple (Shared.heap ⟨hp, g, d, tk, os⟩) l items := ⟨_, hl, rfl, n, rfl⟩
    wp_walk using AutoSeq1.wpAny_loadPart' hl
    refine wpAny_stack_any fun st => wpAny_pure ?_
    split
    · rename_i c _ _ _ _ _
      cases (c == Value.type "enumerate")
      · wp_walk using AutoSeq1.wpAny_loadPart' hl, wpAny_pyIter_tuple hL
        exact ⟨_, rfl, h⟩
      · wp_walk using AutoSeq1.wpAny_loadPart' hl, wpAny_pyIter_tuple hL
        exact ⟨_, rfl, h⟩
    · wp_walk using AutoSeq1.wpAny_loadPart' hl, wpAny_pyIter_tuple hL
      exact ⟨_, rfl, h⟩
section
variable {prog : Program} {w : World} {A : Around} {E : Value → Shared → Prop} {s : Shared}
theorem call_enumerate_tup {l : Addr} {items : Array Value} {Q : Value → Shared → Prop} (hL : s.heap.IsTuple l items)
    (h : ∀ h', IsEnum h' (s.heap.objs.size + 1) s.heap.objs.size 0 .none → h'.IsTupleIter s.heap.objs.size l 0 → h'.objs.size = s.heap.objs.size + 2 →
      (∀ b o, s.heap.get? b = some o → h'.get? b = some o) → Q (.ref (s.heap.objs.size + 1)) { s with heap := h' }) :
    wpAny (model prog w) A (call (.type "enumerate") [.ref l]) Q E s := by
  obtain ⟨⟨c, dct, dt, sl⟩, hl, hc, n, hd⟩ := hL
  replace hc : c = .type "tuple" := hc
  replace hd : dt = .seq items n := hd
  subst hc hd
  refine callType_new F.called_enumerate (by decide) (F.typeCall_enumerate_1 _) (F.newCall_enumerate_1 _) (fun obj => F.args_object_init_2 obj _) F.entry_enumerate_new
    (meets_enumerate_newT l items n dct sl) ⟨hl, ?_⟩
  have hz : (s.heap.push { cls := .type "tuple_iterator", data := .fields #[.ref l, .int 0 0] }).objs.size = s.heap.objs.size + 1 := Heap.size_push ..
  show _ ∧ _
  rw [hz]
  have he : IsEnum ((s.heap.push { cls := .type "tuple_iterator", data := .fields #[.ref l, .int 0 0] }).push
      { cls := .type "enumerate", data := .fields #[.none, .bool false, .ref s.heap.objs.size, rawInt 0, .none, .none] }) (s.heap.objs.size + 1) s.heap.objs.size 0 .none := by
    have := Heap.get?_push_size (s.heap.push { cls := .type "tuple_iterator", data := .fields #[.ref l, .int 0 0] })
      (o := { cls := .type "enumerate", data := .fields #[.none, .bool false, .ref s.heap.objs.size, rawInt 0, .none, .none] }) rfl
    rw [hz] at this; exact this
  refine ⟨⟨_, he, rfl⟩, h _ he ⟨_, Heap.get?_push_of_some _ (Heap.get?_push_size _ rfl), rfl, rfl⟩ (by rw [Heap.size_push, hz]) fun b o x => Heap.get?_push_of_some _ (Heap.get?_push_of_some _ x)⟩
end
end PySem
namespace VL
open PySem L2
/-- the tuple at a, each item in a new pair -/
def IteT (K : PySem.W.Frag) (a : Addr) : It :=
  ⟨fun i H => ∃ (xs : List V) (x : V), SqT K H a xs ∧ xs[i]? = some x, fun i H v H' => ∃ T x, v = .ref T ∧ H T = none ∧ (∃ o, TpO o [.int (i : Nat), x] ∧ H' = upd H T o) ∧ ∀ xs, SqT K H a xs → xs[i]? = some x, fun i H => ∃ xs : List V, SqT K H a xs ∧ xs.length = i⟩
theorem turn_enumT {P : Program} {w : World} {K : PySem.W.Frag} {elts : List Expr} {kk : Nat} {tpos : Pos} (a e it : Addr) :
    Turn P w K (.Tuple elts kk tpos) (IteT K a) [e, it] e (fun i h => (∃ old, IsEnum h e it ((i : Nat) : Int) old) ∧ h.IsTupleIter it a i ∧ e ≠ it ∧ a ≠ it ∧ e ≠ a) where
  mem := by simp
  obj := fun i h st b hb => by
    obtain ⟨⟨old, he⟩, ⟨o, ho, hc, hd⟩, _⟩ := st
    have e' : b = e ∨ b = it := by simpa using hb
    rcases e' with z | z
    · rw [z]; exact ⟨_, he, fun v q => nomatch q⟩
    · rw [z]; exact ⟨o, ho, fun v q => by rw [hd] at q; cases q⟩
  keep := fun i h h' st k => let ⟨⟨old, he⟩, hi, hne⟩ := st; ⟨⟨old, k e (by simp) _ he⟩, hi.at fun o q => k it (by simp) o q, hne⟩
  item := by
    intro X hP hw hK hc i pins s σ H E I hf st hg
    subst hP hw hK
    obtain ⟨⟨old, he⟩, hit, hne, hai, hea⟩ := st
    obtain ⟨xs, x, hq, hx⟩ := hg
    obtain ⟨its, rv, p, hz⟩ := I.tuple hq
    obtain ⟨u, hu, ru⟩ := rv.get hx
    have hu2 : its.toArray[i]? = some u := by simpa using hu
    have hel : e < s.heap.objs.size := Heap.lt_size he
    have hil : it < s.heap.objs.size := by obtain ⟨_, q, _⟩ := hit; exact Heap.lt_size q
    have hil2 : i < its.toArray.size := by
      obtain ⟨q, _⟩ := Array.getElem?_eq_some_iff.mp hu2
      exact q
    have D := Draws.tuple (prog := X.prog) (w := X.w) (A := X.A.in1) (show X.A.in1.handled = none from I.ok.hd hc) it a hai its.toArray
    refine wpAny_pyNext_enum_itemD D he ⟨hit, p⟩ hil2 hne (by simp [hne, hea]) fun y h' tk hPx ho hst hT hsz hk => ?_
    obtain rfl : y = u := Option.some.inj (hPx.symm.trans hu2)
    refine ⟨_, rfl, wpAny_letOwnedTupleGo_enum (s := { s with heap := h', toks := tk + 1 }) ho fun h'' he' sb => ?_⟩
    have hT2 : h''.get? s.heap.objs.size = some { cls := .type "tuple", data := .seq #[.int i tk, y] } := (sb.2 _ (Nat.ne_of_gt hel)).trans hT
    obtain ⟨ot, tot, new⟩ := objT (P := X.prog) (w := X.w) (xs := [.int (i : Nat), x]) hT2 rfl fun H =>
      ⟨by show 2 ≤ sizeLine; decide, [.int i tk, y], .cons ⟨_, rfl⟩ (.cons ru .nil), ⟨_, hT2, rfl, _, rfl⟩⟩
    have I1 : Inv X pins σ (upd H s.heap.objs.size ot) { s with heap := h'', toks := tk + 1 } :=
      I.turnedNew (ch := [e, it]) (fun b ob hb q => (sb.2 b (fun z => hb (by simp [z]))).trans (hk b ob (fun z => hb (by simp [z])) (fun z => hb (by simp [z])) q)) hf (Nat.le_refl _) (new _)
    refine ⟨.ref s.heap.objs.size, _, I1, rfl, ⟨_, x, rfl, I.hok.fresh (Nat.le_refl _), ⟨ot, tot, rfl⟩, fun ys hy => by rw [I.tuple_inj hy hq]; exact hx⟩, ⟨⟨y, ?_⟩, hst.1.at fun o q => (sb.2 it (Ne.symm hne)).trans q, hne, hai, hea⟩, fun b hb => ?_⟩
    · have e1 : ((i + 1 : Nat) : Int) = (i : Int) + 1 := by omega
      rw [e1]; exact he'
    · have hb' : b < s.heap.objs.size := by
        have e' : b = e ∨ b = it := by simpa using hb
        rcases e' with z | z
        · rw [z]; exact hel
        · rw [z]; exact hil
      rw [upd_ne (Nat.ne_of_lt hb')]
      exact (hf b hb).1
  done := by
    intro X hP hw hK hc i pins s σ H E I hf st hg
    subst hP hw hK
    obtain ⟨⟨old, he⟩, hit, hne, hai, hea⟩ := st
    obtain ⟨xs, hq, hx⟩ := hg
    obtain ⟨its, rv, p, hz⟩ := I.tuple hq
    obtain ⟨f0, f1, f2, f3, f4, f5⟩ := hf it (by simp)
    have hl := rv.length
    have D := Draws.tuple (prog := X.prog) (w := X.w) (A := X.A.in1) (show X.A.in1.handled = none from I.ok.hd hc) it a hai its.toArray
    have ei : i = its.toArray.size := by simp; omega
    subst ei
    exact wpAny_pyNext_enum_endD D he ⟨hit, p⟩ fun h' eb => ⟨rfl, I.turned (t' := s.toks) (fun b o hb q => eb b o hb q) f0 f1 f3 f4 f5⟩
  self := fun A i s Q E st h => let ⟨⟨_, he⟩, _⟩ := st; wpAny_pyIter_enum he h
def iEnumT (K : PySem.W.Frag) (ta : TA) : TI := fun σ H R => ta σ H fun vs H1 => ∃ a xs, vs = [.ref a] ∧ SqT K H1 a xs ∧ R (IteT K a) H1
theorem pi_enumT {X : Cx} {e : Expr} {ta : TA} {p pos tpos : Pos} {elts : List Expr} {kk : Nat} (hg : Gl X "enumerate") (hm : X.mg "enumerate" = none) (ha : PA X [e] ta) (hs : starEach [e] X.env = [(false, eval e X.env)] := by rfl) :
    PI X (.Tuple elts kk tpos) (.Call (.Name "enumerate" p) [e] [] pos) (iEnumT X.K ta) := by
  refine ⟨fun pins s σ H R I h => ?_⟩
  refine PyProof.Rows.Call_ (ld_blt I hg hm PyProof.Rows.boot_enumerate (PyProof.Rows.callWith_type1 (thn (ha.run pos pins s σ H _ I h) fun us s1 ⟨vs, H1, I1, r1, q1⟩ => ?_) hs rfl))
  obtain ⟨a, xs, ex, hq, q⟩ := q1
  subst ex
  cases r1 with
  | cons r rr =>
    cases rr
    cases r
    obtain ⟨its, rv, p', hz⟩ := I1.tuple hq
    have hal : a < s1.heap.objs.size := by obtain ⟨_, q, _⟩ := p'; exact Heap.lt_size q
    refine call_enumerate_tup p' fun h' he hit hsz hk => wpAny_pyIter_enum he ?_
    have I2 : Inv X pins σ H1 { s1 with heap := h' } := I1.kept (t' := s1.toks) hk
    refine ⟨s1.heap.objs.size + 1, [s1.heap.objs.size + 1, s1.heap.objs.size], _, _, H1, rfl, I2, turn_enumT a (s1.heap.objs.size + 1) s1.heap.objs.size, ⟨⟨.none, he⟩, hit, Nat.succ_ne_self _, Nat.ne_of_lt hal, Nat.ne_of_gt (Nat.lt_succ_of_lt hal)⟩, fun b hb => ?_, q⟩
    have e' : b = s1.heap.objs.size + 1 ∨ b = s1.heap.objs.size := by simpa using hb
    have hle : s1.heap.objs.size ≤ b := by
      rcases e' with z | z
      · rw [z]; exact Nat.le_add_right _ _
      · rw [z]; exact Nat.le_refl _
    exact I1.fpOk hle (I1.hok.fresh hle)
def enumD (ds : List PyData) : List PyData := (List.range ds.length).map fun i => .tuple [.int ((i : Nat) : Int), ds.getD i .none]
theorem enum_get {ds : List PyData} {i : Nat} {d : PyData} (h : (enumD ds)[i]? = some d) : ∃ x, ds[i]? = some x ∧ d = .tuple [.int ((i : Nat) : Int), x] := by
  unfold enumD at h
  rw [List.getElem?_map] at h
  by_cases hi : i < ds.length
  · rw [List.getElem?_range hi] at h
    cases h
    refine ⟨ds[i], List.getElem?_eq_getElem hi, ?_⟩
    show PyData.tuple [.int ((i : Nat) : Int), ds.getD i .none] = _
    rw [List.getD_eq_getElem?_getD, List.getElem?_eq_getElem hi]
    rfl
  · rw [List.getElem?_eq_none (by simpa using hi)] at h
    cases h
section
variable {K : PySem.W.Frag} {F Hs : Hp}
theorem it_enumT {a : Addr} {vs : List V} {ds : List PyData} (ha : TpA F a vs) (r : DqAll K F vs ds) : ItOk K F Hs (IteT K a) (enumD ds) where
  go := fun i F2 H2 d s1 s2 s3 e => by
    obtain ⟨y, ey, rfl⟩ := enum_get e
    obtain ⟨v, hv, rv⟩ := dpAll_get r ey
    have sq : SqT K H2 a vs := ((ha.mono s1).mono s2).sq
    refine ⟨⟨vs, v, sq, hv⟩, ?_⟩
    rintro x H3 ⟨T, w, rfl, hT, ⟨o, to, rfl⟩, hw⟩
    have hw := hw vs sq
    rw [hv] at hw
    cases hw
    have hF : F2 T = none := by
      cases ef : F2 T with
      | none => rfl
      | some o => rw [s2 _ _ ef] at hT; cases hT
    refine ⟨upd F2 T o, Ext.newF s2 hT, .tup ⟨o, upd_same, to⟩ (.cons (.int _) (.cons ?_ .nil))⟩
    exact dp_mono (same_new hF) _ _ (dp_mono s1 _ _ rv)
  stop := fun F2 H2 s1 s2 s3 => by
    refine ⟨vs, ((ha.mono s1).mono s2).sq, ?_⟩
    unfold enumD
    rw [List.length_map, List.length_range, dpAll_len r]
end
section
variable {X : Cx} {ct : Nat → Addr} {W : WX} {a b e : Expr} {ma me : Gm → EO} {pos p tpos : Pos} {elts : List Expr} {kk : Nat}
def iter_enumerateT (m : Gm → EO) : Gm → IO := fun G => match (m G).hard with
  | .ok (.tuple ds) _ => .ok (enumD ds) G
  | .exc c pl => .exc c pl
  | _ => .stuck
theorem ei_enumerateT (hm : X.mg "enumerate" = none) (ha : EE X ct W a ma) (hg : Gl X "enumerate" := by rfl) (hs : starEach [a] X.env = (false, eval a X.env) :: starEach [] X.env := by rfl) :
    EI X ct W (.Tuple elts kk tpos) (.Call (.Name "enumerate" p) [a] [] pos) (iter_enumerateT ma) :=
  pi_imp (pi_enumT hg hm (ea_cons ha (ea_nil (ct := ct) (W := W)) hs) hs) fun σ H R ⟨F0, H0, F, G, r, p⟩ => by
    refine ⟨F0, H0, F, G, r, ?_⟩
    unfold iter_enumerateT at p
    show postA X.K ct W σ F H _ ((ma G).hard.bindA fun d _ => (nilA G).bind fun ds => .ok (d :: ds))
    revert p
    cases e : (ma G).hard with
    | exc c pl => exact fun p => p
    | stuck => exact fun p => p.elim
    | ok d w =>
      intro p vs F2 H2 x q
      cases d with
      | tuple ds =>
        cases q with
        | cons h1 t =>
          cases t
          cases h1 with
          | tup hs ha => exact ⟨_, _, rfl, (hs.mono x.fh).sq, p _ F2 H2 x.ff (r.ext x) (it_enumT hs ha)⟩
      | none => exact p.elim
      | bool b => exact p.elim
      | int i => exact p.elim
      | str y => exact p.elim
      | list ds => exact p.elim
      | dict ds => exact p.elim
/-- a, b, c, d = e: e a list -/
def asg4LS (i j k l : Nat) (me : Gm → EO) : Gm → SO := fun G => (me G).bindS G fun d _ => match d with
  | .list [u, v, w, x] => .next ((((G.set i (some (.dat u))).set j (some (.dat v))).set k (some (.dat w))).set l (some (.dat x)))
  | _ => .stuck
variable {i j k l : Nat} {x y z t : Str} {px py pz pt : Pos}
theorem es_asg4L {n : Nat} {pt2 : Pos} (hc : X.calm = true) (he : EE X ct W e me) (hN : X.N.Nodup) (hi : X.N[i]? = some x := by rfl) (hx : Loc X.env.scope x := by first | exact Or.inl rfl | exact Or.inr rfl) (hf : X.fn x = true ∨ X.env.scope.names.lookup x = some .local := by first | exact .inl rfl | exact .inr rfl)
    (hj : X.N[j]? = some y := by rfl) (hy : Loc X.env.scope y := by first | exact Or.inl rfl | exact Or.inr rfl) (hg : X.fn y = true ∨ X.env.scope.names.lookup y = some .local := by first | exact .inl rfl | exact .inr rfl)
    (hk : X.N[k]? = some z := by rfl) (hz : Loc X.env.scope z := by first | exact Or.inl rfl | exact Or.inr rfl) (hh : X.fn z = true ∨ X.env.scope.names.lookup z = some .local := by first | exact .inl rfl | exact .inr rfl)
    (hl : X.N[l]? = some t := by rfl) (ht : Loc X.env.scope t := by first | exact Or.inl rfl | exact Or.inr rfl) (hu : X.fn t = true ∨ X.env.scope.names.lookup t = some .local := by first | exact .inl rfl | exact .inr rfl)
    (hs : swapsWithSole [.Tuple [.Name x px, .Name y py, .Name z pz, .Name t pt] n pt2] e pos.line X.env = pure false := by rfl) (hw : swappedStores [.Tuple [.Name x px, .Name y py, .Name z pz, .Name t pt] n pt2] e X.env = pure none := by rfl) :
    ES X ct W (.Assign [.Tuple [.Name x px, .Name y py, .Name z pz, .Name t pt] n pt2] e pos) (asg4LS i j k l me) :=
  ps_imp (ps_asg he (pg_unl (n := 4) hc (pgs_cons (pg_name hN hi hx hf) (pgs_cons (pg_name hN hj hy hg) (pgs_cons (pg_name hN hk hz hh) (pgs_cons (pg_name hN hl ht hu) pgs_nil))))) hs hw) fun D σ H ⟨F0, H0, F, G, r, p⟩ => by
    refine ⟨F0, H0, F, G, r, post_mono (post_S (k := fun d _ => match d with
      | .list [u, v, w, x] => .next ((((G.set i (some (.dat u))).set j (some (.dat v))).set k (some (.dat w))).set l (some (.dat x)))
      | _ => .stuck) r p) fun v H1 ⟨d, w, F1, x1, q, r1, p1⟩ => ?_⟩
    split at p1
    · obtain ⟨_, b, vs, rfl, hb, ra⟩ := VV.of x1.fh q
      cases ra with
      | cons h1 t1 =>
        cases t1 with
        | cons h2 t2 =>
          cases t2 with
          | cons h3 t3 =>
            cases t3 with
            | cons h4 t4 =>
              cases t4
              exact ⟨_, _, rfl, SqL.of hb, rfl, _, _, rfl, _, _, rfl, _, _, rfl, _, _, rfl, rfl, p1 _ F1 H1 (Same.refl _) ((((r1.dat i h1).dat j h2).dat k h3).dat l h4)⟩
    · exact p1.elim
end
end VL

set_option Elab.async false
set_option linter.all false
set_option maxRecDepth 100000
/-! VY: a < b < c < d. -/
namespace VL
open PySem PySem.Spec PyProof.Rows L2
def tChain3 (r1 r2 r3 : R2) (ta tb tc td : TE) : TE := fun σ H Q => ta σ H fun x H1 => tb σ H1 fun y H2 => r1 x y H2 fun z H3 => ∃ k, z = .bl k ∧
  (if k = true then tc σ H3 fun w' H4 => r2 y w' H4 fun z2 H5 => ∃ k2, z2 = .bl k2 ∧ (if k2 = true then td σ H5 fun u' H6 => r3 w' u' H6 Q else Q (.bl false) H5) else Q (.bl false) H3)
section
variable {X : Cx} {ct : Nat → Addr} {W : WX} {a b c d : Expr} {ta tb tc td : TE} {ma mb mc md : Gm → EO} {pos : Pos}
theorem pe_chain3 {o1 o2 o3 : CmpOp} {r1 r2 r3 : R2} (h1 : OpR X (compareOp o1) r1) (h2 : OpR X (compareOp o2) r2) (h3 : OpR X (compareOp o3) r3) (ha : PE X a ta) (hb : PE X b tb) (hc : PE X c tc) (hd : PE X d td)
    (hm : lastMarks [o1, o2, o3] [b, c, d] = false := by with_unfolding_all rfl) : PE X (.Compare a [o1, o2, o3] [b, c, d] pos) (tChain3 r1 r2 r3 ta tb tc td) := by
  refine ⟨fun pins s σ H Q I h => ?_⟩
  refine Compare_chain (thn (ha.run pins s σ H _ I h) fun v s1 ⟨x, H1, I1, e1, q1⟩ => chain_link (thn (hb.run pins s1 σ H1 _ I1 q1) fun u s2 ⟨y, H2, I2, e2, q2⟩ =>
    thn (h1 pins s2 σ H2 x y v u _ I2 e1 e2 q2) fun d s3 ⟨z, H3, I3, e3, k, e, q3⟩ => ?_)) hm
  subst e
  cases e3
  refine wpAny_truthy_bool ?_
  cases k with
  | false => exact ite_ff ⟨.bl false, H3, I3, rfl, q3⟩
  | true =>
    refine ite_tt (chain_link (thn (hc.run pins s3 σ H3 _ I3 q3) fun w' s4 ⟨z', H4, I4, e4, q4⟩ => thn (h2 pins s4 σ H4 y z' u w' _ I4 e2 e4 q4) fun d5 s5 ⟨z5, H5, I5, e5, k5, e, q5⟩ => ?_))
    subst e
    cases e5
    refine wpAny_truthy_bool ?_
    cases k5 with
    | false => exact ite_ff ⟨.bl false, H5, I5, rfl, q5⟩
    | true => exact ite_tt (chain_last (thn (hd.run pins s5 σ H5 _ I5 q5) fun w6 s6 ⟨z6, H6, I6, e6, q6⟩ => h3 pins s6 σ H6 z' z6 w' w6 Q I6 e4 e6 q6))
def chainE3 (g1 g2 g3 : PyData → PyData → EO) (ma mb mc md : Gm → EO) : Gm → EO := fun G => (ma G).bind fun d _ => (mb G).bind fun e _ => (g1 d e).bind fun z _ => match z with
  | .bool true => (mc G).bind fun f _ => (g2 e f).bind fun z2 _ => match z2 with
    | .bool true => (md G).bind fun h _ => g3 f h
    | .bool false => .ok (.bool false) .frz
    | _ => .stuck
  | .bool false => .ok (.bool false) .frz
  | _ => .stuck
theorem chain3_of {K : PySem.W.Frag} {r1 r2 r3 : R2} {g1 g2 g3 : PyData → PyData → EO} (h1 : G2 K r1 g1) (h2 : G2 K r2 g2) (h3 : G2 K r3 g3) {σ : L2.St} {H : Hp} {Q : VK} (h : tM K ct W (chainE3 g1 g2 g3 ma mb mc md) σ H Q) : tChain3 r1 r2 r3 (tM K ct W ma) (tM K ct W mb) (tM K ct W mc) (tM K ct W md) σ H Q := by
  refine tM_mono (tM_view (k := fun G d => (mb G).bind fun e _ => (g1 d e).bind fun z _ => match z with
    | .bool true => (mc G).bind fun f _ => (g2 e f).bind fun z2 _ => match z2 with
      | .bool true => (md G).bind fun h _ => g3 f h
      | .bool false => .ok (.bool false) .frz
      | _ => .stuck
    | .bool false => .ok (.bool false) .frz
    | _ => .stuck) h) fun v H1 ⟨F0, H0, F1, G, d, rp, vv, p⟩ => ?_
  refine tM_mono (tM_viewAt rp p) fun u H2 ⟨F2, e, x, vu, p2⟩ => ?_
  refine h1 ct W σ F2 H2 v u d e _ x.fh (vv.mono x) vu ?_
  refine post_mono (post_bind p2) fun z H3 ⟨dz, w, F3, x3, rz, p3⟩ => ?_
  have vz := VV.of x3.fh rz
  split at p3
  · refine ⟨true, vz.bl, iteT ?_⟩
    have rp3 := (rp.ext x).ext x3
    refine tM_mono (tM_viewAt (k := fun f => (g2 e f).bind fun z2 _ => match z2 with
      | .bool true => (md G).bind fun h _ => g3 f h
      | .bool false => .ok (.bool false) .frz
      | _ => .stuck) rp3 p3) fun t H4 ⟨F4, f, x4, vt, p4⟩ => ?_
    refine h2 ct W σ F4 H4 u t e f _ x4.fh ((vu.mono x3).mono x4) vt ?_
    refine post_mono (post_bind p4) fun z5 H5 ⟨dz5, w5, F5, x5, rz5, p5⟩ => ?_
    have vz5 := VV.of x5.fh rz5
    split at p5
    · refine ⟨true, vz5.bl, iteT ?_⟩
      refine tM_mono (tM_viewAt ((rp3.ext x4).ext x5) p5) fun t6 H6 ⟨F6, f6, x6, vt6, p6⟩ => ?_
      exact h3 ct W σ F6 H6 t t6 f f6 Q x6.fh ((vt.mono x5).mono x6) vt6 p6
    · exact ⟨false, vz5.bl, iteF (ok_frz x5.fh (.bl _) p5)⟩
    · exact p5.elim
  · exact ⟨false, vz.bl, iteF (ok_frz x3.fh (.bl _) p3)⟩
  · exact p3.elim
theorem ee_chain3 {o1 o2 o3 : CmpOp} {g1 g2 g3 : PyData → PyData → EO} (h1 : Cm X o1 g1) (h2 : Cm X o2 g2) (h3 : Cm X o3 g3) (ha : EE X ct W a ma) (hb : EE X ct W b mb) (hc : EE X ct W c mc) (hd : EE X ct W d md)
    (hm : lastMarks [o1, o2, o3] [b, c, d] = false := by with_unfolding_all rfl) : EE X ct W (.Compare a [o1, o2, o3] [b, c, d] pos) (chainE3 g1 g2 g3 ma mb mc md) := by
  obtain ⟨r1, p1, k1⟩ := h1.ex
  obtain ⟨r2, p2, k2⟩ := h2.ex
  obtain ⟨r3, p3, k3⟩ := h3.ex
  exact pe_imp (pe_chain3 p1 p2 p3 ha hb hc hd hm) fun _ _ _ h => chain3_of k1 k2 k3 h
end
end VL

set_option Elab.async false
set_option linter.all false
set_option maxRecDepth 100000
/-! V1: sorted(set(xs)), xs a list of tuples of small ints. -/
namespace VL
open PySem L2
def dedupT : List (List Int) → List (List Int)
  | [] => []
  | x :: xs => if x ∈ xs then dedupT xs else x :: dedupT xs
theorem mem_dedupT {x : List Int} : ∀ {xs : List (List Int)}, x ∈ dedupT xs ↔ x ∈ xs
  | [] => Iff.rfl
  | y :: xs => by
    unfold dedupT
    split
    · rename_i h
      rw [mem_dedupT, List.mem_cons]
      exact ⟨.inr, fun z => z.elim (fun e => e ▸ h) id⟩
    · rw [List.mem_cons, List.mem_cons, mem_dedupT]
theorem nodup_dedupT : ∀ xs : List (List Int), (dedupT xs).Nodup
  | [] => List.nodup_nil
  | y :: xs => by
    unfold dedupT
    split
    · exact nodup_dedupT xs
    · rename_i h
      exact List.nodup_cons.mpr ⟨fun z => h (mem_dedupT.mp z), nodup_dedupT xs⟩
def gSortSet : PyData → EO
  | .list ds => match intTups ds with
    | some nss => if (decide (nss.length < 64) && nss.all (okT (nss.headD [0]).length) && decide (1 ≤ (nss.headD [0]).length)) = true then .ok (.list ((isortT (dedupT nss)).map tupD)) .new else .stuck
    | none => .stuck
  | _ => .stuck
theorem keyed {K : PySem.W.Frag} {F : Hp} : ∀ {nss : List (List Int)} {vs : List V}, DqAll K F vs (nss.map tupD) → ∃ ks : List (Addr × List Int), vs = ks.map (fun p => V.ref p.1) ∧ nss = ks.map (·.2) ∧ ∀ p ∈ ks, Dq K F (.ref p.1) (tupD p.2)
  | [], _, h => by
    cases h
    exact ⟨[], rfl, rfl, fun p hp => by cases hp⟩
  | n :: nss, _, h => by
    cases h with
    | cons h1 t =>
      obtain ⟨ks, e1, e2, e3⟩ := keyed t
      cases h1 with
      | @tup a us _ hs ha =>
        refine ⟨(a, n) :: ks, by rw [e1]; rfl, by rw [e2]; rfl, fun p hp => ?_⟩
        rcases List.mem_cons.mp hp with z | z
        · rw [z]
          exact .tup hs ha
        · exact e3 p z
theorem keyed_dq {K : PySem.W.Frag} {F : Hp} : ∀ {ks : List (Addr × List Int)}, (∀ p ∈ ks, Dq K F (.ref p.1) (tupD p.2)) → DqAll K F (ks.map fun p => V.ref p.1) ((ks.map (·.2)).map tupD)
  | [], _ => .nil
  | k :: ks, h => .cons (h k List.mem_cons_self) (keyed_dq fun p hp => h p (List.mem_cons_of_mem _ hp))
section
variable {X : Cx} {ct : Nat → Addr} {W : WX} {a : Expr} {ma : Gm → EO} {pos p p2 pos2 : Pos} {k : Nat}
theorem sort_uniq {l : List (List Int)} {nss : List (List Int)} {d : Nat} (hok : ∀ x ∈ nss, okT d x = true) (hm : ∀ x, x ∈ l ↔ x ∈ nss) (nd : l.Nodup) (hs : l.Pairwise fun a b => codeT a ≤ codeT b) : l = isortT (dedupT nss) := by
  have pm : l.Perm (dedupT nss) := (List.perm_ext_iff_of_nodup nd (nodup_dedupT nss)).mpr fun x => (hm x).trans mem_dedupT.symm
  refine map_inj_on (f := codeT) (fun x hx y hy h => ?_) (sorted_same ((pm.trans (isortT_perm _).symm).map codeT) (List.pairwise_map.mpr hs) (List.pairwise_map.mpr (isortT_sorted _)))
  obtain ⟨lx, bx⟩ := bd_of (hok x ((hm x).mp hx))
  obtain ⟨ly, by2⟩ := bd_of (hok y (mem_dedupT.mp ((isortT_perm _).mem_iff.mp hy)))
  exact code_inj (lx.trans ly.symm) bx by2 h
theorem ee_sortSet (hc : X.calm = true) (hr : Room k X.A) (hm : X.mg "sorted" = none) (hm2 : X.mg "set" = none) (ha : EE X ct W a ma) (hg : Gl X "sorted" := by rfl) (hg2 : Gl X "set" := by rfl) (hs2 : starEach [a] X.env = (false, eval a X.env) :: starEach [] X.env := by rfl)
    (hs : starEach [.Call (.Name "set" p2) [a] [] pos2] X.env = (false, eval (.Call (.Name "set" p2) [a] [] pos2) X.env) :: starEach [] X.env := by rfl) :
    EE X ct W (.Call (.Name "sorted" p) [.Call (.Name "set" p2) [a] [] pos2] [] pos) (op1 gSortSet ma) :=
  pe_imp (pe_callB (cr_sortedT hc) hg hm (by decide +kernel) (pa_cons (pe_callTy (cr_setOfT hc (by have := hr.un; omega)) hg2 hm2 (by decide +kernel) (pa_cons ha pa_nil hs2) (he := hs2) (hpl := rfl)) pa_nil hs) (he := hs) (hpl := rfl)) fun σ H Q h => by
    refine tM_mono (tM_view (k := fun _ d => gSortSet d) h) fun v H1 ⟨F0, H0, F1, G, d, rp, vv, q⟩ => ?_
    unfold gSortSet at q
    split at q
    · split at q
      · rename_i ds nss e
        split at q
        · rename_i hcnd
          rw [Bool.and_eq_true, Bool.and_eq_true, decide_eq_true_eq, decide_eq_true_eq, List.all_eq_true] at hcnd
          obtain ⟨⟨h64, hall⟩, h1⟩ := hcnd
          have ed := intTups_eq e
          subst ed
          obtain ⟨_, b, vs, rfl, hb, ra⟩ := vv
          obtain ⟨ks, e1, e2, hk⟩ := keyed ra
          have sqOf : ∀ p ∈ ks, SqT X.K H1 p.1 (p.2.map V.int) := fun p hp => by
            obtain ⟨t, et, sq⟩ := tupI_of rp.fh (hk p hp)
            cases et
            exact sq
          refine ⟨b, ks, rfl, by rw [← e1]; exact SqL.of hb, sqOf, by have := congrArg List.length e2; rw [List.length_map] at this; omega, fun c L hcn hsub hcov => ?_⟩
          have st : Same H1 (upd H1 c (SetTO X.prog X.w c L)) := same_new hcn
          refine ⟨c, L, (nss.headD [0]).length, 64, rfl, upd_same, fun p hp => sqT_mono st (sqOf p (hsub p hp)), h1, fun p hp => bd_of (hall p.2 (by rw [e2]; exact List.mem_map.mpr ⟨p, hsub p hp, rfl⟩)), fun L2 l hpm hnd _ hpw hl => ?_⟩
          have hl1 : H1 l = none := by
            by_cases z : l = c
            · subst z; exact hcn
            · rw [upd_ne z] at hl; exact hl
          have same : L2.map (·.2) = isortT (dedupT nss) := sort_uniq hall (fun x => by
            constructor
            · intro hx
              obtain ⟨p, hp, rfl⟩ := List.mem_map.mp hx
              rw [e2]
              exact List.mem_map.mpr ⟨p, hsub p (hpm.mem_iff.mp hp), rfl⟩
            · intro hx
              rw [e2] at hx
              obtain ⟨p, hp, rfl⟩ := List.mem_map.mp hx
              obtain ⟨p2, hp2, e3⟩ := List.mem_map.mp (hcov p hp)
              exact List.mem_map.mpr ⟨p2, hpm.mem_iff.mpr hp2, e3⟩) hnd (List.pairwise_map.mpr hpw)
          have x1 : Ext F1 H1 F1 (upd H1 c (SetTO X.prog X.w c L)) := Ext.new rp.fh hcn
          have x2 : Ext F1 (upd H1 c (SetTO X.prog X.w c L)) F1 (upd (upd H1 c (SetTO X.prog X.w c L)) l (.lst (L2.map fun q => V.ref q.1))) := Ext.new x1.fh hl
          have dq := keyed_dq (ks := L2) fun p hp => hk p (hsub p (hpm.mem_iff.mp hp))
          rw [same] at dq
          exact q (.ref l) F1 _ (x1.trans x2) ⟨l, _, _, rfl, rfl, hl1, rp.fh.free hl1, upd_same, dq⟩
        · exact q.elim
      · exact q.elim
    · exact q.elim
end
end VL

set_option Elab.async false
set_option linter.all false
set_option maxRecDepth 100000
set_option maxHeartbeats 4000000
/-! V2: tuples of small ints sorted, as many as there may be; the keys of a dict with tuple keys sorted. -/
namespace VL
open PySem PySem.Spec PyProof.Rows L2
/-- by the codes of the tuples, as they lie in the heap h -/
abbrev ltC (h : Heap) (u v : Value) : Bool := decide (TS.code 64 (TS.intsOf h u) < TS.code 64 (TS.intsOf h v))
theorem ltC_swo (h : Heap) : SrtO.Swo (ltC h) := by
  refine ⟨fun x y c => ?_, fun x y z c1 c2 => ?_⟩
  · have := of_decide_eq_true c
    exact decide_eq_false (by omega)
  · have := of_decide_eq_false c1
    have := of_decide_eq_false c2
    exact decide_eq_false (by omega)
section
variable {prog : Program} {w : World} {A : Around} {E : Value → Shared → Prop} {s : Shared}
theorem tups_cmp {h0 : Heap} {vs : List Value} {d : Nat} (hx : TS.TupsOk s.heap d 64 vs) (h0e : ∀ v ∈ vs, TS.intsOf h0 v = TS.intsOf s.heap v) : SrtO.Cmp prog w A s (tuples' true) (fun p => p.1 ∈ vs) (SrtO.lt2 (ltC h0)) := by
  intro p q mp mq
  show wpAny (model prog w) A (keyLt' (tuples' true) p.1 q.1) (fun r s2 => s2 = s ∧ r = ltC h0 p.1 q.1) (fun _ _ => False) s
  have e : ltC h0 p.1 q.1 = decide (TS.code 64 (TS.intsOf s.heap p.1) < TS.code 64 (TS.intsOf s.heap q.1)) := by
    unfold ltC
    rw [h0e _ mp, h0e _ mq]
  rw [e]
  obtain ⟨ns, tp, lp, bp⟩ := hx _ mp
  obtain ⟨ms, tq, lq, bq⟩ := hx _ mq
  rw [tp.ints, tq.ints]
  obtain ⟨a, xs, e1, ⟨o, ho, _, n, hd⟩, i⟩ := tp
  obtain ⟨b, ys, e2, ⟨o2, ho2, _, n2, hd2⟩, j⟩ := tq
  rw [e1, e2]
  refine PySem.W.kat_lt ho hd ho2 hd2 ?_
  have sz : decide (xs.size < ys.size) = false := by
    have l1 := i.length
    have l2 := j.length
    rw [Array.length_toList] at l1 l2
    exact decide_eq_false (by omega)
  rw [sz]
  exact TS.lex_ints 0 i j (by omega) bp bq ⟨rfl, rfl⟩
theorem tups_sortable {a : Addr} {vs : List Value} {d : Nat} (h0 : Heap) (hd : 1 ≤ d) (h2 : 0 < vs.length) (hx : TS.TupsOk s.heap d 64 vs) (h0e : ∀ v ∈ vs, TS.intsOf h0 v = TS.intsOf s.heap v) (ha : ∀ o, s.heap.get? a = some o → o.cls ≠ .type "tuple") : SrtO.SortableO prog w A s a vs (ltC h0) := by
  intro h3 keep
  have kp : ∀ b o, s.heap.get? b = some o → o.cls = .type "tuple" → h3.get? b = some o := fun b o e c => keep b o (fun z => by subst z; exact ha o e c) e
  have hx3 := hx.keeps kp
  obtain ⟨fs, k, hl, hi⟩ := TS.firsts_of hd vs hx3
  refine ⟨tuples' true, fun Q E2 hq => ?_, tups_cmp (s := { s with heap := h3 }) hx3 fun v hv => ?_⟩
  · refine PySem.W.kat_kind (T := Value.type "int") k (by omega) (fun f hf => ?_) rfl ?_
    · obtain ⟨n, t, rfl⟩ := hi f hf
      exact PySem.W.Looks.of_pure rfl
    · have e : (Value.type "int" != Value.type "tuple") = true := by first | decide +kernel | rfl | decide
      rw [e]
      exact hq
  · obtain ⟨ns, t, _, _⟩ := hx v hv
    rw [h0e v hv, t.ints, (t.keeps kp).ints]
/-- the keys of a dict, as they stand in its entries -/
theorem kdl_raw {d : Addr} {es : Array DictEntry} {ep : Nat} (lo : (d == sysModules) = false) : PySem.W.KdlSrc prog w "dict" d d es.size (fun i v => ∃ en, es[i]? = some en ∧ v = en.key) (fun h => ∃ o, h.get? d = some o ∧ o.ExactDict ∧ o.data = .dict es ep) where
  type := fun _ ⟨o, ho, hc, _⟩ => ⟨o, ho, hc.1⟩
  there := fun _ ⟨o, ho, _⟩ => ⟨Heap.lt_size ho, Heap.lt_size ho⟩
  keep := fun _ _ ⟨o, ho, r⟩ hk => ⟨o, hk d (.inl rfl) o ho, r⟩
  notList := by decide
  notTuple := by decide
  hint := fun _ _ _ _ ⟨o, ho, hc, _⟩ hq => PySem.W.kdl_hint_dict ⟨o, ho, hc.1⟩ hq
  iter := fun A s hh ⟨o, ho, hc, hdat⟩ => by
    have hlt := Heap.lt_size ho
    refine ⟨_, fun i h => h.IsKeyIter s.heap.objs.size d i es.size ep ∧ h.get? d = some o, fun E Q hq => L2.iter_keys lo ho hc hdat hq, ?_, ⟨⟨_, Heap.get?_push_size _ rfl, rfl, rfl⟩, Heap.get?_push_of_some _ ho⟩⟩
    refine ⟨by simp, fun i h h2 st k => ⟨st.1.at fun oi e => k _ (by simp) oi e, k d (by simp) o st.2⟩, fun i s2 Q E hi st hQ => ?_, fun s2 Q E st hQ => ?_, fun i s2 Q E st hQ => ?_⟩
    · obtain ⟨en, hen⟩ : ∃ en, es[i]? = some en := ⟨es[i], Array.getElem?_eq_getElem hi⟩
      exact L2.next_key_item st.1 st.2 hdat rfl hen fun h2 st2 sb => hQ en.key h2 s2.toks ⟨en, hen, rfl⟩ ⟨st2, (sb.2 d (Nat.ne_of_lt hlt)).trans st.2⟩ fun b ob hb e => (sb.2 b (by simpa using hb)).trans e
    · exact L2.next_key_end hh st.1 st.2 hdat rfl (Nat.le_refl _) fun h2 eb => hQ h2 s2.toks fun b ob hb e => eb b ob (by simpa using hb) e
    · exact wpAny_pyIter_keyiter st.1 hQ
end
theorem ents_dom {P : Program} {w : World} {H : Hp} : ∀ {kvs : List (List Key × V)} {xs : List (List Key × Addr × Value)} {es : List DictEntry}, Paired (fun (p : List Key × V) (q : List Key × Addr × Value) => p.1 = q.1 ∧ H q.2.1 = some (.tup (p.1.map kV)) ∧ RelV p.2 q.2.2) kvs xs →
    es = xs.map (entryOfKey (tupleKind (mixKind P w))) → es.length = kvs.length ∧ ∀ (i : Nat) (k : List Key) (v : V), kvs[i]? = some (k, v) → ∃ (en : DictEntry) (q : Addr), es[i]? = some en ∧ en.key = Value.ref q ∧ H q = some (.tup (k.map kV))
  | _, _, _, .nil, e => by
    subst e
    exact ⟨rfl, fun i k v z => by simp at z⟩
  | (k0, v0) :: kvs, x :: xs, _, .cons h t, e => by
    subst e
    obtain ⟨l, g⟩ := ents_dom t rfl
    refine ⟨by rw [List.map_cons, List.length_cons, List.length_cons, l], fun i k v z => ?_⟩
    cases i with
    | zero =>
      cases z
      exact ⟨_, _, rfl, rfl, h.2.1⟩
    | succ i => exact g i k v (by simpa using z)
/-- sorted(d), the keys tuples of as many small ints -/
def rSortDT : List V → Hp → VK → Prop := fun vs H Q => ∃ (a : Addr) (kvs : List (List Key × V)) (nss : List (List Int)) (d : Nat), vs = [V.ref a] ∧ H a = some (.dT kvs) ∧ kvs.map (·.1) = nss.map (fun ns => ns.map Sum.inl) ∧ 1 ≤ d ∧ (∀ ns ∈ nss, ns.length = d ∧ TS.Bd 64 ns) ∧
  ∀ (L : List (Addr × List Int)) (p : Addr), (L.map (·.2)).Perm nss → L.Pairwise (fun q r => TS.code 64 q.2 ≤ TS.code 64 r.2) → (∀ q ∈ L, H q.1 = some (.tup (q.2.map V.int))) → H p = none → Q (.ref p) (upd H p (.lst (L.map fun q => V.ref q.1)))
theorem keys_list {H : Hp} : ∀ {acc : List Value} {kvs : List (List Key × V)} {nss : List (List Int)}, kvs.map (·.1) = nss.map (fun ns => ns.map Sum.inl) → acc.length = kvs.length → (∀ (i : Nat) (k : List Key) (v : V), kvs[i]? = some (k, v) → ∃ q, acc[i]? = some (Value.ref q) ∧ H q = some (.tup (k.map kV))) →
    ∃ ks : List (Addr × List Int), acc = ks.map (fun q => Value.ref q.1) ∧ ks.map (·.2) = nss ∧ ∀ q ∈ ks, H q.1 = some (.tup (q.2.map V.int))
  | [], [], nss, hn, _, _ => by
    cases nss with
    | nil => exact ⟨[], rfl, rfl, fun q hq => by cases hq⟩
    | cons n nss => cases hn
  | [], _ :: _, _, _, hl, _ => by cases hl
  | _ :: _, [], _, _, hl, _ => by cases hl
  | u :: acc, (k, v) :: kvs, nss, hn, hl, h => by
    cases nss with
    | nil => cases hn
    | cons n nss =>
      rw [List.map_cons, List.map_cons] at hn
      obtain ⟨hk, hn2⟩ := List.cons.inj hn
      obtain ⟨q, hq, hH⟩ := h 0 k v rfl
      cases hq
      obtain ⟨ks, e1, e2, e3⟩ := keys_list (acc := acc) (kvs := kvs) (nss := nss) hn2 (by simpa using hl) fun i k v z => by
        obtain ⟨q, hq, r⟩ := h (i + 1) k v (by simpa using z)
        exact ⟨q, by simpa using hq, r⟩
      have hk2 : k = n.map Sum.inl := hk
      refine ⟨(q, n) :: ks, by rw [e1]; rfl, by rw [List.map_cons, e2], fun r hr => ?_⟩
      rcases List.mem_cons.mp hr with z | z
      · rw [z]
        rw [hk2, List.map_map] at hH
        exact hH
      · exact e3 r z
theorem cr_sortDT {X : Cx} (hc : X.calm = true) : CallR X (.builtin "sorted") rSortDT := by
  rintro pins s σ H vs us Q I r ⟨a, kvs, nss, d, rfl, ha, hks, hd, hB, q⟩
  obtain ⟨u, rfl, rx⟩ := vals1 r
  cases rx
  obtain ⟨hz, lo, xs, pr, o, es, ep, ho, hx, hdat, hes, _⟩ := I.hok a _ ha
  obtain ⟨hlen, hent⟩ := ents_dom pr hes
  have hsz : es.size = kvs.length := by rw [← Array.length_toList]; exact hlen
  refine Calls.call_function_entry PyProof.Rows.kind_sorted PyProof.Rows.plain_sorted PyProof.Rows.entry_sorted (PyProof.Rows.args_sorted1 _) ?_
  unfold Builtin.«sorted»
  refine wpAny_bind (m := checkCount "sorted" 1 1 _) (wpAny_pure ?_)
  refine wpAny_bind (PySem.W.kdu_collect (A := X.A.in1) (kdl_raw (es := es) (ep := ep) lo) (I.ok.hd hc) ⟨o, ho, hx, hdat⟩ (by rw [hsz]; exact hz) fun h2 tk acc hk hacc => ?_)
  have hal : acc.toList.length = kvs.length := by rw [Array.length_toList, hacc.1, hsz]
  obtain ⟨ks, e1, e2, e3⟩ := keys_list (H := H) (acc := acc.toList) (kvs := kvs) (nss := nss) hks hal fun i k v z => by
    obtain ⟨en, qa, g1, g2, g3⟩ := hent i k v z
    have hi : i < acc.size := by
      have := (List.getElem?_eq_some_iff.mp z).1
      rw [← Array.length_toList, hal]
      exact this
    have hv : acc[i]? = some acc[i] := Array.getElem?_eq_getElem hi
    obtain ⟨en2, f1, f2⟩ := hacc.2 i _ hv
    rw [← Array.getElem?_toList, g1] at f1
    cases f1
    exact ⟨qa, by rw [Array.getElem?_toList, hv, f2, g2], g3⟩
  have I1 : Inv X pins σ H { s with heap := h2, toks := tk } := I.kept hk
  have tk1 : ∀ q ∈ ks, TS.TupInts h2 (.ref q.1) q.2 := fun p hp => by
    obtain ⟨_, its, rv, ht⟩ := I1.hok p.1 _ (e3 p hp)
    exact ⟨p.1, its.toArray, rfl, ht, intsAre_of rv⟩
  refine wpAny_bind (wpAny_newList ?_ (by rw [hal]; exact hz))
  have hoL : (h2.push (seqObj "list" acc.toList.toArray 0)).get? h2.objs.size = some (seqObj "list" acc.toList.toArray 0) := Heap.get?_push_size _ rfl
  show wpAny _ _ _ _ _ { s with heap := h2.push (seqObj "list" acc.toList.toArray 0), toks := tk }
  have tok : TS.TupsOk (h2.push (seqObj "list" acc.toList.toArray 0)) d 64 acc.toList := fun v hv => by
    rw [e1] at hv
    obtain ⟨p, hp, rfl⟩ := List.mem_map.mp hv
    obtain ⟨l1, b1⟩ := hB p.2 (by rw [← e2]; exact List.mem_map.mpr ⟨p, hp, rfl⟩)
    exact ⟨p.2, (tk1 p hp).keeps fun b o e _ => Heap.get?_push_of_some _ e, l1, b1⟩
  have same : ∀ v ∈ acc.toList, TS.intsOf h2 v = TS.intsOf (h2.push (seqObj "list" acc.toList.toArray 0)) v := fun v hv => by
    rw [e1] at hv
    obtain ⟨p, hp, rfl⟩ := List.mem_map.mp hv
    rw [(tk1 p hp).ints, ((tk1 p hp).keeps fun b o e _ => Heap.get?_push_of_some _ e).ints]
  refine wpAny_bind (wpAny_holding (wpAny_call_entry PyProof.Rows.slot_list_sort ⟨_, hoL, rfl⟩ PyProof.Rows.entry_list_sort
    (SrtO.list_sort_ord (s := { s with heap := h2.push (seqObj "list" acc.toList.toArray 0), toks := tk }) (ltC_swo h2) hoL (by rw [hal]; exact hz) (fun h2l => tups_sortable (s := { s with heap := h2.push (seqObj "list" acc.toList.toArray 0), toks := tk }) h2 hd (by omega) tok same fun o e => by
      rw [hoL] at e
      cases e
      intro c
      exact absurd (Value.type.inj c) (by decide)) fun out hs hb => ⟨_, rfl, ?_⟩)
    (PyProof.Rows.args_list_sort _)))
  obtain ⟨L, pm, eL⟩ := perm_map (f := fun q : Addr × List Int => Value.ref q.1) (m := ks) (l := out) (by rw [← e1]; exact hb.perm)
  obtain ⟨e4, he4⟩ := PyProof.Rows.sortedHeap_at (vs := acc.toList) (out := out.toArray) hoL
  have hvals : Vals (L.map fun q => V.ref q.1) out := by
    rw [eL]
    exact vals_of_refs L
  have hlenL : (L.map fun q => V.ref q.1).length ≤ sizeLine := by
    rw [List.length_map, pm.length_eq]
    have := congrArg List.length e1
    rw [List.length_map] at this
    omega
  have hpw : L.Pairwise fun q r => TS.code 64 q.2 ≤ TS.code 64 r.2 := by
    have h3 : out.Pairwise fun u v => ltC h2 v u = false := hs
    rw [eL, List.pairwise_map] at h3
    refine List.Pairwise.imp_of_mem (fun {x y} hx hy z => ?_) h3
    have := of_decide_eq_false z
    rw [(tk1 x (pm.mem_iff.mp hx)).ints, (tk1 y (pm.mem_iff.mp hy)).ints] at this
    omega
  refine wpAny_pure ⟨_, rfl, .ref h2.objs.size, upd H h2.objs.size (.lst (L.map fun q => V.ref q.1)), I1.laid (t' := tk) (fun b u e => ?_) (Nat.le_refl _)
    (show ObjOk X.prog X.w _ _ _ (.lst (L.map fun q => V.ref q.1)) from ⟨hlenL, out, e4, hvals, he4⟩), rfl, q L _ (by rw [← e2]; exact pm.map _) hpw (fun p hp => e3 p (pm.mem_iff.mp hp)) (I1.hok.fresh (Nat.le_refl _))⟩
  have hb2 : b < h2.objs.size := Heap.lt_size e
  rw [PyProof.Rows.sortedHeap_old (Nat.ne_of_lt hb2) (by rw [size_push']; exact Nat.lt_succ_of_lt hb2)]
  exact Heap.get?_push_of_some _ e
end VL

set_option Elab.async false
set_option linter.all false
set_option maxRecDepth 100000
set_option maxHeartbeats 4000000
/-! V5: sorted of ints (a list, a tuple), x.index(v) of a list of ints. -/
namespace VL
open PySem PySem.Spec PyProof.Rows L2
def insI (x : Int) : List Int → List Int
  | [] => [x]
  | y :: ys => if x ≤ y then x :: y :: ys else y :: insI x ys
def isortI : List Int → List Int
  | [] => []
  | x :: xs => insI x (isortI xs)
theorem insI_perm (x : Int) : ∀ ys, (insI x ys).Perm (x :: ys)
  | [] => .refl _
  | y :: ys => by
    unfold insI
    split
    · exact .refl _
    · exact ((insI_perm x ys).cons y).trans (.swap _ _ _)
theorem isortI_perm : ∀ xs, (isortI xs).Perm xs
  | [] => .refl _
  | x :: xs => (insI_perm x _).trans ((isortI_perm xs).cons x)
theorem insI_sorted (x : Int) : ∀ ys, ys.Pairwise (· ≤ ·) → (insI x ys).Pairwise (· ≤ ·)
  | [], _ => List.pairwise_singleton _ _
  | y :: ys, h => by
    obtain ⟨h1, h2⟩ := List.pairwise_cons.mp h
    unfold insI
    split
    · rename_i hle
      refine List.pairwise_cons.mpr ⟨fun z hz => ?_, h⟩
      rcases List.mem_cons.mp hz with e | e
      · rw [e]; exact hle
      · exact Int.le_trans hle (h1 z e)
    · rename_i hle
      refine List.pairwise_cons.mpr ⟨fun z hz => ?_, insI_sorted x ys h2⟩
      rcases List.mem_cons.mp ((insI_perm x ys).mem_iff.mp hz) with e | e
      · rw [e]; omega
      · exact h1 z e
theorem isortI_sorted : ∀ xs, (isortI xs).Pairwise (· ≤ ·)
  | [] => List.Pairwise.nil
  | x :: xs => insI_sorted x _ (isortI_sorted xs)
/-- sorted(t), a tuple of ints -/
def rSortTI (K : PySem.W.Frag) : List V → Hp → VK → Prop := fun vs H Q => ∃ (a : Addr) (ns : List Int), vs = [V.ref a] ∧ SqT K H a (ns.map V.int) ∧
  ∀ (ns' : List Int) (p : Addr), ns'.Perm ns → ns'.Pairwise (· ≤ ·) → H p = none → Q (.ref p) (upd H p (.lst (ns'.map V.int)))
theorem cr_sortTI {X : Cx} : CallR X (.builtin "sorted") (rSortTI X.K) := by
  rintro pins s σ H vs us Q I r ⟨a, ns, rfl, hT, q⟩
  obtain ⟨u, rfl, rx⟩ := vals1 r
  cases rx
  obtain ⟨its, rv, ⟨o, ho, hc, n, hd⟩, hz⟩ := I.tuple hT
  have hi := rv.ints
  have hzl : its.length ≤ sizeLine := by rw [← rv.length]; exact hz
  refine Calls.call_function_entry PyProof.Rows.kind_sorted PyProof.Rows.plain_sorted PyProof.Rows.entry_sorted (PyProof.Rows.args_sorted1 _) ?_
  unfold Builtin.«sorted»
  refine wpAny_bind (m := checkCount "sorted" 1 1 _) (wpAny_pure ?_)
  refine wpAny_bind (wpAny_collect_seq a (.inr rfl) ho hc hd (fun h2 hk => ?_) (by rw [List.size_toArray]; exact hzl))
  have I1 : Inv X pins σ H { s with heap := h2 } := I.kept (t' := s.toks) hk
  refine wpAny_bind (wpAny_newList ?_ hzl)
  have hoL : (h2.push (seqObj "list" its.toArray 0)).get? h2.objs.size = some (seqObj "list" its.toArray 0) := Heap.get?_push_size _ rfl
  show wpAny _ _ _ _ _ { s with heap := h2.push (seqObj "list" its.toArray 0) }
  refine wpAny_bind (wpAny_holding (wpAny_call_entry PyProof.Rows.slot_list_sort ⟨_, hoL, rfl⟩ PyProof.Rows.entry_list_sort
    (SrtO.list_sort_ord (s := { s with heap := h2.push (seqObj "list" its.toArray 0) }) SrtO.swo_int hoL hzl (fun h2l => SrtO.ints_sortable hi h2l) fun out h1 h3 => ⟨_, rfl, ?_⟩)
    (PyProof.Rows.args_list_sort _)))
  obtain ⟨k1, k2, k3⟩ := SrtO.ints_out hi h1 h3
  obtain ⟨ep, he'⟩ := PyProof.Rows.sortedHeap_at (vs := its) (out := out.toArray) hoL
  have hlen : ((out.map SrtO.iv).map V.int).length ≤ sizeLine := by
    rw [List.length_map, k2.length_eq]
    rw [List.length_map] at hz
    exact hz
  refine wpAny_pure ⟨_, rfl, .ref h2.objs.size, upd H h2.objs.size (.lst ((out.map SrtO.iv).map V.int)), I1.laid (t' := s.toks) (fun b u e => ?_) (Nat.le_refl _)
    (show ObjOk X.prog X.w _ _ _ (.lst ((out.map SrtO.iv).map V.int)) from ⟨hlen, out, ep, vals_of_ints k1, he'⟩), rfl, q _ _ k2 k3 (I1.hok.fresh (Nat.le_refl _))⟩
  have hb2 : b < h2.objs.size := Heap.lt_size e
  rw [PyProof.Rows.sortedHeap_old (Nat.ne_of_lt hb2) (by rw [size_push']; exact Nat.lt_succ_of_lt hb2)]
  exact Heap.get?_push_of_some _ e
def gSortI : PyData → EO
  | .list ds => match allInts ds with
    | some ns => .ok (.list ((isortI ns).map PyData.int)) .new
    | none => .stuck
  | .tuple ds => match allInts ds with
    | some ns => .ok (.list ((isortI ns).map PyData.int)) .new
    | none => .stuck
  | _ => .stuck
theorem dqs_ints {K : PySem.W.Frag} {F : Hp} : ∀ ns : List Int, DqAll K F (ns.map V.int) (ns.map PyData.int)
  | [] => .nil
  | n :: ns => .cons (.int n) (dqs_ints ns)
theorem g_sortI {K : PySem.W.Frag} : GC1 K (fun vs H Q => rSortedI K vs H Q ∨ rSortTI K vs H Q) gSortI := by
  intro ct W σ F H v d Q fh vv p
  unfold gSortI at p
  split at p
  · split at p
    · rename_i ds ns e
      obtain ⟨_, b, vs, rfl, hb, ra⟩ := vv
      have := ints_vals ra e
      subst this
      refine .inl ⟨b, ns, rfl, SqL.of hb, fun ns' q hp hs hq => ?_⟩
      have e2 : ns' = isortI ns := sorted_same (hp.trans (isortI_perm ns).symm) hs (isortI_sorted ns)
      rw [e2]
      exact ok_newL fh (dqs_ints _) p hq
    · exact p.elim
  · split at p
    · rename_i ds ns e
      obtain ⟨_, b, vs, rfl, hb, ra⟩ := vv
      have := ints_vals ra e
      subst this
      refine .inr ⟨b, ns, rfl, (hb.mono fh).sq, fun ns' q hp hs hq => ?_⟩
      have e2 : ns' = isortI ns := sorted_same (hp.trans (isortI_perm ns).symm) hs (isortI_sorted ns)
      rw [e2]
      exact ok_newL fh (dqs_ints _) p hq
    · exact p.elim
  · exact p.elim
section
variable {X : Cx} {ct : Nat → Addr} {W : WX} {a b : Expr} {ma mb : Gm → EO} {pos p apos : Pos}
theorem cr_sortII : CallR X (.builtin "sorted") (fun vs H Q => rSortedI X.K vs H Q ∨ rSortTI X.K vs H Q) := by
  intro pins s σ H vs us Q I r h
  rcases h with h | h
  · exact cr_sortedI pins s σ H vs us Q I r h
  · exact cr_sortTI pins s σ H vs us Q I r h
theorem ee_sortI (hm : X.mg "sorted" = none) (ha : EE X ct W a ma) (hg : Gl X "sorted" := by rfl) (hs : starEach [a] X.env = (false, eval a X.env) :: starEach [] X.env := by rfl) : EE X ct W (.Call (.Name "sorted" p) [a] [] pos) (op1 gSortI ma) := ee_b1 cr_sortII g_sortI hm (by decide +kernel) ha hg (hs := hs)
/-! ### x.index(v), a list of ints -/
def gIndexL : PyData → PyData → EO
  | .list ds, .int k => match allInts ds with
    | some ns => if k ∈ ns then .ok (.int (ns.idxOf k : Nat)) .frz else .stuck
    | none => .stuck
  | _, _ => .stuck
def ixlE (ma mb : Gm → EO) : Gm → EO := fun G => (ma G).bind fun d _ => match d with
  | .list ds => (mb G).bind fun e _ => gIndexL (.list ds) e
  | _ => .stuck
theorem ix_before {ns : List Int} {k : Int} : ∀ {m : Nat} {z : Int}, m < ns.idxOf k → ns[m]? = some z → (z == k) = false := by
  induction ns with
  | nil => intro m z h; simp at h
  | cons n ns ih =>
    intro m z h e
    rw [List.idxOf_cons] at h
    cases hb : n == k with
    | true => rw [hb] at h; simp at h
    | false =>
      rw [hb] at h
      cases m with
      | zero => cases e; exact hb
      | succ m => exact ih (by simpa using h) (by simpa using e)
theorem ee_indexL (ha : EE X ct W a ma) (hb : EE X ct W b mb) (hbase : attributeBase a "index" X.env (eval a X.env) = eval a X.env := by rfl) (hs1 : starEach [b] X.env = (false, eval b X.env) :: starEach [] X.env := by rfl) (hline : (apos.endLine == pos.line) = true := by rfl) :
    EE X ct W (.Call (.Attribute a "index" apos) [b] [] pos) (ixlE ma mb) :=
  pe_imp (pe_bm PySem.F.plainAttrs_list PySem.F.slot_list_index PySem.F.type_list_index mt_index ha (pa_cons hb pa_nil hs1) (hbase := hbase) (hline := hline) (hs := hs1) (hfew := by rw [hs1] <;> rfl)) fun σ H Q h => by
    refine tM_mono (tM_view (k := fun G d => match d with
      | .list ds => (mb G).bind fun e _ => gIndexL (.list ds) e
      | _ => .stuck) h) fun v H1 ⟨F0, H0, F1, G, d, rp, vv, q⟩ => ?_
    have isl : ∃ ds, d = .list ds := by
      cases d with
      | list ds => exact ⟨ds, rfl⟩
      | _ => exact q.elim
    obtain ⟨ds, rfl⟩ := isl
    obtain ⟨l1, l2, lvs, rfl, lh, lr⟩ := vv
    refine ⟨.inl ⟨rfl, lvs, SqL.of lh⟩, ?_⟩
    refine tM_mono (tM_viewAt rp q) fun u H2 ⟨F2, e2, x2, vu, q2⟩ => ?_
    unfold gIndexL at q2
    split at q2
    · rename_i ds2 k ed
      cases ed
      split at q2
      · rename_i ns e3
        split at q2
        · rename_i hk
          have := ints_vals lr e3
          subst this
          have e1 := vu.int
          subst e1
          have hlt := List.idxOf_lt_length_of_mem hk
          refine ⟨_, ns.map V.int, .int k, ns.idxOf k, .int k, rfl, rfl, SqL.of (x2.hh _ _ lh), rfl, by rw [List.all_map]; exact List.all_eq_true.mpr fun _ _ => rfl, ?_, ?_, fun m z' hm hz => ?_, ok_frz x2.fh (.int _) q2⟩
          · rw [List.getElem?_map, List.getElem?_eq_getElem hlt, List.getElem_idxOf hlt]
            rfl
          · show (k == k) = true
            exact beq_self_eq_true k
          · rw [List.getElem?_map] at hz
            cases e4 : ns[m]? with
            | none => rw [e4] at hz; cases hz
            | some z =>
              rw [e4] at hz
              cases hz
              exact ix_before hm e4
        · exact q2.elim
      · exact q2.elim
    · exact q2.elim
end
/-! ### in, a tuple of data -/
def rInDT (K : PySem.W.Frag) : R2 := fun x y H Q => ∃ d ds, Dp K H x d ∧ Dp K H y (.tuple ds) ∧ SeqAt.shaped d = true ∧ SeqAt.shaped (.tuple ds) = true ∧ Q (.bl (ds.any fun z => PyData.eqv z d)) H
theorem op_inDT {X : Cx} (hu : X.A.units + 65 < cLine) : OpR X (compareOp .In) (rInDT X.K) := by
  intro pins s σ H x y v u Q I rx ry h
  obtain ⟨d, ds, hd, he, sd, se, q⟩ := h
  obtain ⟨as, r1⟩ := Dp.reads I d x v hd rx
  obtain ⟨bs, r2⟩ := Dp.reads I (.tuple ds) y u he ry
  exact SeqAt.in_tuple_reads r2 r1 (SeqAt.canLay_of_shaped se) (SeqAt.canLay_of_shaped sd) (room_in_shaped sd hu) ⟨.bl _, H, I, rfl, q⟩
def gInT : PyData → PyData → EO
  | d, .tuple es => if (SeqAt.shaped d && SeqAt.shaped (.tuple es)) = true then .ok (.bool (es.any fun z => PyData.eqv z d)) .frz else .stuck
  | _, _ => .stuck
theorem g_inT {K : PySem.W.Frag} : G2 K (rInDT K) gInT := by
  intro ct W σ F H x y d e Q fh vx vy p
  unfold gInT at p
  split at p
  · split at p
    · rename_i hc
      rw [Bool.and_eq_true] at hc
      exact ⟨_, _, dq_shaped vx.1 hc.1, dq_shaped vy.1 hc.2, hc.1, hc.2, ok_frz fh (.bl _) p⟩
    · exact p.elim
  · exact p.elim
theorem cm_inT {X : Cx} {k : Nat} (hr : Room k X.A) : Cm X .In gInT := ⟨_, op_inDT (by have := hr.un; omega), g_inT⟩
end VL

set_option Elab.async false
set_option linter.all false
set_option maxRecDepth 100000
set_option maxHeartbeats 4000000
/-! V6: C(e), where __init__ lets an exception out. -/
namespace VL
open PySem PySem.Spec PyProof.Rows L2
section
variable {X : Cx} {CX : CXT} {k : Nat} {f C : Addr} {fd : FuncData} {ps : List Str} {sp : Sp} {E : L2.St → XK} {x m : Str} {p pos apos : Pos} {e o : Expr} {es : List Expr} {ta : TE} {t : TA}
/-- the instance is made and its __init__ runs; what is let out may depend on the slots -/
theorem run_makeS {pins : List (Addr × Obj)} {σ : L2.St} {H : Hp} {s : Shared} {Q : VK} {us : List Value} {vs : List V} (M : Mk X.K C f) (F : FnOk X.prog X.w X.K X.mg X.base CX k f fd ps sp) (hr : Room (k + 1) X.A) (hb : Binds X.K fd ps []) (hx : PassesAt CX X σ (E σ)) (I : Inv X pins σ H s) (r : Vals vs us)
    (h : ∀ x dx, H x = none → H dx = none → dx ≠ x → sp (.ref x :: vs) (upd (upd H dx (.own x)) x (.ins C dx [])) (fun v H2 => v = .non ∧ Q (.ref x) H2) (E σ)) : wpAny (model X.prog X.w) X.A (call (.ref C) us) (EP X pins σ Q) X.xe s := by
  obtain ⟨n, en⟩ : ∃ n, n = s.heap.objs.size := ⟨_, rfl⟩
  have want := h (s.heap.objs.size + 1) s.heap.objs.size (I.hok.fresh (Nat.le_succ _)) (I.hok.fresh (Nat.le_refl _)) (Nat.ne_of_lt (Nat.lt_succ_self _))
  have J := Inv.made (C := C) I
  have rs : Vals (V.ref (s.heap.objs.size + 1) :: vs) (Value.ref (s.heap.objs.size + 1) :: us) := .cons rfl r
  have len : (Value.ref (s.heap.objs.size + 1) :: us).length = ps.length := by
    rw [← rs.length]
    exact F.len _ _ _ _ want
  have bind := hb _ (Value.ref (s.heap.objs.size + 1) :: us) J.kIn (by rw [List.append_nil]; exact len)
  rw [List.append_nil] at bind
  have ran := F.run _ X.stack _ _ ⟨Value.ref (s.heap.objs.size + 1) :: us, []⟩ (Value.ref (s.heap.objs.size + 1) :: us) _ _ (E σ) (hr.make C us []) (J.env0.make C us []) bind rs want
  refine wpAny_call (make_map (f := f) I.kIn M.makes M.init (beq_iff_eq.mp M.fn) (codeAny_mono ran fun res s2 after => ?_))
  match res, after with
  | .error z, after => exact hx pins _ _ z s2 J after
  | .ok (.ret u), after =>
    obtain ⟨v, H3, I3, rv, ev, q3⟩ := J.after after
    subst ev
    exact ⟨rv, ⟨V.ref (s.heap.objs.size + 1), H3, I3, rfl, q3⟩⟩
  | .ok .next, after => exact after.elim
  | .ok .brk, after => exact after.elim
  | .ok .cont, after => exact after.elim
def tMakeS (C : Addr) (sp : Sp) (E : L2.St → XK) (t : TA) : TE := fun σ H Q => t σ H fun vs H1 => ∀ x dx, H1 x = none → H1 dx = none → dx ≠ x → sp (.ref x :: vs) (upd (upd H1 dx (.own x)) x (.ins C dx [])) (fun v H2 => v = .non ∧ Q (.ref x) H2) (E σ)
theorem pe_makeS (M : Mk X.K C f) (F : FnOk X.prog X.w X.K X.mg X.base CX k f fd ps sp) (hr : Room (k + 1) X.A) (hg : Gl X x) (hm : X.mg x = some (.ref C)) (hb : Binds X.K fd ps []) (hx : ∀ σ, PassesAt CX X σ (E σ)) (ha : PA X (e :: es) t)
    (hdb : (x == ("__debug__" : Str)) = false := by decide) (he : starEach (e :: es) X.env = (false, eval e X.env) :: starEach es X.env := by rfl) (hpl : (backTo pos (starEach es X.env)).any (·.1) = false := by rfl) : PE X (.Call (.Name x p) (e :: es) [] pos) (tMakeS C sp E t) :=
  ⟨fun pins s σ H Q I h => wpAny_Call_Name_kw (ld_glob I hg hm (PySem.W.callWith_K (h₀ := X.base) I.ok.mod.kin M.kp (thn (ha.run pos pins s σ H _ I h) fun us s1 got => by
    obtain ⟨vs, H1, I1, r, q⟩ := got
    exact ⟨I1.kIn, run_makeS M F hr hb (hx σ) I1 r q⟩) he hpl) hdb)⟩
end
/-! ### an __init__ that raises -/
/-- the promise: the first argument is looked at by nobody, an exception leaves -/
def spI (K : PySem.W.Frag) (ct : Nat → Addr) (f : List PyData → FO) : Sp := fun vs H _ E => ∃ (v0 : V) (ws : List V) (F : Hp) (ds : List PyData) (c : Nat) (pl : Option PyData), vs = v0 :: ws ∧ Same F H ∧ DqAll K F ws ds ∧ f ds = .exc c pl ∧ ∀ cls dd F2 H2, VL.Ext F H F2 H2 → XR K ct F2 H2 c pl cls dd → E cls dd H2
def defI (n k : Nat) (m : Gm → SO) : List PyData → FO := fun ds => if ds.length + 1 = k ∧ k ≤ n then match m (none :: startG (n - 1) ds) with
  | .exc c pl _ => .exc c pl
  | _ => .stuck else .stuck
section
variable {P : Program} {w : World} {K : PySem.W.Frag} {mg : Str → Option Value} {base : Heap}
theorem startI {n : Nat} {ds : List PyData} (h : ds.length + 1 ≤ n) : (startG n (.none :: ds)).set 0 none = none :: startG (n - 1) ds := by
  unfold startG
  rw [List.map_cons, List.cons_append, List.set_cons_zero, List.length_cons, show n - (ds.length + 1) = n - 1 - ds.length by omega]
theorem startV {N : List Str} {v0 : V} {ws : List V} : (L2.start N (V.non :: ws)).set 0 (some v0) = L2.start N (v0 :: ws) := by
  unfold L2.start
  rw [List.map_cons, List.map_cons, List.cons_append, List.cons_append, List.set_cons_zero, List.length_cons, List.length_cons]
theorem fn_okI {x qual : Str} {st : Stmt} {f : Addr} {fd : FuncData} {N ps : List Str} {k : Nat} {ct : Nat → Addr} {m : Gm → SO} (F : Fun K x qual st f fd) (S : FnScope N ps (defScope st))
    (hb : ∀ (cdv : Value) (A : Around) (outer : List Env) (s : Shared) (H : Hp) (E : XK), Room k (cxOf (L2.CX P w) P w K mg base N qual (defScope st) f cdv A outer s H E).A →
      Takes (cxOf (L2.CX P w) P w K mg base N qual (defScope st) f cdv A outer s H E) (WD E) →
      PassesOwn (model P w) (cxOf (L2.CX P w) P w K mg base N qual (defScope st) f cdv A outer s H E).A (cxOf (L2.CX P w) P w K mg base N qual (defScope st) f cdv A outer s H E).env (cxOf (L2.CX P w) P w K mg base N qual (defScope st) f cdv A outer s H E).xe →
      ESs (cxOf (L2.CX P w) P w K mg base N qual (defScope st) f cdv A outer s H E) ct (WD E) (defBody st) m) :
    FnOk P w K mg base (L2.CX P w) (k + 1) f fd ps (spI K ct (defI N.length ps.length m)) := by
  refine F.okX S (fun vs H Q E h => ?_) (fun cdv A outer s H vs Q E hr h => ⟨_, hb cdv A outer s H E hr (takes_of rfl rfl rfl rfl) (passes_of rfl), ?_⟩)
  · obtain ⟨v0, ws, F1, ds, c, pl, rfl, fh, ra, p, _⟩ := h
    unfold defI at p
    split at p
    · rename_i e
      rw [List.length_cons, dpAll_len ra]
      exact e.1
    · cases p
  · obtain ⟨v0, ws, F1, ds, c, pl, rfl, fh, ra, p, q⟩ := h
    unfold defI at p
    split at p
    · rename_i e
      have rp := (rep_start (N := N) fh (DqAll.cons (v := .non) (d := .none) .non ra)).forget 0 (some v0)
      rw [startI (by omega), startV] at rp
      refine ⟨F1, H, F1, _, rp, ?_⟩
      split at p
      · rename_i c2 pl2 G2 em
        cases p
        rw [em]
        exact fun cls dd σ2 F2 H2 s2 r2 z => q cls dd F2 H2 r2.extOf z
      · cases p
    · cases p
end
section
variable {X : Cx} {ct : Nat → Addr} {W : WX} {e : Expr} {es : List Expr} {ms : Gm → AO} {pos p : Pos} {x : Str} {k j : Nat} {fm : List PyData → FO}
/-- the class x of the text is made by an __init__ of which fm tells what it lets out -/
structure MakeT (P : Program) (w : World) (K : PySem.W.Frag) (mg : Str → Option Value) (base : Heap) (ct : Nat → Addr) (x : Str) (k : Nat) (fm : List PyData → FO) : Prop where
  ex : ∃ (C f : Addr) (fd : FuncData) (ps : List Str), mg x = some (.ref C) ∧ Mk K C f ∧ Binds K fd ps [] ∧ FnOk P w K mg base (L2.CX P w) k f fd ps (spI K ct fm)
def makeE (f : List PyData → FO) (ms : Gm → AO) : Gm → EO := fun G => (ms G).bindE fun ds => match f ds with
  | .exc c pl => .exc c pl
  | _ => .stuck
theorem ee_makeX (C : MakeT X.prog X.w X.K X.mg X.base ct x j fm) (hr : Room k X.A) (tk : Takes X W) (ha : EA X ct W (e :: es) ms) (hjk : j + 1 ≤ k := by decide)
    (hg : Gl X x := by rfl) (hdb : (x == ("__debug__" : Str)) = false := by decide) (he : starEach (e :: es) X.env = (false, eval e X.env) :: starEach es X.env := by rfl) (hpl : (backTo pos (starEach es X.env)).any (·.1) = false := by rfl) :
    EE X ct W (.Call (.Name x p) (e :: es) [] pos) (makeE fm ms) := by
  obtain ⟨C, f, fd, ps, hm, M, hb, F⟩ := C.ex
  refine pe_imp (pe_makeS (E := WE W) M F (hr.mono hjk) hg hm hb (fun σ => passAt tk σ) ha hdb he hpl) fun σ H Q ⟨F0, H0, F1, G, r, q⟩ => ?_
  refine ⟨F0, H0, F1, G, r, postA_mono (postA_bindE q) fun vs H1 ⟨ds, F2, x1, ra, p2⟩ o dx ho hdx ne => ?_⟩
  split at p2
  · rename_i c pl ef
    have y : VL.Ext F2 H1 F2 (upd (upd H1 dx (.own o)) o (.ins C dx [])) :=
      (Ext.new x1.fh hdx).trans (Ext.new (x1.fh.trans (same_new hdx)) (by rw [upd_ne (Ne.symm ne)]; exact ho))
    exact ⟨_, vs, F2, ds, c, pl, rfl, y.fh, ra, ef, fun cls dd F3 H3 x3 z => p2 cls dd F3 H3 (y.trans x3) z⟩
  · exact p2.elim
end
end VL

set_option Elab.async false
set_option linter.all false
set_option maxRecDepth 100000
/-! VT: for x, y in zip(list, list). -/
namespace VL
open PySem L2
section
variable {K : PySem.W.Frag} {F H Hs : Hp}
def zipD (ds es : List PyData) : List PyData := List.zipWith (fun x y => .tuple [x, y]) ds es
theorem zip_get : ∀ {ds es : List PyData} {i : Nat} {d : PyData}, (zipD ds es)[i]? = some d → ∃ x y, ds[i]? = some x ∧ es[i]? = some y ∧ d = .tuple [x, y]
  | [], _, i, d, h => by simp [zipD] at h
  | _ :: _, [], i, d, h => by simp [zipD] at h
  | x :: ds, y :: es, 0, d, h => by
    simp [zipD] at h
    exact ⟨x, y, rfl, rfl, h.symm⟩
  | x :: ds, y :: es, i + 1, d, h => by
    obtain ⟨u, v, h1, h2, h3⟩ := zip_get (ds := ds) (es := es) (i := i) (d := d) (by simpa [zipD] using h)
    exact ⟨u, v, by simpa using h1, by simpa using h2, h3⟩
theorem it_zip {a b : Addr} {vs us : List V} {ds es : List PyData} (ha : Hs a = some (.lst vs)) (hb : Hs b = some (.lst us)) (r : DqAll K F vs ds) (q : DqAll K F us es) : ItOk K F Hs (Itz K a b) (zipD ds es) where
  go := fun i F2 H2 d s1 s2 s3 e => by
    obtain ⟨x, y, e1, e2, rfl⟩ := zip_get e
    obtain ⟨v, hv, rv⟩ := dpAll_get r e1
    obtain ⟨u, hu, ru⟩ := dpAll_get q e2
    have sa : SqL K H2 a vs := SqL.of (s3 _ _ ha)
    have sb : SqL K H2 b us := SqL.of (s3 _ _ hb)
    refine ⟨⟨vs, us, v, u, sa, sb, hv, hu⟩, fun z H3 w => ?_⟩
    obtain ⟨T, v2, u2, rfl, hT, rfl, h1, h2⟩ := w
    have z1 := h1 vs sa
    rw [hv] at z1
    cases z1
    have z2 := h2 us sb
    rw [hu] at z2
    cases z2
    have hF : F2 T = none := by
      cases ef : F2 T with
      | none => rfl
      | some o => rw [s2 _ _ ef] at hT; cases hT
    refine ⟨upd F2 T (.tup [v, u]), Ext.newF s2 hT, .tup ⟨_, upd_same, .tup _⟩ (.cons ?_ (.cons ?_ .nil))⟩
    · exact dp_mono (same_new hF) _ _ (dp_mono s1 _ _ rv)
    · exact dp_mono (same_new hF) _ _ (dp_mono s1 _ _ ru)
  stop := fun F2 H2 s1 s2 s3 => by
    refine ⟨vs, us, SqL.of (s3 _ _ ha), SqL.of (s3 _ _ hb), ?_⟩
    unfold zipD
    rw [List.length_zipWith, dpAll_len r, dpAll_len q]
    omega
end
section
variable {X : Cx} {ct : Nat → Addr} {W : WX} {a b : Expr} {ms : Gm → AO} {pos p tpos : Pos} {elts : List Expr} {kk : Nat}
def iterZ (ms : Gm → AO) : Gm → IO := fun G => match ms G with
  | .ok [.list ds, .list es] => .ok (zipD ds es) G
  | .exc c pl => .exc c pl
  | _ => .stuck
theorem ei_zip (hm : X.mg "zip" = none) (ha : EA X ct W [a, b] ms) (hg : Gl X "zip" := by rfl) (hs : starEach [a, b] X.env = (false, eval a X.env) :: starEach [b] X.env := by rfl) (hpl : (backTo pos (starEach [b] X.env)).any (·.1) = false := by rfl) :
    EI X ct W (.Tuple elts kk tpos) (.Call (.Name "zip" p) [a, b] [] pos) (iterZ ms) :=
  pi_imp (RZ.pi_zipA hg hm ha hs hpl) fun σ H R ⟨F0, H0, F, G, r, p⟩ => by
    refine ⟨F0, H0, F, G, r, ?_⟩
    unfold iterZ at p
    revert p
    cases e : ms G with
    | exc c pl => exact fun p => p
    | stuck => exact fun p => p.elim
    | ok l =>
      intro p vs F2 H2 x q
      match l, p, q with
      | [.list ds, .list es], p, q =>
        cases q with
        | cons h1 t =>
          cases t with
          | cons h2 t2 =>
            cases t2
            cases h1 with
            | @lst a1 v1 _ s1 r1 =>
              cases h2 with
              | @lst a2 v2 _ s2 r2 =>
                have fh := x.fh
                exact ⟨a1, a2, v1, v2, rfl, .inl ⟨SqL.of (fh _ _ s1), SqL.of (fh _ _ s2), p _ F2 H2 x.ff (r.ext x) (it_zip s1 s2 r1 r2)⟩⟩
end
end VL

set_option Elab.async false
set_option linter.all false
set_option maxRecDepth 100000
set_option maxHeartbeats 4000000
/-! V3 (kind w): a slot that holds an own dict with keys that are tuples of ints: {k: v}, k in x, k not in x, x[k] = v, sorted(x). -/
namespace VL
open PySem PySem.Spec PyProof.Rows L2
/-! ### the display -/
def tDispT (tk tv : TE) : TE := fun σ H Q => ∀ p, H p = none → tPairs [(tk, tv)] σ (upd H p (.dT [])) fun ps H2 => H2 p = some (.dT []) ∧ ∃ (b : Addr) (ks : List Key) (y : V), ps = [(V.ref b, y)] ∧ H2 b = some (.tup (ks.map kV)) ∧ Q (.ref p) (upd H2 p (.dT [(ks, y)]))
theorem pe_dispT {X : Cx} {pos : Pos} {k v : Expr} {tk tv : TE} (hu : X.A.units < cLine) (hk : PE X k tk) (hv : PE X v tv) : PE X (.Dict [some k] [v] pos) (tDispT tk tv) := by
  refine ⟨fun pins s σ H Q I q => ?_⟩
  have hn := I.hok.fresh (Nat.le_refl s.heap.objs.size)
  have I1 := I.laid (a := s.heap.objs.size) (o := .dT []) (h' := s.heap.push { cls := .type "dict", data := .dict #[] }) (t' := s.toks) (fun _ _ q => Heap.get?_push_of_some _ q) (Nat.le_refl _) (dt_empty s.heap I.big)
  rw [arm_eval_Dict, zip_pairTrees [some k] [v] X.env pos rfl rfl, dictDisplay_pairs _ (by simp [pairTrees]) (by simp [pairTrees])]
  refine wpAny_bind (wpAny_standAt (wpAny_bind (wpAny_subDictH (knd := tupleKind (mixKind X.prog X.w)) hu (by simp [pairTrees]) ?_)))
  refine thn ((pps_cons hk hv pps_nil).run pins _ σ _ _ I1 (q _ hn)) fun ws s2 ⟨ps, H2, I2, rel, e, b, ks, y, ep, hb, q2⟩ => ?_
  subst ep
  obtain ⟨z, hd, xs0, r0, dd⟩ := dt_of I2.hok e
  cases r0
  cases rel with
  | @cons p1 w1 _ _ h1 t1 =>
    cases t1
    obtain ⟨u1, u2⟩ := w1
    obtain ⟨ra, rb⟩ := h1
    cases (show u1 = Value.ref b from ra)
    refine ⟨[(ks, b, u2)], ⟨rfl, rfl, key_of I2.hok hb, trivial⟩, dd, fun h' tk dk hs => wpAny_pure ⟨.ref s.heap.objs.size, _, ?_, rfl, q2⟩⟩
    have e1 : storedAllH ([] : List (List Key × Addr × Value)) [(ks, b, u2)] = [(ks, b, u2)] := rfl
    rw [e1] at dk
    obtain ⟨o, es, ep, hq, h2, h3, h4, _, h5⟩ := dk
    refine d_write I2 (by rw [e]; exact True.intro) hs ⟨o, hq⟩ ⟨by rw [sizeLine_eq]; show 1 ≤ 16777216; omega, hd, [(ks, b, u2)], .cons ⟨rfl, ?_, rb⟩ .nil, o, es, ep, hq, h2, h3, h4, h5⟩
    rw [upd_ne (ne_of hb e (fun z => nomatch z))]
    exact hb

/-! ### keys -/
def keyOf : PyData → Option (List Int)
  | .tuple ds => allInts ds
  | _ => none
abbrev inls (ns : List Int) : List Key := ns.map Sum.inl
theorem inls_kV (ns : List Int) : (inls ns).map kV = ns.map V.int := by
  rw [List.map_map]
  rfl
theorem inls_inj : ∀ {a b : List Int}, inls a = inls b → a = b
  | [], [], _ => rfl
  | [], _ :: _, h => by cases h
  | _ :: _, [], h => by cases h
  | x :: a, y :: b, h => by
    rw [inls, inls, List.map_cons, List.map_cons] at h
    obtain ⟨h1, h2⟩ := List.cons.inj h
    rw [Sum.inl.inj h1, inls_inj h2]
theorem key_at {K : PySem.W.Frag} {F : Hp} {v : V} {d : PyData} {ns : List Int} (h : Dq K F v d) (e : keyOf d = some ns) : ∃ b, v = .ref b ∧ F b = some (.tup ((inls ns).map kV)) := by
  cases h with
  | @tup a vs ds hs ha =>
    obtain ⟨o, h1, t⟩ := hs
    have t2 : o = .tup vs := t
    have := ints_vals ha e
    rw [t2, this] at h1
    exact ⟨a, rfl, by rw [inls_kV]; exact h1⟩
  | _ => cases e
def hasK (kvs : List (List Int × PyData)) (ns : List Int) : Bool := kvs.any fun p => decide (p.1 = ns)
def valD (kvs : List (List Int × PyData)) (ns : List Int) : Option PyData := (kvs.find? fun p => decide (p.1 = ns)).map (·.2)
def putD (kvs : List (List Int × PyData)) (ns : List Int) (d : PyData) : List (List Int × PyData) :=
  if hasK kvs ns = true then kvs.map (fun p => if p.1 = ns then (p.1, d) else p) else kvs ++ [(ns, d)]
theorem kv_any {ns : List Int} : ∀ {us : List (List Key × V)} {kvs : List (List Int × PyData)}, us.map (·.1) = kvs.map (fun p => inls p.1) → (us.any fun kv => decide (kv.1 = inls ns)) = hasK kvs ns
  | [], [], _ => rfl
  | [], _ :: _, h => by cases h
  | _ :: _, [], h => by cases h
  | u :: us, p :: kvs, h => by
    rw [List.map_cons, List.map_cons] at h
    obtain ⟨h1, h2⟩ := List.cons.inj h
    have ih := kv_any (ns := ns) h2
    unfold hasK at ih ⊢
    rw [List.any_cons, List.any_cons, ih, h1]
    congr 1
    by_cases z : p.1 = ns
    · rw [z, decide_eq_true rfl, decide_eq_true rfl]
    · rw [decide_eq_false z, decide_eq_false (fun c => z (inls_inj c))]
theorem kv_put {K : PySem.W.Frag} {F : Hp} {v : V} {d : PyData} {ns : List Int} (r : Dq K F v d) : ∀ {us : List (List Key × V)} {kvs : List (List Int × PyData)}, KvD K F us kvs → KvD K F (us.map fun kv => if kv.1 = inls ns then (kv.1, v) else kv) (kvs.map fun p => if p.1 = ns then (p.1, d) else p)
  | [], [], h => h
  | [], _ :: _, h => by cases h.1
  | _ :: _, [], h => by cases h.1
  | u :: us, p :: kvs, ⟨h1, h2⟩ => by
    rw [List.map_cons, List.map_cons] at h1 h2
    obtain ⟨h3, h4⟩ := List.cons.inj h1
    cases h2 with
    | cons h5 h6 =>
      obtain ⟨g1, g2⟩ := kv_put r (us := us) (kvs := kvs) ⟨h4, h6⟩
      by_cases z : p.1 = ns
      · have z2 : u.1 = inls ns := h3.trans (by rw [z])
        refine ⟨?_, ?_⟩
        · rw [List.map_cons, List.map_cons, List.map_cons, List.map_cons, g1, if_pos z, if_pos z2, h3]
        · rw [List.map_cons, List.map_cons, List.map_cons, List.map_cons, if_pos z, if_pos z2]
          exact .cons r g2
      · have z2 : ¬ u.1 = inls ns := fun c => z (inls_inj (h3.symm.trans c))
        refine ⟨?_, ?_⟩
        · rw [List.map_cons, List.map_cons, List.map_cons, List.map_cons, g1, if_neg z, if_neg z2, h3]
        · rw [List.map_cons, List.map_cons, List.map_cons, List.map_cons, if_neg z, if_neg z2]
          exact .cons h5 g2
theorem KvD.put {K : PySem.W.Frag} {F : Hp} {v : V} {d : PyData} {ns : List Int} {us : List (List Key × V)} {kvs : List (List Int × PyData)} (h : KvD K F us kvs) (r : Dq K F v d) : KvD K F (putK us (inls ns) v) (putD kvs ns d) := by
  unfold putK putD
  rw [kv_any h.1]
  split
  · exact kv_put r h
  · refine ⟨?_, ?_⟩
    · rw [List.map_append, List.map_append, h.1]
      rfl
    · rw [List.map_append, List.map_append]
      exact dpAll_app h.2 (.cons r .nil)
theorem kv_len {K : PySem.W.Frag} {F : Hp} {us : List (List Key × V)} {kvs : List (List Int × PyData)} (h : KvD K F us kvs) : us.length = kvs.length := by
  have := congrArg List.length h.1
  rwa [List.length_map, List.length_map] at this
/-! ### slots -/
section
variable {K : PySem.W.Frag} {F0 H0 F H : Hp} {G : Gm} {σ : L2.St}
theorem Rep.dic {p : Addr} {us : List (List Key × V)} {kvs : List (List Int × PyData)} (r : Rep K F0 H0 F H G σ) (i : Nat) (h0 : H0 p = none) (hf : F p = none) (hp : H p = some (.dT us)) (ha : KvD K F us kvs)
    (new : ∀ (j : Nat) (t : Sl) (u : V), G[j]? = some (some t) → σ[j]? = some (some u) → mutA F u p t → False) : Rep K F0 H0 F H (G.set i (some (.dic kvs))) (σ.set i (some (.ref p))) :=
  r.put i (s := .dic kvs) ⟨p, us, rfl, h0, hf, hp, ha⟩ fun j t u a _ g e m m2 => by
    cases m2
    exact new j t u g e m
theorem Rep.mutD {i : Nat} {p : Addr} {ds es : List (List Int × PyData)} {us : List (List Key × V)} (r : Rep K F0 H0 F H G σ) (e : G[i]? = some (some (.dic ds))) (hv : σ[i]? = some (some (.ref p))) (ha : KvD K F us es) :
    Rep K F0 H0 F (upd H p (.dT us)) (G.set i (some (.dic es))) σ := by
  obtain ⟨q, vs, e1, h0, hf, hp, _⟩ := r.at e hv
  cases e1
  exact r.chg e hv (a := p) (t := .dic es) rfl hp (fun _ _ z => nomatch z) ⟨p, us, rfl, h0, hf, upd_same, ha⟩ fun b m => m
end
section
variable {X : Cx} {ct : Nat → Addr} {W : WX} {e i : Expr} {me mi : Gm → EO} {pos px p2 : Pos} {x : Str} {j : Nat}
/-! ### k in x, k not in x -/
def inD (neg : Bool) (j : Nat) (me : Gm → EO) : Gm → EO := fun G => (me G).bind fun d w => match keyOf d, w, G[j]? with
  | some ns, .frz, some (some (.dic kvs)) => .ok (.bool (neg != hasK kvs ns)) .frz
  | _, _, _ => .stuck
theorem inD_of {K : PySem.W.Frag} {neg : Bool} {σ : L2.St} {H : Hp} {Q : VK} (h : tM K ct W (inD neg j me) σ H Q) :
    tM K ct W me σ H fun y H1 => tVar j σ H1 fun z H2 => ∃ a o, z = .ref a ∧ DGet H2 a y o ∧ Q (.bl (neg != o.isSome)) H2 := by
  obtain ⟨F0, H0, F, G, r, p⟩ := h
  refine ⟨F0, H0, F, G, r, post_mono (post_bind p) fun v H1 ⟨d, w, F1, x1, q, p2⟩ => ?_⟩
  split at p2
  · rename_i ns kvs ek eg
    obtain ⟨b, rfl, hb⟩ := key_at (show Dq K F1 v d from q) ek
    obtain ⟨u, hu, pa, us, rfl, k0, kf, kp, kd⟩ := (r.ext x1).slot j _ eg
    refine ⟨_, hu, pa, _, rfl, DGet.t kp (x1.fh _ _ hb), ?_⟩
    rw [← valV_any, kv_any kd.1]
    exact p2 _ F1 H1 (Ext.refl x1.fh) (.bl _)
  · exact p2.elim
theorem ee_dnotin {k : Nat} (hr : Room k X.A) (he : EE X ct W e me) (hj : X.N[j]? = some x := by rfl) (hv : Vis X.env.scope x := by first | exact Or.inl rfl | exact Or.inr (Or.inl rfl)) (hd : (x == ("__debug__" : Str)) = false := by decide) (hcd : (x == ("__classdict__" : Str)) = false := by decide) :
    EE X ct W (.Compare e [.NotIn] [.Name x px] pos) (inD true j me) :=
  pe_imp (pe_cmp (pc_dnotin (by have := hr.un; omega) he (pe_var hj hv hd hcd)) rfl) fun σ H Q h => tM_mono (inD_of h) fun y H1 ⟨z, hz, a, o, ez, g, q⟩ => ⟨z, hz, a, o, ez, g, by rwa [Bool.true_bne] at q⟩
theorem ee_din {k : Nat} (hr : Room k X.A) (he : EE X ct W e me) (hj : X.N[j]? = some x := by rfl) (hv : Vis X.env.scope x := by first | exact Or.inl rfl | exact Or.inr (Or.inl rfl)) (hd : (x == ("__debug__" : Str)) = false := by decide) (hcd : (x == ("__classdict__" : Str)) = false := by decide) :
    EE X ct W (.Compare e [.In] [.Name x px] pos) (inD false j me) :=
  pe_imp (pe_cmp (pc_din (by have := hr.un; omega) he (pe_var hj hv hd hcd)) rfl) fun σ H Q h => tM_mono (inD_of h) fun y H1 ⟨z, hz, a, o, ez, g, q⟩ => ⟨z, hz, a, o, ez, g, by rwa [Bool.false_bne] at q⟩
theorem eb_dnotin {k : Nat} (hr : Room k X.A) (he : EE X ct W e me) (hj : X.N[j]? = some x := by rfl) (hv : Vis X.env.scope x := by first | exact Or.inl rfl | exact Or.inr (Or.inl rfl)) (hd : (x == ("__debug__" : Str)) = false := by decide) (hcd : (x == ("__classdict__" : Str)) = false := by decide) :
    EB X ct W (.Compare e [.NotIn] [.Name x px] pos) (boolB (inD true j me)) :=
  pt_imp (pt_cmp (pc_dnotin (by have := hr.un; omega) he (pe_var hj hv hd hcd)) rfl) fun σ H Q h => tM_mono (inD_of (bool_of h)) fun y H1 ⟨z, hz, a, o, ez, g, q⟩ => ⟨z, hz, a, o, ez, g, by rwa [Bool.true_bne] at q⟩
theorem eb_din {k : Nat} (hr : Room k X.A) (he : EE X ct W e me) (hj : X.N[j]? = some x := by rfl) (hv : Vis X.env.scope x := by first | exact Or.inl rfl | exact Or.inr (Or.inl rfl)) (hd : (x == ("__debug__" : Str)) = false := by decide) (hcd : (x == ("__classdict__" : Str)) = false := by decide) :
    EB X ct W (.Compare e [.In] [.Name x px] pos) (boolB (inD false j me)) :=
  pt_imp (pt_cmp (pc_din (by have := hr.un; omega) he (pe_var hj hv hd hcd)) rfl) fun σ H Q h => tM_mono (inD_of (bool_of h)) fun y H1 ⟨z, hz, a, o, ez, g, q⟩ => ⟨z, hz, a, o, ez, g, by rwa [Bool.false_bne] at q⟩
/-! ### x[k] = v -/
def putS (j : Nat) (mi me : Gm → EO) : Gm → SO := fun G => (me G).hard.bindS G fun d _ => match G[j]? with
  | some (some (.dic kvs)) => (mi G).bindS G fun k w => match keyOf k, w with
    | some ns, .frz => if kvs.length < big then .next (G.set j (some (.dic (putD kvs ns d)))) else .stuck
    | _, _ => .stuck
  | _ => .stuck
theorem es_dput {n : Nat} (hr : Room n X.A) (he : EE X ct W e me) (hi : EE X ct W i mi) (hj : X.N[j]? = some x := by rfl) (hv : Vis X.env.scope x := by first | exact Or.inl rfl | exact Or.inr (Or.inl rfl)) (hd : (x == ("__debug__" : Str)) = false := by decide) (hcd : (x == ("__classdict__" : Str)) = false := by decide)
    (ha : ∀ v, assign (.Subscript (.Name x px) i p2) X.env v = (do
      let ov ← holding [v] (eval (.Name x px) X.env)
      let iv ← holding [v, ov] (eval i X.env)
      standAt p2
      holding [v, ov, iv] (setItem ov iv v)
      release [v, ov, iv] []) := by intro _; rfl)
    (hs : swapsWithSole [.Subscript (.Name x px) i p2] e pos.line X.env = pure false := by rfl) (hw : swappedStores [.Subscript (.Name x px) i p2] e X.env = pure none := by rfl) :
    ES X ct W (.Assign [.Subscript (.Name x px) i p2] e pos) (putS j mi me) :=
  ps_imp (ps_asg he (pg_sub (pe_var hj hv hd hcd) hi (set_dict (by have := hr.un; omega)) ha) hs hw) fun D σ H ⟨F0, H0, F, G, r, p⟩ => by
    refine ⟨F0, H0, F, G, r, post_mono (postS_hard (k := fun d => match G[j]? with
      | some (some (.dic kvs)) => (mi G).bindS G fun k w => match keyOf k, w with
        | some ns, .frz => if kvs.length < big then .next (G.set j (some (.dic (putD kvs ns d)))) else .stuck
        | _, _ => .stuck
      | _ => .stuck) r p) fun y H1 ⟨d, F1, x1, ry, r1, p1⟩ => ?_⟩
    split at p1
    · rename_i kvs e
      obtain ⟨v, hv, q, us, rfl, h0, hf, hp, ha⟩ := r1.slot j _ e
      refine ⟨_, hv, F0, H0, F1, G, r1, post_mono (post_S (k := fun k w => match keyOf k, w with
        | some ns, .frz => if kvs.length < big then .next (G.set j (some (.dic (putD kvs ns d)))) else .stuck
        | _, _ => .stuck) r1 p1) fun u H2 ⟨dk, w, F2, x2, ru, r2, p2⟩ => ?_⟩
      split at p2
      · rename_i ns ek
        split at p2
        · rename_i hz
          obtain ⟨b, rfl, hb⟩ := key_at (show Dq X.K F2 u dk from ru) ek
          refine ⟨q, _, rfl, DPut.t (x2.hh _ _ hp) (x2.fh _ _ hb) (by rw [kv_len ha]; exact big_lt hz), ?_⟩
          exact p2 σ F2 _ (Same.refl _) (r2.mutD e hv ((ha.mono x2.ff).put (dp_mono x2.ff _ _ ry)))
        · exact p2.elim
      · exact p2.elim
    · exact p1.elim
end

section
variable {X : Cx} {ct : Nat → Addr} {W : WX} {k v : Expr} {mk mv : Gm → EO} {pos p px pos2 : Pos} {x : Str} {i j : Nat}
/-! ### x = {k: v} -/
def dicS (i : Nat) (mk mv : Gm → EO) : Gm → SO := fun G => (mk G).bindS G fun dk wk => (mv G).bindS G fun dv wv => match keyOf dk, wk, wv with
  | some ns, .frz, .frz => if i < G.length then .next (G.set i (some (.dic [(ns, dv)]))) else .stuck
  | _, _, _ => .stuck
theorem es_dnew {n : Nat} (hr : Room n X.A) (hk : EE X ct W k mk) (hv : EE X ct W v mv) (hN : X.N.Nodup) (hi : X.N[i]? = some x := by rfl) (hx : Loc X.env.scope x := by first | exact Or.inl rfl | exact Or.inr rfl) (hs : swapsWith (.Dict [some k] [v] p) (some (.Name x pos2)) pos.line X.env = pure false := by rfl)
    (hf : X.fn x = true ∨ X.env.scope.names.lookup x = some .local := by first | exact .inl rfl | exact .inr rfl) : ES X ct W (.Assign [.Name x pos2] (.Dict [some k] [v] p) pos) (dicS i mk mv) :=
  ps_imp (ps_set hN hi hx (pe_dispT (by have := hr.un; omega) hk hv) hs hf) fun D σ H ⟨F0, H0, F, G, r, p⟩ => by
    intro pa hpa
    have x0 : Ext F H F (upd H pa (.dT [])) := Ext.new r.fh hpa
    refine ⟨F0, H0, F, G, r.ext x0, post_mono (post_S (r.ext x0) p) fun u H1 ⟨dk, wk, F1, x1, q1, r1, p1⟩ => ?_⟩
    refine ⟨F0, H0, F1, G, r1, post_mono (post_S r1 p1) fun y H2 ⟨dv, wv, F2, x2, q2, r2, p2⟩ => ?_⟩
    split at p2
    · rename_i ns ek _
      split at p2
      · rename_i hl
        obtain ⟨b, rfl, hb⟩ := key_at (show Dq X.K F1 u dk from q1) ek
        have hH2 : H2 pa = some (.dT []) := x2.hh _ _ (x1.hh _ _ upd_same)
        have hF2 : F2 pa = none := x2.ap pa _ (x1.hh _ _ upd_same) (x1.ap pa _ upd_same (r.fh.free hpa) trivial) trivial
        refine ⟨hH2, b, inls ns, y, rfl, x2.fh _ _ (x2.ff _ _ hb), ?_⟩
        have r3 := r2.dic (kvs := []) i (r.hh.free hpa) hF2 hH2 ⟨rfl, .nil⟩ fun j t u g e m => by
          obtain ⟨_, _, o3, hp3, _⟩ := r.at_mut g e (mut_back (r.at g e) (x0.ff.trans (x1.ff.trans x2.ff)) m)
          rw [hpa] at hp3
          cases hp3
        have r4 := r3.mutD (us := [(inls ns, y)]) (es := [(ns, dv)]) (i := i) (p := pa) (List.getElem?_set_self hl) (List.getElem?_set_self (by rw [← r.len]; exact hl)) ⟨rfl, .cons q2 .nil⟩
        rw [List.set_set] at r4
        exact p2 _ F2 _ (Same.refl _) r4
      · exact p2.elim
    · exact p2.elim
/-! ### sorted(x) -/
theorem sort_perm {l nss : List (List Int)} {d : Nat} (hok : ∀ x ∈ nss, okT d x = true) (pm : l.Perm nss) (hs : l.Pairwise fun a b => codeT a ≤ codeT b) : l = isortT nss := by
  refine map_inj_on (f := codeT) (fun x hx y hy h => ?_) (sorted_same ((pm.trans (isortT_perm _).symm).map codeT) (List.pairwise_map.mpr hs) (List.pairwise_map.mpr (isortT_sorted _)))
  obtain ⟨lx, bx⟩ := bd_of (hok x (pm.mem_iff.mp hx))
  obtain ⟨ly, by2⟩ := bd_of (hok y ((isortT_perm _).mem_iff.mp hy))
  exact code_inj (lx.trans ly.symm) bx by2 h
theorem dqs_int {K : PySem.W.Frag} {F : Hp} : ∀ ns : List Int, DqAll K F (ns.map V.int) (ns.map PyData.int)
  | [] => .nil
  | n :: ns => .cons (.int n) (dqs_int ns)
def sortDE (j : Nat) : Gm → EO := fun G => match G[j]? with
  | some (some (.dic kvs)) => if ((kvs.map (·.1)).all (okT ((kvs.map (·.1)).headD [0]).length) && decide (1 ≤ ((kvs.map (·.1)).headD [0]).length)) = true then .ok (.list ((isortT (kvs.map (·.1))).map tupD)) .new else .stuck
  | _ => .stuck
/-- F, and the tuples of H at the places in as -/
def thaw (F H : Hp) (as : List Addr) : Hp := fun a => match F a with
  | some o => some o
  | none => if a ∈ as then H a else none
theorem ee_sortD (hc : X.calm = true) (hm : X.mg "sorted" = none) (hj : X.N[j]? = some x := by rfl) (hg : Gl X "sorted" := by rfl) (hv : Vis X.env.scope x := by first | exact Or.inl rfl | exact Or.inr (Or.inl rfl)) (hd : (x == ("__debug__" : Str)) = false := by decide) (hcd : (x == ("__classdict__" : Str)) = false := by decide)
    (hs : starEach [.Name x px] X.env = (false, eval (.Name x px) X.env) :: starEach [] X.env := by rfl) : EE X ct W (.Call (.Name "sorted" p) [.Name x px] [] pos) (sortDE j) :=
  pe_imp (pe_callB (cr_sortDT hc) hg hm (by decide +kernel) (pa_cons (pe_var hj hv hd hcd) pa_nil hs) (he := hs) (hpl := rfl)) fun σ H Q ⟨F0, H0, F, G, r, q⟩ => by
    unfold sortDE at q
    split at q
    · rename_i kvs e
      split at q
      · rename_i hcnd
        rw [Bool.and_eq_true, decide_eq_true_eq, List.all_eq_true] at hcnd
        obtain ⟨hall, h1⟩ := hcnd
        obtain ⟨u, hu, pa, us, rfl, k0, kf, kp, kd⟩ := r.slot j _ e
        refine ⟨_, hu, pa, us, kvs.map (·.1), ((kvs.map (·.1)).headD [0]).length, rfl, kp, by rw [kd.1, List.map_map]; rfl, h1, fun ns hn => bd_of (hall ns hn), fun L p hpm hpw hL hp => ?_⟩
        have same := sort_perm hall hpm (List.pairwise_map.mpr hpw)
        have at_ : ∀ z ∈ L, thaw F H (L.map (·.1)) z.1 = some (.tup (z.2.map V.int)) := fun z hz => by
          unfold thaw
          cases ef : F z.1 with
          | some o =>
            have := r.fh _ _ ef
            rw [hL z hz] at this
            exact this.symm
          | none =>
            show (if z.1 ∈ L.map (·.1) then H z.1 else none) = _
            rw [if_pos (List.mem_map.mpr ⟨z, hz, rfl⟩)]
            exact hL z hz
        have dq := keyed_dq (K := X.K) (F := thaw F H (L.map (·.1))) (ks := L) fun z hz => .tup ⟨_, at_ z hz, TpO.tup _⟩ (dqs_int z.2)
        rw [same] at dq
        have x1 : Ext F H (thaw F H (L.map (·.1))) (upd H p (.lst (L.map fun q => V.ref q.1))) := by
          refine ⟨fun a o h => ?_, fun a o h => ?_, same_new hp, fun a o h1 h2 t => ?_⟩
          · unfold thaw
            rw [h]
          · refine same_new hp a o ?_
            unfold thaw at h
            cases ef : F a with
            | some o2 =>
              rw [ef] at h
              exact r.fh _ _ (ef.trans h)
            | none =>
              rw [ef] at h
              have h3 : (if a ∈ L.map (·.1) then H a else none) = some o := h
              split at h3
              · exact h3
              · cases h3
          · unfold thaw
            rw [h2]
            show (if a ∈ L.map (·.1) then H a else none) = none
            split
            · rename_i hm2
              obtain ⟨z, hz, rfl⟩ := List.mem_map.mp hm2
              rw [hL z hz] at h1
              cases h1
              exact t.elim
            · rfl
        have fp : thaw F H (L.map (·.1)) p = none := by
          unfold thaw
          rw [r.fh.free hp]
          show (if p ∈ L.map (·.1) then H p else none) = none
          split
          · exact hp
          · rfl
        exact q (.ref p) _ _ x1 ⟨p, _, _, rfl, rfl, hp, fp, upd_same, dq⟩
      · exact q.elim
    · exact q.elim
end
end VL

set_option Elab.async false
set_option linter.all false
set_option maxRecDepth 100000
set_option maxHeartbeats 4000000
/-! V4 (kind w): x[i] += v of an own list of ints. -/
namespace VL
open PySem PySem.Spec PyProof.Rows L2
theorem get_list {X : Cx} : PGet X (rIxL X.K) := by
  intro pins s σ H x y v u Q I rx ry h
  obtain ⟨p, xs, i, z, rfl, rfl, hq, he, q⟩ := h
  cases rx
  obtain ⟨t, rfl⟩ := ry
  obtain ⟨its, r, pl, hz⟩ := I.list hq
  obtain ⟨j, h1, h2, h3, h4, h5⟩ := atI_get he
  obtain ⟨w, ew, rw'⟩ := r.get h2
  have hl := r.length
  have hn := line63
  have fin : EP X pins σ Q w s := ⟨z, H, I, rw', q⟩
  by_cases h0 : 0 ≤ i
  · have hj : i.toNat = j := by
      rw [seqIndex_of h0 h5] at h1
      exact Option.some.inj h1
    exact getItem_listL pl.isList h0 (by omega) (by rw [hj]; simpa using ew) fin
  · have hj : (i + (its.toArray.size : Int)).toNat = j := by
      rw [seqIndex_neg (by omega) h4] at h1
      rw [List.size_toArray, ← hl]
      exact Option.some.inj h1
    exact wpAny_getItem_list_neg pl.isList (by omega) (by rw [List.size_toArray] <;> omega) (by omega) (by rw [hj]; simpa using ew) fin
section
variable {X : Cx} {ct : Nat → Addr} {W : WX} {e i : Expr} {me mi : Gm → EO} {pos px p2 : Pos} {x : Str} {j : Nat}
def augI (f : Int → Int → Int) (j : Nat) (mi me : Gm → EO) : Gm → SO := fun G => match G[j]? with
  | some (some (.own ds)) => (mi G).bindS G fun k _ => match k with
    | .int n => match ixN ds.length n with
      | some m => match ds[m]? with
        | some (.int a) => (me G).bindS G fun d _ => match d with
          | .int b => .next (G.set j (some (.own (ds.set m (.int (f a b))))))
          | _ => .stuck
        | _ => .stuck
      | none => .stuck
    | _ => .stuck
  | _ => .stuck
theorem es_augAdd (hi : EE X ct W i mi) (he : EE X ct W e me) (hj : X.N[j]? = some x := by rfl) (hv : Vis X.env.scope x := by first | exact Or.inl rfl | exact Or.inr (Or.inl rfl)) (hd : (x == ("__debug__" : Str)) = false := by decide) (hcd : (x == ("__classdict__" : Str)) = false := by decide)
    (ha : ∀ ov iv new, augStore i ov iv new = (do holding [new, ov, iv] (setItem ov iv new); release [new, ov, iv] []; pure .next) := by intros; rfl) :
    ES X ct W (.AugAssign (.Subscript (.Name x px) i p2) .Add e pos) (augI (fun a b => a + b) j mi me) :=
  ps_imp (ps_augS (pe_var hj hv hd hcd) hi get_list he ip_add set_list ha) fun D σ H ⟨F0, H0, F, G, r, p⟩ => by
    unfold augI at p
    split at p
    · rename_i ds eg
      obtain ⟨v, hv, q, vs, rfl, h0, hf, hp, ha⟩ := r.slot j _ eg
      refine ⟨_, hv, F0, H0, F, G, r, post_mono (post_S r p) fun u H1 ⟨dk, w, F1, x1, ru, r1, p1⟩ => ?_⟩
      have vu := VV.of x1.fh ru
      split at p1
      · split at p1
        · rename_i m hm
          split at p1
          · rename_i a ea
            obtain ⟨va, hva, ra⟩ := dpAll_get ha ea
            cases ra
            rw [vu.int]
            have hl := dpAll_len ha
            refine ⟨q, vs, _, .int a, rfl, rfl, SqL.of (x1.hh _ _ hp), by unfold atI; rw [hl, hm]; exact hva, ?_⟩
            refine ⟨F0, H0, F1, G, r1, post_mono (post_S r1 p1) fun y H2 ⟨dv, w2, F2, x2, ry, r2, p3⟩ => ?_⟩
            have vy := VV.of x2.fh ry
            split at p3
            · rw [vy.int]
              refine ⟨a, _, rfl, rfl, q, vs, _, m, rfl, rfl, x2.hh _ _ (x1.hh _ _ hp), by rw [hl]; exact hm, ?_⟩
              exact p3 σ F2 _ (Same.refl _) (r2.mut eg hv (dpAll_set (.int _) _ (dpAll_mono (x1.ff.trans x2.ff) _ _ ha)))
            · exact p3.elim
          · exact p1.elim
        · exact p1.elim
      · exact p1.elim
    · exact p.elim
end

/-! ### x[a::k] of a list -/
def pickS {α : Type} (xs : List α) (lo : Option Int) (st : Int) : List α :=
  (sliceRange (sliceBounds lo none (some st) xs.length).1 (sliceBounds lo none (some st) xs.length).2.1 (sliceBounds lo none (some st) xs.length).2.2).filterMap (xs[·]?)
theorem vals_pick {xs : List V} {us : List Value} (r : Vals xs us) : ∀ ix : List Nat, Vals (ix.filterMap (xs[·]?)) (ix.filterMap (us[·]?))
  | [] => .nil
  | n :: ix => by
    have ih := vals_pick r ix
    rw [List.filterMap_cons, List.filterMap_cons]
    by_cases h : n < xs.length
    · obtain ⟨w, ew, rw'⟩ := r.get (List.getElem?_eq_getElem h)
      rw [List.getElem?_eq_getElem h, ew]
      exact .cons rw' ih
    · rw [List.getElem?_eq_none (by omega), List.getElem?_eq_none (by have := r.length; omega)]
      exact ih
theorem dqs_pick {K : PySem.W.Frag} {F : Hp} {xs : List V} {ds : List PyData} (r : DqAll K F xs ds) : ∀ ix : List Nat, DqAll K F (ix.filterMap (xs[·]?)) (ix.filterMap (ds[·]?))
  | [] => .nil
  | n :: ix => by
    have ih := dqs_pick r ix
    rw [List.filterMap_cons, List.filterMap_cons]
    have hl := dpAll_len r
    by_cases h : n < ds.length
    · obtain ⟨w, ew, rw'⟩ := dpAll_get r (List.getElem?_eq_getElem h)
      rw [List.getElem?_eq_getElem h, ew]
      exact .cons rw' ih
    · rw [List.getElem?_eq_none (by omega), List.getElem?_eq_none (by omega)]
      exact ih
def gStep (lo : Option Int) (st : Int) : PyData → EO
  | .list ds => .ok (.list (pickS ds lo st)) .new
  | _ => .stuck
section
variable {X : Cx} {ct : Nat → Addr} {W : WX} {e : Expr} {me : Gm → EO} {pos p1 p2 p3 : Pos} {k : Option String}
/-- a part of a slice that is written out -/
def tLit (l : Option Int) : TO := fun _ H Q => Q l H
theorem pl_none : PO X none (tLit none) := po_none
theorem pl_int {a : Int} {k : Nat} {p : Pos} : PO X (some (.Constant (.int a) k p)) (tLit (some a)) := ⟨fun pins s σ H Q I h => (po_some pe_int).run pins s σ H Q I ⟨a, rfl, h⟩⟩
theorem ee_step {lo st : Option Expr} {l : Option Int} {c : Int} (he : EE X ct W e me) (hlo : PO X lo (tLit l)) (hst : PO X st (tLit (some c))) (h0 : c ≠ 0 := by decide) (hsub : ∀ a b : Addr, subscripted (.Slice lo none st p3) false (.ref a) (.ref b) = operate [.ref a, .ref b] (getItem (.ref a) (.ref b)) := by intros; with_unfolding_all rfl) : EE X ct W (.Subscript e (.Slice lo none st p3) pos) (op1 (gStep l c) me) := by
  refine ⟨fun pins s σ H Q I h => ?_⟩
  have h1 := tM_mono (tM_view (k := fun _ d => gStep l c d) h) (Q2 := fun v H1 => ∃ a xs, v = .ref a ∧ SqL X.K H1 a xs ∧ ∀ p, H1 p = none → Q (.ref p) (upd H1 p (.lst (pickS xs l c)))) fun v H1 ⟨F0, H0, F1, G, d, rp, vv, q⟩ => by
    unfold gStep at q
    split at q
    · obtain ⟨_, b, vs, rfl, hb, ra⟩ := vv
      refine ⟨b, vs, rfl, SqL.of hb, fun p hp => ok_newL rp.fh ?_ q hp⟩
      unfold pickS
      rw [dpAll_len ra]
      exact dqs_pick ra _
    · exact q.elim
  refine PyProof.Rows.Subscript_ (thn (he.run pins s σ H _ I h1) fun v s1 ⟨x, H1, I1, r1, q1⟩ => ?_)
  obtain ⟨a, xs, ex, hx, q⟩ := q1
  subst ex
  cases r1
  refine wpAny_Slice (thn (hlo.run pins s1 σ H1 (fun o H4 => o = l ∧ H4 = H1) I1 ⟨rfl, rfl⟩) fun vl s2 ⟨ol, H2, I2, pl, el, e2⟩ => ?_)
  subst el e2
  refine thn (po_none.run pins s2 σ H2 (fun o H4 => o = none ∧ H4 = H2) I2 ⟨rfl, rfl⟩) fun vu s3 ⟨ou, H3, I3, pu, eu, e3⟩ => ?_
  subst eu e3
  refine thn (hst.run pins s3 σ H3 (fun o H4 => o = some c ∧ H4 = H3) I3 ⟨rfl, rfl⟩) fun vs s4 ⟨o, H4, I4, ps, eo, e4⟩ => ?_
  subst eo e4
  have I5 : Inv X pins σ H4 { s4 with heap := s4.heap.push { cls := .type "slice", data := .fields #[vl, vu, vs] } } := I4.kept (t' := s4.toks) fun b ob q => Heap.get?_push_of_some _ q
  obtain ⟨its, r, ht, hz⟩ := I5.list hx
  have hlen := r.length
  refine PyProof.Rows.tail_any (ops := [.ref a, .ref s4.heap.objs.size]) ht.isList.typeIs PySem.slot_list_getitem.lookup (wpAny_getItem_list_slice ht.isList (Heap.IsSliceOf.new _ vl vu vs) pl pu ps (fun z => h0 (Option.some.inj z)) ?_ (by rw [List.size_toArray]; omega)) (hsub _ _)
  have e5 : slicePick its.toArray ol none (some c) = (pickS its ol c).toArray := by
    unfold slicePick pickS
    rw [List.size_toArray]
    congr 1
    simp only [List.getElem?_toArray]
  rw [e5]
  have hpk : Vals (pickS xs ol c) (pickS its ol c) := by
    unfold pickS
    rw [hlen]
    exact vals_pick r _
  have hle : (pickS xs ol c).length ≤ sizeLine := by
    have h9 := slicePick_size_le its.toArray ol none (some c)
    rw [e5, List.size_toArray, List.size_toArray, ← hpk.length] at h9
    omega
  exact ⟨.ref _, _, I5.laid (t' := s4.toks) (o := .lst (pickS xs ol c)) (fun b ob q => Heap.get?_push_of_some _ q) (Nat.le_refl _) ⟨hle, _, 0, hpk, Heap.get?_push_size _ rfl⟩, rfl, q _ (I5.hok.fresh (Nat.le_refl _))⟩
end
end VL

set_option Elab.async false
set_option linter.all false
set_option maxRecDepth 100000
set_option maxHeartbeats 4000000
/-! V7 (kind w): dicts with keys that are tuples of ints: x = {}, x = y, x[k], x.get(k, d), for k in x. -/
namespace VL
open PySem PySem.Spec PyProof.Rows L2
section
variable {K : PySem.W.Frag} {F0 H0 F H : Hp} {G : Gm} {σ : L2.St}
def dicAt : Option (Option Sl) → Option (List (List Int × PyData))
  | some (some (.dic kvs)) => some kvs
  | some (some (.lkd kvs)) => some kvs
  | _ => none
theorem Rep.dicAt {j : Nat} {kvs : List (List Int × PyData)} (r : Rep K F0 H0 F H G σ) (e : VL.dicAt G[j]? = some kvs) : ∃ p us, σ[j]? = some (some (.ref p)) ∧ Rd H p (.dT us) ∧ KvD K F us kvs := by
  unfold VL.dicAt at e
  split at e
  · rename_i kvs2 e2
    cases e
    obtain ⟨v, hv, p, us, rfl, _, _, hp, kd⟩ := r.slot j _ e2
    exact ⟨p, us, hv, .inl hp, kd⟩
  · rename_i kvs2 e2
    cases e
    obtain ⟨v, hv, p, od, us, rfl, hp, kd⟩ := r.slot j _ e2
    exact ⟨p, us, hv, .inr ⟨od, hp⟩, kd⟩
  · cases e
theorem kv_val {F : Hp} {ns : List Int} : ∀ {us : List (List Key × V)} {kvs : List (List Int × PyData)}, KvD K F us kvs → (∃ v d, valV us (inls ns) = some v ∧ valD kvs ns = some d ∧ Dq K F v d) ∨ (valV us (inls ns) = none ∧ valD kvs ns = none)
  | [], [], _ => .inr ⟨rfl, rfl⟩
  | [], _ :: _, h => by cases h.1
  | _ :: _, [], h => by cases h.1
  | u :: us, p :: kvs, ⟨h1, h2⟩ => by
    rw [List.map_cons, List.map_cons] at h1 h2
    obtain ⟨h3, h4⟩ := List.cons.inj h1
    cases h2 with
    | cons h5 h6 =>
      unfold valV valD
      rw [List.find?_cons, List.find?_cons]
      by_cases z : p.1 = ns
      · have z2 : u.1 = inls ns := h3.trans (by rw [z])
        rw [decide_eq_true z, decide_eq_true z2]
        exact .inl ⟨_, _, rfl, rfl, h5⟩
      · have z2 : ¬ u.1 = inls ns := fun c => z (inls_inj (h3.symm.trans c))
        rw [decide_eq_false z, decide_eq_false z2]
        exact kv_val (us := us) (kvs := kvs) ⟨h4, h6⟩
end
section
variable {X : Cx} {ct : Nat → Addr} {W : WX} {e i : Expr} {me mi md : Gm → EO} {pos px p2 apos : Pos} {x y : Str} {j n : Nat}
/-! ### x[k], x.get(k, d) -/
def idxD (j : Nat) (mi : Gm → EO) : Gm → EO := fun G => match dicAt G[j]? with
  | some kvs => (mi G).bind fun d w => match keyOf d, w with
    | some ns, .frz => (match valD kvs ns with
      | some v => .ok v .frz
      | none => .stuck)
    | _, _ => .stuck
  | none => .stuck
theorem ee_dget {k : Nat} (hr : Room k X.A) (hi : EE X ct W i mi) (hj : X.N[j]? = some x := by rfl) (hv : Vis X.env.scope x := by first | exact Or.inl rfl | exact Or.inr (Or.inl rfl)) (hd : (x == ("__debug__" : Str)) = false := by decide) (hcd : (x == ("__classdict__" : Str)) = false := by decide) (hs : NoSl i := by intros _ _; rfl) :
    EE X ct W (.Subscript (.Name x px) i pos) (idxD j mi) :=
  pe_imp (pe_dget (by have := hr.un; omega) (pe_var hj hv hd hcd) hi hs) fun σ H Q ⟨F0, H0, F, G, r, p⟩ => by
    unfold idxD at p
    split at p
    · rename_i kvs eg
      obtain ⟨pa, us, hu, rd, kd⟩ := r.dicAt eg
      refine ⟨_, hu, F0, H0, F, G, r, post_mono (post_bind p) fun v H1 ⟨d, w, F1, x1, q, p2⟩ => ?_⟩
      split at p2
      · rename_i ns ek
        split at p2
        · rename_i d2 ev
          obtain ⟨b, rfl, hb⟩ := key_at (show Dq X.K F1 v d from q) ek
          obtain ⟨pa2, us2, hu2, rd2, kd2⟩ := (r.ext x1).dicAt eg
          rw [hu] at hu2
          cases hu2
          rcases kv_val (ns := ns) kd2 with ⟨z, d3, e1, e2, dz⟩ | ⟨_, e2⟩
          · rw [ev] at e2
            cases e2
            exact ⟨pa, z, rfl, .inr ⟨us2, inls ns, b, rd2, rfl, x1.fh _ _ hb, e1.symm⟩, p2 z F1 H1 (Ext.refl x1.fh) dz⟩
          · rw [ev] at e2
            cases e2
        · exact p2.elim
      · exact p2.elim
    · exact p.elim
def getD (j : Nat) (mi md : Gm → EO) : Gm → EO := fun G => match dicAt G[j]? with
  | some kvs => (mi G).bind fun d w => match keyOf d, w with
    | some ns, .frz => (md G).bind fun z w2 => (match w2 with
      | .frz => .ok ((valD kvs ns).getD z) .frz
      | _ => .stuck)
    | _, _ => .stuck
  | none => .stuck
theorem ee_dgetO {k : Nat} (hr : Room k X.A) (hi : EE X ct W i mi) (hd2 : EE X ct W e md) (hj : X.N[j]? = some x := by rfl) (hv : Vis X.env.scope x := by first | exact Or.inl rfl | exact Or.inr (Or.inl rfl)) (hd : (x == ("__debug__" : Str)) = false := by decide) (hcd : (x == ("__classdict__" : Str)) = false := by decide)
    (m : M2 X (.Name x px) "get" apos i e pos := by exact ⟨rfl, rfl, rfl, rfl⟩) : EE X ct W (.Call (.Attribute (.Name x px) "get" apos) [i, e] [] pos) (getD j mi md) :=
  pe_imp (pe_dget2 (by have := hr.un; omega) (pe_var hj hv hd hcd) hi hd2 m) fun σ H Q ⟨F0, H0, F, G, r, p⟩ => by
    unfold getD at p
    split at p
    · rename_i kvs eg
      obtain ⟨pa, us, hu, rd, kd⟩ := r.dicAt eg
      refine ⟨_, hu, pa, rfl, .inr ⟨us, rd⟩, F0, H0, F, G, r, post_mono (post_bind p) fun v H1 ⟨d, w, F1, x1, q, p2⟩ => ?_⟩
      split at p2
      · rename_i ns ek
        refine ⟨F0, H0, F1, G, r.ext x1, post_mono (post_bind p2) fun z H2 ⟨d3, w3, F2, x2, q3, p3⟩ => ?_⟩
        split at p3
        · obtain ⟨b, rfl, hb⟩ := key_at (show Dq X.K F1 v d from q) ek
          obtain ⟨pa2, us2, hu2, rd2, kd2⟩ := ((r.ext x1).ext x2).dicAt eg
          rw [hu] at hu2
          cases hu2
          refine ⟨_, .inr ⟨us2, inls ns, b, rd2, rfl, x2.fh _ _ (x2.ff _ _ hb), rfl⟩, ?_⟩
          rcases kv_val (ns := ns) kd2 with ⟨z2, d4, e1, e2, dz⟩ | ⟨e1, e2⟩
          · rw [e2] at p3
            rw [e1]
            exact p3 z2 F2 H2 (Ext.refl x2.fh) dz
          · rw [e2] at p3
            rw [e1]
            exact p3 z F2 H2 (Ext.refl x2.fh) q3
        · exact p3.elim
      · exact p2.elim
    · exact p.elim
/-! ### x = {} -/
def dnilS (j : Nat) : Gm → SO := fun G => .next (G.set j (some (.dic [])))
theorem es_dnil {pos2 : Pos} (hN : X.N.Nodup) (hi : X.N[j]? = some x := by rfl) (hx : Loc X.env.scope x := by first | exact Or.inl rfl | exact Or.inr rfl) (hs : swapsWith (.Dict [] [] px) (some (.Name x pos2)) pos.line X.env = pure false := by rfl)
    (hf : X.fn x = true ∨ X.env.scope.names.lookup x = some .local := by first | exact .inl rfl | exact .inr rfl) : ES X ct W (.Assign [.Name x pos2] (.Dict [] [] px) pos) (dnilS j) :=
  ps_imp (ps_set hN hi hx pe_dnewT hs hf) fun D σ H ⟨F0, H0, F, G, r, p⟩ => by
    intro pa hpa
    have x0 : VL.Ext F H F (upd H pa (.dT [])) := Ext.new r.fh hpa
    refine p _ F _ (Same.refl _) ((r.ext x0).dic j (r.hh.free hpa) (r.fh.free hpa) upd_same ⟨rfl, .nil⟩ fun k t u g e m => ?_)
    obtain ⟨_, _, o3, hp3, _⟩ := r.at_mut g e m
    rw [hpa] at hp3
    cases hp3
/-! ### x = y, a dict moves -/
def dmvS (j n : Nat) : Gm → SO := fun G => match G[n]? with
  | some (some (.dic kvs)) => .next ((G.set n none).set j (some (.dic kvs)))
  | _ => .stuck
theorem es_dmove {pos2 : Pos} (hN : X.N.Nodup) (hi : X.N[j]? = some x := by rfl) (hn : X.N[n]? = some y := by rfl) (hx : Loc X.env.scope x := by first | exact Or.inl rfl | exact Or.inr rfl) (hv : Vis X.env.scope y := by first | exact Or.inl rfl | exact Or.inr (Or.inl rfl))
    (hd : (y == ("__debug__" : Str)) = false := by decide) (hcd : (y == ("__classdict__" : Str)) = false := by decide) (hs : swapsWith (.Name y px) (some (.Name x pos2)) pos.line X.env = pure false := by rfl)
    (hf : X.fn x = true ∨ X.env.scope.names.lookup x = some .local := by first | exact .inl rfl | exact .inr rfl) : ES X ct W (.Assign [.Name x pos2] (.Name y px) pos) (dmvS j n) :=
  ps_imp (ps_set hN hi hx (pe_var hn hv hd hcd) hs hf) fun D σ H ⟨F0, H0, F, G, r, p⟩ => by
    unfold dmvS at p
    split at p
    · rename_i kvs eg
      obtain ⟨v, hv2, pa, us, rfl, h0, hf2, hp, kd⟩ := r.slot n _ eg
      refine ⟨_, hv2, p _ F H (Same.refl _) ((r.drop n).dic j h0 hf2 hp kd fun k t u g e m => ?_)⟩
      rcases get_set g with ⟨_, z, _⟩ | ⟨ne, g2⟩
      · cases z
      · exact r.dist n k _ _ _ _ pa ne eg g2 hv2 e rfl m
    · exact p.elim
/-! ### for k in x -/
def noL : Gm → Bool
  | [] => true
  | some (.lkd _) :: _ => false
  | _ :: G => noL G
theorem noL_at : ∀ {G : Gm} {i : Nat} {kvs : List (List Int × PyData)}, noL G = true → G[i]? = some (some (.lkd kvs)) → False
  | [], _, _, _, e => by simp at e
  | some (.lkd _) :: _, _, _, h, _ => by cases h
  | none :: G, 0, _, _, e => by simp at e
  | some (.dat _) :: G, 0, _, _, e => by simp at e
  | some (.own _) :: G, 0, _, _, e => by simp at e
  | some (.dic _) :: G, 0, _, _, e => by simp at e
  | some (.nst _) :: G, 0, _, _, e => by simp at e
  | some (.clm _ _) :: G, 0, _, _, e => by simp at e
  | none :: G, i + 1, _, h, e => noL_at (G := G) (i := i) h (by simpa using e)
  | some (.dat _) :: G, i + 1, _, h, e => noL_at (G := G) (i := i) h (by simpa using e)
  | some (.own _) :: G, i + 1, _, h, e => noL_at (G := G) (i := i) h (by simpa using e)
  | some (.dic _) :: G, i + 1, _, h, e => noL_at (G := G) (i := i) h (by simpa using e)
  | some (.nst _) :: G, i + 1, _, h, e => noL_at (G := G) (i := i) h (by simpa using e)
  | some (.clm _ _) :: G, i + 1, _, h, e => noL_at (G := G) (i := i) h (by simpa using e)
def unlK (j : Nat) (o : SO) : SO := match o with
  | .next G => if noL (G.set j none) = true then .next (G.set j none) else .stuck
  | _ => .stuck
def forK (j : Nat) (tgt : PyData → Gm → Option Gm) (mb : Gm → SO) : Gm → SO := fun G => match G[j]? with
  | some (some (.dic kvs)) => unlK j (forL tgt mb (kvs.map fun p => tupD p.1) (G.set j (some (.lkd kvs))))
  | _ => .stuck
theorem SR.older {K : PySem.W.Frag} {H0 F H : Hp} {v : V} {s : Sl} {a : Addr} {o : HO} (q : SR K H0 F H v s) (n : ¬ mutA F v a s) : SR K (L2.upd H0 a o) F H v s := by
  cases s with
  | dat d => exact q
  | own ds =>
    obtain ⟨p, vs, e, h0, hf, hp, hd⟩ := q
    exact ⟨p, vs, e, by rw [upd_ne (fun z => n (by rw [← z]; exact e))]; exact h0, hf, hp, hd⟩
  | dic kvs =>
    obtain ⟨p, us, e, h0, hf, hp, hd⟩ := q
    exact ⟨p, us, e, by rw [upd_ne (fun z => n (by rw [← z]; exact e))]; exact h0, hf, hp, hd⟩
  | nst kvs =>
    obtain ⟨p, us, e, h0, hf, hp, hd⟩ := q
    exact ⟨p, us, e, by rw [upd_ne (fun z => n (by rw [← z]; exact e))]; exact h0, hf, hp, hd⟩
  | lkd kvs => exact q
  | clm os k =>
    obtain ⟨p, C, dx, l, vs, e, ic, hp, h0, hf, hl, hd⟩ := q
    exact ⟨p, C, dx, l, vs, e, ic, hp, by rw [upd_ne (fun z => n (by rw [← z]; exact ⟨p, C, dx, k, e, hp⟩))]; exact h0, hf, hl, hd⟩
theorem Rep.lock {K : PySem.W.Frag} {F0 H0 F H : Hp} {G : Gm} {σ : L2.St} {pa : Addr} {us : List (List Key × V)} {kvs : List (List Int × PyData)} (r : Rep K F0 H0 F H G σ) (eg : G[j]? = some (some (.dic kvs))) (hv : σ[j]? = some (some (.ref pa))) (hp : H pa = some (.dT us)) (kd : KvD K F us kvs) (od : Obj) :
    Rep K F0 (upd H0 pa (.frz od (.dT us))) F (upd H pa (.frz od (.dT us))) (G.set j (some (.lkd kvs))) σ := by
  obtain ⟨h0, hf, _⟩ := r.at_mut eg hv (a := pa) rfl
  have r1 := r.chg (o2 := .frz od (.dT us)) eg hv (a := pa) (t := .lkd kvs) rfl hp (fun _ _ z => nomatch z) ⟨pa, od, us, rfl, upd_same, kd⟩ fun b m => m.elim
  refine ⟨r1.fh, fun b z h => ?_, r1.ff, fun b z h1 h2 t => ?_, r1.len, fun k s h => ?_, r1.dist⟩
  · by_cases c : b = pa
    · subst c
      rw [upd_same] at h ⊢
      exact h
    · rw [upd_ne c] at h
      exact r1.hh b z h
  · by_cases c : b = pa
    · subst c
      exact hf
    · rw [upd_ne c] at h1
      exact r1.ap b z h1 h2 t
  · obtain ⟨v, h1, h2⟩ := r1.slot k s h
    refine ⟨v, h1, h2.older fun m => ?_⟩
    rcases get_set h with ⟨rfl, z, _⟩ | ⟨ne, g⟩
    · cases z
      exact m
    · exact r.dist j k _ _ _ _ pa ne eg g hv h1 rfl m
theorem Rep.unlock {K : PySem.W.Frag} {F0 H0 F H : Hp} {G : Gm} {σ : L2.St} {pa : Addr} {od : Obj} {u : HO} (r : Rep K F0 (upd H0 pa (.frz od u)) F H G σ) (h0 : H0 pa = none) (f0 : F0 pa = none) (n : noL (G.set j none) = true) : Rep K F0 H0 F (upd H pa u) (G.set j none) σ := by
  have hH : H pa = some (.frz od u) := r.hh _ _ upd_same
  have hF : F pa = none := r.ap pa _ upd_same f0 trivial
  have rd := r.drop j
  refine ⟨fun b z h => ?_, fun b z h => ?_, rd.ff, fun b z h1 h2 t => ?_, rd.len, fun k s h => ?_, rd.dist⟩
  · rw [upd_ne (ne_of_none h hF)]
    exact rd.fh b z h
  · have c : b ≠ pa := ne_of_none h h0
    rw [upd_ne c]
    exact rd.hh b z (by rw [upd_ne c]; exact h)
  · have c : b ≠ pa := ne_of_none h1 h0
    exact rd.ap b z (by rw [upd_ne c]; exact h1) h2 t
  · obtain ⟨v, h1, h2⟩ := rd.slot k s h
    refine ⟨v, h1, ?_⟩
    cases s with
    | dat d => exact h2
    | own ds =>
      obtain ⟨p, vs, e, g0, hf, hp, hd⟩ := h2
      have c : p ≠ pa := fun z => by rw [z, upd_same] at g0; cases g0
      exact ⟨p, vs, e, by rw [upd_ne c] at g0; exact g0, hf, by rw [upd_ne c]; exact hp, hd⟩
    | dic kvs =>
      obtain ⟨p, us, e, g0, hf, hp, hd⟩ := h2
      have c : p ≠ pa := fun z => by rw [z, upd_same] at g0; cases g0
      exact ⟨p, us, e, by rw [upd_ne c] at g0; exact g0, hf, by rw [upd_ne c]; exact hp, hd⟩
    | nst kvs =>
      obtain ⟨p, us, e, g0, hf, hp, hd⟩ := h2
      have c : p ≠ pa := fun z => by rw [z, upd_same] at g0; cases g0
      exact ⟨p, us, e, by rw [upd_ne c] at g0; exact g0, hf, by rw [upd_ne c]; exact hp, hd⟩
    | lkd kvs => exact (noL_at n h).elim
    | clm os k =>
      obtain ⟨p, C, dx, l, vs, e, ic, hp, g0, hf, hl, hd⟩ := h2
      have c : l ≠ pa := fun z => by rw [z, upd_same] at g0; cases g0
      exact ⟨p, C, dx, l, vs, e, ic, hp, by rw [upd_ne c] at g0; exact g0, hf, by rw [upd_ne c]; exact hl, hd⟩
theorem it_keys {K : PySem.W.Frag} {F Hs : Hp} {pa : Addr} {od : Obj} {us : List (List Key × V)} {kvs : List (List Int × PyData)} (h : Hs pa = some (.frz od (.dT us))) (kd : KvD K F us kvs) : ItOk K F Hs (Itkt pa od us) (kvs.map fun p => tupD p.1) where
  go := fun i F2 H2 d s1 s2 s3 e => by
    rw [List.getElem?_map] at e
    cases ek : kvs[i]? with
    | none => rw [ek] at e; cases e
    | some p =>
      rw [ek] at e
      cases e
      have hl := kv_len kd
      have hi : i < kvs.length := (List.getElem?_eq_some_iff.mp ek).1
      refine ⟨⟨s3 _ _ h, by rw [hl]; exact hi⟩, fun x H3 y => ?_⟩
      obtain ⟨rfl, k, v, q, e1, rfl, hq⟩ := y
      have ek2 : k = inls p.1 := by
        have z : (us.map (·.1))[i]? = (kvs.map fun p => inls p.1)[i]? := by rw [kd.1]
        rw [List.getElem?_map, List.getElem?_map, e1, ek] at z
        exact Option.some.inj z
      rw [ek2, inls_kV] at hq
      cases hF : F2 q with
      | some o =>
        have := s2 _ _ hF
        rw [hq] at this
        cases this
        exact ⟨F2, Ext.refl s2, .tup ⟨_, hF, TpO.tup _⟩ (dqs_int p.1)⟩
      | none =>
        refine ⟨upd F2 q (.tup (p.1.map V.int)), ⟨same_new hF, fun a o z => ?_, Same.refl _, fun a o z1 z2 t => ?_⟩, .tup ⟨_, upd_same, TpO.tup _⟩ (dqs_int p.1)⟩
        · by_cases c : a = q
          · subst c
            rw [upd_same] at z
            exact hq.trans z
          · rw [upd_ne c] at z
            exact s2 a o z
        · by_cases c : a = q
          · subst c
            rw [hq] at z1
            cases z1
            exact t.elim
          · rw [upd_ne c]
            exact z2
  stop := fun F2 H2 s1 s2 s3 => ⟨s3 _ _ h, by rw [List.length_map, kv_len kd]; exact Nat.le_refl _⟩
variable {tg : Expr} {sts : List Stmt} {mb : Gm → SO} {tgt : PyData → Gm → Option Gm}
theorem es_forK (hp : PassesOwn (model X.prog X.w) X.A X.env X.xe) (hc : X.calm = true) (hg : EG X tg tgt) (hb : ESs X ct W sts mb) (hj : X.N[j]? = some x := by rfl) (hv : Vis X.env.scope x := by first | exact Or.inl rfl | exact Or.inr (Or.inl rfl)) (hd : (x == ("__debug__" : Str)) = false := by decide) (hcd : (x == ("__classdict__" : Str)) = false := by decide)
    (hs : ∀ z, foldedSetIterable (.Name x px) X.env z = pure z := by intro _; rfl) : ES X ct W (.For tg (.Name x px) sts [] pos) (forK j tgt mb) :=
  ps_imp (ps_lock (ps_for hp hc (pi_keys (pe_var hj hv hd hcd)) hg hb hs)) fun D σ H ⟨F0, H0, F, G, r, p⟩ => by
    unfold forK at p
    split at p
    · rename_i kvs eg
      obtain ⟨v, hv2, pa, us, rfl, h0, hf, hpa, kd⟩ := r.slot j _ eg
      refine ⟨pa, .dT us, hpa, trivial, fun od => ⟨_, hv2, pa, od, rfl, .inr ⟨us, upd_same, ?_⟩⟩⟩
      have rl := r.lock eg hv2 hpa kd od
      have io : ItOk X.K F (upd H0 pa (.frz od (.dT us))) (Itkt pa od us) (kvs.map fun p => tupD p.1) := it_keys upd_same kd
      have f0 : F0 pa = none := by
        cases e : F0 pa with
        | none => rfl
        | some z =>
          have := r.ff _ _ e
          rw [hf] at this
          cases this
      obtain ⟨D2, hD2⟩ : ∃ D2 : Ends, D2 = ⟨fun σ' H' => H' pa = some (.frz od (.dT us)) ∧ D.nx σ' (upd H' pa (.dT us)), fun v H' => H' pa = some (.frz od (.dT us)) ∧ D.rt v (upd H' pa (.dT us)), fun σ' H' => H' pa = some (.frz od (.dT us)) ∧ D.bk σ' (upd H' pa (.dT us)), fun σ' H' => H' pa = some (.frz od (.dT us)) ∧ D.ct σ' (upd H' pa (.dT us))⟩ := ⟨_, rfl⟩
      have p2 : postS X.K ct W F0 (upd H0 pa (.frz od (.dT us))) D2 F (forL tgt mb (kvs.map fun p => tupD p.1) (G.set j (some (.lkd kvs)))) := by
        unfold unlK at p
        revert p
        cases forL tgt mb (kvs.map fun p => tupD p.1) (G.set j (some (.lkd kvs))) with
        | next G2 =>
          intro p
          simp only at p
          split at p
          · rename_i hn
            intro σ2 F2 H2 s2 r2
            rw [hD2]
            exact ⟨r2.hh _ _ upd_same, p σ2 F2 _ s2 (r2.unlock h0 f0 hn)⟩
          · exact p.elim
        | brk G2 => exact fun p => p.elim
        | cont G2 => exact fun p => p.elim
        | ret d => exact fun p => p.elim
        | exc c pl G2 => exact fun p => p.elim
        | stuck => exact fun p => p.elim
      rw [← hD2]
      clear p hD2
      generalize hds : (kvs.map fun p => tupD p.1) = ds at io p2
      generalize upd H0 pa (.frz od (.dT us)) = H00 at rl io p2
      generalize G.set j (some (.lkd kvs)) = G2 at rl p2
      generalize upd H pa (.frz od (.dT us)) = H2 at rl
      refine ⟨fun i m σ H => m = ds.length - i ∧ i ≤ ds.length ∧ ∃ F3 G3, Same F F3 ∧ Rep X.K F0 H00 F3 H G3 σ ∧ postS X.K ct W F0 H00 D2 F3 (forL tgt mb (ds.drop i) G3), ⟨ds.length, by simp, Nat.zero_le _, F, G2, Same.refl _, rl, p2⟩, ?_⟩
      rintro i m σ3 H3 ⟨rfl, hi3, F3, G3, s3, r3, p3⟩
      by_cases hlt : i < ds.length
      · have hd3 : ds.drop i = ds[i] :: ds.drop (i + 1) := List.drop_eq_getElem_cons hlt
        obtain ⟨hgo, hy⟩ := io.go i F3 H3 ds[i] s3 r3.fh r3.hh (by simp [hlt])
        refine .inr ⟨hgo, fun σ4 H4 => ∃ F4 G4, Same F F4 ∧ Rep X.K F0 H00 F4 H4 G4 σ4 ∧ postS X.K ct W F0 H00 D2 F4 (forL tgt mb (ds.drop (i + 1)) G4), fun σ4 H4 ⟨F4, G4, s4, r4, p4⟩ => ⟨ds.length - (i + 1), by omega, rfl, hlt, F4, G4, s4, r4, p4⟩, fun z H4 y => ?_⟩
        obtain ⟨F4, x4, q4⟩ := hy z H4 y
        rw [hd3] at p3
        unfold forL at p3
        cases ht : tgt ds[i] G3 with
        | none =>
          rw [ht] at p3
          exact p3.elim
        | some G4 =>
          rw [ht] at p3
          refine ⟨F0, H00, F4, G3, ds[i], G4, r3.ext x4, q4, ht, fun σ5 r5 => ⟨F0, H00, F4, G4, r5, ?_⟩⟩
          simp only at p3
          revert p3
          cases mb G4 with
          | next G5 => exact fun p3 σ6 F6 H6 s6 r6 => ⟨F6, G5, (s3.trans x4.ff).trans s6, r6, postS_same p3 (x4.ff.trans s6)⟩
          | cont G5 => exact fun p3 σ6 F6 H6 s6 r6 => ⟨F6, G5, (s3.trans x4.ff).trans s6, r6, postS_same p3 (x4.ff.trans s6)⟩
          | brk G5 => exact fun p3 σ6 F6 H6 s6 r6 => p3 σ6 F6 H6 (x4.ff.trans s6) r6
          | ret d => exact fun p3 => p3
          | exc c pl G5 => exact fun p3 cls dd σ6 F6 H6 s6 r6 q6 => p3 cls dd σ6 F6 H6 (x4.ff.trans s6) r6 q6
          | stuck => exact fun p3 => p3
      · have e : i = ds.length := by omega
        subst e
        rw [List.drop_length] at p3
        exact .inl ⟨io.stop F3 H3 s3 r3.fh r3.hh, p3 σ3 F3 H3 (Same.refl _) r3⟩
    · exact p.elim
end
end VL

set_option Elab.async false
set_option linter.all false
set_option maxRecDepth 100000
set_option maxHeartbeats 4000000
/-! V8: sorted of a list of lists that are alike (chains). -/
namespace VL
open PySem PySem.Spec PyProof.Rows L2
def srtD (ds : List PyData) : List PyData := ds.mergeSort (PySem.W.dataLe false id)
def isLst : PyData → Bool
  | .list _ => true
  | _ => false
def okC (ds : List PyData) : Bool := (ds.all fun x => ds.all fun y => PySem.W.alike x y) && ds.all (fun d => isLst d && SeqAt.shaped d) && decide (ds.length ≤ big)
theorem srtD_perm (ds : List PyData) : (srtD ds).Perm ds := List.mergeSort_perm _ _
section
variable {K : PySem.W.Frag} {F : Hp}
theorem each_dq : ∀ {xs : List V} {us : List Value} {ds : List PyData}, Vals xs us → DqAll K F xs ds → PySem.W.EachIs (fun u d => ∃ v, RelV v u ∧ Dq K F v d) us ds
  | _, _, _, .nil, .nil => .nil
  | _, _, _, .cons r t, .cons q s => .cons ⟨_, r, q⟩ (each_dq t s)
theorem dq_each : ∀ {us : List Value} {ds : List PyData}, PySem.W.EachIs (fun u d => ∃ v, RelV v u ∧ Dq K F v d) us ds → ∃ xs, Vals xs us ∧ DqAll K F xs ds
  | _, _, .nil => ⟨[], .nil, .nil⟩
  | _, _, .cons ⟨v, r, q⟩ t => by
    obtain ⟨xs, h1, h2⟩ := dq_each t
    exact ⟨v :: xs, .cons r h1, .cons q h2⟩
theorem each_reads {X : Cx} {pins : List (Addr × Obj)} {σ : L2.St} {H : Hp} {s : Shared} (I : Inv X pins σ H s) (fh : Same F H) : ∀ {us : List Value} {ds : List PyData}, (∀ d ∈ ds, SeqAt.shaped d = true) → PySem.W.EachIs (fun u d => ∃ v, RelV v u ∧ Dq X.K F v d) us ds → PySem.W.EachIs (fun u d => ∃ as, Reads s.heap u d as) us ds
  | _, _, _, .nil => .nil
  | _, _, h, .cons ⟨v, r, q⟩ t => .cons (Dp.reads I _ v _ (dq_shaped (dp_mono fh _ _ q) (h _ List.mem_cons_self)) r) (each_reads I fh (fun d hd => h d (List.mem_cons_of_mem _ hd)) t)
end
def rSortC (K : PySem.W.Frag) : List V → Hp → VK → Prop := fun vs H Q => ∃ (a : Addr) (F : Hp) (xs : List V) (ds : List PyData), vs = [V.ref a] ∧ Same F H ∧ H a = some (.lst xs) ∧ DqAll K F xs ds ∧ okC ds = true ∧ ∀ (ys : List V) (p : Addr), DqAll K F ys (srtD ds) → H p = none → Q (.ref p) (upd H p (.lst ys))
theorem cr_sortC {X : Cx} (hu : X.A.units + 70 < cLine) : CallR X (.builtin "sorted") (rSortC X.K) := by
  rintro pins s σ H vs us Q I r ⟨a, F, xs, ds, rfl, fh, ha, dq, ok, q⟩
  obtain ⟨its, rv, hl, hz⟩ := I.list (SqL.of ha)
  rw [Vals.ref1 r]
  unfold okC at ok
  rw [Bool.and_eq_true, Bool.and_eq_true, decide_eq_true_eq] at ok
  obtain ⟨⟨o1, o2⟩, o3⟩ := ok
  have sh : ∀ d ∈ ds, SeqAt.shaped d = true := fun d hd => ((Bool.and_eq_true _ _).mp (List.all_eq_true.mp o2 d hd)).2
  have er := each_dq rv dq
  have al : PySem.W.AllAlike (ds.map id) := by
    rw [List.map_id]
    exact fun d hd e he => List.all_eq_true.mp (List.all_eq_true.mp o1 d hd) e he
  have so : PySem.W.Sortable (ds.map id) := by
    rw [List.map_id]
    refine .inr fun d hd => ?_
    have := ((Bool.and_eq_true _ _).mp (List.all_eq_true.mp o2 d hd)).1
    exact ⟨fun z => (by rw [z] at this; cases this), fun ys z => (by rw [z] at this; cases this)⟩
  refine PySem.W.sorted_data (enc := id) (R := fun u d => ∃ v, RelV v u ∧ Dq X.K F v d) hl.isList er (each_reads I fh sh er) al so (big_line o3) (fun d hd => ?_) fun out ho eo => ?_
  · have := sh d hd
    unfold SeqAt.shaped at this
    rw [Bool.and_eq_true, decide_eq_true_eq] at this
    show X.A.units + 2 + d.depth < cLine
    omega
  · obtain ⟨ys, v1, d1⟩ := dq_each eo
    obtain ⟨ep, he⟩ := PyProof.Rows.sortedAll_at s.heap its out.toArray
    have hlen : ys.length ≤ sizeLine := by
      rw [v1.length, ho]
      exact big_line o3
    exact ⟨.ref _, upd H (s.heap.objs.size + 1) (.lst ys), I.laid (t' := s.toks) (fun _ _ => PyProof.Rows.sortedAll_old) (Nat.le_succ _) ⟨hlen, out, ep, v1, he⟩, rfl, q ys _ d1 (I.hok.fresh (Nat.le_succ _))⟩
def gSortC : PyData → EO
  | .list ds => if okC ds = true then .ok (.list (srtD ds)) .new else .stuck
  | _ => .stuck
theorem g_sortC {K : PySem.W.Frag} : GC1 K (rSortC K) gSortC := by
  intro ct W σ F H v d Q fh vv p
  unfold gSortC at p
  split at p
  · split at p
    · rename_i ds ok
      obtain ⟨_, b, vs, rfl, hb, ra⟩ := vv
      exact ⟨b, F, vs, ds, rfl, fh, hb, ra, ok, fun ys q hy hq => ok_newL fh hy p hq⟩
    · exact p.elim
  · exact p.elim
section
variable {X : Cx} {ct : Nat → Addr} {W : WX} {a : Expr} {ma : Gm → EO} {pos p : Pos} {k : Nat}
theorem ee_sortC (hr : Room k X.A) (hm : X.mg "sorted" = none) (ha : EE X ct W a ma) (hg : Gl X "sorted" := by rfl) (hs : starEach [a] X.env = (false, eval a X.env) :: starEach [] X.env := by rfl) : EE X ct W (.Call (.Name "sorted" p) [a] [] pos) (op1 gSortC ma) := ee_b1 (cr_sortC (by have := hr.un; omega)) g_sortC hm (by decide +kernel) ha hg (hs := hs)
end
end VL

set_option Elab.async false
set_option linter.all false
set_option maxRecDepth 100000
set_option maxHeartbeats 4000000
/-! V9: texts: join, split, index; enumerate of a list. -/
namespace VL
open PySem PySem.Spec PyProof.Rows L2
def allStrs : List PyData → Option (List Str)
  | [] => some []
  | .str x :: ds => match allStrs ds with
    | some ys => some (x :: ys)
    | none => none
  | _ => none
theorem strs_vals {K : PySem.W.Frag} {F : Hp} : ∀ {vs : List V} {ds : List PyData} {ys : List Str}, DqAll K F vs ds → allStrs ds = some ys → vs = ys.map V.str
  | _, [], _, h, e => by
    cases h
    cases e
    rfl
  | _, .str x :: ds, _, h, e => by
    cases h with
    | cons h1 t =>
      cases h1
      unfold allStrs at e
      split at e
      · rename_i ys e2
        cases e
        rw [strs_vals t e2]
        rfl
      · cases e
  | _, .none :: _, _, _, e => by cases e
  | _, .bool _ :: _, _, _, e => by cases e
  | _, .int _ :: _, _, _, e => by cases e
  | _, .list _ :: _, _, _, e => by cases e
  | _, .tuple _ :: _, _, _, e => by cases e
  | _, .dict _ :: _, _, _, e => by cases e
theorem dqs_strs {K : PySem.W.Frag} {F : Hp} : ∀ ys : List Str, DqAll K F (ys.map V.str) (ys.map PyData.str)
  | [] => .nil
  | y :: ys => .cons (.str y) (dqs_strs ys)
section
variable {X : Cx} {ct : Nat → Addr} {W : WX} {a b : Expr} {ma mb : Gm → EO} {pos p apos tpos : Pos} {elts : List Expr} {kk : Nat}
/-! ### a.join(b) -/
def joinE (ma mb : Gm → EO) : Gm → EO := fun G => (ma G).bind fun d _ => match d with
  | .str x => (mb G).bind fun e _ => (match e with
    | .list ds => (match allStrs ds with
      | some ys => if (ys.map (·.length)).sum + ys.length * x.length ≤ 1000000 then .ok (.str (Txt.join x ys)) .frz else .stuck
      | none => .stuck)
    | _ => .stuck)
  | _ => .stuck
theorem ee_join (ha : EE X ct W a ma) (hb : EE X ct W b mb) (hbase : attributeBase a "join" X.env (eval a X.env) = eval a X.env := by rfl) (hs1 : starEach [b] X.env = (false, eval b X.env) :: starEach [] X.env := by rfl) (hline : (apos.endLine == pos.line) = true := by rfl) :
    EE X ct W (.Call (.Attribute a "join" apos) [b] [] pos) (joinE ma mb) :=
  pe_imp (pe_bm PySem.F.plainAttrs_str PySem.F.slot_str_join PySem.F.type_str_join mt_join ha (pa_cons hb pa_nil hs1) (hbase := hbase) (hline := hline) (hs := hs1) (hfew := by rw [hs1] <;> rfl)) fun σ H Q h => by
    refine tM_mono (tM_view (k := fun G d => match d with
      | .str x => (mb G).bind fun e _ => (match e with
        | .list ds => (match allStrs ds with
          | some ys => if (ys.map (·.length)).sum + ys.length * x.length ≤ 1000000 then .ok (.str (Txt.join x ys)) .frz else .stuck
          | none => .stuck)
        | _ => .stuck)
      | _ => .stuck) h) fun v H1 ⟨F0, H0, F1, G, d, rp, vv, q⟩ => ?_
    have isl : ∃ x, d = .str x := by
      cases d with
      | str x => exact ⟨x, rfl⟩
      | _ => exact q.elim
    obtain ⟨x, rfl⟩ := isl
    have ev := vv.str
    subst ev
    refine ⟨rfl, ?_⟩
    refine tM_mono (tM_viewAt rp q) fun u H2 ⟨F2, e2, x2, vu, q2⟩ => ?_
    split at q2
    · split at q2
      · rename_i ds ys e3
        split at q2
        · rename_i hz
          obtain ⟨_, l, vs, rfl, lh, lr⟩ := vu
          have := strs_vals lr e3
          subst this
          exact ⟨x, l, ys, rfl, rfl, .inl (SqL.of lh), by omega, ok_frz x2.fh (.str _) q2⟩
        · exact q2.elim
      · exact q2.elim
    · exact q2.elim
/-! ### a.split(b) -/
def splitE (ma mb : Gm → EO) : Gm → EO := fun G => (ma G).bind fun d _ => match d with
  | .str x => (mb G).bind fun e _ => (match e with
    | .str y => if (y.length == 0) = false ∧ x.length ≤ big then .ok (.list ((Txt.split x y).map PyData.str)) .new else .stuck
    | _ => .stuck)
  | _ => .stuck
theorem ee_split (ha : EE X ct W a ma) (hb : EE X ct W b mb) (hbase : attributeBase a "split" X.env (eval a X.env) = eval a X.env := by rfl) (hs1 : starEach [b] X.env = (false, eval b X.env) :: starEach [] X.env := by rfl) (hline : (apos.endLine == pos.line) = true := by rfl) :
    EE X ct W (.Call (.Attribute a "split" apos) [b] [] pos) (splitE ma mb) :=
  pe_imp (pe_bm PySem.F.plainAttrs_str PySem.F.slot_str_split PySem.F.type_str_split mt_split ha (pa_cons hb pa_nil hs1) (hbase := hbase) (hline := hline) (hs := hs1) (hfew := by rw [hs1] <;> rfl)) fun σ H Q h => by
    refine tM_mono (tM_view (k := fun G d => match d with
      | .str x => (mb G).bind fun e _ => (match e with
        | .str y => if (y.length == 0) = false ∧ x.length ≤ big then .ok (.list ((Txt.split x y).map PyData.str)) .new else .stuck
        | _ => .stuck)
      | _ => .stuck) h) fun v H1 ⟨F0, H0, F1, G, d, rp, vv, q⟩ => ?_
    have isl : ∃ x, d = .str x := by
      cases d with
      | str x => exact ⟨x, rfl⟩
      | _ => exact q.elim
    obtain ⟨x, rfl⟩ := isl
    have ev := vv.str
    subst ev
    refine ⟨rfl, ?_⟩
    refine tM_mono (tM_viewAt rp q) fun u H2 ⟨F2, e2, x2, vu, q2⟩ => ?_
    split at q2
    · rename_i y
      split at q2
      · rename_i hz
        have eu := vu.str
        subst eu
        refine ⟨x, y, rfl, rfl, hz.1, ?_, fun l hl => ok_newL x2.fh (dqs_strs _) q2 hl⟩
        have h1 := hz.2
        unfold big at h1
        rw [sizeLine_eq]
        omega
      · exact q2.elim
    · exact q2.elim
/-! ### a.index(b), there -/
def sixE (ma mb : Gm → EO) : Gm → EO := fun G => (ma G).bind fun d _ => match d with
  | .str x => (mb G).bind fun e _ => (match e with
    | .str y => (match Builtin.Str.occurrences x y 0 x.length 1 with
      | i :: _ => .ok (.int ((i : Nat) : Int)) .frz
      | [] => .stuck)
    | _ => .stuck)
  | _ => .stuck
theorem ee_indexS (ha : EE X ct W a ma) (hb : EE X ct W b mb) (hbase : attributeBase a "index" X.env (eval a X.env) = eval a X.env := by rfl) (hs1 : starEach [b] X.env = (false, eval b X.env) :: starEach [] X.env := by rfl) (hline : (apos.endLine == pos.line) = true := by rfl) :
    EE X ct W (.Call (.Attribute a "index" apos) [b] [] pos) (sixE ma mb) :=
  pe_imp (pe_bm PySem.F.plainAttrs_str PySem.F.slot_str_index PySem.F.type_str_index mt_sindex ha (pa_cons hb pa_nil hs1) (hbase := hbase) (hline := hline) (hs := hs1) (hfew := by rw [hs1] <;> rfl)) fun σ H Q h => by
    refine tM_mono (tM_view (k := fun G d => match d with
      | .str x => (mb G).bind fun e _ => (match e with
        | .str y => (match Builtin.Str.occurrences x y 0 x.length 1 with
          | i :: _ => .ok (.int ((i : Nat) : Int)) .frz
          | [] => .stuck)
        | _ => .stuck)
      | _ => .stuck) h) fun v H1 ⟨F0, H0, F1, G, d, rp, vv, q⟩ => ?_
    have isl : ∃ x, d = .str x := by
      cases d with
      | str x => exact ⟨x, rfl⟩
      | _ => exact q.elim
    obtain ⟨x, rfl⟩ := isl
    have ev := vv.str
    subst ev
    refine ⟨rfl, ?_⟩
    refine tM_mono (tM_viewAt rp q) fun u H2 ⟨F2, e2, x2, vu, q2⟩ => ?_
    split at q2
    · rename_i y
      split at q2
      · rename_i i rest eo
        have eu := vu.str
        subst eu
        exact ⟨x, y, i, rest, rfl, rfl, eo, ok_frz x2.fh (.int _) q2⟩
      · exact q2.elim
    · exact q2.elim
/-! ### enumerate of a list -/
theorem it_enumL {K : PySem.W.Frag} {F Hs : Hp} {l : Addr} {vs : List V} {ds : List PyData} (h : Hs l = some (.lst vs)) (r : DqAll K F vs ds) : ItOk K F Hs (Ite K l) (enumD ds) where
  go := fun i F2 H2 d s1 s2 s3 e => by
    obtain ⟨x, ex, rfl⟩ := enum_get e
    obtain ⟨v, hv, rv⟩ := dpAll_get r ex
    have sq : SqL K H2 l vs := SqL.of (s3 _ _ h)
    refine ⟨⟨vs, v, sq, hv⟩, fun y H3 z => ?_⟩
    obtain ⟨T, x2, rfl, hT, rfl, hx⟩ := z
    have z := hx vs sq
    rw [hv] at z
    cases z
    have hF : F2 T = none := s2.free hT
    refine ⟨upd F2 T (.tup [.int ((i : Nat) : Int), v]), Ext.newF s2 hT, .tup ⟨_, upd_same, TpO.tup _⟩ (.cons (.int _) (.cons (dp_mono (s1.trans (same_new hF)) _ _ rv) .nil))⟩
  stop := fun F2 H2 s1 s2 s3 => ⟨vs, SqL.of (s3 _ _ h), by
    unfold enumD
    rw [List.length_map, List.length_range, dpAll_len r]
    exact Nat.le_refl _⟩
def iter_enumerateL (m : Gm → EO) : Gm → IO := fun G => match (m G).hard with
  | .ok (.list ds) _ => .ok (enumD ds) G
  | .exc c pl => .exc c pl
  | _ => .stuck
theorem ei_enumerateL (hm : X.mg "enumerate" = none) (ha : EE X ct W a ma) (hg : Gl X "enumerate" := by rfl) (hs : starEach [a] X.env = (false, eval a X.env) :: starEach [] X.env := by rfl) :
    EI X ct W (.Tuple elts kk tpos) (.Call (.Name "enumerate" p) [a] [] pos) (iter_enumerateL ma) :=
  pi_imp (pi_enum hg hm (ea_cons ha (ea_nil (ct := ct) (W := W)) hs) hs) fun σ H R ⟨F0, H0, F, G, r, p⟩ => by
    refine ⟨F0, H0, F, G, r, ?_⟩
    unfold iter_enumerateL at p
    show postA X.K ct W σ F H _ ((ma G).hard.bindA fun d _ => (nilA G).bind fun ds => .ok (d :: ds))
    revert p
    cases e : (ma G).hard with
    | exc c pl => exact fun p => p
    | stuck => exact fun p => p.elim
    | ok d w =>
      intro p vs F2 H2 x q
      cases d with
      | list ds =>
        cases q with
        | cons h1 t =>
          cases t
          cases h1 with
          | lst hs ha => exact ⟨_, _, rfl, SqL.of (x.fh _ _ hs), p _ F2 H2 x.ff (r.ext x) (it_enumL hs ha)⟩
      | none => exact p.elim
      | bool b => exact p.elim
      | int i => exact p.elim
      | str y => exact p.elim
      | tuple ds => exact p.elim
      | dict ds => exact p.elim
end
end VL

set_option Elab.async false
set_option linter.all false
set_option maxRecDepth 100000
set_option maxHeartbeats 4000000
/-! VV: exceptions with a field "line": they are raised, caught, asked. -/
namespace VL
open PySem PySem.Spec PyProof.Rows L2
/-! ### raise C(e) -/
/-- what __init__ of such a class keeps -/
def spP (K : PySem.W.Frag) : Sp := fun vs H Q _ => ∃ (a C : Addr) (v : V), vs = [.ref a, v] ∧ OexC K C ∧ PySem.W.findIn K (.ref C) "line" = some none ∧ H a = some (exo a C none) ∧
  ∀ dx, H dx = none → dx ≠ a → Q .non (upd (upd H dx (exd dx [("line", v)])) a (exo a C (some dx)))
section
variable {X : Cx} {e : Expr} {es : List Expr} {ta : TA} {p1 p2 pos : Pos} {C0 : Addr} {x : Str}
/-- B.__init__(self, ..), where B is an own class that takes its __init__ from ValueError -/
theorem pe_ownInit {pl : Sem Bool} (hg : Gl X x) (hm : X.mg x = some (.ref C0)) (h1 : PySem.W.specialIn X.K (.ref C0) "__getattribute__" = some (some (.builtin "type.__getattribute__"))) (h2 : PySem.W.typeIn X.K (.ref C0) = some (.type "type"))
    (h3 : PySem.W.readsIn X.K C0 (.type "type") = true) (h4 : PySem.W.findCls X.K (.ref C0) (.type "type") "__init__" = some (.val (.builtin "ValueError.__init__"))) (ha : PA X (e :: es) ta) (hdb : (x == ("__debug__" : Str)) = false := by decide)
    (hc : eval (.Call (.Attribute (.Name x p1) "__init__" p2) (e :: es) [] pos) X.env = (do
      let ov ← eval (.Name x p1) X.env
      standAt p2.atName
      let (f, first) ← holding [ov] (getMethod ov "__init__" pl)
      callWith pos f first (backTo pos (starEach (e :: es) X.env)) (backToKw pos (keywordEach [] X.env))) := by rfl)
    (he : starEach (e :: es) X.env = (false, eval e X.env) :: starEach es X.env := by rfl) (hpl : (backTo pos (starEach es X.env)).any (·.1) = false := by rfl) :
    PE X (.Call (.Attribute (.Name x p1) "__init__" p2) (e :: es) [] pos) (tVeI X.K ta) := by
  refine ⟨fun pins s σ H Q I h => ?_⟩
  refine PySem.W.methodCall_KW (ld_glob I hg hm ?_ hdb) hc
  obtain ⟨m, fr⟩ := I.fr
  refine PySem.W.method_of_cls fr I.ok.mod.kin h1 (PySem.W.cls_val fr I.ok.mod.kin h2 h3 h4 (by decide +kernel) ?_)
  show wpAny _ _ (callWith pos (Value.builtin "ValueError.__init__") [] (backTo pos (starEach (e :: es) X.env)) []) _ _ _
  refine PyProof.Rows.callWith_method1 (thn (ha.run pos pins _ σ H _ (I.tok _) h) fun us s1 ⟨vs, H1, I1, r1, a, C, ws, ev, hl, T, ea, q⟩ => ?_) he hpl
  subst ev
  cases r1 with
  | @cons _ u0 _ ur ra rw' =>
    obtain rfl : u0 = Value.ref a := ra
    have hlen : ur.length ≤ sizeLine := by
      rw [← Paired.length rw', sizeLine_eq]
      omega
    exact oinit_ok T I1 ea hlen fun s' J => ⟨.non, H1, J, rfl, q⟩
end
/-- the def: B.__init__(self, text); self.line = line -/
def tInitP (K : PySem.W.Frag) (msg : Str) : TS := tSeq (tDrop (tVeI K (tCons (tVar 0) (tCons (tC (.str msg)) tNil)))) (tOst K "line" (tVar 0) (tVar 1))
theorem fn_okP {P : Program} {w : World} {K : PySem.W.Frag} {mg : Str → Option Value} {base : Heap} {y qual : Str} {st : Stmt} {f : Addr} {fd : FuncData} {k : Nat} {n0 n1 msg : Str}
    (F : Fun K y qual st f fd) (S : FnScope [n0, n1] [n0, n1] (defScope st))
    (hb : ∀ (cdv : Value) (A : Around) (outer : List Env) (s : Shared) (H : Hp) (E : XK), PSs (cxOf (L2.CX P w) P w K mg base [n0, n1] qual (defScope st) f cdv A outer s H E) (defBody st) (tInitP K msg)) :
    FnOk P w K mg base (L2.CX P w) (k + 1) f fd [n0, n1] (spP K) := by
  refine F.okX S (fun vs H Q E h => ?_) (fun cdv A outer s H vs Q E hr h => ⟨_, hb cdv A outer s H E, ?_⟩)
  · obtain ⟨a, C, v, rfl, _⟩ := h
    rfl
  · obtain ⟨a, C, v, rfl, T, hl, ha, q⟩ := h
    refine ⟨.ref a, rfl, a, C, [.str msg], rfl, Nat.le_of_ble_eq_true rfl, T, ha, ?_⟩
    refine ⟨v, rfl, .ref a, rfl, a, C, rfl, T, hl, .inl ⟨ha, fun dx h1 h2 => q dx h1 h2⟩⟩
/-- the class x of the text: its number c, its __init__ keeps spP -/
structure XpT (P : Program) (w : World) (K : PySem.W.Frag) (mg : Str → Option Value) (base : Heap) (x : Str) (k : Nat) (C : Addr) : Prop where
  ex : ∃ (f : Addr) (fd : FuncData) (n0 n1 : Str), mg x = some (.ref C) ∧ OexC K C ∧ PySem.W.findIn K (.ref C) "line" = some none ∧ PySem.W.findIn K (.ref C) "__init__" = some (some (.ref f)) ∧ PySem.W.typeIn K (.ref f) = some (.type "function") ∧ Binds K fd [n0, n1] [] ∧ FnOk P w K mg base (L2.CX P w) k f fd [n0, n1] (spP K)
def raiseP (c : Nat) (ms : Gm → AO) : Gm → SO := fun G => match ms G with
  | .ok [d] => .exc c (some d) G
  | .ok _ => .stuck
  | .exc c pl => .exc c pl G
  | .stuck => .stuck
section
variable {X : Cx} {ct : Nat → Addr} {W : WX} {e : Expr} {ms : Gm → AO} {pos p pos2 : Pos} {x : Str} {k j c : Nat}
theorem ext_xd {F H H2 : Hp} {a C d : Addr} {fs : List (Str × V)} (fh : Same F H) (ha : H a = none) (hd : H d = none) (e : H2 = upd (del (upd (upd (upd H a (exo a C none)) d (exd d fs)) a (exo a C (some d))) a) d (.xd fs)) : VL.Ext F H (upd F d (.xd fs)) H2 := by
  have hf : F d = none := fh.free hd
  have at2 : ∀ b, b ≠ d → b ≠ a → H2 b = H b := fun b h1 h2 => by
    rw [e, upd_ne h1, del_ne h2, upd_ne h2, upd_ne h1, upd_ne h2]
  have hh : Same H H2 := fun b o z => by rw [at2 b (ne_of_none z hd) (ne_of_none z ha)]; exact z
  refine ⟨same_new hf, fun b o z => ?_, hh, fun b o z n _ => ?_⟩
  · by_cases hb : b = d
    · subst hb
      rw [upd_same] at z
      rw [e, upd_same]
      exact z
    · rw [upd_ne hb] at z
      exact hh b o (fh b o z)
  · rw [upd_ne (ne_of_none z hd)]
    exact n
theorem es_raiseP (hc : X.calm = true) (T : XpT X.prog X.w X.K X.mg X.base x j (ct c)) (hr : Room k X.A) (tk : Takes X W) (ha : EA X ct W [e] ms) (hjk : j + 1 ≤ k := by decide) (hg : Gl X x := by rfl) (hdb : (x == ("__debug__" : Str)) = false := by decide)
    (he : starEach [e] X.env = (false, eval e X.env) :: starEach [] X.env := by rfl) (hpl : (backTo pos (starEach [] X.env)).any (·.1) = false := by rfl) : ES X ct W (.Raise (some (.Call (.Name x p) [e] [] pos)) none pos2) (raiseP c ms) := by
  obtain ⟨f, fd, n0, n1, hm, O, hl, iC, tI, hb, Fn⟩ := T.ex
  refine ps_imp (ps_raise hc tk (pmk_oex O iC tI Fn (hr.mono hjk) hb .nil (passes_call tk fun _ _ _ _ h => h.elim) hg hm ha hdb he hpl)) fun D σ H ⟨F0, H0, F, G, r, q⟩ => ?_
  refine ⟨F0, H0, F, G, r, ?_⟩
  unfold raiseP at q
  revert q
  cases ms G with
  | exc c2 pl => exact fun q cls dd F2 H2 x2 z => q cls dd σ F2 H2 x2.ff (r.ext x2) z
  | stuck => exact fun q => q
  | ok ds =>
    match ds with
    | [] => exact fun q => q.elim
    | d1 :: d2 :: ds => exact fun q => q.elim
    | [d] =>
      intro q vs F2 H2 x2 rd
      cases rd with
      | cons rv rn =>
        rename_i v vs'
        cases rn
        refine ⟨Nat.le_of_ble_eq_true rfl, fun a na => ⟨a, ct c, v, rfl, O, hl, upd_same, fun dx hdx ne => ?_⟩⟩
        have hdx2 : H2 dx = none := by rwa [upd_ne ne] at hdx
        have y := ext_xd (C := ct c) (fs := [("line", v)]) x2.fh na hdx2 rfl
        refine ⟨rfl, dx, [("line", v)], upd_same, ?_, hdx2, ?_⟩
        · rw [upd_ne ne, upd_same]
        · exact q _ _ σ _ _ (x2.ff.trans y.ff) ((r.ext x2).ext y) ⟨rfl, dx, v, rfl, upd_same, dp_mono y.ff _ _ rv⟩
end
end VL
/-! ### isinstance of a caught exception that has a dict -/
namespace PySem.W
open PySem PySem.Spec PySem.Calls PyProof.Rows
section
variable {prog : Program} {w : World} {A : Around} {E : Value → Shared → Prop} {s : Shared} {K : Frag} {x D : Addr} {ox od : Obj}
theorem cls_excD {Q : Option Value → Shared → Prop} (C : L2.ExcC K D) (X : K.In s.heap) (I : InstAt s.heap x ox D (some od)) (h : Q (some (.ref D)) { s with toks := s.toks + 1 }) : wpAny (model prog w) A (getAttr? (.ref x) "__class__") Q E s := by
  have hf : findObj K D (some od) "__class__" = some (.bind (.builtin "getset_descriptor.__get__") (.builtin "object.__class__")) := findObj_data (by obtain ⟨cd, hc, _⟩ := any_some C.hd; rw [hc]; rfl) C.ha C.hn C.ht
  obtain ⟨hp, g, d, t, os⟩ := s
  have L0 := I.type (M := model prog w)
  have L1 := looks_findIn (M := model prog w) X C.hg
  have L2 := looks_findIn (M := model prog w) X C.hk
  have L3 := looks_find (M := model prog w) X I hf
  have sub : Looks (model prog w) hp (isInstance (.ref x) (.type "BaseException")) true := L0.andThen (looks_subIn X C.hs)
  have n2 : (Value.builtin "BaseException.__getattribute__" == Value.builtin "object.__getattribute__") = false := by decide +kernel
  have n1 : (onTheHeap (Value.ref D) && Value.builtin "BaseException.__getattribute__" == Value.builtin "object.__getattribute__") = false := by rw [n2]; rfl
  unfold getAttr? getAttrBy? getAttrBy
  refine wpAny_bind (wpAny_mkText (wpAny_bind (wpAny_attempt (wpAny_holding (wpAny_bind (L0.at (wpAny_bind (L1.at ?_))))))))
  show wpAny _ _ (if (onTheHeap (Value.ref D) && Value.builtin "BaseException.__getattribute__" == Value.builtin "object.__getattribute__") = true then _ else _) _ _ _
  rw [n1, if_neg Bool.false_ne_true]
  unfold getAttrByItsOwn hookBefore
  refine wpAny_bind ?_
  rw [if_pos (show onTheHeap (Value.ref D) = true from rfl)]
  refine L2.at (wpAny_bind (wpAny_attempt (wpAny_holding ?_)))
  unfold callGetattribute
  rw [show (false && onTheHeap (Value.builtin "BaseException.__getattribute__")) = false from rfl, if_neg Bool.false_ne_true]
  unfold boundAndCalled
  rw [PySem.F.excAttr_ValueError.ga.bind (.ref x)]
  refine wpAny_bind (wpAny_pure ?_)
  show wpAny _ _ (call (.builtin "BaseException.__getattribute__") [.ref x, .str "__class__" t]) _ _ _
  refine wpAny_call (codeAny_call_builtin PySem.F.excAttr_ValueError.ga.plain PySem.F.entry_bexc_ga ?_)
  refine @check_slot (model prog w) _ _ ⟨hp, g, d, t + 1, os⟩ "BaseException.__getattribute__" "BaseException" "__getattribute__" (.ref x) [.str "__class__" t] [] _ (by decide +kernel) (by decide +kernel) sub (PySem.F.args_bexc_ga (.ref x) (.str "__class__" t)) ?_
  unfold Builtin.«object.__getattribute__»
  refine wpAny_bind (wpAny_of_eq (a := ((Value.ref x : Value), [Value.str "__class__" t])) (by first | rfl | (simp only [slotArgs]; rfl)) ?_)
  refine wpAny_bind (wpAny_pure (wpAny_bind (L0.at (wpAny_bind (L3.at ?_)))))
  show wpAny _ _ (holding [Value.builtin "object.__class__"] (call (.builtin "getset_descriptor.__get__") [.builtin "object.__class__", .ref x, .ref D]) >>= ret) _ _ _
  refine wpAny_bind (wpAny_holding (wpAny_call (class_get (s := ⟨hp, g, d, t + 1, os⟩) (ox := ox) (od := some od) X I C.hm ?_)))
  refine wpAny_pure ?_
  show wpAny _ _ (handedOut (.ref D)) _ _ _
  rw [handedOut_of (v := .ref D) rfl]
  first
    | exact wpAny_pure (wpAny_pure h)
    | exact wpAny_pure h
    | exact wpAny_pure (wpAny_bind (wpAny_pure (wpAny_pure h)))
theorem kit_excD (C : L2.ExcC K D) : KitX K (.ref x) (.ref D) (fun h => InstAt h x ox D (some od)) where
  ty := fun _ _ _ I => I.type
  it := fun _ _ X _ => by
    obtain ⟨cdD, hcD, _⟩ := any_some C.hd
    unfold clsIn at hcD
    split at hcD
    · rename_i c' d' cd' sl' ho
      intro A' Q' E' s' k q
      unfold isType loadHead
      exact wpAny_bind (wpAny_loadPart (k _ _ (X _ _ ho)) (wpAny_pure q))
    · cases hcD
  ne := (handS_kitx_exc (x := x) (ox := ox) C.hg C.hk C.hs C.hd C.ha C.hn C.ht C.hm).ne
  ca := fun X I k => cls_excD C X I k
end
end PySem.W
namespace VL
open PySem PySem.Spec PyProof.Rows L2
/-- the dict of the caught: its line is d -/
def PF (K : PySem.W.Frag) (dd : Addr) (d : PyData) (F : Hp) : Prop := ∃ v, F dd = some (.xd [(("line" : Str), v)]) ∧ Dq K F v d
theorem PF.mono {K : PySem.W.Frag} {dd : Addr} {d : PyData} {F F2 : Hp} (h : PF K dd d F) (e : Same F F2) : PF K dd d F2 := by
  obtain ⟨v, h1, h2⟩ := h
  exact ⟨v, e _ _ h1, dp_mono e _ _ h2⟩
def tMj (K : PySem.W.Frag) (ct : Nat → Addr) (W : WX) (i : Nat) (a dd : Addr) (x : PyData) (m : Gm → EO) : TE := fun σ H Q => At i a σ ∧ ∃ F0 H0 F G, Rep K F0 H0 F H G σ ∧ PF K dd x F ∧ post K ct W σ F H Q (m G)
def tMBj (K : PySem.W.Frag) (ct : Nat → Addr) (W : WX) (i : Nat) (a dd : Addr) (x : PyData) (m : Gm → BO) : TT := fun σ H Q => At i a σ ∧ ∃ F0 H0 F G, Rep K F0 H0 F H G σ ∧ PF K dd x F ∧ postB K ct W σ F H Q (m G)
def tMAj (K : PySem.W.Frag) (ct : Nat → Addr) (W : WX) (i : Nat) (a dd : Addr) (x : PyData) (m : Gm → AO) : TA := fun σ H Q => At i a σ ∧ ∃ F0 H0 F G, Rep K F0 H0 F H G σ ∧ PF K dd x F ∧ postA K ct W σ F H Q (m G)
def sMj (K : PySem.W.Frag) (ct : Nat → Addr) (W : WX) (i : Nat) (a dd : Addr) (x : PyData) (m : Gm → SO) : TS := fun D σ H => At i a σ ∧ ∃ F0 H0 F G, Rep K F0 H0 F H G σ ∧ PF K dd x F ∧ postS K ct W F0 H0 (keepD i a D) F (m G)
abbrev EEj (X : Cx) (ct : Nat → Addr) (W : WX) (i : Nat) (a dd : Addr) (x : PyData) (e : Expr) (m : Gm → EO) : Prop := PE X e (tMj X.K ct W i a dd x m)
abbrev EBj (X : Cx) (ct : Nat → Addr) (W : WX) (i : Nat) (a dd : Addr) (x : PyData) (e : Expr) (m : Gm → BO) : Prop := PT X e (tMBj X.K ct W i a dd x m)
abbrev EWj (X : Cx) (ct : Nat → Addr) (W : WX) (i : Nat) (a dd : Addr) (x : PyData) (e : Expr) (m : Gm → BO) : Prop := PW X e (tMBj X.K ct W i a dd x m)
abbrev EAj (X : Cx) (ct : Nat → Addr) (W : WX) (i : Nat) (a dd : Addr) (x : PyData) (es : List Expr) (m : Gm → AO) : Prop := PA X es (tMAj X.K ct W i a dd x m)
abbrev ESj (X : Cx) (ct : Nat → Addr) (W : WX) (i : Nat) (a dd : Addr) (x : PyData) (st : Stmt) (m : Gm → SO) : Prop := PS X st (sMj X.K ct W i a dd x m)
abbrev ESsj (X : Cx) (ct : Nat → Addr) (W : WX) (i : Nat) (a dd : Addr) (x : PyData) (sts : List Stmt) (m : Gm → SO) : Prop := PSs X sts (sMj X.K ct W i a dd x m)
section
variable {X : Cx} {ct : Nat → Addr} {W : WX} {i j : Nat} {a dd : Addr} {z : PyData} {e e1 e2 t : Expr} {es rest : List Expr} {me ma mb : Gm → EO} {ms : Gm → AO} {mt ta tb : Gm → BO} {pos : Pos} {st : Stmt} {sts : List Stmt} {m1 m2 : Gm → SO} {x : Str}
theorem eej_of (h : EE X ct W e me) : EEj X ct W i a dd z e me := pe_imp h fun _ _ _ ⟨_, F0, H0, F, G, r, _, p⟩ => ⟨F0, H0, F, G, r, p⟩
theorem ebj_of (h : EB X ct W e mt) : EBj X ct W i a dd z e mt := pt_imp h fun _ _ _ ⟨_, F0, H0, F, G, r, _, p⟩ => ⟨F0, H0, F, G, r, p⟩
/-- what is not reached -/
def noE : Gm → EO := fun _ => .stuck
theorem eei_no : EEi X ct W i a e noE := ⟨fun pins s σ H Q I h => by
  obtain ⟨_, _, _, _, _, _, p⟩ := h
  exact p.elim⟩
theorem eaj_nil : EAj X ct W i a dd z [] nilA := pa_imp (ea_nil (ct := ct) (W := W)) fun _ _ _ ⟨_, F0, H0, F, G, r, _, p⟩ => ⟨F0, H0, F, G, r, p⟩
theorem eaj_cons (ha : EEj X ct W i a dd z e me) (hr : EAj X ct W i a dd z es ms) (hs : starEach (e :: es) X.env = (false, eval e X.env) :: starEach es X.env := by rfl) : EAj X ct W i a dd z (e :: es) (consA me ms) :=
  pa_imp (pa_cons ha hr hs) fun σ H Q ⟨c, F0, H0, F, G, rp, pf, p⟩ => by
    refine ⟨c, F0, H0, F, G, rp, pf, post_mono (postA_hard (k := fun d => (ms G).bind fun ds => .ok (d :: ds)) p) fun v H1 ⟨d, F1, x, r, p2⟩ => ?_⟩
    refine ⟨c, F0, H0, F1, G, rp.ext x, pf.mono x.ff, postA_mono (postA_bind p2) fun vs H2 ⟨ds, F2, x2, r2, p3⟩ => ?_⟩
    exact p3 (v :: vs) F2 H2 (Ext.refl x2.fh) (.cons (dp_mono x2.ff _ _ r) r2)
theorem eej_lst (h : EAj X ct W i a dd z es ms) : EEj X ct W i a dd z (.List es pos) (lstE ms) :=
  pe_imp (pe_lst h) fun σ H Q ⟨c, F0, H0, F, G, rp, pf, p⟩ => by
    refine ⟨c, F0, H0, F, G, rp, pf, postA_mono (postA_bindE p) fun vs H1 ⟨ds, F1, x, r, p2⟩ => ?_⟩
    split at p2
    · rename_i hz
      exact ⟨by rw [dpAll_len r]; exact big_line hz, fun q hq => ok_newL x.fh r p2 hq⟩
    · exact p2.elim
theorem eej_if (ht : EBj X ct W i a dd z t mt) (ha : EEj X ct W i a dd z e1 ma) (hb : EEj X ct W i a dd z e2 mb) : EEj X ct W i a dd z (.IfExp t e1 e2 pos) (ifE mt ma mb) :=
  pe_imp (pe_ifExp ht ha hb) fun σ H Q ⟨c, F0, H0, F, G, rp, pf, p⟩ => by
    refine ⟨c, F0, H0, F, G, rp, pf, postB_mono (postB_bindE p) fun k H1 ⟨F1, x, p2⟩ => ?_⟩
    cases k with
    | true => exact iteT ⟨c, F0, H0, F1, G, rp.ext x, pf.mono x.ff, p2⟩
    | false => exact iteF ⟨c, F0, H0, F1, G, rp.ext x, pf.mono x.ff, p2⟩
theorem post_viewAt {K : PySem.W.Frag} {o : EO} {k : PyData → EO} {σ : L2.St} {F H : Hp} {Q : VK} (p : post K ct W σ F H Q (o.bind fun d _ => k d)) :
    post K ct W σ F H (fun v H1 => ∃ F1 d, Ext F H F1 H1 ∧ VV K F1 H1 v d ∧ post K ct W σ F1 H1 Q (k d)) o := by
  have p1 := post_bind p
  revert p1
  cases o with
  | ok d w =>
    intro p1 v F1 H1 x1 r1
    obtain ⟨d', w', F1', x1', r1', p2⟩ := p1 v F1 H1 x1 r1
    exact ⟨F1', d', x1', VV.of x1'.fh r1', p2⟩
  | exc c pl => exact fun p1 => p1
  | stuck => exact fun p1 => p1
theorem eej_add (ha : EEj X ct W i a dd z e1 ma) (hb : EEj X ct W i a dd z e2 mb) : EEj X ct W i a dd z (.BinOp e1 .Add e2 pos) (op2 gAdd ma mb) :=
  pe_imp (pe_op op_addAll ha hb) fun σ H Q ⟨c, F0, H0, F, G, rp, pf, p⟩ => by
    refine ⟨c, F0, H0, F, G, rp, pf, post_mono (post_viewAt (k := fun d => (mb G).bind fun e _ => gAdd d e) p) fun v H1 ⟨F1, d, x, vv, p⟩ => ?_⟩
    refine ⟨c, F0, H0, F1, G, rp.ext x, pf.mono x.ff, post_mono (post_viewAt (k := fun e => gAdd d e) p) fun u H2 ⟨F2, e, x2, vu, p2⟩ => ?_⟩
    exact g_add ct W σ F2 H2 v u d e Q x2.fh (vv.mono x2) vu p2
theorem post_truth {K : PySem.W.Frag} {o : EO} {σ : L2.St} {F H : Hp} {Q : Bool → Hp → Prop} (p : postB K ct W σ F H Q (truthB (fun _ => o) [])) : post K ct W σ F H (fun x H1 => ∃ k, TruV K x H1 k ∧ Q k H1) o := by
  refine post_mono (post_bindB p) fun v H1 ⟨d, w, F1, x, r, p2⟩ => ?_
  split at p2
  · rename_i k e
    exact ⟨k, tru_of x.fh (VV.of x.fh r) e, p2 F1 H1 (Ext.refl x.fh)⟩
  · exact p2.elim
theorem ebj_truth (ha : EEj X ct W i a dd z e ma) (he : ∀ whole, isTrue e X.env whole = (do let v ← whole; standAt e.pos; holding [v] (truthy v)) := by intro _; rfl) : EBj X ct W i a dd z e (truthB ma) :=
  pt_imp (pt_truth ha he) fun σ H Q ⟨c, F0, H0, F, G, rp, pf, p⟩ => ⟨c, F0, H0, F, G, rp, pf, post_truth p⟩
theorem ewj_and1 (ha : EBj X ct W i a dd z e ta) : EWj X ct W i a dd z (.BoolOp .And [e] pos) ta := pw_and1 ha
theorem ewj_or1 (ha : EBj X ct W i a dd z e ta) : EWj X ct W i a dd z (.BoolOp .Or [e] pos) ta := pw_or1 ha
theorem ewj_and (ha : EBj X ct W i a dd z e ta) (hb : EWj X ct W i a dd z (.BoolOp .And (e2 :: rest) pos) tb) : EWj X ct W i a dd z (.BoolOp .And (e :: e2 :: rest) pos) (andB ta tb) :=
  pw_imp (pw_and ha hb) fun σ H Q ⟨c, F0, H0, F, G, rp, pf, p⟩ => ⟨c, F0, H0, F, G, rp, pf, postB_mono (postB_bind p) fun k H1 ⟨F1, x, p2⟩ => by
    cases k with
    | true => exact iteT ⟨c, F0, H0, F1, G, rp.ext x, pf.mono x.ff, p2⟩
    | false => exact iteF (p2 F1 H1 (Ext.refl x.fh))⟩
theorem ewj_or (ha : EBj X ct W i a dd z e ta) (hb : EWj X ct W i a dd z (.BoolOp .Or (e2 :: rest) pos) tb) : EWj X ct W i a dd z (.BoolOp .Or (e :: e2 :: rest) pos) (orB ta tb) :=
  pw_imp (pw_or ha hb) fun σ H Q ⟨c, F0, H0, F, G, rp, pf, p⟩ => ⟨c, F0, H0, F, G, rp, pf, postB_mono (postB_bind p) fun k H1 ⟨F1, x, p2⟩ => by
    cases k with
    | true => exact iteT (p2 F1 H1 (Ext.refl x.fh))
    | false => exact iteF ⟨c, F0, H0, F1, G, rp.ext x, pf.mono x.ff, p2⟩⟩
theorem ebj_w {m : Gm → BO} (h : EWj X ct W i a dd z e m) : EBj X ct W i a dd z e m := h.pt
theorem ebj_not (ha : EBj X ct W i a dd z e ta) : EBj X ct W i a dd z (.UnaryOp .Not e pos) (notB ta) :=
  pt_imp (pt_not ha) fun σ H Q ⟨c, F0, H0, F, G, rp, pf, p⟩ => ⟨c, F0, H0, F, G, rp, pf, postB_mono (postB_bind p) fun k H1 ⟨F1, x, p2⟩ => p2 F1 H1 (Ext.refl x.fh)⟩
/-- isinstance of the caught -/
theorem call_isD {a D dd : Addr} {oe : Obj} {pn : List (Addr × Obj)} (C : ExcC X.K D) (hz : Zc (.ref D) (some dd) oe) (hf : ∃ vs, oe.data = .fields vs) :
    CallR (X.suite a ((a, oe) :: pn)) (.builtin "isinstance") (fun xs H Q => ∃ (c : V) (cv : Value) (b : Bool) (fs : List (Str × V)), xs = [.ref a, c] ∧ H dd = some (.xd fs) ∧ (∀ u, RelV c u → u = cv) ∧ PySem.W.kitOne X.K (.ref D) cv = some b ∧ Q (.bl b) H) := by
  intro pins s σ H xs us Q I r h
  obtain ⟨c, cv, b, fs, rfl, hdd, hcv, e, q⟩ := h
  cases r with
  | cons rx rr =>
    cases rr with
    | cons rt rr =>
      cases rr
      cases rx
      have ec := hcv _ rt
      subst ec
      obtain ⟨hget, _⟩ := I.pin (a, oe) (List.mem_append.mpr (.inl List.mem_cons_self))
      obtain ⟨vs, hv⟩ := hf
      have hx : ObjOk X.prog X.w H s.heap dd (.xd fs) := I.hok dd _ hdd
      obtain ⟨mA, hns, _⟩ := hx
      obtain ⟨od, ho, _⟩ := lookIn_ns hns
      have J : PySem.W.InstAt s.heap a oe D (some od) := ⟨hget, hz.1, by unfold PySem.W.notCls; rw [hv] <;> rfl, by rw [hz.2]; exact ho⟩
      exact PySem.W.kia_one (PySem.W.kit_excD C) I.kIn J e (fun z => nomatch z) fun tk => ⟨.bl b, H, I.kept (t' := tk) fun _ _ z => z, rfl, q⟩
theorem eej_is {C C2 : Addr} {oe : Obj} {pn : List (Addr × Obj)} {n : Str} {p p1 p2 : Pos} (b : Bool) (E : ExcC X.K C) (hz : Zc (.ref C) (some dd) oe) (hf : ∃ fs, oe.data = .fields fs) (hk : PySem.W.kitOne X.K (.ref C) (.ref C2) = some b) (hm : X.mg "isinstance" = none) (hmc : X.mg x = some (.ref C2)) (hi : X.N[i]? = some n := by rfl)
    (hv : Vis X.env.scope n := by first | exact .inl rfl | exact .inr (.inl rfl) | exact .inr (.inr rfl)) (hg : Gl X "isinstance" := by rfl) (hgx : Gl X x := by rfl) (hd : (n == ("__debug__" : Str)) = false := by decide) (hcd : (n == ("__classdict__" : Str)) = false := by decide) (hdx : (x == ("__debug__" : Str)) = false := by decide) :
    EEj (X.suite a ((a, oe) :: pn)) ct W i a dd z (.Call (.Name "isinstance" p) [.Name n p1, .Name x p2] [] pos) (cE (.bool b)) :=
  pe_imp (pe_callB (X := X.suite a ((a, oe) :: pn)) (call_isD (X := X) E hz hf) hg hm PyProof.Rows.boot_isinstance
    (pa_cons (pe_var (X := X.suite a ((a, oe) :: pn)) hi hv hd hcd) (pa_cons (pe_glob (X := X.suite a ((a, oe) :: pn)) (v := .ref C2) hgx hmc rfl hdx) pa_nil rfl) rfl) (he := rfl) (hpl := rfl))
    fun σ H Q ⟨c, F0, H0, F, G, rp, ⟨v, pf, _⟩, p⟩ => ⟨.ref a, c, .ref C2, .ref C2, b, _, rfl, rp.fh _ _ pf, fun u h => by cases h; rfl, hk, p (.bl b) F H (Ext.refl rp.fh) (.bl b)⟩
theorem eej_line {C : Addr} {oe : Obj} {pn : List (Addr × Obj)} {n : Str} {p : Pos} (T : XfC X.K C) (hno : PySem.W.findIn X.K (.ref C) "line" = some none) (hz : Zc (.ref C) (some dd) oe) (hf : ∃ fs, oe.data = .fields fs) (hi : X.N[i]? = some n := by rfl)
    (hv : Vis X.env.scope n := by first | exact .inl rfl | exact .inr (.inl rfl) | exact .inr (.inr rfl)) (hd : (n == ("__debug__" : Str)) = false := by decide) (hcd : (n == ("__classdict__" : Str)) = false := by decide)
    (hb : attributeBase (.Name n p) "line" X.env (eval (.Name n p) X.env) = eval (.Name n p) X.env := by rfl) :
    EEj (X.suite a ((a, oe) :: pn)) ct W i a dd z (.Attribute (.Name n p) "line" pos) (cE z) :=
  pe_imp (pe_xf T hno hz hf (pe_var (X := X.suite a ((a, oe) :: pn)) hi hv hd hcd) hb)
    fun σ H Q ⟨c, F0, H0, F, G, rp, ⟨v, pf, r⟩, p⟩ => ⟨.ref a, c, rfl, rfl, dd, _, v, rfl, rp.fh _ _ pf, rfl, p v F H (Ext.refl rp.fh) r⟩
/-! statements -/
theorem asg_post {K : PySem.W.Frag} {j : Nat} {D : Ends} {σ : L2.St} {F0 H0 F H : Hp} {G : Gm} (r : Rep K F0 H0 F H G σ) (p : postS K ct W F0 H0 D F (asgS j me G)) : post K ct W σ F H (fun v H1 => D.nx (σ.set j (some v)) H1) (me G) := by
  refine post_mono (post_S r p) fun v H1 ⟨d, w, F1, x, q, r1, p2⟩ => ?_
  have other : postS K ct W F0 H0 D F1 (takeS G d w fun G d => .next (G.set j (some (.dat d)))) → D.nx (σ.set j (some v)) H1 := fun p3 => by
    obtain ⟨G2, d2, F2, _, r2, q2, p4⟩ := take_of r x q p3
    exact p4 _ F2 H1 (Same.refl _) (r2.dat j q2)
  split at p2
  · obtain ⟨pa, vs, ds, rfl, e2, h0, hf, hp, ha⟩ := q
    cases e2
    refine p2 _ F1 H1 (Same.refl _) (r1.own j (r.hh.free h0) hf hp ha fun j t u g e m => ?_)
    obtain ⟨_, _, o3, hp3, _⟩ := r.at_mut g e (mut_back (r.at g e) x.ff m)
    rw [h0] at hp3
    cases hp3
  · exact other p2
theorem esj_asg {pos2 : Pos} (he : EEj X ct W i a dd z e me) (hN : X.N.Nodup) (hij : j ≠ i) (hi : X.N[j]? = some x := by rfl) (hx : Loc X.env.scope x := by first | exact Or.inl rfl | exact Or.inr rfl) (hs : swapsWith e (some (.Name x pos2)) pos.line X.env = pure false := by rfl)
    (hf : X.fn x = true ∨ X.env.scope.names.lookup x = some .local := by first | exact .inl rfl | exact .inr rfl) : ESj X ct W i a dd z (.Assign [.Name x pos2] e pos) (asgS j me) :=
  ps_imp (ps_set hN hi hx he hs hf) fun D σ H ⟨c, F0, H0, F, G, r, pf, p⟩ => ⟨c, F0, H0, F, G, r, pf, post_mono (asg_post r p) fun v H1 (q : At i a (σ.set j (some v)) → D.nx (σ.set j (some v)) H1) => q (by
    show (σ.set j (some v))[i]? = _
    rw [List.getElem?_set_ne hij]
    exact c)⟩
theorem esj_ret (he : EEj X ct W i a dd z e me) : ESj X ct W i a dd z (.Return (some e) pos) (retS me) :=
  ps_imp (ps_ret he) fun D σ H ⟨c, F0, H0, F, G, r, pf, p⟩ => ⟨c, F0, H0, F, G, r, pf, post_mono (post_S r p) fun v H1 ⟨d, w, F1, x, q, _, p2⟩ => by
    obtain ⟨G2, d2, F2, _, r2, q2, p3⟩ := take_of r x q p2
    exact p3 v F2 H1 r2.extOf q2⟩
theorem essj_one (h : ESj X ct W i a dd z st m1) : ESsj X ct W i a dd z [st] m1 := pss_one h
theorem essj_cons (h1 : ESj X ct W i a dd z st m1) (h2 : ESsj X ct W i a dd z sts m2) : ESsj X ct W i a dd z (st :: sts) (seqS m1 m2) :=
  pss_imp (pss_cons h1 h2) fun D σ H ⟨c, F0, H0, F, G, r, pf, p⟩ => by
    refine ⟨c, F0, H0, F, G, r, pf, ?_⟩
    unfold seqS at p
    revert p
    cases m1 G with
    | next G1 => exact fun p σ2 F2 H2 s r2 c2 => ⟨c2, F0, H0, F2, G1, r2, pf.mono s, postS_same p s⟩
    | ret d => exact fun p => p
    | brk G1 => exact fun p => p
    | cont G1 => exact fun p => p
    | exc c pl G1 => exact fun p => p
    | stuck => exact fun p => p
end
/-! ### the statement -/
inductive Cq where
  | n (m : Gm → SO) | p (m : PyData → Gm → SO)
abbrev Cj := List (Nat × Cq)
inductive EvJ (P : Nat → (Gm → SO) → Prop) (P2 : Nat → (PyData → Gm → SO) → Prop) : Cj → Prop
  | nil : EvJ P P2 []
  | cons {c : Nat} {s : Gm → SO} {l : Cj} : P c s → EvJ P P2 l → EvJ P P2 ((c, .n s) :: l)
  | con2 {c : Nat} {s : PyData → Gm → SO} {l : Cj} : P2 c s → EvJ P P2 l → EvJ P P2 ((c, .p s) :: l)
theorem EvJ.at {P : Nat → (Gm → SO) → Prop} {P2 : Nat → (PyData → Gm → SO) → Prop} : ∀ {l : Cj} {c : Nat} {s : Cq}, EvJ P P2 l → l.lookup c = some s → match s with | .n m => P c m | .p m => P2 c m
  | _, c, s, .nil, e => by cases e
  | _ :: l, c, s, .cons (c := c2) h t, e => by
    rw [List.lookup_cons] at e
    by_cases hc : (c == c2) = true
    · rw [hc] at e
      cases e
      rw [beq_iff_eq] at hc
      rw [hc]
      exact h
    · rw [Bool.eq_false_iff.mpr hc] at e
      exact t.at e
  | _ :: l, c, s, .con2 (c := c2) h t, e => by
    rw [List.lookup_cons] at e
    by_cases hc : (c == c2) = true
    · rw [hc] at e
      cases e
      rw [beq_iff_eq] at hc
      rw [hc]
      exact h
    · rw [Bool.eq_false_iff.mpr hc] at e
      exact t.at e
def clJ (K : PySem.W.Frag) (ct : Nat → Addr) (i : Nat) (f : Cj) : Addr → Value → Option Addr → TS := fun a cls d D σ H => ∃ c, cls = .ref (ct c) ∧
  ((d = none ∧ ∃ m, f.lookup c = some (.n m) ∧ sMi K ct noW i a m D σ H) ∨ ∃ dd m x, d = some dd ∧ f.lookup c = some (.p m) ∧ sMj K ct noW i a dd x (m x) D σ H)
theorem clJ_ok {X : Cx} {ct : Nat → Addr} {i : Nat} {sts : List Stmt} {f : Cj}
    (h : EvJ (fun c m => ∀ (a : Addr) (oe : Obj) (pn : List (Addr × Obj)), Zc (.ref (ct c)) none oe → (∃ fs, oe.data = .fields fs) → ESsi (X.suite a ((a, oe) :: pn)) ct noW i a sts m)
      (fun c m => ∀ (a dd : Addr) (x : PyData) (oe : Obj) (pn : List (Addr × Obj)), Zc (.ref (ct c)) (some dd) oe → (∃ fs, oe.data = .fields fs) → ESsj (X.suite a ((a, oe) :: pn)) ct noW i a dd x sts (m x)) f) :
    ∀ (a : Addr) (oe : Obj) (cls : Value) (d : Option Addr) (pn : List (Addr × Obj)), Zc cls d oe → (∃ fs, oe.data = .fields fs) → PSs (X.suite a ((a, oe) :: pn)) sts (clJ X.K ct i f a cls d) :=
  fun a oe cls d pn hz hf => ⟨fun pins s σ H D I q => by
    obtain ⟨c, e1, q⟩ := q
    subst e1
    rcases q with ⟨e2, m, e3, q⟩ | ⟨dd, m, x, e2, e3, q⟩
    · subst e2
      exact (h.at e3 a oe pn hz hf).run pins s σ H D I q
    · subst e2
      exact (h.at e3 a dd x oe pn hz hf).run pins s σ H D I q⟩
def tryJK (i : Nat) (tbl : Cj) (o : SO) : SO := match o with
  | .exc c none G => if i < G.length then (match tbl.lookup c with
    | some (.n m) => clrS i (m (G.set i none))
    | _ => .stuck) else .stuck
  | .exc c (some d) G => if i < G.length then (match tbl.lookup c with
    | some (.p m) => clrS i (m d (G.set i none))
    | _ => .stuck) else .stuck
  | o => o
def tryJS (i : Nat) (tbl : Cj) (mb : Gm → SO) : Gm → SO := fun G => tryJK i tbl (mb G)
theorem clrJ_of {K : PySem.W.Frag} {ct : Nat → Addr} {i : Nat} {a dd : Addr} {x : PyData} {m : Gm → SO} {F0 H0 F H : Hp} {G : Gm} {τ : L2.St} {D : Ends} (hl : i < τ.length) (r : Rep K F0 H0 F H G τ) (pf : PF K dd x F) (p : postS K ct noW F0 H0 D F (clrS i (m (G.set i none)))) :
    sMj K ct noW i a dd x m (endsAs i D) (τ.set i (some (.ref a))) H := by
  refine ⟨by show (τ.set i (some (.ref a)))[i]? = _; rw [List.getElem?_set_self hl], F0, H0, F, G.set i none, r.forget i (some (.ref a)), pf, ?_⟩
  revert p
  cases m (G.set i none) with
  | next G1 => exact fun p σ2 F2 H2 s r2 _ => p _ F2 H2 s (r2.forget i none)
  | ret d => exact fun p => p
  | brk G1 => exact fun p => p.elim
  | cont G1 => exact fun p => p.elim
  | exc c pl G1 => exact fun p => p.elim
  | stuck => exact fun p => p.elim
theorem clJ_yes {K : PySem.W.Frag} {ct : Nat → Addr} {i c : Nat} {D : Ends} {τ : L2.St} {J : Hp} {Wo : WX} {cv : Value} {f : Cj} {m : Gm → SO} {l : List Cl} (hr : ∀ a, sMi K ct noW i a m (endsAs i D) (τ.set i (some (.ref a))) J) (h : PySem.W.exmOne K (.ref (ct c)) cv = some true) (e : f.lookup c = some (.n m)) :
    wClauses K i Wo D ((cv, clJ K ct i f) :: l) (.ref (ct c)) none τ J :=
  ⟨true, h, fun _ a _ => ⟨c, rfl, .inl ⟨rfl, m, e, hr a⟩⟩, fun z => (nomatch z)⟩
theorem clJ_yesP {K : PySem.W.Frag} {ct : Nat → Addr} {i c : Nat} {D : Ends} {τ : L2.St} {J : Hp} {Wo : WX} {cv : Value} {f : Cj} {m : PyData → Gm → SO} {l : List Cl} {dd : Addr} {x : PyData} (hr : ∀ a, sMj K ct noW i a dd x (m x) (endsAs i D) (τ.set i (some (.ref a))) J) (h : PySem.W.exmOne K (.ref (ct c)) cv = some true) (e : f.lookup c = some (.p m)) :
    wClauses K i Wo D ((cv, clJ K ct i f) :: l) (.ref (ct c)) (some dd) τ J :=
  ⟨true, h, fun _ a _ => ⟨c, rfl, .inr ⟨dd, m, x, rfl, e, hr a⟩⟩, fun z => (nomatch z)⟩
section
variable {X : Cx} {ct : Nat → Addr} {W : WX} {n : Str} {i : Nat} {body : List Stmt} {hd : ExceptHandler} {hds : List ExceptHandler} {l : List Cl} {pos : Pos} {mb : Gm → SO} {tbl : Cj}
theorem es_tryJ (hst : X.stack = X.env :: X.outer) (hfl : X.env.frame = some X.env.locals) (nd : X.N.Nodup) (at_i : X.N[i]? = some n) (loc : X.env.kindOf n = some .local)
    (hb : ∀ (W : WX) (pn : List (Addr × Obj)) (xe : Value → Shared → Prop), L2.Takes (X.tr pn xe) W → PassesOwn (model X.prog X.w) X.A X.env xe → ESs (X.tr pn xe) ct W body mb)
    (hc : Clauses X n (hd :: hds) l) (ht : EvJ (fun c m => ∀ (D : Ends) (τ : L2.St) (J : Hp), (∀ a, sMi X.K ct noW i a m (endsAs i D) (τ.set i (some (.ref a))) J) → wClauses X.K i noW D l (.ref (ct c)) none τ J)
      (fun c m => ∀ (D : Ends) (τ : L2.St) (J : Hp) (dd : Addr) (x : PyData), (∀ a, sMj X.K ct noW i a dd x (m x) (endsAs i D) (τ.set i (some (.ref a))) J) → wClauses X.K i noW D l (.ref (ct c)) (some dd) τ J) tbl) : ES X ct W (.Try body (hd :: hds) [] [] pos) (tryJS i tbl mb) :=
  ps_imp (ps_try_clauses hst hfl nd at_i loc (Wo := noW) (tb := fun W => sM X.K ct W mb) takes_none5 hb hc) fun D σ H ⟨F0, H0, F, G, r, p⟩ => by
    refine ⟨F0, H0, F, G, r, ?_⟩
    unfold tryJS at p
    revert p
    cases e : mb G with
    | next G2 => exact fun p => p
    | ret d => exact fun p => p
    | brk G2 => exact fun p => p
    | cont G2 => exact fun p => p
    | stuck => exact fun p => p
    | exc c pl G2 =>
      cases pl with
      | some d =>
        intro p
        unfold tryJK at p
        by_cases hl : i < G2.length
        · simp only [if_pos hl] at p
          cases et : tbl.lookup c with
          | none => rw [et] at p; exact p.elim
          | some m =>
            rw [et] at p
            cases m with
            | n m => exact p.elim
            | p m =>
              intro cls dd σ2 F2 H2 sm r2 x
              obtain ⟨e1, a2, v, e2, h1, h2⟩ := x
              subst e1
              subst e2
              exact ht.at et D σ2 H2 a2 d fun a => clrJ_of (by rw [← r2.len]; exact hl) r2 ⟨v, h1, h2⟩ (postS_noW (postS_same p sm))
        · simp only [if_neg hl] at p
          exact p.elim
      | none =>
        intro p
        unfold tryJK at p
        by_cases hl : i < G2.length
        · simp only [if_pos hl] at p
          cases et : tbl.lookup c with
          | none => rw [et] at p; exact p.elim
          | some m =>
            rw [et] at p
            cases m with
            | p m => exact p.elim
            | n m =>
              intro cls dd σ2 F2 H2 sm r2 x
              obtain ⟨e1, e2⟩ := x
              subst e1
              subst e2
              exact ht.at et D σ2 H2 fun a => clr_of (by rw [← r2.len]; exact hl) r2 (postS_noW (postS_same p sm))
        · simp only [if_neg hl] at p
          exact p.elim
end
end VL

set_option Elab.async false
set_option linter.all false
set_option maxRecDepth 100000
set_option maxHeartbeats 4000000
/-! VL: climbers: an instance that stands frozen, its list that is changed by its methods. -/
namespace VL
open PySem PySem.Spec PyProof.Rows L2
/-- what the class of climbers says -/
def ClimT (K : PySem.W.Frag) : Prop := ∀ C, IsC K C → Cls K C ∧ NoAttr K C "steps" ∧ NoAttr K C "kept"
section
variable {K : PySem.W.Frag} {F0 H0 F H F2 H2 : Hp} {G : Gm} {σ : L2.St}
theorem del_le (H : Hp) (l : Addr) : Same (del H l) H := fun a o h => by
  by_cases e : a = l
  · rw [e, del_same] at h
    cases h
  · rwa [del_ne e] at h
theorem SR.less {v : V} {s : Sl} {H1 : Hp} (q : SR K H0 F H v s) (h : Same H1 H0) : SR K H1 F H v s := by
  cases s with
  | dat d => exact q
  | own ds =>
    obtain ⟨p, vs, e, h0, r⟩ := q
    exact ⟨p, vs, e, h.free h0, r⟩
  | dic kvs =>
    obtain ⟨p, us, e, h0, r⟩ := q
    exact ⟨p, us, e, h.free h0, r⟩
  | nst kvs =>
    obtain ⟨p, us, e, h0, r⟩ := q
    exact ⟨p, us, e, h.free h0, r⟩
  | lkd kvs => exact q
  | clm os k =>
    obtain ⟨p, C, dx, l, vs, e, ic, hp, h0, r⟩ := q
    exact ⟨p, C, dx, l, vs, e, ic, hp, h.free h0, r⟩
theorem Rep.less (r : Rep K F0 H0 F H G σ) {H1 : Hp} (h : Same H1 H0) : Rep K F0 H1 F H G σ where
  fh := r.fh
  hh := h.trans r.hh
  ff := r.ff
  ap := fun a o e n t => r.ap a o (h a o e) n t
  len := r.len
  slot := fun i s e => by
    obtain ⟨v, h1, h2⟩ := r.slot i s e
    exact ⟨v, h1, h2.less h⟩
  dist := r.dist
/-- the list of slot i has been changed by a callee -/
theorem Rep.clm {i : Nat} {os os2 : List PyData} {k : Int} {p C dx l : Addr} {ls2 : List V} (r : Rep K F0 H0 F H G σ) (e : G[i]? = some (some (.clm os k))) (hv : σ[i]? = some (some (.ref p))) (hp : F p = some (.ins C dx (clF l k)))
    (x : Ext F (del H l) F2 H2) (hf : F2 l = none) (hl : H2 l = some (.lst ls2)) (ha : DqAll K F2 ls2 os2) : Rep K F0 H0 F2 H2 (G.set i (some (.clm os2 k))) σ := by
  obtain ⟨p', C', dx', l', vs, e1, ic, hp', h0, hfl, hll, _⟩ := r.at e hv
  cases e1
  rw [hp] at hp'
  cases hp'
  have ne0 : ∀ {a o}, H0 a = some o → a ≠ l := fun {a o} h z => by
    rw [z, h0] at h
    cases h
  have mi : mutA F (.ref p) l (.clm os k) := ⟨p, C, dx, k, rfl, hp⟩
  have step : ∀ {a o}, a ≠ l → H a = some o → H2 a = some o := fun {a o} n h => x.hh a o (by rw [del_ne n]; exact h)
  have keep : ∀ {a o}, a ≠ l → H a = some o → F a = none → NT o → F2 a = none := fun {a o} n h f t => x.ap a o (by rw [del_ne n]; exact h) f t
  have sr : ∀ (j : Nat) (s : Sl) (v : V), i ≠ j → G[j]? = some (some s) → σ[j]? = some (some v) → SR K H0 F H v s → SR K H0 F2 H2 v s := fun j s v ne g hv2 q => by
    have nl : ∀ a, mutA F v a s → a ≠ l := fun a m z => r.dist i j _ _ _ _ l ne e g hv hv2 mi (by rw [z] at m; exact m)
    cases s with
    | dat d => exact dp_mono x.ff _ _ q
    | own ds =>
      obtain ⟨q1, vs1, e1, h01, hf1, hp1, ha1⟩ := q
      have n := nl q1 e1
      exact ⟨q1, vs1, e1, h01, keep n hp1 hf1 trivial, step n hp1, dpAll_mono x.ff _ _ ha1⟩
    | dic kvs =>
      obtain ⟨q1, us1, e1, h01, hf1, hp1, ha1⟩ := q
      have n := nl q1 e1
      exact ⟨q1, us1, e1, h01, keep n hp1 hf1 trivial, step n hp1, ha1.mono x.ff⟩
    | nst kvs =>
      obtain ⟨q1, us1, e1, h01, hf1, hp1, ha1⟩ := q
      have n := nl q1 e1
      exact ⟨q1, us1, e1, h01, keep n hp1 hf1 trivial, step n hp1, ha1.mono x.ff⟩
    | lkd kvs =>
      obtain ⟨q1, od, us1, e1, hp1, ha1⟩ := q
      have n : q1 ≠ l := fun z => by
        rw [z, hll] at hp1
        cases hp1
      exact ⟨q1, od, us1, e1, step n hp1, ha1.mono x.ff⟩
    | clm os' k' =>
      obtain ⟨q1, C1, dx1, l1, vs1, e1, ic1, hq1, h01, hf1, hl1, ha1⟩ := q
      have n := nl l1 ⟨q1, C1, dx1, k', e1, hq1⟩
      exact ⟨q1, C1, dx1, l1, vs1, e1, ic1, x.ff _ _ hq1, h01, keep n hl1 hf1 trivial, step n hl1, dpAll_mono x.ff _ _ ha1⟩
  refine ⟨x.fh, fun a o h => step (ne0 h) (r.hh a o h), r.ff.trans x.ff, fun a o h n t => keep (ne0 h) (r.hh a o h) (r.ap a o h n t) t, by rw [List.length_set]; exact r.len, fun j s h => ?_, fun j m s t v u a ne h1 h2 e1 e2 m1 m2 => ?_⟩
  · rcases get_set h with ⟨rfl, e2, _⟩ | ⟨ne, g⟩
    · cases e2
      exact ⟨.ref p, hv, p, C, dx, l, ls2, rfl, ic, x.ff _ _ hp, h0, hf, hl, ha⟩
    · obtain ⟨v, h1, h2⟩ := r.slot j s g
      exact ⟨v, h1, sr j s v ne g h1 h2⟩
  · have bi : ∀ b, mutA F2 (.ref p) b (.clm os2 k) → mutA F (.ref p) b (.clm os k) := fun b m => mut_back (r.at e hv) x.ff m
    rcases get_set h1 with ⟨rfl, z1, _⟩ | ⟨n1, g1⟩
    · cases z1
      rcases get_set h2 with ⟨rfl, _, _⟩ | ⟨n2, g2⟩
      · exact ne rfl
      · rw [hv] at e1
        cases e1
        exact r.dist i m _ t _ u a n2 e g2 hv e2 (bi a m1) (mut_back (r.at g2 e2) x.ff m2)
    · rcases get_set h2 with ⟨rfl, z2, _⟩ | ⟨n2, g2⟩
      · cases z2
        rw [hv] at e2
        cases e2
        exact r.dist j i s _ v _ a ne g1 e e1 hv (mut_back (r.at g1 e1) x.ff m1) (bi a m2)
      · exact r.dist j m s t v u a ne g1 g2 e1 e2 (mut_back (r.at g1 e1) x.ff m1) (mut_back (r.at g2 e2) x.ff m2)
end
/-! ### readings of a climber in a slot -/
def climG (o : Option (Option Sl)) (k : List PyData → Int → EO) : EO := match o with
  | some (some (.clm os n)) => k os n
  | _ => .stuck
def optO : Option PyData → EO
  | some d => .ok d .frz
  | none => .stuck
def lastC (i : Nat) : Gm → EO := fun G => climG G[i]? fun os _ => optO (atI os (-1))
def lenC (i : Nat) : Gm → EO := fun G => climG G[i]? fun os _ => .ok (.int os.length) .frz
def keptC (i : Nat) : Gm → EO := fun G => climG G[i]? fun _ n => .ok (.int n) .frz
section
variable {X : Cx} {ct : Nat → Addr} {W : WX} {i : Nat} {x : Str} {b : Expr} {p1 p2 p3 pos : Pos}
/-- the climber and its list -/
theorem clim_at {K : PySem.W.Frag} {F0 H0 F H : Hp} {G : Gm} {σ : L2.St} {Q : VK} {k : List PyData → Int → EO} (r : Rep K F0 H0 F H G σ) (p : post K ct W σ F H Q (climG G[i]? k)) :
    ∃ os n q C dx l vs, G[i]? = some (some (.clm os n)) ∧ σ[i]? = some (some (.ref q)) ∧ IsC K C ∧ F q = some (.ins C dx (clF l n)) ∧ H q = some (.ins C dx (clF l n)) ∧ F l = none ∧ H l = some (.lst vs) ∧ DqAll K F vs os ∧ post K ct W σ F H Q (k os n) := by
  unfold climG at p
  split at p
  · rename_i os n e
    obtain ⟨v, hv, q, C, dx, l, vs, rfl, ic, hq, h0, hf, hl, ha⟩ := r.slot i _ e
    exact ⟨os, n, q, C, dx, l, vs, e, hv, ic, hq, r.fh _ _ hq, hf, hl, ha, p⟩
  · exact p.elim
theorem ee_lastC (T : ClimT X.K) (hb : EE X ct W b (cE (.int (-1)))) (hj : X.N[i]? = some x := by rfl) (hv : Vis X.env.scope x := by first | exact Or.inl rfl | exact Or.inr (Or.inl rfl)) (hd : (x == ("__debug__" : Str)) = false := by decide) (hcd : (x == ("__classdict__" : Str)) = false := by decide)
    (hba : attributeBase (.Name x p1) "steps" X.env (eval (.Name x p1) X.env) = eval (.Name x p1) X.env := by rfl) (hs : PlainIx b := by exact fun _ _ => rfl) : EE X ct W (.Subscript (.Attribute (.Name x p1) "steps" p2) b pos) (lastC i) :=
  pe_imp (pe_ix ix_seq (pe_fld (pe_var hj hv hd hcd) hba) hb hs) fun σ H Q ⟨F0, H0, F, G, r, p⟩ => by
    obtain ⟨os, n, q, C, dx, l, vs, e, hv, ic, _, hq, hf, hl, ha, p⟩ := clim_at r p
    obtain ⟨c1, c2, c3⟩ := T C ic
    refine ⟨.ref q, hv, q, C, dx, _, .ref l, rfl, hq, c1, c2, rfl, F0, H0, F, G, r, fun y F1 H1 x1 vy => ?_⟩
    cases hz : atI os (-1) with
    | none => rw [hz] at p; exact p.elim
    | some d =>
      rw [hz] at p
      obtain ⟨u, hu, ru⟩ := dpAll_at ha hz
      have ey : y = .int (-1) := by cases vy; rfl
      rw [ey]
      exact .inl ⟨l, vs, _, u, rfl, rfl, SqL.of (x1.hh _ _ hl), hu, p u F1 H1 x1 (dp_mono x1.ff _ _ ru)⟩
theorem ee_keptC (T : ClimT X.K) (hj : X.N[i]? = some x := by rfl) (hv : Vis X.env.scope x := by first | exact Or.inl rfl | exact Or.inr (Or.inl rfl)) (hd : (x == ("__debug__" : Str)) = false := by decide) (hcd : (x == ("__classdict__" : Str)) = false := by decide)
    (hba : attributeBase (.Name x p1) "kept" X.env (eval (.Name x p1) X.env) = eval (.Name x p1) X.env := by rfl) : EE X ct W (.Attribute (.Name x p1) "kept" pos) (keptC i) :=
  pe_imp (pe_fld (pe_var hj hv hd hcd) hba) fun σ H Q ⟨F0, H0, F, G, r, p⟩ => by
    obtain ⟨os, n, q, C, dx, l, vs, e, hv, ic, _, hq, hf, hl, ha, p⟩ := clim_at r p
    obtain ⟨c1, c2, c3⟩ := T C ic
    exact ⟨.ref q, hv, q, C, dx, _, .int n, rfl, hq, c1, c3, rfl, p (.int n) F H (Ext.refl r.fh) (.int n)⟩
theorem ee_lenC (T : ClimT X.K) (hm : X.mg "len" = none) (hj : X.N[i]? = some x := by rfl) (hv : Vis X.env.scope x := by first | exact Or.inl rfl | exact Or.inr (Or.inl rfl)) (hd : (x == ("__debug__" : Str)) = false := by decide) (hcd : (x == ("__classdict__" : Str)) = false := by decide)
    (hba : attributeBase (.Name x p1) "steps" X.env (eval (.Name x p1) X.env) = eval (.Name x p1) X.env := by rfl) (hg : Gl X "len" := by rfl)
    (hs : starEach [.Attribute (.Name x p1) "steps" p2] X.env = (false, eval (.Attribute (.Name x p1) "steps" p2) X.env) :: starEach [] X.env := by rfl) (hpl : (backTo pos (starEach [] X.env)).any (·.1) = false := by rfl) :
    EE X ct W (.Call (.Name "len" p3) [.Attribute (.Name x p1) "steps" p2] [] pos) (lenC i) :=
  pe_imp (pe_callB call_len hg hm PySem.boot_len (pa_cons (pe_fld (pe_var hj hv hd hcd) hba) pa_nil hs) (by decide) (by decide) hs hpl) fun σ H Q ⟨F0, H0, F, G, r, p⟩ => by
    obtain ⟨os, n, q, C, dx, l, vs, e, hv, ic, _, hq, hf, hl, ha, p⟩ := clim_at r p
    obtain ⟨c1, c2, c3⟩ := T C ic
    refine ⟨.ref q, hv, q, C, dx, _, .ref l, rfl, hq, c1, c2, rfl, .ref l, vs.length, rfl, .inl ⟨vs, SqL.of hl, rfl⟩, ?_⟩
    rw [dpAll_len ha]
    exact p (.int os.length) F H (Ext.refl r.fh) (.int _)
end
end VL
/-! ### bodies of methods: slot 0 holds the climber p -/
namespace VL
open PySem PySem.Spec PyProof.Rows L2
inductive MO where
  | next (G : Gm) | ret (d : PyData) (G : Gm) | exc (c : Nat) (pl : Option PyData) (G : Gm) | stuck
def postM (K : PySem.W.Frag) (ct : Nat → Addr) (W : WX) (F0 H0 : Hp) (q : Addr) (D : Ends) (F : Hp) : MO → Prop
  | .next G => ∀ σ2 F2 H2, Same F F2 → Rep K F0 H0 F2 H2 G σ2 → At 0 q σ2 → D.nx σ2 H2
  | .ret d G => ∀ v σ2 F2 H2, Same F F2 → Rep K F0 H0 F2 H2 G σ2 → At 0 q σ2 → Dq K F2 v d → D.rt v H2
  | .exc c pl G => ∀ cls dd σ2 F2 H2, Same F F2 → Rep K F0 H0 F2 H2 G σ2 → At 0 q σ2 → XR K ct F2 H2 c pl cls dd → W cls dd σ2 H2
  | .stuck => False
def sMM (K : PySem.W.Frag) (ct : Nat → Addr) (W : WX) (q : Addr) (m : Gm → MO) : TS := fun D σ H => At 0 q σ ∧ ∃ F0 H0 F G, Rep K F0 H0 F H G σ ∧ postM K ct W F0 H0 q D F (m G)
abbrev EM (X : Cx) (ct : Nat → Addr) (W : WX) (q : Addr) (st : Stmt) (m : Gm → MO) : Prop := PS X st (sMM X.K ct W q m)
abbrev EMs (X : Cx) (ct : Nat → Addr) (W : WX) (q : Addr) (sts : List Stmt) (m : Gm → MO) : Prop := PSs X sts (sMM X.K ct W q m)
def EO.bindM (G : Gm) (o : EO) (k : PyData → MO) : MO := match o with
  | .ok d .frz => k d
  | .ok _ _ => .stuck
  | .exc c pl => .exc c pl G
  | .stuck => .stuck
def BO.bindM (G : Gm) (o : BO) (k : Bool → MO) : MO := match o with
  | .ok b => k b
  | .exc c pl => .exc c pl G
  | .stuck => .stuck
def asgM (j : Nat) (me : Gm → EO) : Gm → MO := fun G => (me G).bindM G fun d => .next (G.set j (some (.dat d)))
def retM (me : Gm → EO) : Gm → MO := fun G => (me G).bindM G fun d => .ret d G
def ifM (mt : Gm → BO) (m1 m2 : Gm → MO) : Gm → MO := fun G => (mt G).bindM G fun k => if k = true then m1 G else m2 G
def raiseM (c : Nat) : Gm → MO := fun G => .exc c none G
def nilM : Gm → MO := fun G => .next G
def seqM (a b : Gm → MO) : Gm → MO := fun G => match a G with
  | .next G2 => b G2
  | o => o
def climM (o : Option (Option Sl)) (k : List PyData → Int → MO) : MO := match o with
  | some (some (.clm os n)) => k os n
  | _ => .stuck
def appM (me : Gm → EO) : Gm → MO := fun G => climM G[0]? fun os n => (me G).bindM G fun d => if os.length < big then .next (G.set 0 (some (.clm (os ++ [d]) n))) else .stuck
def popM : Gm → MO := fun G => climM G[0]? fun os n => match os with
  | [] => .stuck
  | o :: r => .next (G.set 0 (some (.clm (o :: r).dropLast n)))
section
variable {X : Cx} {ct : Nat → Addr} {W : WX} {q : Addr} {e t : Expr} {me : Gm → EO} {mt : Gm → BO} {pos p1 p2 p3 pos2 : Pos} {st : Stmt} {sts s1 s2 : List Stmt} {m1 m2 : Gm → MO} {x y : Str} {i j c : Nat}
theorem postM_same {K : PySem.W.Frag} {F0 H0 F F2 : Hp} {D : Ends} {o : MO} (h : postM K ct W F0 H0 q D F o) (s : Same F F2) : postM K ct W F0 H0 q D F2 o := by
  cases o with
  | next G => exact fun σ2 F3 H3 s3 r => h σ2 F3 H3 (s.trans s3) r
  | ret d G => exact fun v σ2 F3 H3 s3 r => h v σ2 F3 H3 (s.trans s3) r
  | exc c pl G => exact fun cls dd σ2 F3 H3 s3 r => h cls dd σ2 F3 H3 (s.trans s3) r
  | stuck => exact h
theorem post_M {K : PySem.W.Frag} {F0 H0 F H : Hp} {G : Gm} {σ : L2.St} {D : Ends} {o : EO} {k : PyData → MO} (c : At 0 q σ) (r : Rep K F0 H0 F H G σ) (p : postM K ct W F0 H0 q D F (o.bindM G k)) :
    post K ct W σ F H (fun v H1 => ∃ d F1, Ext F H F1 H1 ∧ Dq K F1 v d ∧ Rep K F0 H0 F1 H1 G σ ∧ postM K ct W F0 H0 q D F1 (k d)) o := by
  cases o with
  | ok d w =>
    cases w with
    | frz => exact fun v F1 H1 x z => ⟨d, F1, x, z, r.ext x, postM_same (o := k d) p x.ff⟩
    | new => exact p.elim
    | own i => exact p.elim
  | exc c2 pl => exact fun cls dd F1 H1 x z => p cls dd σ F1 H1 x.ff (r.ext x) c z
  | stuck => exact p
theorem postB_M {K : PySem.W.Frag} {F0 H0 F H : Hp} {G : Gm} {σ : L2.St} {D : Ends} {o : BO} {k : Bool → MO} (c : At 0 q σ) (r : Rep K F0 H0 F H G σ) (p : postM K ct W F0 H0 q D F (o.bindM G k)) :
    postB K ct W σ F H (fun b H1 => ∃ F1, Ext F H F1 H1 ∧ Rep K F0 H0 F1 H1 G σ ∧ postM K ct W F0 H0 q D F1 (k b)) o := by
  cases o with
  | ok b => exact fun F1 H1 x => ⟨F1, x, r.ext x, postM_same (o := k b) p x.ff⟩
  | exc c2 pl => exact fun cls dd F1 H1 x z => p cls dd σ F1 H1 x.ff (r.ext x) c z
  | stuck => exact p
theorem em_asg (he : EE X ct W e me) (hN : X.N.Nodup) (hij : j ≠ 0) (hi : X.N[j]? = some x := by rfl) (hx : Loc X.env.scope x := by first | exact Or.inl rfl | exact Or.inr rfl) (hs : swapsWith e (some (.Name x pos2)) pos.line X.env = pure false := by rfl)
    (hf : X.fn x = true ∨ X.env.scope.names.lookup x = some .local := by first | exact .inl rfl | exact .inr rfl) : EM X ct W q (.Assign [.Name x pos2] e pos) (asgM j me) :=
  ps_imp (ps_set hN hi hx he hs hf) fun D σ H ⟨c, F0, H0, F, G, r, p⟩ => ⟨F0, H0, F, G, r, post_mono (post_M c r p) fun v H1 ⟨d, F1, x, z, r1, p2⟩ => by
    refine p2 _ F1 H1 (Same.refl _) (r1.dat j z) ?_
    show (σ.set j (some v))[0]? = _
    rw [List.getElem?_set_ne hij]
    exact c⟩
theorem em_ret (he : EE X ct W e me) : EM X ct W q (.Return (some e) pos) (retM me) :=
  ps_imp (ps_ret he) fun D σ H ⟨c, F0, H0, F, G, r, p⟩ => ⟨F0, H0, F, G, r, post_mono (post_M c r p) fun v H1 ⟨d, F1, x, z, r1, p2⟩ => p2 v σ F1 H1 (Same.refl _) r1 c z⟩
theorem em_if (ht : EB X ct W t mt) (h1 : EMs X ct W q s1 m1) (h2 : EMs X ct W q s2 m2) : EM X ct W q (.If t s1 s2 pos) (ifM mt m1 m2) :=
  ps_imp (ps_if ht h1 h2) fun D σ H ⟨c, F0, H0, F, G, r, p⟩ => ⟨F0, H0, F, G, r, postB_mono (postB_M c r p) fun k H1 ⟨F1, x, r1, p2⟩ => by
    cases k with
    | true => exact iteT ⟨c, F0, H0, F1, G, r1, p2⟩
    | false => exact iteF ⟨c, F0, H0, F1, G, r1, p2⟩⟩
theorem em_raise {m : Str} (hc : X.calm = true) (T : XcT X.K X.mg x (ct c)) (tk : Takes X W) (hg : Gl X x := by rfl) (hdb : (x == ("__debug__" : Str)) = false := by decide) : EM X ct W q (.Raise (some (.Call (.Name x p1) [.Constant (.str m) j p2] [] pos)) none pos2) (raiseM c) :=
  ps_imp (ps_raise hc tk (pmk_own PySem.F.excBase_ValueError T.ex T.gC T.kp (raises_own T.sb T.ty) hg hdb)) fun D σ H ⟨c1, F0, H0, F, G, r, p⟩ => p (.ref (ct c)) none σ F H (Same.refl _) r c1 ⟨rfl, rfl⟩
theorem ems_nil : EMs X ct W q [] nilM := ⟨fun pins s σ H D I h => by
  obtain ⟨c, F0, H0, F, G, r, p⟩ := h
  exact wpAny_execs_nil ⟨σ, H, I, p σ F H (Same.refl _) r c⟩⟩
theorem ems_one (h : EM X ct W q st m1) : EMs X ct W q [st] m1 := pss_one h
theorem ems_cons (h1 : EM X ct W q st m1) (h2 : EMs X ct W q sts m2) : EMs X ct W q (st :: sts) (seqM m1 m2) :=
  pss_imp (pss_cons h1 h2) fun D σ H ⟨c, F0, H0, F, G, r, p⟩ => by
    refine ⟨c, F0, H0, F, G, r, ?_⟩
    unfold seqM at p
    revert p
    cases m1 G with
    | next G1 => exact fun p σ2 F2 H2 s r2 c2 => ⟨c2, F0, H0, F2, G1, r2, postM_same p s⟩
    | ret d G1 => exact fun p => p
    | exc c pl G1 => exact fun p => p
    | stuck => exact fun p => p
theorem clim_M {K : PySem.W.Frag} {F0 H0 F H : Hp} {G : Gm} {σ : L2.St} {D : Ends} {k : List PyData → Int → MO} (c : At 0 q σ) (r : Rep K F0 H0 F H G σ) (p : postM K ct W F0 H0 q D F (climM G[0]? k)) :
    ∃ os n C dx l vs, G[0]? = some (some (.clm os n)) ∧ IsC K C ∧ F q = some (.ins C dx (clF l n)) ∧ H q = some (.ins C dx (clF l n)) ∧ H0 l = none ∧ F l = none ∧ H l = some (.lst vs) ∧ DqAll K F vs os ∧ postM K ct W F0 H0 q D F (k os n) := by
  unfold climM at p
  split at p
  · rename_i os n e
    obtain ⟨q2, C, dx, l, vs, e1, ic, hq, h0, hf, hl, ha⟩ := r.at e c
    cases e1
    exact ⟨os, n, C, dx, l, vs, e, ic, hq, r.fh _ _ hq, h0, hf, hl, ha, p⟩
  · exact p.elim
/-- the list of slot 0 is written -/
theorem Rep.clmSet {K : PySem.W.Frag} {F0 H0 F H : Hp} {G : Gm} {σ : L2.St} {os os2 : List PyData} {k : Int} {C dx l : Addr} {vs us : List V} (r : Rep K F0 H0 F H G σ) (c : At 0 q σ) (e : G[0]? = some (some (.clm os k))) (ic : IsC K C) (hq : F q = some (.ins C dx (clF l k))) (h0 : H0 l = none) (hf : F l = none)
    (hl : H l = some (.lst vs)) (ha : DqAll K F us os2) : Rep K F0 H0 F (upd H l (.lst us)) (G.set 0 (some (.clm os2 k))) σ :=
  r.chg e c (a := l) (t := .clm os2 k) ⟨q, C, dx, k, rfl, hq⟩ hl (fun _ _ z => nomatch z) ⟨q, C, dx, l, us, rfl, ic, hq, h0, hf, upd_same, ha⟩ fun b m => m
theorem em_append (T : ClimT X.K) (he : EE X ct W e me) (hj : X.N[0]? = some x := by rfl) (hv : Vis X.env.scope x := by first | exact Or.inl rfl | exact Or.inr (Or.inl rfl)) (hd : (x == ("__debug__" : Str)) = false := by decide) (hcd : (x == ("__classdict__" : Str)) = false := by decide)
    (hba : attributeBase (.Name x p1) "steps" X.env (eval (.Name x p1) X.env) = eval (.Name x p1) X.env := by rfl) (hb2 : attributeBase (.Attribute (.Name x p1) "steps" p2) "append" X.env (eval (.Attribute (.Name x p1) "steps" p2) X.env) = eval (.Attribute (.Name x p1) "steps" p2) X.env := by rfl)
    (hs1 : starEach [e] X.env = (false, eval e X.env) :: starEach [] X.env := by rfl) (hline : (p3.endLine == pos.line) = true := by rfl) :
    EM X ct W q (.Expr (.Call (.Attribute (.Attribute (.Name x p1) "steps" p2) "append" p3) [e] [] pos) pos2) (appM me) :=
  ps_imp (ps_expr (pe_bm PySem.F.plainAttrs_list PySem.F.slot_list_append PySem.F.type_list_append mt_append (pe_fld (pe_var hj hv hd hcd) hba) (pa_cons he pa_nil hs1) (hbase := hb2) (hline := hline) (hs := hs1) (hfew := by rw [hs1] <;> rfl))) fun D σ H ⟨c, F0, H0, F, G, r, p⟩ => by
    obtain ⟨os, n, C, dx, l, vs, e, ic, hq, hqH, h0, hf, hl, ha, p⟩ := clim_M c r p
    obtain ⟨c1, c2, c3⟩ := T C ic
    refine ⟨.ref q, c, q, C, dx, _, .ref l, rfl, hqH, c1, c2, rfl, .inl ⟨rfl, vs, SqL.of hl⟩, F0, H0, F, G, r, post_mono (post_M c r p) fun y H1 ⟨d, F1, x1, ry, r1, p1⟩ => ?_⟩
    split at p1
    · rename_i hz
      refine ⟨l, vs, y, rfl, rfl, x1.hh _ _ hl, by rw [dpAll_len ha]; exact big_lt hz, ?_⟩
      exact p1 σ F1 _ (Same.refl _) (r1.clmSet c e ic (x1.ff _ _ hq) h0 (x1.ap l _ hl hf trivial) (x1.hh _ _ hl) (dpAll_app (dpAll_mono x1.ff _ _ ha) (.cons ry .nil))) c
    · exact p1.elim
theorem em_pop (T : ClimT X.K) (hj : X.N[0]? = some x := by rfl) (hv : Vis X.env.scope x := by first | exact Or.inl rfl | exact Or.inr (Or.inl rfl)) (hd : (x == ("__debug__" : Str)) = false := by decide) (hcd : (x == ("__classdict__" : Str)) = false := by decide)
    (hba : attributeBase (.Name x p1) "steps" X.env (eval (.Name x p1) X.env) = eval (.Name x p1) X.env := by rfl) (hb2 : attributeBase (.Attribute (.Name x p1) "steps" p2) "pop" X.env (eval (.Attribute (.Name x p1) "steps" p2) X.env) = eval (.Attribute (.Name x p1) "steps" p2) X.env := by rfl)
    (hline : (p3.endLine == pos.line) = true := by rfl) : EM X ct W q (.Expr (.Call (.Attribute (.Attribute (.Name x p1) "steps" p2) "pop" p3) [] [] pos) pos2) popM :=
  ps_imp (ps_expr (pe_bm0 PySem.F.plainAttrs_list PySem.F.slot_list_pop PySem.F.type_list_pop mt_pop (pe_fld (pe_var hj hv hd hcd) hba) (hbase := hb2) (hline := hline))) fun D σ H ⟨c, F0, H0, F, G, r, p⟩ => by
    obtain ⟨os, n, C, dx, l, vs, e, ic, hq, hqH, h0, hf, hl, ha, p⟩ := clim_M c r p
    obtain ⟨c1, c2, c3⟩ := T C ic
    cases os with
    | nil => exact p.elim
    | cons o os =>
      have hlen := dpAll_len ha
      rw [List.length_cons] at hlen
      obtain ⟨y, hy⟩ : ∃ y, vs[vs.length - 1]? = some y := ⟨vs[vs.length - 1]'(by omega), List.getElem?_eq_getElem (by omega)⟩
      refine ⟨.ref q, c, q, C, dx, _, .ref l, rfl, hqH, c1, c2, rfl, .inl ⟨rfl, vs, SqL.of hl⟩, l, vs, y, rfl, rfl, hl, hy, ?_⟩
      exact p σ F _ (Same.refl _) (r.clmSet c e ic hq h0 hf hl (dpAll_dropLast ha)) c
end
/-! ### what a method keeps -/
inductive CF where
  | ok (d : PyData) (os : List PyData) | exc (c : Nat) (pl : Option PyData) (os : List PyData) | stuck
abbrev Mf := List PyData → Int → List PyData → CF
def spC (K : PySem.W.Frag) (ct : Nat → Addr) (f : Mf) : Sp := fun vs H Q E => ∃ (q C dx l : Addr) (n : Int) (ls ws : List V) (F : Hp) (os ds : List PyData),
  vs = .ref q :: ws ∧ IsC K C ∧ Same F H ∧ F q = some (.ins C dx (clF l n)) ∧ F l = none ∧ H l = some (.lst ls) ∧ DqAll K F ls os ∧ DqAll K F ws ds ∧
  match f os n ds with
  | .ok d os2 => ∀ v F2 H2 ls2, Ext F (del H l) F2 H2 → F2 l = none → H2 l = some (.lst ls2) → DqAll K F2 ls2 os2 → Dq K F2 v d → Q v H2
  | .exc c pl os2 => ∀ cls dd F2 H2 ls2, Ext F (del H l) F2 H2 → F2 l = none → H2 l = some (.lst ls2) → DqAll K F2 ls2 os2 → XR K ct F2 H2 c pl cls dd → E cls dd H2
  | .stuck => False
def outC (o : Option (Option Sl)) (k : List PyData → CF) : CF := match o with
  | some (some (.clm os _)) => k os
  | _ => .stuck
def defC (n k : Nat) (m : Gm → MO) : Mf := fun os c ds => if ds.length + 1 = k ∧ k ≤ n then match m (some (.clm os c) :: startG (n - 1) ds) with
  | .ret d G => outC G[0]? fun o => .ok d o
  | .next G => outC G[0]? fun o => .ok .none o
  | .exc c pl G => outC G[0]? fun o => .exc c pl o
  | .stuck => .stuck else .stuck
section
variable {P : Program} {w : World} {K : PySem.W.Frag} {mg : Str → Option Value} {base : Heap}
theorem rep_startC {F H : Hp} {N : List Str} {q C dx l : Addr} {n : Int} {ls ws : List V} {os ds : List PyData} (hn : ds.length + 1 ≤ N.length) (fh : Same F H) (ic : IsC K C) (hq : F q = some (.ins C dx (clF l n))) (hf : F l = none) (hl : H l = some (.lst ls)) (ha : DqAll K F ls os) (ra : DqAll K F ws ds) :
    Rep K F (del H l) F H (some (.clm os n) :: startG (N.length - 1) ds) (L2.start N (.ref q :: ws)) := by
  have rp := (rep_start (N := N) fh (DqAll.cons (v := .non) (d := .none) .non ra)).forget 0 (some (.ref q))
  rw [startI hn, startV] at rp
  have r1 := (rp.less (del_le H l)).put 0 (v := .ref q) (s := .clm os n) ⟨q, C, dx, l, ls, rfl, ic, hq, del_same, hf, hl, ha⟩ (fun j t u a ne g hu m1 m2 => by
    cases j with
    | zero => exact ne rfl
    | succ j =>
      rw [List.getElem?_cons_succ] at g
      unfold startG at g
      by_cases hi : j < ds.length
      · rw [List.getElem?_append_left (by simpa using hi), List.getElem?_map] at g
        cases e : ds[j]? with
        | none => rw [e] at g; cases g
        | some d => rw [e] at g; cases g; exact m1
      · rw [List.getElem?_append_right (by simpa using hi), List.getElem?_replicate] at g
        split at g <;> cases g)
  have e1 : (none :: startG (N.length - 1) ds : Gm).set 0 (some (.clm os n)) = some (.clm os n) :: startG (N.length - 1) ds := rfl
  have e2 : (L2.start N (.ref q :: ws)).set 0 (some (.ref q)) = L2.start N (.ref q :: ws) := rfl
  rw [e1, e2] at r1
  exact r1
theorem out_of {F H F2 H2 : Hp} {G : Gm} {σ : L2.St} {q C dx l : Addr} {n : Int} {os2 : List PyData} {k2 : Int} (hq : F q = some (.ins C dx (clF l n))) (r : Rep K F (del H l) F2 H2 G σ) (c : At 0 q σ) (e : G[0]? = some (some (.clm os2 k2))) :
    ∃ ls2, Ext F (del H l) F2 H2 ∧ F2 l = none ∧ H2 l = some (.lst ls2) ∧ DqAll K F2 ls2 os2 := by
  obtain ⟨q2, C2, dx2, l2, vs, e1, ic, hq2, h0, hf, hl, ha⟩ := r.at e c
  cases e1
  rw [r.ff _ _ hq] at hq2
  cases hq2
  exact ⟨vs, r.extOf, hf, hl, ha⟩
theorem fn_okC {x qual : Str} {st : Stmt} {f : Addr} {fd : FuncData} {N ps : List Str} {k : Nat} {ct : Nat → Addr} {m : Gm → MO} (F : Fun K x qual st f fd) (S : FnScope N ps (defScope st))
    (hb : ∀ (q : Addr) (cdv : Value) (A : Around) (outer : List Env) (s : Shared) (H : Hp) (E : XK), Room k (cxOf (L2.CX P w) P w K mg base N qual (defScope st) f cdv A outer s H E).A →
      Takes (cxOf (L2.CX P w) P w K mg base N qual (defScope st) f cdv A outer s H E) (WD E) →
      PassesOwn (model P w) (cxOf (L2.CX P w) P w K mg base N qual (defScope st) f cdv A outer s H E).A (cxOf (L2.CX P w) P w K mg base N qual (defScope st) f cdv A outer s H E).env (cxOf (L2.CX P w) P w K mg base N qual (defScope st) f cdv A outer s H E).xe →
      EMs (cxOf (L2.CX P w) P w K mg base N qual (defScope st) f cdv A outer s H E) ct (WD E) q (defBody st) m) :
    FnOk P w K mg base (L2.CX P w) (k + 1) f fd ps (spC K ct (defC N.length ps.length m)) := by
  refine F.okX S (fun vs H Q E h => ?_) (fun cdv A outer s H vs Q E hr h => ?_)
  · obtain ⟨q, C, dx, l, n, ls, ws, F1, os, ds, rfl, ic, fh, hq, hf, hl, ha, ra, p⟩ := h
    unfold defC at p
    split at p
    · rename_i e
      rw [List.length_cons, dpAll_len ra]
      by_cases z : ds.length + 1 = ps.length ∧ ps.length ≤ N.length
      · exact z.1
      · rw [if_neg z] at e
        cases e
    · rename_i e
      rw [List.length_cons, dpAll_len ra]
      by_cases z : ds.length + 1 = ps.length ∧ ps.length ≤ N.length
      · exact z.1
      · rw [if_neg z] at e
        cases e
    · exact p.elim
  · obtain ⟨q, C, dx, l, n, ls, ws, F1, os, ds, rfl, ic, fh, hq, hf, hl, ha, ra, p⟩ := h
    refine ⟨_, hb q cdv A outer s H E hr (takes_of rfl rfl rfl rfl) (passes_of rfl), ?_⟩
    unfold defC at p
    by_cases z : ds.length + 1 = ps.length ∧ ps.length ≤ N.length
    · simp only [if_pos z] at p
      have rp := rep_startC (N := N) (by omega) fh ic hq hf hl ha ra
      refine ⟨rfl, F1, del H l, F1, _, rp, ?_⟩
      revert p
      cases m (some (.clm os n) :: startG (N.length - 1) ds) with
      | next G =>
        intro p σ2 F2 H2 s2 r2 c2
        unfold outC at p
        cases hG : G[0]? with
        | none => simp only [hG] at p
        | some g =>
          cases g with
          | none => simp only [hG] at p
          | some g =>
            cases g with
            | clm os2 k2 =>
              simp only [hG] at p
              obtain ⟨ls2, x2, f2, l2, a2⟩ := out_of hq r2 c2 hG
              exact p .non F2 H2 ls2 x2 f2 l2 a2 .non
            | dat d => simp only [hG] at p
            | own d => simp only [hG] at p
            | dic d => simp only [hG] at p
            | nst d => simp only [hG] at p
            | lkd d => simp only [hG] at p
      | ret d G =>
        intro p v σ2 F2 H2 s2 r2 c2 rv
        unfold outC at p
        cases hG : G[0]? with
        | none => simp only [hG] at p
        | some g =>
          cases g with
          | none => simp only [hG] at p
          | some g =>
            cases g with
            | clm os2 k2 =>
              simp only [hG] at p
              obtain ⟨ls2, x2, f2, l2, a2⟩ := out_of hq r2 c2 hG
              exact p v F2 H2 ls2 x2 f2 l2 a2 rv
            | dat d => simp only [hG] at p
            | own d => simp only [hG] at p
            | dic d => simp only [hG] at p
            | nst d => simp only [hG] at p
            | lkd d => simp only [hG] at p
      | exc c pl G =>
        intro p cls dd σ2 F2 H2 s2 r2 c2 rx
        unfold outC at p
        cases hG : G[0]? with
        | none => simp only [hG] at p
        | some g =>
          cases g with
          | none => simp only [hG] at p
          | some g =>
            cases g with
            | clm os2 k2 =>
              simp only [hG] at p
              obtain ⟨ls2, x2, f2, l2, a2⟩ := out_of hq r2 c2 hG
              exact p cls dd F2 H2 ls2 x2 f2 l2 a2 rx
            | dat d => simp only [hG] at p
            | own d => simp only [hG] at p
            | dic d => simp only [hG] at p
            | nst d => simp only [hG] at p
            | lkd d => simp only [hG] at p
      | stuck => exact fun p => p.elim
    · simp only [if_neg z] at p
end
end VL
/-! ### making -/
namespace VL
open PySem PySem.Spec PyProof.Rows L2
def spN (K : PySem.W.Frag) (ct : Nat → Addr) (f : List PyData → FO) : Sp := fun vs H Q E => ∃ (x C dx : Addr) (v : V) (F : Hp) (d : PyData), vs = [.ref x, v] ∧ IsC K C ∧ Same F H ∧ H x = some (.ins C dx []) ∧ F x = none ∧ Dq K F v d ∧
  match f [d] with
  | .ok _ => ∀ F2 H2 l ls, Ext F (del H x) F2 H2 → F2 x = some (.ins C dx (clF l 0)) → H l = none → F2 l = none → H2 l = some (.lst ls) → DqAll K F2 ls [d] → Q .non H2
  | .exc c pl => ∀ cls dd F2 H2, Ext F (del H x) F2 H2 → XR K ct F2 H2 c pl cls dd → E cls dd H2
  | .stuck => False
def tInitN (K : PySem.W.Frag) (ct : Nat → Addr) (W : WX) (mc : Gm → EO) : TS := tSeq (tDrop (tM K ct W mc)) (tSeq (sFld K (tVar 0) (tLst (tCons (tVar 1) tNil)) "steps") (sFld K (tVar 0) (tC (.int 0)) "kept"))
def initO : EO → FO
  | .ok _ _ => .ok .none
  | .exc c pl => .exc c pl
  | .stuck => .stuck
def initF (mc : Gm → EO) : List PyData → FO
  | [d] => initO (mc [none, some (.dat d)])
  | _ => .stuck
theorem ext_del {F H F2 H2 : Hp} {x : Addr} (e : Ext F H F2 H2) : Ext F (del H x) F2 H2 := ⟨e.ff, e.fh, (del_le H x).trans e.hh, fun a o h n t => e.ap a o (del_le H x a o h) n t⟩
section
variable {P : Program} {w : World} {K : PySem.W.Frag} {mg : Str → Option Value} {base : Heap}
theorem fn_okN {y qual : Str} {st : Stmt} {f : Addr} {fd : FuncData} {k : Nat} {n0 n1 : Str} {ct : Nat → Addr} {mc : Gm → EO} (T : ClimT K)
    (F : Fun K y qual st f fd) (S : FnScope [n0, n1] [n0, n1] (defScope st))
    (hb : ∀ (cdv : Value) (A : Around) (outer : List Env) (s : Shared) (H : Hp) (E : XK), Room k (cxOf (L2.CX P w) P w K mg base [n0, n1] qual (defScope st) f cdv A outer s H E).A →
      Takes (cxOf (L2.CX P w) P w K mg base [n0, n1] qual (defScope st) f cdv A outer s H E) (WD E) → PSs (cxOf (L2.CX P w) P w K mg base [n0, n1] qual (defScope st) f cdv A outer s H E) (defBody st) (tInitN K ct (WD E) mc)) :
    FnOk P w K mg base (L2.CX P w) (k + 1) f fd [n0, n1] (spN K ct (initF mc)) := by
  refine F.okX S (fun vs H Q E h => ?_) (fun cdv A outer s H vs Q E hr h => ⟨_, hb cdv A outer s H E hr (takes_of rfl rfl rfl rfl), ?_⟩)
  · obtain ⟨x, C, dx, v, F1, d, rfl, _⟩ := h
    rfl
  · obtain ⟨x, C, dx, v, F1, d, rfl, ic, fh, hx, fx, rv, p⟩ := h
    obtain ⟨c1, c2, c3⟩ := T C ic
    have rp := (rep_start (N := [n0, n1]) fh (DqAll.cons (v := .non) (d := .none) .non (.cons rv .nil))).forget 0 (some (.ref x))
    rw [startI (Nat.le_of_ble_eq_true rfl), startV] at rp
    have rp2 : Rep K F1 H F1 H [none, some (.dat d)] [some (.ref x), some v] := rp
    refine ⟨F1, H, F1, [none, some (.dat d)], rp2, ?_⟩
    have p' : match initO (mc [none, some (.dat d)]) with
      | .ok _ => ∀ F2 H2 l ls, Ext F1 (del H x) F2 H2 → F2 x = some (.ins C dx (clF l 0)) → H l = none → F2 l = none → H2 l = some (.lst ls) → DqAll K F2 ls [d] → Q .non H2
      | .exc c pl => ∀ cls dd F2 H2, Ext F1 (del H x) F2 H2 → XR K ct F2 H2 c pl cls dd → E cls dd H2
      | .stuck => False := p
    revert p'
    cases mc [none, some (.dat d)] with
    | stuck => exact fun p => p
    | exc c pl => exact fun p cls dd F2 H2 x2 z => p cls dd F2 H2 (ext_del x2) z
    | ok d' w' =>
      intro p u F2 H2 x2 _
      have hx2 := x2.hh _ _ hx
      have fx2 : F2 x = none := x2.ap x _ hx fx trivial
      refine ⟨v, rfl, Nat.le_trans (by decide : 1 ≤ big) (big_line (n := big) (Nat.le_refl _)), fun l hl => ?_⟩
      have nx : l ≠ x := fun z => by
        rw [z, hx2] at hl
        cases hl
      have hHl : H l = none := x2.hh.free hl
      have fl : F2 l = none := x2.fh.free hl
      refine ⟨.ref x, rfl, x, C, dx, [], rfl, by rw [upd_ne (Ne.symm nx)]; exact hx2, c1, c2, by decide, ?_⟩
      refine ⟨.ref x, rfl, x, C, dx, [("steps", .ref l)], rfl, upd_same, c1, c3, Nat.le_of_ble_eq_true rfl, ?_⟩
      have sF : Same F2 (upd F2 x (.ins C dx (clF l 0))) := same_new fx2
      refine p (upd F2 x (.ins C dx (clF l 0))) _ l [v] ⟨x2.ff.trans sF, fun b o z => ?_, fun b o z => ?_, fun b o z n t => ?_⟩ upd_same hHl (by rw [upd_ne nx]; exact fl) (by rw [upd_ne nx, upd_ne nx, upd_same]) (.cons (dp_mono (x2.ff.trans sF) _ _ rv) .nil)
      · by_cases hb : b = x
        · subst hb
          rw [upd_same] at z ⊢
          exact z
        · rw [upd_ne hb] at z
          have hz := x2.fh b o z
          rw [upd_ne hb, upd_ne hb, upd_ne (ne_of_none hz hl)]
          exact hz
      · have hb : b ≠ x := fun e => by
          rw [e, del_same] at z
          cases z
        rw [del_ne hb] at z
        have hz := x2.hh b o z
        rw [upd_ne hb, upd_ne hb, upd_ne (ne_of_none hz hl)]
        exact hz
      · have hb : b ≠ x := fun e => by
          rw [e, del_same] at z
          cases z
        rw [del_ne hb] at z
        rw [upd_ne hb]
        exact x2.ap b o z n t
end
/-- the class of climbers, its __init__ -/
structure MkN (P : Program) (w : World) (K : PySem.W.Frag) (mg : Str → Option Value) (base : Heap) (ct : Nat → Addr) (k : Nat) (fi : List PyData → FO) : Prop where
  ex : ∃ (C f : Addr) (fd : FuncData) (ps : List Str), mg "Climber" = some (.ref C) ∧ IsC K C ∧ Mk K C f ∧ Binds K fd ps [] ∧ FnOk P w K mg base (L2.CX P w) k f fd ps (spN K ct fi)
/-- a method of it -/
structure MtC (P : Program) (w : World) (K : PySem.W.Frag) (mg : Str → Option Value) (base : Heap) (ct : Nat → Addr) (m : Str) (k : Nat) (fm : Mf) : Prop where
  ex : ∃ (C f : Addr) (fd : FuncData) (ps : List Str), IsC K C ∧ Cls K C ∧ Meth K C m f ∧ Binds K fd ps [] ∧ FnOk P w K mg base (L2.CX P w) k f fd ps (spC K ct fm)
theorem IsC.uniq {K : PySem.W.Frag} {C C2 : Addr} (h : IsC K C) (h2 : IsC K C2) : C = C2 := by
  unfold IsC at h h2
  rw [h] at h2
  cases h2
  rfl
section
variable {X : Cx} {CX : CXT} {k : Nat} {f C : Addr} {fd : FuncData} {ps : List Str} {sp : Sp} {E : L2.St → XK} {x m : Str} {p pos apos : Pos} {e o : Expr} {es : List Expr} {ta : TE} {t : TA}
def tMethSD (C : Addr) (m : Str) (sp : Sp) (E : L2.St → XK) (ta : TE) (t : TA) : TE := fun σ H Q => ta σ H fun x H1 => ∃ a dx fs, x = .ref a ∧ H1 a = some (.ins C dx fs) ∧ fs.lookup m = none ∧ t σ H1 fun vs H2 => sp (x :: vs) H2 Q (E σ)
theorem pe_methSD {pl : Sem Bool} (he : PE X o ta) (c : Cls X.K C) (hm : Meth X.K C m f) (F : FnOk X.prog X.w X.K X.mg X.base CX k f fd ps sp) (hr : Room k X.A) (hb : Binds X.K fd ps []) (hx : ∀ σ, PassesAt CX X σ (E σ)) (ha : PA X (e :: es) t)
    (hst : starEach (e :: es) X.env = (false, eval e X.env) :: starEach es X.env := by rfl) (hpl : (backTo pos (starEach es X.env)).any (·.1) = false := by rfl)
    (ht : eval (.Call (.Attribute o m apos) (e :: es) [] pos) X.env = (do
      let ov ← eval o X.env
      standAt apos.atName
      let (f, first) ← holding [ov] (getMethod ov m pl)
      callWith pos f first (backTo pos (starEach (e :: es) X.env)) (backToKw pos (keywordEach [] X.env))) := by rfl) :
    PE X (.Call (.Attribute o m apos) (e :: es) [] pos) (tMethSD C m sp E ta t) := by
  refine ⟨fun pins s σ H Q I h => ?_⟩
  refine PySem.W.methodCall_KW (pl := pl) (thn (he.run pins s σ H _ I h) fun u s1 ⟨x, H1, I1, rx, a, dx, fs, ex, ea, l, q⟩ => ?_) ht
  subst ex
  obtain rfl : u = Value.ref a := rx
  refine getmeth_ok I1 ea c hm l ?_
  refine PySem.W.callWith_K (first := [.ref a]) (h₀ := X.base) I.ok.mod.kin hm.kp (thn (ha.run pos pins s1 σ H1 _ I1 q) fun us s2 ⟨vs, H2, I2, r, q2⟩ => ⟨I2.kIn, ?_⟩) hst hpl
  exact run_fnSD (us := .ref a :: us) (vs := .ref a :: vs) (dvs := []) (ds := []) F hr hb .nil (hx σ) I2 (.cons rfl r) (by rw [List.append_nil]; exact q2)
theorem pe_methSD0 {pl : Sem Bool} (he : PE X o ta) (c : Cls X.K C) (hm : Meth X.K C m f) (F : FnOk X.prog X.w X.K X.mg X.base CX k f fd ps sp) (hr : Room k X.A) (hb : Binds X.K fd ps []) (hx : ∀ σ, PassesAt CX X σ (E σ))
    (ht : eval (.Call (.Attribute o m apos) [] [] pos) X.env = (do
      let ov ← eval o X.env
      standAt apos.atName
      let (f, first) ← holding [ov] (getMethod ov m pl)
      callWith pos f first (backTo pos (starEach [] X.env)) (backToKw pos (keywordEach [] X.env))) := by rfl) :
    PE X (.Call (.Attribute o m apos) [] [] pos) (tMethSD C m sp E ta tNil) := by
  refine ⟨fun pins s σ H Q I h => ?_⟩
  refine PySem.W.methodCall_KW (pl := pl) (thn (he.run pins s σ H _ I h) fun u s1 ⟨x, H1, I1, rx, a, dx, fs, ex, ea, l, q⟩ => ?_) ht
  subst ex
  obtain rfl : u = Value.ref a := rx
  refine getmeth_ok I1 ea c hm l ?_
  exact PySem.W.callWith_K0 (first := [.ref a]) I1.kIn hm.kp (run_fnSD (us := [.ref a]) (vs := [.ref a]) (dvs := []) (ds := []) F hr hb .nil (hx σ) I1 (.cons rfl .nil) (by exact q))
end
/-! ### C(e).m(..) that raises -/
def tmpE (fi : List PyData → FO) (f : Mf) (m0 ms : Gm → AO) : Gm → EO := fun G => match m0 G with
  | .ok [d] => (match fi [d] with
    | .ok _ => (match ms G with
      | .ok ds => (match f [d] 0 ds with
        | .exc c pl _ => .exc c pl
        | _ => .stuck)
      | .exc c pl => .exc c pl
      | .stuck => .stuck)
    | .exc c pl => .exc c pl
    | .stuck => .stuck)
  | .ok _ => .stuck
  | .exc c pl => .exc c pl
  | .stuck => .stuck
section
variable {X : Cx} {ct : Nat → Addr} {W : WX} {e e2 : Expr} {es : List Expr} {m0 ms : Gm → AO} {pos p p1 apos : Pos} {m : Str} {k j j2 : Nat} {fi : List PyData → FO} {fm : Mf}
/-- an instance and its dict are new -/
theorem ext_ins {F H : Hp} {o dx C : Addr} (fh : Same F H) (ho : H o = none) (hdx : H dx = none) (ne : dx ≠ o) : Ext F H F (upd (upd H dx (.own o)) o (.ins C dx [])) :=
  (Ext.new fh hdx).trans (Ext.new (fh.trans (same_new hdx)) (by rw [upd_ne (Ne.symm ne)]; exact ho))
/-- what __init__ leaves, looked at from the caller's heap -/
theorem ext_made {F H F2 H2 : Hp} {o dx C : Addr} (fh : Same F H) (ho : H o = none) (hdx : H dx = none) (ne : dx ≠ o) (x : Ext F (del (upd (upd H dx (.own o)) o (.ins C dx [])) o) F2 H2) : Ext F H F2 H2 := by
  have h1 : Same H (del (upd (upd H dx (.own o)) o (.ins C dx [])) o) := fun a z h => by
    rw [del_ne (ne_of_none h ho), upd_ne (ne_of_none h ho), upd_ne (ne_of_none h hdx)]
    exact h
  exact ⟨x.ff, x.fh, h1.trans x.hh, fun a z h n t => x.ap a z (h1 a z h) n t⟩
theorem tmp_of {σ : L2.St} {H : Hp} {Q : VK} {Cl : Addr} (T : ClimT X.K) (ic : IsC X.K Cl) (hno : ∀ (l : Addr) (n : Int), (clF l n).lookup m = none) (h : tM X.K ct W (tmpE fi fm m0 ms) σ H Q) :
    tMethSD Cl m (spC X.K ct fm) (WE W) (tMakeS Cl (spN X.K ct fi) (WE W) (tMA X.K ct W m0)) (tMA X.K ct W ms) σ H Q := by
  obtain ⟨F0, H0, F, G, r, p⟩ := h
  refine ⟨F0, H0, F, G, r, ?_⟩
  unfold tmpE at p
  revert p
  cases m0 G with
  | stuck => exact fun p => p
  | exc c pl => exact fun p => p
  | ok ds0 =>
    match ds0 with
    | [] => exact fun p => p.elim
    | d1 :: d2 :: ds0 => exact fun p => p.elim
    | [d] =>
      intro p vs F1 H1 x1 rd o dx ho hdx ne
      cases rd with
      | cons rv rn =>
        rename_i v vs'
        cases rn
        have y := ext_ins (C := Cl) x1.fh ho hdx ne
        have fo : F1 o = none := x1.fh.free ho
        refine ⟨o, Cl, dx, v, F1, d, rfl, ic, y.fh, upd_same, fo, rv, ?_⟩
        dsimp only at p
        revert p
        cases fi [d] with
        | stuck => exact fun p => p.elim
        | exc c pl => exact fun p cls dd F2 H2 x2 z => p cls dd F2 H2 (x1.trans (ext_made x1.fh ho hdx ne x2)) z
        | ok u =>
          intro p F2 H2 l ls x2 hi hl hf hl2 ha
          have x12 := x1.trans (ext_made x1.fh ho hdx ne x2)
          have ho2 : H2 o = some (.ins Cl dx (clF l 0)) := x2.fh _ _ hi
          refine ⟨rfl, o, dx, clF l 0, rfl, ho2, hno l 0, F0, H0, F2, G, r.ext x12, ?_⟩
          dsimp only at p
          revert p
          cases ms G with
          | stuck => exact fun p => p.elim
          | exc c pl => exact fun p cls dd F3 H3 x3 z => p cls dd F3 H3 (x12.trans x3) z
          | ok ds =>
            intro p ws F3 H3 x3 rw3
            refine ⟨o, Cl, dx, l, 0, ls, ws, F3, [d], ds, rfl, ic, x3.fh, x3.ff _ _ hi, x3.ap l _ hl2 hf trivial, x3.hh _ _ hl2, dpAll_mono x3.ff _ _ ha, rw3, ?_⟩
            dsimp only at p
            revert p
            cases fm [d] 0 ds with
            | stuck => exact fun p => p.elim
            | ok d5 os5 => exact fun p => p.elim
            | exc c pl os5 =>
              intro p cls dd F4 H4 ls4 x4 f4 l4 a4 z
              refine p cls dd F4 H4 ?_ z
              -- the list is younger than H1
              have hl1 : H1 l = none := by
                by_cases e1 : l = o
                · rw [e1]; exact ho
                · rw [upd_ne e1] at hl
                  by_cases e2 : l = dx
                  · rw [e2]; exact hdx
                  · rwa [upd_ne e2] at hl
              have hl0 : H l = none := x1.hh.free hl1
              have y13 := x12.trans x3
              exact ⟨y13.ff.trans x4.ff, x4.fh, fun b q hb => x4.hh b q (by rw [del_ne (ne_of_none hb hl0)]; exact y13.hh b q hb), fun b q hb n t => x4.ap b q (by rw [del_ne (ne_of_none hb hl0)]; exact y13.hh b q hb) (y13.ap b q hb n t) t⟩
theorem ee_tmp (T : ClimT X.K) (N : MkN X.prog X.w X.K X.mg X.base ct j fi) (M : MtC X.prog X.w X.K X.mg X.base ct m j2 fm) (hr : Room k X.A) (tk : Takes X W) (h0 : EA X ct W [e] m0) (ha : EA X ct W (e2 :: es) ms) {pl : Sem Bool} (hno : ∀ (l : Addr) (n : Int), (clF l n).lookup m = none := by exact fun _ _ => rfl) (hjk : j + 1 ≤ k := by decide) (hj2 : j2 ≤ k := by decide)
    (hg : Gl X "Climber" := by rfl) (he : starEach [e] X.env = (false, eval e X.env) :: starEach [] X.env := by rfl) (hpl : (backTo p1 (starEach [] X.env)).any (·.1) = false := by rfl)
    (hst : starEach (e2 :: es) X.env = (false, eval e2 X.env) :: starEach es X.env := by rfl) (hpl2 : (backTo pos (starEach es X.env)).any (·.1) = false := by rfl)
    (ht : eval (.Call (.Attribute (.Call (.Name "Climber" p) [e] [] p1) m apos) (e2 :: es) [] pos) X.env = (do
      let ov ← eval (.Call (.Name "Climber" p) [e] [] p1) X.env
      standAt apos.atName
      let (f, first) ← holding [ov] (getMethod ov m pl)
      callWith pos f first (backTo pos (starEach (e2 :: es) X.env)) (backToKw pos (keywordEach [] X.env))) := by rfl) :
    EE X ct W (.Call (.Attribute (.Call (.Name "Climber" p) [e] [] p1) m apos) (e2 :: es) [] pos) (tmpE fi fm m0 ms) := by
  obtain ⟨C, f, fd, ps, hm, ic, mk, hb, Fn⟩ := N.ex
  obtain ⟨C2, f2, fd2, ps2, ic2, cl, mt, hb2, Fn2⟩ := M.ex
  obtain rfl := ic.uniq ic2
  exact pe_imp (pe_methSD (E := WE W) (pl := pl) (pe_makeS (E := WE W) mk Fn (hr.mono hjk) hg hm hb (fun σ => passAt tk σ) h0 (by decide) he hpl) cl mt Fn2 (hr.mono hj2) hb2 (fun σ => passAt tk σ) ha hst hpl2 ht) fun σ H Q h => tmp_of T ic hno h
theorem ee_tmp0 (T : ClimT X.K) (N : MkN X.prog X.w X.K X.mg X.base ct j fi) (M : MtC X.prog X.w X.K X.mg X.base ct m j2 fm) (hr : Room k X.A) (tk : Takes X W) (h0 : EA X ct W [e] m0) {pl : Sem Bool} (hno : ∀ (l : Addr) (n : Int), (clF l n).lookup m = none := by exact fun _ _ => rfl) (hjk : j + 1 ≤ k := by decide) (hj2 : j2 ≤ k := by decide)
    (hg : Gl X "Climber" := by rfl) (he : starEach [e] X.env = (false, eval e X.env) :: starEach [] X.env := by rfl) (hpl : (backTo p1 (starEach [] X.env)).any (·.1) = false := by rfl)
    (ht : eval (.Call (.Attribute (.Call (.Name "Climber" p) [e] [] p1) m apos) [] [] pos) X.env = (do
      let ov ← eval (.Call (.Name "Climber" p) [e] [] p1) X.env
      standAt apos.atName
      let (f, first) ← holding [ov] (getMethod ov m pl)
      callWith pos f first (backTo pos (starEach [] X.env)) (backToKw pos (keywordEach [] X.env))) := by rfl) :
    EE X ct W (.Call (.Attribute (.Call (.Name "Climber" p) [e] [] p1) m apos) [] [] pos) (tmpE fi fm m0 nilA) := by
  obtain ⟨C, f, fd, ps, hm, ic, mk, hb, Fn⟩ := N.ex
  obtain ⟨C2, f2, fd2, ps2, ic2, cl, mt, hb2, Fn2⟩ := M.ex
  obtain rfl := ic.uniq ic2
  refine pe_imp (pe_methSD0 (E := WE W) (pl := pl) (pe_makeS (E := WE W) mk Fn (hr.mono hjk) hg hm hb (fun σ => passAt tk σ) h0 (by decide) he hpl) cl mt Fn2 (hr.mono hj2) hb2 (fun σ => passAt tk σ) ht) fun σ H Q h => ?_
  obtain ⟨F0, H0, F, G, r, q⟩ := tmp_of (m := m) T ic hno h
  refine ⟨F0, H0, F, G, r, postA_mono q fun vs H1 z o dx ho hdx ne => ?_⟩
  obtain ⟨x, C3, dx3, v, F1, d, e1, ic3, fh, hx, fx, rv, z2⟩ := z o dx ho hdx ne
  refine ⟨x, C3, dx3, v, F1, d, e1, ic3, fh, hx, fx, rv, ?_⟩
  revert z2
  cases fi [d] with
  | stuck => exact fun p => p
  | exc c pl => exact fun p => p
  | ok u =>
    intro p F2 H2 l ls x2 hi hl hf hl2 ha
    obtain ⟨e2, a, dx4, fs, e3, ea, lk, F5, H5, F6, G6, r6, q6⟩ := p F2 H2 l ls x2 hi hl hf hl2 ha
    exact ⟨e2, a, dx4, fs, e3, ea, lk, q6 [] F6 H2 (Ext.refl r6.fh) .nil⟩
end
end VL
/-! ### isinstance of the caught, a built-in class -/
namespace VL
open PySem PySem.Spec PyProof.Rows L2
theorem kit_type {K : PySem.W.Frag} {C : Addr} {T : String} {b : Bool} (h : PySem.W.subIn K (.ref C) (.type T) = some b) (hm : PySem.W.kitMeta T = true) : PySem.W.kitOne K (.ref C) (.type T) = some b := by
  unfold PySem.W.kitOne
  rw [if_neg (by intro z; cases beq_iff_eq.mp z)]
  show (if PySem.W.kitMeta T = true then PySem.W.subIn K (.ref C) (.type T) else none) = some b
  rw [if_pos hm]
  exact h
section
variable {X : Cx} {ct : Nat → Addr} {W : WX} {i : Nat} {a dd C : Addr} {z : PyData} {x n : Str} {T : String} {oe : Obj} {pn : List (Addr × Obj)} {pos p p1 p2 : Pos}
theorem eei_isT (b : Bool) (E : ExcC X.K C) (hz : Zc (.ref C) none oe) (hf : ∃ fs, oe.data = .fields fs) (hk : PySem.W.kitOne X.K (.ref C) (.type T) = some b) (hm : X.mg "isinstance" = none) (hmt : X.mg x = none) (hbt : bootBuiltins x = some (.type T)) (hi : X.N[i]? = some n := by rfl)
    (hv : Vis X.env.scope n := by first | exact .inl rfl | exact .inr (.inl rfl) | exact .inr (.inr rfl)) (hg : Gl X "isinstance" := by rfl) (hgx : Gl X x := by rfl) (hd : (n == ("__debug__" : Str)) = false := by decide) (hcd : (n == ("__classdict__" : Str)) = false := by decide) (hdx : (x == ("__debug__" : Str)) = false := by decide) (hnx : x ≠ "__name__" := by decide) :
    EEi (X.suite a ((a, oe) :: pn)) ct W i a (.Call (.Name "isinstance" p) [.Name n p1, .Name x p2] [] pos) (cE (.bool b)) :=
  pe_imp (pe_callB (X := X.suite a ((a, oe) :: pn)) (call_isE (X := X) E hz hf) hg hm PyProof.Rows.boot_isinstance
    (pa_cons (pe_var (X := X.suite a ((a, oe) :: pn)) hi hv hd hcd) (pa_cons (pe_bltn (X := X.suite a ((a, oe) :: pn)) (v := .ty T) hgx hmt hbt rfl hnx hdx) pa_nil rfl) rfl) (he := rfl) (hpl := rfl))
    fun σ H Q ⟨c, F0, H0, F, G, rp, p⟩ => ⟨.ref a, c, .ty T, .type T, b, rfl, fun u h => by cases h; rfl, hk, p (.bl b) F H (Ext.refl rp.fh) (.bl b)⟩
theorem eej_isT (b : Bool) (E : ExcC X.K C) (hz : Zc (.ref C) (some dd) oe) (hf : ∃ fs, oe.data = .fields fs) (hk : PySem.W.kitOne X.K (.ref C) (.type T) = some b) (hm : X.mg "isinstance" = none) (hmt : X.mg x = none) (hbt : bootBuiltins x = some (.type T)) (hi : X.N[i]? = some n := by rfl)
    (hv : Vis X.env.scope n := by first | exact .inl rfl | exact .inr (.inl rfl) | exact .inr (.inr rfl)) (hg : Gl X "isinstance" := by rfl) (hgx : Gl X x := by rfl) (hd : (n == ("__debug__" : Str)) = false := by decide) (hcd : (n == ("__classdict__" : Str)) = false := by decide) (hdx : (x == ("__debug__" : Str)) = false := by decide) (hnx : x ≠ "__name__" := by decide) :
    EEj (X.suite a ((a, oe) :: pn)) ct W i a dd z (.Call (.Name "isinstance" p) [.Name n p1, .Name x p2] [] pos) (cE (.bool b)) :=
  pe_imp (pe_callB (X := X.suite a ((a, oe) :: pn)) (call_isD (X := X) E hz hf) hg hm PyProof.Rows.boot_isinstance
    (pa_cons (pe_var (X := X.suite a ((a, oe) :: pn)) hi hv hd hcd) (pa_cons (pe_bltn (X := X.suite a ((a, oe) :: pn)) (v := .ty T) hgx hmt hbt rfl hnx hdx) pa_nil rfl) rfl) (he := rfl) (hpl := rfl))
    fun σ H Q ⟨c, F0, H0, F, G, rp, ⟨v, pf, _⟩, p⟩ => ⟨.ref a, c, .ty T, .type T, b, _, rfl, rp.fh _ _ pf, fun u h => by cases h; rfl, hk, p (.bl b) F H (Ext.refl rp.fh) (.bl b)⟩
end
theorem cm_eqS {X : Cx} {a : Addr} {pn : List (Addr × Obj)} {k : Nat} (hr : Room k X.A) : Cm (X.suite a pn) .Eq gEq := ⟨_, op_eqD (X := X.suite a pn) hr.units, g_eq⟩
theorem cm_neS {X : Cx} {a : Addr} {pn : List (Addr × Obj)} {k : Nat} (hr : Room k X.A) : Cm (X.suite a pn) .NotEq gNe := ⟨_, op_neD (X := X.suite a pn) hr.units, g_ne⟩
end VL

set_option Elab.async false
set_option linter.all false
set_option maxRecDepth 100000
set_option maxHeartbeats 4000000
/-! Va: expressions that change climbers. -/
namespace VL
open PySem PySem.Spec PyProof.Rows L2
inductive KO where
  | ok (d : PyData) (G : Gm) | exc (c : Nat) (pl : Option PyData) (G : Gm) | stuck
inductive KB where
  | ok (b : Bool) (G : Gm) | exc (c : Nat) (pl : Option PyData) (G : Gm) | stuck
def postK (K : PySem.W.Frag) (ct : Nat → Addr) (W : WX) (F0 H0 : Hp) (σ : L2.St) (F : Hp) (Q : VK) : KO → Prop
  | .ok d G2 => ∀ v F2 H2, Same F F2 → Rep K F0 H0 F2 H2 G2 σ → Dq K F2 v d → Q v H2
  | .exc c pl G2 => ∀ cls dd F2 H2, Same F F2 → Rep K F0 H0 F2 H2 G2 σ → XR K ct F2 H2 c pl cls dd → W cls dd σ H2
  | .stuck => False
def postKB (K : PySem.W.Frag) (ct : Nat → Addr) (W : WX) (F0 H0 : Hp) (σ : L2.St) (F : Hp) (Q : Bool → Hp → Prop) : KB → Prop
  | .ok b G2 => ∀ F2 H2, Same F F2 → Rep K F0 H0 F2 H2 G2 σ → Q b H2
  | .exc c pl G2 => ∀ cls dd F2 H2, Same F F2 → Rep K F0 H0 F2 H2 G2 σ → XR K ct F2 H2 c pl cls dd → W cls dd σ H2
  | .stuck => False
def tMK (K : PySem.W.Frag) (ct : Nat → Addr) (W : WX) (m : Gm → KO) : TE := fun σ H Q => ∃ F0 H0 F G, Rep K F0 H0 F H G σ ∧ postK K ct W F0 H0 σ F Q (m G)
def tMKB (K : PySem.W.Frag) (ct : Nat → Addr) (W : WX) (m : Gm → KB) : TT := fun σ H Q => ∃ F0 H0 F G, Rep K F0 H0 F H G σ ∧ postKB K ct W F0 H0 σ F Q (m G)
abbrev EK (X : Cx) (ct : Nat → Addr) (W : WX) (e : Expr) (m : Gm → KO) : Prop := PE X e (tMK X.K ct W m)
abbrev EKB (X : Cx) (ct : Nat → Addr) (W : WX) (e : Expr) (m : Gm → KB) : Prop := PT X e (tMKB X.K ct W m)
abbrev EKW (X : Cx) (ct : Nat → Addr) (W : WX) (e : Expr) (m : Gm → KB) : Prop := PW X e (tMKB X.K ct W m)
def KO.ofE (G : Gm) : EO → KO
  | .ok d .frz => .ok d G
  | .ok _ _ => .stuck
  | .exc c pl => .exc c pl G
  | .stuck => .stuck
def KB.ofB (G : Gm) : BO → KB
  | .ok b => .ok b G
  | .exc c pl => .exc c pl G
  | .stuck => .stuck
def KO.bind (o : KO) (k : PyData → Gm → KO) : KO := match o with
  | .ok d G => k d G
  | .exc c pl G => .exc c pl G
  | .stuck => .stuck
def KO.bindB (o : KO) (k : PyData → Gm → KB) : KB := match o with
  | .ok d G => k d G
  | .exc c pl G => .exc c pl G
  | .stuck => .stuck
def KB.bind (o : KB) (k : Bool → Gm → KB) : KB := match o with
  | .ok d G => k d G
  | .exc c pl G => .exc c pl G
  | .stuck => .stuck
def KO.bindS (o : KO) (k : PyData → Gm → SO) : SO := match o with
  | .ok d G => k d G
  | .exc c pl G => .exc c pl G
  | .stuck => .stuck
def KB.bindS (o : KB) (k : Bool → Gm → SO) : SO := match o with
  | .ok b G => k b G
  | .exc c pl G => .exc c pl G
  | .stuck => .stuck
def KO.toM (o : KO) : MO := match o with
  | .ok d G => .ret d G
  | .exc c pl G => .exc c pl G
  | .stuck => .stuck
def liftK (m : Gm → EO) : Gm → KO := fun G => .ofE G (m G)
def liftKB (m : Gm → BO) : Gm → KB := fun G => .ofB G (m G)
def opK (g : PyData → PyData → EO) (mx : Gm → KO) (mb : Gm → EO) : Gm → KO := fun G => (mx G).bind fun d G2 => .ofE G2 ((mb G2).bind fun e _ => g d e)
def boolK (m : Gm → KO) : Gm → KB := fun G => (m G).bindB fun d G2 => match d with
  | .bool b => .ok b G2
  | _ => .stuck
def andKB (a b : Gm → KB) : Gm → KB := fun G => (a G).bind fun k G2 => if k = true then b G2 else .ok false G2
def orKB (a b : Gm → KB) : Gm → KB := fun G => (a G).bind fun k G2 => if k = true then .ok true G2 else b G2
def ifKE (t : Gm → BO) (a b : Gm → KO) : Gm → KO := fun G => match t G with
  | .ok k => if k = true then a G else b G
  | .exc c pl => .exc c pl G
  | .stuck => .stuck
def ifK (t : Gm → KB) (m1 m2 : Gm → SO) : Gm → SO := fun G => (t G).bindS fun k G2 => if k = true then m1 G2 else m2 G2
def dropK (m : Gm → KO) : Gm → SO := fun G => (m G).bindS fun _ G2 => .next G2
def retK2 (m : Gm → KO) : Gm → SO := fun G => (m G).bindS fun d _ => .ret d
def retMK (m : Gm → KO) : Gm → MO := fun G => (m G).toM
/-- x.m(..) of the climber in slot i; f(x, ..) -/
def coM (f : Mf) (i : Nat) (ms : Gm → AO) : Gm → KO := fun G => match G[i]? with
  | some (some (.clm os n)) => (match ms G with
    | .ok ds => (match f os n ds with
      | .ok d os2 => .ok d (G.set i (some (.clm os2 n)))
      | .exc c pl os2 => .exc c pl (G.set i (some (.clm os2 n)))
      | .stuck => .stuck)
    | .exc c pl => .exc c pl G
    | .stuck => .stuck)
  | _ => .stuck
/-- x = C(e) -/
def mkS (j : Nat) (fi : List PyData → FO) (ms : Gm → AO) : Gm → SO := fun G => match ms G with
  | .ok [d] => (match fi [d] with
    | .ok _ => .next (G.set j (some (.clm [d] 0)))
    | .exc c pl => .exc c pl G
    | .stuck => .stuck)
  | .ok _ => .stuck
  | .exc c pl => .exc c pl G
  | .stuck => .stuck
section
variable {X : Cx} {ct : Nat → Addr} {W : WX} {e e1 e2 t : Expr} {es rest : List Expr} {me mb : Gm → EO} {mt : Gm → BO} {mx my : Gm → KO} {ma ta tb : Gm → KB} {ms : Gm → AO} {pos p p1 apos pos2 : Pos} {s1 s2 : List Stmt} {m1 m2 : Gm → SO} {x m : Str} {i j k : Nat} {fm : Mf} {fi : List PyData → FO}
theorem postK_same {K : PySem.W.Frag} {F0 H0 F F2 : Hp} {σ : L2.St} {Q : VK} {o : KO} (h : postK K ct W F0 H0 σ F Q o) (s : Same F F2) : postK K ct W F0 H0 σ F2 Q o := by
  cases o with
  | ok d G => exact fun v F3 H3 s3 r => h v F3 H3 (s.trans s3) r
  | exc c pl G => exact fun cls dd F3 H3 s3 r => h cls dd F3 H3 (s.trans s3) r
  | stuck => exact h
theorem postKB_same {K : PySem.W.Frag} {F0 H0 F F2 : Hp} {σ : L2.St} {Q : Bool → Hp → Prop} {o : KB} (h : postKB K ct W F0 H0 σ F Q o) (s : Same F F2) : postKB K ct W F0 H0 σ F2 Q o := by
  cases o with
  | ok d G => exact fun F3 H3 s3 r => h F3 H3 (s.trans s3) r
  | exc c pl G => exact fun cls dd F3 H3 s3 r => h cls dd F3 H3 (s.trans s3) r
  | stuck => exact h
theorem ofE_post {K : PySem.W.Frag} {F0 H0 F H : Hp} {G : Gm} {σ : L2.St} {Q : VK} {o : EO} (r : Rep K F0 H0 F H G σ) (p : postK K ct W F0 H0 σ F Q (.ofE G o)) : post K ct W σ F H Q o := by
  cases o with
  | ok d w =>
    cases w with
    | frz => exact fun v F1 H1 x z => p v F1 H1 x.ff (r.ext x) z
    | new => exact p.elim
    | own i => exact p.elim
  | exc c pl => exact fun cls dd F1 H1 x z => p cls dd F1 H1 x.ff (r.ext x) z
  | stuck => exact p
theorem ofB_post {K : PySem.W.Frag} {F0 H0 F H : Hp} {G : Gm} {σ : L2.St} {Q : Bool → Hp → Prop} {o : BO} (r : Rep K F0 H0 F H G σ) (p : postKB K ct W F0 H0 σ F Q (.ofB G o)) : postB K ct W σ F H Q o := by
  cases o with
  | ok b => exact fun F1 H1 x => p F1 H1 x.ff (r.ext x)
  | exc c pl => exact fun cls dd F1 H1 x z => p cls dd F1 H1 x.ff (r.ext x) z
  | stuck => exact p
theorem ek_of (h : EE X ct W e me) : EK X ct W e (liftK me) := pe_imp h fun σ H Q ⟨F0, H0, F, G, r, p⟩ => ⟨F0, H0, F, G, r, ofE_post r p⟩
theorem ekb_of (h : EB X ct W e mt) : EKB X ct W e (liftKB mt) := pt_imp h fun σ H Q ⟨F0, H0, F, G, r, p⟩ => ⟨F0, H0, F, G, r, ofB_post r p⟩
/-- what follows -/
theorem postK_bind {K : PySem.W.Frag} {F0 H0 F : Hp} {σ : L2.St} {Q : VK} {o : KO} {k : PyData → Gm → KO} (p : postK K ct W F0 H0 σ F Q (o.bind k)) :
    postK K ct W F0 H0 σ F (fun v H2 => ∃ d G2 F2, Rep K F0 H0 F2 H2 G2 σ ∧ Same F F2 ∧ Dq K F2 v d ∧ postK K ct W F0 H0 σ F2 Q (k d G2)) o := by
  cases o with
  | ok d G => exact fun v F2 H2 s r z => ⟨d, G, F2, r, s, z, postK_same p s⟩
  | exc c pl G => exact p
  | stuck => exact p
theorem postK_bindB {K : PySem.W.Frag} {F0 H0 F : Hp} {σ : L2.St} {Q : Bool → Hp → Prop} {o : KO} {k : PyData → Gm → KB} (p : postKB K ct W F0 H0 σ F Q (o.bindB k)) :
    postK K ct W F0 H0 σ F (fun v H2 => ∃ d G2 F2, Rep K F0 H0 F2 H2 G2 σ ∧ Same F F2 ∧ Dq K F2 v d ∧ postKB K ct W F0 H0 σ F2 Q (k d G2)) o := by
  cases o with
  | ok d G => exact fun v F2 H2 s r z => ⟨d, G, F2, r, s, z, postKB_same p s⟩
  | exc c pl G => exact p
  | stuck => exact p
theorem postKB_bind {K : PySem.W.Frag} {F0 H0 F : Hp} {σ : L2.St} {Q : Bool → Hp → Prop} {o : KB} {k : Bool → Gm → KB} (p : postKB K ct W F0 H0 σ F Q (o.bind k)) :
    postKB K ct W F0 H0 σ F (fun b H2 => ∃ G2 F2, Rep K F0 H0 F2 H2 G2 σ ∧ Same F F2 ∧ postKB K ct W F0 H0 σ F2 Q (k b G2)) o := by
  cases o with
  | ok d G => exact fun F2 H2 s r => ⟨G, F2, r, s, postKB_same p s⟩
  | exc c pl G => exact p
  | stuck => exact p
theorem postK_mono {K : PySem.W.Frag} {F0 H0 F : Hp} {σ : L2.St} {Q Q2 : VK} {o : KO} (h : postK K ct W F0 H0 σ F Q o) (q : ∀ v H1, Q v H1 → Q2 v H1) : postK K ct W F0 H0 σ F Q2 o := by
  cases o with
  | ok d G => exact fun v F2 H2 s r z => q _ _ (h v F2 H2 s r z)
  | exc c pl G => exact h
  | stuck => exact h
theorem postKB_mono {K : PySem.W.Frag} {F0 H0 F : Hp} {σ : L2.St} {Q Q2 : Bool → Hp → Prop} {o : KB} (h : postKB K ct W F0 H0 σ F Q o) (q : ∀ v H1, Q v H1 → Q2 v H1) : postKB K ct W F0 H0 σ F Q2 o := by
  cases o with
  | ok d G => exact fun F2 H2 s r => q _ _ (h F2 H2 s r)
  | exc c pl G => exact h
  | stuck => exact h
theorem opK_of {K : PySem.W.Frag} {r : R2} {g : PyData → PyData → EO} (hg : G2 K r g) {σ : L2.St} {H : Hp} {Q : VK} (h : tMK K ct W (opK g mx mb) σ H Q) : tOp r (tMK K ct W mx) (tM K ct W mb) σ H Q := by
  obtain ⟨F0, H0, F, G, rp, p⟩ := h
  refine ⟨F0, H0, F, G, rp, postK_mono (postK_bind p) fun v H1 ⟨d, G2, F2, r2, s2, dv, p2⟩ => ?_⟩
  refine ⟨F0, H0, F2, G2, r2, post_mono (post_viewAt (k := fun e => g d e) (ofE_post r2 p2)) fun u H3 ⟨F3, e, x3, vu, p3⟩ => ?_⟩
  exact hg ct W σ F3 H3 v u d e Q x3.fh ((VV.of_frz r2.fh dv).mono x3) vu p3
theorem boolK_of {K : PySem.W.Frag} {σ : L2.St} {H : Hp} {Q : Bool → Hp → Prop} (h : tMKB K ct W (boolK mx) σ H Q) : tMK K ct W mx σ H (fun x H1 => ∃ k, x = .bl k ∧ Q k H1) := by
  obtain ⟨F0, H0, F, G, rp, p⟩ := h
  refine ⟨F0, H0, F, G, rp, postK_mono (postK_bindB p) fun v H1 ⟨d, G2, F2, r2, s2, dv, p2⟩ => ?_⟩
  split at p2
  · rename_i b
    cases dv
    exact ⟨b, rfl, p2 F2 H1 (Same.refl _) r2⟩
  · exact p2.elim
theorem ekb_cmp {op : CmpOp} {g : PyData → PyData → EO} (hc : Cm X op g) (ha : EK X ct W e1 mx) (hb : EE X ct W e2 mb) (hm : behindInMarks op e2 = false := by first | exact nomark _ | rfl | with_unfolding_all rfl) : EKB X ct W (.Compare e1 [op] [e2] pos) (boolK (opK g mx mb)) := by
  obtain ⟨r, h1, h2⟩ := hc.ex
  exact pt_imp (pt_cmpR h1 ha hb hm) fun _ _ _ h => opK_of h2 (boolK_of h)
theorem ekw_and1 (ha : EKB X ct W e ta) : EKW X ct W (.BoolOp .And [e] pos) ta := pw_and1 ha
theorem ekw_or1 (ha : EKB X ct W e ta) : EKW X ct W (.BoolOp .Or [e] pos) ta := pw_or1 ha
theorem ekw_and (ha : EKB X ct W e ta) (hb : EKW X ct W (.BoolOp .And (e2 :: rest) pos) tb) : EKW X ct W (.BoolOp .And (e :: e2 :: rest) pos) (andKB ta tb) :=
  pw_imp (pw_and ha hb) fun σ H Q ⟨F0, H0, F, G, rp, p⟩ => ⟨F0, H0, F, G, rp, postKB_mono (postKB_bind p) fun k H1 ⟨G2, F2, r2, s2, p2⟩ => by
    cases k with
    | true => exact iteT ⟨F0, H0, F2, G2, r2, p2⟩
    | false => exact iteF (p2 F2 H1 (Same.refl _) r2)⟩
theorem ekw_or (ha : EKB X ct W e ta) (hb : EKW X ct W (.BoolOp .Or (e2 :: rest) pos) tb) : EKW X ct W (.BoolOp .Or (e :: e2 :: rest) pos) (orKB ta tb) :=
  pw_imp (pw_or ha hb) fun σ H Q ⟨F0, H0, F, G, rp, p⟩ => ⟨F0, H0, F, G, rp, postKB_mono (postKB_bind p) fun k H1 ⟨G2, F2, r2, s2, p2⟩ => by
    cases k with
    | true => exact iteT (p2 F2 H1 (Same.refl _) r2)
    | false => exact iteF ⟨F0, H0, F2, G2, r2, p2⟩⟩
theorem ekb_w {m : Gm → KB} (h : EKW X ct W e m) : EKB X ct W e m := h.pt
theorem ek_if (ht : EB X ct W t mt) (ha : EK X ct W e1 mx) (hb : EK X ct W e2 my) : EK X ct W (.IfExp t e1 e2 pos) (ifKE mt mx my) :=
  pe_imp (pe_ifExp ht ha hb) fun σ H Q ⟨F0, H0, F, G, rp, p⟩ => by
    refine ⟨F0, H0, F, G, rp, ?_⟩
    unfold ifKE at p
    revert p
    cases mt G with
    | ok k =>
      intro p F1 H1 x1
      cases k with
      | true => exact iteT ⟨F0, H0, F1, G, rp.ext x1, postK_same p x1.ff⟩
      | false => exact iteF ⟨F0, H0, F1, G, rp.ext x1, postK_same p x1.ff⟩
    | exc c pl => exact fun p cls dd F1 H1 x1 z => p cls dd F1 H1 x1.ff (rp.ext x1) z
    | stuck => exact fun p => p
/-! statements -/
theorem postK_S {K : PySem.W.Frag} {F0 H0 F : Hp} {σ : L2.St} {D : Ends} {o : KO} {k : PyData → Gm → SO} (p : postS K ct W F0 H0 D F (o.bindS k)) :
    postK K ct W F0 H0 σ F (fun v H2 => ∃ d G2 F2, Rep K F0 H0 F2 H2 G2 σ ∧ Same F F2 ∧ Dq K F2 v d ∧ postS K ct W F0 H0 D F2 (k d G2)) o := by
  cases o with
  | ok d G => exact fun v F2 H2 s r z => ⟨d, G, F2, r, s, z, postS_same (o := k d G) p s⟩
  | exc c pl G => exact fun cls dd F2 H2 s r z => p cls dd σ F2 H2 s r z
  | stuck => exact p
theorem postKB_S {K : PySem.W.Frag} {F0 H0 F : Hp} {σ : L2.St} {D : Ends} {o : KB} {k : Bool → Gm → SO} (p : postS K ct W F0 H0 D F (o.bindS k)) :
    postKB K ct W F0 H0 σ F (fun b H2 => ∃ G2 F2, Rep K F0 H0 F2 H2 G2 σ ∧ Same F F2 ∧ postS K ct W F0 H0 D F2 (k b G2)) o := by
  cases o with
  | ok d G => exact fun F2 H2 s r => ⟨G, F2, r, s, postS_same (o := k d G) p s⟩
  | exc c pl G => exact fun cls dd F2 H2 s r z => p cls dd σ F2 H2 s r z
  | stuck => exact p
theorem es_ifK (ht : EKB X ct W t ma) (h1 : ESs X ct W s1 m1) (h2 : ESs X ct W s2 m2) : ES X ct W (.If t s1 s2 pos) (ifK ma m1 m2) :=
  ps_imp (ps_if ht h1 h2) fun D σ H ⟨F0, H0, F, G, r, p⟩ => ⟨F0, H0, F, G, r, postKB_mono (postKB_S p) fun k H1 ⟨G2, F2, r2, s2, p2⟩ => by
    cases k with
    | true => exact iteT ⟨F0, H0, F2, G2, r2, p2⟩
    | false => exact iteF ⟨F0, H0, F2, G2, r2, p2⟩⟩
theorem es_dropK (he : EK X ct W e mx) (hs : swapsWith e none pos.line X.env = pure false := by rfl) : ES X ct W (.Expr e pos) (dropK mx) :=
  ps_imp (ps_expr he hs) fun D σ H ⟨F0, H0, F, G, r, p⟩ => ⟨F0, H0, F, G, r, postK_mono (postK_S p) fun v H1 ⟨d, G2, F2, r2, s2, dv, p2⟩ => p2 σ F2 H1 (Same.refl _) r2⟩
theorem es_retK2 (he : EK X ct W e mx) : ES X ct W (.Return (some e) pos) (retK2 mx) :=
  ps_imp (ps_ret he) fun D σ H ⟨F0, H0, F, G, r, p⟩ => ⟨F0, H0, F, G, r, postK_mono (postK_S p) fun v H1 ⟨d, G2, F2, r2, s2, dv, p2⟩ => p2 v F2 H1 r2.extOf dv⟩
theorem em_retK {q : Addr} (he : EK X ct W e mx) : EM X ct W q (.Return (some e) pos) (retMK mx) :=
  ps_imp (ps_ret he) fun D σ H ⟨c, F0, H0, F, G, r, p⟩ => by
    refine ⟨F0, H0, F, G, r, ?_⟩
    unfold retMK at p
    revert p
    cases mx G with
    | ok d G2 => exact fun p v F2 H2 s r2 z => p v σ F2 H2 s r2 c z
    | exc c2 pl G2 => exact fun p cls dd F2 H2 s r2 z => p cls dd σ F2 H2 s r2 c z
    | stuck => exact fun p => p
/-! calls -/
theorem coM_of {K : PySem.W.Frag} {σ : L2.St} {H : Hp} {Q : VK} (h : tMK K ct W (coM fm i ms) σ H Q) :
    ∃ (n : Int) (q C dx l : Addr), σ[i]? = some (some (.ref q)) ∧ IsC K C ∧ H q = some (.ins C dx (clF l n)) ∧ tMA K ct W ms σ H fun vs H1 => spC K ct fm (.ref q :: vs) H1 Q (WE W σ) := by
  obtain ⟨F0, H0, F, G, r, p⟩ := h
  unfold coM at p
  split at p
  · rename_i os n e
    obtain ⟨v, hv, q, C, dx, l, ls, rfl, ic, hq, h0, hf, hl, ha⟩ := r.slot i _ e
    refine ⟨n, q, C, dx, l, hv, ic, r.fh _ _ hq, F0, H0, F, G, r, ?_⟩
    revert p
    cases ms G with
    | stuck => exact fun p => p
    | exc c pl => exact fun p cls dd F1 H1 x1 z => p cls dd F1 H1 x1.ff (r.ext x1) z
    | ok ds =>
      intro p ws F1 H1 x1 ra
      refine ⟨q, C, dx, l, n, ls, ws, F1, os, ds, rfl, ic, x1.fh, x1.ff _ _ hq, x1.ap l _ hl hf trivial, x1.hh _ _ hl, dpAll_mono x1.ff _ _ ha, ra, ?_⟩
      dsimp only at p
      revert p
      cases fm os n ds with
      | stuck => exact fun p => p
      | ok d os2 => exact fun p v F2 H2 ls2 x2 f2 l2 a2 rv => p v F2 H2 (x1.ff.trans x2.ff) ((r.ext x1).clm e hv (x1.ff _ _ hq) x2 f2 l2 a2) rv
      | exc c pl os2 => exact fun p cls dd F2 H2 ls2 x2 f2 l2 a2 z => p cls dd F2 H2 (x1.ff.trans x2.ff) ((r.ext x1).clm e hv (x1.ff _ _ hq) x2 f2 l2 a2) z
  · exact p.elim
theorem ek_meth (M : MtC X.prog X.w X.K X.mg X.base ct m j fm) (hr : Room k X.A) (tk : Takes X W) (ha : EA X ct W (e :: es) ms) {pl : Sem Bool} (hjk : j ≤ k := by decide) (hno : ∀ (l : Addr) (n : Int), (clF l n).lookup m = none := by exact fun _ _ => rfl)
    (hj : X.N[i]? = some x := by rfl) (hv : Vis X.env.scope x := by first | exact Or.inl rfl | exact Or.inr (Or.inl rfl)) (hd : (x == ("__debug__" : Str)) = false := by decide) (hcd : (x == ("__classdict__" : Str)) = false := by decide)
    (hst : starEach (e :: es) X.env = (false, eval e X.env) :: starEach es X.env := by rfl) (hpl : (backTo pos (starEach es X.env)).any (·.1) = false := by rfl)
    (ht : eval (.Call (.Attribute (.Name x p) m apos) (e :: es) [] pos) X.env = (do
      let ov ← eval (.Name x p) X.env
      standAt apos.atName
      let (f, first) ← holding [ov] (getMethod ov m pl)
      callWith pos f first (backTo pos (starEach (e :: es) X.env)) (backToKw pos (keywordEach [] X.env))) := by rfl) :
    EK X ct W (.Call (.Attribute (.Name x p) m apos) (e :: es) [] pos) (coM fm i ms) := by
  obtain ⟨C2, f2, fd2, ps2, ic2, cl, mt, hb2, Fn2⟩ := M.ex
  refine pe_imp (pe_methSD (E := WE W) (pl := pl) (pe_var hj hv hd hcd) cl mt Fn2 (hr.mono hjk) hb2 (fun σ => passAt tk σ) ha hst hpl ht) fun σ H Q h => ?_
  obtain ⟨n, q, C, dx, l, hv, ic, hq, h2⟩ := coM_of h
  obtain rfl := ic.uniq ic2
  exact ⟨.ref q, hv, q, dx, clF l n, rfl, hq, hno l n, h2⟩
theorem ek_meth0 (M : MtC X.prog X.w X.K X.mg X.base ct m j fm) (hr : Room k X.A) (tk : Takes X W) {pl : Sem Bool} (hjk : j ≤ k := by decide) (hno : ∀ (l : Addr) (n : Int), (clF l n).lookup m = none := by exact fun _ _ => rfl)
    (hj : X.N[i]? = some x := by rfl) (hv : Vis X.env.scope x := by first | exact Or.inl rfl | exact Or.inr (Or.inl rfl)) (hd : (x == ("__debug__" : Str)) = false := by decide) (hcd : (x == ("__classdict__" : Str)) = false := by decide)
    (ht : eval (.Call (.Attribute (.Name x p) m apos) [] [] pos) X.env = (do
      let ov ← eval (.Name x p) X.env
      standAt apos.atName
      let (f, first) ← holding [ov] (getMethod ov m pl)
      callWith pos f first (backTo pos (starEach [] X.env)) (backToKw pos (keywordEach [] X.env))) := by rfl) :
    EK X ct W (.Call (.Attribute (.Name x p) m apos) [] [] pos) (coM fm i nilA) := by
  obtain ⟨C2, f2, fd2, ps2, ic2, cl, mt, hb2, Fn2⟩ := M.ex
  refine pe_imp (pe_methSD0 (E := WE W) (pl := pl) (pe_var hj hv hd hcd) cl mt Fn2 (hr.mono hjk) hb2 (fun σ => passAt tk σ) ht) fun σ H Q h => ?_
  obtain ⟨n, q, C, dx, l, hv, ic, hq, F5, H5, F6, G6, r6, q6⟩ := coM_of h
  obtain rfl := ic.uniq ic2
  exact ⟨.ref q, hv, q, dx, clF l n, rfl, hq, hno l n, q6 [] F6 H (Ext.refl r6.fh) .nil⟩
/-- a def whose first argument is a climber -/
structure FnC (P : Program) (w : World) (K : PySem.W.Frag) (mg : Str → Option Value) (base : Heap) (ct : Nat → Addr) (x : Str) (k : Nat) (fm : Mf) : Prop where
  ex : ∃ (f : Addr) (fd : FuncData) (ps : List Str), mg x = some (.ref f) ∧ PySem.W.keepIn K (.ref f) = true ∧ Binds K fd ps [] ∧ FnOk P w K mg base (L2.CX P w) k f fd ps (spC K ct fm)
theorem ek_fn {y : Str} (C : FnC X.prog X.w X.K X.mg X.base ct y j fm) (hr : Room k X.A) (tk : Takes X W) (ha : EA X ct W es ms) (hjk : j ≤ k := by decide)
    (hj : X.N[i]? = some x := by rfl) (hv : Vis X.env.scope x := by first | exact Or.inl rfl | exact Or.inr (Or.inl rfl)) (hd : (x == ("__debug__" : Str)) = false := by decide) (hcd : (x == ("__classdict__" : Str)) = false := by decide)
    (hg : Gl X y := by rfl) (hdb : (y == ("__debug__" : Str)) = false := by decide) (he : starEach (.Name x p1 :: es) X.env = (false, eval (.Name x p1) X.env) :: starEach es X.env := by rfl) (hpl : (backTo pos (starEach es X.env)).any (·.1) = false := by rfl) :
    EK X ct W (.Call (.Name y p) (.Name x p1 :: es) [] pos) (coM fm i ms) := by
  obtain ⟨f, fd, ps, hm, hk, hb, F⟩ := C.ex
  refine pe_imp (pe_callS F (hr.mono hjk) hg hm hk hb (fun σ => passAt tk σ) (pa_cons (pe_var hj hv hd hcd) ha he) hdb he hpl) fun σ H Q h => ?_
  obtain ⟨n, q, C, dx, l, hv, ic, hq, h2⟩ := coM_of h
  exact ⟨.ref q, hv, h2⟩
/-- x = C(e) -/
theorem es_mk (T : ClimT X.K) (N : MkN X.prog X.w X.K X.mg X.base ct j fi) (hr : Room k X.A) (tk : Takes X W) (ha : EA X ct W [e] ms) (hN : X.N.Nodup) (hjk : j + 1 ≤ k := by decide) (hi : X.N[i]? = some x := by rfl) (hx : Loc X.env.scope x := by first | exact Or.inl rfl | exact Or.inr rfl)
    (hs : swapsWith (.Call (.Name "Climber" p) [e] [] p1) (some (.Name x pos2)) pos.line X.env = pure false := by rfl) (hf : X.fn x = true ∨ X.env.scope.names.lookup x = some .local := by first | exact .inl rfl | exact .inr rfl)
    (hg : Gl X "Climber" := by rfl) (he : starEach [e] X.env = (false, eval e X.env) :: starEach [] X.env := by rfl) (hpl : (backTo p1 (starEach [] X.env)).any (·.1) = false := by rfl) :
    ES X ct W (.Assign [.Name x pos2] (.Call (.Name "Climber" p) [e] [] p1) pos) (mkS i fi ms) := by
  obtain ⟨Cl, f, fd, ps, hm, ic, mk, hb, Fn⟩ := N.ex
  refine ps_imp (ps_set hN hi hx (pe_makeS (E := WE W) mk Fn (hr.mono hjk) hg hm hb (fun σ => passAt tk σ) ha (by decide) he hpl) hs hf) fun D σ H ⟨F0, H0, F, G, r, pp⟩ => ?_
  refine ⟨F0, H0, F, G, r, ?_⟩
  unfold mkS at pp
  revert pp
  cases ms G with
  | stuck => exact fun p => p
  | exc c pl => exact fun p cls dd F1 H1 x1 z => p cls dd σ F1 H1 x1.ff (r.ext x1) z
  | ok ds0 =>
    match ds0 with
    | [] => exact fun p => p.elim
    | d1 :: d2 :: ds0 => exact fun p => p.elim
    | [d] =>
      intro p vs F1 H1 x1 rd o dx ho hdx ne
      cases rd with
      | cons rv rn =>
        rename_i v vs'
        cases rn
        have y := ext_ins (C := Cl) x1.fh ho hdx ne
        refine ⟨o, Cl, dx, v, F1, d, rfl, ic, y.fh, upd_same, x1.fh.free ho, rv, ?_⟩
        dsimp only at p
        revert p
        cases fi [d] with
        | stuck => exact fun p => p.elim
        | exc c pl => exact fun p cls dd F2 H2 x2 z => p cls dd σ F2 H2 (x1.ff.trans x2.ff) ((r.ext x1).ext (ext_made x1.fh ho hdx ne x2)) z
        | ok u =>
          intro p F2 H2 l ls x2 hi hl hf hl2 ha
          refine ⟨rfl, ?_⟩
          have x12 := ext_made x1.fh ho hdx ne x2
          have r1 := r.ext x1
          have r2 := r1.ext x12
          have hl1 : H1 l = none := by
            by_cases e1 : l = o
            · rw [e1]; exact ho
            · rw [upd_ne e1] at hl
              by_cases e2 : l = dx
              · rw [e2]; exact hdx
              · rwa [upd_ne e2] at hl
          refine p (σ.set i (some (.ref o))) F2 H2 (x1.ff.trans x2.ff) (r2.put i (v := .ref o) (s := .clm [d] 0) ⟨o, Cl, dx, l, ls, rfl, ic, hi, r1.hh.free hl1, hf, hl2, ha⟩ fun j2 t u2 a ne2 g hu m1 m2 => ?_)
          obtain ⟨p2, C2, dx2, k2, e1, h2⟩ := m2
          cases e1
          rw [hi] at h2
          cases h2
          obtain ⟨_, _, o2, ho2, _⟩ := r1.at_mut g hu (mut_back (r1.at g hu) x12.ff m1)
          rw [hl1] at ho2
          cases ho2
end
end VL

set_option Elab.async false
set_option linter.all false
set_option maxRecDepth 100000
set_option maxHeartbeats 4000000
/-! Vb: len(x), str(x) by the class's own defs; try in a def whose first argument is a climber. -/
namespace VL
open PySem PySem.Spec PyProof.Rows L2
section
variable {X : Cx} {k : Nat} {f C : Addr} {fd : FuncData} {ps : List Str} {sp : Sp}
/-- an own def is run from somewhere below the body -/
theorem run_at {pins : List (Addr × Obj)} {σ : L2.St} {H : Hp} {s : Shared} {Q : VK} {A : Around} {q : Addr} {Q2 : Value → Shared → Prop} (F : FnOk X.prog X.w X.K X.mg X.base (L2.CX X.prog X.w) k f fd ps sp) (hr : Room k A) (hfr : A.frames = X.A.frames) (hb : Binds X.K fd ps []) (hx : Passes (L2.CX X.prog X.w) X (fun _ _ _ => False))
    (I : Inv X pins σ H s) (h : sp [.ref q] H Q (fun _ _ _ => False)) (hq : ∀ v u s' H2, Inv X pins σ H2 s' → RelV v u → Q v H2 → Q2 u s') : wpAny (model X.prog X.w) A (call (.ref f) [.ref q]) Q2 X.xe s := by
  have e0 : Env0 X.prog X.w X.K X.mg X.base A X.stack s H := by
    have e := I.env0
    exact ⟨by rw [hfr]; exact e.frames, e.mod, e.bs, e.bsz, e.funs, e.frf, e.hok, e.bare⟩
  have hl := F.len _ _ _ _ h
  have r2 : Vals [V.ref q] [Value.ref q] := .cons rfl .nil
  have b2 := hb s [.ref q] I.kIn (by simpa using hl)
  rw [List.append_nil] at b2
  refine wpAny_call (codeAny_mono (F.run A X.stack s H ⟨[.ref q], []⟩ [.ref q] [.ref q] Q (fun _ _ _ => False) hr e0 b2 r2 h) fun r s' z => ?_)
  cases r with
  | error e => exact hx pins σ H s e s' I z
  | ok fl =>
    cases fl with
    | ret u =>
      obtain ⟨v, H2, I2, rv, qv⟩ := I.after z
      exact hq v u s' H2 I2 rv qv
    | next => exact False.elim z
    | brk => exact False.elim z
    | cont => exact False.elim z
theorem call_lenO (ic : IsC X.K C) (mt : Meth X.K C "__len__" f) (F : FnOk X.prog X.w X.K X.mg X.base (L2.CX X.prog X.w) k f fd ps sp) (hr : Room (k + 1) X.A) (hb : Binds X.K fd ps []) (hx : Passes (L2.CX X.prog X.w) X (fun _ _ _ => False)) :
    CallR X (.builtin "len") (fun xs H Q => ∃ (q C2 dx : Addr) (fs : List (Str × V)), xs = [.ref q] ∧ IsC X.K C2 ∧ H q = some (.ins C2 dx fs) ∧ sp [.ref q] H (fun v H2 => ∃ n : Nat, v = .int n ∧ n ≤ big ∧ Q v H2) (fun _ _ _ => False)) := by
  intro pins s σ H xs us Q I r h
  obtain ⟨q, C2, dx, fs, rfl, ic2, ea, hsp⟩ := h
  obtain rfl := ic.uniq ic2
  obtain ⟨u, rfl, ru⟩ := vals1 r
  obtain rfl : u = Value.ref q := ru
  obtain ⟨mA, O, _⟩ := ins_get I.hok ea
  obtain ⟨od, J, _⟩ := O.look
  refine Calls.call_function_entry kind_len plain_len entry_len (args_len1 _) ?_
  unfold Builtin.«len»
  refine wpAny_bind (m := oneArg "len" _) (wpAny_pure ?_)
  refine wpAny_bind (m := callSpecial? (.ref q) (PySem.Str.ofString "__len__")) (PySem.W.special_fn I.kIn J mt.at_ (beq_iff_eq.mp mt.fn) (run_at F hr.in1 rfl hb hx I hsp fun v u s' H2 I2 rv ⟨n, ev, hn, q2⟩ => ?_))
  subst ev
  obtain ⟨t, rfl⟩ := (show ∃ t, u = Value.int (n : Int) t from rv)
  have hn' : n ≤ 1000000 := hn
  refine wpAny_bind (wpAny_holding (wpAny_pure ?_))
  refine wpAny_bind (wpAny_letGo ?_)
  show wpAny _ _ (if ((n : Nat) : Int) < 0 then _ else _) _ _ _
  rw [if_neg (by omega)]
  show wpAny _ _ (if ((n : Nat) : Int) ≥ 2 ^ 63 then _ else _) _ _ _
  rw [if_neg (by omega)]
  exact wpAny_bind (wpAny_mkInt (wpAny_pure ⟨_, rfl, .int n, H2, I2.tok _, ⟨_, rfl⟩, q2⟩))
theorem call_strO (ic : IsC X.K C) (mt : Meth X.K C "__str__" f) (F : FnOk X.prog X.w X.K X.mg X.base (L2.CX X.prog X.w) k f fd ps sp) (hr : Room (k + 2) X.A) (hb : Binds X.K fd ps []) (hx : Passes (L2.CX X.prog X.w) X (fun _ _ _ => False)) :
    CallR X (.type "str") (fun xs H Q => ∃ (q C2 dx : Addr) (fs : List (Str × V)), xs = [.ref q] ∧ IsC X.K C2 ∧ H q = some (.ins C2 dx fs) ∧ sp [.ref q] H (fun v H2 => ∃ y : Str, v = .str y ∧ Q v H2) (fun _ _ _ => False)) := by
  intro pins s σ H xs us Q I r h
  obtain ⟨q, C2, dx, fs, rfl, ic2, ea, hsp⟩ := h
  obtain rfl := ic.uniq ic2
  obtain ⟨u, rfl, ru⟩ := vals1 r
  obtain rfl : u = Value.ref q := ru
  obtain ⟨mA, O, _⟩ := ins_get I.hok ea
  obtain ⟨od, J, _⟩ := O.look
  refine PySem.W.kso_call hr.in1.in1.units0 I.kIn J mt.at_ mt.fn (run_at F hr.in1.in1 rfl hb hx I hsp fun v u s' H2 I2 rv ⟨y, ev, q2⟩ => ?_)
  subst ev
  obtain ⟨t, rfl⟩ := (show ∃ t, u = Value.str y t from rv)
  exact ⟨.str y, H2, I2, ⟨_, rfl⟩, q2⟩
end
def lenK (f : Mf) (i : Nat) : Gm → KO := fun G => match G[i]? with
  | some (some (.clm os n)) => (match f os n [] with
    | .ok (.int z) os2 => if 0 ≤ z ∧ z ≤ big then .ok (.int z) (G.set i (some (.clm os2 n))) else .stuck
    | _ => .stuck)
  | _ => .stuck
def strK (f : Mf) (i : Nat) : Gm → KO := fun G => match G[i]? with
  | some (some (.clm os n)) => (match f os n [] with
    | .ok (.str z) os2 => .ok (.str z) (G.set i (some (.clm os2 n)))
    | _ => .stuck)
  | _ => .stuck
section
variable {X : Cx} {ct : Nat → Addr} {W : WX} {pos p p1 : Pos} {x : Str} {i j k : Nat} {fm : Mf}
theorem ek_len (M : MtC X.prog X.w X.K X.mg X.base ct "__len__" j fm) (hr : Room k X.A) (tk : Takes X W) (hm : X.mg "len" = none) (hjk : j + 1 ≤ k := by decide)
    (hj : X.N[i]? = some x := by rfl) (hv : Vis X.env.scope x := by first | exact Or.inl rfl | exact Or.inr (Or.inl rfl)) (hd : (x == ("__debug__" : Str)) = false := by decide) (hcd : (x == ("__classdict__" : Str)) = false := by decide) (hg : Gl X "len" := by rfl)
    (hs : starEach [.Name x p1] X.env = (false, eval (.Name x p1) X.env) :: starEach [] X.env := by rfl) (hpl : (backTo pos (starEach [] X.env)).any (·.1) = false := by rfl) :
    EK X ct W (.Call (.Name "len" p) [.Name x p1] [] pos) (lenK fm i) := by
  obtain ⟨C, f, fd, ps, ic, cl, mt, hb, F⟩ := M.ex
  refine pe_imp (pe_callB (call_lenO ic mt F (hr.mono hjk) hb (passes_call tk fun _ _ _ _ h => h.elim)) hg hm PySem.boot_len (pa_cons (pe_var hj hv hd hcd) pa_nil hs) (by decide) (by decide) hs hpl) fun σ H Q ⟨F0, H0, F1, G, r, pp⟩ => ?_
  unfold lenK at pp
  split at pp
  · rename_i os n e
    obtain ⟨v, hv, q, C2, dx, l, ls, rfl, ic2, hq, h0, hf, hl, ha⟩ := r.slot i _ e
    refine ⟨.ref q, hv, q, C2, dx, _, rfl, ic2, r.fh _ _ hq, q, C2, dx, l, n, ls, [], F1, os, [], rfl, ic2, r.fh, hq, hf, hl, ha, .nil, ?_⟩
    revert pp
    cases fm os n [] with
    | stuck => exact fun p => p.elim
    | exc c pl os2 => exact fun p => p.elim
    | ok d os2 =>
      cases d with
      | int z =>
        intro p v F2 H2 ls2 x2 f2 l2 a2 rv
        dsimp only at p
        split at p
        · rename_i hz
          have ev : v = .int z := by cases rv; rfl
          subst ev
          obtain ⟨m, rfl⟩ : ∃ m : Nat, z = (m : Int) := ⟨z.toNat, by omega⟩
          exact ⟨m, rfl, by have := hz.2; omega, p _ F2 H2 x2.ff (r.clm e hv hq x2 f2 l2 a2) (.int _)⟩
        · exact p.elim
      | none => exact fun p => p.elim
      | bool b => exact fun p => p.elim
      | str y => exact fun p => p.elim
      | list ds => exact fun p => p.elim
      | tuple ds => exact fun p => p.elim
      | dict ds => exact fun p => p.elim
  · exact pp.elim
theorem ek_str (M : MtC X.prog X.w X.K X.mg X.base ct "__str__" j fm) (hr : Room k X.A) (tk : Takes X W) (hm : X.mg "str" = none) (hjk : j + 2 ≤ k := by decide)
    (hj : X.N[i]? = some x := by rfl) (hv : Vis X.env.scope x := by first | exact Or.inl rfl | exact Or.inr (Or.inl rfl)) (hd : (x == ("__debug__" : Str)) = false := by decide) (hcd : (x == ("__classdict__" : Str)) = false := by decide) (hg : Gl X "str" := by rfl)
    (hs : starEach [.Name x p1] X.env = (false, eval (.Name x p1) X.env) :: starEach [] X.env := by rfl) (hpl : (backTo pos (starEach [] X.env)).any (·.1) = false := by rfl) :
    EK X ct W (.Call (.Name "str" p) [.Name x p1] [] pos) (strK fm i) := by
  obtain ⟨C, f, fd, ps, ic, cl, mt, hb, F⟩ := M.ex
  refine pe_imp (pe_callTy (call_strO ic mt F (hr.mono hjk) hb (passes_call tk fun _ _ _ _ h => h.elim)) hg hm PyProof.Rows.boot_str (pa_cons (pe_var hj hv hd hcd) pa_nil hs) (by decide) (by decide) hs hpl) fun σ H Q ⟨F0, H0, F1, G, r, pp⟩ => ?_
  unfold strK at pp
  split at pp
  · rename_i os n e
    obtain ⟨v, hv, q, C2, dx, l, ls, rfl, ic2, hq, h0, hf, hl, ha⟩ := r.slot i _ e
    refine ⟨.ref q, hv, q, C2, dx, _, rfl, ic2, r.fh _ _ hq, q, C2, dx, l, n, ls, [], F1, os, [], rfl, ic2, r.fh, hq, hf, hl, ha, .nil, ?_⟩
    revert pp
    cases fm os n [] with
    | stuck => exact fun p => p.elim
    | exc c pl os2 => exact fun p => p.elim
    | ok d os2 =>
      cases d with
      | str z =>
        intro p v F2 H2 ls2 x2 f2 l2 a2 rv
        have ev : v = .str z := by cases rv; rfl
        subst ev
        exact ⟨z, rfl, p _ F2 H2 x2.ff (r.clm e hv hq x2 f2 l2 a2) (.str _)⟩
      | none => exact fun p => p.elim
      | bool b => exact fun p => p.elim
      | int y => exact fun p => p.elim
      | list ds => exact fun p => p.elim
      | tuple ds => exact fun p => p.elim
      | dict ds => exact fun p => p.elim
  · exact pp.elim
end
/-! ### try, in a def whose first argument is a climber -/
def tryMK (i : Nat) (tbl : List (Nat × Str)) (o : MO) : MO := match o with
  | .exc c none G => if i < G.length then (match tbl.lookup c with
    | some s => .ret (.str s) G
    | none => .stuck) else .stuck
  | .exc _ (some _) _ => .stuck
  | o => o
def tryMS (i : Nat) (tbl : List (Nat × Str)) (mb : Gm → MO) : Gm → MO := fun G => tryMK i tbl (mb G)
section
variable {X : Cx} {ct : Nat → Addr} {W : WX} {q : Addr} {n : Str} {i : Nat} {body : List Stmt} {hd : ExceptHandler} {hds : List ExceptHandler} {l : List Cl} {pos : Pos} {mb : Gm → MO} {tbl : List (Nat × Str)}
theorem em_try (hst : X.stack = X.env :: X.outer) (hfl : X.env.frame = some X.env.locals) (nd : X.N.Nodup) (at_i : X.N[i]? = some n) (loc : X.env.kindOf n = some .local)
    (hb : ∀ (W : WX) (pn : List (Addr × Obj)) (xe : Value → Shared → Prop), L2.Takes (X.tr pn xe) W → PassesOwn (model X.prog X.w) X.A X.env xe → EMs (X.tr pn xe) ct W q body mb)
    (hc : Clauses X n (hd :: hds) l) (ht : Ev (fun c s => ∀ (D : Ends) (τ : L2.St) (J : Hp), i < τ.length → D.rt (.str s) J → wClauses X.K i noW D l (.ref (ct c)) none τ J) tbl) : EM X ct W q (.Try body (hd :: hds) [] [] pos) (tryMS i tbl mb) :=
  ps_imp (ps_try_clauses hst hfl nd at_i loc (Wo := noW) (tb := fun W => sMM X.K ct W q mb) takes_none5 hb hc) fun D σ H ⟨c0, F0, H0, F, G, r, p⟩ => by
    refine ⟨c0, F0, H0, F, G, r, ?_⟩
    unfold tryMS at p
    revert p
    cases e : mb G with
    | next G2 => exact fun p => p
    | ret d G2 => exact fun p => p
    | stuck => exact fun p => p
    | exc c pl G2 =>
      cases pl with
      | some d => exact fun p => p.elim
      | none =>
        intro p
        unfold tryMK at p
        by_cases hl : i < G2.length
        · simp only [if_pos hl] at p
          cases et : tbl.lookup c with
          | none => rw [et] at p; exact p.elim
          | some s =>
            rw [et] at p
            intro cls dd σ2 F2 H2 sm r2 c2 x
            obtain ⟨e1, e2⟩ := x
            subst e1
            subst e2
            exact ht.at et D σ2 H2 (by rw [← r2.len]; exact hl) (p (.str s) σ2 F2 H2 sm r2 c2 (.str s))
        · simp only [if_neg hl] at p
          exact p.elim
end
/-! ### str of a text -/
def gStrS : PyData → EO
  | .str x => .ok (.str x) .frz
  | _ => .stuck
theorem g_strS {K : PySem.W.Frag} : GC1 K (fun xs H Q => ∃ a, xs = [.str a] ∧ Q (.str a) H) gStrS := by
  intro ct W σ F H v d Q fh vv p
  unfold gStrS at p
  split at p
  · rw [vv.str]
    exact ⟨_, rfl, ok_frz fh (.str _) p⟩
  · exact p.elim
theorem ee_strS {X : Cx} {ct : Nat → Addr} {W : WX} {a : Expr} {ma : Gm → EO} {p pos : Pos} (hm : X.mg "str" = none) (ha : EE X ct W a ma) (hg : Gl X "str" := by rfl) (hs : starEach [a] X.env = (false, eval a X.env) :: starEach [] X.env := by rfl) : EE X ct W (.Call (.Name "str" p) [a] [] pos) (op1 gStrS ma) := ee_t1 SkE.call_str_str g_strS hm (by decide +kernel) ha hg (hs := hs)
end VL

set_option Elab.async false
set_option linter.all false
set_option maxRecDepth 100000
set_option maxHeartbeats 4000000
/-! Vc: climbers compared (own __eq__, object.__ne__), duplicated, two made at once; and of what changes climbers. -/
namespace VL
open PySem PySem.Spec PyProof.Rows L2
section
open PySem.W
variable {prog : Program} {w : World} {A : Around} {E : Value → Shared → Prop} {s : Shared} {K : PySem.W.Frag} {x C L f : Addr} {h₀ : Heap} {m : Str → Option Value} {ox : Obj} {od : Option Obj} {name : Str} {b tb : Value}
theorem ifBoundB_K {M : Model} {id : String} {args : List Value} {Q : Option Value → Shared → Prop} (X : K.In s.heap) (I : InstAt s.heap x ox C od) (hs : findIn K (.ref C) name = some (some (.builtin id))) (hb : ∀ self, bindSpecial (.builtin id) self = pure (.builtin id, [self]))
    (h : wpAny M A (call (.builtin id) (.ref x :: args)) (fun v => Q (some v)) E s) : wpAny M A (callSpecialIfBound? (.ref x) name args) Q E s := by
  simp only [callSpecialIfBound?, bindSpecialIfBound?]
  refine wpAny_holding (wpAny_bind (wpAny_bind (wpAny_bind (I.type.here ((looks_findIn X hs).here ?_)))))
  refine wpAny_bind (wpAny_askSetting (wpAny_ite ?_))
  have fin : wpAny M A (call (.builtin id) ([.ref x] ++ args) >>= fun v => pure (some v)) Q E s := wpAny_bind (wpAny_mono h (fun v s' h' => wpAny_pure h') fun _ _ h' => h')
  split
  · exact wpAny_bind ((Looks.of_pure (hb _)).here (wpAny_pure (by exact fin)))
  · exact wpAny_tryCatch (wpAny_bind ((Looks.of_pure (hb _)).here (wpAny_pure (by exact fin))))
open Builtin in
theorem call_objNe {Q : Value → Shared → Prop} (hu : A.in1.units < cLine) (X : K.In s.heap) (I : InstAt s.heap x ox C od) (hm : mroIn K C (.type "object") = some true) (hs : findIn K (.ref C) "__eq__" = some (some (.ref f))) (hf : isFn K (.ref f) = true)
    (h : wpAny (model prog w) A.in1 (call (.ref f) [.ref x, b]) (fun v s' => ∃ r, v = .bool r ∧ Q (.bool (!r)) s') E s) : wpAny (model prog w) A (call (.builtin "object.__ne__") [.ref x, b]) Q E s := by
  refine wpAny_call (codeAny_call_builtin PySem.F.slot_object_ne.plain PySem.F.cmpEntry_ne (check_slot (i := "object.__ne__") (owner := "object") (n := "__ne__") PySem.F.cmpKind_ne PySem.F.cmpSplit_ne (I.type.andThen (looks_mroIn X hm)) (PySem.F.cmpArgs_ne _ _) ?_))
  unfold Builtin.«object.__ne__»
  refine wpAny_bind (m := slotArgs "__ne__" 1 _) (wpAny_pure ?_)
  refine wpAny_bind (m := cRoomFor _ _) (wpAny_cRoomFor hu ?_)
  refine wpAny_bind (m := callSpecialIfBound? (.ref x) (Str.ofString "__eq__") _) (ifBound_K X I hs hf (wpAny_mono h (fun r s' hq => ?_) fun _ _ y => y))
  obtain ⟨r, rfl, hq⟩ := hq
  exact wpAny_bind (wpAny_truthy_bool (wpAny_pure hq))
theorem cmpNe_K {Q : Value → Shared → Prop} (hu : A.in1.units < cLine) (hu0 : A.units < cLine) (F : Fr h₀ L s.heap m) (X₀ : K.In h₀) (I : InstAt s.heap x ox C od) (hb : Looks (model prog w) s.heap (typeOf b) tb) (hn : notFirst K C tb = true)
    (hne : findIn K (.ref C) "__ne__" = some (some (.builtin "object.__ne__"))) (hm : mroIn K C (.type "object") = some true) (hs : findIn K (.ref C) "__eq__" = some (some (.ref f))) (hf : isFn K (.ref f) = true)
    (h : wpAny (model prog w) A.in1 (call (.ref f) [.ref x, b]) (fun v s' => ∃ r, v = .bool r ∧ Q (.bool (!r)) s') E s) : wpAny (model prog w) A (richCompare .NotEq (.ref x) b) Q E s := by
  have X := X₀.keeps F.keep
  have one : wpAny (model prog w) A (tryCompare (.ref x) (cmpInfo .NotEq).2.1 b) (fun r s' => ∃ v, r = some v ∧ Q v s') E s := by
    unfold tryCompare
    refine wpAny_bind (ifBoundB_K X I hne PySem.F.slot_object_ne.bind (call_objNe hu X I hm hs hf (wpAny_mono h (fun v s' hv => ?_) fun _ _ e => e)))
    obtain ⟨r, rfl, q⟩ := hv
    exact ⟨r, rfl, wpAny_pure ⟨_, rfl, q⟩⟩
  unfold richCompare
  simp only [oneThing_ref]
  refine wpAny_holding (wpAny_bind (wpAny_cRoomFor hu0 ?_))
  refine wpAny_bind (I.type.here (wpAny_bind (hb.here ?_)))
  split
  · rename_i q
    have e : subIn K tb (.ref C) = some false := by
      rcases Bool.or_eq_true_iff.mp hn with e | e
      · rw [beq_iff_eq.mp e] at q; simp at q
      · exact beq_iff_eq.mp e
    refine wpAny_bind ((looks_subIn X e).here ?_)
    simp only [Bool.false_eq_true, if_false]
    refine wpAny_bind (wpAny_mono one (fun r s' z => ?_) fun _ _ e => e)
    obtain ⟨v, rfl, hq⟩ := z
    exact wpAny_pure hq
  · refine wpAny_bind (wpAny_pure ?_)
    simp only [Bool.false_eq_true, if_false]
    refine wpAny_bind (wpAny_mono one (fun r s' z => ?_) fun _ _ e => e)
    obtain ⟨v, rfl, hq⟩ := z
    exact wpAny_pure hq
end
/-- what == and isinstance ask of the class of climbers -/
structure EqT (K : PySem.W.Frag) (C : Addr) : Prop where
  ha : PySem.W.findIn K (.ref C) "__class__" = some (some (.builtin "object.__class__"))
  hn : PySem.W.specialIn K (.builtin "object.__class__") "__get__" = some (some (.builtin "getset_descriptor.__get__"))
  htk : PySem.W.takesIn K (.builtin "object.__class__") = some true
  hm : PySem.W.mroIn K C (.type "object") = some true
  ne : PySem.W.findIn K (.ref C) "__ne__" = some (some (.builtin "object.__ne__"))
  ns : PySem.W.subIn K (.type "str") (.ref C) = some false
  nt : PySem.W.subIn K (.type "tuple") (.ref C) = some false
  hd : PySem.W.hasDictIn K C = true
  ht : PySem.W.typeIn K (.ref C) = some (.type "type")
theorem kit_to {K : PySem.W.Frag} {T : String} {C : Addr} {b : Bool} (hb : PySem.W.subIn K (.type T) (.ref C) = some b) (hd : PySem.W.hasDictIn K C = true) (ht : PySem.W.typeIn K (.ref C) = some (.type "type")) : PySem.W.kitOne K (.type T) (.ref C) = some b := by
  unfold PySem.W.kitOne
  rw [if_neg (by intro z; cases beq_iff_eq.mp z)]
  obtain ⟨cd, hc, _⟩ := PySem.W.any_some hd
  show (if ((PySem.W.clsIn K C).isSome && PySem.W.typeIn K (.ref C) == some (.type "type")) = true then PySem.W.subIn K (.type T) (.ref C) else none) = some b
  rw [hc, ht]
  rw [if_pos (by simp)]
  exact hb
theorem kit_me {K : PySem.W.Frag} {C : Addr} : PySem.W.kitOne K (.ref C) (.ref C) = some true := by
  unfold PySem.W.kitOne
  rw [if_pos (beq_self_eq_true _)]
theorem not_me {K : PySem.W.Frag} {C : Addr} : PySem.W.notFirst K C (.ref C) = true := by simp [PySem.W.notFirst]
theorem not_ty {K : PySem.W.Frag} {C : Addr} {t : Value} (h : PySem.W.subIn K t (.ref C) = some false) : PySem.W.notFirst K C t = true := by simp [PySem.W.notFirst, h]
/-- what the own == keeps: the last orders compared; False for a text or a tuple -/
def spE (K : PySem.W.Frag) : Sp := fun vs H Q _ => ∃ (q C dx l : Addr) (n : Int) (ls : List V) (v : V), vs = [.ref q, v] ∧ IsC K C ∧ H q = some (.ins C dx (clF l n)) ∧ H l = some (.lst ls) ∧
  ((∃ (q2 dx2 l2 : Addr) (n2 : Int) (ls2 : List V) (F : Hp) (u u2 : V) (d d2 : PyData) (b : Bool), v = .ref q2 ∧ H q2 = some (.ins C dx2 (clF l2 n2)) ∧ H l2 = some (.lst ls2) ∧ Same F H ∧ atI ls (-1) = some u ∧ atI ls2 (-1) = some u2 ∧ Dq K F u d ∧ Dq K F u2 d2 ∧
      gEq d d2 = .ok (.bool b) .frz ∧ ∀ F2 H2, VL.Ext F H F2 H2 → Q (.bl b) H2) ∨
   (∃ t, TyX K H v t ∧ PySem.W.kitOne K t (.ref C) = some false ∧ Q (.bl false) H))
section
variable {X : Cx} {i : Nat} {x : Str} {p p1 p2 p3 p4 p5 p6 p7 p8 p9 pos : Pos} {j : Nat}
theorem pe_neg1 : PE X (.UnaryOp .USub (.Constant (.int 1) j p2) pos) (tC (.int (-1))) := pe_imp (pe_un un_neg pe_int) fun σ H Q h => ⟨1, rfl, h⟩
def tLast (K : PySem.W.Frag) (i : Nat) : TE := tOp (rIx K) (tFld K (tVar i) "steps") (tC (.int (-1)))
theorem pe_last (i : Nat) (hj : X.N[i]? = some x := by rfl) (hv : Vis X.env.scope x := by first | exact Or.inl rfl | exact Or.inr (Or.inl rfl)) (hd : (x == ("__debug__" : Str)) = false := by decide) (hcd : (x == ("__classdict__" : Str)) = false := by decide)
    (hba : attributeBase (.Name x p1) "steps" X.env (eval (.Name x p1) X.env) = eval (.Name x p1) X.env := by rfl) :
    PE X (.Subscript (.Attribute (.Name x p1) "steps" p2) (.UnaryOp .USub (.Constant (.int 1) j p3) p4) pos) (tLast X.K i) :=
  pe_ix ix_seq (pe_fld (pe_var hj hv hd hcd) hba) pe_neg1 (by exact fun _ _ => rfl)
theorem last_of {K : PySem.W.Frag} {σ : L2.St} {H : Hp} {Q : VK} {q C dx l : Addr} {n : Int} {ls : List V} {u : V} (T : ClimT K) (ic : IsC K C) (hv : σ[i]? = some (some (.ref q))) (hq : H q = some (.ins C dx (clF l n))) (hl : H l = some (.lst ls)) (hu : atI ls (-1) = some u) (h : Q u H) : tLast K i σ H Q := by
  obtain ⟨c1, c2, c3⟩ := T C ic
  exact ⟨.ref q, hv, q, C, dx, _, .ref l, rfl, hq, c1, c2, rfl, .inl ⟨l, ls, _, u, rfl, rfl, SqL.of hl, hu, h⟩⟩
def tEq (K : PySem.W.Frag) (C : Addr) : TS := tSeq (tIfS (tNot (fun σ H Q => (tCB (rIsi K) (tCons (tVar 1) (tCons (tC (.ref C)) tNil))) σ H fun x H' => ∃ k, TruV K x H' k ∧ Q k H')) (tRet (tC (.bl false))) tNext) (tRet (tOp (rEqD K) (tLast K 0) (tLast K 1)))
theorem pss_eq {C : Addr} {k : Nat} {n0 n1 : Str} {q1 q2 q3 q4 q5 q6 q7 q8 : Pos} {j2 j3 : Nat} (hr : Room k X.A) (hmi : X.mg "isinstance" = none) (hmC : X.mg "Climber" = some (.ref C))
    (h0 : X.N[0]? = some n0 := by rfl) (h1 : X.N[1]? = some n1 := by rfl) (v0 : Vis X.env.scope n0 := by first | exact Or.inl rfl | exact Or.inr (Or.inl rfl)) (v1 : Vis X.env.scope n1 := by first | exact Or.inl rfl | exact Or.inr (Or.inl rfl))
    (d0 : (n0 == ("__debug__" : Str)) = false := by decide) (d1 : (n1 == ("__debug__" : Str)) = false := by decide) (c0 : (n0 == ("__classdict__" : Str)) = false := by decide) (c1 : (n1 == ("__classdict__" : Str)) = false := by decide)
    (hg : Gl X "isinstance" := by rfl) (hgC : Gl X "Climber" := by rfl)
    (hs : starEach [.Name n1 p2, .Name "Climber" p3] X.env = (false, eval (.Name n1 p2) X.env) :: starEach [.Name "Climber" p3] X.env := by rfl) (hs2 : starEach [.Name "Climber" p3] X.env = (false, eval (.Name "Climber" p3) X.env) :: starEach [] X.env := by rfl) (hpl : (backTo p4 (starEach [.Name "Climber" p3] X.env)).any (·.1) = false := by rfl)
    (hit : ∀ whole, isTrue (.Call (.Name "isinstance" p1) [.Name n1 p2, .Name "Climber" p3] [] p4) X.env whole = (do let v ← whole; standAt (Expr.Call (.Name "isinstance" p1) [.Name n1 p2, .Name "Climber" p3] [] p4).pos; holding [v] (truthy v)) := by intro _; rfl)
    (hba : attributeBase (.Name n0 q1) "steps" X.env (eval (.Name n0 q1) X.env) = eval (.Name n0 q1) X.env := by rfl) (hbb : attributeBase (.Name n1 q5) "steps" X.env (eval (.Name n1 q5) X.env) = eval (.Name n1 q5) X.env := by rfl) :
    PSs X [.If (.UnaryOp .Not (.Call (.Name "isinstance" p1) [.Name n1 p2, .Name "Climber" p3] [] p4) p5) [.Return (some (.Constant (.bool false) j p6)) p7] [] p8,
      .Return (some (.Compare (.Subscript (.Attribute (.Name n0 q1) "steps" q2) (.UnaryOp .USub (.Constant (.int 1) j2 q3) q4) p) [.Eq] [.Subscript (.Attribute (.Name n1 q5) "steps" q6) (.UnaryOp .USub (.Constant (.int 1) j3 q7) q8) p9] pos)) pos2] (tEq X.K C) :=
  pss_cons (ps_if (pt_not (pt_truth (pe_callB call_isi hg hmi PyProof.Rows.boot_isinstance (pa_cons (pe_var h1 v1 d1 c1) (pa_cons (pe_glob hgC hmC rfl) pa_nil hs2) hs) (he := hs) (hpl := hpl)) hit)) (pss_one (ps_ret pe_bl)) pss_nil)
    (pss_one (ps_ret (pe_cmpR (op_eqD hr.units) (pe_last 0 h0 v0 d0 c0 hba) (pe_last 1 h1 v1 d1 c1 hbb) (nomark _))))
end
section
variable {P : Program} {w : World} {K : PySem.W.Frag} {mg : Str → Option Value} {base : Heap}
theorem fn_okE {y qual : Str} {st : Stmt} {f : Addr} {fd : FuncData} {k : Nat} {n0 n1 : Str} {C : Addr} (T : ClimT K) (ic : IsC K C) (t : EqT K C)
    (F : Fun K y qual st f fd) (S : FnScope [n0, n1] [n0, n1] (defScope st))
    (hb : ∀ (cdv : Value) (A : Around) (outer : List Env) (s : Shared) (H : Hp) (E : XK), Room k (cxOf (L2.CX P w) P w K mg base [n0, n1] qual (defScope st) f cdv A outer s H E).A →
      PSs (cxOf (L2.CX P w) P w K mg base [n0, n1] qual (defScope st) f cdv A outer s H E) (defBody st) (tEq K C)) :
    FnOk P w K mg base (L2.CX P w) (k + 1) f fd [n0, n1] (spE K) := by
  refine F.okX S (fun vs H Q E h => ?_) (fun cdv A outer s H vs Q E hr h => ⟨_, hb cdv A outer s H E hr, ?_⟩)
  · obtain ⟨q, C, dx, l, n, ls, v, rfl, _⟩ := h
    rfl
  · obtain ⟨q, C2, dx, l, n, ls, v, rfl, ic2, hq, hl, h⟩ := h
    obtain rfl := ic.uniq ic2
    obtain ⟨c1, c2, c3⟩ := T C ic
    rcases h with ⟨q2, dx2, l2, n2, ls2, F1, u, u2, d, d2, b, rfl, hq2, hl2, fh, hu, hu2, ru, ru2, hg, p⟩ | ⟨ty, tx, ko, p⟩
    · refine ⟨.ref q2, rfl, .ref q2, .ref C, .ref C, .ref C, true, rfl, .own C, .base (.ins hq2 c1 t.ha t.hn t.htk t.hm), kit_me, true, rfl, iteF ?_⟩
      refine last_of T ic rfl hq hl hu (last_of T ic rfl hq2 hl2 hu2 ?_)
      refine g_eq (fun _ => 0) (fun _ _ _ _ => True) [] F1 H u u2 d d2 Q fh (VV.of_frz fh ru) (VV.of_frz fh ru2) ?_
      rw [hg]
      intro v F2 H2 x2 r2
      cases r2
      exact p F2 H2 x2
    · exact ⟨v, rfl, v, .ref C, ty, .ref C, false, rfl, .own C, tx, ko, false, rfl, iteT p⟩
end
structure MtE (P : Program) (w : World) (K : PySem.W.Frag) (mg : Str → Option Value) (base : Heap) (k : Nat) : Prop where
  ex : ∃ (C f : Addr) (fd : FuncData) (ps : List Str), IsC K C ∧ Cls K C ∧ EqT K C ∧ Meth K C "__eq__" f ∧ Binds K fd ps [] ∧ FnOk P w K mg base (L2.CX P w) k f fd ps (spE K)
def rCmpO (K : PySem.W.Frag) (neg : Bool) : R2 := fun x y H Q => ∃ (q C dx : Addr) (fs : List (Str × V)) (t : Value), x = .ref q ∧ IsC K C ∧ H q = some (.ins C dx fs) ∧ TyX K H y t ∧ PySem.W.notFirst K C t = true ∧ spE K [.ref q, y] H (fun v H2 => ∃ b, v = .bl b ∧ Q (.bl (cond neg (!b) b)) H2) (fun _ _ _ => False)
section
variable {X : Cx} {k : Nat} {f C : Addr} {fd : FuncData} {ps : List Str} {sp : Sp}
theorem run_atV {pins : List (Addr × Obj)} {σ : L2.St} {H : Hp} {s : Shared} {Q : VK} {A : Around} {vs : List V} {us : List Value} {Q2 : Value → Shared → Prop} (F : FnOk X.prog X.w X.K X.mg X.base (L2.CX X.prog X.w) k f fd ps sp) (hr : Room k A) (hfr : A.frames = X.A.frames) (hb : Binds X.K fd ps []) (hx : Passes (L2.CX X.prog X.w) X (fun _ _ _ => False))
    (I : Inv X pins σ H s) (r2 : Vals vs us) (h : sp vs H Q (fun _ _ _ => False)) (hq : ∀ v u s' H2, Inv X pins σ H2 s' → RelV v u → Q v H2 → Q2 u s') : wpAny (model X.prog X.w) A (call (.ref f) us) Q2 X.xe s := by
  have e0 : Env0 X.prog X.w X.K X.mg X.base A X.stack s H := by
    have e := I.env0
    exact ⟨by rw [hfr]; exact e.frames, e.mod, e.bs, e.bsz, e.funs, e.frf, e.hok, e.bare⟩
  have hl := F.len _ _ _ _ h
  have b2 := hb s us I.kIn (by rw [List.append_nil, ← r2.length]; exact hl)
  rw [List.append_nil] at b2
  refine wpAny_call (codeAny_mono (F.run A X.stack s H ⟨us, []⟩ us vs Q (fun _ _ _ => False) hr e0 b2 r2 h) fun r s' z => ?_)
  cases r with
  | error e => exact hx pins σ H s e s' I z
  | ok fl =>
    cases fl with
    | ret u =>
      obtain ⟨v, H2, I2, rv, qv⟩ := I.after z
      exact hq v u s' H2 I2 rv qv
    | next => exact False.elim z
    | brk => exact False.elim z
    | cont => exact False.elim z
theorem op_eqO {k2 : Nat} (M : MtE X.prog X.w X.K X.mg X.base k) (hr : Room k2 X.A) (hk : k + 1 ≤ k2) (hx : Passes (L2.CX X.prog X.w) X (fun _ _ _ => False)) : OpR X (compareOp .Eq) (rCmpO X.K false) := by
  intro pins s σ H x y v u Q I rx ry h
  obtain ⟨q, C2, dx, fs, t, rfl, ic2, ea, ty, hn, hsp⟩ := h
  obtain ⟨C, f, fd, ps, ic, cl, et, mt, hb, F⟩ := M.ex
  obtain rfl := ic.uniq ic2
  obtain rfl : v = Value.ref q := rx
  obtain ⟨mA, O, _⟩ := ins_get I.hok ea
  obtain ⟨od, J, _⟩ := O.look
  obtain ⟨m, hF⟩ := I.fr
  obtain ⟨Pz, Z, pz, _⟩ := kit_of I ry ty
  show wpAny (model X.prog X.w) X.A (richCompare .Eq (.ref q) u) (EP X pins σ Q) X.xe s
  refine PySem.W.cmp_K (op := .Eq) (tb := t) hr.units0 hF I.ok.mod.kin J (Z.ty _ _ I.kIn pz) hn mt.at_ mt.fn (run_atV F (hr.mono (by omega)) rfl hb hx I (vs := [.ref q, y]) (.cons (show RelV (.ref q) (Value.ref q) from rfl) (.cons ry .nil)) hsp fun v u s' H2 I2 rv ⟨b, ev, q2⟩ => ?_)
  subst ev
  obtain rfl : u = Value.bool b := rv
  exact ⟨.bl b, H2, I2, rfl, q2⟩
theorem op_neO {k2 : Nat} (M : MtE X.prog X.w X.K X.mg X.base k) (hr : Room k2 X.A) (hk : k + 1 ≤ k2) (hx : Passes (L2.CX X.prog X.w) X (fun _ _ _ => False)) : OpR X (compareOp .NotEq) (rCmpO X.K true) := by
  intro pins s σ H x y v u Q I rx ry h
  obtain ⟨q, C2, dx, fs, t, rfl, ic2, ea, ty, hn, hsp⟩ := h
  obtain ⟨C, f, fd, ps, ic, cl, et, mt, hb, F⟩ := M.ex
  obtain rfl := ic.uniq ic2
  obtain rfl : v = Value.ref q := rx
  obtain ⟨mA, O, _⟩ := ins_get I.hok ea
  obtain ⟨od, J, _⟩ := O.look
  obtain ⟨m, hF⟩ := I.fr
  obtain ⟨Pz, Z, pz, _⟩ := kit_of I ry ty
  have hr1 : Room (k + 1) X.A := hr.mono hk
  show wpAny (model X.prog X.w) X.A (richCompare .NotEq (.ref q) u) (EP X pins σ Q) X.xe s
  refine cmpNe_K (tb := t) hr1.in1.units0 hr.units0 hF I.ok.mod.kin J (Z.ty _ _ I.kIn pz) hn et.ne et.hm mt.at_ mt.fn (run_atV F hr1.in1 rfl hb hx I (vs := [.ref q, y]) (.cons (show RelV (.ref q) (Value.ref q) from rfl) (.cons ry .nil)) hsp fun v u s' H2 I2 rv ⟨b, ev, q2⟩ => ?_)
  subst ev
  obtain rfl : u = Value.bool b := rv
  exact ⟨b, rfl, .bl (!b), H2, I2, rfl, q2⟩
end
/-! ### two climbers compared -/
def lastO (os : List PyData) (k : PyData → EO) : EO := match atI os (-1) with
  | some d => k d
  | none => .stuck
def boolQ (o : EO) (k : Bool → EO) : EO := match o with
  | .ok (.bool b) .frz => k b
  | _ => .stuck
def cmpC (neg : Bool) (i j : Nat) : Gm → EO := fun G => climG G[i]? fun os _ => climG G[j]? fun os2 _ => lastO os fun d => lastO os2 fun e => boolQ (gEq d e) fun b => .ok (.bool (cond neg (!b) b)) .frz
/-- a climber and a text or a tuple -/
def eqKD (i : Nat) (mx : Gm → KO) : Gm → KO := fun G => match G[i]? with
  | some (some (.clm _ _)) => (mx G).bind fun d G2 => (match G2[i]? with
    | some (some (.clm _ _)) => (match d with
      | .str _ => .ok (.bool false) G2
      | .tuple _ => .ok (.bool false) G2
      | _ => .stuck)
    | _ => .stuck)
  | _ => .stuck
def andKE (a b : Gm → KO) : Gm → KO := fun G => (a G).bind fun d G2 => match d with
  | .bool true => b G2
  | .bool false => .ok (.bool false) G2
  | _ => .stuck
section
variable {X : Cx} {ct : Nat → Addr} {W : WX} {e e1 e2 : Expr} {rest : List Expr} {mb : Gm → EO} {mx my : Gm → KO} {pos p p1 p2 : Pos} {x y : Str} {i j k k2 : Nat}
theorem cmpC_of {K : PySem.W.Frag} {neg : Bool} {σ : L2.St} {H : Hp} {Q : VK} {C : Addr} (ic : IsC K C) (cl : Cls K C) (et : EqT K C) (h : tM K ct W (cmpC neg i j) σ H Q) : tOp (rCmpO K neg) (tVar i) (tVar j) σ H Q := by
  obtain ⟨F0, H0, F, G, r, p⟩ := h
  obtain ⟨os, n, q, C1, dx, l, vs, e, hv, ic1, _, hq, hf, hl, ha, p⟩ := clim_at r p
  obtain ⟨os2, n2, q2, C2, dx2, l2, vs2, e2, hv2, ic2, _, hq2, hf2, hl2, ha2, p⟩ := clim_at r p
  obtain rfl := ic.uniq ic1
  obtain rfl := ic.uniq ic2
  unfold lastO at p
  split at p
  · rename_i d hd
    split at p
    · rename_i d2 hd2
      obtain ⟨u, hu, ru⟩ := dpAll_at ha hd
      obtain ⟨u2, hu2, ru2⟩ := dpAll_at ha2 hd2
      unfold boolQ at p
      dsimp only at p
      split at p
      · rename_i b hb
        exact ⟨.ref q, hv, .ref q2, hv2, q, C, dx, _, .ref C, rfl, ic, hq, .base (.ins hq2 cl et.ha et.hn et.htk et.hm), not_me, q, C, dx, l, n, vs, .ref q2, rfl, ic, hq, hl, .inl ⟨q2, dx2, l2, n2, vs2, F, u, u2, d, d2, b, rfl, hq2, hl2, r.fh, hu, hu2, ru, ru2, hb, fun F2 H2 x2 => ⟨b, rfl, p (.bl _) F2 H2 x2 (.bl _)⟩⟩⟩
      · exact p.elim
    · exact p.elim
  · exact p.elim
theorem ee_eqC (M : MtE X.prog X.w X.K X.mg X.base k) (hr : Room k2 X.A) (tk : Takes X W) (hjk : k + 1 ≤ k2 := by decide)
    (hi : X.N[i]? = some x := by rfl) (hj : X.N[j]? = some y := by rfl) (vx : Vis X.env.scope x := by first | exact Or.inl rfl | exact Or.inr (Or.inl rfl)) (vy : Vis X.env.scope y := by first | exact Or.inl rfl | exact Or.inr (Or.inl rfl)) (dx : (x == ("__debug__" : Str)) = false := by decide) (dy : (y == ("__debug__" : Str)) = false := by decide)
    (cx : (x == ("__classdict__" : Str)) = false := by decide) (cy : (y == ("__classdict__" : Str)) = false := by decide) : EE X ct W (.Compare (.Name x p1) [.Eq] [.Name y p2] pos) (cmpC false i j) := by
  obtain ⟨C, f, fd, ps, ic, cl, et, mt, hb, F⟩ := M.ex
  exact pe_imp (pe_cmpR (op_eqO M hr hjk (passes_call tk fun _ _ _ _ h => h.elim)) (pe_var hi vx dx cx) (pe_var hj vy dy cy) (nomark _)) fun _ _ _ h => cmpC_of ic cl et h
theorem eb_eqC (M : MtE X.prog X.w X.K X.mg X.base k) (hr : Room k2 X.A) (tk : Takes X W) (hjk : k + 1 ≤ k2 := by decide)
    (hi : X.N[i]? = some x := by rfl) (hj : X.N[j]? = some y := by rfl) (vx : Vis X.env.scope x := by first | exact Or.inl rfl | exact Or.inr (Or.inl rfl)) (vy : Vis X.env.scope y := by first | exact Or.inl rfl | exact Or.inr (Or.inl rfl)) (dx : (x == ("__debug__" : Str)) = false := by decide) (dy : (y == ("__debug__" : Str)) = false := by decide)
    (cx : (x == ("__classdict__" : Str)) = false := by decide) (cy : (y == ("__classdict__" : Str)) = false := by decide) : EB X ct W (.Compare (.Name x p1) [.Eq] [.Name y p2] pos) (boolB (cmpC false i j)) := by
  obtain ⟨C, f, fd, ps, ic, cl, et, mt, hb, F⟩ := M.ex
  exact pt_imp (pt_cmpR (op_eqO M hr hjk (passes_call tk fun _ _ _ _ h => h.elim)) (pe_var hi vx dx cx) (pe_var hj vy dy cy) (nomark _)) fun _ _ _ h => cmpC_of ic cl et (bool_of h)
theorem ee_neC (M : MtE X.prog X.w X.K X.mg X.base k) (hr : Room k2 X.A) (tk : Takes X W) (hjk : k + 1 ≤ k2 := by decide)
    (hi : X.N[i]? = some x := by rfl) (hj : X.N[j]? = some y := by rfl) (vx : Vis X.env.scope x := by first | exact Or.inl rfl | exact Or.inr (Or.inl rfl)) (vy : Vis X.env.scope y := by first | exact Or.inl rfl | exact Or.inr (Or.inl rfl)) (dx : (x == ("__debug__" : Str)) = false := by decide) (dy : (y == ("__debug__" : Str)) = false := by decide)
    (cx : (x == ("__classdict__" : Str)) = false := by decide) (cy : (y == ("__classdict__" : Str)) = false := by decide) : EE X ct W (.Compare (.Name x p1) [.NotEq] [.Name y p2] pos) (cmpC true i j) := by
  obtain ⟨C, f, fd, ps, ic, cl, et, mt, hb, F⟩ := M.ex
  exact pe_imp (pe_cmpR (op_neO M hr hjk (passes_call tk fun _ _ _ _ h => h.elim)) (pe_var hi vx dx cx) (pe_var hj vy dy cy) (nomark _)) fun _ _ _ h => cmpC_of ic cl et h
theorem eb_neC (M : MtE X.prog X.w X.K X.mg X.base k) (hr : Room k2 X.A) (tk : Takes X W) (hjk : k + 1 ≤ k2 := by decide)
    (hi : X.N[i]? = some x := by rfl) (hj : X.N[j]? = some y := by rfl) (vx : Vis X.env.scope x := by first | exact Or.inl rfl | exact Or.inr (Or.inl rfl)) (vy : Vis X.env.scope y := by first | exact Or.inl rfl | exact Or.inr (Or.inl rfl)) (dx : (x == ("__debug__" : Str)) = false := by decide) (dy : (y == ("__debug__" : Str)) = false := by decide)
    (cx : (x == ("__classdict__" : Str)) = false := by decide) (cy : (y == ("__classdict__" : Str)) = false := by decide) : EB X ct W (.Compare (.Name x p1) [.NotEq] [.Name y p2] pos) (boolB (cmpC true i j)) := by
  obtain ⟨C, f, fd, ps, ic, cl, et, mt, hb, F⟩ := M.ex
  exact pt_imp (pt_cmpR (op_neO M hr hjk (passes_call tk fun _ _ _ _ h => h.elim)) (pe_var hi vx dx cx) (pe_var hj vy dy cy) (nomark _)) fun _ _ _ h => cmpC_of ic cl et (bool_of h)
theorem eqKD_of {K : PySem.W.Frag} {σ : L2.St} {H : Hp} {Q : VK} {C : Addr} (ic : IsC K C) (et : EqT K C) (h : tMK K ct W (eqKD i mx) σ H Q) : tOp (rCmpO K false) (tVar i) (tMK K ct W mx) σ H Q := by
  obtain ⟨F0, H0, F, G, r, p⟩ := h
  unfold eqKD at p
  split at p
  · rename_i os n e
    obtain ⟨v, hv, _⟩ := r.slot i _ e
    refine ⟨v, hv, F0, H0, F, G, r, postK_mono (postK_bind p) fun u H1 ⟨d, G2, F2, r2, s2, dv, p2⟩ => ?_⟩
    split at p2
    · rename_i os2 n2 e2
      obtain ⟨q, C1, dx, l, vs, rfl, ic1, hq, h0, hf, hl, ha⟩ := r2.at e2 hv
      obtain rfl := ic.uniq ic1
      have hqH := r2.fh _ _ hq
      have vv := VV.of_frz r2.fh dv
      split at p2
      · rename_i z
        exact ⟨q, C, dx, _, .type "str", rfl, ic, hqH, ty_x (t := .str) r2.fh vv rfl, not_ty et.ns, q, C, dx, l, n2, vs, u, rfl, ic, hqH, hl, .inr ⟨.type "str", ty_x (t := .str) r2.fh vv rfl, kit_to et.ns et.hd et.ht, false, rfl, p2 (.bl false) F2 H1 (Same.refl _) r2 (.bl false)⟩⟩
      · rename_i z
        exact ⟨q, C, dx, _, .type "tuple", rfl, ic, hqH, ty_x (t := .tuple) r2.fh vv rfl, not_ty et.nt, q, C, dx, l, n2, vs, u, rfl, ic, hqH, hl, .inr ⟨.type "tuple", ty_x (t := .tuple) r2.fh vv rfl, kit_to et.nt et.hd et.ht, false, rfl, p2 (.bl false) F2 H1 (Same.refl _) r2 (.bl false)⟩⟩
      · exact p2.elim
    · exact p2.elim
  · exact p.elim
theorem ekb_eqD (M : MtE X.prog X.w X.K X.mg X.base k) (hr : Room k2 X.A) (tk : Takes X W) (he : EK X ct W e mx) (hjk : k + 1 ≤ k2 := by decide)
    (hi : X.N[i]? = some x := by rfl) (vx : Vis X.env.scope x := by first | exact Or.inl rfl | exact Or.inr (Or.inl rfl)) (dx : (x == ("__debug__" : Str)) = false := by decide)
    (cx : (x == ("__classdict__" : Str)) = false := by decide) : EKB X ct W (.Compare (.Name x p1) [.Eq] [e] pos) (boolK (eqKD i mx)) := by
  obtain ⟨C, f, fd, ps, ic, cl, et, mt, hb, F⟩ := M.ex
  exact pt_imp (pt_cmpR (op_eqO M hr hjk (passes_call tk fun _ _ _ _ h => h.elim)) (pe_var hi vx dx cx) he (nomark _)) fun _ _ _ h => eqKD_of ic et (boolK_of h)
theorem ek_cmp {op : CmpOp} {g : PyData → PyData → EO} (hc : Cm X op g) (ha : EK X ct W e1 mx) (hb : EE X ct W e2 mb) (hm : behindInMarks op e2 = false := by first | exact nomark _ | rfl | with_unfolding_all rfl) : EK X ct W (.Compare e1 [op] [e2] pos) (opK g mx mb) := by
  obtain ⟨r, h1, h2⟩ := hc.ex
  exact pe_imp (pe_cmpR h1 ha hb hm) fun _ _ _ h => opK_of h2 h
theorem ek_one {op : BoolOp} (ha : EK X ct W e mx) : EK X ct W (.BoolOp op [e] pos) mx := pe_one ha
theorem ek_and (ha : EK X ct W e1 mx) (hb : EK X ct W (.BoolOp .And (e2 :: rest) pos) my) : EK X ct W (.BoolOp .And (e1 :: e2 :: rest) pos) (andKE mx my) :=
  pe_imp (pe_and ha hb) fun σ H Q ⟨F0, H0, F, G, rp, p⟩ => ⟨F0, H0, F, G, rp, postK_mono (postK_bind p) fun v H1 ⟨d, G2, F2, r2, s2, dv, p2⟩ => by
    split at p2
    · cases dv
      exact ⟨true, rfl, iteT ⟨F0, H0, F2, G2, r2, p2⟩⟩
    · cases dv
      exact ⟨false, rfl, iteF (p2 (.bl false) F2 H1 (Same.refl _) r2 (.bl false))⟩
    · exact p2.elim⟩
end
end VL

set_option Elab.async false
set_option linter.all false
set_option maxRecDepth 100000
set_option maxHeartbeats 4000000
/-! Vd: duplicate(); two climbers made at once. -/
namespace VL
open PySem PySem.Spec PyProof.Rows L2
/-- what duplicate keeps: a new climber with the last order -/
def spD (K : PySem.W.Frag) (fi : List PyData → FO) : Sp := fun vs H Q _ => ∃ (q C dx l : Addr) (n : Int) (ls : List V) (F : Hp) (os : List PyData) (d z : PyData), vs = [.ref q] ∧ IsC K C ∧ Same F H ∧ H q = some (.ins C dx (clF l n)) ∧ H l = some (.lst ls) ∧ DqAll K F ls os ∧ atI os (-1) = some d ∧ fi [d] = .ok z ∧
  ∀ o dx2 l2 ls2 F2 H2, VL.Ext F H F2 H2 → F2 o = some (.ins C dx2 (clF l2 0)) → H l2 = none → F2 l2 = none → H2 l2 = some (.lst ls2) → DqAll K F2 ls2 [d] → Q (.ref o) H2
/-- the list of a new climber is younger than the heap ahead -/
theorem young {H1 : Hp} {o dx C l : Addr} (ho : H1 o = none) (hdx : H1 dx = none) (hl : upd (upd H1 dx (.own o)) o (.ins C dx []) l = none) : H1 l = none := by
  by_cases e1 : l = o
  · rw [e1]; exact ho
  · rw [upd_ne e1] at hl
    by_cases e2 : l = dx
    · rw [e2]; exact hdx
    · rwa [upd_ne e2] at hl
section
variable {X : Cx} {ct : Nat → Addr} {W : WX} {e e1 e2 : Expr} {ta : TE} {p p1 pos : Pos} {j k : Nat} {fi : List PyData → FO}
theorem mk_ret (N : MkN X.prog X.w X.K X.mg X.base ct j fi) (hr : Room k X.A) (tk : Takes X W) (ha : PE X e ta) (hjk : j + 1 ≤ k := by decide) (hg : Gl X "Climber" := by rfl) (he : starEach [e] X.env = (false, eval e X.env) :: starEach [] X.env := by rfl) (hpl : (backTo p1 (starEach [] X.env)).any (·.1) = false := by rfl) :
    ∃ C, IsC X.K C ∧ PSs X [.Return (some (.Call (.Name "Climber" p) [e] [] p1)) pos] (tRet (tMakeS C (spN X.K ct fi) (fun _ _ _ _ => False) (tCons ta tNil))) := by
  obtain ⟨C, f, fd, ps, hm, ic, mk, hb, Fn⟩ := N.ex
  exact ⟨C, ic, pss_one (ps_ret (pe_makeS (E := fun _ _ _ _ => False) mk Fn (hr.mono hjk) hg hm hb (fun σ pins H s e s' I c => passes_call (E := fun _ _ _ => False) tk (fun _ _ _ _ h => h.elim) pins σ H s e s' I c) (pa_cons ha pa_nil he) (by decide) he hpl))⟩
end
section
variable {P : Program} {w : World} {K : PySem.W.Frag} {mg : Str → Option Value} {base : Heap}
theorem fn_okD {y qual : Str} {st : Stmt} {f : Addr} {fd : FuncData} {k : Nat} {n0 : Str} {ct : Nat → Addr} {fi : List PyData → FO} (T : ClimT K)
    (F : Fun K y qual st f fd) (S : FnScope [n0] [n0] (defScope st))
    (hb : ∀ (cdv : Value) (A : Around) (outer : List Env) (s : Shared) (H : Hp) (E : XK), Room k (cxOf (L2.CX P w) P w K mg base [n0] qual (defScope st) f cdv A outer s H E).A →
      Takes (cxOf (L2.CX P w) P w K mg base [n0] qual (defScope st) f cdv A outer s H E) (WD E) →
      ∃ C, IsC K C ∧ PSs (cxOf (L2.CX P w) P w K mg base [n0] qual (defScope st) f cdv A outer s H E) (defBody st) (tRet (tMakeS C (spN K ct fi) (fun _ _ _ _ => False) (tCons (tLast K 0) tNil)))) :
    FnOk P w K mg base (L2.CX P w) (k + 1) f fd [n0] (spD K fi) := by
  refine F.okX S (fun vs H Q E h => ?_) (fun cdv A outer s H vs Q E hr h => ?_)
  · obtain ⟨q, C, dx, l, n, ls, F1, os, d, z, rfl, _⟩ := h
    rfl
  · obtain ⟨q, C2, dx, l, n, ls, F1, os, d, z, rfl, ic2, fh, hq, hl, ha, hd, hz, p⟩ := h
    obtain ⟨C, ic, hp⟩ := hb cdv A outer s H E hr (takes_of rfl rfl rfl rfl)
    obtain rfl := ic.uniq ic2
    refine ⟨_, hp, ?_⟩
    obtain ⟨u, hu, ru⟩ := dpAll_at ha hd
    refine last_of T ic rfl hq hl hu fun o dx2 ho hdx ne => ?_
    have y := ext_ins (C := C) fh ho hdx ne
    refine ⟨o, C, dx2, u, F1, d, rfl, ic, y.fh, upd_same, fh.free ho, ru, ?_⟩
    rw [hz]
    intro F2 H2 l2 ls2 x2 hi hl2 hf hl3 ha2
    exact ⟨rfl, p o dx2 l2 ls2 F2 H2 (ext_made fh ho hdx ne x2) hi (young ho hdx hl2) hf hl3 ha2⟩
end
structure MtD (P : Program) (w : World) (K : PySem.W.Frag) (mg : Str → Option Value) (base : Heap) (k : Nat) (fi : List PyData → FO) : Prop where
  ex : ∃ (C f : Addr) (fd : FuncData) (ps : List Str), IsC K C ∧ Cls K C ∧ Meth K C "duplicate" f ∧ Binds K fd ps [] ∧ FnOk P w K mg base (L2.CX P w) k f fd ps (spD K fi)
def optG (o : Option PyData) (k : PyData → SO) : SO := match o with
  | some d => k d
  | none => .stuck
/-- x = y.duplicate() -/
def dupS (j i : Nat) (fi : List PyData → FO) : Gm → SO := fun G => match G[i]? with
  | some (some (.clm os _)) => optG (atI os (-1)) fun d => (match fi [d] with
    | .ok _ => .next (G.set j (some (.clm [d] 0)))
    | _ => .stuck)
  | _ => .stuck
/-- x, y = C(e), C(e2) -/
def mk2S (i j : Nat) (fi : List PyData → FO) (m1 m2 : Gm → AO) : Gm → SO := fun G => match m1 G with
  | .ok [d] => (match fi [d] with
    | .ok _ => (match m2 G with
      | .ok [d2] => (match fi [d2] with
        | .ok _ => .next ((G.set i (some (.clm [d] 0))).set j (some (.clm [d2] 0)))
        | _ => .stuck)
      | _ => .stuck)
    | _ => .stuck)
  | _ => .stuck
section
variable {X : Cx} {ct : Nat → Addr} {W : WX} {e e1 e2 : Expr} {m1 m2 : Gm → AO} {pos p p1 p2 p3 p4 p5 apos pos2 : Pos} {x y : Str} {i j k k2 kt kt2 : Nat} {fi : List PyData → FO}
theorem es_dup (M : MtD X.prog X.w X.K X.mg X.base k2 fi) (hr : Room k X.A) (tk : Takes X W) (hN : X.N.Nodup) {pl : Sem Bool} (hjk : k2 ≤ k := by decide) (hj : X.N[j]? = some x := by rfl) (hi : X.N[i]? = some y := by rfl)
    (hv : Vis X.env.scope y := by first | exact Or.inl rfl | exact Or.inr (Or.inl rfl)) (hd : (y == ("__debug__" : Str)) = false := by decide) (hcd : (y == ("__classdict__" : Str)) = false := by decide)
    (hx : Loc X.env.scope x := by first | exact Or.inl rfl | exact Or.inr rfl) (hf : X.fn x = true ∨ X.env.scope.names.lookup x = some .local := by first | exact .inl rfl | exact .inr rfl)
    (hs : swapsWith (.Call (.Attribute (.Name y p1) "duplicate" apos) [] [] p2) (some (.Name x pos2)) pos.line X.env = pure false := by rfl)
    (ht : eval (.Call (.Attribute (.Name y p1) "duplicate" apos) [] [] p2) X.env = (do
      let ov ← eval (.Name y p1) X.env
      standAt apos.atName
      let (f, first) ← holding [ov] (getMethod ov "duplicate" pl)
      callWith p2 f first (backTo p2 (starEach [] X.env)) (backToKw p2 (keywordEach [] X.env))) := by rfl) :
    ES X ct W (.Assign [.Name x pos2] (.Call (.Attribute (.Name y p1) "duplicate" apos) [] [] p2) pos) (dupS j i fi) := by
  obtain ⟨C, f, fd, ps, ic, cl, mt, hb, F⟩ := M.ex
  refine ps_imp (ps_set hN hj hx (pe_methSD0 (E := fun _ _ _ _ => False) (pl := pl) (pe_var hi hv hd hcd) cl mt F (hr.mono hjk) hb (fun σ pins H s e s' I c => passes_call (E := fun _ _ _ => False) tk (fun _ _ _ _ h => h.elim) pins σ H s e s' I c) ht) hs hf) fun D σ H ⟨F0, H0, F, G, r, pp⟩ => ?_
  unfold dupS at pp
  split at pp
  · rename_i os n e
    obtain ⟨v, hv, q, C2, dx, l, ls, rfl, ic2, hq, h0, hf, hl, ha⟩ := r.slot i _ e
    obtain rfl := ic.uniq ic2
    unfold optG at pp
    split at pp
    · rename_i d hd
      dsimp only at pp
      split at pp
      · rename_i z hz
        refine ⟨.ref q, hv, q, dx, _, rfl, r.fh _ _ hq, rfl, q, C, dx, l, n, ls, F, os, d, z, rfl, ic, r.fh, r.fh _ _ hq, hl, ha, hd, hz, fun o dx2 l2 ls2 F2 H2 x2 ho hl2 hf2 hl3 ha2 => ?_⟩
        have r2 := r.ext x2
        refine pp (σ.set j (some (.ref o))) F2 H2 x2.ff (r2.put j (v := .ref o) (s := .clm [d] 0) ⟨o, C, dx2, l2, ls2, rfl, ic, ho, r.hh.free hl2, hf2, hl3, ha2⟩ fun j2 t u2 a ne2 g hu mm1 mm2 => ?_)
        obtain ⟨p2, C2, dx2, k2, e1, h2⟩ := mm2
        cases e1
        rw [ho] at h2
        cases h2
        obtain ⟨_, _, o2, ho2, _⟩ := r.at_mut g hu (mut_back (r.at g hu) x2.ff mm1)
        rw [hl2] at ho2
        cases ho2
      · exact pp.elim
    · exact pp.elim
  · exact pp.elim
theorem es_mk2 (hc : X.calm = true) (N : MkN X.prog X.w X.K X.mg X.base ct k2 fi) (hr : Room k X.A) (tk : Takes X W) (h1 : EA X ct W [e1] m1) (h2 : EA X ct W [e2] m2) (hN : X.N.Nodup) (hij : i ≠ j) (hjk : k2 + 1 ≤ k := by decide) (hi : X.N[i]? = some x := by rfl) (hj : X.N[j]? = some y := by rfl)
    (hx : X.env.scope.names.lookup x = some .local := by rfl) (hy : X.env.scope.names.lookup y = some .local := by rfl) (hg : Gl X "Climber" := by rfl)
    (he1 : starEach [e1] X.env = (false, eval e1 X.env) :: starEach [] X.env := by rfl) (hpl1 : (backTo p3 (starEach [] X.env)).any (·.1) = false := by rfl)
    (he2 : starEach [e2] X.env = (false, eval e2 X.env) :: starEach [] X.env := by rfl) (hpl2 : (backTo p5 (starEach [] X.env)).any (·.1) = false := by rfl)
    (hs1 : starEach [.Call (.Name "Climber" p2) [e1] [] p3, .Call (.Name "Climber" p4) [e2] [] p5] X.env = (false, eval (.Call (.Name "Climber" p2) [e1] [] p3) X.env) :: starEach [.Call (.Name "Climber" p4) [e2] [] p5] X.env := by rfl)
    (hs2 : starEach [.Call (.Name "Climber" p4) [e2] [] p5] X.env = (false, eval (.Call (.Name "Climber" p4) [e2] [] p5) X.env) :: starEach [] X.env := by rfl)
    (hw : swappedStores [.Tuple [.Name x p, .Name y p1] kt apos] (.Tuple [.Call (.Name "Climber" p2) [e1] [] p3, .Call (.Name "Climber" p4) [e2] [] p5] kt2 pos2) X.env = pure (some [x, y]) := by rfl)
    (hs : swapsWithSole [.Tuple [.Name x p, .Name y p1] kt apos] (.Tuple [.Call (.Name "Climber" p2) [e1] [] p3, .Call (.Name "Climber" p4) [e2] [] p5] kt2 pos2) pos.line X.env = pure false := by rfl) :
    ES X ct W (.Assign [.Tuple [.Name x p, .Name y p1] kt apos] (.Tuple [.Call (.Name "Climber" p2) [e1] [] p3, .Call (.Name "Climber" p4) [e2] [] p5] kt2 pos2) pos) (mk2S i j fi m1 m2) := by
  obtain ⟨C, f, fd, ps, hm, ic, mk, hb, Fn⟩ := N.ex
  have mkr : ∀ {e : Expr} {m : Gm → AO} {p2 p3 : Pos}, EA X ct W [e] m → starEach [e] X.env = (false, eval e X.env) :: starEach [] X.env → (backTo p3 (starEach [] X.env)).any (·.1) = false → PE X (.Call (.Name "Climber" p2) [e] [] p3) (tMakeS C (spN X.K ct fi) (WE W) (tMA X.K ct W m)) :=
    fun ha he hpl => pe_makeS (E := WE W) mk Fn (hr.mono hjk) hg hm hb (fun σ => passAt tk σ) ha (by decide) he hpl
  refine ps_imp (ps_par hc hN hi hj hij hx hy (pa_cons (mkr h1 he1 hpl1) (pa_cons (mkr h2 he2 hpl2) pa_nil hs2) hs1) hw hs) fun D σ H ⟨F0, H0, F, G, r, pp⟩ => ?_
  refine ⟨F0, H0, F, G, r, ?_⟩
  unfold mk2S at pp
  revert pp
  cases m1 G with
  | stuck => exact fun p => p
  | exc c pl => exact fun p => p.elim
  | ok ds0 =>
    match ds0 with
    | [] => exact fun p => p.elim
    | d1 :: d2 :: ds0 => exact fun p => p.elim
    | [d] =>
      intro p vs F1 H1 x1 rd o dx ho hdx ne
      cases rd with
      | cons rv rn =>
        rename_i v vs'
        cases rn
        have y1 := ext_ins (C := C) x1.fh ho hdx ne
        refine ⟨o, C, dx, v, F1, d, rfl, ic, y1.fh, upd_same, x1.fh.free ho, rv, ?_⟩
        dsimp only at p
        revert p
        cases fi [d] with
        | stuck => exact fun p => p.elim
        | exc c pl => exact fun p => p.elim
        | ok u =>
          intro p F2 H2 l ls x2 hi2 hl hf hl2 ha
          refine ⟨rfl, ?_⟩
          have x12 := ext_made x1.fh ho hdx ne x2
          have r1 := r.ext x1
          have r2 := r1.ext x12
          have hl1 : H1 l = none := young ho hdx hl
          refine ⟨F0, H0, F2, G, r2, ?_⟩
          dsimp only at p
          revert p
          cases m2 G with
          | stuck => exact fun p => p.elim
          | exc c pl => exact fun p => p.elim
          | ok ds1 =>
            match ds1 with
            | [] => exact fun p => p.elim
            | d1 :: d2 :: ds1 => exact fun p => p.elim
            | [d2] =>
              intro p vs2 F3 H3 x3 rd2 o2 dx2 ho2 hdx2 ne2
              cases rd2 with
              | cons rv2 rn2 =>
                rename_i v2 vs2'
                cases rn2
                have y2 := ext_ins (C := C) x3.fh ho2 hdx2 ne2
                refine ⟨o2, C, dx2, v2, F3, d2, rfl, ic, y2.fh, upd_same, x3.fh.free ho2, rv2, ?_⟩
                dsimp only at p
                revert p
                cases fi [d2] with
                | stuck => exact fun p => p.elim
                | exc c pl => exact fun p => p.elim
                | ok u2 =>
                  intro p F4 H4 l4 ls4 x4 hi4 hl4 hf4 hl24 ha4
                  refine ⟨rfl, ?_⟩
                  have x34 := ext_made x3.fh ho2 hdx2 ne2 x4
                  have hl3 : H3 l4 = none := young ho2 hdx2 hl4
                  have r3 := r2.ext x3
                  have r4 := r3.ext x34
                  have x24 := x3.trans x34
                  have hlH4 : H4 l = some (.lst ls) := x24.hh _ _ hl2
                  have hfl : F4 l = none := x24.ap l _ hl2 hf trivial
                  have hio : F4 o = some (.ins C dx (clF l 0)) := x24.ff _ _ hi2
                  have ra := r4.put i (v := .ref o) (s := .clm [d] 0) ⟨o, C, dx, l, ls, rfl, ic, hio, r1.hh.free hl1, hfl, hlH4, dpAll_mono x24.ff _ _ ha⟩ fun j2 t u3 a ne3 g hu mm1 mm2 => by
                    obtain ⟨p2, C2, dx2, k2, e1, h2⟩ := mm2
                    cases e1
                    rw [hio] at h2
                    cases h2
                    obtain ⟨_, _, o3, ho3, _⟩ := r1.at_mut g hu (mut_back (r1.at g hu) (x12.ff.trans x24.ff) mm1)
                    rw [hl1] at ho3
                    cases ho3
                  have rb := ra.put j (v := .ref o2) (s := .clm [d2] 0) ⟨o2, C, dx2, l4, ls4, rfl, ic, hi4, r3.hh.free hl3, hf4, hl24, ha4⟩ fun j2 t u3 a ne3 g hu mm1 mm2 => by
                    obtain ⟨p2, C2, dx3, k2, e1, h2⟩ := mm2
                    cases e1
                    rw [hi4] at h2
                    cases h2
                    rcases get_set g with ⟨rfl, e3, hlen⟩ | ⟨ne4, g⟩
                    · cases e3
                      have := set_eq hu
                      subst this
                      obtain ⟨p5, C5, dx5, k5, e5, h5⟩ := mm1
                      cases e5
                      rw [hio] at h5
                      cases h5
                      have := x3.hh _ _ hl2
                      rw [hl3] at this
                      cases this
                    · obtain ⟨_, _, o3, ho3, _⟩ := r3.at_mut g (set_ne ne4 hu) (mut_back (r3.at g (set_ne ne4 hu)) x34.ff mm1)
                      rw [hl3] at ho3
                      cases ho3
                  exact ⟨.ref o, .ref o2, rfl, p _ F4 H4 (x1.ff.trans (x12.ff.trans x24.ff)) rb⟩
end
end VL

set_option Elab.async false
set_option linter.all false
set_option maxRecDepth 100000
set_option maxHeartbeats 4000000
/-! Ve (kind w): an own dict whose keys are tuples of tuples of ints: {k: v}, k not in x, x[k] = v, x[k], len(x). -/
namespace VL
open PySem PySem.Spec PyProof.Rows L2
/-! ### keys -/
def keyN (c : List (List Int)) : NestedKey := .tup (c.map fun o => .tup (o.map NestedKey.num))
theorem hashes_num (w : World) : ∀ o : List Int, NestedKey.hashes w (o.map NestedKey.num) = o.map hashInt
  | [] => rfl
  | x :: o => by rw [List.map_cons, List.map_cons, NestedKey.hashes, hashes_num w o]; rfl
theorem hashes_row (w : World) : ∀ c : List (List Int), NestedKey.hashes w (c.map fun o => .tup (o.map NestedKey.num)) = c.map fun o => reduceHash (Builtin.Tuple.tupleHashOf (o.map hashInt))
  | [] => rfl
  | x :: c => by
    rw [List.map_cons, List.map_cons, NestedKey.hashes, hashes_row w c, NestedKey.hash, hashes_num]
theorem hash_key (w : World) (c : List (List Int)) : (keyN c).hash w = chHash c := by
  unfold keyN chHash
  rw [NestedKey.hash, hashes_row]
theorem num_inj : ∀ {a b : List Int}, a.map NestedKey.num = b.map NestedKey.num → a = b
  | [], [], _ => rfl
  | [], _ :: _, h => by cases h
  | _ :: _, [], h => by cases h
  | x :: a, y :: b, h => by
    rw [List.map_cons, List.map_cons] at h
    obtain ⟨h1, h2⟩ := List.cons.inj h
    cases h1
    rw [num_inj h2]
theorem row_inj : ∀ {a b : List (List Int)}, (a.map fun o => NestedKey.tup (o.map NestedKey.num)) = (b.map fun o => NestedKey.tup (o.map NestedKey.num)) → a = b
  | [], [], _ => rfl
  | [], _ :: _, h => by cases h
  | _ :: _, [], h => by cases h
  | x :: a, y :: b, h => by
    rw [List.map_cons, List.map_cons] at h
    obtain ⟨h1, h2⟩ := List.cons.inj h
    injection h1 with h1
    rw [row_inj h2, num_inj h1]
theorem keyN_inj {a b : List (List Int)} (h : keyN a = keyN b) : a = b := by
  unfold keyN at h
  injection h with h
  exact row_inj h
theorem depth_nums : ∀ o : List Int, NestedKey.depthAll (o.map NestedKey.num) = 0
  | [] => rfl
  | x :: o => by rw [List.map_cons, NestedKey.depthAll, depth_nums o]; rfl
theorem depth_rows : ∀ c : List (List Int), NestedKey.depthAll (c.map fun o => NestedKey.tup (o.map NestedKey.num)) ≤ 1
  | [] => Nat.zero_le _
  | x :: c => by
    rw [List.map_cons, NestedKey.depthAll, NestedKey.depth, depth_nums]
    have := depth_rows c
    omega
theorem depth_key (c : List (List Int)) : (keyN c).depth ≤ 8 := by
  unfold keyN
  rw [NestedKey.depth]
  have := depth_rows c
  omega
def rowsOf : List PyData → Option (List (List Int))
  | [] => some []
  | d :: ds => match keyOf d, rowsOf ds with
    | some a, some b => some (a :: b)
    | _, _ => none
def keyCh : PyData → Option (List (List Int))
  | .tuple ds => rowsOf ds
  | _ => none
theorem keyOf_eq {d : PyData} {a : List Int} (h : keyOf d = some a) : d = .tuple (a.map PyData.int) := by
  cases d with
  | tuple ds => rw [allInts_eq (show allInts ds = some a from h)]
  | _ => cases h
theorem rowsOf_eq : ∀ {ds : List PyData} {c : List (List Int)}, rowsOf ds = some c → ds = c.map fun o => .tuple (o.map PyData.int)
  | [], c, h => by cases h; rfl
  | d :: ds, c, h => by
    unfold rowsOf at h
    split at h
    · rename_i a b e1 e2
      cases h
      rw [List.map_cons, keyOf_eq e1, rowsOf_eq e2]
    · cases h
theorem keyCh_eq {d : PyData} {c : List (List Int)} (h : keyCh d = some c) : d = chT c := by
  cases d with
  | tuple ds => rw [rowsOf_eq (show rowsOf ds = some c from h)]
  | _ => cases h
/-! ### keys and dicts in the heap -/
section
variable {X : Cx} {pins : List (Addr × Obj)} {σ : L2.St} {H : Hp} {s : Shared}
theorem nums_is {K : PySem.W.Frag} : ∀ {o : List Int} {vs : List V} {its : List Value}, DqAll K H vs (o.map PyData.int) → Vals vs its → NestedAll s.heap (o.map NestedKey.num) its
  | [], _, _, h, r => by
    cases h
    cases r
    exact .nil
  | x :: o, _, _, h, r => by
    cases h with
    | cons h1 h2 =>
      cases r with
      | cons r1 r2 =>
        cases h1
        obtain ⟨t, rfl⟩ := r1
        exact .cons (.int _ _) (nums_is h2 r2)
theorem row_is (I : Inv X pins σ H s) {o : List Int} {v : V} {u : Value} (h : Dq X.K H v (.tuple (o.map PyData.int))) (r : RelV v u) : NestedIs s.heap (.tup (o.map NestedKey.num)) u := by
  cases h with
  | tup hs ha =>
    obtain ⟨its, rv, ⟨ob, h1, h2, n, h3⟩, _⟩ := I.tuple hs.sq
    cases r
    exact .tup h1 h2 h3 (by simpa using nums_is ha rv)
theorem rows_is (I : Inv X pins σ H s) : ∀ {c : List (List Int)} {vs : List V} {its : List Value}, DqAll X.K H vs (c.map fun o => .tuple (o.map PyData.int)) → Vals vs its → NestedAll s.heap (c.map fun o => NestedKey.tup (o.map NestedKey.num)) its
  | [], _, _, h, r => by
    cases h
    cases r
    exact .nil
  | x :: c, _, _, h, r => by
    cases h with
    | cons h1 h2 =>
      cases r with
      | cons r1 r2 => exact .cons (row_is I h1 r1) (rows_is I h2 r2)
theorem key_is (I : Inv X pins σ H s) {c : List (List Int)} {b : Addr} (h : Dq X.K H (.ref b) (chT c)) : (nestedKind X.prog X.w).is s.heap (keyN c) b := by
  refine ⟨?_, depth_key c⟩
  cases h with
  | tup hs ha =>
    obtain ⟨its, rv, ⟨ob, h1, h2, n, h3⟩, _⟩ := I.tuple hs.sq
    exact .tup h1 h2 h3 (by simpa using rows_is I ha rv)
abbrev nk (xs : List (List (List Int) × Addr × Value)) : List (NestedKey × Addr × Value) := xs.map fun x => (keyN x.1, x.2)
theorem nodup_nk : ∀ {xs : List (List (List Int) × Addr × Value)}, (xs.map (·.1)).Nodup → ((nk xs).map (·.1)).Nodup := fun {xs} h => by
  rw [List.map_map]
  rw [List.nodup_iff_pairwise_ne, List.pairwise_map] at h ⊢
  exact h.imp fun ne e => ne (keyN_inj e)
theorem entries_nk {P : Program} {w : World} (xs : List (List (List Int) × Addr × Value)) : (xs.map fun x => (⟨chHash x.1, .ref x.2.1, x.2.2⟩ : DictEntry)) = (nk xs).map (entryOfKey (nestedKind P w)) := by
  rw [List.map_map]
  refine List.map_congr_left fun x _ => ?_
  show _ = (⟨(keyN x.1).hash w, .ref x.2.1, x.2.2⟩ : DictEntry)
  rw [hash_key]
theorem nst_dict (I : Inv X pins σ H s) {F : Hp} (fh : Same F H) {p : Addr} {xs : List (List (List Int) × Addr × Value)} {kvs : List (List (List Int) × PyData)} (hp : H p = some (nstO p xs)) (d : NsD X.K F p xs kvs) : s.heap.DictOfH (nestedKind X.prog X.w) p (nk xs) := by
  obtain ⟨⟨o, es, ep, h1, h2, h3, h4⟩, _, _⟩ := (show ObjOk X.prog X.w H s.heap p (.ext (nstP p xs)) from I.hok p _ hp)
  refine ⟨o, es, ep, h1, h2, h3, by rw [h4]; exact entries_nk xs, fun x hx => ?_, nodup_nk d.nd⟩
  obtain ⟨y, hy, rfl⟩ := List.mem_map.mp hx
  exact key_is I (dp_mono fh _ _ (d.at_ y hy))
theorem nst_ok {P : Program} {w : World} {H : Hp} {h : Heap} {p : Addr} {xs : List (List (List Int) × Addr × Value)} (q : nstP p xs h) : ObjOk P w H h p (nstO p xs) := by
  refine ⟨q, let ⟨o, _, _, h1, _⟩ := q; ⟨o, h1⟩, fun h1 h2 ⟨o, es, ep, k1, k2, k3, k4⟩ st => ⟨o, es, ep, st o k1, k2, k3, k4⟩⟩
theorem nst_back {P : Program} {w : World} {h : Heap} {p : Addr} {xs : List (List (List Int) × Addr × Value)} (q : h.DictOfH (nestedKind P w) p (nk xs)) : nstP p xs h := by
  obtain ⟨o, es, ep, h1, h2, h3, h4, _, _⟩ := q
  exact ⟨o, es, ep, h1, h2, h3, by rw [h4, ← entries_nk]⟩
end
/-! ### what is looked up -/
def hasN (kvs : List (List (List Int) × PyData)) (c : List (List Int)) : Bool := kvs.any fun p => decide (p.1 = c)
def valN (kvs : List (List (List Int) × PyData)) (c : List (List Int)) : Option PyData := (kvs.find? fun p => decide (p.1 = c)).map (·.2)
theorem at_has {c : List (List Int)} : ∀ {xs : List (List (List Int) × Addr × Value)} {kvs : List (List (List Int) × PyData)}, xs.map (·.1) = kvs.map (·.1) → (atKey (nk xs) (keyN c)).isSome = hasN kvs c
  | [], [], _ => rfl
  | [], _ :: _, h => by cases h
  | _ :: _, [], h => by cases h
  | x :: xs, y :: kvs, h => by
    rw [List.map_cons, List.map_cons] at h
    obtain ⟨h1, h2⟩ := List.cons.inj h
    have ih := at_has (c := c) h2
    unfold atKey hasN at ih ⊢
    rw [show nk (x :: xs) = (keyN x.1, x.2) :: nk xs from rfl, List.find?_cons, List.any_cons]
    by_cases z : y.1 = c
    · rw [decide_eq_true z]
      rw [decide_eq_true (show keyN x.1 = keyN c by rw [h1, z])]
      rfl
    · rw [decide_eq_false z, Bool.false_or]
      rw [decide_eq_false (show ¬ keyN x.1 = keyN c from fun k => z (h1.symm.trans (keyN_inj k)))]
      exact ih
theorem at_val {K : PySem.W.Frag} {F : Hp} {c : List (List Int)} {d : PyData} : ∀ {xs : List (List (List Int) × Addr × Value)} {kvs : List (List (List Int) × PyData)} {vs : List V}, xs.map (·.1) = kvs.map (·.1) → Vals vs (xs.map (·.2.2)) → DqAll K F vs (kvs.map (·.2)) → valN kvs c = some d →
    ∃ p v, atKey (nk xs) (keyN c) = some p ∧ RelV v p.2 ∧ Dq K F v d
  | [], [], _, _, _, _, h => by cases h
  | [], _ :: _, _, h, _, _, _ => by cases h
  | _ :: _, [], _, h, _, _, _ => by cases h
  | x :: xs, y :: kvs, _, h, r, q, hv => by
    rw [List.map_cons, List.map_cons] at h
    obtain ⟨h1, h2⟩ := List.cons.inj h
    cases r with
    | cons r1 r2 =>
      cases q with
      | cons q1 q2 =>
        unfold valN at hv
        rw [List.find?_cons] at hv
        unfold atKey
        rw [show nk (x :: xs) = (keyN x.1, x.2) :: nk xs from rfl, List.find?_cons]
        by_cases z : y.1 = c
        · rw [decide_eq_true z] at hv
          rw [decide_eq_true (show keyN x.1 = keyN c by rw [h1, z])]
          cases hv
          exact ⟨_, _, rfl, r1, q1⟩
        · rw [decide_eq_false z] at hv
          rw [decide_eq_false (show ¬ keyN x.1 = keyN c from fun k => z (h1.symm.trans (keyN_inj k)))]
          exact at_val h2 r2 q2 hv
/-! ### slots -/
section
variable {K : PySem.W.Frag} {F0 H0 F H : Hp} {G : Gm} {σ : L2.St}
theorem Rep.nst {p : Addr} {xs : List (List (List Int) × Addr × Value)} {kvs : List (List (List Int) × PyData)} (r : Rep K F0 H0 F H G σ) (i : Nat) (h0 : H0 p = none) (hf : F p = none) (hp : H p = some (nstO p xs)) (ha : NsD K F p xs kvs)
    (new : ∀ (j : Nat) (t : Sl) (u : V), G[j]? = some (some t) → σ[j]? = some (some u) → mutA F u p t → False) : Rep K F0 H0 F H (G.set i (some (.nst kvs))) (σ.set i (some (.ref p))) :=
  r.put i (s := .nst kvs) ⟨p, xs, rfl, h0, hf, hp, ha⟩ fun j t u a _ g e m m2 => by
    cases m2
    exact new j t u g e m
theorem Rep.mutN {i : Nat} {p : Addr} {ds es : List (List (List Int) × PyData)} {xs : List (List (List Int) × Addr × Value)} (r : Rep K F0 H0 F H G σ) (e : G[i]? = some (some (.nst ds))) (hv : σ[i]? = some (some (.ref p))) (ha : NsD K F p xs es) :
    Rep K F0 H0 F (upd H p (nstO p xs)) (G.set i (some (.nst es))) σ := by
  obtain ⟨q, vs, e1, h0, hf, hp, _⟩ := r.at e hv
  cases e1
  exact r.chg e hv (a := p) (t := .nst es) rfl hp (fun _ _ z => nomatch (show HO.ext _ = HO.frz _ _ from z)) ⟨p, xs, rfl, h0, hf, upd_same, ha⟩ fun b m => m
end
end VL

set_option Elab.async false
set_option linter.all false
set_option maxRecDepth 100000
set_option maxHeartbeats 4000000
/-! Vf (kind w): the rules for an own dict whose keys are tuples of tuples of ints. -/
namespace VL
open PySem PySem.Spec PyProof.Rows L2
def tDispN (K : PySem.W.Frag) (tk tv : TE) : TE := fun σ H Q => ∀ p, H p = none → (p == sysModules) = false → tPairs [(tk, tv)] σ (upd H p (nstO p [])) fun ps H2 => H2 p = some (nstO p []) ∧ ∃ (b : Addr) (c : List (List Int)) (y : V), ps = [(V.ref b, y)] ∧ Dq K H2 (.ref b) (chT c) ∧ ∀ u, RelV y u → Q (.ref p) (upd H2 p (nstO p [(c, b, u)]))
theorem pe_dispN {X : Cx} {pos : Pos} {k v : Expr} {tk tv : TE} (hu : X.A.units + 8 < cLine) (hk : PE X k tk) (hv : PE X v tv) : PE X (.Dict [some k] [v] pos) (tDispN X.K tk tv) := by
  refine ⟨fun pins s σ H Q I q => ?_⟩
  have hn := I.hok.fresh (Nat.le_refl s.heap.objs.size)
  have hsys : (s.heap.objs.size == sysModules) = false := beq_eq_false_iff_ne.mpr (Ne.symm (Nat.ne_of_lt I.big))
  have I1 := I.laid (a := s.heap.objs.size) (o := nstO s.heap.objs.size []) (h' := s.heap.push { cls := .type "dict", data := .dict #[] }) (t' := s.toks) (fun _ _ q => Heap.get?_push_of_some _ q) (Nat.le_refl _) (nst_ok ⟨_, #[], 0, Heap.get?_push_size _ rfl, ⟨rfl, rfl, rfl⟩, rfl, rfl⟩)
  rw [arm_eval_Dict, zip_pairTrees [some k] [v] X.env pos rfl rfl, dictDisplay_pairs _ (by simp [pairTrees]) (by simp [pairTrees])]
  refine wpAny_bind (wpAny_standAt (wpAny_bind (wpAny_subDictH (knd := nestedKind X.prog X.w) hu (by simp [pairTrees]) ?_)))
  refine thn ((pps_cons hk hv pps_nil).run pins _ σ _ _ I1 (q _ hn hsys)) fun ws s2 ⟨ps, H2, I2, rel, e, b, c, y, ep, hb, q2⟩ => ?_
  subst ep
  have dd := nst_dict (F := H2) (kvs := []) I2 (Same.refl _) e ⟨hsys, rfl, List.nodup_nil, fun x hx => absurd hx List.not_mem_nil, ⟨[], .nil, .nil⟩⟩
  cases rel with
  | @cons p1 w1 _ _ h1 t1 =>
    cases t1
    obtain ⟨u1, u2⟩ := w1
    obtain ⟨ra, rb⟩ := h1
    cases (show u1 = Value.ref b from ra)
    refine ⟨[(keyN c, b, u2)], ⟨rfl, rfl, key_is I2 hb, trivial⟩, dd, fun h' tk dk hs => wpAny_pure ⟨.ref s.heap.objs.size, _, ?_, rfl, q2 u2 rb⟩⟩
    have e1 : storedAllH ([] : List (NestedKey × Addr × Value)) [(keyN c, b, u2)] = nk [(c, b, u2)] := rfl
    rw [e1] at dk
    have nb := nst_back dk
    exact d_write I2 (by rw [e]; exact True.intro) hs (let ⟨o, _, _, hq, _⟩ := nb; ⟨o, hq⟩) (nst_ok nb)
theorem key_ref {K : PySem.W.Frag} {F : Hp} {v : V} {c : List (List Int)} (h : Dq K F v (chT c)) : ∃ b, v = .ref b := by
  cases h
  exact ⟨_, rfl⟩
/-! ### by values -/
def rNotN (K : PySem.W.Frag) : R2 := fun x y H Q => ∃ (b p : Addr) (c : List (List Int)) (xs : List (List (List Int) × Addr × Value)) (kvs : List (List (List Int) × PyData)) (F : Hp), x = .ref b ∧ y = .ref p ∧ Dq K H (.ref b) (chT c) ∧ Same F H ∧ H p = some (nstO p xs) ∧ NsD K F p xs kvs ∧ Q (.bl (!hasN kvs c)) H
def rSetN (K : PySem.W.Frag) : TSet := fun o i v H Q => ∃ (b p : Addr) (c : List (List Int)) (xs : List (List (List Int) × Addr × Value)) (kvs : List (List (List Int) × PyData)) (F : Hp), o = .ref p ∧ i = .ref b ∧ Dq K H (.ref b) (chT c) ∧ Same F H ∧ H p = some (nstO p xs) ∧ NsD K F p xs kvs ∧ hasN kvs c = false ∧ xs.length < big ∧ ∀ u, RelV v u → Q (upd H p (nstO p (xs ++ [(c, b, u)])))
def tNGet (K : PySem.W.Frag) (td ty : TE) : TE := fun σ H Q => td σ H fun x H1 => ty σ H1 fun y H2 => ∃ (b p : Addr) (c : List (List Int)) (xs : List (List (List Int) × Addr × Value)) (kvs : List (List (List Int) × PyData)) (F : Hp) (d : PyData), x = .ref p ∧ y = .ref b ∧ Dq K H2 (.ref b) (chT c) ∧ Same F H2 ∧ H2 p = some (nstO p xs) ∧ NsD K F p xs kvs ∧ valN kvs c = some d ∧ ∀ v, Dq K F v d → Q v H2
section
variable {X : Cx} {k : Nat} {o i : Expr} {td ty : TE} {pos : Pos}
theorem op_notinN (hr : Room k X.A) : OpR X (compareOp .NotIn) (rNotN X.K) := by
  intro pins s σ H x y v u Q I rx ry h
  obtain ⟨b, p, c, xs, kvs, F, rfl, rfl, hk, fh, hp, hd, q⟩ := h
  cases rx
  cases ry
  have dd := nst_dict I fh hp hd
  rw [← at_has hd.keys] at q
  show wpAny _ _ (do return .bool (!(← contains (.ref p) (.ref b)))) (EP X pins σ Q) X.xe s
  refine wpAny_bind (wpAny_contains_heap (knd := nestedKind X.prog X.w) (show X.A.units + 1 + 8 < cLine by have := hr.units; omega) (key_is I hk) hd.sys dd (wpAny_pure ⟨.bl _, H, I.tok _, rfl, q⟩))
theorem set_nst (hr : Room k X.A) : PSet X (rSetN X.K) := by
  intro pins s σ H o i v ov iv u Q I ro ri rv h
  obtain ⟨b, p, c, xs, kvs, F, rfl, rfl, hk, fh, hp, hd, hh, hz, q⟩ := h
  cases (show ov = Value.ref p from ro)
  cases (show iv = Value.ref b from ri)
  have dd := nst_dict I fh hp hd
  have ha := at_has (c := c) hd.keys
  rw [hh] at ha
  refine wpAny_setItem_heap (knd := nestedKind X.prog X.w) (show X.A.units + 1 + 8 < cLine by have := hr.units; omega) (key_is I hk) dd (fun h' dk hs => ?_) (by rw [List.length_map]; exact Nat.le_of_lt (big_lt hz))
  have e1 : storedH (nk xs) (keyN c) b u = nk (xs ++ [(c, b, u)]) := by
    unfold storedH
    rw [ha]
    simp [nk]
  rw [e1] at dk
  have nb := nst_back dk
  exact ⟨_, d_write I (by rw [hp]; exact True.intro) hs (let ⟨o, _, _, hq, _⟩ := nb; ⟨o, hq⟩) (nst_ok nb), q u rv⟩
theorem pe_nget (hr : Room k X.A) (ho : PE X o td) (hi : PE X i ty) (hs : NoSl i) : PE X (.Subscript o i pos) (tNGet X.K td ty) := by
  refine ⟨fun pins s σ H Q I h => ?_⟩
  refine subD_of PySem.F.slot_dict_getitem.lookup hs (thn (ho.run pins s σ H _ I h) fun u s1 ⟨x, H1, I1, rx, q1⟩ => thn (hi.run pins s1 σ H1 _ I1 q1) fun iv s2 ⟨y, H2, I2, ry, b, p, c, xs, kvs, F, d, ex, ey, hk, fh, hp, hd, hv, q2⟩ => ?_)
  subst ex
  subst ey
  obtain rfl : u = Value.ref p := rx
  obtain rfl : iv = Value.ref b := ry
  have dd := nst_dict I2 fh hp hd
  obtain ⟨vs, r1, r2⟩ := hd.vals
  obtain ⟨pq, v, e1, e2, e3⟩ := at_val (c := c) hd.keys r1 r2 hv
  exact ⟨dd.typeIs, wpAny_getItem_heap (knd := nestedKind X.prog X.w) (show X.A.units + 1 + 8 < cLine by have := hr.units; omega) (key_is I2 hk) dd e1 ⟨v, H2, I2.tok _, e2, q2 v e3⟩⟩
theorem call_lenN : CallR X (.builtin "len") (fun zs H Q => ∃ (p : Addr) (xs : List (List (List Int) × Addr × Value)) (kvs : List (List (List Int) × PyData)) (F : Hp), zs = [.ref p] ∧ Same F H ∧ H p = some (nstO p xs) ∧ NsD X.K F p xs kvs ∧ kvs.length ≤ big ∧ Q (.int ((kvs.length : Nat) : Int)) H) := by
  intro pins s σ H zs us Q I r h
  obtain ⟨p, xs, kvs, F, rfl, fh, hp, hd, hz, q⟩ := h
  obtain ⟨u, rfl, rx⟩ := vals1 r
  obtain rfl : u = .ref p := rx
  have dd := nst_dict I fh hp hd
  have hl : (nk xs).length = kvs.length := by
    have := congrArg List.length hd.keys
    rw [List.length_map, List.length_map] at this
    rw [List.length_map]
    exact this
  refine call_len_dictH hd.sys dd (by rw [hl]; have hb : kvs.length ≤ 1000000 := hz; omega) ⟨.int ((kvs.length : Nat) : Int), H, I.tok _, ⟨_, by rw [hl]⟩, q⟩
end
/-! ### by worth -/
def nstS (i : Nat) (mk mv : Gm → EO) : Gm → SO := fun G => (mk G).bindS G fun dk wk => (mv G).bindS G fun dv wv => match keyCh dk, wk, wv with
  | some c, .frz, .frz => if i < G.length then .next (G.set i (some (.nst [(c, dv)]))) else .stuck
  | _, _, _ => .stuck
def notN (j : Nat) (me : Gm → EO) : Gm → EO := fun G => (me G).bind fun d w => match keyCh d, w, G[j]? with
  | some c, .frz, some (some (.nst kvs)) => .ok (.bool (!hasN kvs c)) .frz
  | _, _, _ => .stuck
def putN (j : Nat) (mi me : Gm → EO) : Gm → SO := fun G => (me G).hard.bindS G fun d _ => match G[j]? with
  | some (some (.nst kvs)) => (mi G).bindS G fun k w => match keyCh k, w with
    | some c, .frz => if kvs.length < big ∧ hasN kvs c = false then .next (G.set j (some (.nst (kvs ++ [(c, d)])))) else .stuck
    | _, _ => .stuck
  | _ => .stuck
def idxN (j : Nat) (mi : Gm → EO) : Gm → EO := fun G => match G[j]? with
  | some (some (.nst _)) => (mi G).bind fun d w => match keyCh d, w, G[j]? with
    | some c, .frz, some (some (.nst kvs)) => (match valN kvs c with
      | some v => .ok v .frz
      | none => .stuck)
    | _, _, _ => .stuck
  | _ => .stuck
def lenN (j : Nat) : Gm → EO := fun G => match G[j]? with
  | some (some (.nst kvs)) => if kvs.length ≤ big then .ok (.int ((kvs.length : Nat) : Int)) .frz else .stuck
  | _ => .stuck
section
variable {X : Cx} {ct : Nat → Addr} {W : WX} {e i k v : Expr} {me mi mk mv : Gm → EO} {pos p px p2 p3 pos2 : Pos} {x : Str} {j n ii : Nat}
theorem es_nnew (hr : Room n X.A) (hk : EE X ct W k mk) (hv : EE X ct W v mv) (hN : X.N.Nodup) (hi : X.N[ii]? = some x := by rfl) (hx : Loc X.env.scope x := by first | exact Or.inl rfl | exact Or.inr rfl) (hs : swapsWith (.Dict [some k] [v] p) (some (.Name x pos2)) pos.line X.env = pure false := by rfl)
    (hf : X.fn x = true ∨ X.env.scope.names.lookup x = some .local := by first | exact .inl rfl | exact .inr rfl) : ES X ct W (.Assign [.Name x pos2] (.Dict [some k] [v] p) pos) (nstS ii mk mv) :=
  ps_imp (ps_set hN hi hx (pe_dispN (by have := hr.units; omega) hk hv) hs hf) fun D σ H ⟨F0, H0, F, G, r, p⟩ => by
    intro pa hpa hsys
    have x0 : VL.Ext F H F (upd H pa (nstO pa [])) := Ext.new r.fh hpa
    refine ⟨F0, H0, F, G, r.ext x0, post_mono (post_S (r.ext x0) p) fun u H1 ⟨dk, wk, F1, x1, q1, r1, p1⟩ => ?_⟩
    refine ⟨F0, H0, F1, G, r1, post_mono (post_S r1 p1) fun y H2 ⟨dv, wv, F2, x2, q2, r2, p2⟩ => ?_⟩
    split at p2
    · rename_i c ek _
      split at p2
      · rename_i hl
        have q1' : Dq X.K F1 u dk := q1
        rw [keyCh_eq ek] at q1'
        obtain ⟨b, rfl⟩ := key_ref q1'
        have hH2 : H2 pa = some (nstO pa []) := x2.hh _ _ (x1.hh _ _ upd_same)
        have hF2 : F2 pa = none := x2.ap pa _ (x1.hh _ _ upd_same) (x1.ap pa _ upd_same (r.fh.free hpa) trivial) trivial
        have qk : Dq X.K F2 (.ref b) (chT c) := dp_mono x2.ff _ _ q1'
        refine ⟨hH2, b, c, y, rfl, dp_mono x2.fh _ _ qk, fun u ru => ?_⟩
        have r3 := r2.nst (kvs := []) ii (r.hh.free hpa) hF2 hH2 ⟨hsys, rfl, List.nodup_nil, fun x hx => absurd hx List.not_mem_nil, ⟨[], .nil, .nil⟩⟩ fun j t u g e m => by
          obtain ⟨_, _, o3, hp3, _⟩ := r.at_mut g e (mut_back (r.at g e) (x0.ff.trans (x1.ff.trans x2.ff)) m)
          rw [hpa] at hp3
          cases hp3
        have r4 := r3.mutN (xs := [(c, b, u)]) (es := [(c, dv)]) (i := ii) (p := pa) (List.getElem?_set_self hl) (List.getElem?_set_self (by rw [← r.len]; exact hl)) ⟨hsys, rfl, by simp, fun x hx => by rw [List.mem_singleton.mp hx]; exact qk, [y], .cons ru .nil, .cons q2 .nil⟩
        rw [List.set_set] at r4
        exact p2 _ F2 _ (Same.refl _) r4
      · exact p2.elim
    · exact p2.elim
theorem notN_of {K : PySem.W.Frag} {σ : L2.St} {H : Hp} {Q : VK} (h : tM K ct W (notN j me) σ H Q) : tOp (rNotN K) (tM K ct W me) (tVar j) σ H Q := by
  obtain ⟨F0, H0, F, G, r, p⟩ := h
  refine ⟨F0, H0, F, G, r, post_mono (post_bind p) fun v H1 ⟨d, w, F1, x1, q, p2⟩ => ?_⟩
  split at p2
  · rename_i c kvs ek eg
    have q' : Dq K F1 v d := q
    rw [keyCh_eq ek] at q'
    obtain ⟨b, rfl⟩ := key_ref q'
    obtain ⟨u, hu, pa, xs, rfl, k0, kf, kp, kd⟩ := (r.ext x1).slot j _ eg
    exact ⟨_, hu, b, pa, c, xs, kvs, F1, rfl, rfl, dp_mono x1.fh _ _ q', x1.fh, kp, kd, p2 _ F1 H1 (Ext.refl x1.fh) (.bl _)⟩
  · exact p2.elim
theorem ee_nnotin (hr : Room n X.A) (he : EE X ct W e me) (hj : X.N[j]? = some x := by rfl) (hv : Vis X.env.scope x := by first | exact Or.inl rfl | exact Or.inr (Or.inl rfl)) (hd : (x == ("__debug__" : Str)) = false := by decide) (hcd : (x == ("__classdict__" : Str)) = false := by decide) :
    EE X ct W (.Compare e [.NotIn] [.Name x px] pos) (notN j me) :=
  pe_imp (pe_cmpR (op_notinN hr) he (pe_var hj hv hd hcd) rfl) fun σ H Q h => notN_of h
theorem eb_nnotin (hr : Room n X.A) (he : EE X ct W e me) (hj : X.N[j]? = some x := by rfl) (hv : Vis X.env.scope x := by first | exact Or.inl rfl | exact Or.inr (Or.inl rfl)) (hd : (x == ("__debug__" : Str)) = false := by decide) (hcd : (x == ("__classdict__" : Str)) = false := by decide) :
    EB X ct W (.Compare e [.NotIn] [.Name x px] pos) (boolB (notN j me)) :=
  pt_imp (pt_cmpR (op_notinN hr) he (pe_var hj hv hd hcd) rfl) fun σ H Q h => notN_of (bool_of h)
theorem es_nput (hr : Room n X.A) (he : EE X ct W e me) (hi : EE X ct W i mi) (hj : X.N[j]? = some x := by rfl) (hv : Vis X.env.scope x := by first | exact Or.inl rfl | exact Or.inr (Or.inl rfl)) (hd : (x == ("__debug__" : Str)) = false := by decide) (hcd : (x == ("__classdict__" : Str)) = false := by decide)
    (ha : ∀ v, assign (.Subscript (.Name x px) i p2) X.env v = (do
      let ov ← holding [v] (eval (.Name x px) X.env)
      let iv ← holding [v, ov] (eval i X.env)
      standAt p2
      holding [v, ov, iv] (setItem ov iv v)
      release [v, ov, iv] []) := by intro _; rfl)
    (hs : swapsWithSole [.Subscript (.Name x px) i p2] e pos.line X.env = pure false := by rfl) (hw : swappedStores [.Subscript (.Name x px) i p2] e X.env = pure none := by rfl) :
    ES X ct W (.Assign [.Subscript (.Name x px) i p2] e pos) (putN j mi me) :=
  ps_imp (ps_asg he (pg_sub (pe_var hj hv hd hcd) hi (set_nst hr) ha) hs hw) fun D σ H ⟨F0, H0, F, G, r, p⟩ => by
    refine ⟨F0, H0, F, G, r, post_mono (postS_hard (k := fun d => match G[j]? with
      | some (some (.nst kvs)) => (mi G).bindS G fun k w => match keyCh k, w with
        | some c, .frz => if kvs.length < big ∧ hasN kvs c = false then .next (G.set j (some (.nst (kvs ++ [(c, d)])))) else .stuck
        | _, _ => .stuck
      | _ => .stuck) r p) fun y H1 ⟨d, F1, x1, ry, r1, p1⟩ => ?_⟩
    split at p1
    · rename_i kvs e
      obtain ⟨v, hv, q, xs, rfl, h0, hf, hp, ha⟩ := r1.slot j _ e
      refine ⟨_, hv, F0, H0, F1, G, r1, post_mono (post_S (k := fun k w => match keyCh k, w with
        | some c, .frz => if kvs.length < big ∧ hasN kvs c = false then .next (G.set j (some (.nst (kvs ++ [(c, d)])))) else .stuck
        | _, _ => .stuck) r1 p1) fun u H2 ⟨dk, w, F2, x2, ru, r2, p2⟩ => ?_⟩
      split at p2
      · rename_i c ek
        split at p2
        · rename_i hz
          have ru' : Dq X.K F2 u dk := ru
          rw [keyCh_eq ek] at ru'
          obtain ⟨b, rfl⟩ := key_ref ru'
          have kd := ha.mono x2.ff
          have hl : xs.length = kvs.length := by
            have := congrArg List.length kd.keys
            rwa [List.length_map, List.length_map] at this
          have ni : c ∉ xs.map (·.1) := fun hm => by
            rw [kd.keys] at hm
            obtain ⟨z, hz1, hz2⟩ := List.mem_map.mp hm
            have : hasN kvs c = true := by
              unfold hasN
              rw [List.any_eq_true]
              exact ⟨z, hz1, decide_eq_true hz2⟩
            rw [hz.2] at this
            cases this
          refine ⟨b, q, c, xs, kvs, F2, rfl, rfl, dp_mono x2.fh _ _ ru', x2.fh, x2.hh _ _ hp, kd, hz.2, by rw [hl]; exact hz.1, fun u2 ru2 => ?_⟩
          refine p2 σ F2 _ (Same.refl _) (r2.mutN e hv ⟨kd.sys, ?_, ?_, fun z hz2 => ?_, ?_⟩)
          · rw [List.map_append, List.map_append, kd.keys]
            rfl
          · rw [List.map_append]
            exact List.nodup_append.mpr ⟨kd.nd, by simp, fun a ha b hb e => by
              have : b = c := by simpa using hb
              rw [e, this] at ha
              exact ni ha⟩
          · rcases List.mem_append.mp hz2 with z1 | z1
            · exact kd.at_ z z1
            · rw [List.mem_singleton.mp z1]
              exact ru'
          · obtain ⟨vs, k1, k2⟩ := kd.vals
            refine ⟨vs ++ [y], ?_, ?_⟩
            · rw [List.map_append]
              exact k1.append (.cons ru2 .nil)
            · rw [List.map_append]
              exact dpAll_app k2 (.cons (dp_mono x2.ff _ _ ry) .nil)
        · exact p2.elim
      · exact p2.elim
    · exact p1.elim
theorem ee_nget (hr : Room n X.A) (hi : EE X ct W i mi) (hj : X.N[j]? = some x := by rfl) (hv : Vis X.env.scope x := by first | exact Or.inl rfl | exact Or.inr (Or.inl rfl)) (hd : (x == ("__debug__" : Str)) = false := by decide) (hcd : (x == ("__classdict__" : Str)) = false := by decide) (hs : NoSl i := by intros _ _; rfl) :
    EE X ct W (.Subscript (.Name x px) i pos) (idxN j mi) :=
  pe_imp (pe_nget hr (pe_var hj hv hd hcd) hi hs) fun σ H Q ⟨F0, H0, F, G, r, p⟩ => by
    unfold idxN at p
    split at p
    · rename_i kv0 e0
      obtain ⟨u0, hu0, _⟩ := r.slot j _ e0
      refine ⟨u0, hu0, F0, H0, F, G, r, post_mono (post_bind p) fun v H1 ⟨d, w, F1, x1, q, p2⟩ => ?_⟩
      split at p2
      · rename_i c kvs ek eg
        split at p2
        · rename_i d2 ev
          have q' : Dq X.K F1 v d := q
          rw [keyCh_eq ek] at q'
          obtain ⟨b, rfl⟩ := key_ref q'
          obtain ⟨u, hu, pa, xs, rfl, k0, kf, kp, kd⟩ := (r.ext x1).slot j _ eg
          rw [hu0] at hu
          cases hu
          exact ⟨b, pa, c, xs, kvs, F1, d2, rfl, rfl, dp_mono x1.fh _ _ q', x1.fh, kp, kd, ev, fun z hz => p2 z F1 H1 (Ext.refl x1.fh) hz⟩
        · exact p2.elim
      · exact p2.elim
    · exact p.elim
theorem ee_nlen (hm : X.mg "len" = none) (hj : X.N[j]? = some x := by rfl) (hv : Vis X.env.scope x := by first | exact Or.inl rfl | exact Or.inr (Or.inl rfl)) (hd : (x == ("__debug__" : Str)) = false := by decide) (hcd : (x == ("__classdict__" : Str)) = false := by decide) (hg : Gl X "len" := by rfl)
    (hs : starEach [.Name x px] X.env = (false, eval (.Name x px) X.env) :: starEach [] X.env := by rfl) (hpl : (backTo pos (starEach [] X.env)).any (·.1) = false := by rfl) :
    EE X ct W (.Call (.Name "len" p3) [.Name x px] [] pos) (lenN j) :=
  pe_imp (pe_callB call_lenN hg hm PySem.boot_len (pa_cons (pe_var hj hv hd hcd) pa_nil hs) (by decide) (by decide) hs hpl) fun σ H Q ⟨F0, H0, F, G, r, p⟩ => by
    unfold lenN at p
    split at p
    · rename_i kvs e
      split at p
      · rename_i hz
        obtain ⟨u, hu, pa, xs, rfl, k0, kf, kp, kd⟩ := r.slot j _ e
        exact ⟨_, hu, pa, xs, kvs, F, rfl, r.fh, kp, kd, hz, p _ F H (Ext.refl r.fh) (.int _)⟩
      · exact p.elim
    · exact p.elim
end
end VL


set_option Elab.async false
set_option linter.all false
set_option maxRecDepth 100000
/-! MA: reckoning with the worths: loops by an invariant, comprehensions by a function. -/
namespace VL
open PySem L2
theorem forL_inv {tgt : PyData → Gm → Option Gm} {body : Gm → SO} (P : Nat → Gm → Prop) : ∀ {ds : List PyData} {i : Nat} {G : Gm}, P i G → (∀ k d G, ds[k]? = some d → P (i + k) G → ∃ G1 G2, tgt d G = some G1 ∧ body G1 = .next G2 ∧ P (i + k + 1) G2) →
    ∃ G2, forL tgt body ds G = .next G2 ∧ P (i + ds.length) G2
  | [], i, G, p, _ => ⟨G, rfl, p⟩
  | d :: ds, i, G, p, h => by
    obtain ⟨G1, G2, h1, h2, p2⟩ := h 0 d G rfl p
    obtain ⟨G3, h3, p3⟩ := forL_inv P (ds := ds) (i := i + 1) (G := G2) p2 fun k d2 G hk pk => by
      have := h (k + 1) d2 G (by simpa using hk) (by rw [show i + (k + 1) = i + 1 + k by omega]; exact pk)
      rw [show i + (k + 1) + 1 = i + 1 + k + 1 by omega] at this
      exact this
    refine ⟨G3, ?_, by rw [List.length_cons, show i + (ds.length + 1) = i + 1 + ds.length by omega]; exact p3⟩
    unfold forL
    rw [h1]
    simp only
    rw [h2]
    exact h3
/-- a loop, by an invariant of the turn's number -/
theorem for_inv {tgt : PyData → Gm → Option Gm} {body : Gm → SO} {ds : List PyData} {G : Gm} (P : Nat → Gm → Prop) (h0 : P 0 G) (h : ∀ k d G, ds[k]? = some d → P k G → ∃ G1 G2, tgt d G = some G1 ∧ body G1 = .next G2 ∧ P (k + 1) G2) :
    ∃ G2, forL tgt body ds G = .next G2 ∧ P ds.length G2 := by
  have := forL_inv (tgt := tgt) (body := body) P (ds := ds) (i := 0) (G := G) h0 fun k d G hk pk => by
    rw [Nat.zero_add] at pk ⊢
    exact h k d G hk pk
  rw [Nat.zero_add] at this
  exact this
/-- a loop that may return: either it runs through, or it returns r -/
theorem forL_ret {tgt : PyData → Gm → Option Gm} {body : Gm → SO} (P : Nat → Gm → Prop) (R : Nat → PyData → Prop) : ∀ {ds : List PyData} {i : Nat} {G : Gm}, P i G → (∀ k d G, ds[k]? = some d → P (i + k) G → ∃ G1, tgt d G = some G1 ∧ ((∃ G2, body G1 = .next G2 ∧ P (i + k + 1) G2) ∨ ∃ r, body G1 = .ret r ∧ R (i + k) r)) →
    (∃ G2, forL tgt body ds G = .next G2 ∧ P (i + ds.length) G2) ∨ ∃ k r, k < ds.length ∧ forL tgt body ds G = .ret r ∧ R (i + k) r
  | [], i, G, p, _ => .inl ⟨G, rfl, p⟩
  | d :: ds, i, G, p, h => by
    obtain ⟨G1, h1, ⟨G2, h2, p2⟩ | ⟨r, h2, q⟩⟩ := h 0 d G rfl p
    · have := forL_ret P R (ds := ds) (i := i + 1) (G := G2) p2 fun k d2 G hk pk => by
        have := h (k + 1) d2 G (by simpa using hk) (by rw [show i + (k + 1) = i + 1 + k by omega]; exact pk)
        rw [show i + (k + 1) + 1 = i + 1 + k + 1 by omega, show i + (k + 1) = i + 1 + k by omega] at this
        exact this
      have e : forL tgt body (d :: ds) G = forL tgt body ds G2 := by
        conv => lhs; unfold forL
        rw [h1]
        simp only
        rw [h2]
      rw [e]
      rcases this with ⟨G3, h3, p3⟩ | ⟨k, r, hk, h3, q⟩
      · exact .inl ⟨G3, h3, by rw [List.length_cons, show i + (ds.length + 1) = i + 1 + ds.length by omega]; exact p3⟩
      · exact .inr ⟨k + 1, r, by simpa using hk, h3, by rw [show i + (k + 1) = i + 1 + k by omega]; exact q⟩
    · refine .inr ⟨0, r, Nat.zero_lt_succ _, ?_, q⟩
      unfold forL
      rw [h1]
      simp only
      rw [h2]
theorem compL_map {step : PyData → Option (Option PyData)} {f : PyData → Option PyData} : ∀ {ds : List PyData}, (∀ d ∈ ds, step d = some (f d)) → compL step ds = some (ds.filterMap f)
  | [], _ => rfl
  | d :: ds, h => by
    unfold compL
    rw [h d List.mem_cons_self, compL_map fun x hx => h x (List.mem_cons_of_mem _ hx)]
    cases e : f d with
    | none => simp [List.filterMap_cons, e]
    | some y => simp [List.filterMap_cons, e]
theorem rgD_len (lo : Int) (n : Nat) : (rgD lo n).length = n := by unfold rgD; rw [List.length_map, List.length_range]
theorem rgD_get {lo : Int} {n k : Nat} {d : PyData} (h : (rgD lo n)[k]? = some d) : k < n ∧ d = .int (lo + (k : Nat)) := by
  unfold rgD at h
  rw [List.getElem?_map] at h
  by_cases hk : k < n
  · rw [List.getElem?_range hk] at h
    cases h
    exact ⟨hk, rfl⟩
  · rw [List.getElem?_eq_none (by simpa using hk)] at h
    cases h
/-- the words that open a worth -/
theorem atI_nat {α : Type} {xs : List α} {i : Int} {x : α} (h0 : 0 ≤ i) (h : xs[i.toNat]? = some x) : atI xs i = some x := by
  obtain ⟨hl, _⟩ := List.getElem?_eq_some_iff.mp h
  unfold atI ixN
  rw [if_pos h0, if_pos (by omega)]
  exact h
end VL

set_option Elab.async false
set_option linter.all false
set_option maxRecDepth 100000
/-! MB: the worths step by step, for simp. -/
namespace VL
open PySem L2
def SO.seq (o : SO) (m : Gm → SO) : SO := match o with
  | .next G => m G
  | r => r
@[simp] theorem seqS_eq {m1 m2 : Gm → SO} {G : Gm} : seqS m1 m2 G = SO.seq (m1 G) m2 := by
  unfold seqS SO.seq
  cases m1 G <;> rfl
@[simp] theorem seq_next {m : Gm → SO} {G : Gm} : SO.seq (.next G) m = m G := rfl
@[simp] theorem seq_ret {m : Gm → SO} {d : PyData} : SO.seq (.ret d) m = .ret d := rfl
@[simp] theorem seq_exc {m : Gm → SO} {c : Nat} {pl : Option PyData} {G : Gm} : SO.seq (.exc c pl G) m = .exc c pl G := rfl
@[simp] theorem seq_stuck {m : Gm → SO} : SO.seq .stuck m = .stuck := rfl
@[simp] theorem nilS_eq {G : Gm} : nilS G = .next G := rfl
@[simp] theorem stuckS_eq {G : Gm} : stuckS G = .stuck := rfl
@[simp] theorem ifS_eq {t : Gm → BO} {m1 m2 : Gm → SO} {G : Gm} : ifS t m1 m2 G = (t G).bindS G fun k => if k = true then m1 G else m2 G := rfl
@[simp] theorem bindS_b {G : Gm} {k : Bool → SO} {b : Bool} : BO.bindS G (.ok b) k = k b := rfl
@[simp] theorem bindS_bx {G : Gm} {k : Bool → SO} {c : Nat} {pl : Option PyData} : BO.bindS G (.exc c pl) k = .exc c pl G := rfl
@[simp] theorem bindB_b {k : Bool → BO} {b : Bool} : BO.bind (.ok b) k = k b := rfl
@[simp] theorem bindE_b {k : Bool → EO} {b : Bool} : BO.bindE (.ok b) k = k b := rfl
def boolO : PyData → BO
  | .bool b => .ok b
  | _ => .stuck
def truthO (d : PyData) : BO := match truthD d with
  | some b => .ok b
  | none => .stuck
@[simp] theorem boolB_eq {m : Gm → EO} {G : Gm} : boolB m G = (m G).bindB fun d _ => boolO d := by
  unfold boolB
  cases m G with
  | ok d w => cases d <;> rfl
  | exc c pl => rfl
  | stuck => rfl
@[simp] theorem boolO_b {b : Bool} : boolO (.bool b) = .ok b := rfl
@[simp] theorem truthB_eq {m : Gm → EO} {G : Gm} : truthB m G = (m G).bindB fun d _ => truthO d := rfl
@[simp] theorem truthO_b {b : Bool} : truthO (.bool b) = .ok b := rfl
@[simp] theorem truthO_n : truthO .none = .ok false := rfl
@[simp] theorem truthO_i {i : Int} : truthO (.int i) = .ok (i != 0) := rfl
@[simp] theorem truthO_l {ds : List PyData} : truthO (.list ds) = .ok (!ds.isEmpty) := rfl
@[simp] theorem truthO_t {ds : List PyData} : truthO (.tuple ds) = .ok (!ds.isEmpty) := rfl
@[simp] theorem andB_eq {x y : Gm → BO} {G : Gm} : andB x y G = (x G).bind fun k => if k = true then y G else .ok false := rfl
@[simp] theorem orB_eq {x y : Gm → BO} {G : Gm} : orB x y G = (x G).bind fun k => if k = true then .ok true else y G := rfl
@[simp] theorem notB_eq {x : Gm → BO} {G : Gm} : notB x G = (x G).bind fun k => .ok (!k) := rfl
@[simp] theorem yesB_eq {G : Gm} : yesB G = .ok true := rfl
@[simp] theorem bind_ok {d : PyData} {w : Wh} {k : PyData → Wh → EO} : EO.bind (.ok d w) k = k d w := rfl
@[simp] theorem bind_exc {c : Nat} {pl : Option PyData} {k : PyData → Wh → EO} : EO.bind (.exc c pl) k = .exc c pl := rfl
@[simp] theorem bind_stuck {k : PyData → Wh → EO} : EO.bind .stuck k = .stuck := rfl
@[simp] theorem bindB_ok {d : PyData} {w : Wh} {k : PyData → Wh → BO} : EO.bindB (.ok d w) k = k d w := rfl
@[simp] theorem bindB_exc {c : Nat} {pl : Option PyData} {k : PyData → Wh → BO} : EO.bindB (.exc c pl) k = .exc c pl := rfl
@[simp] theorem bindA_ok {d : PyData} {w : Wh} {k : PyData → Wh → AO} : EO.bindA (.ok d w) k = k d w := rfl
@[simp] theorem bindS_ok {G : Gm} {d : PyData} {w : Wh} {k : PyData → Wh → SO} : EO.bindS G (.ok d w) k = k d w := rfl
@[simp] theorem bindS_exc {G : Gm} {c : Nat} {pl : Option PyData} {k : PyData → Wh → SO} : EO.bindS G (.exc c pl) k = .exc c pl G := rfl
@[simp] theorem abind_ok {ds : List PyData} {k : List PyData → AO} : AO.bind (.ok ds) k = k ds := rfl
@[simp] theorem abindE_ok {ds : List PyData} {k : List PyData → EO} : AO.bindE (.ok ds) k = k ds := rfl
@[simp] theorem toE_ok {d : PyData} : FO.toE (.ok d) = .ok d .frz := rfl
@[simp] theorem toE_exc {c : Nat} {pl : Option PyData} : FO.toE (.exc c pl) = .exc c pl := rfl
@[simp] theorem hard_frz {d : PyData} : EO.hard (.ok d .frz) = .ok d .frz := rfl
@[simp] theorem hard_new {d : PyData} : EO.hard (.ok d .new) = .ok d .frz := rfl
@[simp] theorem hard_exc {c : Nat} {pl : Option PyData} : EO.hard (.exc c pl) = .exc c pl := rfl
def varO (i : Nat) : Option (Option Sl) → EO
  | some (some (.dat d)) => .ok d .frz
  | some (some (.own ds)) => .ok (.list ds) (.own i)
  | _ => .stuck
@[simp] theorem varE_eq {i : Nat} {G : Gm} : varE i G = varO i G[i]? := by
  unfold varE varO
  cases G[i]? with
  | none => rfl
  | some o =>
    cases o with
    | none => rfl
    | some s => cases s <;> rfl
@[simp] theorem varO_d {i : Nat} {d : PyData} : varO i (some (some (.dat d))) = .ok d .frz := rfl
@[simp] theorem varO_o {i : Nat} {ds : List PyData} : varO i (some (some (.own ds))) = .ok (.list ds) (.own i) := rfl
@[simp] theorem cE_eq {d : PyData} {G : Gm} : cE d G = .ok d .frz := rfl
@[simp] theorem op2_eq {g : PyData → PyData → EO} {ma mb : Gm → EO} {G : Gm} : op2 g ma mb G = (ma G).bind fun d _ => (mb G).bind fun e _ => g d e := rfl
@[simp] theorem op1_eq {g : PyData → EO} {ma : Gm → EO} {G : Gm} : op1 g ma G = (ma G).bind fun d _ => g d := rfl
@[simp] theorem nilA_eq {G : Gm} : nilA G = .ok [] := rfl
@[simp] theorem consA_eq {ma : Gm → EO} {mr : Gm → AO} {G : Gm} : consA ma mr G = (ma G).hard.bindA fun d _ => (mr G).bind fun ds => .ok (d :: ds) := rfl
@[simp] theorem callE_eq {f : List PyData → FO} {ms : Gm → AO} {G : Gm} : callE f ms G = (ms G).bindE fun ds => (f ds).toE := rfl
@[simp] theorem tupE_eq {ms : Gm → AO} {G : Gm} : tupE ms G = (ms G).bindE fun ds => if ds.length ≤ big then .ok (.tuple ds) .frz else .stuck := rfl
@[simp] theorem lstE_eq {ms : Gm → AO} {G : Gm} : lstE ms G = (ms G).bindE fun ds => if ds.length ≤ big then .ok (.list ds) .new else .stuck := rfl
@[simp] theorem ifE_eq {t : Gm → BO} {ma mb : Gm → EO} {G : Gm} : ifE t ma mb G = (t G).bindE fun k => if k = true then ma G else mb G := rfl
def andK (mb : Gm → EO) (G : Gm) : PyData → EO
  | .bool true => mb G
  | .bool false => .ok (.bool false) .frz
  | _ => .stuck
def orK (mb : Gm → EO) (G : Gm) : PyData → EO
  | .bool true => .ok (.bool true) .frz
  | .bool false => mb G
  | _ => .stuck
@[simp] theorem andE_eq {ma mb : Gm → EO} {G : Gm} : andE ma mb G = (ma G).bind fun d _ => andK mb G d := by
  unfold andE
  congr
@[simp] theorem orE_eq {ma mb : Gm → EO} {G : Gm} : orE ma mb G = (ma G).bind fun d _ => orK mb G d := by
  unfold orE
  congr
@[simp] theorem andK_b {mb : Gm → EO} {G : Gm} {b : Bool} : andK mb G (.bool b) = if b = true then mb G else .ok (.bool false) .frz := by cases b <;> rfl
@[simp] theorem orK_b {mb : Gm → EO} {G : Gm} {b : Bool} : orK mb G (.bool b) = if b = true then .ok (.bool true) .frz else mb G := by cases b <;> rfl
@[simp] theorem gNot_b {b : Bool} : gNot (.bool b) = .ok (.bool (!b)) .frz := rfl
def chainK (g2 : PyData → PyData → EO) (mc : Gm → EO) (G : Gm) (e : PyData) : PyData → EO
  | .bool true => (mc G).bind fun f _ => g2 e f
  | .bool false => .ok (.bool false) .frz
  | _ => .stuck
@[simp] theorem chainE_eq {g g2 : PyData → PyData → EO} {ma mb mc : Gm → EO} {G : Gm} : chainE g g2 ma mb mc G = (ma G).bind fun d _ => (mb G).bind fun e _ => (g d e).bind fun z _ => chainK g2 mc G e z := by
  unfold chainE
  congr
@[simp] theorem chainK_b {g2 : PyData → PyData → EO} {mc : Gm → EO} {G : Gm} {e : PyData} {b : Bool} : chainK g2 mc G e (.bool b) = if b = true then (mc G).bind fun f _ => g2 e f else .ok (.bool false) .frz := by cases b <;> rfl
/-! operators -/
def optE : Option PyData → EO
  | some d => .ok d .frz
  | none => .stuck
@[simp] theorem optE_some {d : PyData} : optE (some d) = .ok d .frz := rfl
@[simp] theorem gInt_eq {g : Int → Int → Option PyData} {i j : Int} : gInt g (.int i) (.int j) = optE (g i j) := by
  show (match g i j with
    | some d => EO.ok d .frz
    | none => .stuck) = _
  cases g i j <;> rfl
@[simp] theorem iSub_eq {i j : Int} : iSub i j = some (.int (i - j)) := rfl
@[simp] theorem iLt_eq {i j : Int} : iLt i j = some (.bool (decide (i < j))) := rfl
@[simp] theorem iLe_eq {i j : Int} : iLe i j = some (.bool (decide (i ≤ j))) := rfl
@[simp] theorem iGt_eq {i j : Int} : iGt i j = some (.bool (decide (j < i))) := rfl
@[simp] theorem iGe_eq {i j : Int} : iGe i j = some (.bool (decide (j ≤ i))) := rfl
theorem iMod_pos {i j : Int} (h : 0 < j) : iMod i j = some (.int (i % j)) := if_pos h
theorem iFdiv_pos {i j : Int} (h : 0 < j) (h2 : j < 1073741824) : iFdiv i j = some (.int (i / j)) := if_pos ⟨h, h2⟩
@[simp] theorem gAdd_i {i j : Int} : gAdd (.int i) (.int j) = .ok (.int (i + j)) .frz := rfl
@[simp] theorem gAdd_l {a b : List PyData} : gAdd (.list a) (.list b) = if a.length + b.length ≤ big then .ok (.list (a ++ b)) .new else .stuck := rfl
@[simp] theorem gAdd_t {a b : List PyData} : gAdd (.tuple a) (.tuple b) = if a.length + b.length ≤ big then .ok (.tuple (a ++ b)) .frz else .stuck := rfl
theorem gMul_i {i j : Int} (h : (-(2 ^ 64) < i ∧ i < 2 ^ 64) ∨ (-(2 ^ 64) < j ∧ j < 2 ^ 64)) : gMul (.int i) (.int j) = .ok (.int (i * j)) .frz := by
  show (if (decide (-(2 ^ 64) < i ∧ i < 2 ^ 64) || decide (-(2 ^ 64) < j ∧ j < 2 ^ 64)) = true then EO.ok (.int (i * j)) .frz else .stuck) = _
  rw [if_pos]
  rw [Bool.or_eq_true, decide_eq_true_eq, decide_eq_true_eq]
  exact h
@[simp] theorem gLen_l {ds : List PyData} : gLen (.list ds) = .ok (.int ds.length) .frz := rfl
@[simp] theorem gLen_t {ds : List PyData} : gLen (.tuple ds) = .ok (.int ds.length) .frz := rfl
@[simp] theorem gLen_d {ds : List (PyData × PyData)} : gLen (.dict ds) = .ok (.int ds.length) .frz := rfl
@[simp] theorem gTuple_l {ds : List PyData} : gTuple (.list ds) = .ok (.tuple ds) .frz := rfl
@[simp] theorem gTuple_t {ds : List PyData} : gTuple (.tuple ds) = .ok (.tuple ds) .frz := rfl
@[simp] theorem gList_l {ds : List PyData} : gList (.list ds) = .ok (.list ds) .new := rfl
@[simp] theorem gList_t {ds : List PyData} : gList (.tuple ds) = .ok (.list ds) .new := rfl
@[simp] theorem gRev_l {ds : List PyData} : gRev (.list ds) = .ok (.list ds.reverse) .new := rfl
@[simp] theorem gRev_t {ds : List PyData} : gRev (.tuple ds) = .ok (.tuple ds.reverse) .frz := rfl
@[simp] theorem gInt1_b {b : Bool} : gInt1 (.bool b) = .ok (.int (if b = true then 1 else 0)) .frz := rfl
@[simp] theorem gIx_l {ds : List PyData} {i : Int} : gIx (.list ds) (.int i) = optE (atI ds i) := by
  show (match atI ds i with
    | some d => EO.ok d .frz
    | none => .stuck) = _
  cases atI ds i <;> rfl
@[simp] theorem gIx_t {ds : List PyData} {i : Int} : gIx (.tuple ds) (.int i) = optE (atI ds i) := by
  show (match atI ds i with
    | some d => EO.ok d .frz
    | none => .stuck) = _
  cases atI ds i <;> rfl
@[simp] theorem gIx_d {ds : List (PyData × PyData)} {i : Int} : gIx (.dict ds) (.int i) = optE ((atI ds i).map (·.1)) := by
  show (match atI ds i with
    | some d => EO.ok d.1 .frz
    | none => .stuck) = _
  cases atI ds i <;> rfl
@[simp] theorem gEq_i {i j : Int} : gEq (.int i) (.int j) = .ok (.bool (i == j)) .frz := rfl
@[simp] theorem gNe_i {i j : Int} : gNe (.int i) (.int j) = .ok (.bool (!(i == j))) .frz := rfl
theorem gEq_s {d e : PyData} (h1 : SeqAt.shaped d = true) (h2 : SeqAt.shaped e = true) : gEq d e = .ok (.bool (PyData.eqv d e)) .frz := by
  unfold gEq
  split
  · rw [PyData.eqv]
  · rw [h1, h2]
    rfl
theorem gNe_s {d e : PyData} (h1 : SeqAt.shaped d = true) (h2 : SeqAt.shaped e = true) : gNe d e = .ok (.bool (!PyData.eqv d e)) .frz := by
  unfold gNe
  split
  · rw [PyData.eqv]
  · rw [h1, h2]
    rfl
@[simp] theorem gIs_n {neg : Bool} {d : PyData} : gIs neg d .none = .ok (.bool (if neg = true then !isNone d else isNone d)) .frz := by cases d <;> rfl
/-! statements -/
def retK (G : Gm) (d : PyData) (w : Wh) : SO := takeS G d w fun _ d => .ret d
@[simp] theorem retS_eq {m : Gm → EO} {G : Gm} : retS m G = (m G).bindS G (retK G) := rfl
@[simp] theorem retK_frz {G : Gm} {d : PyData} : retK G d .frz = .ret d := rfl
@[simp] theorem retK_new {G : Gm} {d : PyData} : retK G d .new = .ret d := rfl
def ownK (o : Option (Option Sl)) (k : List PyData → SO) : SO := match o with
  | some (some (.own ds)) => k ds
  | _ => .stuck
@[simp] theorem ownK_o {ds : List PyData} {k : List PyData → SO} : ownK (some (some (.own ds))) k = k ds := rfl
theorem takeS_own {G : Gm} {d : PyData} {j : Nat} {k : Gm → PyData → SO} : takeS G d (.own j) k = ownK G[j]? fun ds => k (G.set j (some (.dat (.list ds)))) (.list ds) := by
  show (match G[j]? with
    | some (some (.own ds)) => k (G.set j (some (.dat (.list ds)))) (.list ds)
    | _ => .stuck) = _
  cases G[j]? with
  | none => rfl
  | some o =>
    cases o with
    | none => rfl
    | some s => cases s <;> rfl
@[simp] theorem retK_own {G : Gm} {d : PyData} {j : Nat} : retK G d (.own j) = ownK G[j]? fun ds => .ret (.list ds) := takeS_own
def asgK (i : Nat) (G : Gm) (d : PyData) (w : Wh) : SO := match d, w with
  | .list ds, .new => .next (G.set i (some (.own ds)))
  | d, w => takeS G d w fun G d => .next (G.set i (some (.dat d)))
@[simp] theorem asgS_eq {i : Nat} {m : Gm → EO} {G : Gm} : asgS i m G = (m G).bindS G (asgK i G) := by
  unfold asgS
  congr
@[simp] theorem asgK_frz {i : Nat} {G : Gm} {d : PyData} : asgK i G d .frz = .next (G.set i (some (.dat d))) := by cases d <;> rfl
@[simp] theorem asgK_new {i : Nat} {G : Gm} {ds : List PyData} : asgK i G (.list ds) .new = .next (G.set i (some (.own ds))) := rfl
@[simp] theorem asgK_own {i j : Nat} {G : Gm} {d : PyData} : asgK i G d (.own j) = ownK G[j]? fun ds => .next ((G.set j (some (.dat (.list ds)))).set i (some (.dat (.list ds)))) := by
  have e : asgK i G d (.own j) = takeS G d (.own j) fun G d => .next (G.set i (some (.dat d))) := by cases d <;> rfl
  exact e.trans takeS_own
@[simp] theorem dropS_eq {m : Gm → EO} {G : Gm} : dropS m G = (m G).bindS G fun _ _ => .next G := rfl
@[simp] theorem appS_eq {j : Nat} {me : Gm → EO} {G : Gm} : appS j me G = ownK G[j]? fun ds => (me G).hard.bindS G fun d _ => if ds.length < big then .next (G.set j (some (.own (ds ++ [d])))) else .stuck := by
  unfold appS ownK
  cases G[j]? with
  | none => rfl
  | some o =>
    cases o with
    | none => rfl
    | some s => cases s <;> rfl
def lstK (d : PyData) (k : List PyData → SO) : SO := match d with
  | .list es => k es
  | _ => .stuck
@[simp] theorem lstK_l {es : List PyData} {k : List PyData → SO} : lstK (.list es) k = k es := rfl
@[simp] theorem extS_eq {j : Nat} {me : Gm → EO} {G : Gm} : extS j me G = ownK G[j]? fun ds => (me G).hard.bindS G fun d _ => lstK d fun es => if ds.length + es.length ≤ big then .next (G.set j (some (.own (ds ++ es)))) else .stuck := by
  unfold extS ownK
  cases G[j]? with
  | none => rfl
  | some o =>
    cases o with
    | none => rfl
    | some s => cases s <;> rfl
def intK (d : PyData) (k : Int → SO) : SO := match d with
  | .int n => k n
  | _ => .stuck
@[simp] theorem intK_i {n : Int} {k : Int → SO} : intK (.int n) k = k n := rfl
def ixK (o : Option Nat) (k : Nat → SO) : SO := match o with
  | some n => k n
  | none => .stuck
@[simp] theorem ixK_s {n : Nat} {k : Nat → SO} : ixK (some n) k = k n := rfl
@[simp] theorem setS_eq {j : Nat} {mi me : Gm → EO} {G : Gm} : setS j mi me G = (me G).hard.bindS G fun d _ => ownK G[j]? fun ds => (mi G).bindS G fun k _ => intK k fun n => ixK (ixN ds.length n) fun m => .next (G.set j (some (.own (ds.set m d)))) := by
  unfold setS
  congr
@[simp] theorem raiseS_eq {c : Nat} {G : Gm} : raiseS c G = .exc c none G := rfl
@[simp] theorem xbind_ok {G G2 : Gm} {d : PyData} {k : PyData → Gm → SO} : XO.bindS G (.ok d G2) k = k d G2 := rfl
@[simp] theorem asgXS_eq {i : Nat} {mx : Gm → XO} {G : Gm} : asgXS i mx G = (mx G).bindS G fun d G2 => .next (G2.set i (some (.dat d))) := rfl
@[simp] theorem appXS_eq {j : Nat} {mx : Gm → XO} {G : Gm} : appXS j mx G = ownK G[j]? fun _ => (mx G).bindS G fun d G2 => ownK G2[j]? fun ds => if ds.length < big then .next (G2.set j (some (.own (ds ++ [d])))) else .stuck := by
  unfold appXS ownK
  cases G[j]? with
  | none => rfl
  | some o =>
    cases o with
    | none => rfl
    | some s => cases s <;> rfl
def pairK (d : PyData) (k : PyData → PyData → SO) : SO := match d with
  | .tuple [u, v] => k u v
  | _ => .stuck
@[simp] theorem pairK_t {u v : PyData} {k : PyData → PyData → SO} : pairK (.tuple [u, v]) k = k u v := rfl
@[simp] theorem asg2S_eq {i j : Nat} {me : Gm → EO} {G : Gm} : asg2S i j me G = (me G).bindS G fun d _ => pairK d fun u v => .next ((G.set i (some (.dat u))).set j (some (.dat v))) := by
  unfold asg2S
  congr
/-! loops -/
def IO.run (o : IO) (G : Gm) (tgt : PyData → Gm → Option Gm) (body : Gm → SO) : SO := match o with
  | .ok ds G2 => forL tgt body ds G2
  | .exc c pl => .exc c pl G
  | .stuck => .stuck
@[simp] theorem forS_eq {mi : Gm → IO} {tgt : PyData → Gm → Option Gm} {body : Gm → SO} {G : Gm} : forS mi tgt body G = (mi G).run G tgt body := by
  unfold forS IO.run
  cases mi G <;> rfl
@[simp] theorem run_ok {ds : List PyData} {G G2 : Gm} {tgt : PyData → Gm → Option Gm} {body : Gm → SO} : IO.run (.ok ds G2) G tgt body = forL tgt body ds G2 := rfl
def IO.ofO (o : Option (List PyData)) (G : Gm) : IO := match o with
  | some ds => .ok ds G
  | none => .stuck
@[simp] theorem iterO_eq {m : Gm → Option (List PyData)} {G : Gm} : iterO m G = IO.ofO (m G) G := rfl
@[simp] theorem ofO_some {ds : List PyData} {G : Gm} : IO.ofO (some ds) G = .ok ds G := rfl
def rg1K (o : EO) : Option (List PyData) := match o with
  | .ok (.int n) _ => if n.natAbs ≤ 1000000 then some (rgD 0 n.toNat) else none
  | _ => none
def rg2K (o o2 : EO) : Option (List PyData) := match o, o2 with
  | .ok (.int i) _, .ok (.int j) _ => if i.natAbs ≤ 1000000 ∧ j.natAbs ≤ 1000000 then some (rgD i (j - i).toNat) else none
  | _, _ => none
@[simp] theorem rg1_eq {m : Gm → EO} {G : Gm} : rg1 m G = rg1K (m G) := rfl
@[simp] theorem rg2_eq {m m2 : Gm → EO} {G : Gm} : rg2 m m2 G = rg2K (m G) (m2 G) := rfl
theorem rg1K_i {n : Int} {w : Wh} (h : n.natAbs ≤ 1000000) : rg1K (.ok (.int n) w) = some (rgD 0 n.toNat) := if_pos h
theorem rg2K_i {i j : Int} {w u : Wh} (h : i.natAbs ≤ 1000000 ∧ j.natAbs ≤ 1000000) : rg2K (.ok (.int i) w) (.ok (.int j) u) = some (rgD i (j - i).toNat) := if_pos h
@[simp] theorem toN_eq {i : Nat} {d : PyData} {G : Gm} : toN i d G = some (G.set i (some (.dat d))) := rfl
@[simp] theorem to2_eq {i j : Nat} {x y : PyData} {G : Gm} : to2 i j (.tuple [x, y]) G = some ((G.set i (some (.dat x))).set j (some (.dat y))) := rfl
@[simp] theorem to3_eq {i j k : Nat} {x y z : PyData} {G : Gm} : to3 i j k (.tuple [x, y, z]) G = some (((G.set i (some (.dat x))).set j (some (.dat y))).set k (some (.dat z))) := rfl
def iterTK (o : EO) (G : Gm) : IO := match o with
  | .ok (.tuple ds) _ => .ok ds G
  | .exc c pl => .exc c pl
  | _ => .stuck
@[simp] theorem iterT_eq {m : Gm → EO} {G : Gm} : iterT m G = iterTK (m G) G := rfl
@[simp] theorem iterTK_t {ds : List PyData} {w : Wh} {G : Gm} : iterTK (.ok (.tuple ds) w) G = .ok ds G := rfl
def iterLK (o : EO) (G : Gm) : IO := match o with
  | .ok (.list ds) (.own j) => match G[j]? with
    | some (some (.own es)) => .ok es (G.set j (some (.dat (.list es))))
    | _ => .stuck
  | .ok (.list ds) _ => .ok ds G
  | .exc c pl => .exc c pl
  | _ => .stuck
@[simp] theorem iterL_eq {m : Gm → EO} {G : Gm} : iterL m G = iterLK (m G) G := rfl
@[simp] theorem iterLK_frz {ds : List PyData} {G : Gm} : iterLK (.ok (.list ds) .frz) G = .ok ds G := rfl
@[simp] theorem iterLK_new {ds : List PyData} {G : Gm} : iterLK (.ok (.list ds) .new) G = .ok ds G := rfl
def ownI (o : Option (Option Sl)) (k : List PyData → IO) : IO := match o with
  | some (some (.own ds)) => k ds
  | _ => .stuck
@[simp] theorem ownI_o {ds : List PyData} {k : List PyData → IO} : ownI (some (some (.own ds))) k = k ds := rfl
@[simp] theorem iterLK_own {ds : List PyData} {j : Nat} {G : Gm} : iterLK (.ok (.list ds) (.own j)) G = ownI G[j]? fun es => .ok es (G.set j (some (.dat (.list es)))) := by
  show (match G[j]? with
    | some (some (.own es)) => IO.ok es (G.set j (some (.dat (.list es))))
    | _ => .stuck) = _
  cases G[j]? with
  | none => rfl
  | some o =>
    cases o with
    | none => rfl
    | some s => cases s <;> rfl
/-! comprehensions -/
def IC.run (o : IC) (step : PyData → Option (Option PyData)) : EO := match o with
  | .ok ds => if ds.length ≤ big then (match compL step ds with
    | some ys => .ok (.list ys) .new
    | none => .stuck) else .stuck
  | .stuck => .stuck
theorem compE_eq {mi : Gm → IC} {vs : List Nat} {tgt : PyData → Gm → Option Gm} {mt : Gm → BO} {me : Gm → EO} {G : Gm} : compE mi vs tgt mt me G = (mi G).run (stepC tgt mt me (wipeG G vs)) := by
  unfold compE IC.run
  cases mi G <;> rfl
theorem run_comp {ds : List PyData} {step : PyData → Option (Option PyData)} {f : PyData → Option PyData} (hl : ds.length ≤ big) (h : ∀ d ∈ ds, step d = some (f d)) : IC.run (.ok ds) step = .ok (.list (ds.filterMap f)) .new := by
  unfold IC.run
  simp only
  rw [if_pos hl, compL_map h]
def IC.ofO (o : Option (List PyData)) : IC := match o with
  | some ds => .ok ds
  | none => .stuck
@[simp] theorem compO_eq {m : Gm → Option (List PyData)} {G : Gm} : compO m G = IC.ofO (m G) := rfl
@[simp] theorem icO_some {ds : List PyData} : IC.ofO (some ds) = .ok ds := rfl
def compiLK (o : EO) : IC := match o with
  | .ok (.list ds) _ => .ok ds
  | _ => .stuck
def compiTK (o : EO) : IC := match o with
  | .ok (.tuple ds) _ => .ok ds
  | _ => .stuck
@[simp] theorem compiL_eq {m : Gm → EO} {G : Gm} : compiL m G = compiLK (m G) := rfl
@[simp] theorem compiT_eq {m : Gm → EO} {G : Gm} : compiT m G = compiTK (m G) := rfl
@[simp] theorem compiLK_l {ds : List PyData} {w : Wh} : compiLK (.ok (.list ds) w) = .ok ds := rfl
@[simp] theorem compiTK_t {ds : List PyData} {w : Wh} : compiTK (.ok (.tuple ds) w) = .ok ds := rfl
def tstK (b : BO) (k : Option (Option PyData)) : Option (Option PyData) := match b with
  | .ok true => k
  | .ok false => some none
  | _ => none
@[simp] theorem tstK_b {b : Bool} {k : Option (Option PyData)} : tstK (.ok b) k = if b = true then k else some none := by cases b <;> rfl
def eltK (e : EO) : Option (Option PyData) := match e with
  | .ok y _ => some (some y)
  | _ => none
@[simp] theorem eltK_ok {y : PyData} {w : Wh} : eltK (.ok y w) = some (some y) := rfl
def tgtK (o : Option Gm) (k : Gm → Option (Option PyData)) : Option (Option PyData) := match o with
  | some G => k G
  | none => none
@[simp] theorem tgtK_s {G : Gm} {k : Gm → Option (Option PyData)} : tgtK (some G) k = k G := rfl
@[simp] theorem stepC_eq {tgt : PyData → Gm → Option Gm} {mt : Gm → BO} {me : Gm → EO} {G : Gm} {d : PyData} : stepC tgt mt me G d = tgtK (tgt d G) fun G1 => tstK (mt G1) (eltK (me G1).hard) := by
  unfold stepC tgtK
  cases tgt d G with
  | none => rfl
  | some G1 =>
    simp only
    unfold tstK
    cases mt G1 with
    | exc c pl => rfl
    | stuck => rfl
    | ok b =>
      cases b with
      | false => rfl
      | true =>
        show (match (me G1).hard with
          | .ok y _ => some (some y)
          | _ => none) = eltK (me G1).hard
        cases (me G1).hard <;> rfl
@[simp] theorem wipeG_nil {G : Gm} : wipeG G [] = G := rfl
@[simp] theorem wipeG_cons {G : Gm} {v : Nat} {vs : List Nat} : wipeG G (v :: vs) = (wipeG G vs).set v none := rfl
/-! ranges as data -/
def rgLK (o : Option (List PyData)) : EO := match o with
  | some ds => .ok (.list ds) .new
  | none => .stuck
def rgTK (o : Option (List PyData)) : EO := match o with
  | some ds => .ok (.tuple ds) .frz
  | none => .stuck
@[simp] theorem rgLE_eq {m : Gm → Option (List PyData)} {G : Gm} : rgLE m G = rgLK (m G) := rfl
@[simp] theorem rgTE_eq {m : Gm → Option (List PyData)} {G : Gm} : rgTE m G = rgTK (m G) := rfl
@[simp] theorem rgLK_s {ds : List PyData} : rgLK (some ds) = .ok (.list ds) .new := rfl
@[simp] theorem rgTK_s {ds : List PyData} : rgTK (some ds) = .ok (.tuple ds) .frz := rfl
/-! pops -/
def popK (G : Gm) (j : Nat) (o : Option (Option Sl)) (e : EO) : XO := match o, e with
  | some (some (.own ds)), .ok (.int i) _ => if 0 ≤ i ∧ i < ds.length ∧ ds.length ≤ big then match ds[i.toNat]? with
      | some d => .ok d (G.set j (some (.own (ds.eraseIdx i.toNat))))
      | none => .stuck else .stuck
  | _, _ => .stuck
@[simp] theorem popAtX_eq {j : Nat} {mi : Gm → EO} {G : Gm} : popAtX j mi G = popK G j G[j]? (mi G) := rfl
theorem popK_o {G : Gm} {j : Nat} {ds : List PyData} {i : Int} {w : Wh} {d : PyData} (h0 : 0 ≤ i) (hb : ds.length ≤ big) (h : ds[i.toNat]? = some d) : popK G j (some (some (.own ds))) (.ok (.int i) w) = .ok d (G.set j (some (.own (ds.eraseIdx i.toNat)))) := by
  obtain ⟨hl, _⟩ := List.getElem?_eq_some_iff.mp h
  unfold popK
  simp only
  rw [if_pos ⟨h0, by omega, hb⟩, h]
/-! slices -/
def slK (d : PyData) (l u : Option (Option Int)) : EO := match l, u with
  | some l, some u => gSl d l u
  | _, _ => .stuck
@[simp] theorem slE_eq {me : Gm → EO} {ml mh : Gm → Option (Option Int)} {G : Gm} : slE me ml mh G = (me G).bind fun d _ => slK d (ml G) (mh G) := rfl
@[simp] theorem slK_s {d : PyData} {l u : Option Int} : slK d (some l) (some u) = gSl d l u := rfl
@[simp] theorem partN_eq {G : Gm} : partN G = some none := rfl
def partK (e : EO) : Option (Option Int) := match e with
  | .ok (.int i) _ => some (some i)
  | _ => none
@[simp] theorem partS_eq {m : Gm → EO} {G : Gm} : partS m G = partK (m G) := rfl
@[simp] theorem partK_i {i : Int} {w : Wh} : partK (.ok (.int i) w) = some (some i) := rfl
@[simp] theorem gSl_l {ds : List PyData} {lo hi : Option Int} : gSl (.list ds) lo hi = .ok (.list (cutD ds lo hi)) .new := rfl
@[simp] theorem gSl_t {ds : List PyData} {lo hi : Option Int} : gSl (.tuple ds) lo hi = .ok (.tuple (cutD ds lo hi)) .frz := rfl
/-! tuples of ints as a whole -/
@[simp] theorem gIx_tup {o : List Int} {i : Int} : gIx (tupD o) (.int i) = optE (atI (o.map PyData.int) i) := gIx_t
@[simp] theorem gLen_tup {o : List Int} : gLen (tupD o) = .ok (.int o.length) .frz := by
  show EO.ok (.int (o.map PyData.int).length) .frz = _
  rw [List.length_map]
@[simp] theorem gRev_tup {o : List Int} : gRev (tupD o) = .ok (tupD o.reverse) .frz := by
  show EO.ok (.tuple (o.map PyData.int).reverse) .frz = _
  rw [← List.map_reverse]
  rfl
/-! defs -/
theorem defM_ret {n k : Nat} {m : Gm → SO} {ds : List PyData} {d : PyData} (h : ds.length = k) (e : m (startG n ds) = .ret d) : defM n k m ds = .ok d := by
  unfold defM
  rw [if_pos h, e]
theorem defM_exc {n k : Nat} {m : Gm → SO} {ds : List PyData} {c : Nat} {pl : Option PyData} {G : Gm} (h : ds.length = k) (e : m (startG n ds) = .exc c pl G) : defM n k m ds = .exc c pl := by
  unfold defM
  rw [if_pos h, e]
theorem defM_next {n k : Nat} {m : Gm → SO} {ds : List PyData} {G : Gm} (h : ds.length = k) (e : m (startG n ds) = .next G) : defM n k m ds = .ok .none := by
  unfold defM
  rw [if_pos h, e]
end VL

set_option Elab.async false
set_option linter.all false
set_option maxRecDepth 100000
/-! MC: shapes of worths, and when two worths are equal. -/
namespace VL
open PySem L2
/-- a worth without dicts and texts, at most k deep -/
def Shp (k : Nat) (d : PyData) : Prop := d.canLay0 = true ∧ d.depth ≤ k
theorem Shp.shaped {k : Nat} {d : PyData} (h : Shp k d) (hk : k ≤ 64) : SeqAt.shaped d = true := by
  unfold SeqAt.shaped
  rw [h.1, Bool.true_and, decide_eq_true_eq]
  exact Nat.le_trans h.2 hk
theorem shp_int (i : Int) : Shp 1 (.int i) := ⟨rfl, by simp [PyData.depth]⟩
theorem shp_bool (b : Bool) : Shp 1 (.bool b) := ⟨rfl, by simp [PyData.depth]⟩
theorem shp_none : Shp 1 .none := ⟨rfl, by simp [PyData.depth]⟩
theorem shp_all {k : Nat} : ∀ {ds : List PyData}, (∀ d ∈ ds, Shp k d) → PyData.canLayAll0 ds = true ∧ PyData.depthAll ds ≤ k
  | [], _ => ⟨rfl, by simp [PyData.depthAll]⟩
  | d :: ds, h => by
    have h1 := h d List.mem_cons_self
    have h2 := shp_all fun x hx => h x (List.mem_cons_of_mem _ hx)
    refine ⟨by rw [PyData.canLayAll0, h1.1, h2.1]; rfl, ?_⟩
    rw [PyData.depthAll]
    exact Nat.max_le.mpr ⟨h1.2, h2.2⟩
theorem shp_list {k : Nat} {ds : List PyData} (h : ∀ d ∈ ds, Shp k d) : Shp (k + 1) (.list ds) := by
  have := shp_all h
  refine ⟨by rw [PyData.canLay0]; exact this.1, ?_⟩
  rw [PyData.depth]
  omega
theorem shp_tuple {k : Nat} {ds : List PyData} (h : ∀ d ∈ ds, Shp k d) : Shp (k + 1) (.tuple ds) := by
  have := shp_all h
  refine ⟨by rw [PyData.canLay0]; exact this.1, ?_⟩
  rw [PyData.depth]
  omega
theorem shp_tup (o : List Int) : Shp 2 (tupD o) := shp_tuple fun d hd => by
  obtain ⟨v, _, rfl⟩ := List.mem_map.mp hd
  exact shp_int v
theorem shp_ints (o : List Int) : Shp 2 (.list (o.map PyData.int)) := shp_list fun d hd => by
  obtain ⟨v, _, rfl⟩ := List.mem_map.mp hd
  exact shp_int v
theorem shp_tups (os : List (List Int)) : Shp 3 (.list (os.map tupD)) := shp_list fun d hd => by
  obtain ⟨v, _, rfl⟩ := List.mem_map.mp hd
  exact shp_tup v
theorem shp_map {α : Type} {f : α → PyData} {k : Nat} (h : ∀ x, Shp k (f x)) (xs : List α) : ∀ d ∈ xs.map f, Shp k d := fun d hd => by
  obtain ⟨v, _, rfl⟩ := List.mem_map.mp hd
  exact h v
theorem eqv_ints : ∀ a b : List Int, PyData.eqvAll (a.map PyData.int) (b.map PyData.int) = decide (a = b)
  | [], [] => by rw [List.map_nil, PyData.eqvAll]; rfl
  | [], y :: b => by rw [List.map_nil, List.map_cons, PyData.eqvAll]; simp
  | x :: a, [] => by rw [List.map_nil, List.map_cons, PyData.eqvAll]; simp
  | x :: a, y :: b => by
    rw [List.map_cons, List.map_cons, PyData.eqvAll, PyData.eqv, eqv_ints a b]
    by_cases h : x = y <;> simp [h]
theorem eqv_map {α : Type} [DecidableEq α] {f : α → PyData} (h : ∀ x y, PyData.eqv (f x) (f y) = decide (x = y)) : ∀ a b : List α, PyData.eqvAll (a.map f) (b.map f) = decide (a = b)
  | [], [] => by rw [List.map_nil, PyData.eqvAll]; rfl
  | [], y :: b => by rw [List.map_nil, List.map_cons, PyData.eqvAll]; simp
  | x :: a, [] => by rw [List.map_nil, List.map_cons, PyData.eqvAll]; simp
  | x :: a, y :: b => by
    rw [List.map_cons, List.map_cons, PyData.eqvAll, h, eqv_map h a b]
    by_cases h : x = y <;> simp [h]
theorem eqv_tup (a b : List Int) : PyData.eqv (tupD a) (tupD b) = decide (a = b) := by
  show PyData.eqv (.tuple _) (.tuple _) = _
  rw [PyData.eqv]
  exact eqv_ints a b
theorem eqv_tups (a b : List (List Int)) : PyData.eqv (.list (a.map tupD)) (.list (b.map tupD)) = decide (a = b) := by
  rw [PyData.eqv]
  exact eqv_map eqv_tup a b
theorem gEq_tup {a b : List Int} : gEq (tupD a) (tupD b) = .ok (.bool (decide (a = b))) .frz := by
  rw [gEq_s ((shp_tup a).shaped (by decide)) ((shp_tup b).shaped (by decide)), eqv_tup]
theorem gNe_tup {a b : List Int} : gNe (tupD a) (tupD b) = .ok (.bool (!decide (a = b))) .frz := by
  rw [gNe_s ((shp_tup a).shaped (by decide)) ((shp_tup b).shaped (by decide)), eqv_tup]
theorem gEq_tups {a b : List (List Int)} : gEq (.list (a.map tupD)) (.list (b.map tupD)) = .ok (.bool (decide (a = b))) .frz := by
  rw [gEq_s ((shp_tups a).shaped (by decide)) ((shp_tups b).shaped (by decide)), eqv_tups]
theorem gNe_tups {a b : List (List Int)} : gNe (.list (a.map tupD)) (.list (b.map tupD)) = .ok (.bool (!decide (a = b))) .frz := by
  rw [gNe_s ((shp_tups a).shaped (by decide)) ((shp_tups b).shaped (by decide)), eqv_tups]
theorem any_tups {a : List Int} : ∀ {os : List (List Int)}, ((os.map tupD).any fun z => PyData.eqv z (tupD a)) = os.contains a
  | [] => rfl
  | o :: os => by
    rw [List.map_cons, List.any_cons, eqv_tup, any_tups, List.contains_cons]
    congr 1
    rw [Bool.eq_iff_iff, decide_eq_true_eq, beq_iff_eq]
    exact ⟨Eq.symm, Eq.symm⟩
theorem gIn_tups {a : List Int} {os : List (List Int)} : gIn (tupD a) (.list (os.map tupD)) = .ok (.bool (os.contains a)) .frz := by
  unfold gIn
  simp only
  rw [(shp_tup a).shaped (by decide), (shp_tups os).shaped (by decide), any_tups]
  rfl
theorem gNotIn_tups {a : List Int} {os : List (List Int)} : gNotIn (tupD a) (.list (os.map tupD)) = .ok (.bool (!os.contains a)) .frz := by
  unfold gNotIn
  simp only
  rw [(shp_tup a).shaped (by decide), (shp_tups os).shaped (by decide), any_tups]
  rfl
end VL

set_option Elab.async false
set_option linter.all false
set_option maxRecDepth 100000
/-! MD: comprehensions and loops over lists of one kind; places, cuts. -/
namespace VL
open PySem L2
theorem fm_map {α β : Type} {enc : α → PyData} {p : α → Bool} {g : α → β} {f : PyData → Option β} : ∀ {xs : List α}, (∀ a ∈ xs, f (enc a) = if p a = true then some (g a) else none) → (xs.map enc).filterMap f = (xs.filter p).map g
  | [], _ => rfl
  | x :: xs, h => by
    rw [List.map_cons, List.filterMap_cons, h x List.mem_cons_self, List.filter_cons]
    have ih := fm_map (enc := enc) (p := p) (g := g) (f := f) (xs := xs) fun a ha => h a (List.mem_cons_of_mem _ ha)
    by_cases hp : p x = true
    · rw [if_pos hp, if_pos hp, ih]
      rfl
    · rw [if_neg hp, if_neg hp, ih]
/-- a comprehension over a list of one kind -/
theorem comp_fm {α : Type} {enc : α → PyData} {step : PyData → Option (Option PyData)} {p : α → Bool} {g : α → PyData} {xs : List α} (hl : xs.length ≤ big) (h : ∀ a ∈ xs, step (enc a) = some (if p a = true then some (g a) else none)) :
    IC.run (.ok (xs.map enc)) step = .ok (.list ((xs.filter p).map g)) .new := by
  rw [run_comp (f := fun d => (step d).getD none) (by rw [List.length_map]; exact hl) fun d hd => by
    obtain ⟨a, ha, rfl⟩ := List.mem_map.mp hd
    rw [h a ha]
    rfl]
  rw [fm_map (p := p) (g := g) fun a ha => by rw [h a ha]; rfl]
theorem comp_all {α : Type} {enc : α → PyData} {step : PyData → Option (Option PyData)} {g : α → PyData} {xs : List α} (hl : xs.length ≤ big) (h : ∀ a ∈ xs, step (enc a) = some (some (g a))) :
    IC.run (.ok (xs.map enc)) step = .ok (.list (xs.map g)) .new := by
  rw [comp_fm (p := fun _ => true) (g := g) hl fun a ha => by rw [h a ha]; rfl]
  rw [List.filter_eq_self.mpr fun _ _ => rfl]
/-- comprehensions over a range -/
theorem rgD_map (lo : Int) (n : Nat) : rgD lo n = (List.range n).map fun i => PyData.int (lo + ((i : Nat) : Int)) := rfl
theorem atI_map {α : Type} {f : α → PyData} {xs : List α} {p : Nat} {z : α} (h : p < xs.length) : atI (xs.map f) ((p : Nat) : Int) = some (f (xs.getD p z)) := by
  refine atI_nat (by omega) ?_
  rw [Int.toNat_natCast, List.getElem?_map, List.getElem?_eq_getElem h, List.getD_eq_getElem?_getD, List.getElem?_eq_getElem h]
  rfl
theorem ixN_last {n : Nat} (h : 0 < n) : ixN n (-1) = some (n - 1) := by
  unfold ixN
  rw [if_neg (by omega), if_pos (by omega)]
  congr 1
  omega
theorem atI_last {α : Type} {f : α → PyData} {xs : List α} {z : α} (h : 0 < xs.length) : atI (xs.map f) (-1) = some (f (xs.getD (xs.length - 1) z)) := by
  unfold atI
  rw [List.length_map, ixN_last h]
  show (xs.map f)[xs.length - 1]? = _
  rw [List.getElem?_map, List.getElem?_eq_getElem (by omega), List.getD_eq_getElem?_getD, List.getElem?_eq_getElem (by omega)]
  rfl
theorem cut_toN {α : Type} {f : α → PyData} {xs : List α} {p : Nat} : cutD (xs.map f) none (some ((p : Nat) : Int)) = (xs.take p).map f := by
  unfold cutD
  rw [HT.sIx_nat, HT.sIx_none, List.drop_zero, Nat.sub_zero, List.length_map, ← List.map_take]
  congr 1
  rw [Nat.min_def]
  split
  · rfl
  · rename_i h
    rw [List.take_of_length_le (Nat.le_refl _), List.take_of_length_le (by omega)]
theorem cut_fromN {α : Type} {f : α → PyData} {xs : List α} {p : Nat} : cutD (xs.map f) (some ((p : Nat) : Int)) none = (xs.drop p).map f := by
  unfold cutD
  rw [HT.sIx_nat, HT.sIx_none, List.take_of_length_le (by rw [List.length_drop]; exact Nat.le_refl _), List.length_map, ← List.map_drop]
  congr 1
  rw [Nat.min_def]
  split
  · rfl
  · rename_i h
    rw [List.drop_eq_nil_of_le (Nat.le_refl _), List.drop_eq_nil_of_le (by omega)]
/-- a loop over a list of one kind, by an invariant of what is behind and what is to come -/
theorem for_list {α : Type} {enc : α → PyData} {tgt : PyData → Gm → Option Gm} {body : Gm → SO} (P : List α → Gm → Prop) : ∀ {xs : List α} {pre : List α} {G : Gm}, P pre G →
    (∀ pre a G, a ∈ xs → P pre G → ∃ G1 G2, tgt (enc a) G = some G1 ∧ body G1 = .next G2 ∧ P (pre ++ [a]) G2) → ∃ G2, forL tgt body (xs.map enc) G = .next G2 ∧ P (pre ++ xs) G2
  | [], pre, G, p, _ => ⟨G, rfl, by rw [List.append_nil]; exact p⟩
  | x :: xs, pre, G, p, h => by
    obtain ⟨G1, G2, h1, h2, p2⟩ := h pre x G List.mem_cons_self p
    obtain ⟨G3, h3, p3⟩ := for_list P (xs := xs) (pre := pre ++ [x]) (G := G2) p2 fun pre a G ha => h pre a G (List.mem_cons_of_mem _ ha)
    refine ⟨G3, ?_, by rw [List.append_assoc] at p3; exact p3⟩
    rw [List.map_cons]
    unfold forL
    rw [h1]
    simp only
    rw [h2]
    exact h3
end VL
namespace VL
open PySem L2
/-- an assignment that freezes -/
def asfK (i : Nat) (G : Gm) (d : PyData) (w : Wh) : SO := takeS G d w fun G d => .next (G.set i (some (.dat d)))
@[simp] theorem asgF_eq {i : Nat} {m : Gm → EO} {G : Gm} : asgF i m G = (m G).bindS G (asfK i G) := rfl
@[simp] theorem asfK_frz {i : Nat} {G : Gm} {d : PyData} : asfK i G d .frz = .next (G.set i (some (.dat d))) := rfl
@[simp] theorem asfK_new {i : Nat} {G : Gm} {d : PyData} : asfK i G d .new = .next (G.set i (some (.dat d))) := rfl
/-- texts, equal or not -/
theorem gEq_str {x y : Str} (hx : SeqAt.shaped (.str x) = true := by decide +kernel) (hy : SeqAt.shaped (.str y) = true := by decide +kernel) : gEq (.str x) (.str y) = .ok (.bool (x == y)) .frz := by
  rw [gEq_s hx hy, PyData.eqv]
theorem gNe_str {x y : Str} (hx : SeqAt.shaped (.str x) = true := by decide +kernel) (hy : SeqAt.shaped (.str y) = true := by decide +kernel) : gNe (.str x) (.str y) = .ok (.bool (!(x == y))) .frz := by
  rw [gNe_s hx hy, PyData.eqv]
end VL
namespace VL
open PySem L2
/-- lists of truths -/
theorem eqv_bools (a b : List Bool) : PyData.eqv (.list (a.map PyData.bool)) (.list (b.map PyData.bool)) = decide (a = b) := by
  rw [PyData.eqv]
  refine eqv_map (fun x y => ?_) a b
  rw [PyData.eqv]
  cases x <;> cases y <;> rfl
theorem gEq_bools {a b : List Bool} : gEq (.list (a.map PyData.bool)) (.list (b.map PyData.bool)) = .ok (.bool (decide (a = b))) .frz := by
  rw [gEq_s ((shp_list (shp_map shp_bool a)).shaped (by decide)) ((shp_list (shp_map shp_bool b)).shaped (by decide)), eqv_bools]
/-- which exception a def raises, for a look by the kernel -/
def isExc (c : Nat) : FO → Bool
  | .exc d none => Nat.beq d c
  | _ => false
theorem isExc_ok {c : Nat} {o : FO} (h : isExc c o = true) : o = .exc c none := by
  unfold isExc at h
  split at h
  · rw [Nat.eq_of_beq_eq_true h]
  · cases h
end VL
namespace VL
open PySem L2
/-- a loop that gathers: R tells how the gathered list lies -/
theorem for_acc {α β : Type} {enc : α → PyData} {tgt : PyData → Gm → Option Gm} {body : Gm → SO} (B : Nat) (R : List β → Gm → Prop) (f : α → List β) : ∀ {xs : List α} {acc : List β} {G : Gm}, R acc G → acc.length + (xs.flatMap f).length ≤ B →
    (∀ a ∈ xs, ∀ acc G, R acc G → acc.length + (f a).length ≤ B → ∃ G1 G2, tgt (enc a) G = some G1 ∧ body G1 = .next G2 ∧ R (acc ++ f a) G2) → ∃ G2, forL tgt body (xs.map enc) G = .next G2 ∧ R (acc ++ xs.flatMap f) G2
  | [], acc, G, r, _, _ => ⟨G, rfl, by rw [List.flatMap_nil, List.append_nil]; exact r⟩
  | x :: xs, acc, G, r, hB, h => by
    rw [List.flatMap_cons, List.length_append] at hB
    obtain ⟨G1, G2, h1, h2, r2⟩ := h x List.mem_cons_self acc G r (by omega)
    obtain ⟨G3, h3, r3⟩ := for_acc B R f (xs := xs) (acc := acc ++ f x) (G := G2) r2 (by rw [List.length_append]; omega) fun a ha => h a (List.mem_cons_of_mem _ ha)
    refine ⟨G3, ?_, by rw [List.flatMap_cons, ← List.append_assoc]; exact r3⟩
    rw [List.map_cons]
    unfold forL
    rw [h1]
    simp only
    rw [h2]
    exact h3
theorem rgD_nat (lo n : Nat) : rgD (lo : Int) n = (List.range n).map fun i => PyData.int (((lo + i : Nat)) : Int) := by
  rw [rgD_map]
  apply List.map_congr_left
  intro i _
  congr 1
theorem rgD_zero (n : Nat) : rgD 0 n = (List.range n).map fun i => PyData.int ((i : Nat) : Int) := by
  rw [rgD_map]
  apply List.map_congr_left
  intro i _
  rw [Int.zero_add]
end VL

set_option Elab.async false
set_option linter.all false
set_option maxRecDepth 100000
set_option maxHeartbeats 4000000
namespace Lw
open PySem L2 VL
def top (i : Nat) : Stmt := PySem.Challenge.pw_lowerorders_k10_whole_chain_roads.main.body.getD i (.Pass ⟨0, 0, 0, 0⟩)
abbrev s_in_range : Stmt := top 7
def b_in_range : Gm → SO := (retS (andE (op1 (gIsi .int) (varE 0)) (andE (op1 gNot (op1 (gIsi .bool) (varE 0))) (chainE (gInt iLe) (gInt iLe) (varE 1) (varE 0) (varE 2)))))
def m_in_range : List PyData → FO := defM 3 3 b_in_range
abbrev N_in_range : List Str := ["value", "low", "high"]
theorem sc_in_range : FnScope N_in_range ["value", "low", "high"] (defScope s_in_range) := ⟨rfl, rfl, rfl, by decide +kernel, rfl, by decide +kernel, by decide +kernel⟩
theorem ok_in_range {P : Program} {w : World} {K : PySem.W.Frag} {mg : Str → Option Value} {base : Heap} {ct : Nat → Addr} {f : Addr} {fd : FuncData} (F : Fun K "in_range" "in_range" s_in_range f fd) (b_isinstance : mg "isinstance" = none) (b_int : mg "int" = none) (b_bool : mg "bool" = none) :
    FnOk P w K mg base (L2.CX P w) 1 f fd ["value", "low", "high"] (spM K ct m_in_range) :=
  have nd := sc_in_range.nd
  fn_ok (k := 0) F sc_in_range fun cdv A outer s H E hr tk hp =>
  (ess_one (es_ret (ee_and (ee_isi .int b_isinstance b_int (by decide +kernel) (ee_var 0)) (ee_and (ee_not (ee_isi .bool b_isinstance b_bool (by decide +kernel) (ee_var 0))) (ee_one (ee_chain cm_le cm_le (ee_var 1) (ee_var 0) (ee_var 2)))))))
abbrev s_is_order : Stmt := top 8
def C1_is_order : Gm → EO := compE (compiT (varE 0)) [1] (toN 1) (notB (truthB (callE m_in_range (consA (varE 1) (consA (cE (.int 0)) (consA (op2 (gInt iSub) (op1 gLen (varE 0)) (cE (.int 1))) nilA)))))) (varE 1)
def b_is_order : Gm → SO := (seqS (ifS (orB (notB (truthB (op1 (gIsi .tuple) (varE 0)))) (notB (boolB (chainE (gInt iLe) (gInt iLe) (cE (.int 1)) (op1 gLen (varE 0)) (cE (.int 6)))))) (retS (cE (.bool false))) nilS)
  (seqS (ifS (truthB C1_is_order) (retS (cE (.bool false))) nilS)
  (retS (op2 gEq (op1 gLenSet (varE 0)) (op1 gLen (varE 0))))))
def m_is_order : List PyData → FO := defM 2 1 b_is_order
abbrev N_is_order : List Str := ["value", "one"]
theorem sc_is_order : FnScope N_is_order ["value"] (defScope s_is_order) := ⟨rfl, rfl, rfl, by decide +kernel, rfl, by decide +kernel, by decide +kernel⟩
theorem ok_is_order {P : Program} {w : World} {K : PySem.W.Frag} {mg : Str → Option Value} {base : Heap} {ct : Nat → Addr} {f : Addr} {fd : FuncData} (F : Fun K "is_order" "is_order" s_is_order f fd) (b_isinstance : mg "isinstance" = none) (b_tuple : mg "tuple" = none) (b_len : mg "len" = none) (b_set : mg "set" = none) {t_MAX_SIZE : Tok} (k_MAX_SIZE : mg "MAX_SIZE" = some (.int 6 t_MAX_SIZE)) (C_in_range : CallT P w K mg base ct "in_range" 1 m_in_range) :
    FnOk P w K mg base (L2.CX P w) 2 f fd ["value"] (spM K ct m_is_order) :=
  have nd := sc_is_order.nd
  fn_ok (k := 1) F sc_is_order fun cdv A outer s H E hr tk hp =>
  (ess_cons (es_if (eb_w (ew_or (eb_not (eb_truth (ee_isi .tuple b_isinstance b_tuple (by decide +kernel) (ee_var 0)))) (ew_or1 (eb_not (eb_chain cm_le cm_le ee_int (ee_len b_len (ee_var 0)) (ee_glI k_MAX_SIZE)))))) (ess_one (es_ret ee_bl)) ess_nil)
  (ess_cons (es_if (eb_truth (ee_comp N_is_order (defScope s_is_order) [("one", 1)] rfl nd (by decide +kernel) (ec_tup (ct := ct) (ee_var 0)) (fun _ _ _ _ _ => (egw_name nd (by decide))) (fun _ _ _ _ _ => (ets_one (eb_not (eb_truth (ee_fn C_in_range hr takes0 (ea_cons (ee_var 1) (ea_cons ee_int (ea_cons (ee_sub (ee_len b_len (ee_var 0)) ee_int) ea_nil)))))))) (fun _ _ _ _ _ => (ee_var 1)))) (ess_one (es_ret ee_bl)) ess_nil)
  (ess_one (es_ret (ee_cmp (cm_eq hr) (ee_lenSet rfl b_len b_set (ee_var 0)) (ee_len b_len (ee_var 0)))))))
abbrev s_exchanged : Stmt := top 9
def b_exchanged : Gm → SO := (seqS (asgS 3 (op1 gList (varE 0)))
  (seqS (setS 3 (varE 1) (op2 gIx (varE 0) (varE 2)))
  (seqS (setS 3 (varE 2) (op2 gIx (varE 0) (varE 1)))
  (retS (op1 gTuple (varE 3))))))
def m_exchanged : List PyData → FO := defM 4 3 b_exchanged
abbrev N_exchanged : List Str := ["order", "place", "later", "result"]
theorem sc_exchanged : FnScope N_exchanged ["order", "place", "later"] (defScope s_exchanged) := ⟨rfl, rfl, rfl, by decide +kernel, rfl, by decide +kernel, by decide +kernel⟩
theorem ok_exchanged {P : Program} {w : World} {K : PySem.W.Frag} {mg : Str → Option Value} {base : Heap} {ct : Nat → Addr} {f : Addr} {fd : FuncData} (F : Fun K "exchanged" "exchanged" s_exchanged f fd) (b_list : mg "list" = none) (b_tuple : mg "tuple" = none) :
    FnOk P w K mg base (L2.CX P w) 1 f fd ["order", "place", "later"] (spM K ct m_exchanged) :=
  have nd := sc_exchanged.nd
  fn_ok (k := 0) F sc_exchanged fun cdv A outer s H E hr tk hp =>
  (ess_cons (es_asg (ee_list b_list (ee_var 0)) nd)
  (ess_cons (es_setitem (ee_ix (ee_var 0) (ee_var 2)) (ee_var 1))
  (ess_cons (es_setitem (ee_ix (ee_var 0) (ee_var 1)) (ee_var 2))
  (ess_one (es_ret (ee_tuple b_tuple (ee_var 3)))))))
abbrev s_steps_up : Stmt := top 11
def C1_steps_up : Gm → EO := compE (compiT (slE (varE 0) (partS (op2 gAdd (varE 2) (cE (.int 1)))) (partS (varE 3)))) [5] (toN 5) (boolB (chainE (gInt iLt) (gInt iLt) (op2 gIx (varE 0) (varE 2)) (varE 5) (op2 gIx (varE 0) (varE 3)))) (varE 5)
def L1_steps_up : Gm → SO := (seqS (asgS 4 C1_steps_up)
  (ifS (andB (boolB (op2 (gInt iLt) (op2 gIx (varE 0) (varE 2)) (op2 gIx (varE 0) (varE 3)))) (notB (truthB (varE 4)))) (appS 1 (callE m_exchanged (consA (varE 0) (consA (varE 2) (consA (varE 3) nilA))))) nilS))
def L2_steps_up : Gm → SO := (forS (iterO (rg2 (op2 gAdd (varE 2) (cE (.int 1))) (op1 gLen (varE 0)))) (toN 3) L1_steps_up)
def b_steps_up : Gm → SO := (seqS (asgS 1 (lstE nilA))
  (seqS (forS (iterO (rg1 (op1 gLen (varE 0)))) (toN 2) L2_steps_up)
  (retS (op1 gSortT (varE 1)))))
def m_steps_up : List PyData → FO := defM 6 1 b_steps_up
abbrev N_steps_up : List Str := ["order", "result", "place", "later", "between", "number"]
theorem sc_steps_up : FnScope N_steps_up ["order"] (defScope s_steps_up) := ⟨rfl, rfl, rfl, by decide +kernel, rfl, by decide +kernel, by decide +kernel⟩
theorem ok_steps_up {P : Program} {w : World} {K : PySem.W.Frag} {mg : Str → Option Value} {base : Heap} {ct : Nat → Addr} {f : Addr} {fd : FuncData} (F : Fun K "steps_up" "steps_up" s_steps_up f fd) (b_range : mg "range" = none) (b_len : mg "len" = none) (b_sorted : mg "sorted" = none) (C_exchanged : CallT P w K mg base ct "exchanged" 1 m_exchanged) :
    FnOk P w K mg base (L2.CX P w) 2 f fd ["order"] (spM K ct m_steps_up) :=
  have nd := sc_steps_up.nd
  fn_ok (k := 1) F sc_steps_up fun cdv A outer s H E hr tk hp =>
  (ess_cons (es_asg (ee_lst ea_nil) nd)
  (ess_cons (es_for hp rfl (ei_range1 b_range (ee_len b_len (ee_var 0))) (eg_name nd) (ess_one (es_for hp rfl (ei_range2 b_range (ee_add (ee_var 2) ee_int) (ee_len b_len (ee_var 0))) (eg_name nd) (ess_cons (es_asgC N_steps_up (defScope s_steps_up) [("number", 5)] rfl nd (by decide +kernel) (sw_true rfl rfl rfl (by decide +kernel)) (ec_tup (ct := ct) (ee_slice (ee_var 0) (eo_some (ct := ct) (ee_add (ee_var 2) ee_int)) (eo_some (ct := ct) (ee_var 3)))) (fun _ _ _ _ _ => (egw_name nd (by decide))) (fun _ _ _ _ _ => (ets_one (eb_chain cm_lt cm_lt (ee_ix (ee_var 0) (ee_var 2)) (ee_var 5) (ee_ix (ee_var 0) (ee_var 3))))) (fun _ _ _ _ _ => (ee_var 5)))
  (ess_one (es_if (eb_w (ew_and (eb_cmp cm_lt (ee_ix (ee_var 0) (ee_var 2)) (ee_ix (ee_var 0) (ee_var 3))) (ew_and1 (eb_not (eb_truth (ee_var 4)))))) (ess_one (es_append (ee_fn C_exchanged hr tk (ea_cons (ee_var 0) (ea_cons (ee_var 2) (ea_cons (ee_var 3) ea_nil)))))) ess_nil))))))
  (ess_one (es_ret (ee_sortT b_sorted (ee_var 1))))))
abbrev s_is_step : Stmt := top 14
def b_is_step : Gm → SO := (retS (op2 gIn (varE 1) (callE m_steps_up (consA (varE 0) nilA))))
def m_is_step : List PyData → FO := defM 2 2 b_is_step
abbrev N_is_step : List Str := ["one", "other"]
theorem sc_is_step : FnScope N_is_step ["one", "other"] (defScope s_is_step) := ⟨rfl, rfl, rfl, by decide +kernel, rfl, by decide +kernel, by decide +kernel⟩
theorem ok_is_step {P : Program} {w : World} {K : PySem.W.Frag} {mg : Str → Option Value} {base : Heap} {ct : Nat → Addr} {f : Addr} {fd : FuncData} (F : Fun K "is_step" "is_step" s_is_step f fd) (C_steps_up : CallT P w K mg base ct "steps_up" 2 m_steps_up) :
    FnOk P w K mg base (L2.CX P w) 3 f fd ["one", "other"] (spM K ct m_is_step) :=
  have nd := sc_is_step.nd
  fn_ok (k := 2) F sc_is_step fun cdv A outer s H E hr tk hp =>
  (ess_one (es_ret (ee_cmp (cm_in hr) (ee_var 1) (ee_fn C_steps_up hr tk (ea_cons (ee_var 0) ea_nil)))))
abbrev s_is_chain : Stmt := top 15
def C1_is_chain : Gm → EO := compE (compiL (varE 0)) [1] (toN 1) (notB (truthB (callE m_is_order (consA (varE 1) nilA)))) (varE 1)
def L1_is_chain : Gm → SO := (ifS (notB (truthB (callE m_is_step (consA (varE 1) (consA (varE 2) nilA))))) (retS (cE (.bool false))) nilS)
def b_is_chain : Gm → SO := (seqS (ifS (orB (notB (truthB (op1 (gIsi .list) (varE 0)))) (notB (truthB (varE 0)))) (retS (cE (.bool false))) nilS)
  (seqS (ifS (truthB C1_is_chain) (retS (cE (.bool false))) nilS)
  (seqS (forS (iterZ (consA (varE 0) (consA (slE (varE 0) (partS (cE (.int 1))) partN) nilA))) (to2 1 2) L1_is_chain)
  (retS (cE (.bool true))))))
def m_is_chain : List PyData → FO := defM 3 1 b_is_chain
abbrev N_is_chain : List Str := ["value", "order", "following"]
theorem sc_is_chain : FnScope N_is_chain ["value"] (defScope s_is_chain) := ⟨rfl, rfl, rfl, by decide +kernel, rfl, by decide +kernel, by decide +kernel⟩
theorem ok_is_chain {P : Program} {w : World} {K : PySem.W.Frag} {mg : Str → Option Value} {base : Heap} {ct : Nat → Addr} {f : Addr} {fd : FuncData} (F : Fun K "is_chain" "is_chain" s_is_chain f fd) (b_isinstance : mg "isinstance" = none) (b_list : mg "list" = none) (b_zip : mg "zip" = none) (C_is_order : CallT P w K mg base ct "is_order" 2 m_is_order) (C_is_step : CallT P w K mg base ct "is_step" 3 m_is_step) :
    FnOk P w K mg base (L2.CX P w) 4 f fd ["value"] (spM K ct m_is_chain) :=
  have nd := sc_is_chain.nd
  fn_ok (k := 3) F sc_is_chain fun cdv A outer s H E hr tk hp =>
  (ess_cons (es_if (eb_w (ew_or (eb_not (eb_truth (ee_isi .list b_isinstance b_list (by decide +kernel) (ee_var 0)))) (ew_or1 (eb_not (eb_truth (ee_var 0)))))) (ess_one (es_ret ee_bl)) ess_nil)
  (ess_cons (es_if (eb_truth (ee_comp N_is_chain (defScope s_is_chain) [("order", 1)] rfl nd (by decide +kernel) (ec_list (ct := ct) (ee_var 0)) (fun _ _ _ _ _ => (egw_name nd (by decide))) (fun _ _ _ _ _ => (ets_one (eb_not (eb_truth (ee_fn C_is_order hr takes0 (ea_cons (ee_var 1) ea_nil)))))) (fun _ _ _ _ _ => (ee_var 1)))) (ess_one (es_ret ee_bl)) ess_nil)
  (ess_cons (es_for hp rfl (ei_zip b_zip (ea_cons (ee_var 0) (ea_cons (ee_slice (ee_var 0) (eo_some (ct := ct) ee_int) eo_none) ea_nil))) (eg_tup2 rfl nd) (ess_one (es_if (eb_not (eb_truth (ee_fn C_is_step hr tk (ea_cons (ee_var 1) (ea_cons (ee_var 2) ea_nil))))) (ess_one (es_ret ee_bl)) ess_nil)))
  (ess_one (es_ret ee_bl)))))
abbrev s_change_at : Stmt := top 16
def C1_change_at : Gm → EO := compE (compiL (callE m_steps_up (consA (op2 gIx (varE 0) (op2 (gInt iSub) (varE 1) (cE (.int 1)))) nilA))) [4] (toN 4) (truthB (callE m_is_step (consA (varE 4) (consA (op2 gIx (varE 0) (op2 gAdd (varE 1) (cE (.int 1)))) nilA)))) (varE 4)
def C2_change_at : Gm → EO := compE (compiL (varE 2)) [4] (toN 4) (boolB (op2 gNe (varE 4) (op2 gIx (varE 0) (varE 1)))) (varE 4)
def b_change_at : Gm → SO := (seqS (ifS (notB (truthB (callE m_is_chain (consA (varE 0) nilA)))) (raiseS 4) nilS)
  (seqS (ifS (notB (truthB (callE m_in_range (consA (varE 1) (consA (cE (.int 1)) (consA (op2 (gInt iSub) (op1 gLen (varE 0)) (cE (.int 2))) nilA)))))) (raiseS 4) nilS)
  (seqS (asgS 2 C1_change_at)
  (seqS (asgS 3 C2_change_at)
  (retS (op2 gAdd (op2 gAdd (slE (varE 0) partN (partS (varE 1))) (slE (varE 3) partN (partS (cE (.int 1))))) (slE (varE 0) (partS (op2 gAdd (varE 1) (cE (.int 1)))) partN)))))))
def m_change_at : List PyData → FO := defM 5 2 b_change_at
abbrev N_change_at : List Str := ["chain", "place", "fitting", "others", "order"]
theorem sc_change_at : FnScope N_change_at ["chain", "place"] (defScope s_change_at) := ⟨rfl, rfl, rfl, by decide +kernel, rfl, by decide +kernel, by decide +kernel⟩
theorem ok_change_at {P : Program} {w : World} {K : PySem.W.Frag} {mg : Str → Option Value} {base : Heap} {ct : Nat → Addr} {f : Addr} {fd : FuncData} (F : Fun K "change_at" "change_at" s_change_at f fd) (b_len : mg "len" = none) (C_is_chain : CallT P w K mg base ct "is_chain" 4 m_is_chain) (C_in_range : CallT P w K mg base ct "in_range" 1 m_in_range) (C_steps_up : CallT P w K mg base ct "steps_up" 2 m_steps_up) (C_is_step : CallT P w K mg base ct "is_step" 3 m_is_step) (X_InvalidChain : XcT K mg "InvalidChain" (ct 4)) :
    FnOk P w K mg base (L2.CX P w) 5 f fd ["chain", "place"] (spM K ct m_change_at) :=
  have nd := sc_change_at.nd
  fn_ok (k := 4) F sc_change_at fun cdv A outer s H E hr tk hp =>
  (ess_cons (es_if (eb_not (eb_truth (ee_fn C_is_chain hr tk (ea_cons (ee_var 0) ea_nil)))) (ess_one (es_raise (c := 4) rfl X_InvalidChain tk)) ess_nil)
  (ess_cons (es_if (eb_not (eb_truth (ee_fn C_in_range hr tk (ea_cons (ee_var 1) (ea_cons ee_int (ea_cons (ee_sub (ee_len b_len (ee_var 0)) ee_int) ea_nil)))))) (ess_one (es_raise (c := 4) rfl X_InvalidChain tk)) ess_nil)
  (ess_cons (es_asgC N_change_at (defScope s_change_at) [("order", 4)] rfl nd (by decide +kernel) (sw_true rfl rfl rfl (by decide +kernel)) (ec_list (ct := ct) (ee_fn C_steps_up hr takes0 (ea_cons (ee_ix (ee_var 0) (ee_sub (ee_var 1) ee_int)) ea_nil))) (fun _ _ _ _ _ => (egw_name nd (by decide))) (fun _ _ _ _ _ => (ets_one (eb_truth (ee_fn C_is_step hr takes0 (ea_cons (ee_var 4) (ea_cons (ee_ix (ee_var 0) (ee_add (ee_var 1) ee_int)) ea_nil)))))) (fun _ _ _ _ _ => (ee_var 4)))
  (ess_cons (es_asgC N_change_at (defScope s_change_at) [("order", 4)] rfl nd (by decide +kernel) (sw_true rfl rfl rfl (by decide +kernel)) (ec_list (ct := ct) (ee_var 2)) (fun _ _ _ _ _ => (egw_name nd (by decide))) (fun _ _ _ _ _ => (ets_one (eb_cmp (cm_ne hr) (ee_var 4) (ee_ix (ee_var 0) (ee_var 1))))) (fun _ _ _ _ _ => (ee_var 4)))
  (ess_one (es_ret (ee_add (ee_add (ee_slice (ee_var 0) eo_none (eo_some (ct := ct) (ee_var 1))) (ee_slice (ee_var 3) eo_none (eo_some (ct := ct) ee_int))) (ee_slice (ee_var 0) (eo_some (ct := ct) (ee_add (ee_var 1) ee_int)) eo_none))))))))
abbrev s_chain_road : Stmt := top 17
def L1_chain_road : Gm → SO := (ifS (notB (truthB (callE m_is_chain (consA (varE 2) nilA)))) (raiseS 4) nilS)
def L2_chain_road : Gm → SO := (seqS (asgS 7 (op1 gTuple (callE m_change_at (consA (op1 gList (varE 2)) (consA (varE 6) nilA)))))
  (ifS (boolB (notN 3 (varE 7))) (seqS (putN 3 (varE 7) (varE 2))
  (appS 4 (varE 7))) nilS))
def L3_chain_road : Gm → SO := (seqS (asgXS 2 (popAtX 4 (cE (.int 0))))
  (seqS (forS (iterO (rg2 (cE (.int 1)) (op2 (gInt iSub) (op1 gLen (varE 2)) (cE (.int 1))))) (toN 6) L2_chain_road)
  (ifS (boolB (op2 (gInt iGt) (lenN 3) (cE (.int 2000)))) (raiseS 10) nilS)))
def L4_chain_road : Gm → SO := (appS 5 (idxN 3 (op2 gIx (varE 5) (cE (.int (-1))))))
def C1_chain_road : Gm → EO := compE (compiL (op1 gRev (varE 5))) [2] (toN 2) yesB (op1 gList (varE 2))
def b_chain_road : Gm → SO := (seqS (forS (iterT (tupE (consA (varE 0) (consA (varE 1) nilA)))) (toN 2) L1_chain_road)
  (seqS (ifS (orB (boolB (op2 gNe (op2 gIx (varE 0) (cE (.int 0))) (op2 gIx (varE 1) (cE (.int 0))))) (boolB (op2 gNe (op2 gIx (varE 0) (cE (.int (-1)))) (op2 gIx (varE 1) (cE (.int (-1))))))) (raiseS 4) nilS)
  (seqS (nstS 3 (op1 gTuple (varE 0)) (cE .none))
  (seqS (asgS 4 (lstE (consA (op1 gTuple (varE 0)) nilA)))
  (seqS (whileL (boolB (notN 3 (op1 gTuple (varE 1)))) L3_chain_road 2000)
  (seqS (asgS 5 (lstE (consA (op1 gTuple (varE 1)) nilA)))
  (seqS (whileL (boolB (op2 (gIs true) (idxN 3 (op2 gIx (varE 5) (cE (.int (-1))))) (cE .none))) L4_chain_road 2000)
  (retS C1_chain_road))))))))
def m_chain_road : List PyData → FO := defM 8 2 b_chain_road
abbrev N_chain_road : List Str := ["one", "other", "chain", "before", "queue", "result", "place", "more"]
theorem sc_chain_road : FnScope N_chain_road ["one", "other"] (defScope s_chain_road) := ⟨rfl, rfl, rfl, by decide +kernel, rfl, by decide +kernel, by decide +kernel⟩
theorem ok_chain_road {P : Program} {w : World} {K : PySem.W.Frag} {mg : Str → Option Value} {base : Heap} {ct : Nat → Addr} {f : Addr} {fd : FuncData} (F : Fun K "chain_road" "chain_road" s_chain_road f fd) (b_tuple : mg "tuple" = none) (b_range : mg "range" = none) (b_len : mg "len" = none) (b_list : mg "list" = none) {t_MAX_CHAINS : Tok} (k_MAX_CHAINS : mg "MAX_CHAINS" = some (.int 2000 t_MAX_CHAINS)) (C_is_chain : CallT P w K mg base ct "is_chain" 4 m_is_chain) (C_change_at : CallT P w K mg base ct "change_at" 5 m_change_at) (X_InvalidChain : XcT K mg "InvalidChain" (ct 4)) (X_TooMany : XcT K mg "TooMany" (ct 10)) :
    FnOk P w K mg base (L2.CX P w) 6 f fd ["one", "other"] (spM K ct m_chain_road) :=
  have nd := sc_chain_road.nd
  fn_ok (k := 5) F sc_chain_road fun cdv A outer s H E hr tk hp =>
  (ess_cons (es_for hp rfl (ei_tup (ee_tup (ea_cons (ee_var 0) (ea_cons (ee_var 1) ea_nil)))) (eg_name nd) (ess_one (es_if (eb_not (eb_truth (ee_fn C_is_chain hr tk (ea_cons (ee_var 2) ea_nil)))) (ess_one (es_raise (c := 4) rfl X_InvalidChain tk)) ess_nil)))
  (ess_cons (es_if (eb_w (ew_or (eb_cmp (cm_ne hr) (ee_ix (ee_var 0) ee_int) (ee_ix (ee_var 1) ee_int)) (ew_or1 (eb_cmp (cm_ne hr) (ee_ix (ee_var 0) ee_neg) (ee_ix (ee_var 1) ee_neg))))) (ess_one (es_raise (c := 4) rfl X_InvalidChain tk)) ess_nil)
  (ess_cons (es_nnew hr (ee_tuple b_tuple (ee_var 0)) ee_non nd)
  (ess_cons (es_asg (ee_lst (ea_cons (ee_tuple b_tuple (ee_var 0)) ea_nil)) nd)
  (ess_cons (es_while 2000 hp (eb_nnotin hr (ee_tuple b_tuple (ee_var 1))) (ess_cons (es_asgX (ex_popAt ee_int) nd)
  (ess_cons (es_for hp rfl (ei_range2 b_range ee_int (ee_sub (ee_len b_len (ee_var 2)) ee_int)) (eg_name nd) (ess_cons (es_asg (ee_tuple b_tuple (ee_fn C_change_at hr tk (ea_cons (ee_list b_list (ee_var 2)) (ea_cons (ee_var 6) ea_nil)))) nd)
  (ess_one (es_if (eb_nnotin hr (ee_var 7)) (ess_cons (es_nput hr (ee_var 2) (ee_var 7))
  (ess_one (es_append (ee_var 7)))) ess_nil))))
  (ess_one (es_if (eb_cmp cm_gt (ee_nlen b_len) (ee_glI k_MAX_CHAINS)) (ess_one (es_raise (c := 10) rfl X_TooMany tk)) ess_nil)))))
  (ess_cons (es_asg (ee_lst (ea_cons (ee_tuple b_tuple (ee_var 1)) ea_nil)) nd)
  (ess_cons (es_while 2000 hp (eb_cmp cm_isn (ee_nget hr (ee_ix (ee_var 5) ee_neg)) ee_non) (ess_one (es_append (ee_nget hr (ee_ix (ee_var 5) ee_neg)))))
  (ess_one (es_ret (ee_comp N_chain_road (defScope s_chain_road) [("chain", 2)] rfl nd (by decide +kernel) (ec_list (ct := ct) (ee_rev (ee_var 5))) (fun _ _ _ _ _ => (egw_name nd (by decide))) (fun _ _ _ _ _ => ets_nil) (fun _ _ _ _ _ => (ee_list b_list (ee_var 2)))))))))))))
abbrev s__law_cell : Stmt := top 19
def b__law_cell : Gm → SO := (seqS (ifS (boolB (op2 (gInt iLt) (varE 1) (op1 gLen (varE 0)))) (retS (op2 gIx (varE 0) (varE 1))) nilS)
  (retS (cE (.int 0))))
def m__law_cell : List PyData → FO := defM 2 2 b__law_cell
abbrev N__law_cell : List Str := ["script", "k"]
theorem sc__law_cell : FnScope N__law_cell ["script", "k"] (defScope s__law_cell) := ⟨rfl, rfl, rfl, by decide +kernel, rfl, by decide +kernel, by decide +kernel⟩
theorem ok__law_cell {P : Program} {w : World} {K : PySem.W.Frag} {mg : Str → Option Value} {base : Heap} {ct : Nat → Addr} {f : Addr} {fd : FuncData} (F : Fun K "_law_cell" "_law_cell" s__law_cell f fd) (b_len : mg "len" = none) :
    FnOk P w K mg base (L2.CX P w) 1 f fd ["script", "k"] (spM K ct m__law_cell) :=
  have nd := sc__law_cell.nd
  fn_ok (k := 0) F sc__law_cell fun cdv A outer s H E hr tk hp =>
  (ess_cons (es_if (eb_cmp cm_lt (ee_var 1) (ee_len b_len (ee_var 0))) (ess_one (es_ret (ee_ix (ee_var 0) (ee_var 1)))) ess_nil)
  (ess_one (es_ret ee_int)))
abbrev s__law_row : Stmt := top 20
def L1__law_row : Gm → SO := (ifS (boolB (op2 (gInt iLt) (callE m__law_cell (consA (varE 0) (consA (varE 1) nilA))) (op2 (gInt iPow) (cE (.int 10)) (cE (.int 18))))) (seqS (asgS 2 (op2 (gInt iMod) (op2 gAdd (op2 gAdd (op2 gAdd (op2 gMul (varE 2) (cE (.int 48271))) (op2 gMul (cE (.int 131)) (varE 4))) (cE (.int 7))) (callE m__law_cell (consA (varE 0) (consA (op2 (gInt iMod) (op2 gAdd (op2 gAdd (varE 1) (cE (.int 1))) (varE 4)) (cE (.int 20))) nilA)))) (cE (.int 2147483647))))
  (appS 3 (op2 (gInt iMod) (op2 (gInt iFdiv) (varE 2) (cE (.int 11))) (cE (.int 1000))))) (seqS (appS 3 (op2 (gInt iMod) (varE 2) (cE (.int 1000))))
  (asgS 2 (op2 (gInt iFdiv) (varE 2) (cE (.int 1000))))))
def b__law_row : Gm → SO := (seqS (asgS 2 (callE m__law_cell (consA (varE 0) (consA (varE 1) nilA))))
  (seqS (asgS 3 (lstE nilA))
  (seqS (forS (iterO (rg1 (cE (.int 60)))) (toN 4) L1__law_row)
  (retS (varE 3)))))
def m__law_row : List PyData → FO := defM 5 2 b__law_row
abbrev N__law_row : List Str := ["script", "at", "cell", "found", "time"]
theorem sc__law_row : FnScope N__law_row ["script", "at"] (defScope s__law_row) := ⟨rfl, rfl, rfl, by decide +kernel, rfl, by decide +kernel, by decide +kernel⟩
theorem ok__law_row {P : Program} {w : World} {K : PySem.W.Frag} {mg : Str → Option Value} {base : Heap} {ct : Nat → Addr} {f : Addr} {fd : FuncData} (F : Fun K "_law_row" "_law_row" s__law_row f fd) (b_range : mg "range" = none) (C__law_cell : CallT P w K mg base ct "_law_cell" 1 m__law_cell) :
    FnOk P w K mg base (L2.CX P w) 2 f fd ["script", "at"] (spM K ct m__law_row) :=
  have nd := sc__law_row.nd
  fn_ok (k := 1) F sc__law_row fun cdv A outer s H E hr tk hp =>
  (ess_cons (es_asg (ee_fn C__law_cell hr tk (ea_cons (ee_var 0) (ea_cons (ee_var 1) ea_nil))) nd)
  (ess_cons (es_asg (ee_lst ea_nil) nd)
  (ess_cons (es_for hp rfl (ei_range1 b_range ee_int) (eg_name nd) (ess_one (es_if (eb_cmp cm_lt (ee_fn C__law_cell hr tk (ea_cons (ee_var 0) (ea_cons (ee_var 1) ea_nil))) (ee_pow ee_int ee_int)) (ess_cons (es_asg (ee_mod (ee_add (ee_add (ee_add (ee_mul (ee_var 2) ee_int) (ee_mul ee_int (ee_var 4))) ee_int) (ee_fn C__law_cell hr tk (ea_cons (ee_var 0) (ea_cons (ee_mod (ee_add (ee_add (ee_var 1) ee_int) (ee_var 4)) ee_int) ea_nil)))) ee_int) nd)
  (ess_one (es_append (ee_mod (ee_fdiv (ee_var 2) ee_int) ee_int)))) (ess_cons (es_append (ee_mod (ee_var 2) ee_int))
  (ess_one (es_asg (ee_fdiv (ee_var 2) ee_int) nd))))))
  (ess_one (es_ret (ee_var 3))))))
abbrev s__law_order : Stmt := top 21
def L1__law_order : Gm → SO := (appXS 5 (popAtX 4 (op2 (gInt iMod) (op2 gIx (varE 3) (varE 6)) (op1 gLen (varE 4)))))
def b__law_order : Gm → SO := (seqS (asgS 3 (callE m__law_row (consA (varE 0) (consA (varE 1) nilA))))
  (seqS (asgS 4 (rgLE (rg1 (varE 2))))
  (seqS (asgS 5 (lstE nilA))
  (seqS (forS (iterO (rg1 (varE 2))) (toN 6) L1__law_order)
  (retS (op1 gTuple (varE 5)))))))
def m__law_order : List PyData → FO := defM 7 3 b__law_order
abbrev N__law_order : List Str := ["script", "at", "size", "draws", "left", "found", "place"]
theorem sc__law_order : FnScope N__law_order ["script", "at", "size"] (defScope s__law_order) := ⟨rfl, rfl, rfl, by decide +kernel, rfl, by decide +kernel, by decide +kernel⟩
theorem ok__law_order {P : Program} {w : World} {K : PySem.W.Frag} {mg : Str → Option Value} {base : Heap} {ct : Nat → Addr} {f : Addr} {fd : FuncData} (F : Fun K "_law_order" "_law_order" s__law_order f fd) (b_list : mg "list" = none) (b_range : mg "range" = none) (b_len : mg "len" = none) (b_tuple : mg "tuple" = none) (C__law_row : CallT P w K mg base ct "_law_row" 2 m__law_row) :
    FnOk P w K mg base (L2.CX P w) 3 f fd ["script", "at", "size"] (spM K ct m__law_order) :=
  have nd := sc__law_order.nd
  fn_ok (k := 2) F sc__law_order fun cdv A outer s H E hr tk hp =>
  (ess_cons (es_asg (ee_fn C__law_row hr tk (ea_cons (ee_var 0) (ea_cons (ee_var 1) ea_nil))) nd)
  (ess_cons (es_asg (ee_listRg rfl b_list b_range (ee_var 2)) nd)
  (ess_cons (es_asg (ee_lst ea_nil) nd)
  (ess_cons (es_for hp rfl (ei_range1 b_range (ee_var 2)) (eg_name nd) (ess_one (es_appendX (ex_popAt (ee_mod (ee_ix (ee_var 3) (ee_var 6)) (ee_len b_len (ee_var 4)))))))
  (ess_one (es_ret (ee_tuple b_tuple (ee_var 5))))))))
abbrev s__law_inversions : Stmt := top 22
def C1__law_inversions : Gm → EO := compE (compO (rg2 (op2 gAdd (varE 2) (cE (.int 1))) (op1 gLen (varE 0)))) [3] (toN 3) (boolB (op2 (gInt iGt) (op2 gIx (varE 0) (varE 2)) (op2 gIx (varE 0) (varE 3)))) (tupE (consA (varE 2) (consA (varE 3) nilA)))
def L1__law_inversions : Gm → SO := (asgS 1 (op2 gAdd (varE 1) C1__law_inversions))
def b__law_inversions : Gm → SO := (seqS (asgS 1 (lstE nilA))
  (seqS (forS (iterO (rg1 (op1 gLen (varE 0)))) (toN 2) L1__law_inversions)
  (retS (varE 1))))
def m__law_inversions : List PyData → FO := defM 4 1 b__law_inversions
abbrev N__law_inversions : List Str := ["order", "found", "place", "later"]
theorem sc__law_inversions : FnScope N__law_inversions ["order"] (defScope s__law_inversions) := ⟨rfl, rfl, rfl, by decide +kernel, rfl, by decide +kernel, by decide +kernel⟩
theorem ok__law_inversions {P : Program} {w : World} {K : PySem.W.Frag} {mg : Str → Option Value} {base : Heap} {ct : Nat → Addr} {f : Addr} {fd : FuncData} (F : Fun K "_law_inversions" "_law_inversions" s__law_inversions f fd) (b_range : mg "range" = none) (b_len : mg "len" = none) :
    FnOk P w K mg base (L2.CX P w) 1 f fd ["order"] (spM K ct m__law_inversions) :=
  have nd := sc__law_inversions.nd
  fn_ok (k := 0) F sc__law_inversions fun cdv A outer s H E hr tk hp =>
  (ess_cons (es_asg (ee_lst ea_nil) nd)
  (ess_cons (es_for hp rfl (ei_range1 b_range (ee_len b_len (ee_var 0))) (eg_name nd) (ess_one (es_asg (ee_add (ee_var 1) (ee_comp N__law_inversions (defScope s__law_inversions) [("later", 3)] rfl nd (by decide +kernel) (ec_range2 (ct := ct) b_range (ee_add (ee_var 2) ee_int) (ee_len b_len (ee_var 0))) (fun _ _ _ _ _ => (egw_name nd (by decide))) (fun _ _ _ _ _ => (ets_one (eb_cmp cm_gt (ee_ix (ee_var 0) (ee_var 2)) (ee_ix (ee_var 0) (ee_var 3))))) (fun _ _ _ _ _ => (ee_tup (ea_cons (ee_var 2) (ea_cons (ee_var 3) ea_nil)))))) nd)))
  (ess_one (es_ret (ee_var 1)))))
abbrev s__law_swapped : Stmt := top 23
def b__law_swapped : Gm → SO := (seqS (asgS 3 (op1 gList (varE 0)))
  (seqS (setS 3 (varE 1) (op2 gIx (varE 0) (varE 2)))
  (seqS (setS 3 (varE 2) (op2 gIx (varE 0) (varE 1)))
  (retS (op1 gTuple (varE 3))))))
def m__law_swapped : List PyData → FO := defM 4 3 b__law_swapped
abbrev N__law_swapped : List Str := ["order", "place", "later", "found"]
theorem sc__law_swapped : FnScope N__law_swapped ["order", "place", "later"] (defScope s__law_swapped) := ⟨rfl, rfl, rfl, by decide +kernel, rfl, by decide +kernel, by decide +kernel⟩
theorem ok__law_swapped {P : Program} {w : World} {K : PySem.W.Frag} {mg : Str → Option Value} {base : Heap} {ct : Nat → Addr} {f : Addr} {fd : FuncData} (F : Fun K "_law_swapped" "_law_swapped" s__law_swapped f fd) (b_list : mg "list" = none) (b_tuple : mg "tuple" = none) :
    FnOk P w K mg base (L2.CX P w) 1 f fd ["order", "place", "later"] (spM K ct m__law_swapped) :=
  have nd := sc__law_swapped.nd
  fn_ok (k := 0) F sc__law_swapped fun cdv A outer s H E hr tk hp =>
  (ess_cons (es_asg (ee_list b_list (ee_var 0)) nd)
  (ess_cons (es_setitem (ee_ix (ee_var 0) (ee_var 2)) (ee_var 1))
  (ess_cons (es_setitem (ee_ix (ee_var 0) (ee_var 1)) (ee_var 2))
  (ess_one (es_ret (ee_tuple b_tuple (ee_var 3)))))))
abbrev s__law_up : Stmt := top 24
def L1__law_up : Gm → SO := (seqS (asgS 5 (callE m__law_swapped (consA (varE 0) (consA (varE 3) (consA (varE 4) nilA)))))
  (asgS 1 (op2 gAdd (varE 1) (op2 gMul (lstE (consA (varE 5) nilA)) (op1 gInt1 (op2 gEq (op1 gLen (callE m__law_inversions (consA (varE 5) nilA))) (varE 2)))))))
def L2__law_up : Gm → SO := (forS (iterO (rg2 (op2 gAdd (varE 3) (cE (.int 1))) (op1 gLen (varE 0)))) (toN 4) L1__law_up)
def b__law_up : Gm → SO := (seqS (asgS 1 (lstE nilA))
  (seqS (asgS 2 (op2 gAdd (op1 gLen (callE m__law_inversions (consA (varE 0) nilA))) (cE (.int 1))))
  (seqS (forS (iterO (rg1 (op1 gLen (varE 0)))) (toN 3) L2__law_up)
  (retS (op1 gSortT (varE 1))))))
def m__law_up : List PyData → FO := defM 6 1 b__law_up
abbrev N__law_up : List Str := ["order", "found", "many", "place", "later", "other"]
theorem sc__law_up : FnScope N__law_up ["order"] (defScope s__law_up) := ⟨rfl, rfl, rfl, by decide +kernel, rfl, by decide +kernel, by decide +kernel⟩
theorem ok__law_up {P : Program} {w : World} {K : PySem.W.Frag} {mg : Str → Option Value} {base : Heap} {ct : Nat → Addr} {f : Addr} {fd : FuncData} (F : Fun K "_law_up" "_law_up" s__law_up f fd) (b_len : mg "len" = none) (b_range : mg "range" = none) (b_int : mg "int" = none) (b_sorted : mg "sorted" = none) (C__law_inversions : CallT P w K mg base ct "_law_inversions" 1 m__law_inversions) (C__law_swapped : CallT P w K mg base ct "_law_swapped" 1 m__law_swapped) :
    FnOk P w K mg base (L2.CX P w) 2 f fd ["order"] (spM K ct m__law_up) :=
  have nd := sc__law_up.nd
  fn_ok (k := 1) F sc__law_up fun cdv A outer s H E hr tk hp =>
  (ess_cons (es_asg (ee_lst ea_nil) nd)
  (ess_cons (es_asg (ee_add (ee_len b_len (ee_fn C__law_inversions hr tk (ea_cons (ee_var 0) ea_nil))) ee_int) nd)
  (ess_cons (es_for hp rfl (ei_range1 b_range (ee_len b_len (ee_var 0))) (eg_name nd) (ess_one (es_for hp rfl (ei_range2 b_range (ee_add (ee_var 3) ee_int) (ee_len b_len (ee_var 0))) (eg_name nd) (ess_cons (es_asg (ee_fn C__law_swapped hr tk (ea_cons (ee_var 0) (ea_cons (ee_var 3) (ea_cons (ee_var 4) ea_nil)))) nd)
  (ess_one (es_asg (ee_add (ee_var 1) (ee_mul (ee_lst (ea_cons (ee_var 5) ea_nil)) (ee_int1 b_int (ee_cmp (cm_eq hr) (ee_len b_len (ee_fn C__law_inversions hr tk (ea_cons (ee_var 5) ea_nil))) (ee_var 2))))) nd))))))
  (ess_one (es_ret (ee_sortT b_sorted (ee_var 1)))))))
abbrev s__law_great : Stmt := top 25
def C1__law_great : Gm → EO := compE (compiT (slE (varE 0) partN (partS (varE 1)))) [3] (toN 3) (boolB (op2 (gInt iGe) (varE 3) (varE 2))) (varE 3)
def b__law_great : Gm → SO := (retS (op1 gLen C1__law_great))
def m__law_great : List PyData → FO := defM 4 3 b__law_great
abbrev N__law_great : List Str := ["order", "first", "value", "number"]
theorem sc__law_great : FnScope N__law_great ["order", "first", "value"] (defScope s__law_great) := ⟨rfl, rfl, rfl, by decide +kernel, rfl, by decide +kernel, by decide +kernel⟩
theorem ok__law_great {P : Program} {w : World} {K : PySem.W.Frag} {mg : Str → Option Value} {base : Heap} {ct : Nat → Addr} {f : Addr} {fd : FuncData} (F : Fun K "_law_great" "_law_great" s__law_great f fd) (b_len : mg "len" = none) :
    FnOk P w K mg base (L2.CX P w) 1 f fd ["order", "first", "value"] (spM K ct m__law_great) :=
  have nd := sc__law_great.nd
  fn_ok (k := 0) F sc__law_great fun cdv A outer s H E hr tk hp =>
  (ess_one (es_ret (ee_len b_len (ee_comp N__law_great (defScope s__law_great) [("number", 3)] rfl nd (by decide +kernel) (ec_tup (ct := ct) (ee_slice (ee_var 0) eo_none (eo_some (ct := ct) (ee_var 1)))) (fun _ _ _ _ _ => (egw_name nd (by decide))) (fun _ _ _ _ _ => (ets_one (eb_cmp cm_ge (ee_var 3) (ee_var 2)))) (fun _ _ _ _ _ => (ee_var 3))))))
abbrev s__law_papers : Stmt := top 26
def L1__law_papers : Gm → SO := (asgS 2 (op2 gAdd (varE 2) (op2 gMul (lstE (consA (tupE (consA (varE 3) (consA (varE 4) nilA))) nilA)) (op1 gInt1 (op2 (gInt iGt) (callE m__law_great (consA (varE 0) (consA (varE 3) (consA (varE 4) nilA)))) (callE m__law_great (consA (varE 1) (consA (varE 3) (consA (varE 4) nilA)))))))))
def L2__law_papers : Gm → SO := (forS (iterO (rg1 (op2 gAdd (op1 gLen (varE 0)) (cE (.int 1))))) (toN 4) L1__law_papers)
def b__law_papers : Gm → SO := (seqS (asgS 2 (lstE nilA))
  (seqS (forS (iterO (rg1 (op2 gAdd (op1 gLen (varE 0)) (cE (.int 1))))) (toN 3) L2__law_papers)
  (retS (varE 2))))
def m__law_papers : List PyData → FO := defM 5 2 b__law_papers
abbrev N__law_papers : List Str := ["one", "other", "found", "first", "value"]
theorem sc__law_papers : FnScope N__law_papers ["one", "other"] (defScope s__law_papers) := ⟨rfl, rfl, rfl, by decide +kernel, rfl, by decide +kernel, by decide +kernel⟩
theorem ok__law_papers {P : Program} {w : World} {K : PySem.W.Frag} {mg : Str → Option Value} {base : Heap} {ct : Nat → Addr} {f : Addr} {fd : FuncData} (F : Fun K "_law_papers" "_law_papers" s__law_papers f fd) (b_range : mg "range" = none) (b_len : mg "len" = none) (b_int : mg "int" = none) (C__law_great : CallT P w K mg base ct "_law_great" 1 m__law_great) :
    FnOk P w K mg base (L2.CX P w) 2 f fd ["one", "other"] (spM K ct m__law_papers) :=
  have nd := sc__law_papers.nd
  fn_ok (k := 1) F sc__law_papers fun cdv A outer s H E hr tk hp =>
  (ess_cons (es_asg (ee_lst ea_nil) nd)
  (ess_cons (es_for hp rfl (ei_range1 b_range (ee_add (ee_len b_len (ee_var 0)) ee_int)) (eg_name nd) (ess_one (es_for hp rfl (ei_range1 b_range (ee_add (ee_len b_len (ee_var 0)) ee_int)) (eg_name nd) (ess_one (es_asg (ee_add (ee_var 2) (ee_mul (ee_lst (ea_cons (ee_tup (ea_cons (ee_var 3) (ea_cons (ee_var 4) ea_nil))) ea_nil)) (ee_int1 b_int (ee_cmp cm_gt (ee_fn C__law_great hr tk (ea_cons (ee_var 0) (ea_cons (ee_var 3) (ea_cons (ee_var 4) ea_nil)))) (ee_fn C__law_great hr tk (ea_cons (ee_var 1) (ea_cons (ee_var 3) (ea_cons (ee_var 4) ea_nil)))))))) nd)))))
  (ess_one (es_ret (ee_var 2)))))
abbrev s__law_chains : Stmt := top 27
def C1__law_chains : Gm → EO := compE (compiL (callE m__law_up (consA (op2 gIx (varE 5) (cE (.int (-1)))) nilA))) [6] (toN 6) (boolB (op2 gEq (callE m__law_papers (consA (varE 6) (consA (varE 1) nilA))) (lstE nilA))) (op2 gAdd (varE 5) (lstE (consA (varE 6) nilA)))
def L1__law_chains : Gm → SO := (asgS 4 (op2 gAdd (varE 4) C1__law_chains))
def L2__law_chains : Gm → SO := (seqS (asgS 4 (lstE nilA))
  (seqS (forS (iterL (varE 2)) (toN 5) L1__law_chains)
  (asgS 2 (varE 4))))
def b__law_chains : Gm → SO := (seqS (asgS 2 (lstE (consA (lstE (consA (varE 0) nilA)) nilA)))
  (seqS (forS (iterO (rg1 (op2 (gInt iSub) (op1 gLen (callE m__law_inversions (consA (varE 1) nilA))) (op1 gLen (callE m__law_inversions (consA (varE 0) nilA)))))) (toN 3) L2__law_chains)
  (retS (op1 gSortC (varE 2)))))
def m__law_chains : List PyData → FO := defM 7 2 b__law_chains
abbrev N__law_chains : List Str := ["one", "other", "found", "time", "longer", "chain", "more"]
theorem sc__law_chains : FnScope N__law_chains ["one", "other"] (defScope s__law_chains) := ⟨rfl, rfl, rfl, by decide +kernel, rfl, by decide +kernel, by decide +kernel⟩
theorem ok__law_chains {P : Program} {w : World} {K : PySem.W.Frag} {mg : Str → Option Value} {base : Heap} {ct : Nat → Addr} {f : Addr} {fd : FuncData} (F : Fun K "_law_chains" "_law_chains" s__law_chains f fd) (b_range : mg "range" = none) (b_len : mg "len" = none) (b_sorted : mg "sorted" = none) (C__law_inversions : CallT P w K mg base ct "_law_inversions" 1 m__law_inversions) (C__law_up : CallT P w K mg base ct "_law_up" 2 m__law_up) (C__law_papers : CallT P w K mg base ct "_law_papers" 2 m__law_papers) :
    FnOk P w K mg base (L2.CX P w) 3 f fd ["one", "other"] (spM K ct m__law_chains) :=
  have nd := sc__law_chains.nd
  fn_ok (k := 2) F sc__law_chains fun cdv A outer s H E hr tk hp =>
  (ess_cons (es_asg (ee_lst (ea_cons (ee_lst (ea_cons (ee_var 0) ea_nil)) ea_nil)) nd)
  (ess_cons (es_for hp rfl (ei_range1 b_range (ee_sub (ee_len b_len (ee_fn C__law_inversions hr tk (ea_cons (ee_var 1) ea_nil))) (ee_len b_len (ee_fn C__law_inversions hr tk (ea_cons (ee_var 0) ea_nil))))) (eg_name nd) (ess_cons (es_asg (ee_lst ea_nil) nd)
  (ess_cons (es_for hp rfl (ei_list (ee_var 2)) (eg_name nd) (ess_one (es_asg (ee_add (ee_var 4) (ee_comp N__law_chains (defScope s__law_chains) [("more", 6)] rfl nd (by decide +kernel) (ec_list (ct := ct) (ee_fn C__law_up hr takes0 (ea_cons (ee_ix (ee_var 5) ee_neg) ea_nil))) (fun _ _ _ _ _ => (egw_name nd (by decide))) (fun _ _ _ _ _ => (ets_one (eb_cmp (cm_eq hr) (ee_fn C__law_papers hr takes0 (ea_cons (ee_var 6) (ea_cons (ee_var 1) ea_nil))) (ee_lst ea_nil)))) (fun _ _ _ _ _ => (ee_add (ee_var 5) (ee_lst (ea_cons (ee_var 6) ea_nil)))))) nd)))
  (ess_one (es_asg (ee_var 4) nd)))))
  (ess_one (es_ret (ee_sortC hr b_sorted (ee_var 2))))))
abbrev s__law_changed : Stmt := top 28
def T1__law_changed : Gm → SO := (retS (ifE (boolB (op2 gEq (varE 0) (cE (.int 0)))) (callE m_change_at (consA (varE 1) (consA (varE 2) nilA))) (callE m_chain_road (consA (varE 1) (consA (varE 2) nilA)))))
def b__law_changed : Gm → SO := (tryS 3 [(4, "chain"), (10, "many")] T1__law_changed)
def m__law_changed : List PyData → FO := defM 4 3 b__law_changed
abbrev N__law_changed : List Str := ["mode", "one", "other", "e"]
theorem sc__law_changed : FnScope N__law_changed ["mode", "one", "other"] (defScope s__law_changed) := ⟨rfl, rfl, rfl, by decide +kernel, rfl, by decide +kernel, by decide +kernel⟩
theorem ok__law_changed {P : Program} {w : World} {K : PySem.W.Frag} {mg : Str → Option Value} {base : Heap} {ct : Nat → Addr} {f : Addr} {fd : FuncData} (F : Fun K "_law_changed" "_law_changed" s__law_changed f fd) (b_isinstance : mg "isinstance" = none) (C_change_at : CallT P w K mg base ct "change_at" 5 m_change_at) (C_chain_road : CallT P w K mg base ct "chain_road" 6 m_chain_road) (n_InvalidChain : mg "InvalidChain" = some (.ref (ct 4))) (n_OrderError : mg "OrderError" = some (.ref (ct 0))) (n_InvalidOrder : mg "InvalidOrder" = some (.ref (ct 2))) (n_TooMany : mg "TooMany" = some (.ref (ct 10))) (xm_InvalidChain_InvalidChain : PySem.W.exmOne K (.ref (ct 4)) (.ref (ct 4)) = some true) (xm_TooMany_TooMany : PySem.W.exmOne K (.ref (ct 10)) (.ref (ct 10)) = some true) (xm_TooMany_InvalidChain : PySem.W.exmOne K (.ref (ct 10)) (.ref (ct 4)) = some false) (kt_InvalidChain_OrderError : PySem.W.kitOne K (.ref (ct 4)) (.ref (ct 0)) = some true) (kt_InvalidChain_InvalidOrder : PySem.W.kitOne K (.ref (ct 4)) (.ref (ct 2)) = some false) (kt_TooMany_OrderError : PySem.W.kitOne K (.ref (ct 10)) (.ref (ct 0)) = some true) (kt_TooMany_InvalidChain : PySem.W.kitOne K (.ref (ct 10)) (.ref (ct 4)) = some false) (ec_InvalidChain : ExcC K (ct 4)) (ec_TooMany : ExcC K (ct 10)) :
    FnOk P w K mg base (L2.CX P w) 7 f fd ["mode", "one", "other"] (spM K ct m__law_changed) :=
  have nd := sc__law_changed.nd
  fn_ok (k := 6) F sc__law_changed fun cdv A outer s H E hr tk hp =>
  (ess_one (es_try rfl rfl nd rfl rfl (fun W pn xe tk hp => (ess_one (es_ret (ee_if (eb_cmp (cm_eq hr) (ee_var 0) ee_int) (ee_fn C_change_at hr tk (ea_cons (ee_var 1) (ea_cons (ee_var 2) ea_nil))) (ee_fn C_chain_road hr tk (ea_cons (ee_var 1) (ea_cons (ee_var 2) ea_nil))))))) (Clauses.cons ⟨rfl, by decide, .inl n_InvalidChain⟩ (cl_ok (ct := ct) (i := 3) (f := [(4, "chain")]) (Ev.cons (fun a oe pn hz hf => ps_1ret (b := true) (pt_1and (b := true) (b2 := true) (pt_1 (pe_isC true ec_InvalidChain hz hf kt_InvalidChain_OrderError b_isinstance n_OrderError)) (pt_1not (b := false) (pt_1 (pe_isC false ec_InvalidChain hz hf kt_InvalidChain_InvalidOrder b_isinstance n_InvalidOrder))))) Ev.nil)) (Clauses.cons ⟨rfl, by decide, .inl n_TooMany⟩ (cl_ok (ct := ct) (i := 3) (f := [(10, "many")]) (Ev.cons (fun a oe pn hz hf => ps_1ret (b := true) (pt_1and (b := true) (b2 := true) (pt_1 (pe_isC true ec_TooMany hz hf kt_TooMany_OrderError b_isinstance n_OrderError)) (pt_1not (b := false) (pt_1 (pe_isC false ec_TooMany hz hf kt_TooMany_InvalidChain b_isinstance n_InvalidChain))))) Ev.nil)) Clauses.nil)) (Ev.cons (fun _ _ _ hl hr2 => (cl_yes hl hr2 xm_InvalidChain_InvalidChain rfl)) (Ev.cons (fun _ _ _ hl hr2 => (cl_no xm_TooMany_InvalidChain (cl_yes hl hr2 xm_TooMany_TooMany rfl))) Ev.nil))))
abbrev s__law_chain : Stmt := top 29
def L1__law_chain : Gm → SO := (seqS (asgS 7 (callE m__law_up (consA (op2 gIx (varE 5) (cE (.int (-1)))) nilA)))
  (asgS 5 (op2 gAdd (varE 5) (ifE (boolB (op2 gNe (varE 7) (lstE nilA))) (lstE (consA (op2 gIx (varE 7) (op2 (gInt iMod) (op2 gIx (varE 4) (op2 gAdd (cE (.int 31)) (varE 6))) (op1 gLen (varE 7)))) nilA)) (lstE nilA)))))
def b__law_chain : Gm → SO := (seqS (asgS 4 (callE m__law_row (consA (varE 0) (consA (varE 1) nilA))))
  (seqS (asgS 5 (lstE (consA (callE m__law_order (consA (varE 0) (consA (varE 1) (consA (varE 2) nilA)))) nilA)))
  (seqS (forS (iterO (rg1 (op2 (gInt iMod) (op2 gIx (varE 4) (cE (.int 30))) (op2 gAdd (varE 3) (cE (.int 1)))))) (toN 6) L1__law_chain)
  (retS (varE 5)))))
def m__law_chain : List PyData → FO := defM 8 4 b__law_chain
abbrev N__law_chain : List Str := ["script", "at", "size", "most", "draws", "found", "time", "up"]
theorem sc__law_chain : FnScope N__law_chain ["script", "at", "size", "most"] (defScope s__law_chain) := ⟨rfl, rfl, rfl, by decide +kernel, rfl, by decide +kernel, by decide +kernel⟩
theorem ok__law_chain {P : Program} {w : World} {K : PySem.W.Frag} {mg : Str → Option Value} {base : Heap} {ct : Nat → Addr} {f : Addr} {fd : FuncData} (F : Fun K "_law_chain" "_law_chain" s__law_chain f fd) (b_range : mg "range" = none) (b_len : mg "len" = none) (C__law_row : CallT P w K mg base ct "_law_row" 2 m__law_row) (C__law_order : CallT P w K mg base ct "_law_order" 3 m__law_order) (C__law_up : CallT P w K mg base ct "_law_up" 2 m__law_up) :
    FnOk P w K mg base (L2.CX P w) 4 f fd ["script", "at", "size", "most"] (spM K ct m__law_chain) :=
  have nd := sc__law_chain.nd
  fn_ok (k := 3) F sc__law_chain fun cdv A outer s H E hr tk hp =>
  (ess_cons (es_asg (ee_fn C__law_row hr tk (ea_cons (ee_var 0) (ea_cons (ee_var 1) ea_nil))) nd)
  (ess_cons (es_asg (ee_lst (ea_cons (ee_fn C__law_order hr tk (ea_cons (ee_var 0) (ea_cons (ee_var 1) (ea_cons (ee_var 2) ea_nil)))) ea_nil)) nd)
  (ess_cons (es_for hp rfl (ei_range1 b_range (ee_mod (ee_ix (ee_var 4) ee_int) (ee_add (ee_var 3) ee_int))) (eg_name nd) (ess_cons (es_asg (ee_fn C__law_up hr tk (ea_cons (ee_ix (ee_var 5) ee_neg) ea_nil)) nd)
  (ess_one (es_asg (ee_add (ee_var 5) (ee_if (eb_cmp (cm_ne hr) (ee_var 7) (ee_lst ea_nil)) (ee_lst (ea_cons (ee_ix (ee_var 7) (ee_mod (ee_ix (ee_var 4) (ee_add ee_int (ee_var 6))) (ee_len b_len (ee_var 7)))) ea_nil)) (ee_lst ea_nil))) nd))))
  (ess_one (es_ret (ee_var 5))))))
abbrev s_law : Stmt := top 30
def C1_law : Gm → EO := compE (compO (rg2 (cE (.int 1)) (op2 (gInt iSub) (op1 gLen (varE 11)) (cE (.int 1))))) [13] (toN 13) yesB (callE m_change_at (consA (varE 11) (consA (varE 13) nilA)))
def L1_law : Gm → SO := (asgS 10 (op2 gAdd (varE 10) C1_law))
def C2_law : Gm → EO := compE (compiL (varE 10)) [11] (toN 11) (boolB (op2 gNotIn (varE 11) (varE 8))) (varE 11)
def L2_law : Gm → SO := (seqS (asgS 10 (lstE nilA))
  (seqS (forS (iterL (varE 8)) (toN 11) L1_law)
  (seqS (asgS 8 (op2 gAdd (varE 8) C2_law))
  (asgS 9 (op2 gAdd (varE 9) (cE (.int 1)))))))
def C3_law : Gm → EO := compE (compO (rg1 (op1 gLen (varE 3)))) [13] (toN 13) (boolB (op2 gNe (op2 gIx (op2 gIx (varE 6) (varE 7)) (varE 13)) (op2 gIx (op2 gIx (varE 6) (op2 (gInt iSub) (varE 7) (cE (.int 1)))) (varE 13)))) (varE 13)
def L3_law : Gm → SO := (seqS (asgS 12 C3_law)
  (ifS (orB (boolB (op2 gNe (op1 gLen (varE 12)) (cE (.int 1)))) (boolB (op2 gNotIn (op2 gIx (varE 6) (varE 7)) (varE 4)))) (retS (cE (.bool false))) nilS))
def b_law : Gm → SO := (seqS (asgS 1 (callE m__law_row (consA (varE 0) (consA (cE (.int 4)) nilA))))
  (seqS (asgS 2 (op2 gAdd (cE (.int 2)) (op2 (gInt iMod) (op2 gIx (varE 1) (cE (.int 0))) (cE (.int 4)))))
  (seqS (asgS 3 (callE m__law_chain (consA (varE 0) (consA (cE (.int 2)) (consA (varE 2) (consA (cE (.int 4)) nilA))))))
  (seqS (asgS 4 (callE m__law_chains (consA (op2 gIx (varE 3) (cE (.int 0))) (consA (op2 gIx (varE 3) (cE (.int (-1)))) nilA))))
  (seqS (asgS 5 (op2 gIx (varE 4) (op2 (gInt iMod) (op2 gIx (varE 1) (cE (.int 1))) (op1 gLen (varE 4)))))
  (seqS (asgS 6 (callE m_chain_road (consA (varE 3) (consA (varE 5) nilA))))
  (seqS (asg2S 8 9 (tupE (consA (lstE (consA (varE 3) nilA)) (consA (cE (.int 0)) nilA))))
  (seqS (whileL (boolB (op2 gNotIn (varE 5) (varE 8))) L2_law 100)
  (seqS (ifS (orB (boolB (op2 gNe (op2 gIx (varE 6) (cE (.int 0))) (varE 3))) (orB (boolB (op2 gNe (op2 gIx (varE 6) (cE (.int (-1)))) (varE 5))) (boolB (op2 gNe (op1 gLen (varE 6)) (op2 gAdd (varE 9) (cE (.int 1))))))) (retS (cE (.bool false))) nilS)
  (seqS (forS (iterO (rg2 (cE (.int 1)) (op1 gLen (varE 6)))) (toN 7) L3_law)
  (retS (orE (op2 (gInt iLt) (op1 gLen (varE 3)) (cE (.int 2))) (op2 gEq (callE m__law_changed (consA (cE (.int 1)) (consA (varE 3) (consA (slE (varE 3) (partS (cE (.int 1))) partN) nilA)))) (cE (.str "chain")))))))))))))))
def m_law : List PyData → FO := defM 14 1 b_law
abbrev N_law : List Str := ["script", "draws", "size", "chain", "every", "other", "found", "step", "reached", "many", "later", "one", "unlike", "place"]
theorem sc_law : FnScope N_law ["script"] (defScope s_law) := ⟨rfl, rfl, rfl, by decide +kernel, rfl, by decide +kernel, by decide +kernel⟩
theorem ok_law {P : Program} {w : World} {K : PySem.W.Frag} {mg : Str → Option Value} {base : Heap} {ct : Nat → Addr} {f : Addr} {fd : FuncData} (F : Fun K "law" "law" s_law f fd) (b_len : mg "len" = none) (b_range : mg "range" = none) (C__law_row : CallT P w K mg base ct "_law_row" 2 m__law_row) (C__law_chain : CallT P w K mg base ct "_law_chain" 4 m__law_chain) (C__law_chains : CallT P w K mg base ct "_law_chains" 3 m__law_chains) (C_chain_road : CallT P w K mg base ct "chain_road" 6 m_chain_road) (C_change_at : CallT P w K mg base ct "change_at" 5 m_change_at) (C__law_changed : CallT P w K mg base ct "_law_changed" 7 m__law_changed) :
    FnOk P w K mg base (L2.CX P w) 8 f fd ["script"] (spM K ct m_law) :=
  have nd := sc_law.nd
  fn_ok (k := 7) F sc_law fun cdv A outer s H E hr tk hp =>
  (ess_cons (es_asg (ee_fn C__law_row hr tk (ea_cons (ee_var 0) (ea_cons ee_int ea_nil))) nd)
  (ess_cons (es_asg (ee_add ee_int (ee_mod (ee_ix (ee_var 1) ee_int) ee_int)) nd)
  (ess_cons (es_asg (ee_fn C__law_chain hr tk (ea_cons (ee_var 0) (ea_cons ee_int (ea_cons (ee_var 2) (ea_cons ee_int ea_nil))))) nd)
  (ess_cons (es_asg (ee_fn C__law_chains hr tk (ea_cons (ee_ix (ee_var 3) ee_int) (ea_cons (ee_ix (ee_var 3) ee_neg) ea_nil))) nd)
  (ess_cons (es_asg (ee_ix (ee_var 4) (ee_mod (ee_ix (ee_var 1) ee_int) (ee_len b_len (ee_var 4)))) nd)
  (ess_cons (es_asg (ee_fn C_chain_road hr tk (ea_cons (ee_var 3) (ea_cons (ee_var 5) ea_nil))) nd)
  (ess_cons (es_asg2 rfl (ee_tup (ea_cons (ee_lst (ea_cons (ee_var 3) ea_nil)) (ea_cons ee_int ea_nil))) nd)
  (ess_cons (es_while 100 hp (eb_cmp (cm_nin hr) (ee_var 5) (ee_var 8)) (ess_cons (es_asg (ee_lst ea_nil) nd)
  (ess_cons (es_for hp rfl (ei_list (ee_var 8)) (eg_name nd) (ess_one (es_asg (ee_add (ee_var 10) (ee_comp N_law (defScope s_law) [("place", 13)] rfl nd (by decide +kernel) (ec_range2 (ct := ct) b_range ee_int (ee_sub (ee_len b_len (ee_var 11)) ee_int)) (fun _ _ _ _ _ => (egw_name nd (by decide))) (fun _ _ _ _ _ => ets_nil) (fun _ _ _ _ _ => (ee_fn C_change_at hr takes0 (ea_cons (ee_var 11) (ea_cons (ee_var 13) ea_nil)))))) nd)))
  (ess_cons (es_asg (ee_add (ee_var 8) (ee_comp N_law (defScope s_law) [("one", 11)] rfl nd (by decide +kernel) (ec_list (ct := ct) (ee_var 10)) (fun _ _ _ _ _ => (egw_name nd (by decide))) (fun _ _ _ _ _ => (ets_one (eb_cmp (cm_nin hr) (ee_var 11) (ee_var 8)))) (fun _ _ _ _ _ => (ee_var 11)))) nd)
  (ess_one (es_asg (ee_add (ee_var 9) ee_int) nd))))))
  (ess_cons (es_if (eb_w (ew_or (eb_cmp (cm_ne hr) (ee_ix (ee_var 6) ee_int) (ee_var 3)) (ew_or (eb_cmp (cm_ne hr) (ee_ix (ee_var 6) ee_neg) (ee_var 5)) (ew_or1 (eb_cmp (cm_ne hr) (ee_len b_len (ee_var 6)) (ee_add (ee_var 9) ee_int)))))) (ess_one (es_ret ee_bl)) ess_nil)
  (ess_cons (es_for hp rfl (ei_range2 b_range ee_int (ee_len b_len (ee_var 6))) (eg_name nd) (ess_cons (es_asgC N_law (defScope s_law) [("place", 13)] rfl nd (by decide +kernel) (sw_true rfl rfl rfl (by decide +kernel)) (ec_range1 (ct := ct) b_range (ee_len b_len (ee_var 3))) (fun _ _ _ _ _ => (egw_name nd (by decide))) (fun _ _ _ _ _ => (ets_one (eb_cmp (cm_ne hr) (ee_ix (ee_ix (ee_var 6) (ee_var 7)) (ee_var 13)) (ee_ix (ee_ix (ee_var 6) (ee_sub (ee_var 7) ee_int)) (ee_var 13))))) (fun _ _ _ _ _ => (ee_var 13)))
  (ess_one (es_if (eb_w (ew_or (eb_cmp (cm_ne hr) (ee_len b_len (ee_var 12)) ee_int) (ew_or1 (eb_cmp (cm_nin hr) (ee_ix (ee_var 6) (ee_var 7)) (ee_var 4))))) (ess_one (es_ret ee_bl)) ess_nil))))
  (ess_one (es_ret (ee_or (ee_cmp cm_lt (ee_len b_len (ee_var 3)) ee_int) (ee_one (ee_cmp (cm_eq hr) (ee_fn C__law_changed hr tk (ea_cons ee_int (ea_cons (ee_var 3) (ea_cons (ee_slice (ee_var 3) (eo_some (ct := ct) ee_int) eo_none) ea_nil)))) ee_str)))))))))))))))
end Lw

set_option linter.all false
set_option maxRecDepth 1000000
namespace Lw
open PySem L2 VL
/-! ### the law's draws -/
theorem cell_ok {ns : List Int} {k : Int} (h0 : 0 ≤ k) : m__law_cell [scrD ns, .int k] = .ok (.int (ns.getD k.toNat 0)) := by
  refine defM_ret rfl ?_
  by_cases h : k < ns.length
  · have hl : k.toNat < ns.length := by omega
    have e : atI (ns.map fun n => (PyData.int n, PyData.none)) k = some (PyData.int ns[k.toNat], PyData.none) := atI_nat h0 (by simp [hl])
    simp [b__law_cell, startG, scrD, h, e, hl]
  · have hl : ns.length ≤ k.toNat := by omega
    simp [b__law_cell, startG, scrD, h, hl]
/-- sixty numbers below 1000 -/
def Draws (ds : List Int) : Prop := ds.length = 60 ∧ ∀ d ∈ ds, 0 ≤ d ∧ d < 1000
theorem row_turn {ns : List Int} {a : Int} (h0 : 0 ≤ a) {c : Int} {fs : List Int} {t : Int} (ht : 0 ≤ t) (hl : fs.length < 60) (x : Option Sl) :
    ∃ c2 d, 0 ≤ d ∧ d < 1000 ∧ L1__law_row [some (.dat (scrD ns)), some (.dat (.int a)), some (.dat (.int c)), some (.own (fs.map PyData.int)), some (.dat (.int t))] = .next [some (.dat (scrD ns)), some (.dat (.int a)), some (.dat (.int c2)), some (.own ((fs ++ [d]).map PyData.int)), some (.dat (.int t))] := by
  have hb : fs.length < big := by unfold big; omega
  by_cases h : ns.getD a.toNat 0 < 1000000000000000000
  · refine ⟨(c * 48271 + 131 * t + 7 + ns.getD ((a + 1 + t) % 20).toNat 0) % 2147483647, (c * 48271 + 131 * t + 7 + ns.getD ((a + 1 + t) % 20).toNat 0) % 2147483647 / 11 % 1000, by omega, by omega, ?_⟩
    have e1 : 0 ≤ (a + 1 + t) % 20 := by omega
    have p : iPow 10 18 = some (.int 1000000000000000000) := rfl
    simp only [List.getD_eq_getElem?_getD] at h ⊢
    simp [L1__law_row, cell_ok h0, p, h, gMul_i (i := c) (j := 48271) (.inr (by decide)), gMul_i (i := 131) (j := t) (.inl (by decide)), iMod_pos (i := a + 1 + t) (j := 20) (by decide), cell_ok e1,
      iMod_pos (j := 2147483647) (by decide), iFdiv_pos (j := 11) (by decide) (by decide), iMod_pos (j := 1000) (by decide), hb]
  · refine ⟨c / 1000, c % 1000, by omega, by omega, ?_⟩
    have p : iPow 10 18 = some (.int 1000000000000000000) := rfl
    simp only [List.getD_eq_getElem?_getD] at h
    simp [L1__law_row, cell_ok h0, p, h, iFdiv_pos (j := 1000) (by decide) (by decide), iMod_pos (j := 1000) (by decide), hb]
theorem row_ok {ns : List Int} {a : Int} (h0 : 0 ≤ a) : ∃ ds, Draws ds ∧ m__law_row [scrD ns, .int a] = .ok (.list (ds.map PyData.int)) := by
  obtain ⟨G2, hG, c2, fs, x2, hf, hd, e2⟩ := for_inv (tgt := toN 4) (body := L1__law_row) (ds := rgD 0 60) (G := [some (.dat (scrD ns)), some (.dat (.int a)), some (.dat (.int (ns.getD a.toNat 0))), some (.own []), none])
    (fun k G => ∃ (c : Int) (fs : List Int) (x : Option Sl), fs.length = k ∧ (∀ d ∈ fs, 0 ≤ d ∧ d < 1000) ∧ G = [some (.dat (scrD ns)), some (.dat (.int a)), some (.dat (.int c)), some (.own (fs.map PyData.int)), x])
    ⟨_, [], none, rfl, by simp, rfl⟩ fun k d G hk ⟨c, fs, x, hl, hd, e⟩ => by
      obtain ⟨hk2, rfl⟩ := rgD_get hk
      subst e
      obtain ⟨c2, y, y0, y1, ht⟩ := row_turn (ns := ns) h0 (c := c) (fs := fs) (t := 0 + (k : Nat)) (by omega) (by omega) x
      refine ⟨_, _, rfl, ht, c2, fs ++ [y], _, by simp [hl], fun z hz => ?_, rfl⟩
      rcases List.mem_append.mp hz with q | q
      · exact hd z q
      · rw [List.mem_singleton.mp q]
        exact ⟨y0, y1⟩
  rw [rgD_len] at hf
  refine ⟨fs, ⟨hf, hd⟩, defM_ret rfl ?_⟩
  have r : rg1K (.ok (.int 60) .frz) = some (rgD 0 60) := rfl
  simp only [List.getD_eq_getElem?_getD] at hG
  simp [b__law_row, startG, cell_ok h0, r, hG, e2]
/-! ### the law's orders -/
/-- all ways to take k items out of a list, one after another -/
def picks : Nat → List Int → List (List Int)
  | 0, _ => [[]]
  | k + 1, l => (List.range l.length).flatMap fun i => (picks k (l.eraseIdx i)).map fun r => l.getD i 0 :: r
def rgI (n : Nat) : List Int := (List.range n).map fun i => ((i : Nat) : Int)
/-- the orders of n numbers -/
def ords (n : Nat) : List (List Int) := picks n (rgI n)
theorem picks_mem {k : Nat} {l : List Int} {i : Nat} {r : List Int} (hi : i < l.length) (h : r ∈ picks k (l.eraseIdx i)) : l.getD i 0 :: r ∈ picks (k + 1) l :=
  List.mem_flatMap.mpr ⟨i, List.mem_range.mpr hi, List.mem_map.mpr ⟨r, h, rfl⟩⟩
theorem erase_map {α β : Type} (f : α → β) : ∀ (l : List α) (i : Nat), (l.map f).eraseIdx i = (l.eraseIdx i).map f
  | [], _ => rfl
  | _ :: _, 0 => rfl
  | a :: l, i + 1 => by
    show f a :: (l.map f).eraseIdx i = f a :: (l.eraseIdx i).map f
    rw [erase_map f l i]
theorem order_turn {A : List (Option Sl)} {s a z : Option Sl} {dr left fs : List Int} {p : Int} (hd : Draws dr) (hp : 0 ≤ p) (hp2 : p < 60) (hl : 0 < left.length) (hl2 : left.length ≤ 100) (hf : fs.length ≤ 100) :
    ∃ i, i < left.length ∧ L1__law_order [s, a, z, some (.dat (.list (dr.map PyData.int))), some (.own (left.map PyData.int)), some (.own (fs.map PyData.int)), some (.dat (.int p))] =
      .next [s, a, z, some (.dat (.list (dr.map PyData.int))), some (.own ((left.eraseIdx i).map PyData.int)), some (.own ((fs ++ [left.getD i 0]).map PyData.int)), some (.dat (.int p))] := by
  have hpl : p.toNat < dr.length := by rw [hd.1]; omega
  have e1 : atI (dr.map PyData.int) p = some (PyData.int dr[p.toNat]) := atI_nat hp (by simp [hpl])
  have hn := hd.2 dr[p.toNat] (List.getElem_mem hpl)
  have h0 : 0 ≤ dr[p.toNat] % (left.length : Int) := Int.emod_nonneg _ (by omega)
  have h1 : dr[p.toNat] % (left.length : Int) < left.length := Int.emod_lt_of_pos _ (by omega)
  obtain ⟨i, hi⟩ : ∃ i : Nat, i = (dr[p.toNat] % (left.length : Int)).toNat := ⟨_, rfl⟩
  have hil : i < left.length := by omega
  refine ⟨i, hil, ?_⟩
  have e2 : (left.map PyData.int)[(dr[p.toNat] % (left.length : Int)).toNat]? = some (PyData.int left[i]) := by rw [← hi]; simp [hil]
  have hb : (left.map PyData.int).length ≤ big := by unfold big; rw [List.length_map]; omega
  have hb2 : fs.length < big := by unfold big; omega
  have em : ∀ l : List Int, (l.map PyData.int).eraseIdx i = (l.eraseIdx i).map PyData.int := fun l => erase_map _ l i
  simp [L1__law_order, e1, iMod_pos (i := dr[p.toNat]) (j := (left.length : Int)) (by omega), popK_o h0 hb e2, ← hi, em, hb2, hil]
theorem order_ok {ns : List Int} {a : Int} {n : Nat} (h0 : 0 ≤ a) (hn : n ≤ 60) : ∃ o, o ∈ ords n ∧ m__law_order [scrD ns, .int a, .int n] = .ok (tupD o) := by
  obtain ⟨dr, hd, hr⟩ := row_ok (ns := ns) h0
  obtain ⟨G2, hG, left, fs, x, hf, hl, hp, e⟩ := for_inv (tgt := toN 6) (body := L1__law_order) (ds := rgD 0 n) (G := [some (.dat (scrD ns)), some (.dat (.int a)), some (.dat (.int n)), some (.dat (.list (dr.map PyData.int))), some (.own ((rgI n).map PyData.int)), some (.own []), none])
    (fun k G => ∃ (left fs : List Int) (x : Option Sl), fs.length = k ∧ left.length + k = n ∧ (∀ r, r ∈ picks (n - k) left → fs ++ r ∈ ords n) ∧ G = [some (.dat (scrD ns)), some (.dat (.int a)), some (.dat (.int n)), some (.dat (.list (dr.map PyData.int))), some (.own (left.map PyData.int)), some (.own (fs.map PyData.int)), x])
    ⟨rgI n, [], none, rfl, by unfold rgI; simp, fun r hr => hr, rfl⟩ fun k d G hk ⟨left, fs, x, hf, hl, hp, e⟩ => by
      obtain ⟨hk2, rfl⟩ := rgD_get hk
      subst e
      obtain ⟨i, hi, ht⟩ := order_turn (A := []) (s := some (.dat (scrD ns))) (a := some (.dat (.int a))) (z := some (.dat (.int n))) (dr := dr) (left := left) (fs := fs) (p := 0 + (k : Nat)) hd (by omega) (by omega) (by omega) (by omega) (by omega)
      refine ⟨_, _, rfl, ht, left.eraseIdx i, fs ++ [left.getD i 0], _, by simp [hf], ?_, fun r hr => ?_, rfl⟩
      · rw [List.length_eraseIdx_of_lt hi]
        omega
      · rw [List.append_assoc]
        refine hp _ ?_
        rw [show n - k = (n - (k + 1)) + 1 by omega]
        exact picks_mem hi hr
  rw [rgD_len] at hf hl hp
  refine ⟨fs, ?_, defM_ret rfl ?_⟩
  · have := hp [] (by rw [Nat.sub_self]; exact List.mem_singleton.mpr rfl)
    rw [List.append_nil] at this
    exact this
  · have r : rg1K (.ok (.int (n : Int)) .frz) = some (rgD 0 n) := by rw [rg1K_i (by omega)]; rfl
    have e1 : rgD 0 n = (rgI n).map PyData.int := by unfold rgD rgI; rw [List.map_map]; apply List.map_congr_left; intro i _; simp
    rw [e1] at hG
    simp [b__law_order, startG, hr, r, e1, hG, e, tupD]

/-! ### orders, in_range, is_order -/
def inR (lo hi : Int) : PyData → Bool
  | .int v => decide (lo ≤ v) && decide (v ≤ hi)
  | _ => false
theorem in_range_ok {d : PyData} {lo hi : Int} (h : ∀ kvs, d ≠ .dict kvs) : m_in_range [d, .int lo, .int hi] = .ok (.bool (inR lo hi d)) := by
  refine defM_ret rfl ?_
  cases d with
  | dict kvs => exact absurd rfl (h kvs)
  | int v =>
    by_cases h1 : lo ≤ v
    · simp [b_in_range, startG, gIsi, tyOf, subTy, inR, h1]
    · simp [b_in_range, startG, gIsi, tyOf, subTy, inR, h1]
  | none => simp [b_in_range, startG, gIsi, tyOf, subTy, inR]
  | bool b => simp [b_in_range, startG, gIsi, tyOf, subTy, inR]
  | str x => simp [b_in_range, startG, gIsi, tyOf, subTy, inR]
  | list ds => simp [b_in_range, startG, gIsi, tyOf, subTy, inR]
  | tuple ds => simp [b_in_range, startG, gIsi, tyOf, subTy, inR]
/-- an order, of ints -/
def isOrdB (o : List Int) : Bool := decide (1 ≤ o.length) && decide (o.length ≤ 6) && o.all (fun v => decide (0 ≤ v) && decide (v ≤ (o.length : Int) - 1)) && (dedup o).length == o.length
theorem allInts_map (o : List Int) : allInts (o.map PyData.int) = some o := by
  induction o with
  | nil => rfl
  | cons n o ih =>
    show (match allInts (o.map PyData.int) with
      | some ns => some (n :: ns)
      | none => none) = _
    rw [ih]
theorem bad_ok {o : List Int} (hb : o.length ≤ 100) {x : Option Sl} : C1_is_order [some (.dat (tupD o)), x] = .ok (.list ((o.map PyData.int).filterMap fun d => if inR 0 ((o.length : Int) - 1) d = true then none else some d)) .new := by
  unfold C1_is_order
  rw [compE_eq]
  have e : (compiT (varE 0)) [some (.dat (tupD o)), x] = .ok (o.map PyData.int) := by simp [tupD]
  rw [e]
  refine run_comp (by rw [List.length_map]; unfold big; omega) fun d hd => ?_
  obtain ⟨v, hv, rfl⟩ := List.mem_map.mp hd
  have := in_range_ok (d := .int v) (lo := 0) (hi := (o.length : Int) - 1) (fun _ e => nomatch e)
  by_cases h : inR 0 ((o.length : Int) - 1) (.int v) = true
  · simp [tupD, this, h]
  · simp [tupD, this, h]
theorem filterMap_bad {p : PyData → Bool} : ∀ {ds : List PyData}, (ds.filterMap fun d => if p d = true then none else some d).isEmpty = ds.all p
  | [] => rfl
  | d :: ds => by
    rw [List.filterMap_cons, List.all_cons]
    by_cases h : p d = true
    · simp [h, filterMap_bad (ds := ds)]
    · simp [h]
theorem is_order_ok {o : List Int} (hb : o.length ≤ 100) : m_is_order [tupD o] = .ok (.bool (isOrdB o)) := by
  refine defM_ret rfl ?_
  have hc := bad_ok hb (x := none)
  unfold tupD at hc
  by_cases h1 : 1 ≤ o.length
  · by_cases h6 : o.length ≤ 6
    · have h1' : (1 : Int) ≤ o.length := by omega
      have h6' : (o.length : Int) ≤ 6 := by omega
      have ha : (o.map PyData.int).all (inR 0 ((o.length : Int) - 1)) = o.all fun v => decide (0 ≤ v) && decide (v ≤ (o.length : Int) - 1) := by
        rw [List.all_map]
        rfl
      have hs : gLenSet (.tuple (o.map PyData.int)) = .ok (.int (dedup o).length) .frz := by
        unfold gLenSet
        simp only [allInts_map]
        rw [if_pos (by omega)]
      by_cases hall : (o.map PyData.int).all (inR 0 ((o.length : Int) - 1)) = true
      · simp only [b_is_order, tupD, startG, seqS_eq, ifS_eq, orB_eq, notB_eq, truthB_eq, boolB_eq, op1_eq, varE_eq, List.map, List.length_cons, List.length_nil, Nat.reduceAdd, Nat.reduceSub, List.replicate, List.cons_append, List.nil_append, List.getElem?_cons_zero, varO_d, bind_ok, gIsi, tyOf, subTy, bindB_ok, truthO_b, bindB_b, Bool.not_true, Bool.false_eq_true, if_false, chainE_eq, cE_eq, gLen_t, gInt_eq, iLe_eq, optE_some, List.length_map, h1', h6', decide_true, chainK_b, if_true, boolO_b, bindS_b, nilS_eq, seq_next, hc, truthO_l, filterMap_bad, hall, retS_eq, op2_eq, hs, gEq_i, bindS_ok, retK_frz]
        unfold isOrdB
        rw [ha] at hall
        simp only [h1, h6, decide_true, Bool.true_and, hall]
        congr 2
        rw [Bool.eq_iff_iff, beq_iff_eq, beq_iff_eq]
        omega
      · simp only [b_is_order, tupD, startG, seqS_eq, ifS_eq, orB_eq, notB_eq, truthB_eq, boolB_eq, op1_eq, varE_eq, List.map, List.length_cons, List.length_nil, Nat.reduceAdd, Nat.reduceSub, List.replicate, List.cons_append, List.nil_append, List.getElem?_cons_zero, varO_d, bind_ok, gIsi, tyOf, subTy, bindB_ok, truthO_b, bindB_b, Bool.not_true, Bool.false_eq_true, if_false, chainE_eq, cE_eq, gLen_t, gInt_eq, iLe_eq, optE_some, List.length_map, h1', h6', decide_true, chainK_b, if_true, boolO_b, bindS_b, nilS_eq, seq_next, hc, truthO_l, filterMap_bad, Bool.eq_false_iff.mpr hall, Bool.not_false, retS_eq, bindS_ok, retK_frz, seq_ret]
        unfold isOrdB
        rw [ha] at hall
        simp [Bool.eq_false_iff.mpr hall]
    · have h1' : (1 : Int) ≤ o.length := by omega
      have h6' : ¬ (o.length : Int) ≤ 6 := by omega
      simp [b_is_order, tupD, startG, gIsi, tyOf, subTy, h1', h6', isOrdB, h6]
  · have h1' : ¬ (1 : Int) ≤ o.length := by omega
    have : o = [] := List.eq_nil_of_length_eq_zero (by omega)
    subst this
    simp [b_is_order, tupD, startG, gIsi, tyOf, subTy, isOrdB]
/-! ### exchanges -/
def swp (o : List Int) (p q : Nat) : List Int := (o.set p (o.getD q 0)).set q (o.getD p 0)
theorem swp_len (o : List Int) (p q : Nat) : (swp o p q).length = o.length := by unfold swp; rw [List.length_set, List.length_set]
theorem at_tup {o : List Int} {p : Nat} (h : p < o.length) : atI (o.map PyData.int) ((p : Nat) : Int) = some (.int (o.getD p 0)) := atI_nat (by omega) (by simp [h])
theorem ixN_nat {n p : Nat} (h : p < n) : ixN n ((p : Nat) : Int) = some p := by
  unfold ixN
  rw [if_pos (by omega), if_pos (by omega), Int.toNat_natCast]
theorem map_set (o : List Int) (p : Nat) (v : Int) : (o.map PyData.int).set p (.int v) = (o.set p v).map PyData.int := by rw [List.map_set]

theorem exchanged_ok {o : List Int} {p q : Nat} (hp : p < o.length) (hq : q < o.length) : m_exchanged [tupD o, .int (p : Nat), .int (q : Nat)] = .ok (tupD (swp o p q)) := by
  refine defM_ret rfl ?_
  have e1 := at_tup hp
  have e2 := at_tup hq
  simp only [List.getD_eq_getElem?_getD] at e1 e2
  simp [b_exchanged, startG, tupD, e1, e2, ixN_nat hp, ixN_nat hq, swp]

theorem swapped_ok {o : List Int} {p q : Nat} (hp : p < o.length) (hq : q < o.length) : m__law_swapped [tupD o, .int (p : Nat), .int (q : Nat)] = .ok (tupD (swp o p q)) := by
  refine defM_ret rfl ?_
  have e1 := at_tup hp
  have e2 := at_tup hq
  simp only [List.getD_eq_getElem?_getD] at e1 e2
  simp [b__law_swapped, startG, tupD, e1, e2, ixN_nat hp, ixN_nat hq, swp]

/-! ### inversions -/
def pairD (r : Nat × Nat) : PyData := .tuple [.int (r.1 : Nat), .int (r.2 : Nat)]
/-- the inversions at place p -/
def invAt (o : List Int) (p : Nat) : List (Nat × Nat) := (List.range (o.length - (p + 1))).filterMap fun k => if o.getD (p + 1 + k) 0 < o.getD p 0 then some (p, p + 1 + k) else none
def invs (o : List Int) : List (Nat × Nat) := (List.range o.length).flatMap (invAt o)
theorem invAt_len (o : List Int) (p : Nat) : (invAt o p).length ≤ o.length := by
  unfold invAt
  refine Nat.le_trans (List.length_filterMap_le _ _) ?_
  rw [List.length_range]
  omega
theorem flat_len {α : Type} {f : Nat → List α} {m : Nat} (h : ∀ p, (f p).length ≤ m) : ∀ k, ((List.range k).flatMap f).length ≤ k * m
  | 0 => by simp
  | k + 1 => by
    rw [List.range_succ, List.flatMap_append, List.length_append, Nat.succ_mul]
    have := flat_len h k
    have := h k
    simp only [List.flatMap_cons, List.flatMap_nil, List.append_nil]
    omega
theorem flat_succ {α : Type} {f : Nat → List α} {k : Nat} : (List.range (k + 1)).flatMap f = (List.range k).flatMap f ++ f k := by
  rw [List.range_succ, List.flatMap_append]
  simp
theorem two_big : (2 : Nat) ≤ big := by decide
theorem invs_comp {o : List Int} {p : Nat} (hb : o.length ≤ 100) (hp : p < o.length) {x y : Option Sl} : C1__law_inversions [some (.dat (tupD o)), x, some (.dat (.int (p : Nat))), y] = .ok (.list ((invAt o p).map pairD)) .new := by
  unfold C1__law_inversions
  rw [compE_eq]
  have e : (compO (rg2 (op2 gAdd (varE 2) (cE (.int 1))) (op1 gLen (varE 0)))) [some (.dat (tupD o)), x, some (.dat (.int (p : Nat))), y] = .ok (rgD ((p : Int) + 1) (o.length - (p + 1))) := by
    have : ((o.length : Int) - ((p : Int) + 1)).toNat = o.length - (p + 1) := by omega
    simp [tupD, rg2K_i (i := (p : Int) + 1) (j := (o.length : Int)) (by omega), this]
  rw [e]
  have hr := run_comp (ds := rgD ((p : Int) + 1) (o.length - (p + 1))) (step := stepC (toN 3) (boolB (op2 (gInt iGt) (op2 gIx (varE 0) (varE 2)) (op2 gIx (varE 0) (varE 3)))) (tupE (consA (varE 2) (consA (varE 3) nilA))) (wipeG [some (.dat (tupD o)), x, some (.dat (.int (p : Nat))), y] [3]))
    (f := fun d => match d with
      | .int v => if o.getD v.toNat 0 < o.getD p 0 then some (.tuple [.int (p : Nat), .int v]) else none
      | _ => none) (by rw [rgD_len]; unfold big; omega) fun d hd => by
      obtain ⟨k, hk⟩ := List.mem_iff_getElem?.mp hd
      obtain ⟨hk2, rfl⟩ := rgD_get hk
      have hq : p + 1 + k < o.length := by omega
      have e1 := at_tup hp
      have e2 := at_tup hq
      have e3 : (((p + 1 + k : Nat) : Nat) : Int) = (p : Int) + 1 + (k : Nat) := by omega
      rw [e3] at e2
      have e4 : ((p : Int) + 1 + (k : Nat)).toNat = p + 1 + k := by omega
      simp only [List.getD_eq_getElem?_getD] at e1 e2
      by_cases h : o[p + 1 + k]?.getD 0 < o[p]?.getD 0
      · simp [tupD, e1, e2, e4, h, two_big]
      · simp [tupD, e1, e2, e4, h]
  rw [hr]
  refine congrArg (fun l => EO.ok (.list l) .new) ?_
  unfold invAt rgD
  rw [List.filterMap_map, List.map_filterMap]
  apply fm_congr
  intro k hk
  have e4 : ((p : Int) + 1 + (k : Nat)).toNat = p + 1 + k := by omega
  simp only [Function.comp, e4]
  split
  · simp [pairD]
  · rfl
theorem law_inversions_ok {o : List Int} (hb : o.length ≤ 100) : m__law_inversions [tupD o] = .ok (.list ((invs o).map pairD)) := by
  obtain ⟨G2, hG, x, y, e⟩ := for_inv (tgt := toN 2) (body := L1__law_inversions) (ds := rgD 0 o.length) (G := [some (.dat (tupD o)), some (.own []), none, none])
    (fun k G => ∃ x y : Option Sl, G = [some (.dat (tupD o)), some (.own (((List.range k).flatMap (invAt o)).map pairD)), x, y])
    ⟨none, none, rfl⟩ fun k d G hk ⟨x, y, e⟩ => by
      obtain ⟨hk2, rfl⟩ := rgD_get hk
      subst e
      have h1 := flat_len (invAt_len o) k
      have h2 := invAt_len o k
      have h3 : k * o.length ≤ 100 * 100 := Nat.mul_le_mul (by omega) hb
      have hl : ((List.range k).flatMap (invAt o)).length + (invAt o k).length ≤ big := by unfold big; omega
      refine ⟨_, _, rfl, ?_, some (.dat (.int (k : Nat))), y, rfl⟩
      rw [flat_succ]
      have hc := invs_comp hb hk2 (x := some (.own (((List.range k).flatMap (invAt o)).map pairD))) (y := y)
      simp only [L1__law_inversions, asgS_eq, op2_eq, varE_eq, List.set_cons_succ, List.set_cons_zero, List.getElem?_cons_succ, List.getElem?_cons_zero, varO_o, bind_ok, Int.zero_add, hc, gAdd_l, List.length_map, hl, if_true, bindS_ok, asgK_new, List.map_append]
  rw [rgD_len] at e
  refine defM_ret rfl ?_
  have r : rg1K (.ok (.int (o.length : Int)) .frz) = some (rgD 0 o.length) := by rw [rg1K_i (by omega)]; rfl
  unfold tupD at hG e
  simp [b__law_inversions, startG, tupD, r, hG, e, invs]

/-! ### tuples of small numbers, sorted -/
def Sm (d : Nat) (o : List Int) : Prop := o.length = d ∧ ∀ v ∈ o, 0 ≤ v ∧ v < 64
theorem okT_of {d : Nat} {o : List Int} (h : Sm d o) : okT d o = true := by
  unfold okT
  rw [Bool.and_eq_true, beq_iff_eq, List.all_eq_true]
  refine ⟨h.1, fun v hv => ?_⟩
  rw [Bool.and_eq_true, decide_eq_true_eq, decide_eq_true_eq]
  exact h.2 v hv
theorem getD_mem {o : List Int} {p : Nat} (h : p < o.length) : o.getD p 0 ∈ o := by
  rw [List.getD_eq_getElem?_getD, List.getElem?_eq_getElem h]
  exact List.getElem_mem h
theorem mem_set {o : List Int} {p : Nat} {x v : Int} (h : v ∈ o.set p x) : v ∈ o ∨ v = x := List.mem_or_eq_of_mem_set h
theorem sm_swp {d : Nat} {o : List Int} {p q : Nat} (h : Sm d o) (hp : p < o.length) (hq : q < o.length) : Sm d (swp o p q) := by
  refine ⟨(swp_len o p q).trans h.1, fun v hv => ?_⟩
  rcases mem_set hv with h1 | h1
  · rcases mem_set h1 with h2 | h2
    · exact h.2 v h2
    · rw [h2]
      exact h.2 _ (getD_mem hq)
  · rw [h1]
    exact h.2 _ (getD_mem hp)
theorem sm_rev {d : Nat} {o : List Int} (h : Sm d o) : Sm d o.reverse := ⟨by rw [List.length_reverse]; exact h.1, fun v hv => h.2 v (List.mem_reverse.mp hv)⟩
theorem intTups_map : ∀ nss : List (List Int), intTups (nss.map tupD) = some nss
  | [] => rfl
  | ns :: nss => by
    show (match allInts (ns.map PyData.int), intTups (nss.map tupD) with
      | some ns, some nss => some (ns :: nss)
      | _, _ => none) = _
    rw [allInts_map, intTups_map nss]
theorem gSortT_ok {d : Nat} {nss : List (List Int)} (hd : 1 ≤ d) (hl : nss.length < 64) (h : ∀ ns ∈ nss, Sm d ns) : gSortT (.list (nss.map tupD)) = .ok (.list ((isortT nss).map tupD)) .new := by
  unfold gSortT
  simp only [intTups_map]
  rw [if_pos]
  rw [Bool.and_eq_true, Bool.and_eq_true, decide_eq_true_eq, decide_eq_true_eq, List.all_eq_true]
  cases nss with
  | nil => exact ⟨⟨hl, fun x hx => by cases hx⟩, by decide⟩
  | cons ns nss =>
    have h1 : ns.length = d := (h ns List.mem_cons_self).1
    refine ⟨⟨hl, fun x hx => ?_⟩, by show 1 ≤ ns.length; omega⟩
    show okT ns.length x = true
    rw [h1]
    exact okT_of (h x hx)
theorem mul_one {d : PyData} {b : Bool} : gMul (.list [d]) (.int (if b = true then 1 else 0)) = .ok (.list (if b = true then [d] else [])) .new := by
  cases b
  · rfl
  · rfl
theorem fm_succ {α : Type} {f : Nat → Option α} {k : Nat} : (List.range (k + 1)).filterMap f = (List.range k).filterMap f ++ (f k).toList := by
  rw [List.range_succ, List.filterMap_append]
  cases h : f k <;> simp [h]
theorem fm_len {α : Type} {f : Nat → Option α} {k : Nat} : ((List.range k).filterMap f).length ≤ k := by
  refine Nat.le_trans (List.length_filterMap_le _ _) ?_
  rw [List.length_range]
  exact Nat.le_refl _

/-! ### the law's own steps up -/
def upAt (o : List Int) (m : Int) (p : Nat) : List (List Int) := (List.range (o.length - (p + 1))).filterMap fun k => if ((invs (swp o p (p + 1 + k))).length : Int) = m then some (swp o p (p + 1 + k)) else none
def lawUp0 (o : List Int) (m : Int) : List (List Int) := (List.range o.length).flatMap (upAt o m)
def lawUp (o : List Int) : List (List Int) := isortT (lawUp0 o (((invs o).length : Int) + 1))
theorem upAt_len (o : List Int) (m : Int) (p : Nat) : (upAt o m p).length ≤ o.length := by
  unfold upAt
  refine Nat.le_trans fm_len ?_
  omega
theorem upAt_sm {d : Nat} {o : List Int} {m : Int} {p : Nat} (h : Sm d o) (hp : p < o.length) : ∀ t ∈ upAt o m p, Sm d t := fun t ht => by
  unfold upAt at ht
  obtain ⟨k, hk, e⟩ := List.mem_filterMap.mp ht
  have := List.mem_range.mp hk
  split at e
  · cases e
    exact sm_swp h hp (by omega)
  · cases e
theorem lawUp0_sm {d : Nat} {o : List Int} {m : Int} (h : Sm d o) : ∀ t ∈ lawUp0 o m, Sm d t := fun t ht => by
  obtain ⟨p, hp, h2⟩ := List.mem_flatMap.mp ht
  exact upAt_sm h (List.mem_range.mp hp) t h2
theorem lawUp0_len (o : List Int) (m : Int) (hb : o.length ≤ 7) : (lawUp0 o m).length < 64 := by
  have := flat_len (upAt_len o m) o.length
  have h3 : o.length * o.length ≤ 7 * 7 := Nat.mul_le_mul hb hb
  unfold lawUp0
  omega
theorem up_turn {o : List Int} {m : Int} {p k : Nat} (hb : o.length ≤ 7) (hk : p + 1 + k < o.length) {acc : List (List Int)} (ha : acc.length ≤ 1000) {x : Option Sl} :
    L1__law_up [some (.dat (tupD o)), some (.own (acc.map tupD)), some (.dat (.int m)), some (.dat (.int (p : Nat))), some (.dat (.int ((p + 1 + k : Nat) : Nat))), x] =
      .next [some (.dat (tupD o)), some (.own ((acc ++ (if ((invs (swp o p (p + 1 + k))).length : Int) = m then [swp o p (p + 1 + k)] else [])).map tupD)), some (.dat (.int m)), some (.dat (.int (p : Nat))), some (.dat (.int ((p + 1 + k : Nat) : Nat))), some (.dat (tupD (swp o p (p + 1 + k))))] := by
  have hs := swapped_ok (o := o) (p := p) (q := p + 1 + k) (by omega) hk
  have hv := law_inversions_ok (o := swp o p (p + 1 + k)) (by rw [swp_len]; omega)
  have he : ((((invs (swp o p (p + 1 + k))).length : Nat) : Int) == m) = decide (((invs (swp o p (p + 1 + k))).length : Int) = m) := by
    rw [Bool.eq_iff_iff, beq_iff_eq, decide_eq_true_eq]
  simp only [L1__law_up, seqS_eq, asgS_eq, callE_eq, consA_eq, varE_eq, List.getElem?_cons_succ, List.getElem?_cons_zero, varO_d, hard_frz, bindA_ok, nilA_eq, abind_ok, abindE_ok, hs, toE_ok, bindS_ok, asgK_frz, List.set_cons_succ, List.set_cons_zero, seq_next, op2_eq, op1_eq, varO_o, bind_ok, lstE_eq, List.length_cons, List.length_nil, hv, gLen_l, List.length_map, gEq_i, he, gInt1_b]
  rw [if_pos (show 0 + 1 ≤ big by decide)]
  simp only [bind_ok, mul_one, gAdd_l, List.length_map]
  by_cases h : ((invs (swp o p (p + 1 + k))).length : Int) = m
  · have hl : acc.length + [tupD (swp o p (p + 1 + k))].length ≤ big := by unfold big; simp; omega
    simp only [h, decide_true, if_true, hl, bindS_ok, asgK_new, List.set_cons_succ, List.set_cons_zero, List.map_append, List.map_cons, List.map_nil]
  · have hl : acc.length + ([] : List PyData).length ≤ big := by unfold big; simp; omega
    simp only [h, decide_false, Bool.false_eq_true, if_false, hl, if_true, bindS_ok, asgK_new, List.set_cons_succ, List.set_cons_zero, List.append_nil]
theorem toList_ite {c : Prop} [Decidable c] {t : List Int} : (if c then some t else none).toList = if c then [t] else [] := by
  split <;> rfl
theorem up_row {o : List Int} {m : Int} {p : Nat} (hb : o.length ≤ 7) (hp : p < o.length) {acc : List (List Int)} (ha : acc.length ≤ 100) {x y : Option Sl} :
    ∃ x2 y2, L2__law_up [some (.dat (tupD o)), some (.own (acc.map tupD)), some (.dat (.int m)), some (.dat (.int (p : Nat))), x, y] = .next [some (.dat (tupD o)), some (.own ((acc ++ upAt o m p).map tupD)), some (.dat (.int m)), some (.dat (.int (p : Nat))), x2, y2] := by
  obtain ⟨G2, hG, x2, y2, e⟩ := for_inv (tgt := toN 4) (body := L1__law_up) (ds := rgD ((p : Int) + 1) (o.length - (p + 1))) (G := [some (.dat (tupD o)), some (.own (acc.map tupD)), some (.dat (.int m)), some (.dat (.int (p : Nat))), x, y])
    (fun k G => ∃ x y : Option Sl, G = [some (.dat (tupD o)), some (.own ((acc ++ (List.range k).filterMap fun k => if ((invs (swp o p (p + 1 + k))).length : Int) = m then some (swp o p (p + 1 + k)) else none).map tupD)), some (.dat (.int m)), some (.dat (.int (p : Nat))), x, y])
    ⟨x, y, by simp⟩ fun k d G hk ⟨x, y, e⟩ => by
      obtain ⟨hk2, rfl⟩ := rgD_get hk
      subst e
      have e3 : (p : Int) + 1 + (k : Nat) = ((p + 1 + k : Nat) : Int) := by omega
      rw [e3]
      have hl : ((List.range k).filterMap fun k => if ((invs (swp o p (p + 1 + k))).length : Int) = m then some (swp o p (p + 1 + k)) else none).length ≤ k := fm_len
      refine ⟨_, _, rfl, up_turn hb (by omega) (by rw [List.length_append]; omega), some (.dat (.int ((p + 1 + k : Nat) : Nat))), some (.dat (tupD (swp o p (p + 1 + k)))), ?_⟩
      rw [fm_succ, toList_ite, ← List.append_assoc]
  rw [rgD_len] at e
  refine ⟨x2, y2, ?_⟩
  have r : rg2K (.ok (.int ((p : Int) + 1)) .frz) (.ok (.int (o.length : Int)) .frz) = some (rgD ((p : Int) + 1) (o.length - (p + 1))) := by
    rw [rg2K_i (by omega)]
    congr 2
    omega
  have e2 : upAt o m p = (List.range (o.length - (p + 1))).filterMap fun k => if ((invs (swp o p (p + 1 + k))).length : Int) = m then some (swp o p (p + 1 + k)) else none := rfl
  rw [e2, ← e, ← hG]
  simp only [L2__law_up, forS_eq, iterO_eq, rg2_eq, op2_eq, op1_eq, varE_eq, List.getElem?_cons_succ, List.getElem?_cons_zero, varO_d, bind_ok, cE_eq, gAdd_i, gLen_tup, r, ofO_some, run_ok]
theorem law_up0_ok {o : List Int} (hb : o.length ≤ 7) (m : Int) {x y z : Option Sl} : ∃ x2 y2 z2, forL (toN 3) L2__law_up (rgD 0 o.length) [some (.dat (tupD o)), some (.own []), some (.dat (.int m)), x, y, z] = .next [some (.dat (tupD o)), some (.own ((lawUp0 o m).map tupD)), some (.dat (.int m)), x2, y2, z2] := by
  obtain ⟨G2, hG, x2, y2, z2, e⟩ := for_inv (tgt := toN 3) (body := L2__law_up) (ds := rgD 0 o.length) (G := [some (.dat (tupD o)), some (.own []), some (.dat (.int m)), x, y, z])
    (fun k G => ∃ x y z : Option Sl, G = [some (.dat (tupD o)), some (.own (((List.range k).flatMap (upAt o m)).map tupD)), some (.dat (.int m)), x, y, z])
    ⟨x, y, z, rfl⟩ fun k d G hk ⟨x, y, z, e⟩ => by
      obtain ⟨hk2, rfl⟩ := rgD_get hk
      subst e
      have h1 := flat_len (upAt_len o m) k
      have h3 : k * o.length ≤ 7 * 7 := Nat.mul_le_mul (by omega) hb
      obtain ⟨y2, z2, ht⟩ := up_row (m := m) hb hk2 (acc := (List.range k).flatMap (upAt o m)) (by omega) (x := y) (y := z)
      refine ⟨_, _, rfl, ?_, some (.dat (.int (k : Nat))), y2, z2, rfl⟩
      rw [flat_succ]
      simp only [List.set_cons_succ, List.set_cons_zero, Int.zero_add]
      exact ht
  rw [rgD_len] at e
  exact ⟨x2, y2, z2, by rw [hG, e]; rfl⟩
theorem law_up_ok {d : Nat} {o : List Int} (h : Sm d o) (h1 : 1 ≤ d) (h7 : d ≤ 7) : m__law_up [tupD o] = .ok (.list ((lawUp o).map tupD)) := by
  have hb : o.length ≤ 7 := by rw [h.1]; exact h7
  obtain ⟨x2, y2, z2, hG⟩ := law_up0_ok hb (((invs o).length : Int) + 1) (x := none) (y := none) (z := none)
  have hs := gSortT_ok h1 (lawUp0_len o (((invs o).length : Int) + 1) hb) (lawUp0_sm h)
  have hv := law_inversions_ok (o := o) (by omega)
  refine defM_ret rfl ?_
  have r : rg1K (.ok (.int (o.length : Int)) .frz) = some (rgD 0 o.length) := by rw [rg1K_i (by omega)]; rfl
  simp only [b__law_up, startG, List.map_cons, List.map_nil, List.length_cons, List.length_nil, Nat.reduceAdd, Nat.reduceSub, List.replicate, List.cons_append, List.nil_append, seqS_eq, asgS_eq, lstE_eq, nilA_eq, abindE_ok, Nat.zero_le, if_true, bindS_ok, asgK_new, List.set_cons_succ, List.set_cons_zero, seq_next, op2_eq, op1_eq, callE_eq, consA_eq, varE_eq, List.getElem?_cons_succ, List.getElem?_cons_zero, varO_d, hard_frz, bindA_ok, abind_ok, hv, toE_ok, bind_ok, gLen_l, List.length_map, cE_eq, gAdd_i, asgK_frz, forS_eq, iterO_eq, rg1_eq, gLen_tup, r, ofO_some, run_ok, hG, retS_eq, varO_o]
  change (EO.bindS _ (gSortT (.list ((lawUp0 o (((invs o).length : Int) + 1)).map tupD))) _) = _
  rw [hs]
  rfl

/-! ### the program's steps up -/
def betw (o : List Int) (p q : Nat) : List Int := ((o.drop (p + 1)).take (q - (p + 1))).filter fun v => decide (o.getD p 0 < v) && decide (v < o.getD q 0)
def upOk (o : List Int) (p q : Nat) : Bool := decide (o.getD p 0 < o.getD q 0) && (betw o p q).isEmpty
def stAt (o : List Int) (p : Nat) : List (List Int) := (List.range (o.length - (p + 1))).filterMap fun k => if upOk o p (p + 1 + k) = true then some (swp o p (p + 1 + k)) else none
def steps0 (o : List Int) : List (List Int) := (List.range o.length).flatMap (stAt o)
def stepsUp (o : List Int) : List (List Int) := isortT (steps0 o)
theorem stAt_len (o : List Int) (p : Nat) : (stAt o p).length ≤ o.length := by
  unfold stAt
  refine Nat.le_trans fm_len ?_
  omega
theorem steps0_sm {d : Nat} {o : List Int} (h : Sm d o) : ∀ t ∈ steps0 o, Sm d t := fun t ht => by
  obtain ⟨p, hp, h2⟩ := List.mem_flatMap.mp ht
  unfold stAt at h2
  obtain ⟨k, hk, e⟩ := List.mem_filterMap.mp h2
  have := List.mem_range.mp hk
  have := List.mem_range.mp hp
  split at e
  · cases e
    exact sm_swp h (by omega) (by omega)
  · cases e
theorem steps0_len (o : List Int) (hb : o.length ≤ 7) : (steps0 o).length < 64 := by
  have := flat_len (stAt_len o) o.length
  have h3 : o.length * o.length ≤ 7 * 7 := Nat.mul_le_mul hb hb
  unfold steps0
  omega
theorem cut_nat {ds : List PyData} {a b : Nat} (ha : a ≤ ds.length) (hb : b ≤ ds.length) : cutD ds (some ((a : Nat) : Int)) (some ((b : Nat) : Int)) = (ds.drop a).take (b - a) := by
  unfold cutD
  rw [HT.sIx_nat, HT.sIx_nat, Nat.min_eq_left ha, Nat.min_eq_left hb]
theorem betw_ok {o : List Int} {p q : Nat} (hb : o.length ≤ 7) (hp : p < q) (hq : q < o.length) {x y z : Option Sl} : C1_steps_up [some (.dat (tupD o)), x, some (.dat (.int (p : Nat))), some (.dat (.int (q : Nat))), y, z] = .ok (.list ((betw o p q).map PyData.int)) .new := by
  unfold C1_steps_up
  rw [compE_eq]
  have e3 : (p : Int) + 1 = ((p + 1 : Nat) : Int) := by omega
  have e : (compiT (slE (varE 0) (partS (op2 gAdd (varE 2) (cE (.int 1)))) (partS (varE 3)))) [some (.dat (tupD o)), x, some (.dat (.int (p : Nat))), some (.dat (.int (q : Nat))), y, z] = .ok (((o.drop (p + 1)).take (q - (p + 1))).map PyData.int) := by
    simp only [compiT_eq, slE_eq, varE_eq, List.getElem?_cons_succ, List.getElem?_cons_zero, varO_d, bind_ok, partS_eq, op2_eq, cE_eq, gAdd_i, e3, partK_i, slK_s, tupD, gSl_t, compiTK_t]
    rw [cut_nat (by rw [List.length_map]; omega) (by rw [List.length_map]; omega), List.map_take, List.map_drop]
  rw [e]
  have e1 := at_tup (show p < o.length by omega)
  have e2 := at_tup hq
  have hr := run_comp (ds := ((o.drop (p + 1)).take (q - (p + 1))).map PyData.int) (step := stepC (toN 5) (boolB (chainE (gInt iLt) (gInt iLt) (op2 gIx (varE 0) (varE 2)) (varE 5) (op2 gIx (varE 0) (varE 3)))) (varE 5) (wipeG [some (.dat (tupD o)), x, some (.dat (.int (p : Nat))), some (.dat (.int (q : Nat))), y, z] [5]))
    (f := fun d => match d with
      | .int v => if (decide (o.getD p 0 < v) && decide (v < o.getD q 0)) = true then some (.int v) else none
      | _ => none) (by rw [List.length_map, List.length_take, List.length_drop]; unfold big; omega) fun d hd => by
      obtain ⟨v, hv, rfl⟩ := List.mem_map.mp hd
      simp only [List.getD_eq_getElem?_getD] at e1 e2 ⊢
      by_cases h : o[p]?.getD 0 < v
      · by_cases h2 : v < o[q]?.getD 0
        · simp [tupD, e1, e2, h, h2]
        · simp [tupD, e1, e2, h, h2]
      · simp [tupD, e1, e2, h]
  rw [hr]
  refine congrArg (fun l => EO.ok (.list l) .new) ?_
  unfold betw
  rw [List.filterMap_map, ← List.filterMap_eq_filter, List.map_filterMap]
  apply fm_congr
  intro v hv
  simp only [Function.comp, Option.guard]
  split
  · rename_i h
    simp [h]
  · rename_i h
    simp [h]
theorem st_turn {o : List Int} {p k : Nat} (hb : o.length ≤ 7) (hk : p + 1 + k < o.length) {acc : List (List Int)} (ha : acc.length ≤ 1000) {x y : Option Sl} :
    ∃ x2, L1_steps_up [some (.dat (tupD o)), some (.own (acc.map tupD)), some (.dat (.int (p : Nat))), some (.dat (.int ((p + 1 + k : Nat) : Nat))), x, y] =
      .next [some (.dat (tupD o)), some (.own ((acc ++ (if upOk o p (p + 1 + k) = true then [swp o p (p + 1 + k)] else [])).map tupD)), some (.dat (.int (p : Nat))), some (.dat (.int ((p + 1 + k : Nat) : Nat))), x2, y] := by
  have hs := exchanged_ok (o := o) (p := p) (q := p + 1 + k) (by omega) hk
  have hc := betw_ok hb (show p < p + 1 + k by omega) hk (x := some (.own (acc.map tupD))) (y := x) (z := y)
  have e1 := at_tup (show p < o.length by omega)
  have e2 := at_tup hk
  have hl : acc.length < big := by unfold big; omega
  refine ⟨some (.own ((betw o p (p + 1 + k)).map PyData.int)), ?_⟩
  simp only [L1_steps_up, seqS_eq, asgS_eq, hc, bindS_ok, asgK_new, List.set_cons_succ, List.set_cons_zero, seq_next, ifS_eq, andB_eq, boolB_eq, op2_eq, varE_eq, List.getElem?_cons_succ, List.getElem?_cons_zero, varO_d, varO_o, bind_ok, gIx_tup, e1, e2, optE_some, gInt_eq, iLt_eq, bindB_ok, boolO_b, bindB_b, notB_eq, truthB_eq, truthO_l, Bool.not_not, List.isEmpty_map]
  by_cases h : o.getD p 0 < o.getD (p + 1 + k) 0
  · by_cases h2 : (betw o p (p + 1 + k)).isEmpty = true
    · have hu : upOk o p (p + 1 + k) = true := by unfold upOk; rw [decide_eq_true h, h2]; rfl
      simp only [h, decide_true, if_true, h2, bindS_b, hu, appS_eq, List.getElem?_cons_succ, List.getElem?_cons_zero, ownK_o, callE_eq, consA_eq, varE_eq, varO_d, hard_frz, bindA_ok, nilA_eq, abind_ok, abindE_ok, hs, toE_ok, bindS_ok, List.length_map, hl, List.set_cons_succ, List.set_cons_zero, List.map_append, List.map_cons, List.map_nil]
    · have hu : ¬ upOk o p (p + 1 + k) = true := by
        unfold upOk
        rw [Bool.and_eq_true]
        exact fun z => h2 z.2
      simp only [h, decide_true, if_true, h2, bindS_b, Bool.false_eq_true, if_false, nilS_eq, hu, List.append_nil]
  · have hu : ¬ upOk o p (p + 1 + k) = true := by
      unfold upOk
      rw [Bool.and_eq_true, decide_eq_true_eq]
      exact fun z => h z.1
    simp only [h, decide_false, Bool.false_eq_true, if_false, bindS_b, nilS_eq, hu, List.append_nil]
theorem st_row {o : List Int} {p : Nat} (hb : o.length ≤ 7) (hp : p < o.length) {acc : List (List Int)} (ha : acc.length ≤ 100) {x y z : Option Sl} :
    ∃ x2 y2, L2_steps_up [some (.dat (tupD o)), some (.own (acc.map tupD)), some (.dat (.int (p : Nat))), x, y, z] = .next [some (.dat (tupD o)), some (.own ((acc ++ stAt o p).map tupD)), some (.dat (.int (p : Nat))), x2, y2, z] := by
  obtain ⟨G2, hG, x2, y2, e⟩ := for_inv (tgt := toN 3) (body := L1_steps_up) (ds := rgD ((p : Int) + 1) (o.length - (p + 1))) (G := [some (.dat (tupD o)), some (.own (acc.map tupD)), some (.dat (.int (p : Nat))), x, y, z])
    (fun k G => ∃ x y : Option Sl, G = [some (.dat (tupD o)), some (.own ((acc ++ (List.range k).filterMap fun k => if upOk o p (p + 1 + k) = true then some (swp o p (p + 1 + k)) else none).map tupD)), some (.dat (.int (p : Nat))), x, y, z])
    ⟨x, y, by simp⟩ fun k d G hk ⟨x, y, e⟩ => by
      obtain ⟨hk2, rfl⟩ := rgD_get hk
      subst e
      have e3 : (p : Int) + 1 + (k : Nat) = ((p + 1 + k : Nat) : Int) := by omega
      rw [e3]
      have hl : ((List.range k).filterMap fun k => if upOk o p (p + 1 + k) = true then some (swp o p (p + 1 + k)) else none).length ≤ k := fm_len
      obtain ⟨y2, ht⟩ := st_turn (o := o) (p := p) (k := k) hb (by omega) (acc := acc ++ (List.range k).filterMap fun k => if upOk o p (p + 1 + k) = true then some (swp o p (p + 1 + k)) else none) (by rw [List.length_append]; omega) (x := y) (y := z)
      refine ⟨_, _, rfl, ht, some (.dat (.int ((p + 1 + k : Nat) : Nat))), y2, ?_⟩
      rw [fm_succ, toList_ite, ← List.append_assoc]
  rw [rgD_len] at e
  refine ⟨x2, y2, ?_⟩
  have r : rg2K (.ok (.int ((p : Int) + 1)) .frz) (.ok (.int (o.length : Int)) .frz) = some (rgD ((p : Int) + 1) (o.length - (p + 1))) := by
    rw [rg2K_i (by omega)]
    congr 2
    omega
  have e2 : stAt o p = (List.range (o.length - (p + 1))).filterMap fun k => if upOk o p (p + 1 + k) = true then some (swp o p (p + 1 + k)) else none := rfl
  rw [e2, ← e, ← hG]
  simp only [L2_steps_up, forS_eq, iterO_eq, rg2_eq, op2_eq, op1_eq, varE_eq, List.getElem?_cons_succ, List.getElem?_cons_zero, varO_d, bind_ok, cE_eq, gAdd_i, gLen_tup, r, ofO_some, run_ok]
theorem steps_up_ok {d : Nat} {o : List Int} (h : Sm d o) (h1 : 1 ≤ d) (h7 : d ≤ 7) : m_steps_up [tupD o] = .ok (.list ((stepsUp o).map tupD)) := by
  have hb : o.length ≤ 7 := by rw [h.1]; exact h7
  obtain ⟨G2, hG, x2, y2, z2, e⟩ := for_inv (tgt := toN 2) (body := L2_steps_up) (ds := rgD 0 o.length) (G := [some (.dat (tupD o)), some (.own []), none, none, none, none])
    (fun k G => ∃ x y z : Option Sl, G = [some (.dat (tupD o)), some (.own (((List.range k).flatMap (stAt o)).map tupD)), x, y, z, none])
    ⟨none, none, none, rfl⟩ fun k d G hk ⟨x, y, z, e⟩ => by
      obtain ⟨hk2, rfl⟩ := rgD_get hk
      subst e
      have h1 := flat_len (stAt_len o) k
      have h3 : k * o.length ≤ 7 * 7 := Nat.mul_le_mul (by omega) hb
      obtain ⟨y2, z2, ht⟩ := st_row hb hk2 (acc := (List.range k).flatMap (stAt o)) (by omega) (x := y) (y := z) (z := none)
      refine ⟨_, _, rfl, ?_, some (.dat (.int (k : Nat))), y2, z2, rfl⟩
      rw [flat_succ]
      simp only [List.set_cons_succ, List.set_cons_zero, Int.zero_add]
      exact ht
  rw [rgD_len] at e
  have hs := gSortT_ok h1 (steps0_len o hb) (steps0_sm h)
  refine defM_ret rfl ?_
  have r : rg1K (.ok (.int (o.length : Int)) .frz) = some (rgD 0 o.length) := by rw [rg1K_i (by omega)]; rfl
  rw [e] at hG
  simp only [b_steps_up, startG, List.map_cons, List.map_nil, List.length_cons, List.length_nil, Nat.reduceAdd, Nat.reduceSub, List.replicate, List.cons_append, List.nil_append, seqS_eq, asgS_eq, lstE_eq, nilA_eq, abindE_ok, Nat.zero_le, if_true, bindS_ok, asgK_new, List.set_cons_succ, List.set_cons_zero, seq_next, forS_eq, iterO_eq, rg1_eq, op1_eq, varE_eq, List.getElem?_cons_succ, List.getElem?_cons_zero, varO_d, bind_ok, gLen_tup, r, ofO_some, run_ok, hG, retS_eq, varO_o]
  change (EO.bindS _ (gSortT (.list ((steps0 o).map tupD))) _) = _
  rw [hs]
  rfl

/-! ### inversions, counted -/
def cnt : List Int → Nat
  | [] => 0
  | x :: xs => xs.countP (fun v => decide (v < x)) + cnt xs
theorem invAt_count (o : List Int) (p : Nat) : (invAt o p).length = (o.drop (p + 1)).countP fun v => decide (v < o.getD p 0) := by
  unfold invAt
  have : ∀ (l : List Int) (x : Int) (a : Nat), ((List.range l.length).filterMap fun k => if l.getD k 0 < x then some (a, a + 1 + k) else none).length = l.countP fun v => decide (v < x) := by
    intro l
    induction l with
    | nil => intro x a; rfl
    | cons y l ih =>
      intro x a
      rw [List.length_cons, List.range_succ_eq_map, List.filterMap_cons, List.countP_cons, List.filterMap_map]
      have e : ((List.range l.length).filterMap ((fun k => if (y :: l).getD k 0 < x then some (a, a + 1 + k) else none) ∘ Nat.succ)).length = l.countP fun v => decide (v < x) := by
        rw [← ih x (a + 1)]
        have q : ∀ r : List Nat, (r.filterMap ((fun k => if (y :: l).getD k 0 < x then some (a, a + 1 + k) else none) ∘ Nat.succ)).length = (r.filterMap fun k => if l.getD k 0 < x then some (a + 1, a + 1 + 1 + k) else none).length := by
          intro r
          induction r with
          | nil => rfl
          | cons k r ihr =>
            rw [List.filterMap_cons, List.filterMap_cons]
            have g : (y :: l).getD (Nat.succ k) 0 = l.getD k 0 := rfl
            simp only [Function.comp, g]
            split
            · rename_i h1
              split at h1
              · cases h1
              · rename_i h2
                simp only [h2, if_false]
                exact ihr
            · rename_i z h1
              split at h1
              · rename_i h2
                simp only [h2, if_true, List.length_cons]
                rw [← ihr]
              · cases h1
        exact q _
      have g0 : (y :: l).getD 0 0 = y := rfl
      by_cases h : y < x
      · simp only [g0, h, if_true, List.length_cons, decide_true]
        rw [e]
      · simp only [g0, h, if_false, decide_false, Bool.false_eq_true]
        rw [e]
        rfl
  have e1 : o.length - (p + 1) = (o.drop (p + 1)).length := by rw [List.length_drop]
  rw [e1, ← this (o.drop (p + 1)) (o.getD p 0) p]
  have : ∀ k, (o.drop (p + 1)).getD k 0 = o.getD (p + 1 + k) 0 := fun k => by rw [List.getD_eq_getElem?_getD, List.getD_eq_getElem?_getD, List.getElem?_drop]
  simp only [this]
theorem flat_sum {α : Type} {f : Nat → List α} {g : Nat → Nat} (h : ∀ p, (f p).length = g p) : ∀ k, ((List.range k).flatMap f).length = ((List.range k).map g).sum
  | 0 => rfl
  | k + 1 => by
    rw [flat_succ, List.length_append, flat_sum h k, List.range_succ, List.map_append, List.sum_append, h k]
    simp
theorem invs_len (o : List Int) : (invs o).length = cnt o := by
  unfold invs
  rw [flat_sum (invAt_count o)]
  induction o with
  | nil => rfl
  | cons x o ih =>
    rw [List.length_cons, List.range_succ_eq_map, List.map_cons, List.sum_cons, List.map_map]
    show (o.countP fun v => decide (v < x)) + _ = (o.countP fun v => decide (v < x)) + cnt o
    rw [← ih]
    rfl
/-! ### the steps agree, for small orders, by looking at all of them -/
def samePair (o : List Int) (c : Nat) (p k : Nat) : Bool := upOk o p (p + 1 + k) == (cnt (swp o p (p + 1 + k)) == c + 1)
def sameUp (o : List Int) : Bool := let c := cnt o
  (List.range o.length).all fun p => (List.range (o.length - (p + 1))).all fun k => samePair o c p k
theorem up_same {o : List Int} (h : sameUp o = true) : steps0 o = lawUp0 o (((invs o).length : Int) + 1) := by
  unfold steps0 lawUp0
  unfold sameUp at h
  rw [List.all_eq_true] at h
  have : ∀ (l : List Nat), (∀ p ∈ l, p < o.length) → l.flatMap (stAt o) = l.flatMap (upAt o (((invs o).length : Int) + 1)) := by
    intro l
    induction l with
    | nil => intro _; rfl
    | cons p l ih =>
      intro hl
      rw [List.flatMap_cons, List.flatMap_cons, ih fun q hq => hl q (List.mem_cons_of_mem _ hq)]
      congr 1
      unfold stAt upAt
      apply fm_congr
      intro k hk
      have h1 := h p (List.mem_range.mpr (hl p List.mem_cons_self))
      rw [List.all_eq_true] at h1
      have h2 := h1 k hk
      unfold samePair at h2
      rw [beq_iff_eq] at h2
      rw [h2, invs_len, invs_len]
      by_cases e : cnt (swp o p (p + 1 + k)) = cnt o + 1
      · rw [if_pos (by rw [beq_iff_eq]; exact e), if_pos (by omega)]
      · rw [if_neg (by rw [beq_iff_eq]; exact e), if_neg (by omega)]
  exact this _ fun p hp => List.mem_range.mp hp
theorem stepsUp_same {o : List Int} (h : sameUp o = true) : stepsUp o = lawUp o := by
  unfold stepsUp lawUp
  rw [up_same h]
def smB (d : Nat) (o : List Int) : Bool := o.length == d && o.all fun v => decide (0 ≤ v) && decide (v < 64)
theorem smB_ok {d : Nat} {o : List Int} (h : smB d o = true) : Sm d o := by
  unfold smB at h
  rw [Bool.and_eq_true, beq_iff_eq, List.all_eq_true] at h
  refine ⟨h.1, fun v hv => ?_⟩
  have := h.2 v hv
  rw [Bool.and_eq_true, decide_eq_true_eq, decide_eq_true_eq] at this
  exact this

/-! ### orders as rearrangements -/
def Od (n : Nat) (o : List Int) : Prop := o.Perm (rgI n)
theorem rgI_len (n : Nat) : (rgI n).length = n := by unfold rgI; rw [List.length_map, List.length_range]
theorem rgI_mem {n : Nat} {v : Int} : v ∈ rgI n ↔ 0 ≤ v ∧ v < n := by
  unfold rgI
  rw [List.mem_map]
  constructor
  · rintro ⟨i, hi, rfl⟩
    have := List.mem_range.mp hi
    omega
  · intro ⟨h0, h1⟩
    exact ⟨v.toNat, List.mem_range.mpr (by omega), by omega⟩
theorem rgI_nodup (n : Nat) : (rgI n).Nodup := by
  unfold rgI
  refine List.Pairwise.map _ (fun a b (h : a ≠ b) => ?_) List.nodup_range
  show ((a : Nat) : Int) ≠ (b : Nat)
  omega
theorem Od.len {n : Nat} {o : List Int} (h : Od n o) : o.length = n := by rw [h.length_eq, rgI_len]
theorem Od.mem {n : Nat} {o : List Int} (h : Od n o) {v : Int} : v ∈ o ↔ 0 ≤ v ∧ v < n := by rw [h.mem_iff, rgI_mem]
theorem Od.nodup {n : Nat} {o : List Int} (h : Od n o) : o.Nodup := h.nodup_iff.mpr (rgI_nodup n)
theorem swp_perm {o : List Int} {p q : Nat} (hp : p < o.length) (hq : q < o.length) : (swp o p q).Perm o := by
  have := List.set_set_perm hp hq
  unfold swp
  rw [List.getD_eq_getElem?_getD, List.getD_eq_getElem?_getD, List.getElem?_eq_getElem hp, List.getElem?_eq_getElem hq]
  exact this
theorem Od.swp {n : Nat} {o : List Int} (h : Od n o) {p q : Nat} (hp : p < o.length) (hq : q < o.length) : Od n (swp o p q) := (swp_perm hp hq).trans h
theorem Od.rev {n : Nat} {o : List Int} (h : Od n o) : Od n o.reverse := (List.reverse_perm o).trans h
theorem perm_at {l : List Int} : ∀ {i : Nat}, i < l.length → (l.getD i 0 :: l.eraseIdx i).Perm l := by
  induction l with
  | nil => intro i h; exact absurd h (Nat.not_lt_zero _)
  | cons x l ih =>
    intro i h
    cases i with
    | zero => exact List.Perm.refl _
    | succ i =>
      show (l.getD i 0 :: x :: l.eraseIdx i).Perm (x :: l)
      exact (List.Perm.swap _ _ _).trans ((ih (by simpa using h)).cons x)
theorem picks_perm : ∀ {k : Nat} {l r : List Int}, l.length = k → r ∈ picks k l → r.Perm l
  | 0, l, r, hl, h => by
    have := List.eq_nil_of_length_eq_zero hl
    subst this
    rw [picks, List.mem_singleton] at h
    rw [h]
  | k + 1, l, r, hl, h => by
    obtain ⟨i, hi, h⟩ := List.mem_flatMap.mp h
    obtain ⟨s, hs, rfl⟩ := List.mem_map.mp h
    have hi := List.mem_range.mp hi
    exact ((picks_perm (by rw [List.length_eraseIdx_of_lt hi]; omega) hs).cons _).trans (perm_at hi)
theorem perm_picks : ∀ {k : Nat} {l r : List Int}, l.length = k → r.Perm l → r ∈ picks k l
  | 0, l, r, hl, h => by
    have := List.eq_nil_of_length_eq_zero hl
    subst this
    rw [List.perm_nil.mp h, picks]
    exact List.mem_singleton.mpr rfl
  | k + 1, l, r, hl, h => by
    cases r with
    | nil => rw [List.nil_perm.mp h] at hl; cases hl
    | cons x r =>
      obtain ⟨i, hi, e⟩ := List.mem_iff_getElem.mp (h.mem_iff.mp List.mem_cons_self)
      have e2 : l.getD i 0 = x := by rw [List.getD_eq_getElem?_getD, List.getElem?_eq_getElem hi]; exact e
      have hp : (x :: r).Perm (x :: l.eraseIdx i) := h.trans (by rw [← e2]; exact (perm_at hi).symm)
      have := perm_picks (k := k) (l := l.eraseIdx i) (by rw [List.length_eraseIdx_of_lt hi]; omega) (List.Perm.cons_inv hp)
      rw [← e2]
      exact picks_mem hi this
theorem od_ords {n : Nat} {o : List Int} : o ∈ ords n ↔ Od n o := ⟨fun h => picks_perm (rgI_len n) h, fun h => perm_picks (rgI_len n) h⟩
theorem dedup_nodup : ∀ {o : List Int}, o.Nodup → dedup o = o
  | [], _ => rfl
  | x :: o, h => by
    obtain ⟨h1, h2⟩ := List.nodup_cons.mp h
    unfold dedup
    rw [dedup_nodup h2, if_neg (by rw [List.contains_iff_mem]; exact h1)]
theorem Od.isOrd {n : Nat} {o : List Int} (h : Od n o) (h1 : 1 ≤ n) (h6 : n ≤ 6) : isOrdB o = true := by
  unfold isOrdB
  rw [dedup_nodup h.nodup, h.len, decide_eq_true h1, decide_eq_true h6, beq_self_eq_true, Bool.and_true, Bool.true_and, Bool.true_and, List.all_eq_true]
  intro v hv
  have := h.mem.mp hv
  rw [decide_eq_true this.1, decide_eq_true (by omega)]
  rfl
theorem Od.sm {n : Nat} {o : List Int} (h : Od n o) (h6 : n ≤ 64) : Sm n o := ⟨h.len, fun v hv => by have := h.mem.mp hv; omega⟩
theorem Od.get {n : Nat} {o : List Int} (h : Od n o) {p : Nat} (hp : p < n) : 0 ≤ o.getD p 0 ∧ o.getD p 0 < n := h.mem.mp (getD_mem (by rw [h.len]; exact hp))

/-! ### great numbers -/
def greatN (o : List Int) (f : Nat) (v : Int) : Nat := ((o.take f).filter fun x => decide (v ≤ x)).length
theorem cut_to {ds : List PyData} {b : Nat} (hb : b ≤ ds.length) : cutD ds none (some ((b : Nat) : Int)) = ds.take b := by
  unfold cutD
  rw [HT.sIx_nat, Nat.min_eq_left hb]
  rfl
theorem lgreat_comp {o : List Int} {f : Nat} {v : Int} (hb : o.length ≤ 100) (hf : f ≤ o.length) {x : Option Sl} : C1__law_great [some (.dat (tupD o)), some (.dat (.int (f : Nat))), some (.dat (.int v)), x] = .ok (.list (((o.take f).filter fun x => decide (v ≤ x)).map PyData.int)) .new := by
  unfold C1__law_great
  rw [compE_eq]
  have e : (compiT (slE (varE 0) partN (partS (varE 1)))) [some (.dat (tupD o)), some (.dat (.int (f : Nat))), some (.dat (.int v)), x] = .ok ((o.take f).map PyData.int) := by
    simp only [compiT_eq, slE_eq, varE_eq, List.getElem?_cons_succ, List.getElem?_cons_zero, varO_d, bind_ok, partS_eq, partN_eq, partK_i, slK_s, tupD, gSl_t, compiTK_t]
    rw [cut_to (by rw [List.length_map]; omega), List.map_take]
  rw [e]
  have hr := run_comp (ds := (o.take f).map PyData.int) (step := stepC (toN 3) (boolB (op2 (gInt iGe) (varE 3) (varE 2))) (varE 3) (wipeG [some (.dat (tupD o)), some (.dat (.int (f : Nat))), some (.dat (.int v)), x] [3]))
    (f := fun d => match d with
      | .int y => if v ≤ y then some (.int y) else none
      | _ => none) (by rw [List.length_map, List.length_take]; unfold big; omega) fun d hd => by
      obtain ⟨y, hy, rfl⟩ := List.mem_map.mp hd
      by_cases h : v ≤ y
      · simp [h]
      · simp [h]
  rw [hr]
  refine congrArg (fun l => EO.ok (.list l) .new) ?_
  rw [List.filterMap_map, ← List.filterMap_eq_filter, List.map_filterMap]
  apply fm_congr
  intro y hy
  by_cases h : v ≤ y <;> simp [Option.guard, h]
theorem law_great_ok {o : List Int} {f : Nat} {v : Int} (hb : o.length ≤ 100) (hf : f ≤ o.length) : m__law_great [tupD o, .int (f : Nat), .int v] = .ok (.int (greatN o f v : Nat)) := by
  refine defM_ret rfl ?_
  have := lgreat_comp hb hf (v := v) (x := none)
  simp [b__law_great, startG, this, greatN]

/-! ### the law's papers -/
def papAt (a b : List Int) (f : Nat) : List (Nat × Nat) := (List.range (a.length + 1)).filterMap fun v : Nat => if greatN b f v < greatN a f v then some (f, v) else none
def papers (a b : List Int) : List (Nat × Nat) := (List.range (a.length + 1)).flatMap (papAt a b)
theorem papAt_len (a b : List Int) (f : Nat) : (papAt a b f).length ≤ a.length + 1 := fm_len
theorem pap_turn {a b : List Int} {f v : Nat} (hb : a.length ≤ 7) (he : b.length = a.length) (hf : f ≤ a.length) {acc : List (Nat × Nat)} (ha : acc.length ≤ 1000) :
    L1__law_papers [some (.dat (tupD a)), some (.dat (tupD b)), some (.own (acc.map pairD)), some (.dat (.int (f : Nat))), some (.dat (.int (v : Nat)))] =
      .next [some (.dat (tupD a)), some (.dat (tupD b)), some (.own ((acc ++ (if greatN b f v < greatN a f v then [(f, v)] else [])).map pairD)), some (.dat (.int (f : Nat))), some (.dat (.int (v : Nat)))] := by
  have h1 := law_great_ok (o := a) (f := f) (v := (v : Nat)) (by omega) hf
  have h2 := law_great_ok (o := b) (f := f) (v := (v : Nat)) (by omega) (by omega)
  have he : decide (((greatN b f v : Nat) : Int) < ((greatN a f v : Nat) : Int)) = decide (greatN b f v < greatN a f v) := by
    rw [Bool.eq_iff_iff, decide_eq_true_eq, decide_eq_true_eq]
    omega
  simp only [L1__law_papers, asgS_eq, callE_eq, consA_eq, varE_eq, List.getElem?_cons_succ, List.getElem?_cons_zero, varO_d, hard_frz, bindA_ok, nilA_eq, abind_ok, abindE_ok, h1, h2, toE_ok, bindS_ok, asgK_frz, List.set_cons_succ, List.set_cons_zero, op2_eq, op1_eq, varO_o, bind_ok, lstE_eq, tupE_eq, List.length_cons, List.length_nil, gInt_eq, iGt_eq, optE_some, he, gInt1_b, two_big, if_true, Nat.reduceAdd]
  rw [if_pos (show 1 ≤ big by decide)]
  simp only [bind_ok, mul_one, gAdd_l, List.length_map]
  by_cases h : greatN b f v < greatN a f v
  · have hl : acc.length + 1 ≤ big := by unfold big; omega
    simp only [h, decide_true, if_true, List.length_cons, List.length_nil, Nat.zero_add, hl, bindS_ok, asgK_new, List.set_cons_succ, List.set_cons_zero, List.map_append, List.map_cons, List.map_nil]
    rfl
  · have hl : acc.length + 0 ≤ big := by unfold big; omega
    simp only [h, decide_false, Bool.false_eq_true, if_false, List.length_nil, hl, if_true, bindS_ok, asgK_new, List.set_cons_succ, List.set_cons_zero, List.append_nil]
theorem opt_ite {α : Type} {c : Prop} [Decidable c] {t : α} : (if c then some t else none).toList = if c then [t] else [] := by
  split <;> rfl
theorem pap_row {a b : List Int} {f : Nat} (hb : a.length ≤ 7) (he : b.length = a.length) (hf : f ≤ a.length) {acc : List (Nat × Nat)} (ha : acc.length ≤ 100) {x : Option Sl} :
    ∃ x2, L2__law_papers [some (.dat (tupD a)), some (.dat (tupD b)), some (.own (acc.map pairD)), some (.dat (.int (f : Nat))), x] = .next [some (.dat (tupD a)), some (.dat (tupD b)), some (.own ((acc ++ papAt a b f).map pairD)), some (.dat (.int (f : Nat))), x2] := by
  obtain ⟨G2, hG, x2, e⟩ := for_inv (tgt := toN 4) (body := L1__law_papers) (ds := rgD 0 (a.length + 1)) (G := [some (.dat (tupD a)), some (.dat (tupD b)), some (.own (acc.map pairD)), some (.dat (.int (f : Nat))), x])
    (fun k G => ∃ x : Option Sl, G = [some (.dat (tupD a)), some (.dat (tupD b)), some (.own ((acc ++ (List.range k).filterMap fun v : Nat => if greatN b f v < greatN a f v then some (f, v) else none).map pairD)), some (.dat (.int (f : Nat))), x])
    ⟨x, by simp⟩ fun k d G hk ⟨x, e⟩ => by
      obtain ⟨hk2, rfl⟩ := rgD_get hk
      subst e
      rw [Int.zero_add]
      have hl : ((List.range k).filterMap fun v : Nat => if greatN b f v < greatN a f v then some (f, v) else none).length ≤ k := fm_len
      refine ⟨_, _, rfl, pap_turn hb he hf (by rw [List.length_append]; omega), some (.dat (.int (k : Nat))), ?_⟩
      rw [fm_succ, opt_ite, ← List.append_assoc]
  rw [rgD_len] at e
  refine ⟨x2, ?_⟩
  have r : rg1K (.ok (.int ((a.length : Int) + 1)) .frz) = some (rgD 0 (a.length + 1)) := by
    rw [rg1K_i (by omega)]
    congr 2
  have e2 : papAt a b f = (List.range (a.length + 1)).filterMap fun v : Nat => if greatN b f v < greatN a f v then some (f, v) else none := rfl
  rw [e2, ← e, ← hG]
  simp only [L2__law_papers, forS_eq, iterO_eq, rg1_eq, op2_eq, op1_eq, varE_eq, List.getElem?_cons_succ, List.getElem?_cons_zero, varO_d, bind_ok, cE_eq, gAdd_i, gLen_tup, r, ofO_some, run_ok]
theorem papers_ok {a b : List Int} (hb : a.length ≤ 7) (he : b.length = a.length) : m__law_papers [tupD a, tupD b] = .ok (.list ((papers a b).map pairD)) := by
  obtain ⟨G2, hG, x2, y2, e⟩ := for_inv (tgt := toN 3) (body := L2__law_papers) (ds := rgD 0 (a.length + 1)) (G := [some (.dat (tupD a)), some (.dat (tupD b)), some (.own []), none, none])
    (fun k G => ∃ x y : Option Sl, G = [some (.dat (tupD a)), some (.dat (tupD b)), some (.own (((List.range k).flatMap (papAt a b)).map pairD)), x, y])
    ⟨none, none, rfl⟩ fun k d G hk ⟨x, y, e⟩ => by
      obtain ⟨hk2, rfl⟩ := rgD_get hk
      subst e
      have h1 := flat_len (papAt_len a b) k
      have h3 : k * (a.length + 1) ≤ 8 * 8 := Nat.mul_le_mul (by omega) (by omega)
      obtain ⟨y2, ht⟩ := pap_row hb he (f := k) (by omega) (acc := (List.range k).flatMap (papAt a b)) (by omega) (x := y)
      refine ⟨_, _, rfl, ?_, some (.dat (.int (k : Nat))), y2, rfl⟩
      rw [flat_succ]
      simp only [List.set_cons_succ, List.set_cons_zero, Int.zero_add]
      exact ht
  rw [rgD_len] at e
  refine defM_ret rfl ?_
  have r : rg1K (.ok (.int ((a.length : Int) + 1)) .frz) = some (rgD 0 (a.length + 1)) := by
    rw [rg1K_i (by omega)]
    congr 2
  simp only [b__law_papers, startG, List.map_cons, List.map_nil, List.length_cons, List.length_nil, Nat.reduceAdd, Nat.reduceSub, List.replicate, List.cons_append, List.nil_append, seqS_eq, asgS_eq, lstE_eq, nilA_eq, abindE_ok, Nat.zero_le, if_true, bindS_ok, asgK_new, List.set_cons_succ, List.set_cons_zero, seq_next, forS_eq, iterO_eq, rg1_eq, op2_eq, op1_eq, varE_eq, List.getElem?_cons_zero, List.getElem?_cons_succ, varO_d, bind_ok, gLen_tup, cE_eq, gAdd_i, r, ofO_some, run_ok, hG, e, retS_eq, varO_o]
  rfl

/-! ### the law's pairs -/
theorem lawUp_od {n : Nat} {o : List Int} (h : Od n o) : ∀ t ∈ lawUp o, Od n t := fun t ht => by
  have := (isortT_perm _).mem_iff.mp ht
  obtain ⟨p, hp, h2⟩ := List.mem_flatMap.mp this
  unfold upAt at h2
  obtain ⟨k, hk, e⟩ := List.mem_filterMap.mp h2
  have := List.mem_range.mp hk
  have := List.mem_range.mp hp
  split at e
  · cases e
    exact h.swp (by omega) (by omega)
  · cases e
theorem at_map {α : Type} {f : α → PyData} {xs : List α} {i : Int} (h0 : 0 ≤ i) (h : i < xs.length) : ∃ x, x ∈ xs ∧ atI (xs.map f) i = some (f x) := by
  have hl : i.toNat < xs.length := by omega
  exact ⟨xs[i.toNat], List.getElem_mem hl, atI_nat h0 (by simp [hl])⟩
theorem draw_at {ds : List Int} (hd : Draws ds) {i : Int} (h0 : 0 ≤ i) (h : i < 60) : ∃ v, 0 ≤ v ∧ v < 1000 ∧ atI (ds.map PyData.int) i = some (.int v) := by
  obtain ⟨x, hx, e⟩ := at_map (f := PyData.int) (xs := ds) h0 (by rw [hd.1]; exact h)
  exact ⟨x, (hd.2 x hx).1, (hd.2 x hx).2, e⟩
theorem gNe_nil {os : List (List Int)} : gNe (.list (os.map tupD)) (.list []) = .ok (.bool (!os.isEmpty)) .frz := by
  have := gNe_tups (a := os) (b := [])
  rw [List.map_nil] at this
  rw [this]
  cases os <;> rfl
/-! ### every order -/
def extO (n : Nat) (o : List Int) : List (List Int) := (List.range n).filterMap fun k => if o.contains ((k : Nat) : Int) = true then none else some (o ++ [((k : Nat) : Int)])
def everyL (n : Nat) : Nat → List (List Int)
  | 0 => [[]]
  | k + 1 => (everyL n k).flatMap (extO n)
def allO (n : Nat) : List (List Int) := everyL n n
theorem extO_len (n : Nat) (o : List Int) : (extO n o).length ≤ n := fm_len
theorem flatL_len {α : Type} {f : α → List α} {m : Nat} (h : ∀ x, (f x).length ≤ m) : ∀ l : List α, (l.flatMap f).length ≤ l.length * m
  | [] => by simp
  | x :: l => by
    rw [List.flatMap_cons, List.length_append, List.length_cons, Nat.succ_mul]
    have := flatL_len h l
    have := h x
    omega
theorem everyL_len {n : Nat} (hn : n ≤ 6) : ∀ k, (everyL n k).length ≤ 6 ^ k
  | 0 => by simp [everyL]
  | k + 1 => by
    rw [everyL, Nat.pow_succ]
    have h1 := flatL_len (extO_len n) (everyL n k)
    have h2 := everyL_len hn k
    have h3 : (everyL n k).length * n ≤ 6 ^ k * 6 := Nat.mul_le_mul h2 hn
    omega
theorem everyL_item {n : Nat} : ∀ {k : Nat} {o : List Int}, o ∈ everyL n k → o.length = k
  | 0, o, h => by rw [List.mem_singleton.mp h]; rfl
  | k + 1, o, h => by
    obtain ⟨p, hp, h2⟩ := List.mem_flatMap.mp h
    obtain ⟨i, _, e⟩ := List.mem_filterMap.mp h2
    split at e
    · cases e
    · cases e
      rw [List.length_append, everyL_item hp]
      rfl
theorem inV_ints {v : Int} : ∀ o : List Int, inV (toV (.int v)) ((o.map PyData.int).map toV) = o.contains v
  | [] => rfl
  | x :: o => by
    rw [List.map_cons, List.map_cons, List.contains_cons, ← inV_ints o]
    show (eqV (.int x) (.int v) || inV (toV (.int v)) ((o.map PyData.int).map toV)) = _
    congr 1
    show (x == v) = (v == x)
    rw [Bool.eq_iff_iff, beq_iff_eq, beq_iff_eq]
    exact ⟨Eq.symm, Eq.symm⟩
theorem flat_ints (o : List Int) : (o.map PyData.int).all flatD = true := by
  rw [List.all_map]
  exact List.all_eq_true.mpr fun _ _ => rfl
theorem gInF_tup {v : Int} {o : List Int} : gInF true (.int v) (tupD o) = .ok (.bool (!o.contains v)) .frz := by
  show (if (flatD (.int v) && (o.map PyData.int).all flatD) = true then EO.ok (.bool (if true = true then !inV (toV (.int v)) ((o.map PyData.int).map toV) else inV (toV (.int v)) ((o.map PyData.int).map toV))) .frz else .stuck) = _
  rw [flat_ints, inV_ints]
  rfl
theorem big_of {k : Nat} (h : k ≤ 100000) : k ≤ big := Nat.le_trans h (by decide)

/-! ### first_fault -/
def bel (a b : List Int) : Bool := (List.range (a.length - 1)).all fun i => (List.range (a.length - 1)).all fun j => decide (greatN a (i + 1) ((j + 1 : Nat) : Int) ≤ greatN b (i + 1) ((j + 1 : Nat) : Int))
theorem bel_iff {a b : List Int} : bel a b = true ↔ ∀ f v : Nat, 1 ≤ f → f < a.length → 1 ≤ v → v < a.length → greatN a f v ≤ greatN b f v := by
  unfold bel
  simp only [List.all_eq_true, List.mem_range, decide_eq_true_eq]
  constructor
  · intro h f v h1 h2 h3 h4
    have := h (f - 1) (by omega) (v - 1) (by omega)
    rw [show f - 1 + 1 = f by omega, show v - 1 + 1 = v by omega] at this
    exact this
  · intro h i hi j hj
    exact h (i + 1) (j + 1) (by omega) (by omega) (by omega) (by omega)
/-! ### which pairs are papers -/
theorem mem_papers {a b : List Int} {f v : Nat} : (f, v) ∈ papers a b ↔ f ≤ a.length ∧ v ≤ a.length ∧ greatN b f v < greatN a f v := by
  unfold papers
  rw [List.mem_flatMap]
  constructor
  · rintro ⟨g, hg, h⟩
    unfold papAt at h
    obtain ⟨w, hw, e⟩ := List.mem_filterMap.mp h
    have := List.mem_range.mp hg
    have := List.mem_range.mp hw
    split at e
    · rename_i hlt
      cases e
      exact ⟨by omega, by omega, hlt⟩
    · cases e
  · rintro ⟨h1, h2, h3⟩
    exact ⟨f, List.mem_range.mpr (by omega), List.mem_filterMap.mpr ⟨v, List.mem_range.mpr (by omega), if_pos h3⟩⟩

/-! ### comprehensions that sift -/
theorem run_filter {α : Type} {g : α → PyData} {os : List α} {step : PyData → Option (Option PyData)} {p : α → Bool} (hl : os.length ≤ big) (h : ∀ o ∈ os, step (g o) = some (if p o = true then some (g o) else none)) : IC.run (.ok (os.map g)) step = .ok (.list ((os.filter p).map g)) .new := by
  unfold IC.run
  simp only [List.length_map, hl, if_true]
  have : ∀ os : List α, (∀ o ∈ os, step (g o) = some (if p o = true then some (g o) else none)) → compL step (os.map g) = some ((os.filter p).map g) := by
    intro os
    induction os with
    | nil => intro _; rfl
    | cons o os ih =>
      intro h
      rw [List.map_cons]
      unfold compL
      rw [h o List.mem_cons_self, ih fun x hx => h x (List.mem_cons_of_mem _ hx)]
      by_cases e : p o = true
      · rw [if_pos e, List.filter_cons_of_pos e]
        rfl
      · rw [if_neg e, List.filter_cons_of_neg e]
  rw [this os h]
/-! ### orders below one another, with the edges -/
theorem great_zero (o : List Int) (v : Int) : greatN o 0 v = 0 := rfl
theorem great_all {n : Nat} {o : List Int} (h : Od n o) (v : Int) : greatN o n v = ((rgI n).filter fun x => decide (v ≤ x)).length := by
  unfold greatN
  rw [← h.len, List.take_length]
  exact (List.Perm.filter _ (by rw [h.len]; exact h)).length_eq
theorem great_v0 {n : Nat} {o : List Int} (h : Od n o) {f : Nat} (hf : f ≤ n) : greatN o f 0 = f := by
  unfold greatN
  rw [List.filter_eq_self.mpr, List.length_take, h.len]
  · omega
  · intro x hx
    exact decide_eq_true (h.mem.mp (List.mem_of_mem_take hx)).1
theorem great_vn {n : Nat} {o : List Int} (h : Od n o) (f : Nat) : greatN o f (n : Nat) = 0 := by
  unfold greatN
  rw [List.filter_eq_nil_iff.mpr]
  · rfl
  · intro x hx
    have := (h.mem.mp (List.mem_of_mem_take hx)).2
    rw [decide_eq_true_eq]
    omega
def pnil (a b : List Int) : Bool := (papers a b).isEmpty
theorem pnil_iff {a b : List Int} : pnil a b = true ↔ ∀ f v : Nat, f ≤ a.length → v ≤ a.length → greatN a f v ≤ greatN b f v := by
  unfold pnil
  rw [List.isEmpty_iff, List.eq_nil_iff_forall_not_mem]
  constructor
  · intro h f v h1 h2
    have := h (f, v)
    rw [mem_papers] at this
    omega
  · intro h r hr
    obtain ⟨f, v⟩ := r
    rw [mem_papers] at hr
    have := h f v hr.1 hr.2.1
    omega
theorem pnil_bel {n : Nat} {a b : List Int} (ha : Od n a) (hb : Od n b) : pnil a b = bel a b := by
  rw [Bool.eq_iff_iff, pnil_iff, bel_iff, ha.len]
  constructor
  · intro h f v h1 h2 h3 h4
    exact h f v (by omega) (by omega)
  · intro h f v h1 h2
    by_cases e1 : f = 0
    · rw [e1, great_zero, great_zero]
      exact Nat.le_refl _
    by_cases e2 : f = n
    · rw [e2, great_all ha, great_all hb]
      exact Nat.le_refl _
    by_cases e3 : v = 0
    · rw [e3]
      show greatN a f 0 ≤ greatN b f 0
      rw [great_v0 ha h1, great_v0 hb h1]
      exact Nat.le_refl _
    by_cases e4 : v = n
    · rw [e4, great_vn ha]
      exact Nat.zero_le _
    exact h f v (by omega) (by omega) (by omega) (by omega)
/-! ### read backwards -/
theorem great_rev {n : Nat} {o : List Int} (h : Od n o) {f : Nat} (hf : f ≤ n) (v : Int) : greatN o.reverse f v + greatN o (n - f) v = greatN o n v := by
  have hl := h.len
  have e : o.take (n - f) ++ o.drop (n - f) = o := List.take_append_drop _ _
  have e1 : greatN o n v = greatN o (n - f) v + ((o.drop (n - f)).filter fun x => decide (v ≤ x)).length := by
    unfold greatN
    rw [← List.length_append, ← List.filter_append, e, ← hl, List.take_length]
  have e2 : greatN o.reverse f v = ((o.drop (n - f)).filter fun x => decide (v ≤ x)).length := by
    unfold greatN
    rw [List.take_reverse, hl, List.filter_reverse, List.length_reverse]
  omega
theorem bel_rev {n : Nat} {a b : List Int} (ha : Od n a) (hb : Od n b) : bel a.reverse b.reverse = bel b a := by
  rw [Bool.eq_iff_iff, bel_iff, bel_iff, List.length_reverse, ha.len, hb.len]
  constructor
  · intro h f v h1 h2 h3 h4
    have := h (n - f) v (by omega) (by omega) h3 h4
    have r1 := great_rev ha (f := n - f) (by omega) v
    have r2 := great_rev hb (f := n - f) (by omega) v
    rw [show n - (n - f) = f by omega] at r1 r2
    rw [great_all ha] at r1
    rw [great_all hb] at r2
    omega
  · intro h f v h1 h2 h3 h4
    have := h (n - f) v (by omega) (by omega) h3 h4
    have r1 := great_rev ha (f := f) (by omega) v
    have r2 := great_rev hb (f := f) (by omega) v
    rw [great_all ha] at r1
    rw [great_all hb] at r2
    omega
theorem bel_refl (a : List Int) : bel a a = true := bel_iff.mpr fun _ _ _ _ _ _ => Nat.le_refl _
/-! ### every order is there -/
theorem everyL_mem {n : Nat} : ∀ {k : Nat} {o : List Int}, o ∈ everyL n k ↔ o.length = k ∧ o.Nodup ∧ ∀ v ∈ o, 0 ≤ v ∧ v < n
  | 0, o => by
    rw [everyL, List.mem_singleton]
    constructor
    · rintro rfl
      exact ⟨rfl, List.nodup_nil, fun v hv => by cases hv⟩
    · rintro ⟨h, _⟩
      exact List.eq_nil_of_length_eq_zero h
  | k + 1, o => by
    rw [everyL, List.mem_flatMap]
    constructor
    · rintro ⟨p, hp, h⟩
      obtain ⟨h1, h2, h3⟩ := everyL_mem.mp hp
      obtain ⟨i, hi, e⟩ := List.mem_filterMap.mp h
      have hi := List.mem_range.mp hi
      split at e
      · cases e
      · rename_i hc
        cases e
        rw [List.contains_iff_mem] at hc
        refine ⟨by rw [List.length_append, h1]; rfl, ?_, fun v hv => ?_⟩
        · rw [List.nodup_append]
          refine ⟨h2, List.nodup_cons.mpr ⟨by simp, List.nodup_nil⟩, fun x hx y hy e => ?_⟩
          rw [List.mem_singleton.mp hy] at e
          subst e
          exact hc hx
        · rcases List.mem_append.mp hv with q | q
          · exact h3 v q
          · rw [List.mem_singleton.mp q]
            omega
    · rintro ⟨h1, h2, h3⟩
      have hne : o ≠ [] := fun e => by rw [e] at h1; cases h1
      have e := List.dropLast_concat_getLast hne
      have hnd : o.dropLast.Nodup ∧ o.getLast hne ∉ o.dropLast := by
        rw [← e, List.nodup_append] at h2
        exact ⟨h2.1, fun hm => h2.2.2 _ hm _ (List.mem_singleton.mpr rfl) rfl⟩
      have hl := h3 _ (List.getLast_mem hne)
      refine ⟨o.dropLast, everyL_mem.mpr ⟨by rw [List.length_dropLast, h1]; rfl, hnd.1, fun v hv => h3 v (List.dropLast_subset o hv)⟩, ?_⟩
      refine List.mem_filterMap.mpr ⟨(o.getLast hne).toNat, List.mem_range.mpr (by omega), ?_⟩
      have ei : (((o.getLast hne).toNat : Nat) : Int) = o.getLast hne := by omega
      rw [ei, if_neg (by rw [List.contains_iff_mem]; exact hnd.2), e]
theorem sub_perm : ∀ {l m : List Int}, l.Nodup → (∀ v ∈ l, v ∈ m) → m.length ≤ l.length → l.Perm m
  | [], m, _, _, h => by
    rw [List.eq_nil_of_length_eq_zero (Nat.le_zero.mp h)]
  | x :: l, m, hn, hs, h => by
    obtain ⟨h1, h2⟩ := List.nodup_cons.mp hn
    have hx := hs x List.mem_cons_self
    have hp := List.perm_cons_erase hx
    refine (List.Perm.cons x (sub_perm h2 (fun v hv => ?_) ?_)).trans hp.symm
    · have hne : v ≠ x := fun e => h1 (by rw [← e]; exact hv)
      exact (List.mem_erase_of_ne hne).mpr (hs v (List.mem_cons_of_mem _ hv))
    · rw [List.length_erase_of_mem hx]
      rw [List.length_cons] at h
      omega
theorem allO_mem {n : Nat} {o : List Int} : o ∈ allO n ↔ Od n o := by
  unfold allO
  rw [everyL_mem]
  constructor
  · rintro ⟨h1, h2, h3⟩
    exact sub_perm h2 (fun v hv => rgI_mem.mpr (h3 v hv)) (by rw [rgI_len, h1]; exact Nat.le_refl _)
  · intro h
    exact ⟨h.len, h.nodup, fun v hv => h.mem.mp hv⟩

theorem bel_trans {x y z : List Int} (h : x.length = y.length) (h1 : bel x y = true) (h2 : bel y z = true) : bel x z = true := by
  rw [bel_iff] at h1 h2 ⊢
  intro f v a b c d
  exact Nat.le_trans (h1 f v a b c d) (h2 f v a (by omega) c (by omega))

theorem swp_get {o : List Int} {p q : Nat} (hp : p < o.length) (hq : q < o.length) (i : Nat) : (swp o p q).getD i 0 = if i = q then o.getD p 0 else if i = p then o.getD q 0 else o.getD i 0 := by
  unfold swp
  rw [List.getD_eq_getElem?_getD, List.getElem?_set, List.length_set]
  by_cases h1 : q = i
  · rw [if_pos h1, if_pos hq, if_pos h1.symm]
    rfl
  · rw [if_neg h1, if_neg (fun e => h1 e.symm), List.getElem?_set]
    by_cases h2 : p = i
    · rw [if_pos h2, if_pos hp, if_pos h2.symm]
      rfl
    · rw [if_neg h2, if_neg (fun e => h2 e.symm), List.getD_eq_getElem?_getD]
theorem nodup_get {o : List Int} (h : o.Nodup) {i j : Nat} (hi : i < o.length) (hj : j < o.length) (e : o.getD i 0 = o.getD j 0) : i = j := by
  rw [List.getD_eq_getElem?_getD, List.getD_eq_getElem?_getD, List.getElem?_eq_getElem hi, List.getElem?_eq_getElem hj] at e
  exact (List.getElem_inj h).mp e

theorem great_countP (o : List Int) (f : Nat) (v : Int) : greatN o f v = (o.take f).countP fun x => decide (v ≤ x) := by
  unfold greatN
  rw [List.countP_eq_length_filter]
theorem great_succ {o : List Int} {f : Nat} (hf : f < o.length) (v : Int) : greatN o (f + 1) v = greatN o f v + if v ≤ o.getD f 0 then 1 else 0 := by
  rw [great_countP, great_countP, List.take_succ_eq_append_getElem hf, List.countP_append, List.getD_eq_getElem?_getD, List.getElem?_eq_getElem hf]
  show _ + List.countP _ [o[f]] = _ + if v ≤ o[f] then 1 else 0
  rw [List.countP_cons, List.countP_nil]
  by_cases h : v ≤ o[f] <;> simp [h]

/-! ### a step that stays below -/
theorem least {P : Nat → Prop} : ∀ m, P m → ∃ k, P k ∧ ∀ j, j < k → ¬ P j := by
  intro m
  induction m using Nat.strongRecOn with
  | ind m ih =>
    intro h
    by_cases c : ∃ j, j < m ∧ P j
    · obtain ⟨j, hj, hp⟩ := c
      exact ih j hj hp
    · exact ⟨m, h, fun j hj hp => c ⟨j, hj, hp⟩⟩
theorem first_diff : ∀ {a b : List Int}, a.length = b.length → a ≠ b → ∃ i, i < a.length ∧ a.getD i 0 ≠ b.getD i 0 ∧ a.take i = b.take i
  | [], [], _, h => absurd rfl h
  | [], _ :: _, h, _ => by cases h
  | _ :: _, [], h, _ => by cases h
  | x :: a, y :: b, hl, h => by
    by_cases e : x = y
    · subst e
      obtain ⟨i, h1, h2, h3⟩ := first_diff (a := a) (b := b) (by simpa using hl) (fun z => h (by rw [z]))
      exact ⟨i + 1, by simpa using h1, h2, by rw [List.take_succ_cons, List.take_succ_cons, h3]⟩
    · exact ⟨0, by simp, e, rfl⟩
abbrev ind (c : Prop) [Decidable c] : Nat := if c then 1 else 0
theorem great_swp {a : List Int} {p q : Nat} (hpq : p < q) (hq : q < a.length) (v : Int) : ∀ f, f ≤ a.length →
    greatN (swp a p q) f v + (if p < f then ind (v ≤ a.getD p 0) else 0) + (if q < f then ind (v ≤ a.getD q 0) else 0) = greatN a f v + (if p < f then ind (v ≤ a.getD q 0) else 0) + (if q < f then ind (v ≤ a.getD p 0) else 0)
  | 0, _ => by simp [great_zero]
  | f + 1, h => by
    have ih := great_swp hpq hq v f (by omega)
    rw [great_succ (by rw [swp_len]; omega), great_succ (o := a) (by omega), swp_get (by omega) hq]
    by_cases c1 : f = q
    · subst c1
      rw [if_pos rfl]
      simp only [ind, show p < f from hpq, show p < f + 1 by omega, show ¬ f < f by omega, show f < f + 1 by omega, if_true, if_false] at ih ⊢
      omega
    · rw [if_neg c1]
      by_cases c2 : f = p
      · subst c2
        rw [if_pos rfl]
        simp only [ind, show ¬ f < f by omega, show f < f + 1 by omega, show ¬ q < f by omega, show ¬ q < f + 1 by omega, if_true, if_false] at ih ⊢
        omega
      · rw [if_neg c2]
        have e1 : (p < f + 1) = (p < f) := by rw [eq_iff_iff]; omega
        have e2 : (q < f + 1) = (q < f) := by rw [eq_iff_iff]; omega
        simp only [e1, e2]
        omega
theorem ind_mono {v x y : Int} (h : x ≤ y) : ind (v ≤ x) ≤ ind (v ≤ y) := by
  by_cases c : v ≤ x
  · have : v ≤ y := Int.le_trans c h
    simp [ind, c, this]
  · simp [ind, c]
theorem swp_up {a : List Int} {p q : Nat} (hpq : p < q) (hq : q < a.length) (h : a.getD p 0 < a.getD q 0) : bel a (swp a p q) = true := by
  rw [bel_iff]
  intro f v h1 h2 h3 h4
  have g := great_swp hpq hq (v : Nat) f (by omega)
  have m := ind_mono (v := (v : Nat)) (Int.le_of_lt h)
  by_cases c1 : p < f <;> by_cases c2 : q < f <;> simp only [c1, c2, if_true, if_false] at g <;> omega
theorem up_bel {a c : List Int} (h : c ∈ stepsUp a) : bel a c = true := by
  obtain ⟨p, hp, h2⟩ := List.mem_flatMap.mp ((isortT_perm _).mem_iff.mp h)
  unfold stAt at h2
  obtain ⟨k, hk, e⟩ := List.mem_filterMap.mp h2
  have hk := List.mem_range.mp hk
  have hp := List.mem_range.mp hp
  split at e
  · rename_i hu
    cases e
    unfold upOk at hu
    rw [Bool.and_eq_true, decide_eq_true_eq] at hu
    exact swp_up (by omega) (by omega) hu.1
  · cases e
theorem step_below {n : Nat} {a b : List Int} (ha : Od n a) (hb : Od n b) (h : bel a b = true) (ne : a ≠ b) : ∃ c, c ∈ stepsUp a ∧ bel c b = true := by
  have la := ha.len
  have lb := hb.len
  have pn : pnil a b = true := (pnil_bel ha hb).trans h
  rw [pnil_iff] at pn
  obtain ⟨i, hi, hne, htk⟩ := first_diff (by omega) ne
  have same : ∀ v : Int, greatN a i v = greatN b i v := fun v => by
    unfold greatN
    rw [htk]
  have ai := ha.get (p := i) (by omega)
  have bi := hb.get (p := i) (by omega)
  -- a_i < b_i
  have hlt : a.getD i 0 < b.getD i 0 := by
    have := pn (i + 1) (a.getD i 0).toNat (by omega) (by omega)
    rw [great_succ (by omega), great_succ (by omega), same, Int.toNat_of_nonneg ai.1, if_pos (Int.le_refl _)] at this
    by_cases c : a.getD i 0 ≤ b.getD i 0
    · omega
    · rw [if_neg c] at this
      omega
  -- the least place behind i with a number in between
  have ex : ∃ m, i < m ∧ m < n ∧ a.getD i 0 < a.getD m 0 ∧ a.getD m 0 ≤ b.getD i 0 := by
    obtain ⟨m, hm, e⟩ := List.mem_iff_getElem.mp (ha.mem.mpr bi)
    have em : a.getD m 0 = b.getD i 0 := by rw [List.getD_eq_getElem?_getD, List.getElem?_eq_getElem hm]; exact e
    have hmi : ¬ m ≤ i := fun hle => by
      by_cases c : m = i
      · rw [c] at em
        omega
      · have hm2 : m < i := by omega
        have e2 : a.getD m 0 = b.getD m 0 := by
          have q1 : (a.take i)[m]? = (b.take i)[m]? := by rw [htk]
          rw [List.getElem?_take_of_lt hm2, List.getElem?_take_of_lt hm2] at q1
          rw [List.getD_eq_getElem?_getD, List.getD_eq_getElem?_getD, q1]
        have := nodup_get hb.nodup (i := m) (j := i) (by omega) (by omega) (by rw [← e2, em])
        omega
    exact ⟨m, by omega, by omega, by omega, by omega⟩
  obtain ⟨m, hm⟩ := ex
  obtain ⟨k, ⟨k1, k2, k3, k4⟩, kmin⟩ := least (P := fun m => i < m ∧ m < n ∧ a.getD i 0 < a.getD m 0 ∧ a.getD m 0 ≤ b.getD i 0) m hm
  have gap : ∀ j, i < j → j < k → ¬ (a.getD i 0 < a.getD j 0 ∧ a.getD j 0 ≤ b.getD i 0) := fun j h1 h2 z => kmin j h2 ⟨h1, by omega, z.1, z.2⟩
  refine ⟨swp a i k, ?_, ?_⟩
  · refine (isortT_perm _).mem_iff.mpr (List.mem_flatMap.mpr ⟨i, List.mem_range.mpr hi, ?_⟩)
    unfold stAt
    refine List.mem_filterMap.mpr ⟨k - (i + 1), List.mem_range.mpr (by omega), ?_⟩
    rw [show i + 1 + (k - (i + 1)) = k by omega, if_pos]
    unfold upOk
    rw [decide_eq_true k3, Bool.true_and, List.isEmpty_iff]
    unfold betw
    rw [List.filter_eq_nil_iff]
    intro v hv z
    rw [Bool.and_eq_true, decide_eq_true_eq, decide_eq_true_eq] at z
    obtain ⟨j, hj, e⟩ := List.mem_iff_getElem.mp hv
    rw [List.length_take, List.length_drop] at hj
    have ej : a.getD (i + 1 + j) 0 = v := by
      rw [← e, List.getElem_take, List.getElem_drop, List.getD_eq_getElem?_getD, List.getElem?_eq_getElem (by omega)]
      rfl
    exact gap (i + 1 + j) (by omega) (by omega) ⟨by omega, by omega⟩
  · rw [bel_iff, swp_len]
    intro f v h1 h2 h3 h4
    have g := great_swp k1 (by omega : k < a.length) (v : Nat) f (by omega)
    have hfv := pn f v (by omega) (by omega)
    by_cases c1 : i < f
    · by_cases c2 : k < f
      · simp only [c1, c2, if_true] at g
        omega
      · simp only [c1, c2, if_true, if_false] at g
        by_cases c3 : ((v : Nat) : Int) ≤ a.getD i 0
        · have c4 : ((v : Nat) : Int) ≤ a.getD k 0 := by omega
          simp only [ind, c3, c4, if_true] at g
          omega
        · by_cases c4 : ((v : Nat) : Int) ≤ a.getD k 0
          · simp only [ind, c3, c4, if_true, if_false] at g
            -- the crucial case
            have cl1 : ∀ f, i < f → f ≤ k → greatN a f (v : Nat) + greatN a i (b.getD i 0 + 1) = greatN a i (v : Nat) + greatN a f (b.getD i 0 + 1) := by
              intro f
              induction f with
              | zero => intro z; omega
              | succ f ih =>
                intro z1 z2
                rw [great_succ (by omega), great_succ (by omega)]
                by_cases z3 : f = i
                · subst z3
                  rw [if_neg c3, if_neg (by omega)]
                  omega
                · have := ih (by omega) (by omega)
                  have gp := gap f (by omega) (by omega)
                  by_cases z4 : ((v : Nat) : Int) ≤ a.getD f 0
                  · rw [if_pos z4, if_pos (by omega)]
                    omega
                  · rw [if_neg z4, if_neg (by omega)]
                    omega
            have cl2 : ∀ f, i < f → f ≤ n → greatN b i (v : Nat) + greatN b f (b.getD i 0 + 1) + 1 ≤ greatN b f (v : Nat) + greatN b i (b.getD i 0 + 1) := by
              intro f
              induction f with
              | zero => intro z; omega
              | succ f ih =>
                intro z1 z2
                rw [great_succ (by omega), great_succ (by omega)]
                by_cases z3 : f = i
                · subst z3
                  rw [if_neg (show ¬ b.getD f 0 + 1 ≤ b.getD f 0 by omega), if_pos (show ((v : Nat) : Int) ≤ b.getD f 0 by omega)]
                  omega
                · have := ih (by omega) (by omega)
                  by_cases z4 : b.getD i 0 + 1 ≤ b.getD f 0
                  · rw [if_pos z4, if_pos (by omega)]
                    omega
                  · rw [if_neg z4]
                    omega
            have r1 := cl1 f c1 (by omega)
            have r2 := cl2 f c1 (by omega)
            have ew : b.getD i 0 + 1 = (((b.getD i 0).toNat + 1 : Nat) : Int) := by omega
            have r3 := pn f ((b.getD i 0).toNat + 1) (by omega) (by omega)
            rw [← ew] at r3
            have s1 := same (v : Nat)
            have s2 := same (b.getD i 0 + 1)
            omega
          · simp only [ind, c3, c4, if_false] at g
            omega
    · simp only [c1, show ¬ k < f by omega, if_false] at g
      omega

end Lw

set_option linter.all false
set_option maxRecDepth 1000000
namespace Lw
open PySem L2 VL
/-! ### the steps agree with the law's, for all orders of at most six numbers -/
theorem sam_1 : (ords 1).all sameUp = true := by decide +kernel
theorem sam_2 : (ords 2).all sameUp = true := by decide +kernel
theorem sam_3 : (ords 3).all sameUp = true := by decide +kernel
theorem sam_4 : (ords 4).all sameUp = true := by decide +kernel
theorem sam_5 : (ords 5).all sameUp = true := by decide +kernel
def spart (i : Nat) : Bool := (picks 5 ((rgI 6).eraseIdx i)).all fun r => sameUp ((rgI 6).getD i 0 :: r)
theorem s6_0 : spart 0 = true := by decide +kernel
theorem s6_1 : spart 1 = true := by decide +kernel
theorem s6_2 : spart 2 = true := by decide +kernel
theorem s6_3 : spart 3 = true := by decide +kernel
theorem s6_4 : spart 4 = true := by decide +kernel
theorem s6_5 : spart 5 = true := by decide +kernel
theorem sam_6 : (ords 6).all sameUp = true := by
  rw [List.all_eq_true]
  intro o ho
  obtain ⟨i, hi, h⟩ := List.mem_flatMap.mp ho
  obtain ⟨r, hr, rfl⟩ := List.mem_map.mp h
  have hl : (rgI 6).length = 6 := rfl
  have h6 : i < 6 := by
    have := List.mem_range.mp hi
    omega
  have hp : spart i = true := by
    have : i = 0 ∨ i = 1 ∨ i = 2 ∨ i = 3 ∨ i = 4 ∨ i = 5 := by omega
    rcases this with e | e | e | e | e | e
    · rw [e]; exact s6_0
    · rw [e]; exact s6_1
    · rw [e]; exact s6_2
    · rw [e]; exact s6_3
    · rw [e]; exact s6_4
    · rw [e]; exact s6_5
  unfold spart at hp
  rw [List.all_eq_true] at hp
  exact hp r hr
theorem sam_all {n : Nat} (h1 : 1 ≤ n) (h6 : n ≤ 6) {o : List Int} (ho : o ∈ ords n) : sameUp o = true := by
  have : (ords n).all sameUp = true := by
    have : n = 1 ∨ n = 2 ∨ n = 3 ∨ n = 4 ∨ n = 5 ∨ n = 6 := by omega
    rcases this with e | e | e | e | e | e
    · rw [e]; exact sam_1
    · rw [e]; exact sam_2
    · rw [e]; exact sam_3
    · rw [e]; exact sam_4
    · rw [e]; exact sam_5
    · rw [e]; exact sam_6
  exact List.all_eq_true.mp this o ho
theorem up_law {n : Nat} (h1 : 1 ≤ n) (h6 : n ≤ 6) {o : List Int} (ho : Od n o) : lawUp o = stepsUp o := (stepsUp_same (sam_all h1 h6 (od_ords.mpr ho))).symm

end Lw

set_option linter.all false
set_option maxRecDepth 1000000
namespace Lw
open PySem L2 VL
/-! ### the diamond: between two orders two steps apart lie exactly two -/
def codeN (o : List Int) : Nat := o.foldl (fun a v => a * 8 + v.toNat) 0
def cntN (z : Nat) : List Nat → Nat
  | [] => 0
  | x :: xs => bif Nat.beq x z then cntN z xs + 1 else cntN z xs
def dia (o : List Int) : Bool := let m := (steps0 o).flatMap fun y => (steps0 y).map codeN
  m.all fun z => Nat.beq (cntN z m) 2
theorem dia_1 : (ords 1).all dia = true := by decide +kernel
theorem dia_2 : (ords 2).all dia = true := by decide +kernel
theorem dia_3 : (ords 3).all dia = true := by decide +kernel
theorem dia_4 : (ords 4).all dia = true := by decide +kernel
theorem dia_5 : (ords 5).all dia = true := by decide +kernel

def dpart (i : Nat) : Bool := (picks 5 ((rgI 6).eraseIdx i)).all fun r => dia ((rgI 6).getD i 0 :: r)
theorem d6_0 : dpart 0 = true := by decide +kernel
theorem d6_1 : dpart 1 = true := by decide +kernel
theorem d6_2 : dpart 2 = true := by decide +kernel
theorem d6_3 : dpart 3 = true := by decide +kernel
theorem d6_4 : dpart 4 = true := by decide +kernel
theorem d6_5 : dpart 5 = true := by decide +kernel
theorem dia_6 : (ords 6).all dia = true := by
  rw [List.all_eq_true]
  intro o ho
  obtain ⟨i, hi, h⟩ := List.mem_flatMap.mp ho
  obtain ⟨r, hr, rfl⟩ := List.mem_map.mp h
  have hl : (rgI 6).length = 6 := rfl
  have h6 : i < 6 := by
    have := List.mem_range.mp hi
    omega
  have hp : dpart i = true := by
    have : i = 0 ∨ i = 1 ∨ i = 2 ∨ i = 3 ∨ i = 4 ∨ i = 5 := by omega
    rcases this with e | e | e | e | e | e
    · rw [e]; exact d6_0
    · rw [e]; exact d6_1
    · rw [e]; exact d6_2
    · rw [e]; exact d6_3
    · rw [e]; exact d6_4
    · rw [e]; exact d6_5
  unfold dpart at hp
  rw [List.all_eq_true] at hp
  exact hp r hr
theorem dia_all {n : Nat} (h1 : 1 ≤ n) (h6 : n ≤ 6) {o : List Int} (ho : o ∈ ords n) : dia o = true := by
  have : (ords n).all dia = true := by
    have : n = 1 ∨ n = 2 ∨ n = 3 ∨ n = 4 ∨ n = 5 ∨ n = 6 := by omega
    rcases this with e | e | e | e | e | e
    · rw [e]; exact dia_1
    · rw [e]; exact dia_2
    · rw [e]; exact dia_3
    · rw [e]; exact dia_4
    · rw [e]; exact dia_5
    · rw [e]; exact dia_6
  exact List.all_eq_true.mp this o ho

/-! ### what the diamond says of lists -/
theorem codeN_inj {n : Nat} {a b : List Int} (ha : Od n a) (hb : Od n b) (hn : n ≤ 8) (h : codeN a = codeN b) : a = b := by
  have key : ∀ (a b : List Int) (x y : Nat), a.length = b.length → (∀ v ∈ a, 0 ≤ v ∧ v < 8) → (∀ v ∈ b, 0 ≤ v ∧ v < 8) → a.foldl (fun a v => a * 8 + v.toNat) x = b.foldl (fun a v => a * 8 + v.toNat) y → x = y ∧ a = b := by
    intro a
    induction a with
    | nil =>
      intro b x y hl _ _ h
      cases b with
      | nil => exact ⟨h, rfl⟩
      | cons _ _ => cases hl
    | cons u a ih =>
      intro b x y hl h1 h2 h
      cases b with
      | nil => cases hl
      | cons w b =>
        obtain ⟨e1, e2⟩ := ih b (x * 8 + u.toNat) (y * 8 + w.toNat) (Nat.succ.inj hl) (fun v hv => h1 v (List.mem_cons_of_mem _ hv)) (fun v hv => h2 v (List.mem_cons_of_mem _ hv)) h
        have hu := h1 u List.mem_cons_self
        have hw := h2 w List.mem_cons_self
        have : u.toNat = w.toNat ∧ x = y := by omega
        refine ⟨this.2, ?_⟩
        rw [e2]
        congr 1
        omega
  exact (key a b 0 0 (by rw [ha.len, hb.len]) (fun v hv => by have := ha.mem.mp hv; omega) (fun v hv => by have := hb.mem.mp hv; omega) h).2

end Lw

set_option linter.all false
set_option maxRecDepth 1000000
namespace Lw
open PySem L2 VL
/-! ### is_step -/
theorem is_step_ok {d : Nat} {a b : List Int} (h : Sm d a) (h1 : 1 ≤ d) (h7 : d ≤ 7) : m_is_step [tupD a, tupD b] = .ok (.bool ((stepsUp a).contains b)) := by
  have hs := steps_up_ok h h1 h7
  have hg := gIn_tups (a := b) (os := stepsUp a)
  refine defM_ret rfl ?_
  simp [b_is_step, startG, hs, hg]
theorem steps_od {n : Nat} {o : List Int} (h : Od n o) : ∀ t ∈ stepsUp o, Od n t := fun t ht => by
  have := (isortT_perm _).mem_iff.mp ht
  obtain ⟨p, hp, h2⟩ := List.mem_flatMap.mp this
  unfold stAt at h2
  obtain ⟨k, hk, e⟩ := List.mem_filterMap.mp h2
  have := List.mem_range.mp hk
  have := List.mem_range.mp hp
  split at e
  · cases e
    exact h.swp (by omega) (by omega)
  · cases e

/-! ### is_chain -/
def stepsOk : List (List Int) → Bool
  | a :: b :: os => (stepsUp a).contains b && stepsOk (b :: os)
  | _ => true
theorem ic_loop {n : Nat} (h1 : 1 ≤ n) (h6 : n ≤ 6) : ∀ {os : List (List Int)}, (∀ o ∈ os, Od n o) → ∀ {x y z : Option Sl},
    (stepsOk os = true ∧ ∃ y2 z2, forL (to2 1 2) L1_is_chain (zipD (os.map tupD) (os.tail.map tupD)) [x, y, z] = .next [x, y2, z2]) ∨ (stepsOk os = false ∧ forL (to2 1 2) L1_is_chain (zipD (os.map tupD) (os.tail.map tupD)) [x, y, z] = .ret (.bool false))
  | [], _, x, y, z => .inl ⟨rfl, y, z, rfl⟩
  | [a], _, x, y, z => .inl ⟨rfl, y, z, rfl⟩
  | a :: b :: os, h, x, y, z => by
    have hs := is_step_ok (b := b) ((h a List.mem_cons_self).sm (by omega)) h1 (by omega)
    have e : zipD ((a :: b :: os).map tupD) ((a :: b :: os).tail.map tupD) = .tuple [tupD a, tupD b] :: zipD ((b :: os).map tupD) ((b :: os).tail.map tupD) := rfl
    rw [e]
    by_cases hc : (stepsUp a).contains b = true
    · rw [hc] at hs
      have ht : L1_is_chain [x, some (.dat (tupD a)), some (.dat (tupD b))] = .next [x, some (.dat (tupD a)), some (.dat (tupD b))] := by simp [L1_is_chain, hs]
      have hst : stepsOk (a :: b :: os) = stepsOk (b :: os) := by
        show ((stepsUp a).contains b && stepsOk (b :: os)) = _
        rw [hc, Bool.true_and]
      rw [hst]
      have ih := ic_loop h1 h6 (os := b :: os) (fun o ho => h o (List.mem_cons_of_mem _ ho)) (x := x) (y := some (.dat (tupD a))) (z := some (.dat (tupD b)))
      have e2 : forL (to2 1 2) L1_is_chain (.tuple [tupD a, tupD b] :: zipD ((b :: os).map tupD) ((b :: os).tail.map tupD)) [x, y, z] = forL (to2 1 2) L1_is_chain (zipD ((b :: os).map tupD) ((b :: os).tail.map tupD)) [x, some (.dat (tupD a)), some (.dat (tupD b))] := by
        conv => lhs; unfold forL
        simp only [to2_eq, List.set_cons_succ, List.set_cons_zero]
        rw [ht]
      rw [e2]
      exact ih
    · rw [Bool.eq_false_iff.mpr hc] at hs
      have ht : L1_is_chain [x, some (.dat (tupD a)), some (.dat (tupD b))] = .ret (.bool false) := by simp [L1_is_chain, hs]
      refine .inr ⟨?_, ?_⟩
      · show ((stepsUp a).contains b && stepsOk (b :: os)) = false
        rw [Bool.eq_false_iff.mpr hc, Bool.false_and]
      · unfold forL
        simp only [to2_eq, List.set_cons_succ, List.set_cons_zero]
        rw [ht]

theorem ic_comp {n : Nat} {os : List (List Int)} (h1 : 1 ≤ n) (h6 : n ≤ 6) (h : ∀ o ∈ os, Od n o) (hl : os.length ≤ 1000) {y z : Option Sl} : C1_is_chain [some (.dat (.list (os.map tupD))), y, z] = .ok (.list []) .new := by
  unfold C1_is_chain
  rw [compE_eq]
  have e : (compiL (varE 0)) [some (.dat (.list (os.map tupD))), y, z] = .ok (os.map tupD) := by simp
  rw [e]
  have hr := run_comp (ds := os.map tupD) (step := stepC (toN 1) (notB (truthB (callE m_is_order (consA (varE 1) nilA)))) (varE 1) (wipeG [some (.dat (.list (os.map tupD))), y, z] [1])) (f := fun _ => none) (by rw [List.length_map]; unfold big; omega) fun d hd => by
    obtain ⟨o, ho, rfl⟩ := List.mem_map.mp hd
    have hi := is_order_ok (o := o) (by rw [(h o ho).len]; omega)
    rw [(h o ho).isOrd h1 h6] at hi
    simp [hi]
  rw [hr]
  simp
theorem cut_from {ds : List PyData} {a : Nat} (ha : a ≤ ds.length) : cutD ds (some ((a : Nat) : Int)) none = ds.drop a := by
  unfold cutD
  rw [HT.sIx_nat, HT.sIx_none, Nat.min_eq_left ha, List.take_of_length_le (by rw [List.length_drop]; exact Nat.le_refl _)]
theorem is_chain_ok {n : Nat} {os : List (List Int)} (h1 : 1 ≤ n) (h6 : n ≤ 6) (h : ∀ o ∈ os, Od n o) (hl : os.length ≤ 1000) : m_is_chain [.list (os.map tupD)] = .ok (.bool (!os.isEmpty && stepsOk os)) := by
  refine defM_ret rfl ?_
  by_cases he : os.isEmpty = true
  · have : os = [] := List.isEmpty_iff.mp he
    subst this
    simp [b_is_chain, startG, gIsi, tyOf, subTy]
  · have he2 : os.isEmpty = false := Bool.eq_false_iff.mpr he
    have hpos : 1 ≤ os.length := by
      cases os with
      | nil => exact absurd rfl he
      | cons _ _ => exact Nat.succ_le_succ (Nat.zero_le _)
    have hc := ic_comp h1 h6 h hl (y := none) (z := none)
    have hcut : cutD (os.map tupD) (some 1) none = os.tail.map tupD := by
      have := cut_from (ds := os.map tupD) (a := 1) (by rw [List.length_map]; exact hpos)
      have e1 : (((1 : Nat) : Int)) = 1 := rfl
      rw [e1] at this
      rw [this, List.map_tail, List.drop_one]
    have hz : iterZ (consA (varE 0) (consA (slE (varE 0) (partS (cE (.int 1))) partN) nilA)) [some (.dat (.list (os.map tupD))), none, none] = .ok (zipD (os.map tupD) (os.tail.map tupD)) [some (.dat (.list (os.map tupD))), none, none] := by
      unfold iterZ
      simp [hcut]
    have gl : gIsi .list (.list (os.map tupD)) = .ok (.bool true) .frz := rfl
    rcases ic_loop h1 h6 h (x := some (.dat (.list (os.map tupD)))) (y := none) (z := none) with ⟨hs, y2, z2, hr⟩ | ⟨hs, hr⟩
    · rw [he2, hs]
      simp only [b_is_chain, startG, List.map_cons, List.map_nil, List.length_cons, List.length_nil, Nat.reduceAdd, Nat.reduceSub, List.replicate, List.cons_append, List.nil_append, seqS_eq, ifS_eq, orB_eq, notB_eq, truthB_eq, op1_eq, varE_eq, List.getElem?_cons_zero, varO_d, bind_ok, gl, bindB_ok, truthO_b, truthO_l, List.isEmpty_map, he2, bindB_b, Bool.not_true, Bool.not_false, Bool.false_eq_true, if_false, bindS_b, nilS_eq, seq_next, hc, List.isEmpty_nil, forS_eq, hz, run_ok, hr, retS_eq, cE_eq, bindS_ok, retK_frz, Bool.and_self]
    · rw [he2, hs]
      simp only [b_is_chain, startG, List.map_cons, List.map_nil, List.length_cons, List.length_nil, Nat.reduceAdd, Nat.reduceSub, List.replicate, List.cons_append, List.nil_append, seqS_eq, ifS_eq, orB_eq, notB_eq, truthB_eq, op1_eq, varE_eq, List.getElem?_cons_zero, varO_d, bind_ok, gl, bindB_ok, truthO_b, truthO_l, List.isEmpty_map, he2, bindB_b, Bool.not_true, Bool.not_false, Bool.false_eq_true, if_false, bindS_b, nilS_eq, seq_next, hc, List.isEmpty_nil, forS_eq, hz, run_ok, hr, seq_ret, Bool.and_false]

abbrev chD (os : List (List Int)) : PyData := .list (os.map tupD)
theorem getD_mem2 {os : List (List Int)} {p : Nat} (h : p < os.length) : os.getD p [] ∈ os := by
  rw [List.getD_eq_getElem?_getD, List.getElem?_eq_getElem h]
  exact List.getElem_mem h
theorem up_cnt {n : Nat} (h1 : 1 ≤ n) (h6 : n ≤ 6) {a b : List Int} (ha : Od n a) (hb : b ∈ stepsUp a) : cnt b = cnt a + 1 := by
  rw [← up_law h1 h6 ha] at hb
  obtain ⟨p, hp, h2⟩ := List.mem_flatMap.mp ((isortT_perm _).mem_iff.mp hb)
  unfold upAt at h2
  obtain ⟨k, hk, e⟩ := List.mem_filterMap.mp h2
  split at e
  · rename_i hi
    cases e
    rw [invs_len, invs_len] at hi
    omega
  · cases e
theorem stepsOk_iff : ∀ {os : List (List Int)}, stepsOk os = true ↔ ∀ i, i + 1 < os.length → os.getD (i + 1) [] ∈ stepsUp (os.getD i [])
  | [] => ⟨fun _ i h => by simp at h, fun _ => rfl⟩
  | [a] => ⟨fun _ i h => by simp at h, fun _ => rfl⟩
  | a :: b :: os => by
    show ((stepsUp a).contains b && stepsOk (b :: os)) = true ↔ _
    rw [Bool.and_eq_true, stepsOk_iff, List.contains_iff_mem]
    constructor
    · rintro ⟨h1, h2⟩ i hi
      cases i with
      | zero => exact h1
      | succ i => exact h2 i (by simpa using hi)
    · intro h
      exact ⟨h 0 (by simp), fun i hi => h (i + 1) (by simpa using hi)⟩
structure Ch (n : Nat) (os : List (List Int)) : Prop where
  pos : 0 < os.length
  od : ∀ o ∈ os, Od n o
  st : stepsOk os = true
theorem Ch.at {n : Nat} {os : List (List Int)} (h : Ch n os) {p : Nat} (hp : p < os.length) : Od n (os.getD p []) := h.od _ (getD_mem2 hp)
theorem Ch.step {n : Nat} {os : List (List Int)} (h : Ch n os) {p : Nat} (hp : p + 1 < os.length) : os.getD (p + 1) [] ∈ stepsUp (os.getD p []) := stepsOk_iff.mp h.st p hp
theorem Ch.cnt {n : Nat} {os : List (List Int)} (h1 : 1 ≤ n) (h6 : n ≤ 6) (h : Ch n os) : ∀ {p : Nat}, p < os.length → cnt (os.getD p []) = cnt (os.getD 0 []) + p
  | 0, _ => rfl
  | p + 1, hp => by
    rw [up_cnt h1 h6 (h.at (by omega)) (h.step hp), Ch.cnt h1 h6 h (p := p) (by omega)]
    omega
theorem up_perm (o : List Int) : (stepsUp o).Perm (steps0 o) := isortT_perm _
theorem lawUp_len {n : Nat} (h1 : 1 ≤ n) (h6 : n ≤ 6) {o : List Int} (h : Od n o) : (stepsUp o).length < 64 := by
  rw [(up_perm o).length_eq]
  exact steps0_len o (by rw [h.len]; omega)
theorem chain_snoc {n : Nat} {os : List (List Int)} (h : Ch n os) {t : List Int} (ht : t ∈ stepsUp (os.getD (os.length - 1) [])) : Ch n (os ++ [t]) := by
  refine ⟨by rw [List.length_append]; exact Nat.lt_of_lt_of_le h.pos (Nat.le_add_right _ _), fun o ho => ?_, ?_⟩
  · rcases List.mem_append.mp ho with z | z
    · exact h.od o z
    · have : o = t := by simpa using z
      rw [this]
      exact steps_od (h.at (p := os.length - 1) (by have := h.pos; omega)) t ht
  · rw [stepsOk_iff]
    intro i hi
    rw [List.length_append, List.length_cons, List.length_nil] at hi
    have hp := h.pos
    by_cases c : i + 1 < os.length
    · rw [List.getD_eq_getElem?_getD, List.getD_eq_getElem?_getD, List.getElem?_append_left c, List.getElem?_append_left (by omega), ← List.getD_eq_getElem?_getD, ← List.getD_eq_getElem?_getD]
      exact h.step c
    · have e : i + 1 = os.length := by omega
      have e2 : i = os.length - 1 := by omega
      rw [List.getD_eq_getElem?_getD (i := i + 1), List.getElem?_append_right (by omega), e, Nat.sub_self, List.getD_eq_getElem?_getD, List.getElem?_append_left (by omega), ← List.getD_eq_getElem?_getD, e2]
      exact ht

/-! ### steps are different; between two orders two steps apart lie exactly two -/
theorem swp_inj {o : List Int} (h : o.Nodup) {p q p2 q2 : Nat} (hp : p < q) (hq : q < o.length) (hp2 : p2 < q2) (hq2 : q2 < o.length) (e : swp o p q = swp o p2 q2) : p = p2 ∧ q = q2 := by
  have key : ∀ i, (if i = q then o.getD p 0 else if i = p then o.getD q 0 else o.getD i 0) = (if i = q2 then o.getD p2 0 else if i = p2 then o.getD q2 0 else o.getD i 0) := fun i => by
    rw [← swp_get (by omega) hq, ← swp_get (by omega) hq2, e]
  have kq := key q
  rw [if_pos rfl] at kq
  have kp := key p
  rw [if_neg (by omega), if_pos rfl] at kp
  have hp1 : p < o.length := by omega
  have hp3 : p2 < o.length := by omega
  have a1 : q = q2 ∨ q = p2 := by
    by_cases c1 : q = q2
    · exact .inl c1
    · rw [if_neg c1] at kq
      by_cases c2 : q = p2
      · exact .inr c2
      · rw [if_neg c2] at kq
        have := nodup_get h hp1 hq kq
        omega
  have a2 : p = q2 ∨ p = p2 := by
    by_cases c1 : p = q2
    · exact .inl c1
    · rw [if_neg c1] at kp
      by_cases c2 : p = p2
      · exact .inr c2
      · rw [if_neg c2] at kp
        have := nodup_get h hq hp1 kp
        omega
  omega
theorem stAt_mem {o : List Int} {p : Nat} {t : List Int} (h : t ∈ stAt o p) : ∃ q, p < q ∧ q < o.length ∧ upOk o p q = true ∧ t = swp o p q := by
  unfold stAt at h
  obtain ⟨k, hk, e⟩ := List.mem_filterMap.mp h
  have := List.mem_range.mp hk
  split at e
  · rename_i hu
    cases e
    exact ⟨p + 1 + k, by omega, by omega, hu, rfl⟩
  · cases e
theorem steps0_nodup {o : List Int} (h : o.Nodup) : (steps0 o).Nodup := by
  unfold steps0 List.Nodup
  rw [List.pairwise_flatMap]
  refine ⟨fun p hp => ?_, ?_⟩
  · unfold stAt
    rw [List.pairwise_filterMap]
    refine List.Pairwise.imp_of_mem (fun {a b} ha hb (ne : a ≠ b) x ex y ey exy => ?_) List.nodup_range
    have := List.mem_range.mp ha
    have := List.mem_range.mp hb
    split at ex
    · split at ey
      · cases ex
        cases ey
        have := swp_inj h (by omega) (by omega) (by omega) (by omega) exy
        omega
      · cases ey
    · cases ex
  · refine List.Pairwise.imp_of_mem (fun {a b} ha hb (ne : a ≠ b) x hx y hy exy => ?_) List.nodup_range
    obtain ⟨q, h1, h2, _, rfl⟩ := stAt_mem hx
    obtain ⟨q2, h3, h4, _, rfl⟩ := stAt_mem hy
    exact ne (swp_inj h h1 h2 h3 h4 exy).1
theorem cntN_count (z : Nat) : ∀ l : List Nat, cntN z l = l.count z
  | [] => rfl
  | x :: l => by
    unfold cntN
    rw [List.count_cons, cntN_count z l]
    by_cases e : x = z
    · subst e
      simp
    · have : (x == z) = false := by simpa using e
      rw [this]
      have : Nat.beq x z = false := by
        cases h : Nat.beq x z
        · rfl
        · exact absurd (Nat.eq_of_beq_eq_true h) e
      rw [this]
      simp
theorem count_code {n : Nat} (hn : n ≤ 8) {c : List Int} (hc : Od n c) : ∀ {l : List (List Int)}, (∀ t ∈ l, Od n t) → l.Nodup → (l.map codeN).count (codeN c) = if l.contains c then 1 else 0
  | [], _, _ => rfl
  | x :: l, h, nd => by
    obtain ⟨n1, n2⟩ := List.nodup_cons.mp nd
    rw [List.map_cons, List.count_cons, count_code hn hc (fun t ht => h t (List.mem_cons_of_mem _ ht)) n2, List.contains_cons]
    by_cases e : x = c
    · subst e
      have : l.contains x = false := by rw [Bool.eq_false_iff, Ne, List.contains_iff_mem]; exact n1
      simp [this, n1]
    · have e2 : (codeN x == codeN c) = false := by
        rw [Bool.eq_false_iff, Ne, beq_iff_eq]
        exact fun z => e (codeN_inj (h x List.mem_cons_self) hc hn z)
      have e3 : (c == x) = false := by rw [Bool.eq_false_iff, Ne, beq_iff_eq]; exact fun z => e z.symm
      rw [e2, e3, Bool.false_or]
      simp
theorem sum_ind {α : Type} {p : α → Bool} : ∀ l : List α, (l.map fun y => if p y = true then 1 else 0).sum = (l.filter p).length
  | [] => rfl
  | x :: l => by
    rw [List.map_cons, List.sum_cons, sum_ind l, List.filter_cons]
    split <;> simp <;> omega
theorem steps0_od {n : Nat} {o : List Int} (h : Od n o) : ∀ t ∈ steps0 o, Od n t := fun t ht => steps_od h t ((isortT_perm _).mem_iff.mpr ht)
theorem up_nodup {n : Nat} {o : List Int} (h : Od n o) : (stepsUp o).Nodup := (up_perm o).nodup_iff.mpr (steps0_nodup h.nodup)
def fit (a c : List Int) : List (List Int) := (stepsUp a).filter fun y => (stepsUp y).contains c
theorem up_contains (y c : List Int) : (stepsUp y).contains c = (steps0 y).contains c := by
  rw [Bool.eq_iff_iff, List.contains_iff_mem, List.contains_iff_mem]
  exact (up_perm y).mem_iff
theorem fit_two {n : Nat} (h1 : 1 ≤ n) (h6 : n ≤ 6) {a b c : List Int} (ha : Od n a) (hb : b ∈ stepsUp a) (hc : c ∈ stepsUp b) : (fit a c).length = 2 := by
  have hd := dia_all h1 h6 (od_ords.mpr ha)
  unfold dia at hd
  rw [List.all_eq_true] at hd
  have hb0 := (up_perm a).mem_iff.mp hb
  have hc0 := (up_perm b).mem_iff.mp hc
  have hoc : Od n c := steps_od (steps_od ha b hb) c hc
  have h2 := hd (codeN c) (List.mem_flatMap.mpr ⟨b, hb0, List.mem_map.mpr ⟨c, hc0, rfl⟩⟩)
  have h3 : cntN (codeN c) ((steps0 a).flatMap fun y => (steps0 y).map codeN) = 2 := Nat.eq_of_beq_eq_true h2
  rw [cntN_count, List.count_flatMap] at h3
  have e : (steps0 a).map (List.count (codeN c) ∘ fun y => (steps0 y).map codeN) = (steps0 a).map fun y => if (steps0 y).contains c = true then 1 else 0 := by
    apply List.map_congr_left
    intro y hy
    have hy2 := steps0_od ha y hy
    exact count_code (by omega) hoc (steps0_od hy2) (steps0_nodup hy2.nodup)
  rw [e, sum_ind] at h3
  unfold fit
  have e2 : (fun y => (stepsUp y).contains c) = fun y => (steps0 y).contains c := funext fun y => up_contains y c
  rw [e2, ((up_perm a).filter _).length_eq]
  exact h3
/-- two elements, one of them b: the other one -/
theorem two_other {l : List (List Int)} (h : l.length = 2) (nd : l.Nodup) {b : List Int} (hb : b ∈ l) : ∃ d, d ≠ b ∧ l.filter (fun y => !decide (y = b)) = [d] ∧ d ∈ l ∧ l.filter (fun y => !decide (y = d)) = [b] := by
  match l, h with
  | [x, y], _ =>
    have ne : x ≠ y := by
      have := List.nodup_cons.mp nd
      simpa using this.1
    have : b = x ∨ b = y := by simpa using hb
    rcases this with e | e
    · subst e
      exact ⟨y, Ne.symm ne, by simp [Ne.symm ne], by simp, by simp [ne]⟩
    · subst e
      exact ⟨x, ne, by simp [ne], by simp, by simp [Ne.symm ne]⟩

/-! ### change_at -/
abbrev othersOf (os : List (List Int)) (p : Nat) : List (List Int) := (fit (os.getD (p - 1) []) (os.getD (p + 1) [])).filter fun y => !decide (y = os.getD p [])
def changed (os : List (List Int)) (p : Nat) : List (List Int) := os.take p ++ (othersOf os p).take 1 ++ os.drop (p + 1)
theorem ca_fit {n : Nat} {os : List (List Int)} {p : Nat} (h1 : 1 ≤ n) (h6 : n ≤ 6) (h : ∀ o ∈ os, Od n o) (hp1 : 1 ≤ p) (hp2 : p + 1 < os.length) {x y z : Option Sl} :
    C1_change_at [some (.dat (chD os)), some (.dat (.int (p : Nat))), x, y, z] = .ok (chD (fit (os.getD (p - 1) []) (os.getD (p + 1) []))) .new := by
  unfold C1_change_at
  rw [compE_eq]
  have e1 := atI_map (f := tupD) (xs := os) (p := p - 1) (z := []) (by omega)
  have e2 := atI_map (f := tupD) (xs := os) (p := p + 1) (z := []) (by omega)
  have ea : (p : Int) - 1 = ((p - 1 : Nat) : Int) := by omega
  have eb : (p : Int) + 1 = ((p + 1 : Nat) : Int) := by omega
  have ho := h _ (getD_mem2 (show p - 1 < os.length by omega))
  have hs := steps_up_ok (ho.sm (by omega)) h1 (by omega)
  have hi : (compiL (callE m_steps_up (consA (op2 gIx (varE 0) (op2 (gInt iSub) (varE 1) (cE (.int 1)))) nilA))) [some (.dat (chD os)), some (.dat (.int (p : Nat))), x, y, z] = .ok ((stepsUp (os.getD (p - 1) [])).map tupD) := by
    simp only [compiL_eq, callE_eq, consA_eq, op2_eq, varE_eq, List.getElem?_cons_zero, List.getElem?_cons_succ, varO_d, bind_ok, cE_eq, gInt_eq, iSub_eq, optE_some, gIx_l, ea, e1, hard_frz, bindA_ok, nilA_eq, abind_ok, abindE_ok, hs, toE_ok, compiLK_l]
  rw [hi]
  have hl : (stepsUp (os.getD (p - 1) [])).length ≤ big := by
    have := steps0_len (os.getD (p - 1) []) (by rw [ho.len]; omega)
    rw [(up_perm _).length_eq]
    unfold big
    omega
  rw [comp_fm (enc := tupD) (p := fun o => (stepsUp o).contains (os.getD (p + 1) [])) (g := tupD) hl fun o hoo => by
    have hst := is_step_ok (b := os.getD (p + 1) []) ((steps_od ho o hoo).sm (by omega)) h1 (by omega)
    simp only [stepC_eq, toN_eq, wipeG_cons, wipeG_nil, List.set_cons_zero, List.set_cons_succ, tgtK_s, truthB_eq, callE_eq, consA_eq, op2_eq, varE_eq, List.getElem?_cons_zero, List.getElem?_cons_succ, varO_d, bind_ok, cE_eq, gAdd_i, gIx_l, eb, e2, optE_some, hard_frz, bindA_ok, nilA_eq, abind_ok, abindE_ok, hst, toE_ok, bindB_ok, truthO_b, tstK_b, eltK_ok]
    split <;> rfl]
  rfl
theorem ca_oth {os fs : List (List Int)} {p : Nat} (hp2 : p < os.length) (hl : fs.length ≤ big) {y z : Option Sl} :
    C2_change_at [some (.dat (chD os)), some (.dat (.int (p : Nat))), some (.own (fs.map tupD)), y, z] = .ok (chD (fs.filter fun y => !decide (y = os.getD p []))) .new := by
  unfold C2_change_at
  rw [compE_eq]
  have e1 := atI_map (f := tupD) (xs := os) (p := p) (z := []) hp2
  have hi : (compiL (varE 2)) [some (.dat (chD os)), some (.dat (.int (p : Nat))), some (.own (fs.map tupD)), y, z] = .ok (fs.map tupD) := rfl
  rw [hi]
  rw [comp_fm (enc := tupD) (p := fun y => !decide (y = os.getD p [])) (g := tupD) hl fun o hoo => by
    simp only [stepC_eq, toN_eq, wipeG_cons, wipeG_nil, List.set_cons_zero, List.set_cons_succ, tgtK_s, boolB_eq, op2_eq, varE_eq, List.getElem?_cons_zero, List.getElem?_cons_succ, varO_d, bind_ok, gIx_l, e1, optE_some, gNe_tup, bindB_ok, boolO_b, tstK_b, hard_frz, eltK_ok]
    split <;> rfl]
theorem fit_len {n : Nat} {a c : List Int} (h6 : n ≤ 6) (ha : Od n a) : (fit a c).length < 64 := by
  have := steps0_len a (by rw [ha.len]; omega)
  unfold fit
  refine Nat.lt_of_le_of_lt (List.length_filter_le _ _) ?_
  rw [(up_perm _).length_eq]
  exact this
theorem change_at_ok {n : Nat} {os : List (List Int)} {p : Nat} (h1 : 1 ≤ n) (h6 : n ≤ 6) (h : ∀ o ∈ os, Od n o) (hs : stepsOk os = true) (hp1 : 1 ≤ p) (hp2 : p + 1 < os.length) (hl : os.length ≤ 1000) :
    m_change_at [chD os, .int (p : Nat)] = .ok (chD (changed os p)) := by
  have hc := is_chain_ok h1 h6 h hl
  have hne : os.isEmpty = false := by
    cases os with
    | nil => simp at hp2
    | cons _ _ => rfl
  rw [hne, hs] at hc
  have hr := in_range_ok (d := .int (p : Nat)) (lo := 1) (hi := (os.length : Int) - 2) (fun _ e => nomatch e)
  have hin : inR 1 ((os.length : Int) - 2) (.int (p : Nat)) = true := by
    show (decide ((1 : Int) ≤ (p : Nat)) && decide (((p : Nat) : Int) ≤ (os.length : Int) - 2)) = true
    rw [Bool.and_eq_true, decide_eq_true_eq, decide_eq_true_eq]
    omega
  rw [hin] at hr
  have hf := ca_fit h1 h6 h hp1 hp2 (x := none) (y := none) (z := none)
  have hfl := fit_len h6 (h _ (getD_mem2 (show p - 1 < os.length by omega))) (c := os.getD (p + 1) [])
  have ho := ca_oth (os := os) (fs := fit (os.getD (p - 1) []) (os.getD (p + 1) [])) (p := p) (by omega) (by unfold big; omega) (y := none) (z := none)
  have eb : (p : Int) + 1 = ((p + 1 : Nat) : Int) := by omega
  have e1 : (1 : Int) = ((1 : Nat) : Int) := rfl
  have hol : (othersOf os p).length ≤ 64 := Nat.le_trans (List.length_filter_le _ _) (Nat.le_of_lt hfl)
  refine defM_ret rfl ?_
  simp only [b_change_at, startG, List.map_cons, List.map_nil, List.length_cons, List.length_nil, Nat.reduceAdd, Nat.reduceSub, List.replicate, List.cons_append, List.nil_append, seqS_eq, ifS_eq, notB_eq, truthB_eq, callE_eq, consA_eq, varE_eq, List.getElem?_cons_zero, varO_d, hard_frz, bindA_ok, nilA_eq, abind_ok, abindE_ok, hc, toE_ok, bindB_ok, truthO_b, bindB_b, Bool.not_false, Bool.true_and, Bool.not_true, bindS_b, Bool.false_eq_true, if_false, nilS_eq, seq_next, List.getElem?_cons_succ, cE_eq, op2_eq, op1_eq, bind_ok, gLen_l, List.length_map, gInt_eq, iSub_eq, optE_some, hr, asgS_eq, hf, bindS_ok, asgK_new, List.set_cons_zero, List.set_cons_succ, ho, retS_eq, slE_eq, partN_eq, partS_eq, partK_i, slK_s, gSl_l, varO_o, gAdd_i, eb]
  rw [cut_toN, cut_fromN]
  have e2 : cutD ((othersOf os p).map tupD) none (some 1) = ((othersOf os p).take 1).map tupD := cut_toN (p := 1)
  rw [e2]
  have b1 : ((os.take p).map tupD).length + (((othersOf os p).take 1).map tupD).length ≤ big := by
    rw [List.length_map, List.length_map, List.length_take, List.length_take]
    unfold big
    omega
  have b2 : (((os.take p).map tupD) ++ (((othersOf os p).take 1).map tupD)).length + ((os.drop (p + 1)).map tupD).length ≤ big := by
    rw [List.length_append, List.length_map, List.length_map, List.length_map, List.length_take, List.length_take, List.length_drop]
    unfold big
    omega
  simp only [gAdd_l, if_pos b1, bind_ok, if_pos b2, bindS_ok, retK_new]
  unfold changed chD
  rw [List.map_append, List.map_append]

/-! ### chains as such -/
theorem getD_set {os : List (List Int)} {p i : Nat} {d : List Int} (hp : p < os.length) : (os.set p d).getD i [] = if i = p then d else os.getD i [] := by
  rw [List.getD_eq_getElem?_getD, List.getElem?_set]
  by_cases e : p = i
  · rw [if_pos e, if_pos hp, if_pos e.symm]
    rfl
  · rw [if_neg e, if_neg fun z => e z.symm, List.getD_eq_getElem?_getD]
/-- a change: the other one is put in, and leads back -/
theorem change_facts {n : Nat} (h1 : 1 ≤ n) (h6 : n ≤ 6) {os : List (List Int)} (h : Ch n os) {p : Nat} (hp1 : 1 ≤ p) (hp2 : p + 1 < os.length) :
    (fit (os.getD (p - 1) []) (os.getD (p + 1) [])).length = 2 ∧ ∃ d, othersOf os p = [d] ∧ changed os p = os.set p d ∧ Ch n (os.set p d) ∧ changed (os.set p d) p = os := by
  have ha := h.at (show p - 1 < os.length by omega)
  have hab : os.getD p [] ∈ stepsUp (os.getD (p - 1) []) := by
    have := h.step (p := p - 1) (by omega)
    rwa [show p - 1 + 1 = p by omega] at this
  have hbc := h.step hp2
  have h2 := fit_two h1 h6 ha hab hbc
  have nd : (fit (os.getD (p - 1) []) (os.getD (p + 1) [])).Nodup := (up_nodup ha).filter _
  have hb : os.getD p [] ∈ fit (os.getD (p - 1) []) (os.getD (p + 1) []) := List.mem_filter.mpr ⟨hab, List.contains_iff_mem.mpr hbc⟩
  obtain ⟨d, hdb, hd1, hd2, hd3⟩ := two_other h2 nd hb
  obtain ⟨hd4, hd5⟩ := List.mem_filter.mp hd2
  have hd5 := List.contains_iff_mem.mp hd5
  have hset : changed os p = os.set p d := by
    unfold changed othersOf
    rw [hd1, List.set_eq_take_append_cons_drop, if_pos (by omega)]
    simp
  refine ⟨h2, d, hd1, hset, ⟨by rw [List.length_set]; omega, fun o ho => ?_, ?_⟩, ?_⟩
  · rcases List.mem_or_eq_of_mem_set ho with z | z
    · exact h.od o z
    · rw [z]; exact steps_od ha d hd4
  · rw [stepsOk_iff]
    intro i hi
    rw [List.length_set] at hi
    rw [getD_set (by omega), getD_set (by omega)]
    by_cases c1 : i + 1 = p
    · rw [if_pos c1, if_neg (by omega), show i = p - 1 by omega]
      exact hd4
    · rw [if_neg c1]
      by_cases c2 : i = p
      · rw [if_pos c2, c2]; exact hd5
      · rw [if_neg c2]; exact h.step hi
  · unfold changed othersOf
    have g1 : (os.set p d).getD (p - 1) [] = os.getD (p - 1) [] := by rw [getD_set (by omega), if_neg (by omega)]
    have g2 : (os.set p d).getD (p + 1) [] = os.getD (p + 1) [] := by rw [getD_set (by omega), if_neg (by omega)]
    have g3 : (os.set p d).getD p [] = d := by rw [getD_set (by omega), if_pos rfl]
    rw [g1, g2, g3, hd3]
    rw [List.take_of_length_le (l := [os.getD p []]) (by simp)]
    apply List.ext_getElem?
    intro i
    rw [List.append_assoc, List.getElem?_append, List.length_take, List.length_set, Nat.min_eq_left (by omega)]
    by_cases c1 : i < p
    · rw [if_pos c1, List.getElem?_take_of_lt c1, List.getElem?_set_ne (by omega)]
    · rw [if_neg c1]
      by_cases c2 : i = p
      · subst c2
        rw [Nat.sub_self, List.getD_eq_getElem?_getD, List.getElem?_eq_getElem (show i < os.length by omega)]
        rfl
      · rw [List.getElem?_append_right (by simp; omega), List.getElem?_drop, List.getElem?_set_ne (by simp; omega)]
        congr 1
        simp
        omega
/-! ### what is no chain -/
theorem is_order_none : m_is_order [.none] = .ok (.bool false) := by
  refine defM_ret rfl ?_
  simp [b_is_order, startG, gIsi, tyOf, subTy]
theorem ic_bad {os : List (List Int)} (h : ∀ o ∈ os, isOrdB o = true) (hl : os.length ≤ 100) : m_is_chain [.list (os.map tupD ++ [.none])] = .ok (.bool false) := by
  refine defM_ret rfl ?_
  have hc : C1_is_chain (startG 3 [.list (os.map tupD ++ [.none])]) = .ok (.list [.none]) .new := by
    unfold C1_is_chain
    rw [compE_eq]
    have hi : (compiL (varE 0)) (startG 3 [.list (os.map tupD ++ [.none])]) = .ok (os.map tupD ++ [.none]) := rfl
    rw [hi, run_comp (f := fun d => match d with
      | .none => some .none
      | _ => none) (by rw [List.length_append, List.length_map]; unfold big; simp; omega) fun d hd => by
        rcases List.mem_append.mp hd with z | z
        · obtain ⟨o, ho, rfl⟩ := List.mem_map.mp z
          have ho2 := h o ho
          have := is_order_ok (o := o) (by
            unfold isOrdB at ho2
            rw [Bool.and_eq_true, Bool.and_eq_true, Bool.and_eq_true, decide_eq_true_eq, decide_eq_true_eq] at ho2
            omega)
          rw [ho2] at this
          simp [startG, this]
          rfl
        · have : d = .none := by simpa using z
          subst this
          simp [startG, is_order_none]]
    refine congrArg (fun l => EO.ok (.list l) .new) ?_
    rw [List.filterMap_append, List.filterMap_eq_nil_iff.mpr]
    · rfl
    · intro d hd
      obtain ⟨o, ho, rfl⟩ := List.mem_map.mp hd
      rfl
  have e : startG 3 [.list (os.map tupD ++ [.none])] = [some (.dat (.list (os.map tupD ++ [.none]))), none, none] := rfl
  rw [e] at hc ⊢
  simp [b_is_chain, hc, gIsi, tyOf, subTy]
theorem ic_none : m_is_chain [.none] = .ok (.bool false) := by
  refine defM_ret rfl ?_
  simp [b_is_chain, startG, gIsi, tyOf, subTy]
theorem ic_tup {ds : List PyData} : m_is_chain [.tuple ds] = .ok (.bool false) := by
  refine defM_ret rfl ?_
  simp [b_is_chain, startG, gIsi, tyOf, subTy]
theorem ic_nil : m_is_chain [.list []] = .ok (.bool false) := by
  refine defM_ret rfl ?_
  simp [b_is_chain, startG, gIsi, tyOf, subTy]
/-! ### what raises -/
theorem ca_exc {d e : PyData} (h : m_is_chain [d] = .ok (.bool false)) : m_change_at [d, e] = .exc 4 none := by
  refine defM_exc rfl (G := startG 5 [d, e]) ?_
  simp [b_change_at, startG, h]
theorem cr_exc {c d : PyData} (h1 : m_is_chain [c] = .ok (.bool true)) (h : m_is_chain [d] = .ok (.bool false)) : m_chain_road [c, d] = .exc 4 none := by
  refine defM_exc rfl (G := (startG 8 [c, d]).set 2 (some (.dat d))) ?_
  have hb : 2 ≤ big := by decide
  simp [b_chain_road, startG, forL, L1_chain_road, h, h1, hb]
theorem ca_place {n : Nat} {os : List (List Int)} (h1 : 1 ≤ n) (h6 : n ≤ 6) (h : Ch n os) (hl : os.length ≤ 1000) {d : PyData} (hd : ∀ kvs, d ≠ .dict kvs) (hr : inR 1 ((os.length : Int) - 2) d = false) : m_change_at [chD os, d] = .exc 4 none := by
  have hc := is_chain_ok h1 h6 h.od hl
  have hne : os.isEmpty = false := by
    have := h.pos
    cases os with
    | nil => simp at this
    | cons _ _ => rfl
  rw [hne, h.st] at hc
  have hr2 := in_range_ok (d := d) (lo := 1) (hi := (os.length : Int) - 2) hd
  rw [hr] at hr2
  refine defM_exc rfl (G := startG 5 [chD os, d]) ?_
  simp [b_change_at, startG, hc, hr2]
theorem changed_exc0 {a b : PyData} (h : m_change_at [a, b] = .exc 4 none) : m__law_changed [.int 0, a, b] = .ok (.str "chain") := by
  refine defM_ret rfl ?_
  show tryK 3 [(4, "chain"), (10, "many")] (T1__law_changed (startG 4 [.int 0, a, b])) = _
  have : T1__law_changed (startG 4 [.int 0, a, b]) = .exc 4 none (startG 4 [.int 0, a, b]) := by simp [T1__law_changed, startG, h]
  rw [this]
  rfl
theorem changed_exc1 {a b : PyData} (h : m_chain_road [a, b] = .exc 4 none) : m__law_changed [.int 1, a, b] = .ok (.str "chain") := by
  refine defM_ret rfl ?_
  show tryK 3 [(4, "chain"), (10, "many")] (T1__law_changed (startG 4 [.int 1, a, b])) = _
  have : T1__law_changed (startG 4 [.int 1, a, b]) = .exc 4 none (startG 4 [.int 1, a, b]) := by simp [T1__law_changed, startG, h]
  rw [this]
  rfl

/-! ### the law's chain -/
theorem lc_turn {n : Nat} (h1 : 1 ≤ n) (h6 : n ≤ 6) {os : List (List Int)} (h : Ch n os) (hl : os.length ≤ 100) {ds : List Int} (hd : Draws ds) {t : Nat} (ht : t < 7) {s a z w y : Option Sl} :
    ∃ os2 y2, Ch n os2 ∧ os2.length ≤ os.length + 1 ∧ L1__law_chain [s, a, z, w, some (.dat (.list (ds.map PyData.int))), some (.own (os.map tupD)), some (.dat (.int (t : Nat))), y] =
      .next [s, a, z, w, some (.dat (.list (ds.map PyData.int))), some (.own (os2.map tupD)), some (.dat (.int (t : Nat))), y2] := by
  have hp := h.pos
  have ho := h.at (p := os.length - 1) (by omega)
  have hu := law_up_ok (ho.sm (by omega)) h1 (by omega)
  rw [up_law h1 h6 ho] at hu
  have e1 := atI_last (f := tupD) (xs := os) (z := []) hp
  obtain ⟨v, v0, v1, e2⟩ := draw_at hd (i := 31 + (t : Nat)) (by omega) (by omega)
  have hn := gNe_tups (a := stepsUp (os.getD (os.length - 1) [])) (b := [])
  rw [List.map_nil] at hn
  have hb : os.length + 1 ≤ big := by unfold big; omega
  by_cases c : stepsUp (os.getD (os.length - 1) []) = []
  · refine ⟨os, some (.dat (.list [])), h, by omega, ?_⟩
    rw [c] at hu hn
    rw [List.map_nil] at hn
    have hb0 : 0 ≤ big := by decide
    have hb1 : os.length ≤ big := by omega
    simp only [L1__law_chain, seqS_eq, asgS_eq, callE_eq, consA_eq, op2_eq, varE_eq, List.getElem?_cons_zero, List.getElem?_cons_succ, varO_o, varO_d, cE_eq, bind_ok, gIx_l, e1, optE_some, hard_frz, bindA_ok, nilA_eq, abind_ok, abindE_ok, hu, toE_ok, bindS_ok, asgK_frz, List.set_cons_succ, List.set_cons_zero, seq_next, ifE_eq, boolB_eq, lstE_eq, List.length_nil, hb0, if_true, List.map_nil, hn, bindB_ok, boolO_b, bindE_b, decide_true, Bool.not_true, Bool.false_eq_true, if_false, gAdd_l, List.length_map, Nat.add_zero, hb1, List.append_nil, asgK_new]
  · have hpos : 0 < (stepsUp (os.getD (os.length - 1) [])).length := List.length_pos_iff.mpr c
    have hm : iMod v ((stepsUp (os.getD (os.length - 1) [])).length : Int) = some (.int (v % ((stepsUp (os.getD (os.length - 1) [])).length : Int))) := iMod_pos (by omega)
    obtain ⟨t2, ht2, e3⟩ := at_map (f := tupD) (xs := stepsUp (os.getD (os.length - 1) [])) (i := v % ((stepsUp (os.getD (os.length - 1) [])).length : Int)) (Int.emod_nonneg _ (by omega)) (Int.emod_lt_of_pos _ (by omega))
    refine ⟨os ++ [t2], some (.dat (chD (stepsUp (os.getD (os.length - 1) [])))), chain_snoc h ht2, by simp, ?_⟩
    have hb1 : 1 ≤ big := by decide
    have cd : decide (stepsUp (os.getD (os.length - 1) []) = []) = false := decide_eq_false c
    have hb0 : 0 ≤ big := by decide
    simp only [L1__law_chain, seqS_eq, asgS_eq, callE_eq, consA_eq, op2_eq, op1_eq, varE_eq, List.getElem?_cons_zero, List.getElem?_cons_succ, varO_o, varO_d, cE_eq, bind_ok, gIx_l, e1, optE_some, hard_frz, bindA_ok, nilA_eq, abind_ok, abindE_ok, hu, toE_ok, bindS_ok, asgK_frz, List.set_cons_succ, List.set_cons_zero, seq_next, ifE_eq, boolB_eq, lstE_eq, List.length_nil, List.length_cons, hb0, hb1, Nat.zero_add, if_true, hn, bindB_ok, boolO_b, bindE_b, cd, Bool.not_false, gAdd_i, e2, gLen_l, List.length_map, gInt_eq, hm, e3, gAdd_l, hb, asgK_new, List.map_append, List.map_cons, List.map_nil]
theorem law_chain_ok {ns : List Int} {n : Nat} (h1 : 1 ≤ n) (h6 : n ≤ 6) : ∃ os, Ch n os ∧ os.length ≤ 8 ∧ m__law_chain [scrD ns, .int 2, .int (n : Nat), .int 6] = .ok (chD os) := by
  obtain ⟨ds, hd, hrow⟩ := row_ok (ns := ns) (a := 2) (by decide)
  obtain ⟨o, ho, hord⟩ := order_ok (ns := ns) (a := 2) (n := n) (by decide) (by omega)
  rw [od_ords] at ho
  obtain ⟨v, v0, v1, e30⟩ := draw_at hd (i := 30) (by omega) (by omega)
  have hm : iMod v 7 = some (.int (v % 7)) := iMod_pos (by omega)
  have hv : v % 7 = (((v % 7).toNat : Nat) : Int) := by omega
  have hv7 : (v % 7).toNat < 7 := by omega
  obtain ⟨G2, hG, os, x2, y2, hc, hl, e⟩ := for_inv (tgt := toN 6) (body := L1__law_chain) (ds := rgD 0 (v % 7).toNat) (G := [some (.dat (scrD ns)), some (.dat (.int 2)), some (.dat (.int (n : Nat))), some (.dat (.int 6)), some (.dat (.list (ds.map PyData.int))), some (.own [tupD o]), none, none])
    (fun k G => ∃ (os : List (List Int)) (x y : Option Sl), Ch n os ∧ os.length ≤ k + 1 ∧ G = [some (.dat (scrD ns)), some (.dat (.int 2)), some (.dat (.int (n : Nat))), some (.dat (.int 6)), some (.dat (.list (ds.map PyData.int))), some (.own (os.map tupD)), x, y])
    ⟨[o], none, none, ⟨by simp, fun q hq => by have : q = o := by simpa using hq
                                               rw [this]; exact ho, rfl⟩, by simp, rfl⟩ fun k d G hk ⟨os, x, y, hc, hl, e⟩ => by
      obtain ⟨hk2, rfl⟩ := rgD_get hk
      subst e
      rw [Int.zero_add]
      obtain ⟨os2, y2, hc2, hl2, ht⟩ := lc_turn h1 h6 hc (by omega) hd (t := k) (by omega) (s := some (.dat (scrD ns))) (a := some (.dat (.int 2))) (z := some (.dat (.int (n : Nat)))) (w := some (.dat (.int 6))) (y := y)
      exact ⟨_, _, rfl, ht, os2, _, _, hc2, by omega, rfl⟩
  rw [rgD_len] at hl
  refine ⟨os, hc, by omega, defM_ret rfl ?_⟩
  have r : rg1K (.ok (.int (v % 7)) .frz) = some (rgD 0 (v % 7).toNat) := rg1K_i (by omega)
  have hb1 : 1 ≤ big := by decide
  subst e
  have e6 : (6 : Int) + 1 = 7 := rfl
  simp only [b__law_chain, startG, List.map_cons, List.map_nil, List.length_cons, List.length_nil, Nat.reduceAdd, Nat.reduceSub, List.replicate, List.cons_append, List.nil_append, seqS_eq, asgS_eq, callE_eq, consA_eq, varE_eq, List.getElem?_cons_zero, List.getElem?_cons_succ, varO_d, varO_o, hard_frz, bindA_ok, nilA_eq, abind_ok, abindE_ok, hrow, toE_ok, bindS_ok, asgK_frz, List.set_cons_succ, List.set_cons_zero, seq_next, lstE_eq, hord, hb1, if_true, asgK_new, forS_eq, iterO_eq, rg1_eq, op2_eq, bind_ok, cE_eq, gIx_l, e30, optE_some, gAdd_i, e6, gInt_eq, hm, r, ofO_some, run_ok, hG, retS_eq, retK_own, ownK_o]
/-! ### one turn of the law -/
end Lw

set_option linter.all false
set_option maxRecDepth 1000000
namespace Lw
open PySem L2 VL
/-! ### the law -/
theorem isc_true {n : Nat} {os : List (List Int)} (h1 : 1 ≤ n) (h6 : n ≤ 6) (h : Ch n os) (hl : os.length ≤ 100) : m_is_chain [chD os] = .ok (.bool true) := by
  have := is_chain_ok h1 h6 h.od (by omega)
  rw [h.st] at this
  have hne : os.isEmpty = false := by
    have := h.pos
    cases os with
    | nil => simp at this
    | cons _ _ => rfl
  rw [hne] at this
  exact this
theorem isc_false {n : Nat} {os : List (List Int)} (h1 : 1 ≤ n) (h6 : n ≤ 6) (h : ∀ o ∈ os, Od n o) (hl : os.length ≤ 100) (hs : stepsOk os = false) : m_is_chain [chD os] = .ok (.bool false) := by
  have := is_chain_ok h1 h6 h (by omega)
  rw [hs, Bool.and_false] at this
  exact this
/-- a chain and its first order: no chain -/
theorem ring_bad {n : Nat} (h1 : 1 ≤ n) (h6 : n ≤ 6) {os : List (List Int)} (h : Ch n os) : stepsOk (os ++ os.take 1) = false := by
  rw [Bool.eq_false_iff]
  intro hs
  rw [stepsOk_iff] at hs
  have hp := h.pos
  have h2 := hs (os.length - 1) (by rw [List.length_append, List.length_take]; omega)
  rw [show os.length - 1 + 1 = os.length by omega] at h2
  have e1 : (os ++ os.take 1).getD os.length [] = os.getD 0 [] := by
    rw [List.getD_eq_getElem?_getD, List.getElem?_append_right (Nat.le_refl _), Nat.sub_self, List.getElem?_take_of_lt (by omega), List.getD_eq_getElem?_getD]
  have e2 : (os ++ os.take 1).getD (os.length - 1) [] = os.getD (os.length - 1) [] := by
    rw [List.getD_eq_getElem?_getD, List.getElem?_append_left (by omega), List.getD_eq_getElem?_getD]
  rw [e1, e2] at h2
  have c1 := up_cnt h1 h6 (h.at (p := os.length - 1) (by omega)) h2
  have c2 := h.cnt h1 h6 (p := os.length - 1) (by omega)
  omega
/-- a chain without its second order: no chain -/
theorem gap_bad {n : Nat} (h1 : 1 ≤ n) (h6 : n ≤ 6) {os : List (List Int)} (h : Ch n os) (hl : 2 < os.length) : stepsOk (os.take 1 ++ os.drop 2) = false := by
  rw [Bool.eq_false_iff]
  intro hs
  rw [stepsOk_iff] at hs
  have ht : (os.take 1).length = 1 := by rw [List.length_take]; omega
  have h2 := hs 0 (by rw [List.length_append, ht, List.length_drop]; omega)
  have e1 : (os.take 1 ++ os.drop 2).getD (0 + 1) [] = os.getD 2 [] := by
    rw [List.getD_eq_getElem?_getD, List.getElem?_append_right (by omega), ht, List.getElem?_drop, List.getD_eq_getElem?_getD]
  have e2 : (os.take 1 ++ os.drop 2).getD 0 [] = os.getD 0 [] := by
    rw [List.getD_eq_getElem?_getD, List.getElem?_append_left (by omega), List.getElem?_take_of_lt (by omega), List.getD_eq_getElem?_getD]
  rw [e1, e2] at h2
  have c1 := up_cnt h1 h6 (h.at (p := 0) (by omega)) h2
  have c2 := h.cnt h1 h6 (p := 2) (by omega)
  omega
-- what is between: a set of orders that is closed under the steps that stay below
theorem cnt_le : ∀ o : List Int, cnt o ≤ o.length * o.length
  | [] => Nat.le_refl _
  | a :: o => by
    have h1 := cnt_le o
    have h2 : o.countP (fun v => decide (v < a)) ≤ o.length := List.countP_le_length
    have h3 : (o.length + 1) * (o.length + 1) = o.length * o.length + o.length + o.length + 1 := by
      rw [Nat.add_mul, Nat.mul_add]
      omega
    rw [List.length_cons, h3]
    unfold cnt
    omega
theorem closed_to {n : Nat} (h1 : 1 ≤ n) (h6 : n ≤ 6) {other x : List Int} {F : List (List Int)} (hod : ∀ y ∈ F, Od n y) (cl : ∀ y ∈ F, ∀ c ∈ stepsUp y, bel c other = true → c ∈ F) (hx : Od n x) (hxo : bel x other = true) :
    ∀ (k : Nat) (y : List Int), y ∈ F → bel y x = true → n * n - cnt y ≤ k → x ∈ F
  | k, y, hy, hb, hk => by
    by_cases e : y = x
    · rw [← e]; exact hy
    · have hyo := hod y hy
      obtain ⟨c, hc, hcx⟩ := step_below hyo hx hb e
      have hco := steps_od hyo c hc
      have hcF := cl y hy c hc (bel_trans (hco.len.trans hx.len.symm) hcx hxo)
      have h2 := up_cnt h1 h6 hyo hc
      have h3 := cnt_le c
      rw [hco.len] at h3
      cases k with
      | zero => omega
      | succ k => exact closed_to h1 h6 hod cl hx hxo k c hcF hcx (by omega)

theorem bel_cnt {n : Nat} (h1 : 1 ≤ n) (h6 : n ≤ 6) {x : List Int} (hx : Od n x) : ∀ (k : Nat) (y : List Int), Od n y → bel y x = true → n * n - cnt y ≤ k → y = x ∨ cnt y < cnt x
  | k, y, hy, hb, hk => by
    by_cases e : y = x
    · exact .inl e
    · obtain ⟨c, hc, hcx⟩ := step_below hy hx hb e
      have hco := steps_od hy c hc
      have h2 := up_cnt h1 h6 hy hc
      have h3 := cnt_le c
      rw [hco.len] at h3
      cases k with
      | zero => omega
      | succ k =>
        rcases bel_cnt h1 h6 hx k c hco hcx (by omega) with z | z
        · rw [← z]; exact .inr (by omega)
        · exact .inr (by omega)
theorem bel_lt {n : Nat} (h1 : 1 ≤ n) (h6 : n ≤ 6) {x y : List Int} (hx : Od n x) (hy : Od n y) (h : bel y x = true) : y = x ∨ cnt y < cnt x := bel_cnt h1 h6 hx (n * n) y hy h (by omega)

theorem fm_filter {α β : Type} {c : α → Prop} [DecidablePred c] {f : α → β} : ∀ l : List α, (l.filterMap fun k => if c k then some (f k) else none) = (l.filter fun k => decide (c k)).map f
  | [] => rfl
  | x :: l => by
    rw [List.filterMap_cons, List.filter_cons, fm_filter l]
    by_cases h : c x <;> simp [h]
theorem invs_len49 {o : List Int} (hb : o.length ≤ 7) : (invs o).length ≤ 49 := by
  have := flat_len (invAt_len o) o.length
  have h3 : o.length * o.length ≤ 7 * 7 := Nat.mul_le_mul hb hb
  unfold invs
  omega
theorem enum_map (o : List Int) : enumD (o.map PyData.int) = (List.range o.length).map fun p => PyData.tuple [.int ((p : Nat) : Int), .int (o.getD p 0)] := by
  unfold enumD
  rw [List.length_map]
  apply List.map_congr_left
  intro p hp
  have := List.mem_range.mp hp
  rw [List.getD_eq_getElem?_getD, List.getElem?_map, List.getElem?_eq_getElem this, List.getD_eq_getElem?_getD, List.getElem?_eq_getElem this]
  rfl
/-! ### the facts about exchanges within, by looking at all pairs of orders -/
def gridL (n : Nat) : List (Nat × Nat) := (List.range (n - 1)).flatMap fun i => (List.range (n - 1)).map fun j => (i, j)
def cvL (a : List Int) : List Nat := (gridL a.length).map fun p => greatN a (p.1 + 1) ((p.2 + 1 : Nat) : Int)
/-- digits of four bits -/
def pk : List Nat → Nat
  | [] => 0
  | d :: ds => Nat.add d (Nat.mul 16 (pk ds))
def gd : Nat → Nat
  | 0 => 0
  | k + 1 => Nat.add 8 (Nat.mul 16 (gd k))
def codeG (a : List Int) : Nat := pk (cvL a)
def tst (g x y : Nat) : Bool := Nat.beq (Nat.land (Nat.sub (Nat.add y g) x) g) g

/-! ### the packed test is the comparison -/
theorem land_split {d D e E : Nat} (hd : d < 16) (he : e < 16) : (d + 16 * D) &&& (e + 16 * E) = (d &&& e) + 16 * (D &&& E) := by
  have h1 := Nat.and_mod_two_pow (a := d + 16 * D) (b := e + 16 * E) (n := 4)
  have h2 := Nat.and_div_two_pow (a := d + 16 * D) (b := e + 16 * E) (n := 4)
  have p : (2 : Nat) ^ 4 = 16 := rfl
  rw [p] at h1 h2
  have e1 : (d + 16 * D) % 16 = d := by omega
  have e2 : (e + 16 * E) % 16 = e := by omega
  have e3 : (d + 16 * D) / 16 = D := by omega
  have e4 : (e + 16 * E) / 16 = E := by omega
  rw [e1, e2] at h1
  rw [e3, e4] at h2
  omega
theorem pk_add : ∀ {xs ys : List Nat} {n : Nat}, xs.length = n → ys.length = n → (∀ x ∈ xs, x < 8) → pk ys + gd n = pk xs + pk (List.zipWith (fun x y => y + 8 - x) xs ys)
  | [], [], 0, _, _, _ => rfl
  | x :: xs, y :: ys, n + 1, h1, h2, h => by
    have ih := pk_add (xs := xs) (ys := ys) (n := n) (by simpa using h1) (by simpa using h2) fun z hz => h z (List.mem_cons_of_mem _ hz)
    have hx := h x List.mem_cons_self
    show (y + 16 * pk ys) + (8 + 16 * gd n) = (x + 16 * pk xs) + ((y + 8 - x) + 16 * pk (List.zipWith (fun x y => y + 8 - x) xs ys))
    omega
theorem land_gd : ∀ {ds : List Nat} {n : Nat}, ds.length = n → (∀ d ∈ ds, d < 16) → ((pk ds &&& gd n) = gd n ↔ ∀ d ∈ ds, 8 ≤ d)
  | [], 0, _, _ => ⟨fun _ d hd => by (cases hd), fun _ => rfl⟩
  | d :: ds, n + 1, hl, h => by
    have ih := land_gd (ds := ds) (n := n) (by simpa using hl) fun z hz => h z (List.mem_cons_of_mem _ hz)
    have hd := h d List.mem_cons_self
    show ((d + 16 * pk ds) &&& (8 + 16 * gd n)) = 8 + 16 * gd n ↔ _
    rw [land_split hd (by omega)]
    have key : (d &&& 8) = 8 ↔ 8 ≤ d := by
      have : ∀ d : Fin 16, ((d.val &&& 8) = 8 ↔ 8 ≤ d.val) := by decide
      exact this ⟨d, hd⟩
    have le : (d &&& 8) ≤ 8 := Nat.and_le_right
    constructor
    · intro e z hz
      have : (d &&& 8) = 8 ∧ (pk ds &&& gd n) = gd n := by omega
      rcases List.mem_cons.mp hz with q | q
      · rw [q]; exact key.mp this.1
      · exact ih.mp this.2 z q
    · intro e
      rw [key.mpr (e d List.mem_cons_self), ih.mpr fun z hz => e z (List.mem_cons_of_mem _ hz)]
theorem tst_map {α : Type} {L : List α} {f g : α → Nat} (hf : ∀ a ∈ L, f a < 8) (hg : ∀ a ∈ L, g a < 8) : tst (gd L.length) (pk (L.map f)) (pk (L.map g)) = L.all fun a => decide (f a ≤ g a) := by
  unfold tst
  have h1 := pk_add (xs := L.map f) (ys := L.map g) (n := L.length) (by simp) (by simp) fun x hx => by
    obtain ⟨a, ha, rfl⟩ := List.mem_map.mp hx
    exact hf a ha
  have e : List.zipWith (fun x y => y + 8 - x) (L.map f) (L.map g) = L.map fun a => g a + 8 - f a := by
    rw [List.zipWith_map, List.zipWith_self]
  rw [e] at h1
  have e2 : Nat.sub (Nat.add (pk (L.map g)) (gd L.length)) (pk (L.map f)) = pk (L.map fun a => g a + 8 - f a) := by
    show (pk (L.map g) + gd L.length) - pk (L.map f) = _
    omega
  rw [e2]
  have h2 := land_gd (ds := L.map fun a => g a + 8 - f a) (n := L.length) (by simp) fun d hd => by
    obtain ⟨a, ha, rfl⟩ := List.mem_map.mp hd
    have := hf a ha
    have := hg a ha
    omega
  rw [Bool.eq_iff_iff, List.all_eq_true]
  have h3 : Nat.beq (Nat.land (pk (L.map fun a => g a + 8 - f a)) (gd L.length)) (gd L.length) = true ↔ (pk (L.map fun a => g a + 8 - f a) &&& gd L.length) = gd L.length := ⟨fun h => Nat.eq_of_beq_eq_true h, fun h => by
    show Nat.beq (pk (L.map fun a => g a + 8 - f a) &&& gd L.length) (gd L.length) = true
    rw [h]
    exact Nat.beq_refl _⟩
  rw [h3, h2]
  constructor
  · intro h a ha
    have := h _ (List.mem_map.mpr ⟨a, ha, rfl⟩)
    have := hf a ha
    rw [decide_eq_true_eq]
    omega
  · intro h d hd
    obtain ⟨a, ha, rfl⟩ := List.mem_map.mp hd
    have := h a ha
    rw [decide_eq_true_eq] at this
    omega
theorem grid_len (n : Nat) : (gridL n).length = (n - 1) * (n - 1) := by
  have : ∀ (l : List Nat) (c : Nat), (l.map fun _ => c).sum = l.length * c := fun l c => by
    induction l with
    | nil => simp
    | cons x l ih => rw [List.map_cons, List.sum_cons, ih, List.length_cons, Nat.succ_mul, Nat.add_comm]
  unfold gridL
  rw [List.length_flatMap]
  simp only [List.length_map, List.length_range]
  rw [this, List.length_range]
theorem great_le (o : List Int) (f : Nat) (v : Int) : greatN o f v ≤ f := by
  unfold greatN
  refine Nat.le_trans (List.length_filter_le _ _) ?_
  rw [List.length_take]
  omega
theorem tst_bel {n : Nat} {a b : List Int} (hn : n ≤ 7) (ha : a.length = n) (hb : b.length = n) : tst (gd ((n - 1) * (n - 1))) (codeG a) (codeG b) = bel a b := by
  have lt : ∀ (o : List Int), ∀ p ∈ gridL n, greatN o (p.1 + 1) ((p.2 + 1 : Nat) : Int) < 8 := fun o p hp => by
    have := great_le o (p.1 + 1) ((p.2 + 1 : Nat) : Int)
    unfold gridL at hp
    obtain ⟨i, hi, h⟩ := List.mem_flatMap.mp hp
    obtain ⟨j, hj, rfl⟩ := List.mem_map.mp h
    have := List.mem_range.mp hi
    simp only at *
    omega
  have := tst_map (L := gridL n) (f := fun p => greatN a (p.1 + 1) ((p.2 + 1 : Nat) : Int)) (g := fun p => greatN b (p.1 + 1) ((p.2 + 1 : Nat) : Int)) (lt a) (lt b)
  rw [grid_len] at this
  unfold codeG cvL
  rw [ha, hb, this]
  unfold bel gridL
  rw [ha, List.all_flatMap]
  congr 1
  funext i
  rw [List.all_map]
  rfl

theorem gEq_bb {x y : Bool} : gEq (.bool x) (.bool y) = .ok (.bool (x == y)) .frz := by cases x <;> cases y <;> rfl
theorem gEq_ln {ds : List PyData} (h : ∀ d ∈ ds, Shp 3 d) : gEq (.list ds) (.list []) = .ok (.bool ds.isEmpty) .frz := by
  rw [gEq_s ((shp_list h).shaped (by decide)) ((shp_list (k := 3) (ds := []) (fun d hd => by cases hd)).shaped (by decide))]
  cases ds with
  | nil => rw [PyData.eqv, PyData.eqvAll]; rfl
  | cons d ds => rw [PyData.eqv, PyData.eqvAll]; rfl

theorem gEq_pnil {ps : List (Nat × Nat)} : gEq (.list (ps.map pairD)) (.list []) = .ok (.bool ps.isEmpty) .frz := by
  rw [gEq_ln fun d hd => by
    obtain ⟨r, _, rfl⟩ := List.mem_map.mp hd
    exact ⟨(shp_tuple (k := 1) (ds := [.int (r.1 : Nat), .int (r.2 : Nat)]) (by simp [shp_int])).1, Nat.le_trans (shp_tuple (k := 1) (ds := [.int (r.1 : Nat), .int (r.2 : Nat)]) (by simp [shp_int])).2 (by decide)⟩]
  rw [List.isEmpty_map]

/-! ### chains, step by step -/
def nexts (x b : List Int) : List (List Int) := (stepsUp x).filter fun c => bel c b
def lastO (c : List (List Int)) : List Int := c.getD (c.length - 1) []
def ext1 (b : List Int) (c : List (List Int)) : List (List (List Int)) := (nexts (lastO c) b).map fun y => c ++ [y]
def chs (a b : List Int) : Nat → List (List (List Int))
  | 0 => [[a]]
  | k + 1 => (chs a b k).flatMap (ext1 b)
theorem last_snoc (c : List (List Int)) (y : List Int) : lastO (c ++ [y]) = y := by
  unfold lastO
  rw [List.length_append, List.length_cons, List.length_nil, Nat.zero_add, Nat.add_sub_cancel, List.getD_eq_getElem?_getD, List.getElem?_append_right (Nat.le_refl _), Nat.sub_self]
  rfl
structure ChK (n : Nat) (a b : List Int) (k : Nat) (c : List (List Int)) : Prop where
  len : c.length = k + 1
  od : Od n (lastO c)
  below : bel (lastO c) b = true
  cnt : cnt (lastO c) = cnt a + k
theorem chs_ok {n : Nat} {a b : List Int} (h1 : 1 ≤ n) (h6 : n ≤ 6) (ha : Od n a) (hab : bel a b = true) : ∀ (k : Nat), ∀ c ∈ chs a b k, ChK n a b k c
  | 0, c, hc => by
    rw [List.mem_singleton.mp hc]
    exact ⟨rfl, ha, hab, rfl⟩
  | k + 1, c, hc => by
    obtain ⟨c0, h0, hc⟩ := List.mem_flatMap.mp hc
    obtain ⟨y, hy, rfl⟩ := List.mem_map.mp hc
    obtain ⟨q1, q2, q3, q4⟩ := chs_ok h1 h6 ha hab k c0 h0
    obtain ⟨hy1, hy2⟩ := List.mem_filter.mp hy
    exact ⟨by rw [List.length_append, q1]; rfl, by rw [last_snoc]; exact steps_od q2 y hy1, by rw [last_snoc]; exact hy2, by rw [last_snoc, up_cnt h1 h6 q2 hy1, q4]; omega⟩
theorem next_some {n : Nat} {a b : List Int} (h1 : 1 ≤ n) (h6 : n ≤ 6) (hb : Od n b) {k : Nat} {c : List (List Int)} (h : ChK n a b k c) (hk : cnt a + k < cnt b) : 1 ≤ (nexts (lastO c) b).length := by
  obtain ⟨y, hy1, hy2⟩ := step_below h.od hb h.below (fun e => by have := h.cnt; rw [e] at this; omega)
  exact List.length_pos_of_mem (List.mem_filter.mpr ⟨hy1, hy2⟩)
theorem flat_ge {α β : Type} {f : α → List β} {m : Nat} : ∀ {l : List α}, (∀ x ∈ l, m ≤ (f x).length) → m * l.length ≤ (l.flatMap f).length
  | [], _ => by simp
  | x :: l, h => by
    rw [List.flatMap_cons, List.length_append, List.length_cons, Nat.mul_succ]
    have := flat_ge (l := l) fun y hy => h y (List.mem_cons_of_mem _ hy)
    have := h x List.mem_cons_self
    omega
theorem flat_le {α β : Type} {f : α → List β} {m : Nat} : ∀ {l : List α}, (∀ x ∈ l, (f x).length ≤ m) → (l.flatMap f).length ≤ m * l.length
  | [], _ => by simp
  | x :: l, h => by
    rw [List.flatMap_cons, List.length_append, List.length_cons, Nat.mul_succ]
    have := flat_le (l := l) fun y hy => h y (List.mem_cons_of_mem _ hy)
    have := h x List.mem_cons_self
    omega
theorem ext1_len (b : List Int) (c : List (List Int)) : (ext1 b c).length = (nexts (lastO c) b).length := List.length_map _
theorem chs_pos {n : Nat} {a b : List Int} (h1 : 1 ≤ n) (h6 : n ≤ 6) (ha : Od n a) (hb : Od n b) (hab : bel a b = true) : ∀ (k : Nat), cnt a + k ≤ cnt b → 1 ≤ (chs a b k).length
  | 0, _ => Nat.le_refl _
  | k + 1, hk => by
    have ih := chs_pos h1 h6 ha hb hab k (by omega)
    have := flat_ge (f := ext1 b) (m := 1) (l := chs a b k) fun c hc => by rw [ext1_len]; exact next_some h1 h6 hb (chs_ok h1 h6 ha hab k c hc) (by omega)
    show 1 ≤ ((chs a b k).flatMap (ext1 b)).length
    omega
/-- at most six steps lead up from an order of at most five numbers -/
theorem deg_1 : (ords 1).all (fun o => decide ((steps0 o).length ≤ 6)) = true := by decide +kernel
theorem deg_2 : (ords 2).all (fun o => decide ((steps0 o).length ≤ 6)) = true := by decide +kernel
theorem deg_3 : (ords 3).all (fun o => decide ((steps0 o).length ≤ 6)) = true := by decide +kernel
theorem deg_4 : (ords 4).all (fun o => decide ((steps0 o).length ≤ 6)) = true := by decide +kernel
theorem deg_5 : (ords 5).all (fun o => decide ((steps0 o).length ≤ 6)) = true := by decide +kernel
theorem deg {n : Nat} (h1 : 1 ≤ n) (h5 : n ≤ 5) {o : List Int} (ho : Od n o) : (stepsUp o).length ≤ 6 := by
  have : (ords n).all (fun o => decide ((steps0 o).length ≤ 6)) = true := by
    have : n = 1 ∨ n = 2 ∨ n = 3 ∨ n = 4 ∨ n = 5 := by omega
    rcases this with e | e | e | e | e
    · rw [e]; exact deg_1
    · rw [e]; exact deg_2
    · rw [e]; exact deg_3
    · rw [e]; exact deg_4
    · rw [e]; exact deg_5
  have := List.all_eq_true.mp this o (od_ords.mpr ho)
  rw [decide_eq_true_eq] at this
  rw [(up_perm o).length_eq]
  exact this
theorem chs_few {n : Nat} {a b : List Int} (h1 : 1 ≤ n) (h5 : n ≤ 5) (ha : Od n a) (hab : bel a b = true) : ∀ k, (chs a b k).length ≤ 6 ^ k
  | 0 => Nat.le_refl _
  | k + 1 => by
    have ih := chs_few h1 h5 ha hab k
    have := flat_le (f := ext1 b) (m := 6) (l := chs a b k) fun c hc => by
      rw [ext1_len]
      exact Nat.le_trans (List.length_filter_le _ _) (deg h1 h5 (chs_ok h1 (by omega) ha hab k c hc).od)
    show ((chs a b k).flatMap (ext1 b)).length ≤ _
    rw [Nat.pow_succ, Nat.mul_comm]
    exact Nat.le_trans this (Nat.mul_le_mul_left 6 ih)
/-! ### counts by a dict -/
abbrev Wt := List (List Int × Nat)
def valW (W : Wt) (y : List Int) : Option Nat := (W.find? fun p => decide (p.1 = y)).map (·.2)
def tot (W : Wt) (y : List Int) : Nat := (valW W y).getD 0
def hasW (W : Wt) (y : List Int) : Bool := W.any fun p => decide (p.1 = y)
def setW (W : Wt) (y : List Int) (c : Nat) : Wt := if hasW W y = true then W.map (fun p => if p.1 = y then (p.1, c) else p) else W ++ [(y, c)]
def addW (W : Wt) (y : List Int) (c : Nat) : Wt := setW W y (tot W y + c)
def addAll (W : Wt) (ys : List (List Int)) (c : Nat) : Wt := ys.foldl (fun L y => addW L y c) W
def stepW (b : List Int) (W : Wt) : Wt := W.foldl (fun L p => addAll L (nexts p.1 b) (tot W p.1)) []
def ways (a b : List Int) : Nat → Wt
  | 0 => [(a, 1)]
  | k + 1 => stepW b (ways a b k)
theorem val_cons (p : List Int × Nat) (W : Wt) (y : List Int) : valW (p :: W) y = if p.1 = y then some p.2 else valW W y := by
  unfold valW
  rw [List.find?_cons]
  by_cases h : p.1 = y
  · rw [decide_eq_true h, if_pos h]; rfl
  · rw [decide_eq_false h, if_neg h]
theorem has_val : ∀ (W : Wt) (y : List Int), hasW W y = (valW W y).isSome
  | [], _ => rfl
  | p :: W, y => by
    rw [val_cons]
    show (decide (p.1 = y) || hasW W y) = _
    rw [has_val W y]
    by_cases h : p.1 = y
    · rw [decide_eq_true h, if_pos h]; rfl
    · rw [decide_eq_false h, if_neg h]; rfl
theorem has_mem {W : Wt} {y : List Int} : hasW W y = true ↔ y ∈ W.map (·.1) := by
  unfold hasW
  rw [List.any_eq_true, List.mem_map]
  constructor
  · rintro ⟨p, hp, e⟩
    exact ⟨p, hp, of_decide_eq_true e⟩
  · rintro ⟨p, hp, e⟩
    exact ⟨p, hp, decide_eq_true e⟩
theorem val_set (y : List Int) (c : Nat) (z : List Int) : ∀ W : Wt, valW (setW W y c) z = if y = z then some c else valW W z := by
  intro W
  unfold setW
  have mp : ∀ W : Wt, valW (W.map fun p => if p.1 = y then (p.1, c) else p) z = if y = z ∧ hasW W y = true then some c else valW W z := by
    intro W
    induction W with
    | nil => simp [hasW, valW]
    | cons p W ih =>
      rw [List.map_cons, val_cons, ih, val_cons]
      have hh : hasW (p :: W) y = (decide (p.1 = y) || hasW W y) := rfl
      rw [hh]
      by_cases h1 : p.1 = y
      · rw [if_pos h1, decide_eq_true h1, Bool.true_or]
        show (if p.1 = z then some c else _) = _
        by_cases h2 : p.1 = z
        · have h3 : y = z := by rw [← h1, h2]
          rw [if_pos h2, if_pos ⟨h3, rfl⟩]
        · have h3 : ¬ y = z := fun e => h2 (by rw [h1, e])
          rw [if_neg h2, if_neg h2, if_neg (fun q => h3 q.1), if_neg (fun q => h3 q.1)]
      · rw [if_neg h1, decide_eq_false h1, Bool.false_or]
        by_cases h2 : p.1 = z
        · have h3 : ¬ y = z := fun e => h1 (by rw [h2, e])
          rw [if_pos h2, if_pos h2, if_neg (fun q => h3 q.1)]
        · rw [if_neg h2, if_neg h2]
  have ap : ∀ W : Wt, hasW W y = false → valW (W ++ [(y, c)]) z = if y = z then some c else valW W z := by
    intro W
    induction W with
    | nil => intro _; rw [List.nil_append, val_cons]
    | cons p W ih =>
      intro h
      have hh : hasW (p :: W) y = (decide (p.1 = y) || hasW W y) := rfl
      rw [hh, Bool.or_eq_false_iff] at h
      have h1 := of_decide_eq_false h.1
      rw [List.cons_append, val_cons, ih h.2, val_cons]
      by_cases h2 : p.1 = z
      · have h3 : ¬ y = z := fun e => h1 (by rw [h2, e])
        rw [if_pos h2, if_neg h3, if_pos h2]
      · rw [if_neg h2, if_neg h2]
  by_cases h : hasW W y = true
  · rw [if_pos h, mp]
    by_cases e : y = z
    · rw [if_pos ⟨e, h⟩, if_pos e]
    · rw [if_neg (fun z => e z.1), if_neg e]
  · rw [if_neg h, ap W (Bool.eq_false_iff.mpr h)]
theorem tot_add (W : Wt) (y : List Int) (c : Nat) (z : List Int) : tot (addW W y c) z = tot W z + if y = z then c else 0 := by
  unfold addW tot
  rw [val_set]
  by_cases e : y = z
  · rw [if_pos e, if_pos e, e]; rfl
  · rw [if_neg e, if_neg e]; rfl
theorem tot_all (c : Nat) (z : List Int) : ∀ (ys : List (List Int)) (W : Wt), tot (addAll W ys c) z = tot W z + c * ys.count z
  | [], W => by simp [addAll]
  | y :: ys, W => by
    show tot (addAll (addW W y c) ys c) z = _
    rw [tot_all c z ys, tot_add, List.count_cons]
    by_cases e : y = z
    · rw [if_pos e, if_pos (beq_iff_eq.mpr e), Nat.mul_add]
      omega
    · rw [if_neg e, if_neg (by rw [beq_iff_eq]; exact e), Nat.add_zero, Nat.add_zero]
theorem keys_set {W : Wt} {y : List Int} {c : Nat} : (setW W y c).map (·.1) = if hasW W y = true then W.map (·.1) else W.map (·.1) ++ [y] := by
  unfold setW
  by_cases h : hasW W y = true
  · rw [if_pos h, if_pos h, List.map_map]
    apply List.map_congr_left
    intro p _
    simp only [Function.comp]
    split <;> rfl
  · rw [if_neg h, if_neg h, List.map_append]
    rfl
/-- what is known of the keys -/
structure Kw (n : Nat) (W : Wt) : Prop where
  nd : (W.map (·.1)).Nodup
  od : ∀ p ∈ W, Od n p.1
theorem Kw.mem {n : Nat} {W : Wt} (h : Kw n W) {x : List Int} (hx : x ∈ W.map (·.1)) : Od n x := by
  obtain ⟨p, hp, rfl⟩ := List.mem_map.mp hx
  exact h.od p hp
theorem Kw.of {n : Nat} {W : Wt} (nd : (W.map (·.1)).Nodup) (h : ∀ x ∈ W.map (·.1), Od n x) : Kw n W := ⟨nd, fun p hp => h p.1 (List.mem_map.mpr ⟨p, hp, rfl⟩)⟩
theorem Kw.add {n : Nat} {W : Wt} (h : Kw n W) {y : List Int} (hy : Od n y) (c : Nat) : Kw n (addW W y c) := by
  refine Kw.of ?_ fun x hx => ?_
  · unfold addW
    rw [keys_set]
    split
    · exact h.nd
    · rename_i hn
      rw [List.nodup_append]
      refine ⟨h.nd, List.nodup_cons.mpr ⟨by simp, List.nodup_nil⟩, fun u hu v hv e => ?_⟩
      rw [List.mem_singleton.mp hv] at e
      subst e
      exact hn (has_mem.mpr hu)
  · unfold addW at hx
    rw [keys_set] at hx
    split at hx
    · exact h.mem hx
    · rcases List.mem_append.mp hx with q | q
      · exact h.mem q
      · rw [List.mem_singleton.mp q]; exact hy
theorem Kw.addAll {n : Nat} : ∀ {ys : List (List Int)} {W : Wt}, Kw n W → (∀ y ∈ ys, Od n y) → ∀ c, Kw n (addAll W ys c)
  | [], _, h, _, _ => h
  | y :: ys, W, h, hy, c => Kw.addAll (ys := ys) (h.add (hy y List.mem_cons_self) c) (fun z hz => hy z (List.mem_cons_of_mem _ hz)) c
theorem nexts_od {n : Nat} {x b : List Int} (h : Od n x) : ∀ y ∈ nexts x b, Od n y := fun y hy => steps_od h y (List.mem_filter.mp hy).1
theorem fold_kw {n : Nat} {b : List Int} {f : List Int × Nat → Nat} : ∀ {W L : Wt}, Kw n L → (∀ p ∈ W, Od n p.1) → Kw n (W.foldl (fun L p => Lw.addAll L (nexts p.1 b) (f p)) L)
  | [], _, h, _ => h
  | p :: W, L, h, hW => fold_kw (W := W) (h.addAll (nexts_od (hW p List.mem_cons_self)) _) fun q hq => hW q (List.mem_cons_of_mem _ hq)
theorem fold_tot {b z : List Int} {f : List Int × Nat → Nat} : ∀ {W L : Wt}, tot (W.foldl (fun L p => addAll L (nexts p.1 b) (f p)) L) z = tot L z + (W.map fun p => f p * (nexts p.1 b).count z).sum
  | [], L => by simp
  | p :: W, L => by
    rw [List.foldl_cons, fold_tot (W := W), tot_all, List.map_cons, List.sum_cons]
    omega
theorem ways_kw {n : Nat} {a b : List Int} (ha : Od n a) : ∀ k, Kw n (ways a b k)
  | 0 => ⟨List.nodup_cons.mpr ⟨by simp, List.nodup_nil⟩, fun p hp => by rw [List.mem_singleton.mp hp]; exact ha⟩
  | k + 1 => fold_kw ⟨List.nodup_nil, fun p hp => by cases hp⟩ (ways_kw ha k).od
/-- sums over what is counted -/
theorem sum_pick {f : List Int → Nat} {x : List Int} : ∀ {ks : List (List Int)}, ks.Nodup → x ∈ ks → (ks.map fun k => (if x = k then 1 else 0) * f k).sum = f x
  | [], _, h => by cases h
  | k :: ks, nd, h => by
    obtain ⟨n1, n2⟩ := List.nodup_cons.mp nd
    rw [List.map_cons, List.sum_cons]
    by_cases e : x = k
    · subst e
      have z : ∀ l : List (List Int), x ∉ l → (l.map fun k => (if x = k then 1 else 0) * f k).sum = 0 := by
        intro l
        induction l with
        | nil => intro _; rfl
        | cons y l ih =>
          intro hn
          rw [List.map_cons, List.sum_cons, ih (fun q => hn (List.mem_cons_of_mem _ q)), if_neg (fun q => hn (by rw [q]; exact List.mem_cons_self))]
          omega
      rw [z ks n1, if_pos rfl]
      omega
    · rw [if_neg e, sum_pick n2 ((List.mem_cons.mp h).resolve_left e)]
      omega
theorem sum_add {ks : List (List Int)} {f g : List Int → Nat} : (ks.map fun k => f k + g k).sum = (ks.map f).sum + (ks.map g).sum := by
  induction ks with
  | nil => rfl
  | cons k ks ih => rw [List.map_cons, List.map_cons, List.map_cons, List.sum_cons, List.sum_cons, List.sum_cons, ih]; omega
theorem sum_by {f : List Int → Nat} {ks : List (List Int)} (nd : ks.Nodup) : ∀ {cs : List (List (List Int))}, (∀ c ∈ cs, lastO c ∈ ks) → (cs.map fun c => f (lastO c)).sum = (ks.map fun k => cs.countP (fun c => decide (lastO c = k)) * f k).sum
  | [], _ => by
    have : ∀ l : List (List Int), (l.map fun k => ([] : List (List (List Int))).countP (fun c => decide (lastO c = k)) * f k).sum = 0 := by
      intro l
      induction l with
      | nil => rfl
      | cons k l ih => rw [List.map_cons, List.sum_cons, ih]; simp
    rw [this]
    rfl
  | c :: cs, h => by
    rw [List.map_cons, List.sum_cons, sum_by nd fun d hd => h d (List.mem_cons_of_mem _ hd), ← sum_pick (f := f) nd (h c List.mem_cons_self), ← sum_add]
    congr 1
    apply List.map_congr_left
    intro k _
    rw [List.countP_cons]
    by_cases e : lastO c = k
    · simp [e, Nat.add_mul]
      omega
    · simp [e]
theorem count_ext {b z : List Int} : ∀ cs : List (List (List Int)), ((cs.flatMap (ext1 b)).countP fun c => decide (lastO c = z)) = (cs.map fun c => (nexts (lastO c) b).count z).sum
  | [] => rfl
  | c :: cs => by
    rw [List.flatMap_cons, List.countP_append, List.map_cons, List.sum_cons, count_ext cs]
    congr 1
    unfold ext1
    rw [List.countP_map, List.count_eq_countP]
    apply List.countP_congr
    intro y _
    simp only [Function.comp, last_snoc, decide_eq_true_eq, beq_iff_eq]
theorem ways_tot {n : Nat} {a b : List Int} (h1 : 1 ≤ n) (h6 : n ≤ 6) (ha : Od n a) (hab : bel a b = true) : ∀ (k : Nat) (z : List Int), tot (ways a b k) z = (chs a b k).countP fun c => decide (lastO c = z)
  | 0, z => by
    show tot [(a, 1)] z = ([[a]] : List (List (List Int))).countP fun c => decide (lastO c = z)
    unfold tot
    rw [val_cons, List.countP_cons]
    have e : lastO [a] = a := rfl
    rw [e]
    by_cases h : a = z <;> simp [h, valW]
  | k + 1, z => by
    have ih := ways_tot h1 h6 ha hab k
    have kw := ways_kw (b := b) ha k
    show tot ((ways a b k).foldl (fun L p => addAll L (nexts p.1 b) (tot (ways a b k) p.1)) []) z = ((chs a b k).flatMap (ext1 b)).countP _
    rw [fold_tot, count_ext, sum_by (f := fun x => (nexts x b).count z) kw.nd fun c hc => ?_, List.map_map]
    · have e0 : tot [] z = 0 := rfl
      rw [e0, Nat.zero_add]
      congr 1
      apply List.map_congr_left
      intro p _
      simp only [Function.comp, ih]
    · rw [← has_mem, has_val]
      have := ih (lastO c)
      have hp : 0 < (chs a b k).countP fun d => decide (lastO d = lastO c) := List.countP_pos_iff.mpr ⟨c, hc, decide_eq_true rfl⟩
      rw [← this] at hp
      unfold tot at hp
      cases e : valW (ways a b k) (lastO c) with
      | none => rw [e] at hp; exact absurd hp (by decide)
      | some _ => rfl
/-- at the end all chains lie at b -/
theorem ways_end {n : Nat} {a b : List Int} (h1 : 1 ≤ n) (h6 : n ≤ 6) (ha : Od n a) (hb : Od n b) (hab : bel a b = true) : valW (ways a b (cnt b - cnt a)) b = some (chs a b (cnt b - cnt a)).length := by
  have hle : cnt a ≤ cnt b := by
    rcases bel_lt h1 h6 hb ha hab with z | z
    · rw [z]; exact Nat.le_refl _
    · omega
  have ht := ways_tot h1 h6 ha hab (cnt b - cnt a) b
  have hall : (chs a b (cnt b - cnt a)).countP (fun c => decide (lastO c = b)) = (chs a b (cnt b - cnt a)).length := List.countP_eq_length.mpr fun c hc => by
    obtain ⟨q1, q2, q3, q4⟩ := chs_ok h1 h6 ha hab _ c hc
    rw [decide_eq_true_eq]
    rcases bel_lt h1 h6 hb q2 q3 with z | z
    · exact z
    · omega
  rw [hall] at ht
  have hp := chs_pos h1 h6 ha hb hab (cnt b - cnt a) (by omega)
  unfold tot at ht
  cases e : valW (ways a b (cnt b - cnt a)) b with
  | none =>
    rw [e] at ht
    have ht : 0 = (chs a b (cnt b - cnt a)).length := ht
    omega
  | some v =>
    rw [e] at ht
    have ht : v = (chs a b (cnt b - cnt a)).length := ht
    rw [ht]

/-! ### all chains -/
theorem last_at {c : List (List Int)} (h : 0 < c.length) : atI (c.map tupD) (-1) = some (tupD (lastO c)) := atI_last (f := tupD) (xs := c) (z := []) h
theorem gAdd_ch {c : List (List Int)} {y : List Int} (h : c.length ≤ 1000) : gAdd (chD c) (.list [tupD y]) = .ok (chD (c ++ [y])) .new := by
  show gAdd (.list (c.map tupD)) (.list [tupD y]) = _
  rw [gAdd_l, if_pos (by rw [List.length_map]; unfold big; simp; omega)]
  unfold chD
  rw [List.map_append]
  rfl
theorem lc_comp {n k : Nat} {a b : List Int} {c : List (List Int)} (h1 : 1 ≤ n) (h6 : n ≤ 6) (hb : Od n b) (h : ChK n a b k c) (hk : k ≤ 100) {x0 x2 x3 x4 x6 : Option Sl} :
    C1__law_chains [x0, some (.dat (tupD b)), x2, x3, x4, some (.dat (chD c)), x6] = .ok (.list ((ext1 b c).map chD)) .new := by
  have lb := hb.len
  have hlen := h.len
  have e1 := last_at (c := c) (by omega)
  have hs := law_up_ok (h.od.sm (by omega)) h1 (by omega)
  rw [up_law h1 h6 h.od] at hs
  have b0 : 0 ≤ big := by decide
  have b1 : 1 ≤ big := by decide
  unfold C1__law_chains
  rw [compE_eq]
  have hi : (compiL (callE m__law_up (consA (op2 gIx (varE 5) (cE (.int (-1)))) nilA))) [x0, some (.dat (tupD b)), x2, x3, x4, some (.dat (chD c)), x6] = .ok ((stepsUp (lastO c)).map tupD) := by
    simp only [compiL_eq, callE_eq, consA_eq, op2_eq, varE_eq, List.getElem?_cons_zero, List.getElem?_cons_succ, varO_d, cE_eq, bind_ok, gIx_l, e1, optE_some, hard_frz, bindA_ok, nilA_eq, abind_ok, abindE_ok, hs, toE_ok, compiLK_l]
  rw [hi, comp_fm (enc := tupD) (p := fun y => bel y b) (g := fun y => chD (c ++ [y])) (by have := lawUp_len h1 h6 h.od; unfold big; omega) fun y hy => by
    have hod := steps_od h.od y hy
    have ly := hod.len
    have p1 := papers_ok (a := y) (b := b) (by omega) (by omega)
    have g1 := gEq_pnil (ps := papers y b)
    have n1 : (papers y b).isEmpty = bel y b := pnil_bel hod hb
    rw [n1] at g1
    have ga := gAdd_ch (c := c) (y := y) (by omega)
    simp only [stepC_eq, toN_eq, wipeG_cons, wipeG_nil, List.set_cons_zero, List.set_cons_succ, tgtK_s, boolB_eq, op2_eq, callE_eq, consA_eq, varE_eq, List.getElem?_cons_zero, List.getElem?_cons_succ, varO_d, hard_frz, bindA_ok, nilA_eq, abind_ok, abindE_ok, p1, toE_ok, bind_ok, lstE_eq, List.length_cons, List.length_nil, Nat.reduceAdd, b0, b1, if_true, g1, bindB_ok, boolO_b, tstK_b, ga, hard_new, eltK_ok]
    split <;> rfl]
  unfold ext1 nexts
  rw [List.map_map]
  rfl
theorem lc_row {n k : Nat} {a b : List Int} (h1 : 1 ≤ n) (h6 : n ≤ 6) (ha : Od n a) (hb : Od n b) (hab : bel a b = true) (hk : k ≤ 100) (hB : (chs a b (k + 1)).length ≤ 100000) {s : Sl} (hs : s = .own ((chs a b k).map chD) ∨ s = .dat (.list ((chs a b k).map chD))) {x0 x3 x4 x5 x6 : Option Sl} :
    ∃ y4 y5, L2__law_chains [x0, some (.dat (tupD b)), some s, x3, x4, x5, x6] = .next [x0, some (.dat (tupD b)), some (.dat (.list ((chs a b (k + 1)).map chD))), x3, y4, y5, x6] := by
  have hrun : ∃ y5, forL (toN 5) L1__law_chains ((chs a b k).map chD) [x0, some (.dat (tupD b)), some (.dat (.list ((chs a b k).map chD))), x3, some (.own []), x5, x6] = .next [x0, some (.dat (tupD b)), some (.dat (.list ((chs a b k).map chD))), x3, some (.own ((chs a b (k + 1)).map chD)), y5, x6] := by
    obtain ⟨G2, hG, y5, e⟩ := for_acc (enc := chD) (tgt := toN 5) (body := L1__law_chains) 100000 (fun (l : List (List (List Int))) G => ∃ y5 : Option Sl, G = [x0, some (.dat (tupD b)), some (.dat (.list ((chs a b k).map chD))), x3, some (.own (l.map chD)), y5, x6])
      (ext1 b) (xs := chs a b k) (acc := []) (G := [x0, some (.dat (tupD b)), some (.dat (.list ((chs a b k).map chD))), x3, some (.own []), x5, x6]) ⟨x5, rfl⟩ (by rw [List.length_nil, Nat.zero_add]; exact hB) fun c hc l G ⟨y5, e⟩ hl => by
        subst e
        have hcc := lc_comp h1 h6 hb (chs_ok h1 h6 ha hab k c hc) hk (x0 := x0) (x2 := some (.dat (.list ((chs a b k).map chD)))) (x3 := x3) (x4 := some (.own (l.map chD))) (x6 := x6)
        have hbl : l.length + (ext1 b c).length ≤ big := by unfold big; omega
        refine ⟨_, _, rfl, ?_, some (.dat (chD c)), rfl⟩
        simp only [L1__law_chains, asgS_eq, op2_eq, varE_eq, List.set_cons_zero, List.set_cons_succ, List.getElem?_cons_zero, List.getElem?_cons_succ, varO_o, bind_ok, hcc, gAdd_l, List.length_map, hbl, if_true, bindS_ok, asgK_new, List.map_append]
    rw [List.nil_append] at e
    exact ⟨y5, by rw [hG, e]; rfl⟩
  obtain ⟨y5, hrun⟩ := hrun
  have b0 : 0 ≤ big := by decide
  refine ⟨some (.dat (.list ((chs a b (k + 1)).map chD))), y5, ?_⟩
  rcases hs with rfl | rfl
  · simp only [L2__law_chains, seqS_eq, asgS_eq, lstE_eq, nilA_eq, abindE_ok, List.length_nil, b0, if_true, bindS_ok, asgK_new, List.set_cons_succ, List.set_cons_zero, seq_next, forS_eq, iterL_eq, varE_eq, List.getElem?_cons_succ, List.getElem?_cons_zero, varO_o, iterLK_own, ownI_o, run_ok, hrun, asgK_own, ownK_o]
  · simp only [L2__law_chains, seqS_eq, asgS_eq, lstE_eq, nilA_eq, abindE_ok, List.length_nil, b0, if_true, bindS_ok, asgK_new, List.set_cons_succ, List.set_cons_zero, seq_next, forS_eq, iterL_eq, varE_eq, List.getElem?_cons_succ, List.getElem?_cons_zero, varO_o, varO_d, iterLK_frz, run_ok, hrun, asgK_own, ownK_o]
/-! sorted -/
theorem alike_ints : ∀ x y : List Int, PySem.W.alikeAll (x.map PyData.int) (y.map PyData.int) = true
  | [], _ => by rw [List.map_nil, PySem.W.alikeAll]
  | _ :: _, [] => by rw [List.map_nil, List.map_cons, PySem.W.alikeAll]
  | a :: x, b :: y => by rw [List.map_cons, List.map_cons, PySem.W.alikeAll, PySem.W.alike, alike_ints x y]; rfl
theorem alike_tups : ∀ x y : List (List Int), PySem.W.alikeAll (x.map tupD) (y.map tupD) = true
  | [], _ => by rw [List.map_nil, PySem.W.alikeAll]
  | _ :: _, [] => by rw [List.map_nil, List.map_cons, PySem.W.alikeAll]
  | a :: x, b :: y => by
    rw [List.map_cons, List.map_cons, PySem.W.alikeAll, alike_tups x y]
    show (PySem.W.alike (.tuple (a.map PyData.int)) (.tuple (b.map PyData.int)) && true) = true
    rw [PySem.W.alike, alike_ints]
    rfl
theorem okC_chs {cs : List (List (List Int))} (h : cs.length ≤ 100000) : okC (cs.map chD) = true := by
  unfold okC
  rw [Bool.and_eq_true, Bool.and_eq_true, decide_eq_true_eq, List.length_map]
  refine ⟨⟨List.all_eq_true.mpr fun x hx => List.all_eq_true.mpr fun y hy => ?_, List.all_eq_true.mpr fun x hx => ?_⟩, by unfold big; omega⟩
  · obtain ⟨c, _, rfl⟩ := List.mem_map.mp hx
    obtain ⟨d, _, rfl⟩ := List.mem_map.mp hy
    show PySem.W.alike (.list (c.map tupD)) (.list (d.map tupD)) = true
    rw [PySem.W.alike, alike_tups]
  · obtain ⟨c, _, rfl⟩ := List.mem_map.mp hx
    rw [Bool.and_eq_true]
    exact ⟨rfl, (shp_tups c).shaped (by decide)⟩
theorem gSortC_chs {cs : List (List (List Int))} (h : cs.length ≤ 100000) : gSortC (.list (cs.map chD)) = .ok (.list (srtD (cs.map chD))) .new := if_pos (okC_chs h)
theorem cnt_dist {n : Nat} {a b : List Int} (h1 : 1 ≤ n) (h6 : n ≤ 6) (ha : Od n a) (hb : Od n b) (hab : bel a b = true) : cnt a ≤ cnt b ∧ cnt b ≤ 36 := by
  constructor
  · rcases bel_lt h1 h6 hb ha hab with z | z
    · rw [z]; exact Nat.le_refl _
    · omega
  · have hcl := cnt_le b
    rw [hb.len] at hcl
    have hnn : n * n ≤ 6 * 6 := Nat.mul_le_mul h6 h6
    omega
theorem law_chains_ok {n : Nat} {a b : List Int} (h1 : 1 ≤ n) (h6 : n ≤ 6) (ha : Od n a) (hb : Od n b) (hab : bel a b = true) (hB : ∀ k, k ≤ cnt b - cnt a → (chs a b k).length ≤ 2000) : m__law_chains [tupD a, tupD b] = .ok (.list (srtD ((chs a b (cnt b - cnt a)).map chD))) := by
  obtain ⟨hle, hcl⟩ := cnt_dist h1 h6 ha hb hab
  have la := ha.len
  have lb := hb.len
  have ia := law_inversions_ok (o := a) (by omega)
  have ib := law_inversions_ok (o := b) (by omega)
  have e : (cnt b : Int) - (cnt a : Int) = ((cnt b - cnt a : Nat) : Int) := by omega
  obtain ⟨G2, hG, s, x3, y4, y5, hs, eG⟩ := for_inv (tgt := toN 3) (body := L2__law_chains) (ds := rgD 0 (cnt b - cnt a)) (G := [some (.dat (tupD a)), some (.dat (tupD b)), some (.own ((chs a b 0).map chD)), none, none, none, none])
    (fun k G => ∃ (s : Sl) (x3 y4 y5 : Option Sl), (s = .own ((chs a b k).map chD) ∨ s = .dat (.list ((chs a b k).map chD))) ∧ G = [some (.dat (tupD a)), some (.dat (tupD b)), some s, x3, y4, y5, none])
    ⟨_, none, none, none, .inl rfl, rfl⟩ fun k d G hk ⟨s, x3, y4, y5, hs, eG⟩ => by
      obtain ⟨hk2, rfl⟩ := rgD_get hk
      subst eG
      obtain ⟨z4, z5, ht⟩ := lc_row h1 h6 ha hb hab (k := k) (by omega) (by have := hB (k + 1) (by omega); omega) hs (x0 := some (.dat (tupD a))) (x3 := some (.dat (.int (0 + ((k : Nat) : Int))))) (x4 := y4) (x5 := y5) (x6 := none)
      exact ⟨_, _, rfl, ht, _, _, z4, z5, .inr rfl, rfl⟩
  rw [rgD_len] at hs
  subst eG
  have r : rg1K (.ok (.int ((cnt b - cnt a : Nat) : Int)) .frz) = some (rgD 0 (cnt b - cnt a)) := by
    rw [rg1K_i (by omega)]
    rfl
  have hso := gSortC_chs (cs := chs a b (cnt b - cnt a)) (by have := hB _ (Nat.le_refl _); omega)
  have hG2 : forL (toN 3) L2__law_chains (rgD 0 (cnt b - cnt a)) [some (.dat (tupD a)), some (.dat (tupD b)), some (.own [.list [tupD a]]), none, none, none, none] = _ := hG
  have b1 : 1 ≤ big := by decide
  refine defM_ret rfl ?_
  have main : b__law_chains (startG 7 [tupD a, tupD b]) = (retS (op1 gSortC (varE 2))) [some (.dat (tupD a)), some (.dat (tupD b)), some s, x3, y4, y5, none] := by
    simp only [b__law_chains, startG, List.map_cons, List.map_nil, List.length_cons, List.length_nil, Nat.reduceAdd, Nat.reduceSub, List.replicate, List.cons_append, List.nil_append, seqS_eq, op2_eq, op1_eq, callE_eq, consA_eq, varE_eq, List.getElem?_cons_zero, List.getElem?_cons_succ, varO_d, hard_frz, hard_new, bindA_ok, nilA_eq, abind_ok, abindE_ok, ia, ib, toE_ok, bind_ok, gLen_l, List.length_map, invs_len, gInt_eq, iSub_eq, e, optE_some, asgS_eq, lstE_eq, b1, if_true, bindS_ok, asgK_new, List.set_cons_zero, List.set_cons_succ, seq_next, forS_eq, iterO_eq, rg1_eq, r, ofO_some, run_ok, hG2]
  rw [main]
  rcases hs with rfl | rfl
  · simp only [retS_eq, op1_eq, varE_eq, List.getElem?_cons_zero, List.getElem?_cons_succ, varO_o, bind_ok, hso, bindS_ok, retK_new]
  · simp only [retS_eq, op1_eq, varE_eq, List.getElem?_cons_zero, List.getElem?_cons_succ, varO_d, bind_ok, hso, bindS_ok, retK_new]

end Lw

set_option linter.all false
set_option maxRecDepth 1000000
namespace Lw
open PySem L2 VL
/-! ### a graph, level by level -/
section
variable {α : Type} [DecidableEq α]
def lk (nb : α → List α) (r : α) : Nat → List α
  | 0 => [r]
  | k + 1 => lk nb r k ++ ((lk nb r k).flatMap nb).filter fun x => !(lk nb r k).contains x
def nw (nb : α → List α) (r : α) (k : Nat) : List α := ((lk nb r k).flatMap nb).filter fun x => !(lk nb r k).contains x
theorem lk_succ (nb : α → List α) (r : α) (k : Nat) : lk nb r (k + 1) = lk nb r k ++ nw nb r k := rfl
theorem lk_mem {nb : α → List α} {r x : α} {k : Nat} : x ∈ lk nb r (k + 1) ↔ x ∈ lk nb r k ∨ ∃ z ∈ lk nb r k, x ∈ nb z := by
  rw [lk_succ, List.mem_append]
  unfold nw
  rw [List.mem_filter, List.mem_flatMap]
  constructor
  · rintro (h | h)
    · exact .inl h
    · exact .inr h.1
  · rintro (h | h)
    · exact .inl h
    · by_cases c : x ∈ lk nb r k
      · exact .inl c
      · refine .inr ⟨h, ?_⟩
        rw [Bool.not_eq_true', Bool.eq_false_iff]
        intro z
        exact c (List.contains_iff_mem.mp z)
theorem lk_up {nb : α → List α} {r x : α} {k : Nat} (h : x ∈ lk nb r k) : x ∈ lk nb r (k + 1) := lk_mem.mpr (.inl h)
theorem lk_le {nb : α → List α} {r x : α} {j k : Nat} (h : x ∈ lk nb r j) (hk : j ≤ k) : x ∈ lk nb r k := by
  induction hk with
  | refl => exact h
  | step _ ih => exact lk_up ih
theorem lk_next {nb : α → List α} {r x z : α} {k : Nat} (h : z ∈ lk nb r k) (hx : x ∈ nb z) : x ∈ lk nb r (k + 1) := lk_mem.mpr (.inr ⟨z, h, hx⟩)
theorem lk_root {nb : α → List α} {r : α} : r ∈ lk nb r 0 := List.mem_singleton.mpr rfl
theorem lk_add {nb : α → List α} {r x y : α} {j : Nat} (h : x ∈ lk nb r j) : ∀ {k : Nat}, y ∈ lk nb x k → y ∈ lk nb r (j + k)
  | 0, hy => by
    rw [List.mem_singleton.mp hy]
    exact h
  | k + 1, hy => by
    rcases lk_mem.mp hy with h2 | ⟨z, h2, h3⟩
    · exact lk_up (lk_add h h2)
    · exact lk_next (lk_add h h2) h3
theorem lk_all {nb : α → List α} {r : α} (P : α → Prop) (h0 : P r) (hn : ∀ z, P z → ∀ x ∈ nb z, P x) : ∀ k, ∀ x ∈ lk nb r k, P x
  | 0, x, h => by rw [List.mem_singleton.mp h]; exact h0
  | k + 1, x, h => by
    rcases lk_mem.mp h with h2 | ⟨z, h2, h3⟩
    · exact lk_all P h0 hn k x h2
    · exact hn z (lk_all P h0 hn k z h2) x h3
/-! how many -/
theorem filter_all_nil {l : List α} {p : α → Bool} (h : ∀ x ∈ l, p x = false) : l.filter p = [] := List.filter_eq_nil_iff.mpr fun x hx z => by rw [h x hx] at z; cases z
theorem flat_two {f : α → List α} {p : α → Bool} : ∀ {l : List α}, (∀ x ∈ l, ((f x).filter p).length ≤ 2) → ((l.flatMap f).filter p).length ≤ 2 * l.length
  | [], _ => Nat.le_refl _
  | x :: l, h => by
    rw [List.flatMap_cons, List.filter_append, List.length_append, List.length_cons]
    have h1 := h x List.mem_cons_self
    have h2 := flat_two (f := f) (p := p) (l := l) fun y hy => h y (List.mem_cons_of_mem _ hy)
    omega
theorem filter_less {p : α → Bool} {y : α} : ∀ {l : List α}, y ∈ l → p y = false → (l.filter p).length + 1 ≤ l.length
  | x :: l, h, hy => by
    rw [List.filter_cons]
    rcases List.mem_cons.mp h with e | e
    · subst e
      rw [hy]
      have := List.length_filter_le p l
      simp only [Bool.false_eq_true, if_false, List.length_cons]
      omega
    · have := filter_less (p := p) e hy
      split
      · simp only [List.length_cons]
        omega
      · simp only [List.length_cons]
        omega
theorem nw_two {nb : α → List α} {r : α} (P : α → Prop) (h0 : P r) (hn : ∀ z, P z → ∀ x ∈ nb z, P x) (h3 : ∀ z, P z → (nb z).length ≤ 3) (sy : ∀ z, P z → ∀ x ∈ nb z, z ∈ nb x) (k : Nat) : (nw nb r (k + 1)).length ≤ 2 * (nw nb r k).length := by
  have e : nw nb r (k + 1) = ((nw nb r k).flatMap nb).filter fun x => !(lk nb r (k + 1)).contains x := by
    conv => lhs; unfold nw
    rw [lk_succ, List.flatMap_append, List.filter_append, filter_all_nil (l := (lk nb r k).flatMap nb) fun x hx => ?_, List.nil_append]
    obtain ⟨z, hz, hx⟩ := List.mem_flatMap.mp hx
    rw [Bool.not_eq_false']
    exact List.contains_iff_mem.mpr (lk_next hz hx)
  rw [e]
  refine flat_two fun x hx => ?_
  unfold nw at hx
  obtain ⟨hx, _⟩ := List.mem_filter.mp hx
  obtain ⟨z, hz, hx⟩ := List.mem_flatMap.mp hx
  have pz := lk_all P h0 hn k z hz
  have px := hn z pz x hx
  have := filter_less (p := fun y => !(lk nb r (k + 1)).contains y) (sy z pz x hx) (by
    rw [Bool.not_eq_false']
    exact List.contains_iff_mem.mpr (lk_up hz))
  have := h3 x px
  omega
theorem nw_few {nb : α → List α} {r : α} (P : α → Prop) (h0 : P r) (hn : ∀ z, P z → ∀ x ∈ nb z, P x) (h3 : ∀ z, P z → (nb z).length ≤ 3) (sy : ∀ z, P z → ∀ x ∈ nb z, z ∈ nb x) : ∀ k, (nw nb r k).length ≤ 3 * 2 ^ k
  | 0 => by
    unfold nw
    refine Nat.le_trans (List.length_filter_le _ _) ?_
    show ([r].flatMap nb).length ≤ _
    rw [List.flatMap_cons, List.flatMap_nil, List.append_nil]
    exact h3 r h0
  | k + 1 => by
    have h1 := nw_two P h0 hn h3 sy k
    have h2 := nw_few P h0 hn h3 sy k
    rw [Nat.pow_succ]
    omega
theorem lk_few {nb : α → List α} {r : α} (P : α → Prop) (h0 : P r) (hn : ∀ z, P z → ∀ x ∈ nb z, P x) (h3 : ∀ z, P z → (nb z).length ≤ 3) (sy : ∀ z, P z → ∀ x ∈ nb z, z ∈ nb x) : ∀ k, (lk nb r k).length ≤ 3 * 2 ^ k
  | 0 => by show 1 ≤ _; omega
  | k + 1 => by
    have h1 := nw_few P h0 hn h3 sy k
    have h2 := lk_few P h0 hn h3 sy k
    rw [lk_succ, List.length_append, Nat.pow_succ]
    omega
/-! ### the road's search -/
abbrev Ent (α : Type) := α × Option α × Nat
def visit (c : α) (k : Nat) : List α → List (Ent α) × List α → List (Ent α) × List α
  | [], s => s
  | m :: ms, s => if m ∈ s.1.map (·.1) then visit c k ms s else visit c k ms (s.1 ++ [(m, some c, k + 1)], s.2 ++ [m])
structure Bf (nb : α → List α) (r : α) (D : List (Ent α)) (P Q : List α) : Prop where
  keys : D.map (·.1) = P ++ Q
  nd : (P ++ Q).Nodup
  root : (r, none, 0) ∈ D
  par : ∀ t ∈ D, t = (r, none, 0) ∨ ∃ p k, t.2.1 = some p ∧ t.2.2 = k + 1 ∧ (∃ q, (p, q, k) ∈ D) ∧ t.1 ∈ nb p
  dn : ∀ z ∈ P, ∀ q k, (z, q, k) ∈ D → ∀ y ∈ nb z, ∃ q' k', (y, q', k') ∈ D ∧ k' ≤ k + 1
  srt : D.Pairwise fun s t => s.2.2 ≤ t.2.2
  lvl : ∀ c Q', Q = c :: Q' → ∀ q k, (c, q, k) ∈ D → ∀ t ∈ D, t.2.2 ≤ k + 1
theorem bf_start (nb : α → List α) (r : α) : Bf nb r [(r, none, 0)] [] [r] where
  keys := rfl
  nd := by simp
  root := List.mem_singleton.mpr rfl
  par := fun t ht => .inl (List.mem_singleton.mp ht)
  dn := fun z hz => by cases hz
  srt := by simp
  lvl := fun c Q' e q k h t ht => by rw [List.mem_singleton.mp ht]; exact Nat.zero_le _
theorem ent_key {D : List (Ent α)} {x : α} : x ∈ D.map (·.1) ↔ ∃ q k, (x, q, k) ∈ D := by
  rw [List.mem_map]
  constructor
  · rintro ⟨⟨y, q, k⟩, h, e⟩
    exact ⟨q, k, by cases e; exact h⟩
  · rintro ⟨q, k, h⟩
    exact ⟨_, h, rfl⟩
theorem pw_get {β : Type} {R : β → β → Prop} {l : List β} (h : l.Pairwise R) {i j : Nat} {x y : β} (hij : i < j) (hx : l[i]? = some x) (hy : l[j]? = some y) : R x y := by
  obtain ⟨h1, e1⟩ := List.getElem?_eq_some_iff.mp hx
  obtain ⟨h2, e2⟩ := List.getElem?_eq_some_iff.mp hy
  have := List.pairwise_iff_getElem.mp h i j h1 h2 hij
  rw [e1, e2] at this
  exact this
/-- one key, one entry -/
theorem ent_uniq {D : List (Ent α)} (nd : (D.map (·.1)).Nodup) {x : α} {q q' : Option α} {k k' : Nat} (h : (x, q, k) ∈ D) (h' : (x, q', k') ∈ D) : q = q' ∧ k = k' := by
  obtain ⟨i, hi⟩ := List.mem_iff_getElem?.mp h
  obtain ⟨j, hj⟩ := List.mem_iff_getElem?.mp h'
  have ei : (D.map (·.1))[i]? = some x := by rw [List.getElem?_map, hi]; rfl
  have ej : (D.map (·.1))[j]? = some x := by rw [List.getElem?_map, hj]; rfl
  have : i = j := (List.getElem?_inj (List.getElem?_eq_some_iff.mp ei).1 nd).mp (ei.trans ej.symm)
  subst this
  rw [hi] at hj
  cases hj
  exact ⟨rfl, rfl⟩
/-- what stands behind has no less depth -/
theorem ent_later {nb : α → List α} {r : α} {D : List (Ent α)} {P Q' : List α} {c z : α} (b : Bf nb r D P (c :: Q')) {q q' : Option α} {k k' : Nat} (hc : (c, q, k) ∈ D) (hz : (z, q', k') ∈ D) (h : z ∈ c :: Q') : k ≤ k' := by
  have nd : (D.map (·.1)).Nodup := by rw [b.keys]; exact b.nd
  obtain ⟨j, hj⟩ := List.mem_iff_getElem?.mp h
  have ec : (D.map (·.1))[P.length]? = some c := by rw [b.keys, List.getElem?_append_right (Nat.le_refl _), Nat.sub_self]; rfl
  have ez : (D.map (·.1))[P.length + j]? = some z := by rw [b.keys, List.getElem?_append_right (by omega), Nat.add_sub_cancel_left]; exact hj
  rw [List.getElem?_map] at ec ez
  cases e1 : D[P.length]? with
  | none => rw [e1] at ec; cases ec
  | some t1 =>
    cases e2 : D[P.length + j]? with
    | none => rw [e2] at ez; cases ez
    | some t2 =>
      rw [e1] at ec
      rw [e2] at ez
      have f1 : t1.1 = c := by simpa using ec
      have f2 : t2.1 = z := by simpa using ez
      obtain ⟨t11, t12, t13⟩ := t1
      obtain ⟨t21, t22, t23⟩ := t2
      simp only at f1 f2
      subst f1
      subst f2
      obtain ⟨_, z1⟩ := ent_uniq nd hc (List.mem_of_getElem? e1)
      obtain ⟨_, z2⟩ := ent_uniq nd hz (List.mem_of_getElem? e2)
      subst z1
      subst z2
      by_cases j0 : j = 0
      · subst j0
        rw [Nat.add_zero, e1] at e2
        cases e2
        exact Nat.le_refl _
      · exact pw_get b.srt (show P.length < P.length + j by omega) e1 e2
/-- what is near stands there -/
theorem bf_near {nb : α → List α} {r : α} {D : List (Ent α)} {P Q' : List α} {c : α} (b : Bf nb r D P (c :: Q')) {q : Option α} {k : Nat} (hc : (c, q, k) ∈ D) : ∀ j, j ≤ k → ∀ y ∈ lk nb r j, ∃ q' k', (y, q', k') ∈ D ∧ k' ≤ j
  | 0, _, y, hy => by
    rw [List.mem_singleton.mp hy]
    exact ⟨none, 0, b.root, Nat.le_refl _⟩
  | j + 1, hj, y, hy => by
    rcases lk_mem.mp hy with h | ⟨z, hz, h⟩
    · obtain ⟨q', k', h1, h2⟩ := bf_near b hc j (by omega) y h
      exact ⟨q', k', h1, by omega⟩
    · obtain ⟨q', k', h1, h2⟩ := bf_near b hc j (by omega) z hz
      have hk : z ∈ P ++ c :: Q' := by rw [← b.keys]; exact ent_key.mpr ⟨q', k', h1⟩
      rcases List.mem_append.mp hk with hp | hq
      · obtain ⟨q2, k2, h3, h4⟩ := b.dn z hp q' k' h1 y h
        exact ⟨q2, k2, h3, by omega⟩
      · have := ent_later b hc h1 hq
        omega
theorem bf_done {nb : α → List α} {r : α} {D : List (Ent α)} {P : List α} (b : Bf nb r D P []) : ∀ j, ∀ y ∈ lk nb r j, y ∈ D.map (·.1)
  | 0, y, hy => by
    rw [List.mem_singleton.mp hy]
    exact ent_key.mpr ⟨_, _, b.root⟩
  | j + 1, y, hy => by
    rcases lk_mem.mp hy with h | ⟨z, hz, h⟩
    · exact bf_done b j y h
    · have hk := bf_done b j z hz
      obtain ⟨q, k, h1⟩ := ent_key.mp hk
      rw [b.keys, List.append_nil] at hk
      obtain ⟨q2, k2, h3, _⟩ := b.dn z hk q k h1 y h
      exact ent_key.mpr ⟨q2, k2, h3⟩
theorem bf_in {nb : α → List α} {r : α} {D : List (Ent α)} {P Q : List α} (b : Bf nb r D P Q) : ∀ (k : Nat) (x : α) (q : Option α), (x, q, k) ∈ D → x ∈ lk nb r k
  | 0, x, q, h => by
    rcases b.par _ h with e | ⟨p, k, _, e, _⟩
    · cases e
      exact lk_root
    · cases e
  | k + 1, x, q, h => by
    rcases b.par _ h with e | ⟨p, k2, _, e, ⟨q2, h2⟩, hn⟩
    · cases e
    · have : k = k2 := by simpa using e
      subst this
      exact lk_next (bf_in b k p q2 h2) hn
/-! one turn -/
structure Vi (nb : α → List α) (r c : α) (q0 : Option α) (k : Nat) (P Q' : List α) (D0 D : List (Ent α)) (N : List α) (done : List α) : Prop where
  keys : D.map (·.1) = P ++ c :: (Q' ++ N)
  nd : (P ++ c :: (Q' ++ N)).Nodup
  sub : ∀ t ∈ D0, t ∈ D
  new : ∀ t ∈ D, t ∈ D0 ∨ (t.2.1 = some c ∧ t.2.2 = k + 1 ∧ t.1 ∈ nb c)
  top : ∀ t ∈ D, t.2.2 ≤ k + 1
  srt : D.Pairwise fun s t => s.2.2 ≤ t.2.2
  seen : ∀ y ∈ done, y ∈ D.map (·.1)
theorem vi_step {nb : α → List α} {r c : α} {q0 : Option α} {k : Nat} {P Q' : List α} {D0 : List (Ent α)} : ∀ {ms done : List α} {D : List (Ent α)} {N : List α}, Vi nb r c q0 k P Q' D0 D N done → (∀ m ∈ ms, m ∈ nb c) →
    ∃ D2 N2, visit c k ms (D, Q' ++ N) = (D2, Q' ++ N2) ∧ Vi nb r c q0 k P Q' D0 D2 N2 (done ++ ms)
  | [], done, D, N, v, _ => ⟨D, N, rfl, by rw [List.append_nil]; exact v⟩
  | m :: ms, done, D, N, v, h => by
    have hm := h m List.mem_cons_self
    have hr : ∀ x ∈ ms, x ∈ nb c := fun x hx => h x (List.mem_cons_of_mem _ hx)
    unfold visit
    by_cases c1 : m ∈ D.map (·.1)
    · rw [if_pos c1]
      obtain ⟨D2, N2, h1, h2⟩ := vi_step (ms := ms) (done := done ++ [m]) (D := D) (N := N) ⟨v.keys, v.nd, v.sub, v.new, v.top, v.srt, fun y hy => by
        rcases List.mem_append.mp hy with z | z
        · exact v.seen y z
        · rw [List.mem_singleton.mp z]; exact c1⟩ hr
      exact ⟨D2, N2, h1, by rw [List.append_assoc] at h2; exact h2⟩
    · rw [if_neg c1]
      have ek : (D ++ [(m, some c, k + 1)]).map (·.1) = P ++ c :: (Q' ++ (N ++ [m])) := by
        rw [List.map_append, v.keys]
        simp
      have v2 : Vi nb r c q0 k P Q' D0 (D ++ [(m, some c, k + 1)]) (N ++ [m]) (done ++ [m]) := by
        refine ⟨ek, ?_, fun t ht => List.mem_append_left _ (v.sub t ht), fun t ht => ?_, fun t ht => ?_, ?_, fun y hy => ?_⟩
        · rw [← ek, List.map_append]
          refine List.nodup_append.mpr ⟨by rw [v.keys]; exact v.nd, by simp, fun a ha b hb e => ?_⟩
          have : b = m := by simpa using hb
          rw [e, this] at ha
          exact c1 ha
        · rcases List.mem_append.mp ht with z | z
          · exact v.new t z
          · rw [List.mem_singleton.mp z]
            exact .inr ⟨rfl, rfl, hm⟩
        · rcases List.mem_append.mp ht with z | z
          · exact v.top t z
          · rw [List.mem_singleton.mp z]
            exact Nat.le_refl _
        · refine List.pairwise_append.mpr ⟨v.srt, by simp, fun a ha b hb => ?_⟩
          rw [List.mem_singleton.mp hb]
          exact v.top a ha
        · rw [List.map_append]
          rcases List.mem_append.mp hy with z | z
          · exact List.mem_append_left _ (v.seen y z)
          · rw [List.mem_singleton.mp z]
            exact List.mem_append_right _ (by simp)
      obtain ⟨D2, N2, h1, h2⟩ := vi_step (ms := ms) v2 hr
      refine ⟨D2, N2, ?_, by rw [List.append_assoc] at h2; exact h2⟩
      rw [← h1, List.append_assoc]
theorem bf_turn {nb : α → List α} {r c : α} {D : List (Ent α)} {P Q' : List α} (b : Bf nb r D P (c :: Q')) {q : Option α} {k : Nat} (hc : (c, q, k) ∈ D) :
    ∃ D2 N2, visit c k (nb c) (D, Q') = (D2, Q' ++ N2) ∧ Bf nb r D2 (P ++ [c]) (Q' ++ N2) ∧ ∀ t ∈ D2, t ∈ D ∨ t.2.2 = k + 1 := by
  have v : Vi nb r c q k P Q' D D [] [] := ⟨by rw [b.keys, List.append_nil], by rw [List.append_nil]; exact b.nd, fun t h => h, fun t h => .inl h, b.lvl c Q' rfl q k hc, b.srt, fun y hy => by cases hy⟩
  obtain ⟨D2, N2, h1, v2⟩ := vi_step (ms := nb c) v fun m h => h
  rw [List.append_nil] at h1
  rw [List.nil_append] at v2
  have ek : D2.map (·.1) = (P ++ [c]) ++ (Q' ++ N2) := by rw [v2.keys]; simp
  have nd2 : ((P ++ [c]) ++ (Q' ++ N2)).Nodup := by rw [← ek, v2.keys]; exact v2.nd
  have ndD2 : (D2.map (·.1)).Nodup := by rw [ek]; exact nd2
  refine ⟨D2, N2, h1, ⟨ek, nd2, v2.sub _ b.root, fun t ht => ?_, fun z hz q' k' hzd y hy => ?_, v2.srt, fun c' Q2 e q' k' hc' t ht => ?_⟩, fun t ht => ?_⟩
  · rcases v2.new t ht with h | ⟨h2, h3, h4⟩
    · rcases b.par t h with e | ⟨p, j, e1, e2, ⟨q2, e3⟩, e4⟩
      · exact .inl e
      · exact .inr ⟨p, j, e1, e2, ⟨q2, v2.sub _ e3⟩, e4⟩
    · exact .inr ⟨c, k, h2, h3, ⟨q, v2.sub _ hc⟩, h4⟩
  · rcases List.mem_append.mp hz with hp | hp
    · have hzk : z ∈ D.map (·.1) := by rw [b.keys]; exact List.mem_append_left _ hp
      obtain ⟨q2, k2, h2⟩ := ent_key.mp hzk
      obtain ⟨_, e2⟩ := ent_uniq ndD2 hzd (v2.sub _ h2)
      subst e2
      obtain ⟨q3, k3, h3, h4⟩ := b.dn z hp q2 k' h2 y hy
      exact ⟨q3, k3, v2.sub _ h3, h4⟩
    · have e := List.mem_singleton.mp hp
      subst e
      obtain ⟨_, e2⟩ := ent_uniq ndD2 hzd (v2.sub _ hc)
      subst e2
      obtain ⟨q3, k3, h3⟩ := ent_key.mp (v2.seen y hy)
      exact ⟨q3, k3, h3, v2.top _ h3⟩
  · have top := v2.top t ht
    have : k ≤ k' := by
      have hm : c' ∈ D2.map (·.1) := ent_key.mpr ⟨q', k', hc'⟩
      have b2 : ∀ {a : Nat}, D2[a]? = some (c', q', k') → P.length < a → k ≤ k' := fun {a} ha hl => by
        have e0 : (D2.map (·.1))[P.length]? = some c := by rw [v2.keys, List.getElem?_append_right (Nat.le_refl _), Nat.sub_self]; rfl
        rw [List.getElem?_map] at e0
        cases e1 : D2[P.length]? with
        | none => rw [e1] at e0; cases e0
        | some t1 =>
          rw [e1] at e0
          obtain ⟨t11, t12, t13⟩ := t1
          have f1 : t11 = c := by simpa using e0
          subst f1
          obtain ⟨_, z1⟩ := ent_uniq ndD2 (v2.sub _ hc) (List.mem_of_getElem? e1)
          subst z1
          exact pw_get v2.srt hl e1 ha
      obtain ⟨a, ha⟩ := List.mem_iff_getElem?.mp hc'
      have ea : (D2.map (·.1))[a]? = some c' := by rw [List.getElem?_map, ha]; rfl
      have ea2 : (D2.map (·.1))[P.length + 1]? = some c' := by
        rw [ek, e, List.getElem?_append_right (by simp)]
        simp
      have : a = P.length + 1 := (List.getElem?_inj (List.getElem?_eq_some_iff.mp ea).1 ndD2).mp (ea.trans ea2.symm)
      exact b2 ha (by omega)
    omega
  · rcases v2.new t ht with h | h
    · exact .inl h
    · exact .inr h.2.1
end
end Lw

set_option linter.all false
set_option maxRecDepth 1000000
namespace Lw
open PySem L2 VL
/-! ### all chains from an order, as lists of codes: a search in each class -/
def eqL : List Nat → List Nat → Bool
  | [], [] => true
  | x :: xs, y :: ys => bif Nat.beq x y then eqL xs ys else false
  | _, _ => false
def dif1 : List Nat → List Nat → Bool
  | x :: xs, y :: ys => bif Nat.beq x y then dif1 xs ys else eqL xs ys
  | _, _ => false
def lastN : List Nat → Nat
  | [] => 0
  | [x] => x
  | _ :: y :: ys => lastN (y :: ys)
def anyD (y : List Nat) : List (List Nat) → Bool
  | [] => false
  | f :: fs => bif dif1 f y then true else anyD y fs
def part (p : List Nat → Bool) (k : List (List Nat) → List (List Nat) → Bool) : List (List Nat) → List (List Nat) → List (List Nat) → Bool
  | [], near, far => k near far
  | y :: ys, near, far => bif p y then part p k ys (y :: near) far else part p k ys near (y :: far)
def bfs : Nat → List (List Nat) → List (List Nat) → Bool
  | _, _, [] => true
  | 0, _, _ :: _ => false
  | j + 1, fr, y :: ys => part (fun z => anyD z fr) (fun near far => bfs j near far) (y :: ys) [] []
def cls (r : Nat) : Nat → List (List Nat) → Bool
  | _, [] => true
  | 0, _ :: _ => false
  | f + 1, c :: cs => part (fun z => Nat.beq (lastN z) (lastN c)) (fun near far => bif bfs r [c] near then cls r f far else false) cs [] []
def chc : Nat → List Int → List (List Nat)
  | 0, _ => [[]]
  | k + 1, o => (steps0 o).flatMap fun y => (chc k y).map fun l => codeN y :: l
def chk10 (k : Nat) (o : List Int) : Bool := cls 8 500 (chc k o)
def chkn (n : Nat) : Bool := (ords n).all fun o => chk10 1 o && chk10 2 o && chk10 3 o && chk10 4 o
theorem chk_1 : chkn 1 = true := by decide +kernel
theorem chk_2 : chkn 2 = true := by decide +kernel
theorem chk_3 : chkn 3 = true := by decide +kernel
theorem chk_4 : chkn 4 = true := by decide +kernel
end Lw

set_option linter.all false
set_option maxRecDepth 1000000
namespace Lw
open PySem L2 VL
theorem chk_5a : ((ords 5).all fun o => chk10 1 o && chk10 2 o && chk10 3 o) = true := by decide +kernel
def prt (i : Nat) : Bool := (((ords 5).drop (24 * i)).take 24).all (chk10 4)
theorem chk_50 : prt 0 = true := by decide +kernel
theorem chk_51 : prt 1 = true := by decide +kernel
theorem chk_52 : prt 2 = true := by decide +kernel
theorem chk_53 : prt 3 = true := by decide +kernel
theorem chk_54 : prt 4 = true := by decide +kernel
theorem all_drop {α : Type} {p : α → Bool} {l : List α} {j : Nat} (h1 : ((l.drop j).take 24).all p = true) (h2 : (l.drop (j + 24)).all p = true) : (l.drop j).all p = true := by
  rw [← List.take_append_drop 24 (l.drop j), List.all_append, h1, List.drop_drop, h2]
  rfl
theorem ords5_end : (ords 5).drop 120 = [] := by decide +kernel
theorem chk_5b : (ords 5).all (chk10 4) = true := by
  have h5 : ((ords 5).drop 120).all (chk10 4) = true := by rw [ords5_end]; rfl
  have h4 := all_drop (j := 96) chk_54 h5
  have h3 := all_drop (j := 72) chk_53 h4
  have h2 := all_drop (j := 48) chk_52 h3
  have h1 := all_drop (j := 24) chk_51 h2
  have h0 := all_drop (j := 0) chk_50 h1
  exact h0
theorem chk_all {n : Nat} (h1 : 1 ≤ n) (h5 : n ≤ 5) {o : List Int} (ho : Od n o) {k : Nat} (k1 : 1 ≤ k) (k4 : k ≤ 4) : chk10 k o = true := by
  have hm := od_ords.mpr ho
  have key : (chk10 1 o && chk10 2 o && chk10 3 o && chk10 4 o) = true := by
    have : n = 1 ∨ n = 2 ∨ n = 3 ∨ n = 4 ∨ n = 5 := by omega
    rcases this with e | e | e | e | e
    · rw [e] at hm; exact List.all_eq_true.mp chk_1 o hm
    · rw [e] at hm; exact List.all_eq_true.mp chk_2 o hm
    · rw [e] at hm; exact List.all_eq_true.mp chk_3 o hm
    · rw [e] at hm; exact List.all_eq_true.mp chk_4 o hm
    · rw [e] at hm
      rw [Bool.and_eq_true]
      exact ⟨List.all_eq_true.mp chk_5a o hm, List.all_eq_true.mp chk_5b o hm⟩
  rw [Bool.and_eq_true, Bool.and_eq_true, Bool.and_eq_true] at key
  obtain ⟨⟨⟨q1, q2⟩, q3⟩, q4⟩ := key
  have : k = 1 ∨ k = 2 ∨ k = 3 ∨ k = 4 := by omega
  rcases this with e | e | e | e
  · rw [e]; exact q1
  · rw [e]; exact q2
  · rw [e]; exact q3
  · rw [e]; exact q4
end Lw

set_option linter.all false
set_option maxRecDepth 1000000
namespace Lw
open PySem L2 VL
/-! ### what the search in codes says -/
theorem part_true {p : List Nat → Bool} {k : List (List Nat) → List (List Nat) → Bool} : ∀ (ys near far : List (List Nat)), part p k ys near far = true → k ((ys.filter p).reverse ++ near) ((ys.filter fun y => !p y).reverse ++ far) = true
  | [], near, far, h => h
  | y :: ys, near, far, h => by
    unfold part at h
    cases e : p y with
    | true =>
      rw [e] at h
      have := part_true ys (y :: near) far h
      simpa [List.filter_cons, e] using this
    | false =>
      rw [e] at h
      have := part_true ys near (y :: far) h
      simpa [List.filter_cons, e] using this
theorem anyD_ok {y : List Nat} : ∀ {fs : List (List Nat)}, anyD y fs = true → ∃ f ∈ fs, dif1 f y = true
  | [], h => by cases h
  | f :: fs, h => by
    unfold anyD at h
    cases e : dif1 f y with
    | true => exact ⟨f, List.mem_cons_self, e⟩
    | false =>
      rw [e] at h
      obtain ⟨g, hg, h2⟩ := anyD_ok (fs := fs) h
      exact ⟨g, List.mem_cons_of_mem _ hg, h2⟩
theorem mono_le {Q : Nat → List Nat → Prop} (mo : ∀ i y, Q i y → Q (i + 1) y) {i j : Nat} (h : i ≤ j) {y : List Nat} (q : Q i y) : Q j y := by
  induction h with
  | refl => exact q
  | step _ ih => exact mo _ _ ih
theorem bfs_ok {V : List Nat → Prop} {Q : Nat → List Nat → Prop} (hq : ∀ i f y, Q i f → V y → dif1 f y = true → Q (i + 1) y) (mo : ∀ i y, Q i y → Q (i + 1) y) :
    ∀ (j i : Nat) (fr rest : List (List Nat)), bfs j fr rest = true → (∀ f ∈ fr, Q i f) → (∀ y ∈ rest, V y) → ∀ y ∈ rest, Q (i + j) y
  | _, _, _, [], _, _, _, _, hy => by cases hy
  | 0, _, _, _ :: _, h, _, _, _, _ => by cases h
  | j + 1, i, fr, z :: zs, h, hf, hv, y, hy => by
    have h2 := part_true (p := fun z => anyD z fr) (k := fun near far => bfs j near far) (z :: zs) [] [] h
    rw [List.append_nil, List.append_nil] at h2
    have near : ∀ x ∈ z :: zs, anyD x fr = true → Q (i + 1) x := fun x hx ha => by
      obtain ⟨f, h3, h4⟩ := anyD_ok ha
      exact hq i f x (hf f h3) (hv x hx) h4
    have far := bfs_ok hq mo j (i + 1) _ _ h2 (fun f h3 => by
      obtain ⟨h4, h5⟩ := List.mem_filter.mp (List.mem_reverse.mp h3)
      exact near f h4 h5) (fun x hx => hv x (List.mem_filter.mp (List.mem_reverse.mp hx)).1)
    cases e : anyD y fr with
    | true => exact mono_le mo (by omega) (near y hy e)
    | false =>
      have := far y (List.mem_reverse.mpr (List.mem_filter.mpr ⟨hy, by rw [e]; rfl⟩))
      rwa [show i + 1 + j = i + (j + 1) by omega] at this
theorem cls_ok {r : Nat} : ∀ (f : Nat) (T : List (List Nat)), cls r f T = true → ∀ y ∈ T, ∃ e ∈ T, lastN e = lastN y ∧ ∃ near, bfs r [e] near = true ∧ (∀ z ∈ near, z ∈ T ∧ lastN z = lastN e) ∧ ∀ z ∈ T, lastN z = lastN e → z = e ∨ z ∈ near
  | _, [], _, y, hy => by cases hy
  | 0, _ :: _, h, _, _ => by cases h
  | f + 1, c :: cs, h, y, hy => by
    have h2 := part_true (p := fun z => Nat.beq (lastN z) (lastN c)) (k := fun near far => bif bfs r [c] near then cls r f far else false) cs [] [] h
    rw [List.append_nil, List.append_nil] at h2
    cases eb : bfs r [c] (cs.filter fun z => Nat.beq (lastN z) (lastN c)).reverse with
    | false =>
      simp only [eb] at h2
      cases h2
    | true =>
      simp only [eb] at h2
      have h2 : cls r f (cs.filter fun z => !Nat.beq (lastN z) (lastN c)).reverse = true := h2
      have hin : ∀ z ∈ cs, lastN z = lastN c → z ∈ (cs.filter fun z => Nat.beq (lastN z) (lastN c)).reverse := fun z hz e => List.mem_reverse.mpr (List.mem_filter.mpr ⟨hz, by rw [e]; exact Nat.beq_refl _⟩)
      have hfar : ∀ z ∈ cs, lastN z ≠ lastN c → z ∈ (cs.filter fun z => !Nat.beq (lastN z) (lastN c)).reverse := fun z hz e => List.mem_reverse.mpr (List.mem_filter.mpr ⟨hz, by
        rw [Bool.not_eq_true', Bool.eq_false_iff]
        exact fun w => e (Nat.eq_of_beq_eq_true w)⟩)
      by_cases ey : lastN y = lastN c
      · refine ⟨c, List.mem_cons_self, ey.symm, _, eb, fun z hz => ?_, fun z hz e => ?_⟩
        · obtain ⟨q1, q2⟩ := List.mem_filter.mp (List.mem_reverse.mp hz)
          exact ⟨List.mem_cons_of_mem _ q1, Nat.eq_of_beq_eq_true q2⟩
        · rcases List.mem_cons.mp hz with w | w
          · exact .inl w
          · exact .inr (hin z w e)
      · have hy2 : y ∈ cs := by
          rcases List.mem_cons.mp hy with w | w
          · exact absurd (by rw [w]) ey
          · exact w
        obtain ⟨e, he, e1, near, q1, q2, q3⟩ := cls_ok f _ h2 y (hfar y hy2 ey)
        have sub : ∀ z ∈ (cs.filter fun z => !Nat.beq (lastN z) (lastN c)).reverse, z ∈ c :: cs := fun z hz => List.mem_cons_of_mem _ (List.mem_filter.mp (List.mem_reverse.mp hz)).1
        refine ⟨e, sub e he, e1, near, q1, fun z hz => ⟨sub z (q2 z hz).1, (q2 z hz).2⟩, fun z hz ez => ?_⟩
        have nz : lastN z ≠ lastN c := by rw [ez, e1]; exact ey
        rcases List.mem_cons.mp hz with w | w
        · exact absurd (by rw [w]) nz
        · exact q3 z (hfar z w nz) ez
/-! ### chains and their codes -/
theorem chc_mem : ∀ (k : Nat) (a : List Int) (c : List (List Int)), stepsOk (a :: c) = true → c.length = k → c.map codeN ∈ chc k a
  | 0, a, c, _, hl => by
    rw [List.eq_nil_of_length_eq_zero hl]
    exact List.mem_singleton.mpr rfl
  | k + 1, a, [], _, hl => by cases hl
  | k + 1, a, y :: c, h, hl => by
    unfold stepsOk at h
    rw [Bool.and_eq_true] at h
    exact List.mem_flatMap.mpr ⟨y, (up_perm a).mem_iff.mp (List.contains_iff_mem.mp h.1), List.mem_map.mpr ⟨_, chc_mem k y c h.2 (Nat.succ.inj hl), rfl⟩⟩
theorem chc_of {n : Nat} : ∀ (k : Nat) (a : List Int), Od n a → ∀ l ∈ chc k a, ∃ c : List (List Int), stepsOk (a :: c) = true ∧ (∀ o ∈ c, Od n o) ∧ c.length = k ∧ c.map codeN = l
  | 0, a, _, l, hl => ⟨[], rfl, fun o ho => (by cases ho), rfl, (List.mem_singleton.mp hl).symm⟩
  | k + 1, a, ha, l, hl => by
    obtain ⟨y, hy, h2⟩ := List.mem_flatMap.mp hl
    obtain ⟨l2, h3, rfl⟩ := List.mem_map.mp h2
    have hy2 := (up_perm a).mem_iff.mpr hy
    have hyo := steps_od ha y hy2
    obtain ⟨c, q1, q2, q3, q4⟩ := chc_of k y hyo l2 h3
    refine ⟨y :: c, ?_, fun o ho => ?_, by rw [List.length_cons, q3], by rw [List.map_cons, q4]⟩
    · unfold stepsOk
      rw [List.contains_iff_mem.mpr hy2, q1]
      rfl
    · rcases List.mem_cons.mp ho with w | w
      · rw [w]; exact hyo
      · exact q2 o w
theorem eqL_ok {n : Nat} (hn : n ≤ 8) : ∀ {u v : List (List Int)}, (∀ o ∈ u, Od n o) → (∀ o ∈ v, Od n o) → eqL (u.map codeN) (v.map codeN) = true → u = v
  | [], [], _, _, _ => rfl
  | [], _ :: _, _, _, h => by cases h
  | _ :: _, [], _, _, h => by cases h
  | x :: u, y :: v, hu, hv, h => by
    rw [List.map_cons, List.map_cons] at h
    unfold eqL at h
    cases e : Nat.beq (codeN x) (codeN y) with
    | false => rw [e] at h; cases h
    | true =>
      rw [e] at h
      have h : eqL (u.map codeN) (v.map codeN) = true := h
      rw [codeN_inj (hu x List.mem_cons_self) (hv y List.mem_cons_self) hn (Nat.eq_of_beq_eq_true e), eqL_ok hn (fun o ho => hu o (List.mem_cons_of_mem _ ho)) (fun o ho => hv o (List.mem_cons_of_mem _ ho)) h]
theorem dif1_ok {n : Nat} (hn : n ≤ 8) : ∀ {u v : List (List Int)}, (∀ o ∈ u, Od n o) → (∀ o ∈ v, Od n o) → dif1 (u.map codeN) (v.map codeN) = true → ∃ p d, p < u.length ∧ v = u.set p d ∧ d ≠ u.getD p []
  | [], _, _, _, h => by cases h
  | _ :: _, [], _, _, h => by cases h
  | x :: u, y :: v, hu, hv, h => by
    rw [List.map_cons, List.map_cons] at h
    unfold dif1 at h
    have hu2 : ∀ o ∈ u, Od n o := fun o ho => hu o (List.mem_cons_of_mem _ ho)
    have hv2 : ∀ o ∈ v, Od n o := fun o ho => hv o (List.mem_cons_of_mem _ ho)
    cases e : Nat.beq (codeN x) (codeN y) with
    | true =>
      rw [e] at h
      have h : dif1 (u.map codeN) (v.map codeN) = true := h
      obtain ⟨p, d, h1, h2, h3⟩ := dif1_ok hn hu2 hv2 h
      refine ⟨p + 1, d, by rw [List.length_cons]; omega, ?_, h3⟩
      rw [List.set_cons_succ, ← h2, codeN_inj (hu x List.mem_cons_self) (hv y List.mem_cons_self) hn (Nat.eq_of_beq_eq_true e)]
    | false =>
      rw [e] at h
      have h : eqL (u.map codeN) (v.map codeN) = true := h
      refine ⟨0, y, by rw [List.length_cons]; omega, ?_, fun z => ?_⟩
      · rw [List.set_cons_zero, eqL_ok hn hu2 hv2 h]
      · have z : y = x := z
        rw [z, Nat.beq_refl] at e
        cases e
theorem lastN_ok : ∀ {c : List (List Int)}, 0 < c.length → lastN (c.map codeN) = codeN (c.getD (c.length - 1) [])
  | [], h => absurd h (Nat.lt_irrefl _)
  | [x], _ => rfl
  | x :: y :: c, _ => by
    have := lastN_ok (c := y :: c) (by simp)
    rw [List.map_cons] at this
    rw [List.map_cons, List.map_cons, lastN, this]
    rfl
structure Ck (n : Nat) (a b : List Int) (k : Nat) (c : List (List Int)) : Prop where
  ch : Ch n c
  len : c.length = k + 1
  fst : c.getD 0 [] = a
  lst : c.getD k [] = b
def nb10 (c : List (List Int)) : List (List (List Int)) := (List.range (c.length - 2)).map fun i => changed c (i + 1)
theorem ch_changed {n : Nat} (h1 : 1 ≤ n) (h6 : n ≤ 6) {u v : List (List Int)} (hu : Ch n u) (hv : Ch n v) {p : Nat} {d : List Int} (e : v = u.set p d) (hd : d ≠ u.getD p []) (hp1 : 1 ≤ p) (hp2 : p + 1 < u.length) : v = changed u p := by
  obtain ⟨_, d2, q1, q2, _⟩ := change_facts h1 h6 hu hp1 hp2
  rw [q2, e]
  have lv : v.length = u.length := by rw [e, List.length_set]
  have g0 : v.getD (p - 1) [] = u.getD (p - 1) [] := by rw [e, getD_set (by omega), if_neg (by omega)]
  have g1 : v.getD p [] = d := by rw [e, getD_set (by omega), if_pos rfl]
  have g2 : v.getD (p + 1) [] = u.getD (p + 1) [] := by rw [e, getD_set (by omega), if_neg (by omega)]
  have s1 := hv.step (p := p - 1) (by omega)
  rw [show p - 1 + 1 = p by omega, g0, g1] at s1
  have s2 := hv.step (p := p) (by omega)
  rw [g1, g2] at s2
  have : d ∈ othersOf u p := List.mem_filter.mpr ⟨List.mem_filter.mpr ⟨s1, List.contains_iff_mem.mpr s2⟩, by rw [decide_eq_false hd]; rfl⟩
  rw [q1] at this
  rw [List.mem_singleton.mp this]
section
variable {n k : Nat} {a b : List Int} (h1 : 1 ≤ n) (h6 : n ≤ 6)
include h1 h6
theorem nb_facts {c : List (List Int)} (h : Ck n a b k c) {p : Nat} (hp1 : 1 ≤ p) (hp2 : p < k) : Ck n a b k (changed c p) ∧ changed (changed c p) p = c ∧ ∃ d, d ≠ c.getD p [] ∧ changed c p = c.set p d := by
  have hl := h.len
  obtain ⟨_, d, q1, q2, q3, q4⟩ := change_facts h1 h6 h.ch hp1 (by omega)
  have hd : d ∈ othersOf c p := by rw [q1]; exact List.mem_singleton.mpr rfl
  have hd2 := (List.mem_filter.mp hd).2
  rw [q2]
  refine ⟨⟨q3, by rw [List.length_set]; exact hl, by rw [getD_set (by omega), if_neg (by omega)]; exact h.fst, by rw [getD_set (by omega), if_neg (by omega)]; exact h.lst⟩, q4, d, fun z => ?_, rfl⟩
  rw [decide_eq_true z] at hd2
  cases hd2
theorem nb_mem {c x : List (List Int)} (h : Ck n a b k c) : x ∈ nb10 c ↔ ∃ p, 1 ≤ p ∧ p < k ∧ x = changed c p := by
  have hl := h.len
  unfold nb10
  rw [List.mem_map]
  constructor
  · rintro ⟨i, hi, rfl⟩
    have := List.mem_range.mp hi
    exact ⟨i + 1, by omega, by omega, rfl⟩
  · rintro ⟨p, q1, q2, rfl⟩
    exact ⟨p - 1, List.mem_range.mpr (by omega), by rw [show p - 1 + 1 = p by omega]⟩
theorem nb_ck : ∀ z, Ck n a b k z → ∀ x ∈ nb10 z, Ck n a b k x := fun z hz x hx => by
  obtain ⟨p, q1, q2, rfl⟩ := (nb_mem h1 h6 hz).mp hx
  exact (nb_facts h1 h6 hz q1 q2).1
theorem nb_sym : ∀ z, Ck n a b k z → ∀ x ∈ nb10 z, z ∈ nb10 x := fun z hz x hx => by
  obtain ⟨p, q1, q2, rfl⟩ := (nb_mem h1 h6 hz).mp hx
  obtain ⟨r1, r2, _⟩ := nb_facts h1 h6 hz q1 q2
  exact (nb_mem h1 h6 r1).mpr ⟨p, q1, q2, r2.symm⟩
theorem nb_adj {u v : List (List Int)} (hu : Ck n a b k u) (hv : Ck n a b k v) (h : dif1 ((u.drop 1).map codeN) ((v.drop 1).map codeN) = true) : v ∈ nb10 u := by
  have lu := hu.len
  have lv := hv.len
  obtain ⟨p, d, q1, q2, q3⟩ := dif1_ok (n := n) (by omega) (fun o ho => hu.ch.od o (List.mem_of_mem_drop ho)) (fun o ho => hv.ch.od o (List.mem_of_mem_drop ho)) h
  have q3 : d ≠ u.getD (p + 1) [] := by
    intro z
    apply q3
    rw [z, List.getD_eq_getElem?_getD, List.getD_eq_getElem?_getD, List.getElem?_drop, Nat.add_comm]
  rw [List.length_drop] at q1
  have ev : v = u.set (p + 1) d := by
    have f1 := hu.fst
    have f2 := hv.fst
    cases u with
    | nil => simp at lu
    | cons x u =>
      cases v with
      | nil => simp at lv
      | cons y v =>
        have f1 : x = a := f1
        have f2 : y = a := f2
        rw [List.set_cons_succ, f1, f2]
        exact congrArg (a :: ·) q2
  have hp : p + 1 ≠ k := fun z => by
    have e1 := hv.lst
    rw [ev, getD_set (by omega), if_pos z.symm] at e1
    rw [e1, z, hu.lst] at q3
    exact q3 rfl
  exact (nb_mem h1 h6 hu).mpr ⟨p + 1, by omega, by omega, ch_changed h1 h6 hu.ch hv.ch ev q3 (by omega) (by omega)⟩
theorem lk_sym {x : List (List Int)} (hx : Ck n a b k x) : ∀ (j : Nat) {y : List (List Int)}, y ∈ lk nb10 x j → x ∈ lk nb10 y j
  | 0, y, h => by
    rw [List.mem_singleton.mp h]
    exact lk_root
  | j + 1, y, h => by
    rcases lk_mem.mp h with h2 | ⟨z, h2, h3⟩
    · exact lk_up (lk_sym hx j h2)
    · have hz := lk_all (Ck n a b k) hx (nb_ck h1 h6) j z h2
      have e := lk_add (lk_next lk_root (nb_sym h1 h6 z hz y h3)) (lk_sym hx j h2)
      rwa [show 0 + 1 + j = j + 1 by omega] at e
end
theorem ck_cons {n k : Nat} {a b : List Int} {c : List (List Int)} (h : Ck n a b k c) : c = a :: c.drop 1 := by
  have l := h.len
  have f := h.fst
  cases c with
  | nil => simp at l
  | cons x c => exact congrArg (· :: c) (show x = a from f)
theorem codes_inj {n : Nat} (hn : n ≤ 8) : ∀ {u v : List (List Int)}, (∀ o ∈ u, Od n o) → (∀ o ∈ v, Od n o) → u.map codeN = v.map codeN → u = v
  | [], [], _, _, _ => rfl
  | [], _ :: _, _, _, h => by cases h
  | _ :: _, [], _, _, h => by cases h
  | x :: u, y :: v, hu, hv, h => by
    rw [List.map_cons, List.map_cons] at h
    obtain ⟨e1, e2⟩ := List.cons.inj h
    rw [codeN_inj (hu x List.mem_cons_self) (hv y List.mem_cons_self) hn e1, codes_inj hn (fun o ho => hu o (List.mem_cons_of_mem _ ho)) (fun o ho => hv o (List.mem_cons_of_mem _ ho)) e2]
/-- the chains between two orders hang together -/
theorem conn {n k : Nat} {a b : List Int} (h1 : 1 ≤ n) (h5 : n ≤ 5) (k1 : 1 ≤ k) (k4 : k ≤ 4) {c d : List (List Int)} (hc : Ck n a b k c) (hd : Ck n a b k d) : d ∈ lk nb10 c 16 := by
  have h6 : n ≤ 6 := by omega
  have ha : Od n a := by rw [← hc.fst]; exact hc.ch.at (by have := hc.len; omega)
  have hb : Od n b := by rw [← hc.lst]; exact hc.ch.at (by have := hc.len; omega)
  have cod : ∀ {x}, Ck n a b k x → (x.drop 1).map codeN ∈ chc k a ∧ lastN ((x.drop 1).map codeN) = codeN b := fun {x} hx => by
    have l := hx.len
    refine ⟨chc_mem k a _ (by rw [← ck_cons hx]; exact hx.ch.st) (by rw [List.length_drop]; omega), ?_⟩
    rw [lastN_ok (by rw [List.length_drop]; omega), List.length_drop, List.getD_eq_getElem?_getD, List.getElem?_drop, ← List.getD_eq_getElem?_getD, show 1 + (x.length - 1 - 1) = k by omega, hx.lst]
  obtain ⟨e, he, e1, near, q1, q2, q3⟩ := cls_ok 500 _ (chk_all h1 h5 ha k1 k4) _ (cod hc).1
  have e2 : lastN e = codeN b := e1.trans (cod hc).2
  have ex : ∀ l ∈ chc k a, lastN l = codeN b → ∃ x, Ck n a b k x ∧ (x.drop 1).map codeN = l := fun l hl el => by
    obtain ⟨x, r1, r2, r3, r4⟩ := chc_of k a ha l hl
    refine ⟨a :: x, ⟨⟨by simp, fun o ho => ?_, r1⟩, by rw [List.length_cons, r3], rfl, ?_⟩, r4⟩
    · rcases List.mem_cons.mp ho with w | w
      · rw [w]; exact ha
      · exact r2 o w
    · rw [← r4, lastN_ok (by omega)] at el
      have := codeN_inj (r2 _ (getD_mem2 (show x.length - 1 < x.length by omega))) hb (by omega) el
      rw [r3] at this
      rw [← this, show k = k - 1 + 1 by omega]
      rfl
  obtain ⟨x, hx, hxe⟩ := ex e he e2
  have reach := bfs_ok (V := fun y => ∃ z, Ck n a b k z ∧ (z.drop 1).map codeN = y) (Q := fun i f => ∃ z, Ck n a b k z ∧ (z.drop 1).map codeN = f ∧ z ∈ lk nb10 x i)
    (fun i f y ⟨z, r1, r2, r3⟩ ⟨w, s1, s2⟩ hdf => ⟨w, s1, s2, lk_next r3 (nb_adj h1 h6 r1 s1 (by rw [r2, s2]; exact hdf))⟩)
    (fun i y ⟨z, r1, r2, r3⟩ => ⟨z, r1, r2, lk_up r3⟩) 8 0 [e] near q1 (fun f hf => by rw [List.mem_singleton.mp hf]; exact ⟨x, hx, hxe, lk_root⟩)
    (fun y hy => ex y (q2 y hy).1 ((q2 y hy).2.trans e2))
  have all : ∀ {z}, Ck n a b k z → z ∈ lk nb10 x 8 := fun {z} hz => by
    have : ∃ w, Ck n a b k w ∧ (w.drop 1).map codeN = (z.drop 1).map codeN ∧ w ∈ lk nb10 x 8 := by
      rcases q3 _ (cod hz).1 ((cod hz).2.trans e2.symm) with r | r
      · exact ⟨x, hx, hxe.trans r.symm, lk_le lk_root (Nat.zero_le _)⟩
      · have := reach _ r
        rwa [Nat.zero_add] at this
    obtain ⟨w, r1, r2, r3⟩ := this
    have := codes_inj (n := n) (by omega) (fun o ho => r1.ch.od o (List.mem_of_mem_drop ho)) (fun o ho => hz.ch.od o (List.mem_of_mem_drop ho)) r2
    rw [ck_cons hz, ← this, ← ck_cons r1]
    exact r3
  exact lk_add (lk_sym h1 h6 hx 8 (all hc)) (all hd)
end Lw

set_option linter.all false
set_option maxRecDepth 1000000
namespace Lw
open PySem L2 VL
/-! ### chains between two orders: the two descriptions -/
theorem chs_ch {n : Nat} {a b : List Int} (ha : Od n a) : ∀ (k : Nat), ∀ c ∈ chs a b k, Ch n c ∧ c.getD 0 [] = a
  | 0, c, hc => by
    rw [List.mem_singleton.mp hc]
    exact ⟨⟨by simp, fun o ho => by rw [List.mem_singleton.mp ho]; exact ha, rfl⟩, rfl⟩
  | k + 1, c, hc => by
    obtain ⟨c0, h0, hc⟩ := List.mem_flatMap.mp hc
    obtain ⟨y, hy, rfl⟩ := List.mem_map.mp hc
    obtain ⟨q1, q2⟩ := chs_ch ha k c0 h0
    refine ⟨chain_snoc q1 (List.mem_filter.mp hy).1, ?_⟩
    rw [List.getD_eq_getElem?_getD, List.getElem?_append_left q1.pos, ← List.getD_eq_getElem?_getD, q2]
theorem chs_ck {n k : Nat} {a b : List Int} (h1 : 1 ≤ n) (h6 : n ≤ 6) (ha : Od n a) (hb : Od n b) (hab : bel a b = true) (hk : cnt b = cnt a + k) {c : List (List Int)} (hc : c ∈ chs a b k) : Ck n a b k c := by
  obtain ⟨q1, q2⟩ := chs_ch ha k c hc
  obtain ⟨r1, r2, r3, r4⟩ := chs_ok h1 h6 ha hab k c hc
  refine ⟨q1, r1, q2, ?_⟩
  have e : lastO c = c.getD k [] := by unfold lastO; rw [r1, Nat.add_sub_cancel]
  rcases bel_lt h1 h6 hb r2 r3 with z | z
  · rw [← e, z]
  · omega
theorem ch_bel {n : Nat} {c : List (List Int)} (h : Ch n c) {k : Nat} (hk : c.length = k + 1) : ∀ (j i : Nat), i + j = k → bel (c.getD i []) (c.getD k []) = true
  | 0, i, e => by
    have : i = k := by omega
    rw [this]
    exact bel_refl _
  | j + 1, i, e => by
    have s := h.step (p := i) (by omega)
    have o1 := h.at (p := i) (by omega)
    have o2 := h.at (p := i + 1) (by omega)
    exact bel_trans (o1.len.trans o2.len.symm) (up_bel s) (ch_bel h hk j (i + 1) (by omega))
theorem ck_take {n k : Nat} {a b : List Int} {c : List (List Int)} (h : Ck n a b k c) : ∀ j, j ≤ k → c.take (j + 1) ∈ chs a b j
  | 0, _ => by
    rw [ck_cons h]
    exact List.mem_singleton.mpr rfl
  | j + 1, hj => by
    have l := h.len
    have ih := ck_take h j (by omega)
    refine List.mem_flatMap.mpr ⟨_, ih, List.mem_map.mpr ⟨c.getD (j + 1) [], List.mem_filter.mpr ⟨?_, ?_⟩, ?_⟩⟩
    · have e : lastO (c.take (j + 1)) = c.getD j [] := by
        unfold lastO
        rw [List.length_take, Nat.min_eq_left (by omega), Nat.add_sub_cancel, List.getD_eq_getElem?_getD, List.getElem?_take_of_lt (by omega), List.getD_eq_getElem?_getD]
      rw [e]
      exact h.ch.step (by omega)
    · have := ch_bel h.ch l (k - (j + 1)) (j + 1) (by omega)
      rwa [h.lst] at this
    · rw [List.take_succ (i := j + 1), List.getD_eq_getElem?_getD, List.getElem?_eq_getElem (show j + 1 < c.length by omega)]
      rfl
theorem ck_chs {n k : Nat} {a b : List Int} {c : List (List Int)} (h : Ck n a b k c) : c ∈ chs a b k := by
  have := ck_take h k (Nat.le_refl _)
  rwa [List.take_of_length_le (by rw [h.len]; omega)] at this
theorem nodup_le10 {α : Type} [DecidableEq α] : ∀ {l m : List α}, l.Nodup → (∀ x ∈ l, x ∈ m) → l.length ≤ m.length
  | [], _, _, _ => Nat.zero_le _
  | x :: l, m, nd, h => by
    obtain ⟨h1, h2⟩ := List.nodup_cons.mp nd
    have hx := h x List.mem_cons_self
    have := nodup_le10 (l := l) (m := m.erase x) h2 fun y hy => by
      have : y ≠ x := fun e => h1 (e ▸ hy)
      exact (List.mem_erase_of_ne this).mpr (h y (List.mem_cons_of_mem _ hy))
    rw [List.length_erase_of_mem hx] at this
    have := List.length_pos_of_mem hx
    rw [List.length_cons]
    omega
theorem ck_ends {n k : Nat} {a b : List Int} {c : List (List Int)} (h : Ck n a b k c) : Od n a ∧ Od n b ∧ bel a b = true := by
  have l := h.len
  refine ⟨by rw [← h.fst]; exact h.ch.at (by omega), by rw [← h.lst]; exact h.ch.at (by omega), ?_⟩
  have := ch_bel h.ch l k 0 (by omega)
  rwa [h.fst, h.lst] at this
theorem ck_few {n k : Nat} {a b : List Int} (h1 : 1 ≤ n) (h5 : n ≤ 5) (k4 : k ≤ 4) {l : List (List (List Int))} (nd : l.Nodup) (h : ∀ c ∈ l, Ck n a b k c) : l.length ≤ 1296 := by
  cases l with
  | nil => exact Nat.zero_le _
  | cons c l =>
    obtain ⟨ha, hb, hab⟩ := ck_ends (h c List.mem_cons_self)
    have q1 := nodup_le10 nd fun x hx => ck_chs (h x hx)
    have q2 := chs_few (b := b) h1 h5 ha hab k
    have q3 : (6 : Nat) ^ k ≤ 6 ^ 4 := Nat.pow_le_pow_right (by decide) k4
    have e64 : (6 : Nat) ^ 4 = 1296 := rfl
    omega
theorem conn0 {n k : Nat} {a b : List Int} (h1 : 1 ≤ n) (h5 : n ≤ 5) (k4 : k ≤ 4) {c d : List (List Int)} (hc : Ck n a b k c) (hd : Ck n a b k d) : d ∈ lk nb10 c 16 := by
  by_cases k1 : 1 ≤ k
  · exact conn h1 h5 k1 k4 hc hd
  · have e : ∀ {x}, Ck n a b k x → x = [a] := fun {x} hx => by
      rw [ck_cons hx, List.drop_eq_nil_of_le (by rw [hx.len]; omega)]
    rw [e hc, e hd]
    exact lk_le lk_root (Nat.zero_le _)
theorem nb_len {n k : Nat} {a b : List Int} {c : List (List Int)} (h : Ck n a b k c) : (nb10 c).length = k - 1 := by
  unfold nb10
  rw [List.length_map, List.length_range, h.len]
  omega
/-! ### chains compared -/
theorem eqv_chs (a b : List (List (List Int))) : PyData.eqv (.list (a.map chD)) (.list (b.map chD)) = decide (a = b) := by
  rw [PyData.eqv]
  exact eqv_map eqv_tups a b
theorem shp_chs (a : List (List (List Int))) : Shp 4 (.list (a.map chD)) := shp_list (shp_map shp_tups a)
theorem eqv_any {x : List (List Int)} : ∀ {cs : List (List (List Int))}, ((cs.map chD).any fun z => PyData.eqv z (chD x)) = cs.contains x
  | [] => rfl
  | c :: cs => by
    rw [List.map_cons, List.any_cons, eqv_any (cs := cs), List.contains_cons, eqv_tups]
    congr 1
    rw [Bool.eq_iff_iff, decide_eq_true_eq, beq_iff_eq]
    exact ⟨fun e => e.symm, fun e => e.symm⟩
theorem gNotIn_chs {x : List (List Int)} {cs : List (List (List Int))} : gNotIn (chD x) (.list (cs.map chD)) = .ok (.bool (!cs.contains x)) .frz := by
  have e : (SeqAt.shaped (chD x) && SeqAt.shaped (.list (cs.map chD))) = true := by
    rw [(shp_tups x).shaped (by decide), (shp_chs cs).shaped (by decide)]
    rfl
  have g : gNotIn (chD x) (.list (cs.map chD)) = if (SeqAt.shaped (chD x) && SeqAt.shaped (.list (cs.map chD))) = true then .ok (.bool (!(cs.map chD).any fun z => PyData.eqv z (chD x))) .frz else .stuck := rfl
  rw [g, if_pos e, eqv_any]
/-! ### the road in plain Lean -/
theorem visit_cons (c : List (List Int)) (k : Nat) (m : List (List Int)) (ms : List (List (List Int))) (s : List (Ent (List (List Int))) × List (List (List Int))) : visit c k (m :: ms) s = if m ∈ s.1.map (·.1) then visit c k ms s else visit c k ms (s.1 ++ [(m, some c, k + 1)], s.2 ++ [m]) := by
  by_cases h : m ∈ s.1.map (·.1)
  · rw [if_pos h]
    conv => lhs; unfold visit
    exact if_pos h
  · rw [if_neg h]
    conv => lhs; unfold visit
    exact if_neg h
theorem visit_append (c : List (List Int)) (k : Nat) : ∀ (ms ns : List (List (List Int))) (s : List (Ent (List (List Int))) × List (List (List Int))), visit c k (ms ++ ns) s = visit c k ns (visit c k ms s)
  | [], _, _ => rfl
  | m :: ms, ns, s => by
    rw [List.cons_append, visit_cons, visit_cons]
    split
    · exact visit_append c k ms ns s
    · exact visit_append c k ms ns _
theorem visit_len (c : List (List Int)) (k : Nat) : ∀ (ms : List (List (List Int))) (s : List (Ent (List (List Int))) × List (List (List Int))), (visit c k ms s).1.length ≤ s.1.length + ms.length ∧ (visit c k ms s).2.length ≤ s.2.length + ms.length
  | [], s => ⟨Nat.le_refl _, Nat.le_refl _⟩
  | m :: ms, s => by
    rw [visit_cons]
    split
    · have := visit_len c k ms s
      rw [List.length_cons]
      omega
    · have := visit_len c k ms (s.1 ++ [(m, some c, k + 1)], s.2 ++ [m])
      simp only [List.length_append, List.length_cons, List.length_nil] at this ⊢
      omega
/-- a way back to the root -/
theorem bf_path {nb : List (List Int) → List (List (List Int))} {r : List (List Int)} {D : List (Ent (List (List Int)))} {P Q : List (List (List Int))} (b : Bf nb r D P Q) : ∀ (k : Nat) (x : List (List Int)) (q : Option (List (List Int))), (x, q, k) ∈ D → (k = 0 ∧ x = r ∧ q = none) ∨ ∃ p q2 j, k = j + 1 ∧ q = some p ∧ (p, q2, j) ∈ D ∧ x ∈ nb p := fun k x q h => by
  rcases b.par _ h with e | ⟨p, j, e1, e2, ⟨q2, e3⟩, e4⟩
  · cases e
    exact .inl ⟨rfl, rfl, rfl⟩
  · exact .inr ⟨p, q2, j, e2, e1, e3, e4⟩
end Lw

set_option linter.all false
set_option maxRecDepth 1000000
namespace Lw
open PySem L2 VL
/-! ### chain_road: the dict -/
abbrev Cn := List (List Int)
abbrev chU (c : Cn) : PyData := .tuple (c.map tupD)
def encP : Option Cn → PyData
  | none => .none
  | some p => chU p
def kvN (D : List (Ent Cn)) : List (Cn × PyData) := D.map fun t => (t.1, encP t.2.1)
theorem rows_tup : ∀ c : Cn, VL.rowsOf (c.map tupD) = some c
  | [] => rfl
  | o :: c => by
    rw [List.map_cons]
    unfold VL.rowsOf
    rw [show keyOf (tupD o) = some o from allInts_map o, rows_tup c]
theorem keyCh_u (c : Cn) : keyCh (chU c) = some c := rows_tup c
theorem hasN_kv (c : Cn) : ∀ D : List (Ent Cn), hasN (kvN D) c = decide (c ∈ D.map (·.1))
  | [] => by simp [hasN, kvN]
  | t :: D => by
    have ih := hasN_kv c D
    unfold hasN kvN at ih ⊢
    rw [List.map_cons, List.any_cons, ih, List.map_cons]
    rw [Bool.eq_iff_iff, Bool.or_eq_true, decide_eq_true_eq, decide_eq_true_eq, decide_eq_true_eq, List.mem_cons]
    exact ⟨fun h => h.imp_left fun e => e.symm, fun h => h.imp_left fun e => e.symm⟩
theorem valN_kv {c : Cn} {q : Option Cn} {k : Nat} : ∀ {D : List (Ent Cn)}, (D.map (·.1)).Nodup → (c, q, k) ∈ D → valN (kvN D) c = some (encP q)
  | [], _, h => by cases h
  | t :: D, nd, h => by
    rw [List.map_cons] at nd
    obtain ⟨h1, h2⟩ := List.nodup_cons.mp nd
    unfold valN kvN
    rw [List.map_cons, List.find?_cons]
    rcases List.mem_cons.mp h with e | e
    · subst e
      simp
    · have ne : t.1 ≠ c := fun z => h1 (z ▸ List.mem_map.mpr ⟨_, e, rfl⟩)
      have ih := valN_kv h2 e
      unfold valN kvN at ih
      simp only [decide_eq_false ne]
      exact ih
theorem notN_o {j : Nat} {me : Gm → EO} {G : Gm} {c : Cn} {D : List (Ent Cn)} (h : me G = .ok (chU c) .frz) (hg : G[j]? = some (some (.nst (kvN D)))) : notN j me G = .ok (.bool (!decide (c ∈ D.map (·.1)))) .frz := by
  unfold notN
  rw [h, bind_ok]
  simp only [keyCh_u, hg, hasN_kv]
theorem putN_o {j : Nat} {mi me : Gm → EO} {G : Gm} {c p : Cn} {k : Nat} {D : List (Ent Cn)} (h : me G = .ok (chU p) .frz) (hi : mi G = .ok (chU c) .frz) (hg : G[j]? = some (some (.nst (kvN D)))) (hl : D.length < big) (hn : c ∉ D.map (·.1)) : putN j mi me G = .next (G.set j (some (.nst (kvN (D ++ [(c, some p, k)]))))) := by
  unfold putN
  rw [h, hard_frz, bindS_ok]
  have e1 : (kvN D).length < big := by unfold kvN; rw [List.length_map]; exact hl
  have e2 : hasN (kvN D) c = false := by rw [hasN_kv]; exact decide_eq_false hn
  simp only [hg, hi, bindS_ok, keyCh_u, e1, e2, and_self, if_true]
  unfold kvN
  rw [List.map_append]
  rfl
theorem idxN_o {j : Nat} {mi : Gm → EO} {G : Gm} {c : Cn} {q : Option Cn} {k : Nat} {D : List (Ent Cn)} (hi : mi G = .ok (chU c) .frz) (hg : G[j]? = some (some (.nst (kvN D)))) (nd : (D.map (·.1)).Nodup) (hm : (c, q, k) ∈ D) : idxN j mi G = .ok (encP q) .frz := by
  unfold idxN
  simp only [hg, hi, bind_ok, keyCh_u, valN_kv nd hm]
theorem lenN_o {j : Nat} {G : Gm} {D : List (Ent Cn)} (hg : G[j]? = some (some (.nst (kvN D)))) (hl : D.length ≤ big) : lenN j G = .ok (.int ((D.length : Nat) : Int)) .frz := by
  unfold lenN
  have e1 : (kvN D).length = D.length := by unfold kvN; rw [List.length_map]
  simp only [hg, e1, hl, if_true]
/-! ### one place -/
abbrev Gst (x0 x1 : Option Sl) (c : Cn) (s : List (Ent Cn) × List Cn) (x5 x6 x7 : Option Sl) : Gm := [x0, x1, some (.dat (chU c)), some (.nst (kvN s.1)), some (.own (s.2.map chU)), x5, x6, x7]
section
variable {n k : Nat} {a b : List Int} (h1 : 1 ≤ n) (h5 : n ≤ 5) (k4 : k ≤ 4)
include h1 h5 k4
theorem cr_turn {c : Cn} (hc : Ck n a b k c) {p lv : Nat} (hp1 : 1 ≤ p) (hp2 : p < k) {s : List (Ent Cn) × List Cn} (hD : s.1.length ≤ 2000) (hQ : s.2.length ≤ 2000) {x0 x1 x5 x7 : Option Sl} :
    L2_chain_road (Gst x0 x1 c s x5 (some (.dat (.int (p : Nat)))) x7) = .next (Gst x0 x1 c (visit c lv [changed c p] s) x5 (some (.dat (.int (p : Nat)))) (some (.dat (chU (changed c p))))) := by
  have hl := hc.len
  have hca := change_at_ok h1 (by omega) hc.ch.od hc.ch.st hp1 (show p + 1 < c.length by omega) (by omega)
  have h0 : op1 gTuple (callE m_change_at (consA (op1 gList (varE 2)) (consA (varE 6) nilA))) (Gst x0 x1 c s x5 (some (.dat (.int (p : Nat)))) x7) = .ok (chU (changed c p)) .frz := by
    simp only [op1_eq, callE_eq, consA_eq, varE_eq, List.getElem?_cons_zero, List.getElem?_cons_succ, varO_d, bind_ok, gList_t, hard_new, hard_frz, bindA_ok, nilA_eq, abind_ok, abindE_ok, hca, toE_ok, gTuple_l]
  unfold L2_chain_road
  rw [seqS_eq, asgS_eq, h0, bindS_ok, asgK_frz]
  simp only [List.set_cons_zero, List.set_cons_succ, seq_next, ifS_eq, boolB_eq]
  rw [notN_o (c := changed c p) (D := s.1) rfl rfl, bindB_ok, boolO_b, bindS_b]
  rw [visit_cons]
  by_cases hm : changed c p ∈ s.1.map (·.1)
  · rw [decide_eq_true hm, if_pos hm]
    rfl
  · rw [decide_eq_false hm, if_neg hm]
    have e : putN 3 (varE 7) (varE 2) (Gst x0 x1 c s x5 (some (.dat (.int (p : Nat)))) (some (.dat (chU (changed c p))))) = .next (Gst x0 x1 c (s.1 ++ [(changed c p, some c, lv + 1)], s.2) x5 (some (.dat (.int (p : Nat)))) (some (.dat (chU (changed c p))))) := putN_o (c := changed c p) (p := c) (D := s.1) rfl rfl rfl (by unfold big; omega) hm
    have hl : s.2.length < big := by unfold big; omega
    simp only [Bool.not_false, if_true, seqS_eq]
    rw [e]
    simp only [seq_next, appS_eq, List.getElem?_cons_zero, List.getElem?_cons_succ, ownK_o, varE_eq, varO_d, hard_frz, bindS_ok, List.length_map, hl, if_true, List.set_cons_zero, List.set_cons_succ, visit]
    show _ = SO.next (Gst x0 x1 c (s.1 ++ [(changed c p, some c, lv + 1)], s.2 ++ [changed c p]) x5 _ _)
    simp only [Gst, List.map_append, List.map_cons, List.map_nil]
theorem cr_row {c : Cn} (hc : Ck n a b k c) {lv : Nat} {s : List (Ent Cn) × List Cn} (hD : s.1.length ≤ 1990) (hQ : s.2.length ≤ 1990) {x0 x1 x5 x6 x7 : Option Sl} :
    ∃ y6 y7, forL (toN 6) L2_chain_road (rgD 1 (k - 1)) (Gst x0 x1 c s x5 x6 x7) = .next (Gst x0 x1 c (visit c lv (nb10 c) s) x5 y6 y7) := by
  obtain ⟨G2, hG, y6, y7, e⟩ := for_inv (tgt := toN 6) (body := L2_chain_road) (ds := rgD 1 (k - 1)) (G := Gst x0 x1 c s x5 x6 x7)
    (fun i G => ∃ y6 y7 : Option Sl, G = Gst x0 x1 c (visit c lv ((List.range i).map fun i => changed c (i + 1)) s) x5 y6 y7)
    ⟨x6, x7, rfl⟩ fun i d G hi ⟨y6, y7, e⟩ => by
      obtain ⟨hi2, rfl⟩ := rgD_get hi
      subst e
      have e1 : (1 : Int) + ((i : Nat) : Int) = ((i + 1 : Nat) : Int) := by omega
      rw [e1]
      have hv := visit_len c lv ((List.range i).map fun i => changed c (i + 1)) s
      rw [List.length_map, List.length_range] at hv
      have ht := cr_turn h1 h5 k4 hc (p := i + 1) (lv := lv) (by omega) (by omega) (s := visit c lv ((List.range i).map fun i => changed c (i + 1)) s) (by omega) (by omega) (x0 := x0) (x1 := x1) (x5 := x5) (x7 := y7)
      refine ⟨_, _, rfl, ht, some (.dat (.int ((i + 1 : Nat) : Int))), some (.dat (chU (changed c (i + 1)))), ?_⟩
      rw [List.range_succ, List.map_append, visit_append]
      rfl
  rw [rgD_len] at e
  refine ⟨y6, y7, ?_⟩
  rw [hG, e]
  have : nb10 c = (List.range (k - 1)).map fun i => changed c (i + 1) := by
    unfold nb10
    rw [hc.len]
    congr 2
  rw [this]
theorem cr_body {c : Cn} (hc : Ck n a b k c) {lv : Nat} {D : List (Ent Cn)} {Q : List Cn} (hD : D.length ≤ 1990) (hQ : Q.length ≤ 1980) (hV : (visit c lv (nb10 c) (D, Q)).1.length ≤ 2000) {x0 x1 x2 x5 x6 x7 : Option Sl} :
    ∃ y6 y7, L3_chain_road [x0, x1, x2, some (.nst (kvN D)), some (.own ((c :: Q).map chU)), x5, x6, x7] = .next (Gst x0 x1 c (visit c lv (nb10 c) (D, Q)) x5 y6 y7) := by
  obtain ⟨y6, y7, hr⟩ := cr_row h1 h5 k4 hc (lv := lv) (s := (D, Q)) hD (show Q.length ≤ 1990 by omega) (x0 := x0) (x1 := x1) (x5 := x5) (x6 := x6) (x7 := x7)
  refine ⟨y6, y7, ?_⟩
  have hl := hc.len
  have hpop : popAtX 4 (cE (.int 0)) [x0, x1, x2, some (.nst (kvN D)), some (.own ((c :: Q).map chU)), x5, x6, x7] = .ok (chU c) [x0, x1, x2, some (.nst (kvN D)), some (.own (Q.map chU)), x5, x6, x7] := by
    unfold popAtX
    have hb : (0 : Int) ≤ 0 ∧ (0 : Int) < (((c :: Q).map chU).length : Int) ∧ ((c :: Q).map chU).length ≤ big := by
      rw [List.length_map, List.length_cons]
      unfold big
      omega
    simp only [List.getElem?_cons_zero, List.getElem?_cons_succ, cE_eq, if_pos hb]
    rfl
  have r : rg2K (.ok (.int 1) .frz) (.ok (.int ((c.length : Int) - 1)) .frz) = some (rgD 1 (k - 1)) := by
    rw [rg2K_i (by omega), hl]
    congr 2
    omega
  have hn : lenN 3 (Gst x0 x1 c (visit c lv (nb10 c) (D, Q)) x5 y6 y7) = .ok (.int (((visit c lv (nb10 c) (D, Q)).1.length : Nat) : Int)) .frz := lenN_o rfl (by unfold big; omega)
  have hle : decide ((2000 : Int) < (((visit c lv (nb10 c) (D, Q)).1.length : Nat) : Int)) = false := decide_eq_false (by omega)
  unfold L3_chain_road
  rw [seqS_eq, asgXS_eq, hpop, xbind_ok]
  simp only [List.set_cons_zero, List.set_cons_succ, seq_next, seqS_eq, forS_eq, iterO_eq, rg2_eq, cE_eq, op2_eq, op1_eq, varE_eq, List.getElem?_cons_zero, List.getElem?_cons_succ, varO_d, bind_ok, gLen_t, List.length_map, gInt_eq, iSub_eq, optE_some, r, ofO_some, run_ok, hr]
  simp only [ifS_eq, boolB_eq, op2_eq, hn, bind_ok, cE_eq, gInt_eq, iGt_eq, optE_some, hle, bindB_ok, boolO_b, bindS_b, Bool.false_eq_true, if_false, nilS_eq]
end
end Lw

set_option linter.all false
set_option maxRecDepth 1000000
namespace Lw
open PySem L2 VL
/-! ### the search -/
theorem Bf.uniq {nb : Cn → List Cn} {r : Cn} {D : List (Ent Cn)} {P Q : List Cn} (b : Bf nb r D P Q) : (D.map (·.1)).Nodup := by
  rw [b.keys]
  exact b.nd
section
variable {n k : Nat} {a b : List Int} (h1 : 1 ≤ n) (h5 : n ≤ 5) (k4 : k ≤ 4)
include h1 h5 k4
theorem bf_ck {one : Cn} (ho : Ck n a b k one) {D : List (Ent Cn)} {P Q : List Cn} (B : Bf nb10 one D P Q) : ∀ x ∈ D.map (·.1), Ck n a b k x := fun x hx => by
  obtain ⟨q, lv, h⟩ := ent_key.mp hx
  exact lk_all (Ck n a b k) ho (nb_ck h1 (by omega)) lv x (bf_in B lv x q h)
theorem bf_few {one : Cn} (ho : Ck n a b k one) {D : List (Ent Cn)} {P Q : List Cn} (B : Bf nb10 one D P Q) : D.length ≤ 1296 ∧ P.length + Q.length ≤ 1296 := by
  have := ck_few h1 h5 k4 B.uniq (bf_ck h1 h5 k4 ho B)
  have e := congrArg List.length B.keys
  rw [List.length_map, List.length_append] at e
  rw [List.length_map] at this
  omega
theorem cr_loop {one other : Cn} (ho : Ck n a b k one) (ht : Ck n a b k other) {x5 : Option Sl} : ∀ (f : Nat) (D : List (Ent Cn)) (P Q : List Cn) (x2 x6 x7 : Option Sl), Bf nb10 one D P Q → (∀ q lv, (other, q, lv) ∈ D → ∀ j, j < lv → other ∉ lk nb10 one j) → 1300 ≤ P.length + f →
    ∃ D2 P2 Q2 y2 y6 y7 q lv, whileL (boolB (notN 3 (op1 gTuple (varE 1)))) L3_chain_road f [some (.dat (chD one)), some (.dat (chD other)), x2, some (.nst (kvN D)), some (.own (Q.map chU)), x5, x6, x7] = .next [some (.dat (chD one)), some (.dat (chD other)), y2, some (.nst (kvN D2)), some (.own (Q2.map chU)), x5, y6, y7] ∧ Bf nb10 one D2 P2 Q2 ∧ (other, q, lv) ∈ D2 ∧ ∀ j, j < lv → other ∉ lk nb10 one j
  | 0, D, P, Q, x2, x6, x7, B, _, hf => by
    have := (bf_few h1 h5 k4 ho B).2
    omega
  | f + 1, D, P, Q, x2, x6, x7, B, hg, hf => by
    obtain ⟨fD, fP⟩ := bf_few h1 h5 k4 ho B
    unfold whileL
    have hc : boolB (notN 3 (op1 gTuple (varE 1))) [some (.dat (chD one)), some (.dat (chD other)), x2, some (.nst (kvN D)), some (.own (Q.map chU)), x5, x6, x7] = .ok (!decide (other ∈ D.map (·.1))) := by
      rw [boolB_eq, notN_o (c := other) (D := D) rfl rfl, bindB_ok, boolO_b]
    rw [hc]
    by_cases hm : other ∈ D.map (·.1)
    · rw [decide_eq_true hm]
      obtain ⟨q, lv, hq⟩ := ent_key.mp hm
      exact ⟨D, P, Q, x2, x6, x7, q, lv, rfl, B, hq, hg q lv hq⟩
    · rw [decide_eq_false hm]
      simp only [Bool.not_false]
      cases Q with
      | nil => exact absurd (bf_done B 16 other (conn0 h1 h5 k4 ho ht)) hm
      | cons c Q =>
        have hck : c ∈ D.map (·.1) := by rw [B.keys]; simp
        have hcc := bf_ck h1 h5 k4 ho B c hck
        obtain ⟨q, lv, hq⟩ := ent_key.mp hck
        obtain ⟨D2, N2, hv, B2, hn⟩ := bf_turn B hq
        obtain ⟨fD2, fP2⟩ := bf_few h1 h5 k4 ho B2
        rw [List.length_cons] at fP
        obtain ⟨y6, y7, hb⟩ := cr_body h1 h5 k4 hcc (lv := lv) (D := D) (Q := Q) (by omega) (by omega) (by rw [hv]; show D2.length ≤ 2000; omega) (x0 := some (.dat (chD one))) (x1 := some (.dat (chD other))) (x2 := x2) (x5 := x5) (x6 := x6) (x7 := x7)
        rw [hv] at hb
        rw [hb]
        simp only
        exact cr_loop ho ht f D2 (P ++ [c]) (Q ++ N2) (some (.dat (chU c))) y6 y7 B2 (fun q' lv' hq' j hj hin => by
          rcases hn _ hq' with z | z
          · exact hm (ent_key.mpr ⟨q', lv', z⟩)
          · have z : lv' = lv + 1 := z
            obtain ⟨q2, k2, h3, _⟩ := bf_near B hq j (by omega) other hin
            exact hm (ent_key.mpr ⟨q2, k2, h3⟩)) (by rw [List.length_append, List.length_cons, List.length_nil]; omega)
end
/-! ### the way back -/
def Bk (r : Cn) : Cn → List Cn → Prop
  | x, [] => x = r
  | x, p :: ps => x ∈ nb10 p ∧ Bk r p ps
theorem snocL {α : Type} (os : List α) (t z : α) : (os ++ [t]).getD ((os ++ [t]).length - 1) z = t := by
  rw [List.length_append, List.length_cons, List.length_nil, Nat.zero_add, Nat.add_sub_cancel, List.getD_eq_getElem?_getD, List.getElem?_append_right (Nat.le_refl _), Nat.sub_self]
  rfl
theorem cr_back {one : Cn} {D : List (Ent Cn)} {P Q : List Cn} (B : Bf nb10 one D P Q) {x0 x1 x2 x4 x6 x7 : Option Sl} : ∀ (lv : Nat) (x : Cn) (q : Option Cn) (acc : List Cn) (f : Nat), (x, q, lv) ∈ D → lv < f → acc.length + lv < 5000 →
    ∃ path, path.length = lv ∧ Bk one x path ∧ (∀ y ∈ path, y ∈ D.map (·.1)) ∧ whileL (boolB (op2 (gIs true) (idxN 3 (op2 gIx (varE 5) (cE (.int (-1))))) (cE .none))) L4_chain_road f [x0, x1, x2, some (.nst (kvN D)), x4, some (.own ((acc ++ [x]).map chU)), x6, x7] = .next [x0, x1, x2, some (.nst (kvN D)), x4, some (.own ((acc ++ x :: path).map chU)), x6, x7]
  | lv, x, q, acc, 0, _, hf, _ => absurd hf (Nat.not_lt_zero _)
  | lv, x, q, acc, f + 1, hx, hf, hl => by
    have e1 : atI ((acc ++ [x]).map chU) (-1) = some (chU x) := by
      have := atI_last (f := chU) (xs := acc ++ [x]) (z := []) (by simp)
      rwa [snocL] at this
    have hi : op2 gIx (varE 5) (cE (.int (-1))) [x0, x1, x2, some (.nst (kvN D)), x4, some (.own ((acc ++ [x]).map chU)), x6, x7] = .ok (chU x) .frz := by
      simp only [op2_eq, varE_eq, List.getElem?_cons_zero, List.getElem?_cons_succ, varO_o, cE_eq, bind_ok, gIx_l, e1, optE_some]
    have hd : idxN 3 (op2 gIx (varE 5) (cE (.int (-1)))) [x0, x1, x2, some (.nst (kvN D)), x4, some (.own ((acc ++ [x]).map chU)), x6, x7] = .ok (encP q) .frz := idxN_o hi rfl B.uniq hx
    have hc : boolB (op2 (gIs true) (idxN 3 (op2 gIx (varE 5) (cE (.int (-1))))) (cE .none)) [x0, x1, x2, some (.nst (kvN D)), x4, some (.own ((acc ++ [x]).map chU)), x6, x7] = .ok (!isNone (encP q)) := by
      rw [boolB_eq, op2_eq, hd]
      simp only [bind_ok, cE_eq, gIs_n, if_true, bindB_ok, boolO_b]
    unfold whileL
    rw [hc]
    rcases bf_path B lv x q hx with ⟨e, ex, eq⟩ | ⟨p, q2, j, e, eq, hp, hn⟩
    · subst eq
      refine ⟨[], e.symm, ex, fun y hy => (by cases hy), rfl⟩
    · subst eq
      subst e
      have hb : L4_chain_road [x0, x1, x2, some (.nst (kvN D)), x4, some (.own ((acc ++ [x]).map chU)), x6, x7] = .next [x0, x1, x2, some (.nst (kvN D)), x4, some (.own (((acc ++ [x]) ++ [p]).map chU)), x6, x7] := by
        have hz : ((acc ++ [x]).map chU).length < big := by
          rw [List.length_map, List.length_append, List.length_cons, List.length_nil]
          unfold big
          omega
        unfold L4_chain_road
        rw [appS_eq]
        simp only [List.getElem?_cons_zero, List.getElem?_cons_succ, ownK_o, hd, encP, hard_frz, bindS_ok, if_pos hz, List.set_cons_zero, List.set_cons_succ]
        simp only [List.map_append, List.map_cons, List.map_nil]
      obtain ⟨path, r1, r2, r3, r4⟩ := cr_back B j p q2 (acc ++ [x]) f hp (by omega) (by rw [List.length_append, List.length_cons, List.length_nil]; omega) (x0 := x0) (x1 := x1) (x2 := x2) (x4 := x4) (x6 := x6) (x7 := x7)
      refine ⟨p :: path, by rw [List.length_cons, r1], ⟨hn, r2⟩, fun y hy => ?_, ?_⟩
      · rcases List.mem_cons.mp hy with z | z
        · rw [z]; exact ent_key.mpr ⟨q2, j, hp⟩
        · exact r3 y z
      · have ht : (!isNone (encP (some p))) = true := rfl
        rw [ht]
        simp only
        rw [hb]
        simp only
        rw [r4, List.append_assoc]
        rfl
theorem bk_get {r : Cn} : ∀ {ps : List Cn} {x : Cn}, Bk r x ps → (∀ i, i < ps.length → (x :: ps).getD i [] ∈ nb10 ((x :: ps).getD (i + 1) [])) ∧ (x :: ps).getD ps.length [] = r
  | [], x, h => ⟨fun i hi => absurd hi (Nat.not_lt_zero _), h⟩
  | p :: ps, x, ⟨h1, h2⟩ => by
    obtain ⟨q1, q2⟩ := bk_get h2
    refine ⟨fun i hi => ?_, q2⟩
    cases i with
    | zero => exact h1
    | succ i => exact q1 i (by rw [List.length_cons] at hi; omega)
theorem rev_getD {l : List Cn} {i : Nat} (h : i < l.length) : l.reverse.getD i [] = l.getD (l.length - 1 - i) [] := by
  rw [List.getD_eq_getElem?_getD, List.getElem?_reverse h, List.getD_eq_getElem?_getD]
structure Road (n : Nat) (a b : List Int) (k : Nat) (one other : Cn) (lv : Nat) (F : List Cn) : Prop where
  len : F.length = lv + 1
  fst : F.getD 0 [] = one
  lst : F.getD lv [] = other
  nxt : ∀ i, i < lv → F.getD (i + 1) [] ∈ nb10 (F.getD i [])
  ck : ∀ x ∈ F, Ck n a b k x
  hit : other ∈ lk nb10 one lv
  min : ∀ j, j < lv → other ∉ lk nb10 one j
theorem cr_comp {L : List Cn} (hl : L.length ≤ 5000) {x0 x1 x2 x3 x4 x6 x7 : Option Sl} : C1_chain_road [x0, x1, x2, x3, x4, some (.own (L.map chU)), x6, x7] = .ok (.list (L.reverse.map chD)) .new := by
  unfold C1_chain_road
  rw [compE_eq]
  have hi : (compiL (op1 gRev (varE 5))) [x0, x1, x2, x3, x4, some (.own (L.map chU)), x6, x7] = .ok (L.reverse.map chU) := by
    simp only [compiL_eq, op1_eq, varE_eq, List.getElem?_cons_zero, List.getElem?_cons_succ, varO_o, bind_ok, gRev_l, compiLK_l, List.map_reverse]
  rw [hi, comp_all (enc := chU) (g := chD) (by rw [List.length_reverse]; unfold big; omega) fun c _ => by
    simp only [stepC_eq, toN_eq, wipeG_cons, wipeG_nil, List.set_cons_zero, List.set_cons_succ, tgtK_s, yesB_eq, tstK_b, if_true, op1_eq, varE_eq, List.getElem?_cons_zero, List.getElem?_cons_succ, varO_d, bind_ok, gList_t, hard_new, eltK_ok]]
theorem chain_road_ok {n k : Nat} {a b : List Int} (h1 : 1 ≤ n) (h5 : n ≤ 5) (k4 : k ≤ 4) {one other : Cn} (ho : Ck n a b k one) (ht : Ck n a b k other) : ∃ lv F, Road n a b k one other lv F ∧ m_chain_road [chD one, chD other] = .ok (.list (F.map chD)) := by
  have lo := ho.len
  have lt := ht.len
  obtain ⟨D, P, Q, y2, y6, y7, q, lv, hw, B, hq, hmin⟩ := cr_loop h1 h5 k4 ho ht (x5 := none) 2000 [(one, none, 0)] [] [one] (some (.dat (chD other))) none none (bf_start nb10 one) (fun q lv h j hj => by
    have := List.mem_singleton.mp h
    cases this
    omega) (by simp)
  obtain ⟨fD, _⟩ := bf_few h1 h5 k4 ho B
  have hlv : lv ≤ 16 := by
    refine Nat.le_of_not_lt fun z => ?_
    exact hmin 16 z (conn0 h1 h5 k4 ho ht)
  obtain ⟨path, r1, r2, r3, r4⟩ := cr_back B lv other q [] 2000 hq (by omega) (by simp; omega) (x0 := some (.dat (chD one))) (x1 := some (.dat (chD other))) (x2 := y2) (x4 := some (.own (Q.map chU))) (x6 := y6) (x7 := y7)
  obtain ⟨g1, g2⟩ := bk_get r2
  have hL : (other :: path).length = lv + 1 := by rw [List.length_cons, r1]
  refine ⟨lv, (other :: path).reverse, ⟨by rw [List.length_reverse, hL], ?_, ?_, fun i hi => ?_, fun x hx => ?_, bf_in B lv other q hq, hmin⟩, defM_ret rfl ?_⟩
  · rw [rev_getD (by omega), hL, ← g2, r1]
    rfl
  · rw [rev_getD (by omega), hL, show lv + 1 - 1 - lv = 0 by omega]
    rfl
  · rw [rev_getD (by omega), rev_getD (by omega), hL]
    have := g1 (lv - 1 - i) (by omega)
    rwa [show lv - 1 - i + 1 = lv + 1 - 1 - i by omega, show lv - 1 - i = lv + 1 - 1 - (i + 1) by omega] at this
  · rcases List.mem_cons.mp (List.mem_reverse.mp hx) with z | z
    · rw [z]; exact ht
    · exact bf_ck h1 h5 k4 ho B x (r3 x z)
  have i1 := isc_true h1 (by omega) ho.ch (by omega)
  have i2 := isc_true h1 (by omega) ht.ch (by omega)
  have b1 : 1 ≤ big := by decide
  have b2 : 2 ≤ big := by decide
  have f1 : atI (one.map tupD) 0 = some (tupD a) := by
    have := atI_map (f := tupD) (xs := one) (p := 0) (z := []) (by omega)
    rwa [ho.fst] at this
  have f2 : atI (other.map tupD) 0 = some (tupD a) := by
    have := atI_map (f := tupD) (xs := other) (p := 0) (z := []) (by omega)
    rwa [ht.fst] at this
  have l1 : atI (one.map tupD) (-1) = some (tupD b) := by
    have := atI_last (f := tupD) (xs := one) (z := []) (by omega)
    rwa [show one.length - 1 = k by omega, ho.lst] at this
  have l2 : atI (other.map tupD) (-1) = some (tupD b) := by
    have := atI_last (f := tupD) (xs := other) (z := []) (by omega)
    rwa [show other.length - 1 = k by omega, ht.lst] at this
  have hfor : forL (toN 2) L1_chain_road [chD one, chD other] [some (.dat (chD one)), some (.dat (chD other)), none, none, none, none, none, none] = .next [some (.dat (chD one)), some (.dat (chD other)), some (.dat (chD other)), none, none, none, none, none] := by
    simp [forL, L1_chain_road, i1, i2]
  have hnst : nstS 3 (op1 gTuple (varE 0)) (cE .none) [some (.dat (chD one)), some (.dat (chD other)), some (.dat (chD other)), none, none, none, none, none] = .next [some (.dat (chD one)), some (.dat (chD other)), some (.dat (chD other)), some (.nst (kvN [(one, none, 0)])), none, none, none, none] := by
    unfold nstS
    simp only [op1_eq, varE_eq, List.getElem?_cons_zero, varO_d, bind_ok, gTuple_l, bindS_ok, cE_eq, keyCh_u]
    rfl
  have hw2 : whileL (boolB (notN 3 (op1 gTuple (varE 1)))) L3_chain_road 2000 [some (.dat (chD one)), some (.dat (chD other)), some (.dat (chD other)), some (.nst (kvN [(one, none, 0)])), some (.own [chU one]), none, none, none] = .next [some (.dat (chD one)), some (.dat (chD other)), y2, some (.nst (kvN D)), some (.own (Q.map chU)), none, y6, y7] := hw
  have hb2 : whileL (boolB (op2 (gIs true) (idxN 3 (op2 gIx (varE 5) (cE (.int (-1))))) (cE .none))) L4_chain_road 2000 [some (.dat (chD one)), some (.dat (chD other)), y2, some (.nst (kvN D)), some (.own (Q.map chU)), some (.own [chU other]), y6, y7] = .next [some (.dat (chD one)), some (.dat (chD other)), y2, some (.nst (kvN D)), some (.own (Q.map chU)), some (.own ((other :: path).map chU)), y6, y7] := r4
  have hcomp := cr_comp (L := other :: path) (by omega) (x0 := some (.dat (chD one))) (x1 := some (.dat (chD other))) (x2 := y2) (x3 := some (.nst (kvN D))) (x4 := some (.own (Q.map chU))) (x6 := y6) (x7 := y7)
  have nt : ∀ t : List Int, gNe (tupD t) (tupD t) = .ok (.bool false) .frz := fun t => by rw [gNe_tup, decide_eq_true rfl]; rfl
  simp only [b_chain_road, startG, List.map_cons, List.map_nil, List.length_cons, List.length_nil, Nat.reduceAdd, Nat.reduceSub, List.replicate, List.cons_append, List.nil_append, seqS_eq, forS_eq, iterT_eq, tupE_eq, consA_eq, varE_eq, List.getElem?_cons_zero, List.getElem?_cons_succ, varO_d, hard_frz, bindA_ok, nilA_eq, abind_ok, abindE_ok, b2, if_true, iterTK_t, run_ok, hfor, seq_next, ifS_eq, orB_eq, boolB_eq, op2_eq, bind_ok, cE_eq, gIx_l, f1, f2, l1, l2, optE_some, nt, bindB_ok, boolO_b, bindB_b, Bool.false_eq_true, if_false, bindS_b, nilS_eq, hnst, asgS_eq, lstE_eq, op1_eq, gTuple_l, b1, bindS_ok, asgK_new, List.set_cons_zero, List.set_cons_succ]
  rw [hw2]
  simp only [seq_next, seqS_eq, asgS_eq, lstE_eq, consA_eq, op1_eq, varE_eq, List.getElem?_cons_zero, List.getElem?_cons_succ, varO_d, bind_ok, gTuple_l, hard_frz, bindA_ok, nilA_eq, abind_ok, abindE_ok, List.length_cons, List.length_nil, Nat.reduceAdd, b1, if_true, bindS_ok, asgK_new, List.set_cons_zero, List.set_cons_succ]
  rw [hb2]
  simp only [seq_next, retS_eq, hcomp, bindS_ok, retK_new]
end Lw

set_option linter.all false
set_option maxRecDepth 1000000
namespace Lw
open PySem L2 VL
/-! ### the law's chain: at most four steps -/
theorem law_chain4 {ns : List Int} {n : Nat} (h1 : 1 ≤ n) (h6 : n ≤ 6) : ∃ os, Ch n os ∧ os.length ≤ 5 ∧ m__law_chain [scrD ns, .int 2, .int (n : Nat), .int 4] = .ok (chD os) := by
  obtain ⟨ds, hd, hrow⟩ := row_ok (ns := ns) (a := 2) (by decide)
  obtain ⟨o, ho, hord⟩ := order_ok (ns := ns) (a := 2) (n := n) (by decide) (by omega)
  rw [od_ords] at ho
  obtain ⟨v, v0, v1, e30⟩ := draw_at hd (i := 30) (by omega) (by omega)
  have hm : iMod v 5 = some (.int (v % 5)) := iMod_pos (by omega)
  have hv7 : (v % 5).toNat < 5 := by omega
  obtain ⟨G2, hG, os, x2, y2, hc, hl, e⟩ := for_inv (tgt := toN 6) (body := L1__law_chain) (ds := rgD 0 (v % 5).toNat) (G := [some (.dat (scrD ns)), some (.dat (.int 2)), some (.dat (.int (n : Nat))), some (.dat (.int 4)), some (.dat (.list (ds.map PyData.int))), some (.own [tupD o]), none, none])
    (fun k G => ∃ (os : List (List Int)) (x y : Option Sl), Ch n os ∧ os.length ≤ k + 1 ∧ G = [some (.dat (scrD ns)), some (.dat (.int 2)), some (.dat (.int (n : Nat))), some (.dat (.int 4)), some (.dat (.list (ds.map PyData.int))), some (.own (os.map tupD)), x, y])
    ⟨[o], none, none, ⟨by simp, fun q hq => by have : q = o := by simpa using hq
                                               rw [this]; exact ho, rfl⟩, by simp, rfl⟩ fun k d G hk ⟨os, x, y, hc, hl, e⟩ => by
      obtain ⟨hk2, rfl⟩ := rgD_get hk
      subst e
      rw [Int.zero_add]
      obtain ⟨os2, y2, hc2, hl2, ht⟩ := lc_turn h1 h6 hc (by omega) hd (t := k) (by omega) (s := some (.dat (scrD ns))) (a := some (.dat (.int 2))) (z := some (.dat (.int (n : Nat)))) (w := some (.dat (.int 4))) (y := y)
      exact ⟨_, _, rfl, ht, os2, _, _, hc2, by omega, rfl⟩
  rw [rgD_len] at hl
  refine ⟨os, hc, by omega, defM_ret rfl ?_⟩
  have r : rg1K (.ok (.int (v % 5)) .frz) = some (rgD 0 (v % 5).toNat) := rg1K_i (by omega)
  have hb1 : 1 ≤ big := by decide
  subst e
  have e6 : (4 : Int) + 1 = 5 := rfl
  simp only [b__law_chain, startG, List.map_cons, List.map_nil, List.length_cons, List.length_nil, Nat.reduceAdd, Nat.reduceSub, List.replicate, List.cons_append, List.nil_append, seqS_eq, asgS_eq, callE_eq, consA_eq, varE_eq, List.getElem?_cons_zero, List.getElem?_cons_succ, varO_d, varO_o, hard_frz, bindA_ok, nilA_eq, abind_ok, abindE_ok, hrow, toE_ok, bindS_ok, asgK_frz, List.set_cons_succ, List.set_cons_zero, seq_next, lstE_eq, hord, hb1, if_true, asgK_new, forS_eq, iterO_eq, rg1_eq, op2_eq, bind_ok, cE_eq, gIx_l, e30, optE_some, gAdd_i, e6, gInt_eq, hm, r, ofO_some, run_ok, hG, retS_eq, retK_own, ownK_o]
/-! ### other ends -/
theorem tail_road {n : Nat} {os : Cn} (h1 : 1 ≤ n) (h6 : n ≤ 6) (h : Ch n os) (hl : os.length ≤ 5) (h2 : 2 ≤ os.length) : m_chain_road [chD os, chD (os.drop 1)] = .exc 4 none := by
  have ht : Ch n (os.drop 1) := by
    refine ⟨by rw [List.length_drop]; omega, fun o ho => h.od o (List.mem_of_mem_drop ho), stepsOk_iff.mpr fun i hi => ?_⟩
    rw [List.length_drop] at hi
    have := h.step (p := i + 1) (by omega)
    rw [List.getD_eq_getElem?_getD, List.getD_eq_getElem?_getD] at this ⊢
    rw [List.getElem?_drop, List.getElem?_drop, Nat.add_comm 1 (i + 1), Nat.add_comm 1 i]
    exact this
  have i1 := isc_true h1 h6 h (by omega)
  have i2 := isc_true h1 h6 ht (by rw [List.length_drop]; omega)
  have b2 : 2 ≤ big := by decide
  have f1 : atI (os.map tupD) 0 = some (tupD (os.getD 0 [])) := atI_map (f := tupD) (xs := os) (p := 0) (z := []) (by omega)
  have f2 : atI ((os.drop 1).map tupD) 0 = some (tupD (os.getD 1 [])) := by
    have := atI_map (f := tupD) (xs := os.drop 1) (p := 0) (z := []) (by rw [List.length_drop]; omega)
    rwa [List.getD_eq_getElem?_getD, List.getElem?_drop, ← List.getD_eq_getElem?_getD] at this
  have ne : os.getD 0 [] ≠ os.getD 1 [] := fun z => by
    have := h.cnt h1 h6 (p := 1) (by omega)
    rw [← z] at this
    omega
  have hg : gNe (tupD (os.getD 0 [])) (tupD (os.getD 1 [])) = .ok (.bool true) .frz := by
    rw [gNe_tup, decide_eq_false ne]
    rfl
  have hfor : forL (toN 2) L1_chain_road [chD os, chD (os.drop 1)] [some (.dat (chD os)), some (.dat (chD (os.drop 1))), none, none, none, none, none, none] = .next [some (.dat (chD os)), some (.dat (chD (os.drop 1))), some (.dat (chD (os.drop 1))), none, none, none, none, none] := by
    simp only [forL, L1_chain_road, toN_eq, List.set_cons_zero, List.set_cons_succ, ifS_eq, notB_eq, truthB_eq, callE_eq, consA_eq, varE_eq, List.getElem?_cons_zero, List.getElem?_cons_succ, varO_d, hard_frz, bindA_ok, nilA_eq, abind_ok, abindE_ok, i1, i2, toE_ok, bindB_ok, truthO_b, bindB_b, Bool.not_true, bindS_b, Bool.false_eq_true, if_false, nilS_eq]
  refine defM_exc rfl (G := [some (.dat (chD os)), some (.dat (chD (os.drop 1))), some (.dat (chD (os.drop 1))), none, none, none, none, none]) ?_
  simp only [b_chain_road, startG, List.map_cons, List.map_nil, List.length_cons, List.length_nil, Nat.reduceAdd, Nat.reduceSub, List.replicate, List.cons_append, List.nil_append, seqS_eq, forS_eq, iterT_eq, tupE_eq, consA_eq, varE_eq, List.getElem?_cons_zero, List.getElem?_cons_succ, varO_d, hard_frz, bindA_ok, nilA_eq, abind_ok, abindE_ok, b2, if_true, iterTK_t, run_ok, hfor, seq_next, ifS_eq, orB_eq, boolB_eq, op2_eq, bind_ok, cE_eq, gIx_l, f1, f2, optE_some, hg, bindB_ok, boolO_b, bindB_b, bindS_b, raiseS_eq, seq_exc]
/-! ### the law's loop -/
theorem cont_dec {α : Type} (i1 i2 : BEq α) (l1 : @LawfulBEq α i1) (l2 : @LawfulBEq α i2) (l : List α) (x : α) : @List.contains α i1 l x = @List.contains α i2 l x := by
  induction l with
  | nil => rfl
  | cons y l ih =>
    rw [@List.contains_cons α i1, @List.contains_cons α i2, ih]
    congr 1
    rw [Bool.eq_iff_iff]
    exact (@beq_iff_eq α i1 l1 x y).trans (@beq_iff_eq α i2 l2 x y).symm
theorem lk_succ10 (one : Cn) (j : Nat) : lk nb10 one (j + 1) = lk nb10 one j ++ ((lk nb10 one j).flatMap nb10).filter fun x => !(lk nb10 one j).contains x := by
  rw [lk_succ]
  congr 1
  unfold nw
  exact List.filter_congr fun x _ => congrArg (!·) (cont_dec _ _ inferInstance inferInstance _ x)
section
variable {n k : Nat} {a b : List Int} (h1 : 1 ≤ n) (h5 : n ≤ 5) (k4 : k ≤ 4)
include h1 h5 k4
theorem l_comp1 {c : Cn} (hc : Ck n a b k c) {x0 x1 x2 x3 x4 x5 x6 x7 x8 x9 x10 x12 x13 : Option Sl} : C1_law [x0, x1, x2, x3, x4, x5, x6, x7, x8, x9, x10, some (.dat (chD c)), x12, x13] = .ok (.list ((nb10 c).map chD)) .new := by
  have hl := hc.len
  have hn : nb10 c = (List.range (k - 1)).map fun i => changed c (i + 1) := by
    unfold nb10
    rw [hl]
    congr 2
  unfold C1_law
  rw [compE_eq]
  have r : rg2K (.ok (.int 1) .frz) (.ok (.int ((c.length : Int) - 1)) .frz) = some (rgD 1 (k - 1)) := by
    rw [rg2K_i (by omega), hl]
    congr 2
    omega
  have hi : compO (rg2 (cE (.int 1)) (op2 (gInt iSub) (op1 gLen (varE 11)) (cE (.int 1)))) [x0, x1, x2, x3, x4, x5, x6, x7, x8, x9, x10, some (.dat (chD c)), x12, x13] = .ok (rgD 1 (k - 1)) := by
    simp only [compO_eq, rg2_eq, cE_eq, op2_eq, op1_eq, varE_eq, List.getElem?_cons_zero, List.getElem?_cons_succ, varO_d, bind_ok, gLen_l, List.length_map, gInt_eq, iSub_eq, optE_some, r]
    rfl
  rw [hi, rgD_map, comp_all (enc := fun i : Nat => PyData.int (1 + ((i : Nat) : Int))) (g := fun i => chD (changed c (i + 1))) (xs := List.range (k - 1)) (by rw [List.length_range]; unfold big; omega) fun i hi => by
    have := List.mem_range.mp hi
    have hca := change_at_ok h1 (by omega) hc.ch.od hc.ch.st (p := i + 1) (by omega) (show i + 1 + 1 < c.length by omega) (by omega)
    have e1 : (1 : Int) + ((i : Nat) : Int) = ((i + 1 : Nat) : Int) := by omega
    simp only [stepC_eq, toN_eq, wipeG_cons, wipeG_nil, List.set_cons_zero, List.set_cons_succ, tgtK_s, yesB_eq, tstK_b, if_true, callE_eq, consA_eq, varE_eq, List.getElem?_cons_zero, List.getElem?_cons_succ, varO_d, hard_frz, bindA_ok, nilA_eq, abind_ok, abindE_ok, e1, hca, toE_ok, eltK_ok]]
  rw [hn, List.map_map]
  rfl
theorem l_comp2 {R L : List Cn} (hL : L.length ≤ 1000000) {x0 x1 x2 x3 x4 x5 x6 x7 x9 x11 x12 x13 : Option Sl} : C2_law [x0, x1, x2, x3, x4, x5, x6, x7, some (.dat (.list (R.map chD))), x9, some (.own (L.map chD)), x11, x12, x13] = .ok (.list ((L.filter fun x => !R.contains x).map chD)) .new := by
  unfold C2_law
  rw [compE_eq]
  have hi : compiL (varE 10) [x0, x1, x2, x3, x4, x5, x6, x7, some (.dat (.list (R.map chD))), x9, some (.own (L.map chD)), x11, x12, x13] = .ok (L.map chD) := rfl
  rw [hi, comp_fm (enc := chD) (p := fun x => !R.contains x) (g := chD) hL fun c _ => by
    simp only [stepC_eq, toN_eq, wipeG_cons, wipeG_nil, List.set_cons_zero, List.set_cons_succ, tgtK_s, boolB_eq, op2_eq, varE_eq, List.getElem?_cons_zero, List.getElem?_cons_succ, varO_d, varO_o, bind_ok, gNotIn_chs, bindB_ok, boolO_b, tstK_b, hard_frz, eltK_ok]
    split <;> rfl]
theorem l_body {one : Cn} (ho : Ck n a b k one) {j : Nat} (hj : j ≤ 15) {s8 : Sl} (hs : s8 = .own ((lk nb10 one j).map chD) ∨ s8 = .dat (.list ((lk nb10 one j).map chD))) {x0 x1 x2 x3 x4 x5 x6 x7 x10 x11 x12 x13 : Option Sl} :
    ∃ y10 y11, L2_law [x0, x1, x2, x3, x4, x5, x6, x7, some s8, some (.dat (.int (j : Nat))), x10, x11, x12, x13] = .next [x0, x1, x2, x3, x4, x5, x6, x7, some (.own ((lk nb10 one (j + 1)).map chD)), some (.dat (.int ((j + 1 : Nat) : Int))), y10, y11, x12, x13] := by
  have all := lk_all (Ck n a b k) ho (nb_ck h1 (by omega)) j
  have h3 : ∀ z, Ck n a b k z → (nb10 z).length ≤ 3 := fun z hz => by rw [nb_len hz]; omega
  have few := lk_few (Ck n a b k) ho (nb_ck h1 (by omega)) h3 (nb_sym h1 (by omega)) j
  have few1 := lk_few (Ck n a b k) ho (nb_ck h1 (by omega)) h3 (nb_sym h1 (by omega)) (j + 1)
  have p15 : 2 ^ j ≤ 2 ^ 15 := Nat.pow_le_pow_right (by decide) hj
  have e15 : 2 ^ 15 = 32768 := rfl
  have hfl : ((lk nb10 one j).flatMap nb10).length ≤ 3 * (lk nb10 one j).length := flat_le fun x hx => h3 x (all x hx)
  have hrun : ∃ y11, forL (toN 11) L1_law ((lk nb10 one j).map chD) [x0, x1, x2, x3, x4, x5, x6, x7, some (.dat (.list ((lk nb10 one j).map chD))), some (.dat (.int (j : Nat))), some (.own []), x11, x12, x13] = .next [x0, x1, x2, x3, x4, x5, x6, x7, some (.dat (.list ((lk nb10 one j).map chD))), some (.dat (.int (j : Nat))), some (.own (((lk nb10 one j).flatMap nb10).map chD)), y11, x12, x13] := by
    obtain ⟨G2, hG, y11, e⟩ := for_acc (enc := chD) (tgt := toN 11) (body := L1_law) 400000 (fun (l : List Cn) G => ∃ y11 : Option Sl, G = [x0, x1, x2, x3, x4, x5, x6, x7, some (.dat (.list ((lk nb10 one j).map chD))), some (.dat (.int (j : Nat))), some (.own (l.map chD)), y11, x12, x13])
      nb10 (xs := lk nb10 one j) (acc := []) (G := [x0, x1, x2, x3, x4, x5, x6, x7, some (.dat (.list ((lk nb10 one j).map chD))), some (.dat (.int (j : Nat))), some (.own []), x11, x12, x13]) ⟨x11, rfl⟩ (by rw [List.length_nil, Nat.zero_add]; omega) fun c hc l G ⟨y11, e⟩ hl => by
        subst e
        have hcc := l_comp1 h1 h5 k4 (all c hc) (x0 := x0) (x1 := x1) (x2 := x2) (x3 := x3) (x4 := x4) (x5 := x5) (x6 := x6) (x7 := x7) (x8 := some (.dat (.list ((lk nb10 one j).map chD)))) (x9 := some (.dat (.int (j : Nat)))) (x10 := some (.own (l.map chD))) (x12 := x12) (x13 := x13)
        have hbl : l.length + (nb10 c).length ≤ big := by unfold big; omega
        refine ⟨_, _, rfl, ?_, some (.dat (chD c)), rfl⟩
        simp only [L1_law, asgS_eq, op2_eq, varE_eq, List.set_cons_zero, List.set_cons_succ, List.getElem?_cons_zero, List.getElem?_cons_succ, varO_o, bind_ok, hcc, gAdd_l, List.length_map, hbl, if_true, bindS_ok, asgK_new, List.map_append]
    rw [List.nil_append] at e
    exact ⟨y11, by rw [hG, e]⟩
  obtain ⟨y11, hrun⟩ := hrun
  have b0 : 0 ≤ big := by decide
  have hc2 := l_comp2 h1 h5 k4 (R := lk nb10 one j) (L := (lk nb10 one j).flatMap nb10) (by omega) (x0 := x0) (x1 := x1) (x2 := x2) (x3 := x3) (x4 := x4) (x5 := x5) (x6 := x6) (x7 := x7) (x9 := some (.dat (.int (j : Nat)))) (x11 := y11) (x12 := x12) (x13 := x13)
  have hsum : (lk nb10 one j).length + (((lk nb10 one j).flatMap nb10).filter fun x => !(lk nb10 one j).contains x).length ≤ big := by
    have := List.length_filter_le (fun x => !(lk nb10 one j).contains x) ((lk nb10 one j).flatMap nb10)
    unfold big
    omega
  have hk1 : ((j : Nat) : Int) + 1 = ((j + 1 : Nat) : Int) := by omega
  refine ⟨some (.own (((lk nb10 one j).flatMap nb10).map chD)), y11, ?_⟩
  have hlk : (lk nb10 one (j + 1)).map chD = (lk nb10 one j).map chD ++ (((lk nb10 one j).flatMap nb10).filter fun x => !(lk nb10 one j).contains x).map chD := by
    rw [← List.map_append, lk_succ10]
  rw [hlk]
  rcases hs with rfl | rfl
  · simp only [L2_law, seqS_eq, asgS_eq, lstE_eq, nilA_eq, abindE_ok, List.length_nil, b0, if_true, bindS_ok, asgK_new, List.set_cons_succ, List.set_cons_zero, seq_next, forS_eq, iterL_eq, varE_eq, List.getElem?_cons_succ, List.getElem?_cons_zero, varO_o, varO_d, iterLK_own, ownI_o, run_ok]
    rw [hrun]
    simp only [seq_next, seqS_eq, asgS_eq, op2_eq, varE_eq, List.getElem?_cons_succ, List.getElem?_cons_zero, varO_o, varO_d, bind_ok, hc2, gAdd_l, List.length_map, hsum, if_true, bindS_ok, asgK_new, List.set_cons_succ, List.set_cons_zero, cE_eq, gAdd_i, hk1, asgK_frz]
  · simp only [L2_law, seqS_eq, asgS_eq, lstE_eq, nilA_eq, abindE_ok, List.length_nil, b0, if_true, bindS_ok, asgK_new, List.set_cons_succ, List.set_cons_zero, seq_next, forS_eq, iterL_eq, varE_eq, List.getElem?_cons_succ, List.getElem?_cons_zero, varO_o, varO_d, iterLK_frz, run_ok]
    rw [hrun]
    simp only [seq_next, seqS_eq, asgS_eq, op2_eq, varE_eq, List.getElem?_cons_succ, List.getElem?_cons_zero, varO_o, varO_d, bind_ok, hc2, gAdd_l, List.length_map, hsum, if_true, bindS_ok, asgK_new, List.set_cons_succ, List.set_cons_zero, cE_eq, gAdd_i, hk1, asgK_frz]
end
end Lw

set_option linter.all false
set_option maxRecDepth 1000000
namespace Lw
open PySem L2 VL
section
variable {n k : Nat} {a b : List Int} (h1 : 1 ≤ n) (h5 : n ≤ 5) (k4 : k ≤ 4)
include h1 h5 k4
theorem l_loop {one other : Cn} (ho : Ck n a b k one) {lv : Nat} (hlv : lv ≤ 16) (hit : other ∈ lk nb10 one lv) (min : ∀ j, j < lv → other ∉ lk nb10 one j) {x0 x1 x2 x3 x4 x6 x7 x12 x13 : Option Sl} : ∀ (m j f : Nat) (s8 : Sl) (x10 x11 : Option Sl), j + m = lv → m < f → (s8 = .own ((lk nb10 one j).map chD) ∨ s8 = .dat (.list ((lk nb10 one j).map chD))) →
    ∃ t8 y10 y11, whileL (boolB (op2 gNotIn (varE 5) (varE 8))) L2_law f [x0, x1, x2, x3, x4, some (.dat (chD other)), x6, x7, some s8, some (.dat (.int (j : Nat))), x10, x11, x12, x13] = .next [x0, x1, x2, x3, x4, some (.dat (chD other)), x6, x7, some t8, some (.dat (.int (lv : Nat))), y10, y11, x12, x13]
  | m, j, 0, _, _, _, _, hf, _ => absurd hf (Nat.not_lt_zero _)
  | m, j, f + 1, s8, x10, x11, e, hf, hs => by
    have hc : boolB (op2 gNotIn (varE 5) (varE 8)) [x0, x1, x2, x3, x4, some (.dat (chD other)), x6, x7, some s8, some (.dat (.int (j : Nat))), x10, x11, x12, x13] = .ok (!(lk nb10 one j).contains other) := by
      rcases hs with rfl | rfl
      · simp only [boolB_eq, op2_eq, varE_eq, List.getElem?_cons_zero, List.getElem?_cons_succ, varO_d, varO_o, bind_ok, gNotIn_chs, bindB_ok, boolO_b]
      · simp only [boolB_eq, op2_eq, varE_eq, List.getElem?_cons_zero, List.getElem?_cons_succ, varO_d, varO_o, bind_ok, gNotIn_chs, bindB_ok, boolO_b]
    unfold whileL
    rw [hc]
    cases m with
    | zero =>
      have ej : j = lv := by omega
      subst ej
      have : (lk nb10 one j).contains other = true := List.contains_iff_mem.mpr hit
      rw [this]
      exact ⟨s8, x10, x11, rfl⟩
    | succ m =>
      have : (lk nb10 one j).contains other = false := by
        rw [Bool.eq_false_iff]
        exact fun z => min j (by omega) (List.contains_iff_mem.mp z)
      rw [this]
      simp only [Bool.not_false]
      obtain ⟨y10, y11, hb⟩ := l_body h1 h5 k4 ho (j := j) (by omega) hs (x0 := x0) (x1 := x1) (x2 := x2) (x3 := x3) (x4 := x4) (x5 := some (.dat (chD other))) (x6 := x6) (x7 := x7) (x10 := x10) (x11 := x11) (x12 := x12) (x13 := x13)
      rw [hb]
      simp only
      exact l_loop ho hlv hit min m (j + 1) f _ y10 y11 (by omega) (by omega) (.inl rfl)
omit h1 h5 k4 in
theorem one_place {p : Nat} : ∀ {m : Nat} {f : Nat → Bool}, (∀ i, f i = decide (i = p)) → ((List.range m).filter f).length = if p < m then 1 else 0
  | 0, f, _ => by simp
  | m + 1, f, h => by
    rw [List.range_succ, List.filter_append, List.length_append, one_place h]
    by_cases e : m = p
    · subst e
      have : f m = true := by rw [h]; exact decide_eq_true rfl
      simp [this]
    · have : f m = false := by rw [h]; exact decide_eq_false e
      simp only [List.filter_cons, this, List.filter_nil, Bool.false_eq_true, if_false, List.length_nil]
      by_cases c : p < m
      · rw [if_pos c, if_pos (by omega)]
      · rw [if_neg c, if_neg (by omega)]
theorem l_unlike {c x : Cn} (hc : Ck n a b k c) (hx : x ∈ nb10 c) : ((List.range (k + 1)).filter fun i => !decide (x.getD i [] = c.getD i [])).length = 1 := by
  have hl := hc.len
  obtain ⟨p, q1, q2, rfl⟩ := (nb_mem h1 (by omega) hc).mp hx
  obtain ⟨_, _, d, hd, e⟩ := nb_facts h1 (by omega) hc q1 q2
  rw [one_place (p := p) (m := k + 1) fun i => ?_, if_pos (by omega)]
  rw [e, getD_set (by omega)]
  by_cases ei : i = p
  · rw [if_pos ei, ei, decide_eq_true rfl, decide_eq_false hd]
    rfl
  · rw [if_neg ei, decide_eq_true rfl, decide_eq_false ei]
    rfl
theorem l_comp3 {one : Cn} (ho : Ck n a b k one) {F : List Cn} (hF : ∀ x ∈ F, Ck n a b k x) {s : Nat} (hs : s + 1 < F.length) {x0 x1 x2 x4 x5 x8 x9 x10 x11 x12 x13 : Option Sl} :
    C3_law [x0, x1, x2, some (.dat (chD one)), x4, x5, some (.dat (.list (F.map chD))), some (.dat (.int ((s + 1 : Nat) : Int))), x8, x9, x10, x11, x12, x13] = .ok (.list (((List.range (k + 1)).filter fun i => !decide ((F.getD (s + 1) []).getD i [] = (F.getD s []).getD i [])).map fun i : Nat => PyData.int (i : Nat))) .new := by
  have hl := ho.len
  have g1 : F.getD (s + 1) [] ∈ F := by rw [List.getD_eq_getElem?_getD, List.getElem?_eq_getElem hs]; exact List.getElem_mem hs
  have g0 : F.getD s [] ∈ F := by rw [List.getD_eq_getElem?_getD, List.getElem?_eq_getElem (show s < F.length by omega)]; exact List.getElem_mem _
  have l1 := (hF _ g1).len
  have l0 := (hF _ g0).len
  have e1 : atI (F.map chD) ((s + 1 : Nat) : Int) = some (chD (F.getD (s + 1) [])) := atI_map hs
  have e0 : atI (F.map chD) (s : Nat) = some (chD (F.getD s [])) := atI_map (by omega)
  have es : ((s + 1 : Nat) : Int) - 1 = ((s : Nat) : Int) := by omega
  unfold C3_law
  rw [compE_eq]
  have r : rg1K (.ok (.int (one.length : Int)) .frz) = some (rgD 0 (k + 1)) := by
    rw [rg1K_i (by omega), hl]
    congr 2
  have hi : compO (rg1 (op1 gLen (varE 3))) [x0, x1, x2, some (.dat (chD one)), x4, x5, some (.dat (.list (F.map chD))), some (.dat (.int ((s + 1 : Nat) : Int))), x8, x9, x10, x11, x12, x13] = .ok (rgD 0 (k + 1)) := by
    simp only [compO_eq, rg1_eq, op1_eq, varE_eq, List.getElem?_cons_zero, List.getElem?_cons_succ, varO_d, bind_ok, gLen_l, List.length_map, r]
    rfl
  rw [hi, rgD_map, comp_fm (enc := fun i : Nat => PyData.int (0 + ((i : Nat) : Int))) (p := fun i => !decide ((F.getD (s + 1) []).getD i [] = (F.getD s []).getD i [])) (g := fun i : Nat => PyData.int (i : Nat)) (xs := List.range (k + 1)) (by rw [List.length_range]; unfold big; omega) fun i hi => by
    have hi := List.mem_range.mp hi
    have d1 : atI ((F.getD (s + 1) []).map tupD) (i : Nat) = some (tupD ((F.getD (s + 1) []).getD i [])) := atI_map (by omega)
    have d0 : atI ((F.getD s []).map tupD) (i : Nat) = some (tupD ((F.getD s []).getD i [])) := atI_map (by omega)
    simp only [Int.zero_add, stepC_eq, toN_eq, wipeG_cons, wipeG_nil, List.set_cons_zero, List.set_cons_succ, tgtK_s, boolB_eq, op2_eq, varE_eq, List.getElem?_cons_zero, List.getElem?_cons_succ, varO_d, bind_ok, gIx_l, e1, optE_some, d1, cE_eq, gInt_eq, iSub_eq, es, e0, d0, gNe_tup, bindB_ok, boolO_b, tstK_b, hard_frz, eltK_ok]
    split <;> rfl]
theorem l_turn {one other : Cn} (ho : Ck n a b k one) {lv : Nat} {F : List Cn} (R : Road n a b k one other lv F) {cs : List Cn} (hcs : ∀ x, Ck n a b k x → x ∈ cs) {s : Nat} (hs : s < lv) {x0 x1 x2 x5 x8 x9 x10 x11 x12 x13 : Option Sl} :
    ∃ y12, L3_law [x0, x1, x2, some (.dat (chD one)), some (.dat (.list (cs.map chD))), x5, some (.dat (.list (F.map chD))), some (.dat (.int ((s + 1 : Nat) : Int))), x8, x9, x10, x11, x12, x13] = .next [x0, x1, x2, some (.dat (chD one)), some (.dat (.list (cs.map chD))), x5, some (.dat (.list (F.map chD))), some (.dat (.int ((s + 1 : Nat) : Int))), x8, x9, x10, x11, y12, x13] := by
  have hF := R.len
  have hsF : s + 1 < F.length := by omega
  have g1 : F.getD (s + 1) [] ∈ F := by rw [List.getD_eq_getElem?_getD, List.getElem?_eq_getElem hsF]; exact List.getElem_mem hsF
  have g0 : F.getD s [] ∈ F := by rw [List.getD_eq_getElem?_getD, List.getElem?_eq_getElem (show s < F.length by omega)]; exact List.getElem_mem _
  have hc3 := l_comp3 h1 h5 k4 ho R.ck hsF (x0 := x0) (x1 := x1) (x2 := x2) (x4 := some (.dat (.list (cs.map chD)))) (x5 := x5) (x8 := x8) (x9 := x9) (x10 := x10) (x11 := x11) (x12 := x12) (x13 := x13)
  have hu := l_unlike h1 h5 k4 (R.ck _ g0) (R.nxt s hs)
  have e1 : atI (F.map chD) ((s + 1 : Nat) : Int) = some (chD (F.getD (s + 1) [])) := atI_map hsF
  have hin : cs.contains (F.getD (s + 1) []) = true := List.contains_iff_mem.mpr (hcs _ (R.ck _ g1))
  have hne : gNe (.int ((((List.range (k + 1)).filter fun i => !decide ((F.getD (s + 1) []).getD i [] = (F.getD s []).getD i [])).length : Nat) : Int)) (.int 1) = .ok (.bool false) .frz := by
    rw [hu]
    rfl
  refine ⟨some (.own (((List.range (k + 1)).filter fun i => !decide ((F.getD (s + 1) []).getD i [] = (F.getD s []).getD i [])).map fun i : Nat => PyData.int (i : Nat))), ?_⟩
  unfold L3_law
  rw [seqS_eq, asgS_eq, hc3]
  simp only [bindS_ok, asgK_new, List.set_cons_zero, List.set_cons_succ, seq_next, ifS_eq, orB_eq, boolB_eq, op2_eq, op1_eq, varE_eq, List.getElem?_cons_zero, List.getElem?_cons_succ, varO_o, varO_d, bind_ok, gLen_l, List.length_map, cE_eq, hne, bindB_ok, boolO_b, bindB_b, Bool.false_eq_true, if_false, gIx_l, e1, optE_some, gNotIn_chs, hin, Bool.not_true, bindS_b, nilS_eq]
theorem l_steps {one other : Cn} (ho : Ck n a b k one) {lv : Nat} {F : List Cn} (R : Road n a b k one other lv F) {cs : List Cn} (hcs : ∀ x, Ck n a b k x → x ∈ cs) {x0 x1 x2 x5 x7 x8 x9 x10 x11 x12 x13 : Option Sl} :
    ∃ y7 y12, forL (toN 7) L3_law (rgD 1 lv) [x0, x1, x2, some (.dat (chD one)), some (.dat (.list (cs.map chD))), x5, some (.dat (.list (F.map chD))), x7, x8, x9, x10, x11, x12, x13] = .next [x0, x1, x2, some (.dat (chD one)), some (.dat (.list (cs.map chD))), x5, some (.dat (.list (F.map chD))), y7, x8, x9, x10, x11, y12, x13] := by
  obtain ⟨G2, hG, y7, y12, e⟩ := for_inv (tgt := toN 7) (body := L3_law) (ds := rgD 1 lv) (G := [x0, x1, x2, some (.dat (chD one)), some (.dat (.list (cs.map chD))), x5, some (.dat (.list (F.map chD))), x7, x8, x9, x10, x11, x12, x13])
    (fun _ G => ∃ y7 y12 : Option Sl, G = [x0, x1, x2, some (.dat (chD one)), some (.dat (.list (cs.map chD))), x5, some (.dat (.list (F.map chD))), y7, x8, x9, x10, x11, y12, x13])
    ⟨x7, x12, rfl⟩ fun s d G hi ⟨y7, y12, e⟩ => by
      obtain ⟨hi2, rfl⟩ := rgD_get hi
      subst e
      have e1 : (1 : Int) + ((s : Nat) : Int) = ((s + 1 : Nat) : Int) := by omega
      rw [e1]
      obtain ⟨z12, ht⟩ := l_turn h1 h5 k4 ho R hcs (s := s) (by omega) (x0 := x0) (x1 := x1) (x2 := x2) (x5 := x5) (x8 := x8) (x9 := x9) (x10 := x10) (x11 := x11) (x12 := y12) (x13 := x13)
      exact ⟨_, _, rfl, ht, _, z12, rfl⟩
  exact ⟨y7, y12, by rw [hG, e]⟩
end
end Lw

set_option linter.all false
set_option maxRecDepth 1000000
namespace Lw
open PySem L2 VL
/-! ### the law -/
theorem law_true (ns : List Int) (_ : ns.length ≤ 63) : m_law [scrD ns] = .ok (.bool true) := by
  obtain ⟨ds, hd, hrow⟩ := row_ok (ns := ns) (a := 4) (by decide)
  obtain ⟨v0, a0, j0, e0⟩ := draw_at hd (i := 0) (by omega) (by omega)
  obtain ⟨v1, a1, j1, e1⟩ := draw_at hd (i := 1) (by omega) (by omega)
  have hm0 : iMod v0 4 = some (.int (v0 % 4)) := iMod_pos (by omega)
  obtain ⟨n, hn⟩ : ∃ n : Nat, (2 : Int) + v0 % 4 = (n : Nat) := ⟨(2 + v0 % 4).toNat, by omega⟩
  have h1 : 1 ≤ n := by omega
  have h5 : n ≤ 5 := by omega
  obtain ⟨os, hc, hl, hchain⟩ := law_chain4 (ns := ns) h1 (show n ≤ 6 by omega)
  have hpos := hc.pos
  obtain ⟨k, hk⟩ : ∃ k, os.length = k + 1 := ⟨os.length - 1, by omega⟩
  have k4 : k ≤ 4 := by omega
  obtain ⟨a, ha0⟩ : ∃ a, os.getD 0 [] = a := ⟨_, rfl⟩
  obtain ⟨b, hb0⟩ : ∃ b, os.getD k [] = b := ⟨_, rfl⟩
  have ho : Ck n a b k os := ⟨hc, hk, ha0, hb0⟩
  obtain ⟨oa, ob, hab⟩ := ck_ends ho
  have hcnt : cnt b = cnt a + k := by
    rw [← ha0, ← hb0]
    exact hc.cnt h1 (by omega) (by omega)
  have hck : cnt b - cnt a = k := by omega
  have hB : ∀ j, j ≤ cnt b - cnt a → (chs a b j).length ≤ 2000 := fun j hj => by
    have := chs_few (b := b) h1 h5 oa hab j
    have h64 : (6 : Nat) ^ j ≤ 6 ^ 4 := Nat.pow_le_pow_right (by decide) (by omega)
    have e64 : (6 : Nat) ^ 4 = 1296 := rfl
    omega
  have hlc := law_chains_ok h1 (by omega) oa ob hab hB
  rw [hck] at hlc
  obtain ⟨cs, pm, ecs⟩ := perm_map (srtD_perm ((chs a b k).map chD))
  rw [ecs] at hlc
  have hlen := pm.length_eq
  have hp1 := chs_pos h1 (by omega) oa ob hab k (by omega)
  have hcs : ∀ x, Ck n a b k x → x ∈ cs := fun x hx => pm.mem_iff.mpr (ck_chs hx)
  have hm1 : iMod v1 ((cs.length : Nat) : Int) = some (.int (v1 % ((cs.length : Nat) : Int))) := iMod_pos (by omega)
  obtain ⟨other, hot, eo⟩ := at_map (f := chD) (xs := cs) (i := v1 % ((cs.length : Nat) : Int)) (Int.emod_nonneg _ (by omega)) (Int.emod_lt_of_pos _ (by omega))
  have ht : Ck n a b k other := chs_ck h1 (by omega) oa ob hab hcnt (pm.mem_iff.mp hot)
  obtain ⟨lv, F, R, hroad⟩ := chain_road_ok h1 h5 k4 ho ht
  have hlv : lv ≤ 16 := by
    refine Nat.le_of_not_lt fun z => ?_
    exact R.min 16 z (conn0 h1 h5 k4 ho ht)
  have hF := R.len
  have f1 : atI (os.map tupD) 0 = some (tupD a) := by
    have := atI_map (f := tupD) (xs := os) (p := 0) (z := []) (by omega)
    rwa [ha0] at this
  have f2 : atI (os.map tupD) (-1) = some (tupD b) := by
    have := atI_last (f := tupD) (xs := os) (z := []) (by omega)
    rwa [show os.length - 1 = k by omega, hb0] at this
  have F1 : atI (F.map chD) 0 = some (chD os) := by
    have := atI_map (f := chD) (xs := F) (p := 0) (z := []) (by omega)
    rwa [R.fst] at this
  have F2 : atI (F.map chD) (-1) = some (chD other) := by
    have := atI_last (f := chD) (xs := F) (z := []) (by omega)
    rwa [show F.length - 1 = lv by omega, R.lst] at this
  have ne : ∀ c : Cn, gNe (chD c) (chD c) = .ok (.bool false) .frz := fun c => by rw [gNe_tups, decide_eq_true rfl]; rfl
  have nl : gNe (.int ((F.length : Nat) : Int)) (.int (((lv : Nat) : Int) + 1)) = .ok (.bool false) .frz := by
    rw [hF, gNe_i]
    have : (((lv + 1 : Nat) : Int) == ((lv : Nat) : Int) + 1) = true := by rw [beq_iff_eq]; omega
    rw [this]
    rfl
  have b1 : 1 ≤ big := by decide
  have b2 : 2 ≤ big := by decide
  obtain ⟨t8, y10, y11, hw⟩ := l_loop h1 h5 k4 ho hlv R.hit R.min (x0 := some (.dat (scrD ns))) (x1 := some (.dat (.list (ds.map PyData.int)))) (x2 := some (.dat (.int (n : Nat)))) (x3 := some (.dat (chD os))) (x4 := some (.dat (.list (cs.map chD)))) (x6 := some (.dat (.list (F.map chD)))) (x7 := none) (x12 := none) (x13 := none) lv 0 100 (.dat (.list [chD os])) none none (by omega) (by omega) (.inr rfl)
  obtain ⟨y7, y12, hst⟩ := l_steps h1 h5 k4 ho R hcs (x0 := some (.dat (scrD ns))) (x1 := some (.dat (.list (ds.map PyData.int)))) (x2 := some (.dat (.int (n : Nat)))) (x5 := some (.dat (chD other))) (x7 := none) (x8 := some t8) (x9 := some (.dat (.int (lv : Nat)))) (x10 := y10) (x11 := y11) (x12 := none) (x13 := none)
  have r : rg2K (.ok (.int 1) .frz) (.ok (.int ((F.length : Nat) : Int)) .frz) = some (rgD 1 lv) := by
    rw [rg2K_i (by omega), hF]
    congr 2
    omega
  have hfin : (orE (op2 (gInt iLt) (op1 gLen (varE 3)) (cE (.int 2))) (op2 gEq (callE m__law_changed (consA (cE (.int 1)) (consA (varE 3) (consA (slE (varE 3) (partS (cE (.int 1))) partN) nilA)))) (cE (.str "chain"))))
      [some (.dat (scrD ns)), some (.dat (.list (ds.map PyData.int))), some (.dat (.int (n : Nat))), some (.dat (chD os)), some (.dat (.list (cs.map chD))), some (.dat (chD other)), some (.dat (.list (F.map chD))), y7, some t8, some (.dat (.int (lv : Nat))), y10, y11, y12, none] = .ok (.bool true) .frz := by
    by_cases c : (os.length : Int) < 2
    · simp only [orE_eq, op2_eq, op1_eq, varE_eq, List.getElem?_cons_zero, List.getElem?_cons_succ, varO_d, bind_ok, gLen_l, List.length_map, cE_eq, gInt_eq, iLt_eq, decide_eq_true c, optE_some, orK_b, if_true]
    · have hch := changed_exc1 (tail_road h1 (show n ≤ 6 by omega) hc hl (by omega))
      have hct : cutD (os.map tupD) (some 1) none = (os.drop 1).map tupD := cut_fromN (p := 1)
      have so : gEq (.str "chain") (.str "chain") = .ok (.bool true) .frz := by rw [gEq_str]; rfl
      simp only [orE_eq, op2_eq, op1_eq, varE_eq, List.getElem?_cons_zero, List.getElem?_cons_succ, varO_d, bind_ok, gLen_l, List.length_map, cE_eq, gInt_eq, iLt_eq, decide_eq_false c, optE_some, orK_b, Bool.false_eq_true, if_false, callE_eq, consA_eq, hard_frz, hard_new, bindA_ok, nilA_eq, abind_ok, abindE_ok, slE_eq, partN_eq, partS_eq, partK_i, slK_s, gSl_l, hct, hch, toE_ok, so]
  have hz : ((0 : Nat) : Int) = 0 := rfl
  rw [hz] at hw
  refine defM_ret rfl ?_
  simp only [b_law, startG, List.map_cons, List.map_nil, List.length_cons, List.length_nil, Nat.reduceAdd, Nat.reduceSub, List.replicate, List.cons_append, List.nil_append, seqS_eq, asgS_eq, asg2S_eq, callE_eq, consA_eq, varE_eq, List.getElem?_cons_zero, List.getElem?_cons_succ, varO_d, cE_eq, hard_frz, hard_new, bindA_ok, nilA_eq, abind_ok, abindE_ok, toE_ok, bindS_ok, asgK_frz, asgK_new, List.set_cons_zero, List.set_cons_succ, seq_next, hrow, op2_eq, op1_eq, bind_ok, gIx_l, e0, optE_some, gInt_eq, hm0, gAdd_i, hn, hchain, f1, f2, hlc, e1, gLen_l, List.length_map, hm1, eo, hroad, tupE_eq, lstE_eq, b1, b2, if_true, pairK_t]
  rw [hw]
  simp only [seq_next, seqS_eq, ifS_eq, orB_eq, boolB_eq, op2_eq, op1_eq, varE_eq, List.getElem?_cons_zero, List.getElem?_cons_succ, varO_d, bind_ok, cE_eq, gIx_l, F1, F2, optE_some, ne, bindB_ok, boolO_b, bindB_b, Bool.false_eq_true, if_false, gLen_l, List.length_map, gAdd_i, nl, bindS_b, nilS_eq, forS_eq, iterO_eq, rg2_eq, r, ofO_some, run_ok]
  rw [hst]
  simp only [seq_next, retS_eq]
  rw [hfin]
  rfl
end Lw

set_option Elab.async false
set_option linter.all false
set_option maxRecDepth 100000
set_option maxHeartbeats 4000000
namespace Lw
open PySem L2 VL
theorem all_mk {l : PySem.W.OpenLaw} {w : World} {K : PySem.W.Frag} {h : Heap} {mg : Str → Option Value} {fa f_in_range f_is_order f_exchanged f_steps_up f_is_step f_is_chain f_change_at f_chain_road f__law_cell f__law_row f__law_order f__law_inversions f__law_swapped f__law_up f__law_great f__law_papers f__law_chains f__law_changed f__law_chain f_law c_OrderError c_InvalidOrder c_InvalidChain c_TooMany : Addr} {od_in_range an_in_range od_is_order an_is_order od_exchanged an_exchanged od_steps_up an_steps_up od_is_step an_is_step od_is_chain an_is_chain od_change_at an_change_at od_chain_road an_chain_road od__law_cell an__law_cell od__law_row an__law_row od__law_order an__law_order od__law_inversions an__law_inversions od__law_swapped an__law_swapped od__law_up an__law_up od__law_great an__law_great od__law_papers an__law_papers od__law_chains an__law_chains od__law_changed an__law_changed od__law_chain an__law_chain od_law an_law : Option Addr} {sl_in_range sl_is_order sl_exchanged sl_steps_up sl_is_step sl_is_chain sl_change_at sl_chain_road sl__law_cell sl__law_row sl__law_order sl__law_inversions sl__law_swapped sl__law_up sl__law_great sl__law_papers sl__law_chains sl__law_changed sl__law_chain sl_law : Array (Option Value)} {oc_in_range kV_in_range dc_in_range pm_in_range cd_in_range ct_in_range oc_is_order kV_is_order dc_is_order pm_is_order cd_is_order ct_is_order oc_exchanged kV_exchanged dc_exchanged pm_exchanged cd_exchanged ct_exchanged oc_steps_up kV_steps_up dc_steps_up pm_steps_up cd_steps_up ct_steps_up oc_is_step kV_is_step dc_is_step pm_is_step cd_is_step ct_is_step oc_is_chain kV_is_chain dc_is_chain pm_is_chain cd_is_chain ct_is_chain oc_change_at kV_change_at dc_change_at pm_change_at cd_change_at ct_change_at oc_chain_road kV_chain_road dc_chain_road pm_chain_road cd_chain_road ct_chain_road oc__law_cell kV__law_cell dc__law_cell pm__law_cell cd__law_cell ct__law_cell oc__law_row kV__law_row dc__law_row pm__law_row cd__law_row ct__law_row oc__law_order kV__law_order dc__law_order pm__law_order cd__law_order ct__law_order oc__law_inversions kV__law_inversions dc__law_inversions pm__law_inversions cd__law_inversions ct__law_inversions oc__law_swapped kV__law_swapped dc__law_swapped pm__law_swapped cd__law_swapped ct__law_swapped oc__law_up kV__law_up dc__law_up pm__law_up cd__law_up ct__law_up oc__law_great kV__law_great dc__law_great pm__law_great cd__law_great ct__law_great oc__law_papers kV__law_papers dc__law_papers pm__law_papers cd__law_papers ct__law_papers oc__law_chains kV__law_chains dc__law_chains pm__law_chains cd__law_chains ct__law_chains oc__law_changed kV__law_changed dc__law_changed pm__law_changed cd__law_changed ct__law_changed oc__law_chain kV__law_chain dc__law_chain pm__law_chain cd__law_chain ct__law_chain oc_law kV_law dc_law pm_law cd_law ct_law : Value} {t_MAX_SIZE t_MAX_CHAINS : Tok}
    (X : K.In h) (G : h.Ns mainGlobals mg) (hfa : mg "law" = some (.ref fa))
    (a_in_range : PySem.W.nsIn K mainGlobals "in_range" = some (some (.ref f_in_range)))
    (l_in_range : K.lookup f_in_range = some ⟨oc_in_range, od_in_range, .func (PySem.W.fnOf "in_range" "in_range" (defArgs s_in_range) (defBody s_in_range) (defScope s_in_range) .none kV_in_range dc_in_range pm_in_range an_in_range cd_in_range ct_in_range), sl_in_range⟩)
    (co_in_range : PySem.W.codeIn K cd_in_range "in_range" = true)
    (ke_in_range : PySem.W.keepIn K (.ref f_in_range) = true)
    (a_is_order : PySem.W.nsIn K mainGlobals "is_order" = some (some (.ref f_is_order)))
    (l_is_order : K.lookup f_is_order = some ⟨oc_is_order, od_is_order, .func (PySem.W.fnOf "is_order" "is_order" (defArgs s_is_order) (defBody s_is_order) (defScope s_is_order) .none kV_is_order dc_is_order pm_is_order an_is_order cd_is_order ct_is_order), sl_is_order⟩)
    (co_is_order : PySem.W.codeIn K cd_is_order "is_order" = true)
    (ke_is_order : PySem.W.keepIn K (.ref f_is_order) = true)
    (a_exchanged : PySem.W.nsIn K mainGlobals "exchanged" = some (some (.ref f_exchanged)))
    (l_exchanged : K.lookup f_exchanged = some ⟨oc_exchanged, od_exchanged, .func (PySem.W.fnOf "exchanged" "exchanged" (defArgs s_exchanged) (defBody s_exchanged) (defScope s_exchanged) .none kV_exchanged dc_exchanged pm_exchanged an_exchanged cd_exchanged ct_exchanged), sl_exchanged⟩)
    (co_exchanged : PySem.W.codeIn K cd_exchanged "exchanged" = true)
    (ke_exchanged : PySem.W.keepIn K (.ref f_exchanged) = true)
    (a_steps_up : PySem.W.nsIn K mainGlobals "steps_up" = some (some (.ref f_steps_up)))
    (l_steps_up : K.lookup f_steps_up = some ⟨oc_steps_up, od_steps_up, .func (PySem.W.fnOf "steps_up" "steps_up" (defArgs s_steps_up) (defBody s_steps_up) (defScope s_steps_up) .none kV_steps_up dc_steps_up pm_steps_up an_steps_up cd_steps_up ct_steps_up), sl_steps_up⟩)
    (co_steps_up : PySem.W.codeIn K cd_steps_up "steps_up" = true)
    (ke_steps_up : PySem.W.keepIn K (.ref f_steps_up) = true)
    (a_is_step : PySem.W.nsIn K mainGlobals "is_step" = some (some (.ref f_is_step)))
    (l_is_step : K.lookup f_is_step = some ⟨oc_is_step, od_is_step, .func (PySem.W.fnOf "is_step" "is_step" (defArgs s_is_step) (defBody s_is_step) (defScope s_is_step) .none kV_is_step dc_is_step pm_is_step an_is_step cd_is_step ct_is_step), sl_is_step⟩)
    (co_is_step : PySem.W.codeIn K cd_is_step "is_step" = true)
    (ke_is_step : PySem.W.keepIn K (.ref f_is_step) = true)
    (a_is_chain : PySem.W.nsIn K mainGlobals "is_chain" = some (some (.ref f_is_chain)))
    (l_is_chain : K.lookup f_is_chain = some ⟨oc_is_chain, od_is_chain, .func (PySem.W.fnOf "is_chain" "is_chain" (defArgs s_is_chain) (defBody s_is_chain) (defScope s_is_chain) .none kV_is_chain dc_is_chain pm_is_chain an_is_chain cd_is_chain ct_is_chain), sl_is_chain⟩)
    (co_is_chain : PySem.W.codeIn K cd_is_chain "is_chain" = true)
    (ke_is_chain : PySem.W.keepIn K (.ref f_is_chain) = true)
    (a_change_at : PySem.W.nsIn K mainGlobals "change_at" = some (some (.ref f_change_at)))
    (l_change_at : K.lookup f_change_at = some ⟨oc_change_at, od_change_at, .func (PySem.W.fnOf "change_at" "change_at" (defArgs s_change_at) (defBody s_change_at) (defScope s_change_at) .none kV_change_at dc_change_at pm_change_at an_change_at cd_change_at ct_change_at), sl_change_at⟩)
    (co_change_at : PySem.W.codeIn K cd_change_at "change_at" = true)
    (ke_change_at : PySem.W.keepIn K (.ref f_change_at) = true)
    (a_chain_road : PySem.W.nsIn K mainGlobals "chain_road" = some (some (.ref f_chain_road)))
    (l_chain_road : K.lookup f_chain_road = some ⟨oc_chain_road, od_chain_road, .func (PySem.W.fnOf "chain_road" "chain_road" (defArgs s_chain_road) (defBody s_chain_road) (defScope s_chain_road) .none kV_chain_road dc_chain_road pm_chain_road an_chain_road cd_chain_road ct_chain_road), sl_chain_road⟩)
    (co_chain_road : PySem.W.codeIn K cd_chain_road "chain_road" = true)
    (ke_chain_road : PySem.W.keepIn K (.ref f_chain_road) = true)
    (a__law_cell : PySem.W.nsIn K mainGlobals "_law_cell" = some (some (.ref f__law_cell)))
    (l__law_cell : K.lookup f__law_cell = some ⟨oc__law_cell, od__law_cell, .func (PySem.W.fnOf "_law_cell" "_law_cell" (defArgs s__law_cell) (defBody s__law_cell) (defScope s__law_cell) .none kV__law_cell dc__law_cell pm__law_cell an__law_cell cd__law_cell ct__law_cell), sl__law_cell⟩)
    (co__law_cell : PySem.W.codeIn K cd__law_cell "_law_cell" = true)
    (ke__law_cell : PySem.W.keepIn K (.ref f__law_cell) = true)
    (a__law_row : PySem.W.nsIn K mainGlobals "_law_row" = some (some (.ref f__law_row)))
    (l__law_row : K.lookup f__law_row = some ⟨oc__law_row, od__law_row, .func (PySem.W.fnOf "_law_row" "_law_row" (defArgs s__law_row) (defBody s__law_row) (defScope s__law_row) .none kV__law_row dc__law_row pm__law_row an__law_row cd__law_row ct__law_row), sl__law_row⟩)
    (co__law_row : PySem.W.codeIn K cd__law_row "_law_row" = true)
    (ke__law_row : PySem.W.keepIn K (.ref f__law_row) = true)
    (a__law_order : PySem.W.nsIn K mainGlobals "_law_order" = some (some (.ref f__law_order)))
    (l__law_order : K.lookup f__law_order = some ⟨oc__law_order, od__law_order, .func (PySem.W.fnOf "_law_order" "_law_order" (defArgs s__law_order) (defBody s__law_order) (defScope s__law_order) .none kV__law_order dc__law_order pm__law_order an__law_order cd__law_order ct__law_order), sl__law_order⟩)
    (co__law_order : PySem.W.codeIn K cd__law_order "_law_order" = true)
    (ke__law_order : PySem.W.keepIn K (.ref f__law_order) = true)
    (a__law_inversions : PySem.W.nsIn K mainGlobals "_law_inversions" = some (some (.ref f__law_inversions)))
    (l__law_inversions : K.lookup f__law_inversions = some ⟨oc__law_inversions, od__law_inversions, .func (PySem.W.fnOf "_law_inversions" "_law_inversions" (defArgs s__law_inversions) (defBody s__law_inversions) (defScope s__law_inversions) .none kV__law_inversions dc__law_inversions pm__law_inversions an__law_inversions cd__law_inversions ct__law_inversions), sl__law_inversions⟩)
    (co__law_inversions : PySem.W.codeIn K cd__law_inversions "_law_inversions" = true)
    (ke__law_inversions : PySem.W.keepIn K (.ref f__law_inversions) = true)
    (a__law_swapped : PySem.W.nsIn K mainGlobals "_law_swapped" = some (some (.ref f__law_swapped)))
    (l__law_swapped : K.lookup f__law_swapped = some ⟨oc__law_swapped, od__law_swapped, .func (PySem.W.fnOf "_law_swapped" "_law_swapped" (defArgs s__law_swapped) (defBody s__law_swapped) (defScope s__law_swapped) .none kV__law_swapped dc__law_swapped pm__law_swapped an__law_swapped cd__law_swapped ct__law_swapped), sl__law_swapped⟩)
    (co__law_swapped : PySem.W.codeIn K cd__law_swapped "_law_swapped" = true)
    (ke__law_swapped : PySem.W.keepIn K (.ref f__law_swapped) = true)
    (a__law_up : PySem.W.nsIn K mainGlobals "_law_up" = some (some (.ref f__law_up)))
    (l__law_up : K.lookup f__law_up = some ⟨oc__law_up, od__law_up, .func (PySem.W.fnOf "_law_up" "_law_up" (defArgs s__law_up) (defBody s__law_up) (defScope s__law_up) .none kV__law_up dc__law_up pm__law_up an__law_up cd__law_up ct__law_up), sl__law_up⟩)
    (co__law_up : PySem.W.codeIn K cd__law_up "_law_up" = true)
    (ke__law_up : PySem.W.keepIn K (.ref f__law_up) = true)
    (a__law_great : PySem.W.nsIn K mainGlobals "_law_great" = some (some (.ref f__law_great)))
    (l__law_great : K.lookup f__law_great = some ⟨oc__law_great, od__law_great, .func (PySem.W.fnOf "_law_great" "_law_great" (defArgs s__law_great) (defBody s__law_great) (defScope s__law_great) .none kV__law_great dc__law_great pm__law_great an__law_great cd__law_great ct__law_great), sl__law_great⟩)
    (co__law_great : PySem.W.codeIn K cd__law_great "_law_great" = true)
    (ke__law_great : PySem.W.keepIn K (.ref f__law_great) = true)
    (a__law_papers : PySem.W.nsIn K mainGlobals "_law_papers" = some (some (.ref f__law_papers)))
    (l__law_papers : K.lookup f__law_papers = some ⟨oc__law_papers, od__law_papers, .func (PySem.W.fnOf "_law_papers" "_law_papers" (defArgs s__law_papers) (defBody s__law_papers) (defScope s__law_papers) .none kV__law_papers dc__law_papers pm__law_papers an__law_papers cd__law_papers ct__law_papers), sl__law_papers⟩)
    (co__law_papers : PySem.W.codeIn K cd__law_papers "_law_papers" = true)
    (ke__law_papers : PySem.W.keepIn K (.ref f__law_papers) = true)
    (a__law_chains : PySem.W.nsIn K mainGlobals "_law_chains" = some (some (.ref f__law_chains)))
    (l__law_chains : K.lookup f__law_chains = some ⟨oc__law_chains, od__law_chains, .func (PySem.W.fnOf "_law_chains" "_law_chains" (defArgs s__law_chains) (defBody s__law_chains) (defScope s__law_chains) .none kV__law_chains dc__law_chains pm__law_chains an__law_chains cd__law_chains ct__law_chains), sl__law_chains⟩)
    (co__law_chains : PySem.W.codeIn K cd__law_chains "_law_chains" = true)
    (ke__law_chains : PySem.W.keepIn K (.ref f__law_chains) = true)
    (a__law_changed : PySem.W.nsIn K mainGlobals "_law_changed" = some (some (.ref f__law_changed)))
    (l__law_changed : K.lookup f__law_changed = some ⟨oc__law_changed, od__law_changed, .func (PySem.W.fnOf "_law_changed" "_law_changed" (defArgs s__law_changed) (defBody s__law_changed) (defScope s__law_changed) .none kV__law_changed dc__law_changed pm__law_changed an__law_changed cd__law_changed ct__law_changed), sl__law_changed⟩)
    (co__law_changed : PySem.W.codeIn K cd__law_changed "_law_changed" = true)
    (ke__law_changed : PySem.W.keepIn K (.ref f__law_changed) = true)
    (a__law_chain : PySem.W.nsIn K mainGlobals "_law_chain" = some (some (.ref f__law_chain)))
    (l__law_chain : K.lookup f__law_chain = some ⟨oc__law_chain, od__law_chain, .func (PySem.W.fnOf "_law_chain" "_law_chain" (defArgs s__law_chain) (defBody s__law_chain) (defScope s__law_chain) .none kV__law_chain dc__law_chain pm__law_chain an__law_chain cd__law_chain ct__law_chain), sl__law_chain⟩)
    (co__law_chain : PySem.W.codeIn K cd__law_chain "_law_chain" = true)
    (ke__law_chain : PySem.W.keepIn K (.ref f__law_chain) = true)
    (a_law : PySem.W.nsIn K mainGlobals "law" = some (some (.ref f_law)))
    (l_law : K.lookup f_law = some ⟨oc_law, od_law, .func (PySem.W.fnOf "law" "law" (defArgs s_law) (defBody s_law) (defScope s_law) .none kV_law dc_law pm_law an_law cd_law ct_law), sl_law⟩)
    (co_law : PySem.W.codeIn K cd_law "law" = true)
    (ke_law : PySem.W.keepIn K (.ref f_law) = true)
    (xa_OrderError : PySem.W.nsIn K mainGlobals "OrderError" = some (some (.ref c_OrderError)))
    (xa_InvalidOrder : PySem.W.nsIn K mainGlobals "InvalidOrder" = some (some (.ref c_InvalidOrder)))
    (xa_InvalidChain : PySem.W.nsIn K mainGlobals "InvalidChain" = some (some (.ref c_InvalidChain)))
    (xe_InvalidChain : PySem.W.excIn K c_InvalidChain [.type "ValueError", .type "Exception", .type "BaseException", .type "object"] "ValueError.__new__" = true)
    (xk_InvalidChain : PySem.W.keepIn K (.ref c_InvalidChain) = true)
    (xs_InvalidChain : PySem.W.subIn K (.ref c_InvalidChain) (.type "BaseException") = some true)
    (xt_InvalidChain : PySem.W.typeIn K (.ref c_InvalidChain) = some (.type "type"))
    (xa_TooMany : PySem.W.nsIn K mainGlobals "TooMany" = some (some (.ref c_TooMany)))
    (xe_TooMany : PySem.W.excIn K c_TooMany [.type "ValueError", .type "Exception", .type "BaseException", .type "object"] "ValueError.__new__" = true)
    (xk_TooMany : PySem.W.keepIn K (.ref c_TooMany) = true)
    (xs_TooMany : PySem.W.subIn K (.ref c_TooMany) (.type "BaseException") = some true)
    (xt_TooMany : PySem.W.typeIn K (.ref c_TooMany) = some (.type "type"))
    (fs_InvalidChain_InvalidChain : PySem.W.subIn K (.ref c_InvalidChain) (.ref c_InvalidChain) = some true)
    (fs_TooMany_TooMany : PySem.W.subIn K (.ref c_TooMany) (.ref c_TooMany) = some true)
    (fs_TooMany_InvalidChain : PySem.W.subIn K (.ref c_TooMany) (.ref c_InvalidChain) = some false)
    (fs_InvalidChain_OrderError : PySem.W.subIn K (.ref c_InvalidChain) (.ref c_OrderError) = some true)
    (fs_InvalidChain_InvalidOrder : PySem.W.subIn K (.ref c_InvalidChain) (.ref c_InvalidOrder) = some false)
    (fs_TooMany_OrderError : PySem.W.subIn K (.ref c_TooMany) (.ref c_OrderError) = some true)
    (fd_InvalidChain : PySem.W.hasDictIn K c_InvalidChain = true)
    (ft_InvalidChain : PySem.W.typeIn K (.ref c_InvalidChain) = some (.type "type"))
    (fb_InvalidChain : PySem.W.subIn K (.ref c_InvalidChain) (.type "BaseException") = some true)
    (fd_InvalidOrder : PySem.W.hasDictIn K c_InvalidOrder = true)
    (ft_InvalidOrder : PySem.W.typeIn K (.ref c_InvalidOrder) = some (.type "type"))
    (fb_InvalidOrder : PySem.W.subIn K (.ref c_InvalidOrder) (.type "BaseException") = some true)
    (fd_OrderError : PySem.W.hasDictIn K c_OrderError = true)
    (ft_OrderError : PySem.W.typeIn K (.ref c_OrderError) = some (.type "type"))
    (fb_OrderError : PySem.W.subIn K (.ref c_OrderError) (.type "BaseException") = some true)
    (fd_TooMany : PySem.W.hasDictIn K c_TooMany = true)
    (ft_TooMany : PySem.W.typeIn K (.ref c_TooMany) = some (.type "type"))
    (fb_TooMany : PySem.W.subIn K (.ref c_TooMany) (.type "BaseException") = some true)
    (e1_InvalidChain : PySem.W.findIn K (.ref c_InvalidChain) "__getattribute__" = some (some (.builtin "BaseException.__getattribute__")))
    (e2_InvalidChain : PySem.W.findIn K (.ref c_InvalidChain) "__getattr__" = some none)
    (e3_InvalidChain : PySem.W.subIn K (.ref c_InvalidChain) (.type "BaseException") = some true)
    (e4_InvalidChain : PySem.W.hasDictIn K c_InvalidChain = true)
    (e5_InvalidChain : PySem.W.findIn K (.ref c_InvalidChain) "__class__" = some (some (.builtin "object.__class__")))
    (e6_InvalidChain : PySem.W.mroIn K c_InvalidChain (.type "object") = some true)
    (e1_TooMany : PySem.W.findIn K (.ref c_TooMany) "__getattribute__" = some (some (.builtin "BaseException.__getattribute__")))
    (e2_TooMany : PySem.W.findIn K (.ref c_TooMany) "__getattr__" = some none)
    (e3_TooMany : PySem.W.subIn K (.ref c_TooMany) (.type "BaseException") = some true)
    (e4_TooMany : PySem.W.hasDictIn K c_TooMany = true)
    (e5_TooMany : PySem.W.findIn K (.ref c_TooMany) "__class__" = some (some (.builtin "object.__class__")))
    (e6_TooMany : PySem.W.mroIn K c_TooMany (.type "object") = some true)
    (e7 : PySem.W.specialIn K (.builtin "object.__class__") "__get__" = some (some (.builtin "getset_descriptor.__get__")))
    (e8 : PySem.W.takesIn K (.builtin "object.__class__") = some true)
    (z_bool : PySem.W.nsIn K mainGlobals "bool" = some none)
    (z_int : PySem.W.nsIn K mainGlobals "int" = some none)
    (z_isinstance : PySem.W.nsIn K mainGlobals "isinstance" = some none)
    (z_len : PySem.W.nsIn K mainGlobals "len" = some none)
    (z_list : PySem.W.nsIn K mainGlobals "list" = some none)
    (z_range : PySem.W.nsIn K mainGlobals "range" = some none)
    (z_set : PySem.W.nsIn K mainGlobals "set" = some none)
    (z_sorted : PySem.W.nsIn K mainGlobals "sorted" = some none)
    (z_tuple : PySem.W.nsIn K mainGlobals "tuple" = some none)
    (z_zip : PySem.W.nsIn K mainGlobals "zip" = some none)
    (g_MAX_SIZE : PySem.W.nsIn K mainGlobals "MAX_SIZE" = some (some (.int 6 t_MAX_SIZE)))
    (g_MAX_CHAINS : PySem.W.nsIn K mainGlobals "MAX_CHAINS" = some (some (.int 2000 t_MAX_CHAINS)))
    : ∃ fd : FuncData, (∀ (s : Shared) (v : Value), BindsTo s fd ⟨[v], []⟩ [("script", v)]) ∧ ∀ base : Heap, K.In base → base.Ns mainGlobals mg → FnOk l.prog w K mg base (L2.CX l.prog w) 8 fa fd ["script"] (spLaw K) := by
  have e := hfa.symm.trans (PySem.W.mg_of X G a_law)
  cases e
  refine ⟨PySem.W.fnOf "law" "law" (defArgs s_law) (defBody s_law) (defScope s_law) .none kV_law dc_law pm_law an_law cd_law ct_law, fun s v => .of_eq rfl, fun base _ _ => ?_⟩
  obtain ⟨ct, ect⟩ : ∃ ct : Nat → Addr, ct = ctOf [c_OrderError, 0, c_InvalidOrder, 0, c_InvalidChain, 0, 0, 0, 0, 0, c_TooMany] := ⟨_, rfl⟩
  have n_OrderError : mg "OrderError" = some (.ref (ct 0)) := by
    rw [ect]
    exact PySem.W.mg_of X G xa_OrderError
  have n_TooMany : mg "TooMany" = some (.ref (ct 10)) := by
    rw [ect]
    exact PySem.W.mg_of X G xa_TooMany
  have n_InvalidChain : mg "InvalidChain" = some (.ref (ct 4)) := by
    rw [ect]
    exact PySem.W.mg_of X G xa_InvalidChain
  have n_InvalidOrder : mg "InvalidOrder" = some (.ref (ct 2)) := by
    rw [ect]
    exact PySem.W.mg_of X G xa_InvalidOrder
  have xm_InvalidChain_InvalidChain : PySem.W.exmOne K (.ref (ct 4)) (.ref (ct 4)) = some true := by
    rw [ect]
    exact PySem.W.exm_ref fb_InvalidChain fd_InvalidChain ft_InvalidChain fs_InvalidChain_InvalidChain
  have xm_TooMany_TooMany : PySem.W.exmOne K (.ref (ct 10)) (.ref (ct 10)) = some true := by
    rw [ect]
    exact PySem.W.exm_ref fb_TooMany fd_TooMany ft_TooMany fs_TooMany_TooMany
  have xm_TooMany_InvalidChain : PySem.W.exmOne K (.ref (ct 10)) (.ref (ct 4)) = some false := by
    rw [ect]
    exact PySem.W.exm_ref fb_InvalidChain fd_InvalidChain ft_InvalidChain fs_TooMany_InvalidChain
  have kt_InvalidChain_OrderError : PySem.W.kitOne K (.ref (ct 4)) (.ref (ct 0)) = some true := by
    rw [ect]
    exact kit_own fs_InvalidChain_OrderError fs_InvalidChain_InvalidChain fd_OrderError ft_OrderError
  have kt_InvalidChain_InvalidOrder : PySem.W.kitOne K (.ref (ct 4)) (.ref (ct 2)) = some false := by
    rw [ect]
    exact kit_own fs_InvalidChain_InvalidOrder fs_InvalidChain_InvalidChain fd_InvalidOrder ft_InvalidOrder
  have kt_TooMany_OrderError : PySem.W.kitOne K (.ref (ct 10)) (.ref (ct 0)) = some true := by
    rw [ect]
    exact kit_own fs_TooMany_OrderError fs_TooMany_TooMany fd_OrderError ft_OrderError
  have kt_TooMany_InvalidChain : PySem.W.kitOne K (.ref (ct 10)) (.ref (ct 4)) = some false := by
    rw [ect]
    exact kit_own fs_TooMany_InvalidChain fs_TooMany_TooMany fd_InvalidChain ft_InvalidChain
  have ec_InvalidChain : ExcC K (ct 4) := by
    rw [ect]
    exact ⟨e1_InvalidChain, e2_InvalidChain, e3_InvalidChain, e4_InvalidChain, e5_InvalidChain, e7, e8, e6_InvalidChain⟩
  have ec_TooMany : ExcC K (ct 10) := by
    rw [ect]
    exact ⟨e1_TooMany, e2_TooMany, e3_TooMany, e4_TooMany, e5_TooMany, e7, e8, e6_TooMany⟩
  have X_InvalidChain : XcT K mg "InvalidChain" (ct 4) := by
    rw [ect]
    exact ⟨PySem.W.mg_of X G xa_InvalidChain, xe_InvalidChain, xk_InvalidChain, xs_InvalidChain, xt_InvalidChain⟩
  have X_TooMany : XcT K mg "TooMany" (ct 10) := by
    rw [ect]
    exact ⟨PySem.W.mg_of X G xa_TooMany, xe_TooMany, xk_TooMany, xs_TooMany, xt_TooMany⟩
  have b_bool := PySem.W.mg_none_of X G z_bool
  have b_int := PySem.W.mg_none_of X G z_int
  have b_isinstance := PySem.W.mg_none_of X G z_isinstance
  have b_len := PySem.W.mg_none_of X G z_len
  have b_list := PySem.W.mg_none_of X G z_list
  have b_range := PySem.W.mg_none_of X G z_range
  have b_set := PySem.W.mg_none_of X G z_set
  have b_sorted := PySem.W.mg_none_of X G z_sorted
  have b_tuple := PySem.W.mg_none_of X G z_tuple
  have b_zip := PySem.W.mg_none_of X G z_zip
  have k_MAX_SIZE := PySem.W.mg_of X G g_MAX_SIZE
  have k_MAX_CHAINS := PySem.W.mg_of X G g_MAX_CHAINS
  have F__law_cell := fun_mk (st := s__law_cell) l__law_cell co__law_cell ke__law_cell
  have B__law_cell := F__law_cell.binds (ps := ["script", "k"]) fun _ _ _ _ _ _ us hl => match us, hl with | [_, _], _ => rfl
  have C__law_cell : CallT l.prog w K mg base ct "_law_cell" 1 m__law_cell := ⟨_, _, _, PySem.W.mg_of X G a__law_cell, ke__law_cell, B__law_cell, ok__law_cell F__law_cell b_len⟩
  have F__law_row := fun_mk (st := s__law_row) l__law_row co__law_row ke__law_row
  have B__law_row := F__law_row.binds (ps := ["script", "at"]) fun _ _ _ _ _ _ us hl => match us, hl with | [_, _], _ => rfl
  have C__law_row : CallT l.prog w K mg base ct "_law_row" 2 m__law_row := ⟨_, _, _, PySem.W.mg_of X G a__law_row, ke__law_row, B__law_row, ok__law_row F__law_row b_range C__law_cell⟩
  have F__law_order := fun_mk (st := s__law_order) l__law_order co__law_order ke__law_order
  have B__law_order := F__law_order.binds (ps := ["script", "at", "size"]) fun _ _ _ _ _ _ us hl => match us, hl with | [_, _, _], _ => rfl
  have C__law_order : CallT l.prog w K mg base ct "_law_order" 3 m__law_order := ⟨_, _, _, PySem.W.mg_of X G a__law_order, ke__law_order, B__law_order, ok__law_order F__law_order b_list b_range b_len b_tuple C__law_row⟩
  have F__law_inversions := fun_mk (st := s__law_inversions) l__law_inversions co__law_inversions ke__law_inversions
  have B__law_inversions := F__law_inversions.binds (ps := ["order"]) fun _ _ _ _ _ _ us hl => match us, hl with | [_], _ => rfl
  have C__law_inversions : CallT l.prog w K mg base ct "_law_inversions" 1 m__law_inversions := ⟨_, _, _, PySem.W.mg_of X G a__law_inversions, ke__law_inversions, B__law_inversions, ok__law_inversions F__law_inversions b_range b_len⟩
  have F__law_swapped := fun_mk (st := s__law_swapped) l__law_swapped co__law_swapped ke__law_swapped
  have B__law_swapped := F__law_swapped.binds (ps := ["order", "place", "later"]) fun _ _ _ _ _ _ us hl => match us, hl with | [_, _, _], _ => rfl
  have C__law_swapped : CallT l.prog w K mg base ct "_law_swapped" 1 m__law_swapped := ⟨_, _, _, PySem.W.mg_of X G a__law_swapped, ke__law_swapped, B__law_swapped, ok__law_swapped F__law_swapped b_list b_tuple⟩
  have F__law_up := fun_mk (st := s__law_up) l__law_up co__law_up ke__law_up
  have B__law_up := F__law_up.binds (ps := ["order"]) fun _ _ _ _ _ _ us hl => match us, hl with | [_], _ => rfl
  have C__law_up : CallT l.prog w K mg base ct "_law_up" 2 m__law_up := ⟨_, _, _, PySem.W.mg_of X G a__law_up, ke__law_up, B__law_up, ok__law_up F__law_up b_len b_range b_int b_sorted C__law_inversions C__law_swapped⟩
  have F__law_chain := fun_mk (st := s__law_chain) l__law_chain co__law_chain ke__law_chain
  have B__law_chain := F__law_chain.binds (ps := ["script", "at", "size", "most"]) fun _ _ _ _ _ _ us hl => match us, hl with | [_, _, _, _], _ => rfl
  have C__law_chain : CallT l.prog w K mg base ct "_law_chain" 4 m__law_chain := ⟨_, _, _, PySem.W.mg_of X G a__law_chain, ke__law_chain, B__law_chain, ok__law_chain F__law_chain b_range b_len C__law_row C__law_order C__law_up⟩
  have F__law_great := fun_mk (st := s__law_great) l__law_great co__law_great ke__law_great
  have B__law_great := F__law_great.binds (ps := ["order", "first", "value"]) fun _ _ _ _ _ _ us hl => match us, hl with | [_, _, _], _ => rfl
  have C__law_great : CallT l.prog w K mg base ct "_law_great" 1 m__law_great := ⟨_, _, _, PySem.W.mg_of X G a__law_great, ke__law_great, B__law_great, ok__law_great F__law_great b_len⟩
  have F__law_papers := fun_mk (st := s__law_papers) l__law_papers co__law_papers ke__law_papers
  have B__law_papers := F__law_papers.binds (ps := ["one", "other"]) fun _ _ _ _ _ _ us hl => match us, hl with | [_, _], _ => rfl
  have C__law_papers : CallT l.prog w K mg base ct "_law_papers" 2 m__law_papers := ⟨_, _, _, PySem.W.mg_of X G a__law_papers, ke__law_papers, B__law_papers, ok__law_papers F__law_papers b_range b_len b_int C__law_great⟩
  have F__law_chains := fun_mk (st := s__law_chains) l__law_chains co__law_chains ke__law_chains
  have B__law_chains := F__law_chains.binds (ps := ["one", "other"]) fun _ _ _ _ _ _ us hl => match us, hl with | [_, _], _ => rfl
  have C__law_chains : CallT l.prog w K mg base ct "_law_chains" 3 m__law_chains := ⟨_, _, _, PySem.W.mg_of X G a__law_chains, ke__law_chains, B__law_chains, ok__law_chains F__law_chains b_range b_len b_sorted C__law_inversions C__law_up C__law_papers⟩
  have F_in_range := fun_mk (st := s_in_range) l_in_range co_in_range ke_in_range
  have B_in_range := F_in_range.binds (ps := ["value", "low", "high"]) fun _ _ _ _ _ _ us hl => match us, hl with | [_, _, _], _ => rfl
  have C_in_range : CallT l.prog w K mg base ct "in_range" 1 m_in_range := ⟨_, _, _, PySem.W.mg_of X G a_in_range, ke_in_range, B_in_range, ok_in_range F_in_range b_isinstance b_int b_bool⟩
  have F_is_order := fun_mk (st := s_is_order) l_is_order co_is_order ke_is_order
  have B_is_order := F_is_order.binds (ps := ["value"]) fun _ _ _ _ _ _ us hl => match us, hl with | [_], _ => rfl
  have C_is_order : CallT l.prog w K mg base ct "is_order" 2 m_is_order := ⟨_, _, _, PySem.W.mg_of X G a_is_order, ke_is_order, B_is_order, ok_is_order F_is_order b_isinstance b_tuple b_len b_set k_MAX_SIZE C_in_range⟩
  have F_exchanged := fun_mk (st := s_exchanged) l_exchanged co_exchanged ke_exchanged
  have B_exchanged := F_exchanged.binds (ps := ["order", "place", "later"]) fun _ _ _ _ _ _ us hl => match us, hl with | [_, _, _], _ => rfl
  have C_exchanged : CallT l.prog w K mg base ct "exchanged" 1 m_exchanged := ⟨_, _, _, PySem.W.mg_of X G a_exchanged, ke_exchanged, B_exchanged, ok_exchanged F_exchanged b_list b_tuple⟩
  have F_steps_up := fun_mk (st := s_steps_up) l_steps_up co_steps_up ke_steps_up
  have B_steps_up := F_steps_up.binds (ps := ["order"]) fun _ _ _ _ _ _ us hl => match us, hl with | [_], _ => rfl
  have C_steps_up : CallT l.prog w K mg base ct "steps_up" 2 m_steps_up := ⟨_, _, _, PySem.W.mg_of X G a_steps_up, ke_steps_up, B_steps_up, ok_steps_up F_steps_up b_range b_len b_sorted C_exchanged⟩
  have F_is_step := fun_mk (st := s_is_step) l_is_step co_is_step ke_is_step
  have B_is_step := F_is_step.binds (ps := ["one", "other"]) fun _ _ _ _ _ _ us hl => match us, hl with | [_, _], _ => rfl
  have C_is_step : CallT l.prog w K mg base ct "is_step" 3 m_is_step := ⟨_, _, _, PySem.W.mg_of X G a_is_step, ke_is_step, B_is_step, ok_is_step F_is_step C_steps_up⟩
  have F_is_chain := fun_mk (st := s_is_chain) l_is_chain co_is_chain ke_is_chain
  have B_is_chain := F_is_chain.binds (ps := ["value"]) fun _ _ _ _ _ _ us hl => match us, hl with | [_], _ => rfl
  have C_is_chain : CallT l.prog w K mg base ct "is_chain" 4 m_is_chain := ⟨_, _, _, PySem.W.mg_of X G a_is_chain, ke_is_chain, B_is_chain, ok_is_chain F_is_chain b_isinstance b_list b_zip C_is_order C_is_step⟩
  have F_change_at := fun_mk (st := s_change_at) l_change_at co_change_at ke_change_at
  have B_change_at := F_change_at.binds (ps := ["chain", "place"]) fun _ _ _ _ _ _ us hl => match us, hl with | [_, _], _ => rfl
  have C_change_at : CallT l.prog w K mg base ct "change_at" 5 m_change_at := ⟨_, _, _, PySem.W.mg_of X G a_change_at, ke_change_at, B_change_at, ok_change_at F_change_at b_len C_is_chain C_in_range C_steps_up C_is_step X_InvalidChain⟩
  have F_chain_road := fun_mk (st := s_chain_road) l_chain_road co_chain_road ke_chain_road
  have B_chain_road := F_chain_road.binds (ps := ["one", "other"]) fun _ _ _ _ _ _ us hl => match us, hl with | [_, _], _ => rfl
  have C_chain_road : CallT l.prog w K mg base ct "chain_road" 6 m_chain_road := ⟨_, _, _, PySem.W.mg_of X G a_chain_road, ke_chain_road, B_chain_road, ok_chain_road F_chain_road b_tuple b_range b_len b_list k_MAX_CHAINS C_is_chain C_change_at X_InvalidChain X_TooMany⟩
  have F__law_changed := fun_mk (st := s__law_changed) l__law_changed co__law_changed ke__law_changed
  have B__law_changed := F__law_changed.binds (ps := ["mode", "one", "other"]) fun _ _ _ _ _ _ us hl => match us, hl with | [_, _, _], _ => rfl
  have C__law_changed : CallT l.prog w K mg base ct "_law_changed" 7 m__law_changed := ⟨_, _, _, PySem.W.mg_of X G a__law_changed, ke__law_changed, B__law_changed, ok__law_changed F__law_changed b_isinstance C_change_at C_chain_road n_InvalidChain n_OrderError n_InvalidOrder n_TooMany xm_InvalidChain_InvalidChain xm_TooMany_TooMany xm_TooMany_InvalidChain kt_InvalidChain_OrderError kt_InvalidChain_InvalidOrder kt_TooMany_OrderError kt_TooMany_InvalidChain ec_InvalidChain ec_TooMany⟩
  have F_law := fun_mk (st := s_law) l_law co_law ke_law
  exact law_fn (ct := ct) (ok_law (P := l.prog) (w := w) (base := base) F_law b_len b_range C__law_row C__law_chain C__law_chains C_chain_road C_change_at C__law_changed) law_true
end Lw
open PySem PySem.W PyProof.Rows in
set_option maxRecDepth 100000 in
set_option maxHeartbeats 0 in
theorem PySem.Challenge.cw_lowerorders_k10_whole_chain_roads_holds : PySem.Challenge.rw_lowerorders_k10_whole_chain_roads.Holds := by
  w_on; o_law; k_head; (case hw => w_witness2)
  k_fill
  refine VL.walk_end (l := PySem.Challenge.rw_lowerorders_k10_whole_chain_roads) 8 rfl rfl ⟨rfl, by decide, by decide⟩ (fun w h Y => PySem.W.kIn_of Y) ?F
  case F =>
    intro w mg fa h KX G hmg
    refine' Lw.all_mk KX G hmg ?a_in_range ?l_in_range ?co_in_range ?ke_in_range ?a_is_order ?l_is_order ?co_is_order ?ke_is_order ?a_exchanged ?l_exchanged ?co_exchanged ?ke_exchanged ?a_steps_up ?l_steps_up ?co_steps_up ?ke_steps_up ?a_is_step ?l_is_step ?co_is_step ?ke_is_step ?a_is_chain ?l_is_chain ?co_is_chain ?ke_is_chain ?a_change_at ?l_change_at ?co_change_at ?ke_change_at ?a_chain_road ?l_chain_road ?co_chain_road ?ke_chain_road ?a__law_cell ?l__law_cell ?co__law_cell ?ke__law_cell ?a__law_row ?l__law_row ?co__law_row ?ke__law_row ?a__law_order ?l__law_order ?co__law_order ?ke__law_order ?a__law_inversions ?l__law_inversions ?co__law_inversions ?ke__law_inversions ?a__law_swapped ?l__law_swapped ?co__law_swapped ?ke__law_swapped ?a__law_up ?l__law_up ?co__law_up ?ke__law_up ?a__law_great ?l__law_great ?co__law_great ?ke__law_great ?a__law_papers ?l__law_papers ?co__law_papers ?ke__law_papers ?a__law_chains ?l__law_chains ?co__law_chains ?ke__law_chains ?a__law_changed ?l__law_changed ?co__law_changed ?ke__law_changed ?a__law_chain ?l__law_chain ?co__law_chain ?ke__law_chain ?a_law ?l_law ?co_law ?ke_law ?xa_OrderError ?xa_InvalidOrder ?xa_InvalidChain ?xe_InvalidChain ?xk_InvalidChain ?xs_InvalidChain ?xt_InvalidChain ?xa_TooMany ?xe_TooMany ?xk_TooMany ?xs_TooMany ?xt_TooMany ?fs_InvalidChain_InvalidChain ?fs_TooMany_TooMany ?fs_TooMany_InvalidChain ?fs_InvalidChain_OrderError ?fs_InvalidChain_InvalidOrder ?fs_TooMany_OrderError ?fd_InvalidChain ?ft_InvalidChain ?fb_InvalidChain ?fd_InvalidOrder ?ft_InvalidOrder ?fb_InvalidOrder ?fd_OrderError ?ft_OrderError ?fb_OrderError ?fd_TooMany ?ft_TooMany ?fb_TooMany ?e1_InvalidChain ?e2_InvalidChain ?e3_InvalidChain ?e4_InvalidChain ?e5_InvalidChain ?e6_InvalidChain ?e1_TooMany ?e2_TooMany ?e3_TooMany ?e4_TooMany ?e5_TooMany ?e6_TooMany ?e7 ?e8 ?z_bool ?z_int ?z_isinstance ?z_len ?z_list ?z_range ?z_set ?z_sorted ?z_tuple ?z_zip ?g_MAX_SIZE ?g_MAX_CHAINS
    (case a_in_range => k_is)
    (case l_in_range => k_is)
    (case co_in_range => k_is)
    (case ke_in_range => k_is)
    (case a_is_order => k_is)
    (case l_is_order => k_is)
    (case co_is_order => k_is)
    (case ke_is_order => k_is)
    (case a_exchanged => k_is)
    (case l_exchanged => k_is)
    (case co_exchanged => k_is)
    (case ke_exchanged => k_is)
    (case a_steps_up => k_is)
    (case l_steps_up => k_is)
    (case co_steps_up => k_is)
    (case ke_steps_up => k_is)
    (case a_is_step => k_is)
    (case l_is_step => k_is)
    (case co_is_step => k_is)
    (case ke_is_step => k_is)
    (case a_is_chain => k_is)
    (case l_is_chain => k_is)
    (case co_is_chain => k_is)
    (case ke_is_chain => k_is)
    (case a_change_at => k_is)
    (case l_change_at => k_is)
    (case co_change_at => k_is)
    (case ke_change_at => k_is)
    (case a_chain_road => k_is)
    (case l_chain_road => k_is)
    (case co_chain_road => k_is)
    (case ke_chain_road => k_is)
    (case a__law_cell => k_is)
    (case l__law_cell => k_is)
    (case co__law_cell => k_is)
    (case ke__law_cell => k_is)
    (case a__law_row => k_is)
    (case l__law_row => k_is)
    (case co__law_row => k_is)
    (case ke__law_row => k_is)
    (case a__law_order => k_is)
    (case l__law_order => k_is)
    (case co__law_order => k_is)
    (case ke__law_order => k_is)
    (case a__law_inversions => k_is)
    (case l__law_inversions => k_is)
    (case co__law_inversions => k_is)
    (case ke__law_inversions => k_is)
    (case a__law_swapped => k_is)
    (case l__law_swapped => k_is)
    (case co__law_swapped => k_is)
    (case ke__law_swapped => k_is)
    (case a__law_up => k_is)
    (case l__law_up => k_is)
    (case co__law_up => k_is)
    (case ke__law_up => k_is)
    (case a__law_great => k_is)
    (case l__law_great => k_is)
    (case co__law_great => k_is)
    (case ke__law_great => k_is)
    (case a__law_papers => k_is)
    (case l__law_papers => k_is)
    (case co__law_papers => k_is)
    (case ke__law_papers => k_is)
    (case a__law_chains => k_is)
    (case l__law_chains => k_is)
    (case co__law_chains => k_is)
    (case ke__law_chains => k_is)
    (case a__law_changed => k_is)
    (case l__law_changed => k_is)
    (case co__law_changed => k_is)
    (case ke__law_changed => k_is)
    (case a__law_chain => k_is)
    (case l__law_chain => k_is)
    (case co__law_chain => k_is)
    (case ke__law_chain => k_is)
    (case a_law => k_is)
    (case l_law => k_is)
    (case co_law => k_is)
    (case ke_law => k_is)
    (case xa_OrderError => k_is)
    (case xa_InvalidOrder => k_is)
    (case xa_InvalidChain => k_is)
    (case xe_InvalidChain => k_exc)
    (case xk_InvalidChain => k_is)
    (case xs_InvalidChain => k_is)
    (case xt_InvalidChain => k_is)
    (case xa_TooMany => k_is)
    (case xe_TooMany => k_exc)
    (case xk_TooMany => k_is)
    (case xs_TooMany => k_is)
    (case xt_TooMany => k_is)
    (case fs_InvalidChain_InvalidChain => k_is)
    (case fs_TooMany_TooMany => k_is)
    (case fs_TooMany_InvalidChain => k_is)
    (case fs_InvalidChain_OrderError => k_is)
    (case fs_InvalidChain_InvalidOrder => k_is)
    (case fs_TooMany_OrderError => k_is)
    (case fd_InvalidChain => k_is)
    (case ft_InvalidChain => k_is)
    (case fb_InvalidChain => k_is)
    (case fd_InvalidOrder => k_is)
    (case ft_InvalidOrder => k_is)
    (case fb_InvalidOrder => k_is)
    (case fd_OrderError => k_is)
    (case ft_OrderError => k_is)
    (case fb_OrderError => k_is)
    (case fd_TooMany => k_is)
    (case ft_TooMany => k_is)
    (case fb_TooMany => k_is)
    (case e1_InvalidChain => k_is)
    (case e2_InvalidChain => k_is)
    (case e3_InvalidChain => k_is)
    (case e4_InvalidChain => k_is)
    (case e5_InvalidChain => k_is)
    (case e6_InvalidChain => k_is)
    (case e1_TooMany => k_is)
    (case e2_TooMany => k_is)
    (case e3_TooMany => k_is)
    (case e4_TooMany => k_is)
    (case e5_TooMany => k_is)
    (case e6_TooMany => k_is)
    (case e7 => k_is)
    (case e8 => k_is)
    (case z_bool => k_is)
    (case z_int => k_is)
    (case z_isinstance => k_is)
    (case z_len => k_is)
    (case z_list => k_is)
    (case z_range => k_is)
    (case z_set => k_is)
    (case z_sorted => k_is)
    (case z_tuple => k_is)
    (case z_zip => k_is)
    (case g_MAX_SIZE => k_is)
    (case g_MAX_CHAINS => k_is)
#print axioms PySem.Challenge.cw_lowerorders_k10_whole_chain_roads_holds

