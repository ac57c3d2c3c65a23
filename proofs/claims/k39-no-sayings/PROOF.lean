import PyProof.Rows.All
import Wide.All
import OpenK.AllK
import Wide.FinOn
import HandS.ForMost
import HandS.ForExc
import HandS.Wide
import HandS.IsInst
import HandS.Flow
import HandS.Defaults
import HandS.Zip
import HandS.HeadHook1
import HandS.More
import HandS.TupAny
import HandS.Head0
import HandS.Head1
import HandS.Head2
import HandS.HeadEnd
import HandS.HeadHook2
import HandS.TupMul
import HandS.Deep
import KE.KRevSl
import HandS.Exc
import HandS.ExcOwn
import HandS.ExcValue
import KE.KExcIs
import HandS.CallSlots
import HandS.List
import HandS.Text
import HandS.Style
import HandS.FStr
import HandS.ExcInit
import HandS.ExcField
import HandS.TryOnly
import HandS.Call
import HandS.New0
import HandS.Codes
import HandS.Dict
import HandS.Comp
import HandS.ReplaceLit
import PyProof.ListMulRoad
import PySem.Challenge.RW_landsheets_k39_no_sayings
set_option Elab.async false
set_option linter.all false
set_option maxRecDepth 100000
set_option maxHeartbeats 4000000
/-! D3: the hand layer's readings without a heap. Values are data (PyData); lists that a def makes and changes are owned slots. -/
namespace L2
open PySem PySem.Spec PyProof.Rows
abbrev D3.Dt := PyData
open D3 (Dt)
/-! ### data stay when the heap grows -/
theorem sqT_mono {K : PySem.W.Frag} {H H' : Hp} {a : Addr} {xs : List V} (s : Same H H') (h : SqT K H a xs) : SqT K H' a xs := by
  rcases h with h | h
  · rcases h with h | ⟨o, h⟩
    · exact .inl (.inl (s _ _ h))
    · exact .inl (.inr ⟨o, s _ _ h⟩)
  · exact .inr h
end L2
namespace L2.D3
open PySem PySem.Spec PyProof.Rows
/-! ### values as data; a dict is data as long as it is empty; a pool is a list of one whole number from 0 on, which may change -/
def PoolO (a : Addr) : HO := .ext fun h => ∃ (n c : Nat) (t : Tok), h.get? a = some { cls := .type "list", data := .seq #[.int (n : Int) t] c }
/-- a list of whole numbers from 0 on, at least one, which may change -/
def XsO (a : Addr) : HO := .ext fun h => ∃ (vs : List Value) (ns : List Nat) (c : Nat), h.get? a = some { cls := .type "list", data := .seq vs.toArray c } ∧ Vals (ns.map fun n => V.int (n : Nat)) vs ∧ 1 ≤ ns.length ∧ ns.length ≤ 1000
def xsD : PyData := .dict [(.list [.none], .none)]
/-- the classes whose instances are data, by their names -/
def CLS : List Str := ["Saying", "OfLand", "OfSheet", "Everywhere", "Nowhere", "Not", "Both", "Either", "Net", "Desk"]
def cnOf (K : PySem.W.Frag) (C : Addr) : Option Str := CLS.find? fun c => He.ga K c == C
/-- keys of dicts -/
def kD : Key → PyData
  | .inl i => .int i
  | .inr z => .str z
def ktD (ks : List Key) : PyData := .tuple (ks.map kD)
/-- a dict whose keys are ints and texts; one whose keys are tuples of such -/
def dkD (ks : List Key) (ds : List PyData) : PyData := .dict (List.zip (ks.map kD) ds)
def dtD (ks : List (List Key)) (ds : List PyData) : PyData := .dict ((.str "t", .none) :: List.zip (ks.map ktD) ds)
mutual
inductive Dp (K : PySem.W.Frag) (H : Hp) : V → PyData → Prop
  | non : Dp K H .non .none
  | bl (b : Bool) : Dp K H (.bl b) (.bool b)
  | int (i : Int) : Dp K H (.int i) (.int i)
  | str (z : Str) : Dp K H (.str z) (.str z)
  | lst {a : Addr} {us : List V} {es : List PyData} : SqL K H a us → DpAll K H us es → Dp K H (.ref a) (.list es)
  | tup {a : Addr} {us : List V} {es : List PyData} : SqT K H a us → DpAll K H us es → Dp K H (.ref a) (.tuple es)
  | dk {a : Addr} {ks : List Key} {us : List V} {es : List PyData} {m : List (PyData × PyData)} : H a = some (.dK (List.zip ks us)) → ks.length = us.length → DpAll K H us es → m = List.zip (ks.map kD) es → Dp K H (.ref a) (.dict m)
  | dt {a : Addr} {ks : List (List Key)} {us : List V} {es : List PyData} {m : List (PyData × PyData)} : H a = some (.dT (List.zip ks us)) → ks.length = us.length → DpAll K H us es → m = (.str "t", .none) :: List.zip (ks.map ktD) es → Dp K H (.ref a) (.dict m)
  | pool {a : Addr} : H a = some (PoolO a) → Dp K H (.ref a) (.dict [(.list [], .none)])
  | xs {a : Addr} : H a = some (XsO a) → Dp K H (.ref a) (.dict [(.list [.none], .none)])
  | ins {a C dx : Addr} {c : Str} {ns : List Str} {us : List V} {es : List PyData} {m : List (PyData × PyData)} : H a = some (.ins C dx (List.zip ns us)) → cnOf K C = some c → ns.length = us.length → DpAll K H us es → m = (.list [.str c], .none) :: List.zip (ns.map .str) es → Dp K H (.ref a) (.dict m)
inductive DpAll (K : PySem.W.Frag) (H : Hp) : List V → List PyData → Prop
  | nil : DpAll K H [] []
  | cons {u : V} {us : List V} {e : PyData} {es : List PyData} : Dp K H u e → DpAll K H us es → DpAll K H (u :: us) (e :: es)
end
mutual
theorem dp_old {K : PySem.W.Frag} {H : Hp} : ∀ (d : Dt) (v : V), Dp K H v d → d.canLay0 = true → L2.Dp K H v d
  | .none, _, h, _ => by cases h; exact .non
  | .bool b, _, h, _ => by cases h; exact .bl b
  | .int i, _, h, _ => by cases h; exact .int i
  | .str x, _, h, _ => by cases h; exact .str x
  | .list ds, _, h, c => by
    cases h with
    | lst hs ha => exact .lst hs (dpAll_old ds _ ha (by simpa [PyData.canLay0] using c))
  | .tuple ds, _, h, c => by
    cases h with
    | tup hs ha => exact .tup hs (dpAll_old ds _ ha (by simpa [PyData.canLay0] using c))
  | .dict _, _, h, c => by simp [PyData.canLay0] at c
theorem dpAll_old {K : PySem.W.Frag} {H : Hp} : ∀ (ds : List Dt) (vs : List V), DpAll K H vs ds → PyData.canLayAll0 ds = true → L2.DpAll K H vs ds
  | [], _, h, _ => by cases h; exact .nil
  | d :: ds, _, h, c => by
    cases h with
    | cons h1 h2 =>
      have c2 : d.canLay0 = true ∧ PyData.canLayAll0 ds = true := by simpa [PyData.canLayAll0] using c
      exact .cons (dp_old d _ h1 c2.1) (dpAll_old ds _ h2 c2.2)
end
theorem Dp.old {K : PySem.W.Frag} {H : Hp} {v : V} {d : Dt} (h : Dp K H v d) (s : SeqAt.shaped d = true) : L2.Dp K H v d := dp_old d v h (by
  unfold SeqAt.shaped at s
  rw [Bool.and_eq_true] at s
  exact s.1)
mutual
theorem dp_mono {K : PySem.W.Frag} {H H' : Hp} (s : Same H H') {d : Dt} {v : V} : Dp K H v d → Dp K H' v d
  | .non => .non
  | .bl b => .bl b
  | .int i => .int i
  | .str z => .str z
  | .lst hs ha => .lst (s.seq hs) (dpAll_mono s ha)
  | .tup hs ha => .tup (sqT_mono s hs) (dpAll_mono s ha)
  | .dk h l ha e => .dk (s _ _ h) l (dpAll_mono s ha) e
  | .dt h l ha e => .dt (s _ _ h) l (dpAll_mono s ha) e
  | .pool e => .pool (s _ _ e)
  | .xs e => .xs (s _ _ e)
  | .ins h c l ha e => .ins (s _ _ h) c l (dpAll_mono s ha) e
theorem dpAll_mono {K : PySem.W.Frag} {H H' : Hp} (s : Same H H') {ds : List Dt} {vs : List V} : DpAll K H vs ds → DpAll K H' vs ds
  | .nil => .nil
  | .cons h1 h2 => .cons (dp_mono s h1) (dpAll_mono s h2)
end
theorem kD_ne (ks : List Key) (es : List PyData) (x y : PyData) (r : List (PyData × PyData)) (h : (.list [x], y) :: r = List.zip (ks.map kD) es ∨ (.list [], y) :: r = List.zip (ks.map kD) es) : False := by
  cases ks with
  | nil => rcases h with h | h <;> cases h
  | cons k ks =>
    cases es with
    | nil => rcases h with h | h <;> cases h
    | cons e es => cases k <;> rcases h with h | h <;> simp [kD] at h
theorem Dp.up {K : PySem.W.Frag} {H H' : Hp} {d : Dt} {v : V} (h : Dp K H v d) (s : Same H H') : Dp K H' v d := dp_mono s h
theorem DpAll.up {K : PySem.W.Frag} {H H' : Hp} {ds : List Dt} {vs : List V} (h : DpAll K H vs ds) (s : Same H H') : DpAll K H' vs ds := dpAll_mono s h
theorem DpAll.len {K : PySem.W.Frag} {H : Hp} : ∀ {ds : List Dt} {vs : List V}, DpAll K H vs ds → vs.length = ds.length
  | [], _, h => by cases h; rfl
  | d :: ds, _, h => by
    cases h with
    | cons h1 h2 => exact congrArg Nat.succ (DpAll.len h2)
theorem DpAll.get {K : PySem.W.Frag} {H : Hp} : ∀ {ds : List Dt} {vs : List V} {i : Nat} {d : Dt}, DpAll K H vs ds → ds[i]? = some d → ∃ v, vs[i]? = some v ∧ Dp K H v d
  | [], _, i, d, h, e => by simp at e
  | d0 :: ds, _, 0, d, h, e => by
    cases h with
    | cons h1 h2 =>
      have e' : d0 = d := Option.some.inj e
      subst e'
      exact ⟨_, rfl, h1⟩
  | d0 :: ds, _, i + 1, d, h, e => by
    cases h with
    | cons h1 h2 =>
      obtain ⟨v, q1, q2⟩ := DpAll.get (i := i) h2 (by simpa using e)
      exact ⟨v, by simpa using q1, q2⟩
theorem DpAll.app {K : PySem.W.Frag} {H : Hp} : ∀ {ds es : List Dt} {vs us : List V}, DpAll K H vs ds → DpAll K H us es → DpAll K H (vs ++ us) (ds ++ es)
  | [], es, _, us, h, g => by cases h; exact g
  | d :: ds, es, _, us, h, g => by
    cases h with
    | cons h1 h2 => exact .cons h1 (DpAll.app h2 g)
theorem DpAll.take {K : PySem.W.Frag} {H : Hp} : ∀ {ds : List Dt} {vs : List V} (n : Nat), DpAll K H vs ds → DpAll K H (vs.take n) (ds.take n)
  | [], _, n, h => by cases h; simp; exact .nil
  | d :: ds, _, 0, h => .nil
  | d :: ds, _, n + 1, h => by
    cases h with
    | cons h1 h2 => exact .cons h1 (DpAll.take n h2)
theorem DpAll.drop {K : PySem.W.Frag} {H : Hp} : ∀ {ds : List Dt} {vs : List V} (n : Nat), DpAll K H vs ds → DpAll K H (vs.drop n) (ds.drop n)
  | [], _, n, h => by cases h; simp; exact .nil
  | d :: ds, _, 0, h => h
  | d :: ds, _, n + 1, h => by
    cases h with
    | cons h1 h2 => exact DpAll.drop n h2
theorem DpAll.set {K : PySem.W.Frag} {H : Hp} {d : Dt} {v : V} (g : Dp K H v d) : ∀ {ds : List Dt} {vs : List V} (n : Nat), DpAll K H vs ds → DpAll K H (vs.set n v) (ds.set n d)
  | [], _, n, h => by cases h; exact .nil
  | d0 :: ds, _, 0, h => by
    cases h with
    | cons h1 h2 => exact .cons g h2
  | d0 :: ds, _, n + 1, h => by
    cases h with
    | cons h1 h2 => exact .cons h1 (DpAll.set g n h2)
theorem DpAll.one {K : PySem.W.Frag} {H : Hp} {d : Dt} {v : V} (g : Dp K H v d) : DpAll K H [v] [d] := .cons g .nil
theorem DpAll.reverse {K : PySem.W.Frag} {H : Hp} : ∀ {ds : List Dt} {vs : List V}, DpAll K H vs ds → DpAll K H vs.reverse ds.reverse
  | [], _, h => by cases h; exact .nil
  | d :: ds, _, h => by
    cases h with
    | cons h1 h2 =>
      rw [List.reverse_cons, List.reverse_cons]
      exact DpAll.app (DpAll.reverse h2) (.one h1)
theorem DpAll.ints {K : PySem.W.Frag} {H : Hp} : ∀ (ns : List Int), DpAll K H (ns.map V.int) (ns.map PyData.int)
  | [] => .nil
  | n :: ns => .cons (.int n) (DpAll.ints ns)
theorem DpAll.bls_eq {K : PySem.W.Frag} {H : Hp} : ∀ {ns : List Bool} {vs : List V}, DpAll K H vs (ns.map PyData.bool) → vs = ns.map V.bl
  | [], _, h => by cases h; rfl
  | n :: ns, _, h => by
    cases h with
    | cons h1 h2 =>
      cases h1
      rw [DpAll.bls_eq h2]
      rfl
theorem DpAll.strs_eq {K : PySem.W.Frag} {H : Hp} : ∀ {ns : List Str} {vs : List V}, DpAll K H vs (ns.map PyData.str) → vs = ns.map V.str
  | [], _, h => by cases h; rfl
  | n :: ns, _, h => by
    cases h with
    | cons h1 h2 =>
      cases h1
      rw [DpAll.strs_eq h2]
      rfl
theorem DpAll.strs {K : PySem.W.Frag} {H : Hp} : ∀ (ns : List Str), DpAll K H (ns.map V.str) (ns.map PyData.str)
  | [] => .nil
  | n :: ns => .cons (.str n) (DpAll.strs ns)
theorem same_new {H : Hp} {p : Addr} {o : HO} (h : H p = none) : Same H (upd H p o) := fun b x e => by
  rw [upd_ne (ne_of_none e h)]
  exact e
/-! ### the frame rule: what is changed here stands aside while an expression runs -/
def isMut : HO → Bool
  | .lst _ => true
  | .dK _ => true
  | .dT _ => true
  | _ => false
structure Fz (F H : Hp) : Prop where
  same : Same F H
  drop : ∀ a o, H a = some o → F a = some o ∨ (F a = none ∧ isMut o = true)
theorem Fz.refl (H : Hp) : Fz H H := ⟨Same.refl H, fun _ _ e => .inl e⟩
theorem Fz.keep {F H : Hp} (z : Fz F H) {a : Addr} {o : HO} (e : H a = some o) (n : isMut o = false) : F a = some o := by
  rcases z.drop a o e with q | ⟨_, q⟩
  · exact q
  · rw [n] at q; cases q
def glue (F H : Hp) : Hp := fun a => match F a with
  | some o => some o
  | none => H a
theorem glue_some {F H : Hp} {a : Addr} {o : HO} (e : F a = some o) : glue F H a = some o := by unfold glue; rw [e]
theorem glue_none {F H : Hp} {a : Addr} (e : F a = none) : glue F H a = H a := by unfold glue; rw [e]
def tFr (te : TE) : TE := fun σ H Q => ∃ F, Fz F H ∧ te σ F fun v F' => Same F F' ∧ ((∀ a o, H a = some o → F a = none → F' a = none) → Q v (glue F' H))
section
variable {X : Cx} {pins : List (Addr × Obj)} {σ : St} {H F : Hp} {s : Shared}
theorem stk_free (I : Inv X pins σ H s) {b : Addr} (hb : b ∈ X.fs) : H b = none := by
  have h := I.stkFree
  rcases I.ok.stk with e | ⟨e, _⟩
  · exact h b (by rw [e]; exact hb)
  · exact h b (by
      rw [e]
      unfold frs
      rw [List.filterMap_cons]
      split
      · exact hb
      · exact List.mem_cons_of_mem _ hb)
theorem obj_of_mut {P : Program} {w : World} {h : Heap} {a : Addr} {o : HO} (x : ObjOk P w H h a o) (m : isMut o = true) : ∃ ob, h.get? a = some ob ∧ ∀ v, ob.data ≠ .cell v := by
  cases o with
  | lst xs =>
    obtain ⟨_, its, n, _, e⟩ := x
    exact ⟨_, e, fun v z => by cases z⟩
  | dK kvs =>
    obtain ⟨_, _, vs, _, ob, es, ep, e, _, d, _⟩ := x
    exact ⟨_, e, fun v z => by rw [d] at z; cases z⟩
  | dT kvs =>
    obtain ⟨_, _, xs, _, ob, es, ep, e, _, d, _⟩ := x
    exact ⟨_, e, fun v z => by rw [d] at z; cases z⟩
  | _ => cases m
/-- what stands aside -/
def aside (h : Heap) (H F : Hp) : List (Addr × Obj) := (List.range h.objs.size).filterMap fun a => if (H a).isSome = true ∧ (F a).isSome = false then (h.get? a).map fun o => (a, o) else none
theorem mem_aside {h : Heap} {a : Addr} {o : HO} {ob : Obj} (e : H a = some o) (f : F a = none) (g : h.get? a = some ob) : (a, ob) ∈ aside h H F :=
  List.mem_filterMap.mpr ⟨a, List.mem_range.mpr (Heap.lt_size g), by rw [if_pos ⟨by rw [e]; rfl, by rw [f]; rfl⟩, g]; rfl⟩
theorem of_aside {h : Heap} {p : Addr × Obj} (hp : p ∈ aside h H F) : (∃ o, H p.1 = some o) ∧ F p.1 = none ∧ h.get? p.1 = some p.2 := by
  obtain ⟨b, _, e⟩ := List.mem_filterMap.mp hp
  split at e
  · rename_i c
    cases q : h.get? b with
    | none => rw [q] at e; cases e
    | some u =>
      rw [q] at e
      have e' : (b, u) = p := Option.some.inj e
      subst e'
      refine ⟨Option.isSome_iff_exists.mp c.1, ?_, q⟩
      cases z : F b with
      | none => rfl
      | some y => have z2 := c.2; rw [z] at z2; cases z2
  · cases e
theorem Inv.without (I : Inv X pins σ H s) (z : Fz F H) : Inv X (pins ++ aside s.heap H F) σ F s := by
  have low : ∀ b, H b = none → F b = none := fun b e => by
    cases q : F b with
    | none => rfl
    | some o => rw [z.same b o q] at e; cases e
  refine ⟨I.ok, I.os, I.bare, ⟨I.base.keep, I.base.slot, fun b o q n hx => low b (I.base.free b o q n hx), I.base.there, fun b xs q => z.keep (I.base.tups b xs q) rfl, fun b o u q => z.keep (I.base.frzs b o u q) rfl, fun b ps q => ?_⟩, I.loc, I.cell, low _ I.free, fun x c e => low _ (I.freeC x c e), fun p hp => ?_, fun a o e => ?_, I.len⟩
  · obtain ⟨more, q⟩ := I.base.tbls b ps q
    exact ⟨more, z.keep q rfl⟩
  · rcases List.mem_append.mp hp with h1 | h1
    · obtain ⟨a1, a2, a3⟩ := I.pin p (List.mem_append_left _ h1)
      exact ⟨a1, low _ a2, a3⟩
    · rcases List.mem_append.mp h1 with h1 | h1
      · obtain ⟨a1, a2, a3⟩ := I.pin p (List.mem_append_right _ h1)
        exact ⟨a1, low _ a2, a3⟩
      · obtain ⟨⟨o, e⟩, f, g⟩ := of_aside h1
        have m : isMut o = true := by
          rcases z.drop _ _ e with q | ⟨_, q⟩
          · rw [f] at q; cases q
          · exact q
        obtain ⟨ob, g2, nc⟩ := obj_of_mut (I.hok _ _ e) m
        rw [g] at g2
        cases g2
        refine ⟨g, f, fun q => ?_, fun q => ?_, nc⟩
        · rw [q, I.free] at e; cases e
        · rw [stk_free I q] at e; cases e
  · exact (I.hok a o (z.same a o e)).stay (fun _ _ _ q => q) (fun b q => z.keep q rfl) fun b xs q => z.keep q rfl
theorem Inv.back {F' : Hp} {s' : Shared} {σ' : St} (I : Inv X pins σ H s) (z : Fz F H) (sm : Same F F') (J : Inv X (pins ++ aside s.heap H F) σ' F' s') : Inv X pins σ' (glue F' H) s' ∧ ∀ a o, H a = some o → F a = none → F' a = none := by
  have pinned : ∀ a o, H a = some o → F a = none → F' a = none ∧ ∀ ob, s.heap.get? a = some ob → s'.heap.get? a = some ob := fun a o e f => by
    have m : isMut o = true := by
      rcases z.drop _ _ e with q | ⟨_, q⟩
      · rw [f] at q; cases q
      · exact q
    obtain ⟨ob, g, _⟩ := obj_of_mut (I.hok _ _ e) m
    obtain ⟨a1, a2, _⟩ := J.pin (a, ob) (List.mem_append_right _ (List.mem_append_right _ (mem_aside e f g)))
    refine ⟨a2, fun ob' g' => ?_⟩
    rw [g] at g'
    cases g'
    exact a1
  have up : ∀ b o, F' b = some o → glue F' H b = some o := fun b o e => glue_some e
  have tupsUp : ∀ b xs, H b = some (.tup xs) → glue F' H b = some (.tup xs) := fun b xs e => up b _ (sm b _ (z.keep e rfl))
  refine ⟨⟨I.ok, J.os, J.bare, ⟨J.base.keep, J.base.slot, fun b o q n hx => ?_, J.base.there, fun b xs q => up b _ (J.base.tups b xs q), fun b o u q => up b _ (J.base.frzs b o u q), fun b ps q => ?_⟩, J.loc, J.cell, ?_, fun x c e => ?_, fun p hp => ?_, fun a o e => ?_, J.len⟩, fun a o e f => (pinned a o e f).1⟩
  · rw [glue_none (J.base.free b o q n hx)]
    exact I.base.free b o q n hx
  · obtain ⟨more, q⟩ := J.base.tbls b ps q
    exact ⟨more, up b _ q⟩
  · rw [glue_none J.free]; exact I.free
  · rw [glue_none (J.freeC x c e)]; exact I.freeC x c e
  · have h1 : p ∈ X.pn ++ (pins ++ aside s.heap H F) := by
      rcases List.mem_append.mp hp with h | h
      · exact List.mem_append_left _ h
      · exact List.mem_append_right _ (List.mem_append_left _ h)
    obtain ⟨a1, a2, a3⟩ := J.pin p h1
    refine ⟨a1, ?_, a3⟩
    rw [glue_none a2]
    exact (I.pin p hp).2.1
  · cases q : F' a with
    | some o' =>
      rw [glue_some q] at e
      cases e
      exact (J.hok a _ q).stay (fun _ _ _ q => q) (fun b q => up b _ q) fun b xs q => up b _ q
    | none =>
      rw [glue_none q] at e
      have f : F a = none := by
        cases f : F a with
        | none => rfl
        | some o' => rw [sm a o' f] at q; cases q
      have m : isMut o = true := by
        rcases z.drop _ _ e with q | ⟨_, q⟩
        · rw [f] at q; cases q
        · exact q
      have k := (pinned a o e f).2
      have ok := I.hok a o e
      cases o with
      | lst xs =>
        obtain ⟨l, its, n, r, g⟩ := ok
        exact ⟨l, its, n, r, k _ g⟩
      | dK kvs =>
        obtain ⟨l, y, vs, r, ob, es, ep, g, c⟩ := ok
        exact ⟨l, y, vs, r, ob, es, ep, k _ g, c⟩
      | dT kvs =>
        obtain ⟨l, y, xs, r, ob, es, ep, g, c⟩ := ok
        exact ⟨l, y, xs, Paired.mapP r fun p q z => ⟨z.1, tupsUp _ _ z.2.1, z.2.2⟩, ob, es, ep, k _ g, c⟩
      | _ => cases m
theorem pe_frame {e : Expr} {te : TE} (h : PE X e te) : PE X e (tFr te) := by
  refine ⟨fun pins s σ H Q I hw => ?_⟩
  obtain ⟨F, z, ht⟩ := hw
  refine thn (h.run _ s σ F _ (Inv.without I z) ht) fun u s1 hh => ?_
  obtain ⟨v, F', J, r, sm, q⟩ := hh
  obtain ⟨K1, dj⟩ := Inv.back I z sm J
  exact ⟨v, glue F' H, K1, r, q dj⟩
end
end L2.D3
set_option maxHeartbeats 4000000
namespace L2.D3
open PySem PySem.Spec PyProof.Rows
/-! ### expressions over data -/
/-- what is known of a value and stays known while the heap grows -/
structure Ass where
  p : PySem.W.Frag → Hp → V → Prop
  up : ∀ K H H' v, Same H H' → p K H v → p K H' v
/-- a name: nothing known, a datum, something else -/
inductive Cl where
  | no
  | da (d : Dt)
  | an (A : Ass)
def Cl.d : Cl → Option Dt
  | .da d => some d
  | _ => none
def Cl.a : Cl → Option Ass
  | .an A => some A
  | _ => none
abbrev Fro := List Cl
def getF : Fro → Nat → Option Dt
  | [], _ => none
  | a :: _, 0 => a.d
  | _ :: r, n + 1 => getF r n
def getA : Fro → Nat → Option Ass
  | [], _ => none
  | a :: _, 0 => a.a
  | _ :: r, n + 1 => getA r n
def setF : Fro → Nat → Dt → Fro
  | [], _, _ => []
  | _ :: r, 0, d => .da d :: r
  | a :: r, n + 1, d => a :: setF r n d
theorem getF_setF : ∀ {φ : Fro} {i j : Nat} {d e : Dt}, getF (setF φ i d) j = some e → (j = i ∧ e = d) ∨ (j ≠ i ∧ getF φ j = some e)
  | [], i, j, d, e, h => by cases h
  | a :: r, 0, 0, d, e, h => .inl ⟨rfl, (Option.some.inj h).symm⟩
  | a :: r, 0, j + 1, d, e, h => .inr ⟨Nat.succ_ne_zero j, h⟩
  | a :: r, i + 1, 0, d, e, h => .inr ⟨(Nat.succ_ne_zero i).symm, h⟩
  | a :: r, i + 1, j + 1, d, e, h => by
    rcases getF_setF (φ := r) (i := i) (j := j) h with ⟨a1, a2⟩ | ⟨a1, a2⟩
    · exact .inl ⟨by rw [a1], a2⟩
    · exact .inr ⟨fun z => a1 (Nat.succ.inj z), a2⟩
theorem getA_setF : ∀ {φ : Fro} {i j : Nat} {d : Dt} {e : Ass}, getA (setF φ i d) j = some e → j ≠ i ∧ getA φ j = some e
  | [], i, j, d, e, h => by cases h
  | a :: r, 0, 0, d, e, h => by cases h
  | a :: r, 0, j + 1, d, e, h => ⟨Nat.succ_ne_zero j, h⟩
  | a :: r, i + 1, 0, d, e, h => ⟨(Nat.succ_ne_zero i).symm, h⟩
  | a :: r, i + 1, j + 1, d, e, h => by
    obtain ⟨a1, a2⟩ := getA_setF (φ := r) (i := i) (j := j) h
    exact ⟨fun z => a1 (Nat.succ.inj z), a2⟩
theorem setF_len : ∀ {φ : Fro} {i : Nat} {d : Dt}, (setF φ i d).length = φ.length
  | [], i, d => rfl
  | a :: r, 0, d => rfl
  | a :: r, i + 1, d => congrArg Nat.succ (setF_len (φ := r))
theorem getF_lt : ∀ {φ : Fro} {i : Nat} {d : Dt}, getF φ i = some d → i < φ.length
  | [], i, d, h => by cases h
  | a :: r, 0, d, h => Nat.zero_lt_succ _
  | a :: r, i + 1, d, h => Nat.succ_lt_succ (getF_lt (φ := r) h)
structure EnvF (K : PySem.W.Frag) (σ : St) (H : Hp) (φ : Fro) : Prop where
  len : φ.length ≤ σ.length
  at_ : ∀ i d, getF φ i = some d → ∃ v, σ[i]? = some (some v) ∧ Dp K H v d
  an : ∀ i A, getA φ i = some A → ∃ v, σ[i]? = some (some v) ∧ A.p K H v
theorem EnvF.up {K : PySem.W.Frag} {σ : St} {H H' : Hp} {φ : Fro} (h : EnvF K σ H φ) (s : Same H H') : EnvF K σ H' φ := ⟨h.len, fun i d e => by
  obtain ⟨v, a, b⟩ := h.at_ i d e
  exact ⟨v, a, b.up s⟩, fun i A e => by
  obtain ⟨v, a, b⟩ := h.an i A e
  exact ⟨v, a, A.up _ _ _ _ s b⟩⟩
theorem EnvF.set {K : PySem.W.Frag} {σ : St} {H : Hp} {φ : Fro} {i : Nat} {d : Dt} {v : V} (h : EnvF K σ H φ) (hv : Dp K H v d) : EnvF K (σ.set i (some v)) H (setF φ i d) := by
  refine ⟨by rw [setF_len, List.length_set]; exact h.len, fun j e q => ?_, fun j A q => ?_⟩
  · have hj := getF_lt q
    rw [setF_len] at hj
    have hl := Nat.lt_of_lt_of_le hj h.len
    rcases getF_setF q with ⟨rfl, rfl⟩ | ⟨a1, a2⟩
    · exact ⟨v, by rw [List.getElem?_set_self hl], hv⟩
    · obtain ⟨u, b1, b2⟩ := h.at_ j e a2
      exact ⟨u, by rw [List.getElem?_set_ne (Ne.symm a1)]; exact b1, b2⟩
  · obtain ⟨a1, a2⟩ := getA_setF q
    obtain ⟨u, b1, b2⟩ := h.an j A a2
    exact ⟨u, by rw [List.getElem?_set_ne (Ne.symm a1)]; exact b1, b2⟩
abbrev DE := Fro → (Dt → Prop) → Prop
abbrev DT := Fro → (Bool → Prop) → Prop
abbrev DA := Fro → (List Dt → Prop) → Prop
def SE (K : PySem.W.Frag) (te : TE) (de : DE) : Prop := ∀ (σ : St) (H : Hp) (φ : Fro) (Φ : Dt → Prop) (Q : VK), EnvF K σ H φ → de φ Φ → (∀ v H' d, Same H H' → Dp K H' v d → Φ d → Q v H') → te σ H Q
def ST (K : PySem.W.Frag) (tt : TT) (dt : DT) : Prop := ∀ (σ : St) (H : Hp) (φ : Fro) (Φ : Bool → Prop) (Q : Bool → Hp → Prop), EnvF K σ H φ → dt φ Φ → (∀ b H', Same H H' → Φ b → Q b H') → tt σ H Q
def SA (K : PySem.W.Frag) (n : Nat) (ta : TA) (da : DA) : Prop := ∀ (σ : St) (H : Hp) (φ : Fro) (Φ : List Dt → Prop) (Q : List V → Hp → Prop), EnvF K σ H φ → da φ Φ → (∀ vs H' ds, Same H H' → DpAll K H' vs ds → ds.length = n → Φ ds → Q vs H') → ta σ H Q
structure GE (X : Cx) (e : Expr) (de : DE) : Prop where
  ex : ∃ te, PE X e te ∧ SE X.K te de
structure GT (X : Cx) (e : Expr) (dt : DT) : Prop where
  ex : ∃ tt, PT X e tt ∧ ST X.K tt dt
structure GW (X : Cx) (e : Expr) (dt : DT) : Prop where
  ex : ∃ tt, PW X e tt ∧ ST X.K tt dt
structure GA (X : Cx) (es : List Expr) (da : DA) : Prop where
  ex : ∃ ta, PA X es ta ∧ SA X.K es.length ta da
/-! names, constants -/
def dV (i : Nat) : DE := fun φ Φ => match getF φ i with
  | some d => Φ d
  | none => False
def dC (d : Dt) : DE := fun _ Φ => Φ d
section
variable {X : Cx} {K : PySem.W.Frag}
theorem se_var (i : Nat) : SE K (tVar i) (dV i) := fun σ H φ Φ Q env h q => by
  unfold dV at h
  cases e : getF φ i with
  | none => rw [e] at h; exact h.elim
  | some d =>
    rw [e] at h
    obtain ⟨v, a, b⟩ := env.at_ i d e
    exact ⟨v, a, q v H d (Same.refl H) b h⟩
theorem gv (i : Nat) {x : Str} {pos : Pos} (hN : X.N[i]? = some x := by rfl) (hv : Vis X.env.scope x := by first | exact Or.inl rfl | exact Or.inr (Or.inl rfl) | exact Or.inr (Or.inr rfl)) (hd : (x == ("__debug__" : Str)) = false := by decide)
    (hcd : (x == ("__classdict__" : Str)) = false := by decide) : GE X (.Name x pos) (dV i) := ⟨_, pe_var hN hv hd hcd, se_var i⟩
theorem se_c {v : V} {d : Dt} (h : ∀ H, Dp K H v d) : SE K (tC v) (dC d) := fun σ H φ Φ Q env hd q => q v H d (Same.refl H) (h H) hd
theorem g_int {i : Int} {j pos} : GE X (.Constant (.int i) j pos) (dC (.int i)) := ⟨_, pe_int, se_c fun _ => .int i⟩
theorem g_bl {b : Bool} {j pos} : GE X (.Constant (.bool b) j pos) (dC (.bool b)) := ⟨_, pe_bl, se_c fun _ => .bl b⟩
theorem g_non {j pos} : GE X (.Constant .none j pos) (dC .none) := ⟨_, pe_non, se_c fun _ => .non⟩
theorem g_str {x j pos} : GE X (.Constant (.str x) j pos) (dC (.str x)) := ⟨_, pe_str, se_c fun _ => .str x⟩
/-- a module's name that stands for data -/
def Glo (K : PySem.W.Frag) (mg : Str → Option Value) (x : Str) (d : Dt) : Prop := ∃ u v, mg x = some u ∧ RelV v u ∧ ∀ H, Dp K H v d
theorem g_glob {x : Str} {d : Dt} {pos : Pos} (h : Glo X.K X.mg x d) (hg : Gl X x := by rfl) (hd : (x == ("__debug__" : Str)) = false := by decide) : GE X (.Name x pos) (dC d) := by
  obtain ⟨u, v, hm, r, hv⟩ := h
  exact ⟨_, pe_glob hg hm r hd, se_c hv⟩
/-! operators -/
abbrev DO := Dt → Dt → (Dt → Prop) → Prop
def RD (K : PySem.W.Frag) (r : R2) (o : DO) : Prop := ∀ (x y : V) (H : Hp) (Q : VK) (dx dy : Dt) (Φ : Dt → Prop), Dp K H x dx → Dp K H y dy → o dx dy Φ → (∀ v H' d, Same H H' → Dp K H' v d → Φ d → Q v H') → r x y H Q
structure OpG (X : Cx) (f : Value → Value → Sem Value) (o : DO) : Prop where
  ex : ∃ r, OpR X f r ∧ RD X.K r o
def dBin (o : DO) (da db : DE) : DE := fun φ Φ => da φ fun x => db φ fun y => o x y Φ
theorem se_op {r : R2} {o : DO} {ta tb : TE} {da db : DE} (hr : RD K r o) (ha : SE K ta da) (hb : SE K tb db) : SE K (tOp r ta tb) (dBin o da db) := fun σ H φ Φ Q env h q =>
  ha σ H φ _ _ env h fun x H1 dx s1 px h1 => hb σ H1 φ _ _ (env.up s1) h1 fun y H2 dy s2 py h2 => hr x y H2 Q dx dy Φ (px.up s2) py h2 fun v H' d s3 pv hd => q v H' d (s1.trans (s2.trans s3)) pv hd
theorem g_op {a b : Expr} {da db : DE} {op : Operator} {o : DO} {pos : Pos} (ho : OpG X (binaryOp op) o) (ha : GE X a da) (hb : GE X b db) : GE X (.BinOp a op b pos) (dBin o da db) := by
  obtain ⟨r, h1, h2⟩ := ho
  obtain ⟨ta, a1, a2⟩ := ha
  obtain ⟨tb, b1, b2⟩ := hb
  exact ⟨_, pe_op h1 a1 b1, se_op h2 a2 b2⟩
theorem g_cmp {a b : Expr} {da db : DE} {op : CmpOp} {o : DO} {pos : Pos} (ho : OpG X (compareOp op) o) (ha : GE X a da) (hb : GE X b db) (hm : behindInMarks op b = false := by first | rfl | exact nomark _) : GE X (.Compare a [op] [b] pos) (dBin o da db) := by
  obtain ⟨r, h1, h2⟩ := ho
  obtain ⟨ta, a1, a2⟩ := ha
  obtain ⟨tb, b1, b2⟩ := hb
  exact ⟨_, pe_cmpR h1 a1 b1 hm, se_op h2 a2 b2⟩
/-- a truth -/
def onB (Φ : Bool → Prop) : Dt → Prop
  | .bool b => Φ b
  | _ => False
def dTV (da : DE) : DT := fun φ Φ => da φ (onB Φ)
theorem st_test {te : TE} {de : DE} (h : SE K te de) : ST K (tTest te) (dTV de) := fun σ H φ Φ Q env hd q => h σ H φ _ _ env hd fun v H' d s pv hd => by
  cases d with
  | bool b => cases pv; exact ⟨b, rfl, q b H' s hd⟩
  | _ => exact False.elim hd
theorem t_cmp {a b : Expr} {da db : DE} {op : CmpOp} {o : DO} {pos : Pos} (ho : OpG X (compareOp op) o) (ha : GE X a da) (hb : GE X b db) (hm : behindInMarks op b = false := by first | rfl | exact nomark _) : GT X (.Compare a [op] [b] pos) (dTV (dBin o da db)) := by
  obtain ⟨r, h1, h2⟩ := ho
  obtain ⟨ta, a1, a2⟩ := ha
  obtain ⟨tb, b1, b2⟩ := hb
  exact ⟨_, pt_cmpR h1 a1 b1 hm, st_test (se_op h2 a2 b2)⟩
theorem t_val {e : Expr} {de : DE} (h : GE X e de) (he : ∀ whole, isTrue e X.env whole = (do let v ← whole; standAt e.pos; holding [v] (truthy v)) := by intro _; rfl) : GT X e (dTV de) := by
  obtain ⟨te, h1, h2⟩ := h
  exact ⟨_, pt_val h1 he, st_test h2⟩
def dChn (o o' : DO) (da db dc : DE) : DE := fun φ Φ => da φ fun x => db φ fun y => o x y (onB fun b => if b = true then dc φ fun z => o' y z Φ else Φ (.bool false))
theorem se_chain {r r' : R2} {o o' : DO} {ta tb tc : TE} {da db dc : DE} (hr : RD K r o) (hr' : RD K r' o') (ha : SE K ta da) (hb : SE K tb db) (hc : SE K tc dc) : SE K (tChain r r' ta tb tc) (dChn o o' da db dc) := fun σ H φ Φ Q env h q =>
  ha σ H φ _ _ env h fun x H1 dx s1 px h1 => hb σ H1 φ _ _ (env.up s1) h1 fun y H2 dy s2 py h2 => hr x y H2 _ dx dy _ (px.up s2) py h2 fun v H3 d s3 pv hd => by
    cases d with
    | bool b =>
      cases pv
      refine ⟨b, rfl, ?_⟩
      have hd' : if b = true then dc φ fun z => o' dy z Φ else Φ (.bool false) := hd
      cases b with
      | true =>
        rw [if_pos rfl] at hd' ⊢
        exact hc σ H3 φ _ _ (env.up (s1.trans (s2.trans s3))) hd' fun z H4 dz s4 pz h4 => hr' y z H4 Q dy dz Φ (py.up (s3.trans s4)) pz h4 fun w H' d s5 pw hw => q w H' d (s1.trans (s2.trans (s3.trans (s4.trans s5)))) pw hw
      | false =>
        rw [if_neg Bool.false_ne_true] at hd' ⊢
        exact q _ _ _ (s1.trans (s2.trans s3)) (.bl false) hd'
    | _ => exact False.elim hd
theorem t_chain {a b c : Expr} {da db dc : DE} {op op' : CmpOp} {o o' : DO} {pos : Pos} (ho : OpG X (compareOp op) o) (ho' : OpG X (compareOp op') o') (ha : GE X a da) (hb : GE X b db) (hc : GE X c dc) (hm : lastMarks [op, op'] [b, c] = false := by with_unfolding_all rfl) :
    GT X (.Compare a [op, op'] [b, c] pos) (dTV (dChn o o' da db dc)) := by
  obtain ⟨r, h1, h2⟩ := ho
  obtain ⟨r', h1', h2'⟩ := ho'
  obtain ⟨ta, a1, a2⟩ := ha
  obtain ⟨tb, b1, b2⟩ := hb
  obtain ⟨tc, c1, c2⟩ := hc
  exact ⟨_, pt_chain h1 h1' a1 b1 c1 hm, st_test (se_chain h2 h2' a2 b2 c2)⟩
/-! and, or, not -/
def dTAnd (t u : DT) : DT := fun φ Φ => t φ fun b => if b = true then u φ Φ else Φ false
def dTOr (t u : DT) : DT := fun φ Φ => t φ fun b => if b = true then Φ true else u φ Φ
def dTNot (t : DT) : DT := fun φ Φ => t φ fun b => Φ (!b)
theorem st_and {t u : TT} {d e : DT} (h1 : ST K t d) (h2 : ST K u e) : ST K (tAnd t u) (dTAnd d e) := fun σ H φ Φ Q env h q => h1 σ H φ _ _ env h fun b H1 s1 hb => by
  cases b with
  | true =>
    rw [if_pos rfl] at hb ⊢
    exact h2 σ H1 φ _ _ (env.up s1) hb fun b H2 s2 hb => q b H2 (s1.trans s2) hb
  | false =>
    rw [if_neg Bool.false_ne_true] at hb ⊢
    exact q false H1 s1 hb
theorem st_or {t u : TT} {d e : DT} (h1 : ST K t d) (h2 : ST K u e) : ST K (tOr t u) (dTOr d e) := fun σ H φ Φ Q env h q => h1 σ H φ _ _ env h fun b H1 s1 hb => by
  cases b with
  | true =>
    rw [if_pos rfl] at hb ⊢
    exact q true H1 s1 hb
  | false =>
    rw [if_neg Bool.false_ne_true] at hb ⊢
    exact h2 σ H1 φ _ _ (env.up s1) hb fun b H2 s2 hb => q b H2 (s1.trans s2) hb
theorem st_not {t : TT} {d : DT} (h1 : ST K t d) : ST K (tNot t) (dTNot d) := fun σ H φ Φ Q env h q => h1 σ H φ _ _ env h fun b H1 s1 hb => q (!b) H1 s1 hb
theorem w_and {a b : Expr} {rest : List Expr} {d e : DT} {pos : Pos} (ha : GT X a d) (hb : GW X (.BoolOp .And (b :: rest) pos) e) : GW X (.BoolOp .And (a :: b :: rest) pos) (dTAnd d e) := by
  obtain ⟨t, a1, a2⟩ := ha
  obtain ⟨u, b1, b2⟩ := hb
  exact ⟨_, pw_and a1 b1, st_and a2 b2⟩
theorem w_or {a b : Expr} {rest : List Expr} {d e : DT} {pos : Pos} (ha : GT X a d) (hb : GW X (.BoolOp .Or (b :: rest) pos) e) : GW X (.BoolOp .Or (a :: b :: rest) pos) (dTOr d e) := by
  obtain ⟨t, a1, a2⟩ := ha
  obtain ⟨u, b1, b2⟩ := hb
  exact ⟨_, pw_or a1 b1, st_or a2 b2⟩
theorem w_and1 {a : Expr} {d : DT} {pos : Pos} (ha : GT X a d) : GW X (.BoolOp .And [a] pos) d := by
  obtain ⟨t, a1, a2⟩ := ha
  exact ⟨_, pw_and1 a1, a2⟩
theorem w_or1 {a : Expr} {d : DT} {pos : Pos} (ha : GT X a d) : GW X (.BoolOp .Or [a] pos) d := by
  obtain ⟨t, a1, a2⟩ := ha
  exact ⟨_, pw_or1 a1, a2⟩
theorem GW.t {e : Expr} {d : DT} (h : GW X e d) : GT X e d := by
  obtain ⟨t, a1, a2⟩ := h
  exact ⟨_, a1.pt, a2⟩
theorem t_not {a : Expr} {d : DT} {pos : Pos} (ha : GT X a d) : GT X (.UnaryOp .Not a pos) (dTNot d) := by
  obtain ⟨t, a1, a2⟩ := ha
  exact ⟨_, pt_not a1, st_not a2⟩
/-! .. as values, of truths -/
def dAnd (da db : DE) : DE := fun φ Φ => da φ (onB fun b => if b = true then db φ Φ else Φ (.bool false))
def dOr (da db : DE) : DE := fun φ Φ => da φ (onB fun b => if b = true then Φ (.bool true) else db φ Φ)
def dNot (da : DE) : DE := fun φ Φ => da φ (onB fun b => Φ (.bool !b))
theorem onB_of {v : V} {H : Hp} {d : Dt} {Φ : Bool → Prop} (h : onB Φ d) (p : Dp K H v d) : ∃ b, v = .bl b ∧ Φ b := by
  cases d with
  | bool b => cases p; exact ⟨b, rfl, h⟩
  | _ => exact False.elim h
theorem se_and {ta tb : TE} {da db : DE} (ha : SE K ta da) (hb : SE K tb db) : SE K (tAndV ta tb) (dAnd da db) := fun σ H φ Φ Q env h q => ha σ H φ _ _ env h fun v H1 d s1 p1 h1 => by
  obtain ⟨b, rfl, h2⟩ := onB_of h1 p1
  refine ⟨b, rfl, ?_⟩
  cases b with
  | true =>
    rw [if_pos rfl] at h2 ⊢
    exact hb σ H1 φ _ _ (env.up s1) h2 fun v H2 d s2 pv hd => q v H2 d (s1.trans s2) pv hd
  | false =>
    rw [if_neg Bool.false_ne_true] at h2 ⊢
    exact q _ H1 _ s1 (.bl false) h2
theorem se_or {ta tb : TE} {da db : DE} (ha : SE K ta da) (hb : SE K tb db) : SE K (tOrV ta tb) (dOr da db) := fun σ H φ Φ Q env h q => ha σ H φ _ _ env h fun v H1 d s1 p1 h1 => by
  obtain ⟨b, rfl, h2⟩ := onB_of h1 p1
  refine ⟨b, rfl, ?_⟩
  cases b with
  | true =>
    rw [if_pos rfl] at h2 ⊢
    exact q _ H1 _ s1 (.bl true) h2
  | false =>
    rw [if_neg Bool.false_ne_true] at h2 ⊢
    exact hb σ H1 φ _ _ (env.up s1) h2 fun v H2 d s2 pv hd => q v H2 d (s1.trans s2) pv hd
theorem se_not {ta : TE} {da : DE} (ha : SE K ta da) : SE K (tNotV ta) (dNot da) := fun σ H φ Φ Q env h q => ha σ H φ _ _ env h fun v H1 d s1 p1 h1 => by
  obtain ⟨b, rfl, h2⟩ := onB_of h1 p1
  exact ⟨b, rfl, q _ H1 _ s1 (.bl _) h2⟩
theorem g_and {a b : Expr} {rest : List Expr} {da db : DE} {pos : Pos} (ha : GE X a da) (hb : GE X (.BoolOp .And (b :: rest) pos) db) : GE X (.BoolOp .And (a :: b :: rest) pos) (dAnd da db) := by
  obtain ⟨t, a1, a2⟩ := ha
  obtain ⟨u, b1, b2⟩ := hb
  exact ⟨_, pe_and a1 b1, se_and a2 b2⟩
theorem g_or {a b : Expr} {rest : List Expr} {da db : DE} {pos : Pos} (ha : GE X a da) (hb : GE X (.BoolOp .Or (b :: rest) pos) db) : GE X (.BoolOp .Or (a :: b :: rest) pos) (dOr da db) := by
  obtain ⟨t, a1, a2⟩ := ha
  obtain ⟨u, b1, b2⟩ := hb
  exact ⟨_, pe_or a1 b1, se_or a2 b2⟩
theorem g_one {a : Expr} {op} {da : DE} {pos : Pos} (ha : GE X a da) : GE X (.BoolOp op [a] pos) da := by
  obtain ⟨t, a1, a2⟩ := ha
  exact ⟨_, pe_one a1, a2⟩
theorem g_not {a : Expr} {da : DE} {pos : Pos} (ha : GE X a da) : GE X (.UnaryOp .Not a pos) (dNot da) := by
  obtain ⟨t, a1, a2⟩ := ha
  exact ⟨_, pe_not a1, se_not a2⟩
def dIfE (t : DT) (da db : DE) : DE := fun φ Φ => t φ fun b => if b = true then da φ Φ else db φ Φ
/-! lists of arguments, displays -/
def dNil : DA := fun _ Φ => Φ []
def dCons (da : DE) (dr : DA) : DA := fun φ Φ => da φ fun x => dr φ fun xs => Φ (x :: xs)
theorem a_nil : GA X [] dNil := ⟨_, pa_nil, fun σ H φ Φ Q env h q => q [] H [] (Same.refl H) .nil rfl h⟩
theorem a_cons {e : Expr} {es : List Expr} {de : DE} {dr : DA} (he : GE X e de) (hr : GA X es dr) (hs : starEach (e :: es) X.env = (false, eval e X.env) :: starEach es X.env := by rfl) : GA X (e :: es) (dCons de dr) := by
  obtain ⟨te, a1, a2⟩ := he
  obtain ⟨tr, b1, b2⟩ := hr
  exact ⟨_, pa_cons a1 b1 hs, fun σ H φ Φ Q env h q => a2 σ H φ _ _ env h fun v H1 d s1 pv h1 => b2 σ H1 φ _ _ (env.up s1) h1 fun vs H2 ds s2 ps l h2 => q _ H2 _ (s1.trans s2) (.cons (pv.up s2) ps) (congrArg Nat.succ l) h2⟩
def dTup (da : DA) : DE := fun φ Φ => da φ fun ds => Φ (.tuple ds)
def dLst (da : DA) : DE := fun φ Φ => da φ fun ds => Φ (.list ds)
theorem g_tup {es : List Expr} {da : DA} {x1} {pos : Pos} (h : GA X es da) (hz : es.length ≤ sizeLine := by decide) : GE X (.Tuple es x1 pos) (dTup da) := by
  obtain ⟨t, a1, a2⟩ := h
  refine ⟨_, pe_tup a1, fun σ H φ Φ Q env h q => a2 σ H φ _ _ env h fun vs H1 ds s1 ps l h1 => ⟨by rw [ps.len, l]; exact hz, fun p hp => ?_⟩⟩
  have s2 := same_new (o := .tup vs) hp
  exact q _ _ _ (s1.trans s2) (.tup (SqT.of upd_same) (ps.up s2)) h1
theorem g_lst {es : List Expr} {da : DA} {pos : Pos} (h : GA X es da) (hz : es.length ≤ sizeLine := by decide) : GE X (.List es pos) (dLst da) := by
  obtain ⟨t, a1, a2⟩ := h
  refine ⟨_, pe_lst a1, fun σ H φ Φ Q env h q => a2 σ H φ _ _ env h fun vs H1 ds s1 ps l h1 => ⟨by rw [ps.len, l]; exact hz, fun p hp => ?_⟩⟩
  have s2 := same_new (o := .lst vs) hp
  exact q _ _ _ (s1.trans s2) (.lst (SqL.of upd_same) (ps.up s2)) h1
end
/-! ### the operators -/
section
variable {X : Cx} {K : PySem.W.Frag}
theorem OpR.or {f : Value → Value → Sem Value} {r r' : R2} (h : OpR X f r) (h' : OpR X f r') : OpR X f (fun x y H Q => r x y H Q ∨ r' x y H Q) := by
  intro pins s σ H x y v u Q I rx ry q
  rcases q with q | q
  · exact h pins s σ H x y v u Q I rx ry q
  · exact h' pins s σ H x y v u Q I rx ry q
theorem IxR.or {r r' : R2} (h : IxR X r) (h' : IxR X r') : IxR X (fun x y H Q => r x y H Q ∨ r' x y H Q) := by
  intro a b pins s σ H x y v u Q I rx ry q e
  rcases q with q | q
  · exact h a b pins s σ H x y v u Q I rx ry q e
  · exact h' a b pins s σ H x y v u Q I rx ry q e
/-- ints alone -/
def oI (f : Int → Int → Dt) : DO := fun x y Φ => match x, y with
  | .int i, .int j => Φ (f i j)
  | _, _ => False
def oIC (C : Int → Int → Prop) (f : Int → Int → Dt) : DO := fun x y Φ => match x, y with
  | .int i, .int j => C i j ∧ Φ (f i j)
  | _, _ => False
theorem oI_of {f : Int → Int → Dt} {x y : Dt} {Φ : Dt → Prop} (h : oI f x y Φ) : ∃ i j, x = .int i ∧ y = .int j ∧ Φ (f i j) := by
  cases x <;> cases y <;> first | exact ⟨_, _, rfl, rfl, h⟩ | exact False.elim h
theorem oIC_of {C : Int → Int → Prop} {f : Int → Int → Dt} {x y : Dt} {Φ : Dt → Prop} (h : oIC C f x y Φ) : ∃ i j, x = .int i ∧ y = .int j ∧ C i j ∧ Φ (f i j) := by
  cases x <;> cases y <;> first | exact ⟨_, _, rfl, rfl, h⟩ | exact False.elim h
theorem rd_I0 {g : Int → Int → V} {f : Int → Int → Dt} (h : ∀ i j H, Dp K H (g i j) (f i j)) : RD K (rI0 g) (oI f) := fun x y H Q dx dy Φ px py ho q => by
  obtain ⟨i, j, rfl, rfl, h1⟩ := oI_of ho
  cases px; cases py
  exact ⟨i, j, rfl, rfl, q _ H _ (Same.refl H) (h i j H) h1⟩
theorem rd_I {C : Int → Int → Prop} {g : Int → Int → V} {f : Int → Int → Dt} (h : ∀ i j H, Dp K H (g i j) (f i j)) : RD K (rI C g) (oIC C f) := fun x y H Q dx dy Φ px py ho q => by
  obtain ⟨i, j, rfl, rfl, h0, h1⟩ := oIC_of ho
  cases px; cases py
  exact ⟨i, j, rfl, rfl, h0, q _ H _ (Same.refl H) (h i j H) h1⟩
def oSubI : DO := oI fun i j => .int (i - j)
def oMulI : DO := oIC CMulW fun i j => .int (i * j)
def CFd (_ j : Int) : Prop := j ≠ 0 ∧ j.natAbs.log2 < 9000
def oFd : DO := oIC CFd fun i j => .int (i.fdiv j)
def oMd : DO := oIC (fun _ j => j ≠ 0) fun i j => .int (i.fmod j)
def oPw : DO := oIC CPow fun i j => .int (i ^ j.toNat)
def oLt : DO := oI fun i j => .bool (decide (i < j))
def oLe : DO := oI fun i j => .bool (decide (i ≤ j))
def oGt : DO := oI fun i j => .bool (decide (j < i))
def oGe : DO := oI fun i j => .bool (decide (j ≤ i))
theorem o_sub : OpG X (binaryOp .Sub) oSubI := ⟨_, op_sub, rd_I0 fun _ _ _ => .int _⟩
theorem op_fdZ : OpR X (binaryOp .FloorDiv) (rI CFd fun i j => .int (i.fdiv j)) := opI fun i j _ _ _ _ _ hc q => floordiv_int hc.1 q (.inl (PyProof.noPylong_of_log2 hc.2))
theorem o_fd : OpG X (binaryOp .FloorDiv) oFd := ⟨_, op_fdZ, rd_I fun _ _ _ => .int _⟩
theorem o_md : OpG X (binaryOp .Mod) oMd := ⟨_, op_modN, rd_I fun _ _ _ => .int _⟩
theorem o_pw : OpG X (binaryOp .Pow) oPw := ⟨_, op_pow, rd_I fun _ _ _ => .int _⟩
theorem o_lt : OpG X (compareOp .Lt) oLt := ⟨_, op_lt, rd_I0 fun _ _ _ => .bl _⟩
theorem o_le : OpG X (compareOp .LtE) oLe := ⟨_, op_le, rd_I0 fun _ _ _ => .bl _⟩
theorem o_gt : OpG X (compareOp .Gt) oGt := ⟨_, op_gt, rd_I0 fun _ _ _ => .bl _⟩
theorem o_ge : OpG X (compareOp .GtE) oGe := ⟨_, op_ge, rd_I0 fun _ _ _ => .bl _⟩
def oEq : DO := fun x y Φ => SeqAt.shaped x = true ∧ SeqAt.shaped y = true ∧ Φ (.bool (PyData.eqv x y))
def oNe : DO := fun x y Φ => SeqAt.shaped x = true ∧ SeqAt.shaped y = true ∧ Φ (.bool (!PyData.eqv x y))
theorem o_eq {k : Nat} (hr : Room k X.A) : OpG X (compareOp .Eq) oEq := ⟨_, op_eqD hr.units, fun x y H Q dx dy Φ px py ho q => ⟨dx, dy, px.old ho.1, py.old ho.2.1, ho.1, ho.2.1, q _ H _ (Same.refl H) (.bl _) ho.2.2⟩⟩
theorem o_ne {k : Nat} (hr : Room k X.A) : OpG X (compareOp .NotEq) oNe := ⟨_, op_neD hr.units, fun x y H Q dx dy Φ px py ho q => ⟨dx, dy, px.old ho.1, py.old ho.2.1, ho.1, ho.2.1, q _ H _ (Same.refl H) (.bl _) ho.2.2⟩⟩
def isN : Dt → Bool
  | .none => true
  | _ => false
theorem isN_of {v : V} {H : Hp} {d : Dt} (p : Dp K H v d) : decide (v = .non) = isN d := by
  cases p <;> simp [isN]
def dIsN (da : DE) : DE := fun φ Φ => da φ fun x => Φ (.bool (isN x))
def dNotN (da : DE) : DE := fun φ Φ => da φ fun x => Φ (.bool !isN x)
/-! subscripts -/
def itemD (x : Dt) (i : Int) : Option Dt := match x with
  | .list ds => atI ds i
  | .tuple ds => atI ds i
  | .str z => (atI z.cps.toList i).map fun c => .str ⟨#[c]⟩
  | _ => none
def fitsD : Dt → Prop
  | .str z => z.length ≤ sizeLine
  | _ => True
/-- x[i] -/
def oIx : DO := fun x y Φ => match y with
  | .int i => fitsD x ∧ ∃ d, itemD x i = some d ∧ Φ d
  | _ => False
theorem atI_get {α : Type} {xs : List α} {i : Int} {d : α} (h : atI xs i = some d) : ∃ j, ixN xs.length i = some j ∧ xs[j]? = some d := by
  unfold atI at h
  cases e : ixN xs.length i with
  | none => rw [e] at h; cases h
  | some j => rw [e] at h; exact ⟨j, rfl, h⟩
theorem dp_atI {H : Hp} {vs : List V} {ds : List Dt} {i : Int} {d : Dt} (p : DpAll K H vs ds) (h : atI ds i = some d) : ∃ v, atI vs i = some v ∧ Dp K H v d := by
  obtain ⟨j, h1, h2⟩ := atI_get h
  obtain ⟨v, h3, h4⟩ := p.get h2
  refine ⟨v, ?_, h4⟩
  unfold atI
  rw [p.len, h1]
  exact h3
theorem rd_ix : RD K (rIx K) oIx := fun x y H Q dx dy Φ px py ho q => by
  cases dy with
  | int i =>
    cases py
    obtain ⟨hf, d, hd, hΦ⟩ := ho
    cases px with
    | lst hs ha =>
      obtain ⟨v, h1, h2⟩ := dp_atI ha hd
      exact .inl ⟨_, _, i, v, rfl, rfl, hs, h1, q v H d (Same.refl H) h2 hΦ⟩
    | tup hs ha =>
      obtain ⟨v, h1, h2⟩ := dp_atI ha hd
      exact .inr (.inl ⟨_, _, i, v, rfl, rfl, hs, h1, q v H d (Same.refl H) h2 hΦ⟩)
    | str z =>
      have hd' : (atI z.cps.toList i).map (fun c => PyData.str ⟨#[c]⟩) = some d := hd
      cases e : atI z.cps.toList i with
      | none => rw [e] at hd'; cases hd'
      | some c =>
        rw [e] at hd'
        have e2 : PyData.str ⟨#[c]⟩ = d := Option.some.inj hd'
        subst e2
        exact .inr (.inr ⟨z, i, c, rfl, rfl, hf, e, q _ H _ (Same.refl H) (.str _) hΦ⟩)
    | _ => cases hd
  | _ => exact False.elim ho
theorem g_ix {a b : Expr} {da db : DE} {pos : Pos} (ha : GE X a da) (hb : GE X b db) (hs : PlainIx b := by exact fun _ _ => rfl) : GE X (.Subscript a b pos) (dBin oIx da db) := by
  obtain ⟨ta, a1, a2⟩ := ha
  obtain ⟨tb, b1, b2⟩ := hb
  exact ⟨_, pe_ix ix_seq a1 b1 hs, se_op rd_ix a2 b2⟩
end
end L2.D3
set_option maxHeartbeats 4000000
namespace L2.D3
open PySem PySem.Spec PyProof.Rows
/-! ### slots -/
/-- an owned thing: its parts that may change are owned too -/
inductive Tr where
  | pu (d : Dt)
  | ls (ts : List Tr)
  | dk (ks : List Key) (ts : List Tr)
  | dt (ks : List (List Key)) (ts : List Tr)
mutual
def Tr.dat : Tr → Dt
  | .pu d => d
  | .ls ts => .list (Tr.dats ts)
  | .dk ks ts => dkD ks (Tr.dats ts)
  | .dt ks ts => dtD ks (Tr.dats ts)
def Tr.dats : List Tr → List Dt
  | [] => []
  | t :: ts => t.dat :: Tr.dats ts
end
mutual
inductive OwT (K : PySem.W.Frag) (F H : Hp) : V → Tr → List Addr → Prop
  | pu {v : V} {d : Dt} : Dp K F v d → OwT K F H v (.pu d) []
  | ls {a : Addr} {vs : List V} {ts : List Tr} {fp : List Addr} : H a = some (.lst vs) → F a = none → OwAll K F H vs ts fp → a ∉ fp → OwT K F H (.ref a) (.ls ts) (a :: fp)
  | dk {a : Addr} {ks : List Key} {vs : List V} {ts : List Tr} {fp : List Addr} : H a = some (.dK (List.zip ks vs)) → ks.length = vs.length → F a = none → OwAll K F H vs ts fp → a ∉ fp → OwT K F H (.ref a) (.dk ks ts) (a :: fp)
  | dt {a : Addr} {ks : List (List Key)} {vs : List V} {ts : List Tr} {fp : List Addr} : H a = some (.dT (List.zip ks vs)) → ks.length = vs.length → F a = none → OwAll K F H vs ts fp → a ∉ fp → OwT K F H (.ref a) (.dt ks ts) (a :: fp)
inductive OwAll (K : PySem.W.Frag) (F H : Hp) : List V → List Tr → List Addr → Prop
  | nil : OwAll K F H [] [] []
  | cons {v : V} {t : Tr} {f : List Addr} {vs : List V} {ts : List Tr} {fs : List Addr} : OwT K F H v t f → OwAll K F H vs ts fs → (∀ a ∈ f, a ∉ fs) → OwAll K F H (v :: vs) (t :: ts) (f ++ fs)
end
section
variable {K : PySem.W.Frag} {F F' H H' : Hp}
mutual
theorem owT_up (s : Same F F') {v : V} {t : Tr} {fp : List Addr} : OwT K F H v t fp → (∀ a ∈ fp, F' a = none) → (∀ a ∈ fp, H' a = H a) → OwT K F' H' v t fp
  | .pu h, _, _ => .pu (h.up s)
  | .ls h1 h2 h3 h4, n, k => .ls ((k _ List.mem_cons_self).trans h1) (n _ List.mem_cons_self) (owAll_up s h3 (fun a ha => n a (List.mem_cons_of_mem _ ha)) fun a ha => k a (List.mem_cons_of_mem _ ha)) h4
  | .dk h1 l h2 h3 h4, n, k => .dk ((k _ List.mem_cons_self).trans h1) l (n _ List.mem_cons_self) (owAll_up s h3 (fun a ha => n a (List.mem_cons_of_mem _ ha)) fun a ha => k a (List.mem_cons_of_mem _ ha)) h4
  | .dt h1 l h2 h3 h4, n, k => .dt ((k _ List.mem_cons_self).trans h1) l (n _ List.mem_cons_self) (owAll_up s h3 (fun a ha => n a (List.mem_cons_of_mem _ ha)) fun a ha => k a (List.mem_cons_of_mem _ ha)) h4
theorem owAll_up (s : Same F F') {vs : List V} {ts : List Tr} {fp : List Addr} : OwAll K F H vs ts fp → (∀ a ∈ fp, F' a = none) → (∀ a ∈ fp, H' a = H a) → OwAll K F' H' vs ts fp
  | .nil, _, _ => .nil
  | .cons h1 h2 d, n, k => .cons (owT_up s h1 (fun a ha => n a (List.mem_append_left _ ha)) fun a ha => k a (List.mem_append_left _ ha)) (owAll_up s h2 (fun a ha => n a (List.mem_append_right _ ha)) fun a ha => k a (List.mem_append_right _ ha)) d
end
mutual
theorem owT_mut {v : V} {t : Tr} {fp : List Addr} : OwT K F H v t fp → ∀ a ∈ fp, (∃ o, H a = some o ∧ isMut o = true) ∧ F a = none
  | .pu h, a, ha => by cases ha
  | .ls h1 h2 h3 h4, a, ha => by
    rcases List.mem_cons.mp ha with rfl | ha
    · exact ⟨⟨_, h1, rfl⟩, h2⟩
    · exact owAll_mut h3 a ha
  | .dk h1 l h2 h3 h4, a, ha => by
    rcases List.mem_cons.mp ha with rfl | ha
    · exact ⟨⟨_, h1, rfl⟩, h2⟩
    · exact owAll_mut h3 a ha
  | .dt h1 l h2 h3 h4, a, ha => by
    rcases List.mem_cons.mp ha with rfl | ha
    · exact ⟨⟨_, h1, rfl⟩, h2⟩
    · exact owAll_mut h3 a ha
theorem owAll_mut {vs : List V} {ts : List Tr} {fp : List Addr} : OwAll K F H vs ts fp → ∀ a ∈ fp, (∃ o, H a = some o ∧ isMut o = true) ∧ F a = none
  | .nil, a, ha => by cases ha
  | .cons h1 h2 d, a, ha => by
    rcases List.mem_append.mp ha with ha | ha
    · exact owT_mut h1 a ha
    · exact owAll_mut h2 a ha
end
mutual
/-- read as a datum, in a heap that holds it -/
theorem owT_dp (s : Same F F') {v : V} {t : Tr} {fp : List Addr} : OwT K F H v t fp → (∀ a ∈ fp, F' a = H a) → Dp K F' v t.dat
  | .pu h, _ => h.up s
  | .ls h1 h2 h3 h4, k => .lst (SqL.of ((k _ List.mem_cons_self).trans h1)) (owAll_dp s h3 fun a ha => k a (List.mem_cons_of_mem _ ha))
  | .dk h1 l h2 h3 h4, k => .dk ((k _ List.mem_cons_self).trans h1) l (owAll_dp s h3 fun a ha => k a (List.mem_cons_of_mem _ ha)) rfl
  | .dt h1 l h2 h3 h4, k => .dt ((k _ List.mem_cons_self).trans h1) l (owAll_dp s h3 fun a ha => k a (List.mem_cons_of_mem _ ha)) rfl
theorem owAll_dp (s : Same F F') {vs : List V} {ts : List Tr} {fp : List Addr} : OwAll K F H vs ts fp → (∀ a ∈ fp, F' a = H a) → DpAll K F' vs (Tr.dats ts)
  | .nil, _ => .nil
  | .cons h1 h2 d, k => .cons (owT_dp s h1 fun a ha => k a (List.mem_append_left _ ha)) (owAll_dp s h2 fun a ha => k a (List.mem_append_right _ ha))
end
end
section
variable {K K' : PySem.W.Frag} {F F' H H' : Hp}
theorem zip_snd {α : Type} : ∀ {ks ks' : List α} {vs vs' : List V}, ks.length = vs.length → ks'.length = vs'.length → List.zip ks vs = List.zip ks' vs' → vs = vs'
  | [], [], [], [], _, _, _ => rfl
  | [], k :: ks, [], v :: vs, _, _, h => by cases h
  | k :: ks, [], v :: vs, [], _, _, h => by cases h
  | k :: ks, k' :: ks', v :: vs, v' :: vs', l, l', h => by
    simp only [List.zip_cons_cons, List.cons.injEq, Prod.mk.injEq] at h
    rw [h.1.2, zip_snd (ks := ks) (ks' := ks') (by simpa using l) (by simpa using l') h.2]
mutual
theorem owT_fp {v : V} {t : Tr} {fp fp' : List Addr} : OwT K F H v t fp → OwT K' F' H' v t fp' → (∀ b o o', H b = some o → H' b = some o' → o = o') → fp = fp'
  | .pu _, g, _ => by cases g; rfl
  | .ls h1 _ h3 _, g, k => by
    cases g with
    | ls g1 _ g3 _ =>
      have e := k _ _ _ h1 g1
      cases e
      rw [owAll_fp h3 g3 k]
  | .dk h1 l _ h3 _, g, k => by
    cases g with
    | dk g1 l' _ g3 _ =>
      have e := k _ _ _ h1 g1
      have e2 := zip_snd l l' (HO.dK.inj e)
      subst e2
      rw [owAll_fp h3 g3 k]
  | .dt h1 l _ h3 _, g, k => by
    cases g with
    | dt g1 l' _ g3 _ =>
      have e := k _ _ _ h1 g1
      have e2 := zip_snd l l' (HO.dT.inj e)
      subst e2
      rw [owAll_fp h3 g3 k]
theorem owAll_fp {vs : List V} {ts : List Tr} {fp fp' : List Addr} : OwAll K F H vs ts fp → OwAll K' F' H' vs ts fp' → (∀ b o o', H b = some o → H' b = some o' → o = o') → fp = fp'
  | .nil, g, _ => by cases g; rfl
  | .cons h1 h2 _, g, k => by
    cases g with
    | cons g1 g2 _ => rw [owT_fp h1 g1 k, owAll_fp h2 g2 k]
end
end
inductive Slot where
  | un
  | pu (d : Dt)
  | ow (ds : List Dt)
  | an (A : Ass)
  | tr (t : Tr)
def Slot.dat : Slot → Dt
  | .pu d => d
  | .ow ds => .list ds
  | .tr t => t.dat
  | _ => .none
abbrev Rho := List Slot
def getS : Rho → Nat → Slot
  | [], _ => .un
  | a :: _, 0 => a
  | _ :: r, n + 1 => getS r n
def setS : Rho → Nat → Slot → Rho
  | [], _, _ => []
  | _ :: r, 0, d => d :: r
  | a :: r, n + 1, d => a :: setS r n d
theorem getS_setS_ne : ∀ {ρ : Rho} {i j : Nat} {d : Slot}, j ≠ i → getS (setS ρ i d) j = getS ρ j
  | [], i, j, d, h => rfl
  | a :: r, 0, 0, d, h => absurd rfl h
  | a :: r, 0, j + 1, d, h => rfl
  | a :: r, i + 1, 0, d, h => rfl
  | a :: r, i + 1, j + 1, d, h => getS_setS_ne (ρ := r) (fun z => h (by rw [z]))
theorem getS_setS_eq : ∀ {ρ : Rho} {i : Nat} {d : Slot}, i < ρ.length → getS (setS ρ i d) i = d
  | [], i, d, h => absurd h (Nat.not_lt_zero _)
  | a :: r, 0, d, h => rfl
  | a :: r, i + 1, d, h => getS_setS_eq (ρ := r) (Nat.lt_of_succ_lt_succ h)
theorem setS_len : ∀ {ρ : Rho} {i : Nat} {d : Slot}, (setS ρ i d).length = ρ.length
  | [], i, d => rfl
  | a :: r, 0, d => rfl
  | a :: r, i + 1, d => congrArg Nat.succ (setS_len (ρ := r))
theorem setS_out : ∀ {ρ : Rho} {i : Nat} {d : Slot}, ρ.length ≤ i → setS ρ i d = ρ
  | [], i, d, h => rfl
  | a :: r, 0, d, h => absurd h (by simp)
  | a :: r, i + 1, d, h => by
    show a :: setS r i d = a :: r
    rw [setS_out (ρ := r) (by simpa using h)]
theorem getS_out : ∀ {ρ : Rho} {i : Nat}, ρ.length ≤ i → getS ρ i = .un
  | [], i, h => rfl
  | a :: r, 0, h => absurd h (by simp)
  | a :: r, i + 1, h => getS_out (ρ := r) (by simpa using h)
def purF : Rho → Fro
  | [] => []
  | .pu d :: r => .da d :: purF r
  | .an A :: r => .an A :: purF r
  | _ :: r => .no :: purF r
def allF : Rho → Fro
  | [] => []
  | .pu d :: r => .da d :: allF r
  | .ow ds :: r => .da (.list ds) :: allF r
  | .an A :: r => .an A :: allF r
  | .tr t :: r => .da t.dat :: allF r
  | _ :: r => .no :: allF r
theorem getF_pur : ∀ {ρ : Rho} {i : Nat} {d : Dt}, getF (purF ρ) i = some d → getS ρ i = .pu d
  | [], i, d, h => by cases h
  | a :: r, 0, d, h => by
    cases a with
    | pu e => have h' : some e = some d := h; cases h'; rfl
    | _ => cases h
  | a :: r, i + 1, d, h => by
    cases a <;> exact getF_pur (ρ := r) (i := i) h
theorem getF_all : ∀ {ρ : Rho} {i : Nat} {d : Dt}, getF (allF ρ) i = some d → getS ρ i = .pu d ∨ (∃ ds, getS ρ i = .ow ds ∧ d = .list ds) ∨ ∃ t, getS ρ i = .tr t ∧ d = t.dat
  | [], i, d, h => by cases h
  | a :: r, 0, d, h => by
    cases a with
    | pu e => have h' : some e = some d := h; cases h'; exact .inl rfl
    | ow ds => have h' : some (PyData.list ds) = some d := h; cases h'; exact .inr (.inl ⟨ds, rfl, rfl⟩)
    | tr t => have h' : some t.dat = some d := h; cases h'; exact .inr (.inr ⟨t, rfl, rfl⟩)
    | _ => cases h
  | a :: r, i + 1, d, h => by
    cases a <;> exact getF_all (ρ := r) (i := i) h
theorem getA_pur : ∀ {ρ : Rho} {i : Nat} {A : Ass}, getA (purF ρ) i = some A → getS ρ i = .an A
  | [], i, A, h => by cases h
  | a :: r, 0, A, h => by
    cases a with
    | an B => have h' : some B = some A := h; cases h'; rfl
    | _ => cases h
  | a :: r, i + 1, A, h => by
    cases a <;> exact getA_pur (ρ := r) (i := i) h
theorem getA_all : ∀ {ρ : Rho} {i : Nat} {A : Ass}, getA (allF ρ) i = some A → getS ρ i = .an A
  | [], i, A, h => by cases h
  | a :: r, 0, A, h => by
    cases a with
    | an B => have h' : some B = some A := h; cases h'; rfl
    | _ => cases h
  | a :: r, i + 1, A, h => by
    cases a <;> exact getA_all (ρ := r) (i := i) h
/-- owned things, each with its own objects -/
def SepT (K : PySem.W.Frag) (F : Hp) (σ : St) (H : Hp) (ρ : Rho) : Prop := ∃ fp : Nat → List Addr, (∀ i t, getS ρ i = .tr t → ∃ v, σ[i]? = some (some v) ∧ OwT K F H v t (fp i)) ∧
  (∀ i j t u a, i ≠ j → getS ρ i = .tr t → getS ρ j = .tr u → a ∈ fp i → a ∉ fp j) ∧ ∀ i j t ds a, getS ρ i = .tr t → getS ρ j = .ow ds → a ∈ fp i → σ[j]? ≠ some (some (.ref a))
theorem sep_no {K : PySem.W.Frag} {F H : Hp} {σ : St} {ρ : Rho} (h : ∀ i t, getS ρ i ≠ .tr t) : SepT K F σ H ρ := ⟨fun _ => [], fun i t q => absurd q (h i t), fun i j t u a _ q => absurd q (h i t), fun i j t ds a q => absurd q (h i t)⟩
theorem sep_up {K : PySem.W.Frag} {F F' H H' : Hp} {σ : St} {ρ : Rho} (z : SepT K F σ H ρ) (s : Same F F') (n : ∀ i t a v fp, getS ρ i = .tr t → σ[i]? = some (some v) → OwT K F H v t fp → a ∈ fp → F' a = none ∧ H' a = H a) : SepT K F' σ H' ρ := by
  obtain ⟨fp, h1, h2, h3⟩ := z
  refine ⟨fp, fun i t q => ?_, h2, h3⟩
  obtain ⟨v, e, o⟩ := h1 i t q
  exact ⟨v, e, owT_up s o (fun a ha => (n i t a v _ q e o ha).1) fun a ha => (n i t a v _ q e o ha).2⟩
theorem sep_upA {K : PySem.W.Frag} {F F' H H' : Hp} {σ : St} {ρ : Rho} (z : SepT K F σ H ρ) (s : Same F F') (n : ∀ a o, H a = some o → F a = none → F' a = none ∧ H' a = some o) : SepT K F' σ H' ρ := sep_up z s fun i t a v fp q e o ha => by
  obtain ⟨⟨ob, h1, _⟩, h2⟩ := owT_mut o a ha
  obtain ⟨k1, k2⟩ := n a ob h1 h2
  exact ⟨k1, k2.trans h1.symm⟩
structure EnvO (K : PySem.W.Frag) (F : Hp) (σ : St) (H : Hp) (ρ : Rho) : Prop where
  fz : Fz F H
  len : ρ.length = σ.length
  pu : ∀ i d, getS ρ i = .pu d → ∃ v, σ[i]? = some (some v) ∧ Dp K F v d
  an : ∀ i A, getS ρ i = .an A → ∃ v, σ[i]? = some (some v) ∧ A.p K F v
  ow : ∀ i ds, getS ρ i = .ow ds → ∃ a vs, σ[i]? = some (some (.ref a)) ∧ H a = some (.lst vs) ∧ F a = none ∧ DpAll K F vs ds
  ne : ∀ i j ds es a, i ≠ j → getS ρ i = .ow ds → getS ρ j = .ow es → σ[i]? = some (some (.ref a)) → σ[j]? ≠ some (some (.ref a))
  sep : SepT K F σ H ρ
section
variable {K : PySem.W.Frag} {F F' H H' : Hp} {σ : St} {ρ : Rho}
theorem purF_len : ∀ {ρ : Rho}, (purF ρ).length = ρ.length
  | [] => rfl
  | a :: r => by cases a <;> exact congrArg Nat.succ (purF_len (ρ := r))
theorem allF_len : ∀ {ρ : Rho}, (allF ρ).length = ρ.length
  | [] => rfl
  | a :: r => by cases a <;> exact congrArg Nat.succ (allF_len (ρ := r))
theorem EnvO.pur (e : EnvO K F σ H ρ) : EnvF K σ F (purF ρ) := ⟨by rw [purF_len, e.len]; exact Nat.le_refl _, fun i d h => e.pu i d (getF_pur h), fun i A h => e.an i A (getA_pur h)⟩
theorem EnvO.all (e : EnvO K F σ H ρ) : EnvF K σ H (allF ρ) := ⟨by rw [allF_len, e.len]; exact Nat.le_refl _, fun i d h => by
  rcases getF_all h with g | ⟨ds, g, rfl⟩ | ⟨t, g, rfl⟩
  · obtain ⟨v, a, b⟩ := e.pu i d g
    exact ⟨v, a, b.up e.fz.same⟩
  · obtain ⟨a, vs, h1, h2, h3, h4⟩ := e.ow i ds g
    exact ⟨_, h1, .lst (SqL.of h2) (h4.up e.fz.same)⟩
  · obtain ⟨fp, h1, _, _⟩ := e.sep
    obtain ⟨v, q, o⟩ := h1 i t g
    exact ⟨v, q, owT_dp e.fz.same o fun _ _ => rfl⟩, fun i A h => by
  obtain ⟨v, a, b⟩ := e.an i A (getA_all h)
  exact ⟨v, a, A.up _ _ _ _ e.fz.same b⟩⟩
/-- a framed expression has run -/
theorem EnvO.grow (e : EnvO K F σ H ρ) (s : Same F F') (dj : ∀ a o, H a = some o → F a = none → F' a = none) : EnvO K F' σ (glue F' H) ρ := by
  refine ⟨⟨fun b o q => glue_some q, fun a o q => ?_⟩, e.len, fun i d h => ?_, fun i A h => ?_, fun i ds h => ?_, e.ne, sep_upA e.sep s fun a o h1 h2 => ⟨dj a o h1 h2, by rw [glue_none (dj a o h1 h2)]; exact h1⟩⟩
  · cases f : F' a with
    | some u => rw [glue_some f] at q; exact .inl q
    | none =>
      rw [glue_none f] at q
      rcases e.fz.drop a o q with z | ⟨_, z⟩
      · rw [s a o z] at f; cases f
      · exact .inr ⟨rfl, z⟩
  · obtain ⟨v, a, b⟩ := e.pu i d h
    exact ⟨v, a, b.up s⟩
  · obtain ⟨v, a, b⟩ := e.an i A h
    exact ⟨v, a, A.up _ _ _ _ s b⟩
  · obtain ⟨a, vs, h1, h2, h3, h4⟩ := e.ow i ds h
    have f := dj a _ h2 h3
    exact ⟨a, vs, h1, by rw [glue_none f]; exact h2, f, h4.up s⟩
/-- an expression over all has run -/
theorem EnvO.after (e : EnvO K F σ H ρ) (s : Same H H') : ∃ F', Same F F' ∧ EnvO K F' σ H' ρ := by
  classical
  refine ⟨fun a => if (∃ o, H a = some o) ∧ F a = none then none else H' a, fun b o q => ?_, ⟨⟨fun b o q => ?_, fun a o q => ?_⟩, e.len, fun i d h => ?_, fun i A h => ?_, fun i ds h => ?_, e.ne, ?_⟩⟩
  · show (if (∃ o, H b = some o) ∧ F b = none then none else H' b) = some o
    rw [if_neg (fun z => by rw [z.2] at q; cases q)]
    exact s b o (e.fz.same b o q)
  · by_cases c : (∃ o, H b = some o) ∧ F b = none
    · rw [if_pos c] at q; cases q
    · rw [if_neg c] at q; exact q
  · by_cases c : (∃ o, H a = some o) ∧ F a = none
    · refine .inr ⟨if_pos c, ?_⟩
      obtain ⟨⟨u, hu⟩, hf⟩ := c
      have z := s a u hu
      rw [q] at z
      cases z
      rcases e.fz.drop a _ hu with y | ⟨_, y⟩
      · rw [hf] at y; cases y
      · exact y
    · exact .inl (by rw [if_neg c]; exact q)
  all_goals
    have sm : Same F (fun a => if (∃ o, H a = some o) ∧ F a = none then none else H' a) := fun b o q => by
      show (if (∃ o, H b = some o) ∧ F b = none then none else H' b) = some o
      rw [if_neg (fun z => by rw [z.2] at q; cases q)]
      exact s b o (e.fz.same b o q)
  · obtain ⟨v, a, b⟩ := e.pu i d h
    exact ⟨v, a, b.up sm⟩
  · obtain ⟨v, a, b⟩ := e.an i A h
    exact ⟨v, a, A.up _ _ _ _ sm b⟩
  · obtain ⟨a, vs, h1, h2, h3, h4⟩ := e.ow i ds h
    exact ⟨a, vs, h1, s a _ h2, if_pos ⟨⟨_, h2⟩, h3⟩, h4.up sm⟩
  · exact sep_upA e.sep sm fun a o h1 h2 => ⟨if_pos ⟨⟨o, h1⟩, h2⟩, s a o h1⟩
theorem σset_ne {i j : Nat} {x : Option V} (h : j ≠ i) : (σ.set i x)[j]? = σ[j]? := List.getElem?_set_ne (Ne.symm h)
/-- a slot gets another thing that is no owned one -/
theorem EnvO.put (e : EnvO K F σ H ρ) (i : Nat) {x : Option V} {s : Slot} (hp : ∀ d, s = .pu d → ∃ v, x = some v ∧ Dp K F v d) (ha : ∀ A, s = .an A → ∃ v, x = some v ∧ A.p K F v)
    (ho : ∀ ds, s ≠ .ow ds) (ht : ∀ t, s ≠ .tr t) : EnvO K F (σ.set i x) H (setS ρ i s) := by
  by_cases hi : i < ρ.length
  · have hi2 : i < σ.length := by rw [← e.len]; exact hi
    have gi : getS (setS ρ i s) i = s := getS_setS_eq hi
    have si : (σ.set i x)[i]? = some x := List.getElem?_set_self hi2
    have nw : ∀ {j : Nat} {ds : List Dt}, getS (setS ρ i s) j = .ow ds → j ≠ i ∧ getS ρ j = .ow ds := fun {j ds} h => by
      by_cases c : j = i
      · subst c; rw [gi] at h; exact absurd h (ho ds)
      · rw [getS_setS_ne c] at h; exact ⟨c, h⟩
    have nt : ∀ {j : Nat} {t : Tr}, getS (setS ρ i s) j = .tr t → j ≠ i ∧ getS ρ j = .tr t := fun {j t} h => by
      by_cases c : j = i
      · subst c; rw [gi] at h; exact absurd h (ht t)
      · rw [getS_setS_ne c] at h; exact ⟨c, h⟩
    refine ⟨e.fz, by rw [setS_len, List.length_set]; exact e.len, fun j d h => ?_, fun j A h => ?_, fun j ds h => ?_, fun j k ds es a hjk h1 h2 h3 => ?_, ?_⟩
    · by_cases c : j = i
      · subst c
        rw [gi] at h
        obtain ⟨v, rfl, q⟩ := hp d h
        exact ⟨v, si, q⟩
      · rw [getS_setS_ne c] at h
        rw [σset_ne c]
        exact e.pu j d h
    · by_cases c : j = i
      · subst c
        rw [gi] at h
        obtain ⟨v, rfl, q⟩ := ha A h
        exact ⟨v, si, q⟩
      · rw [getS_setS_ne c] at h
        rw [σset_ne c]
        exact e.an j A h
    · obtain ⟨c, g⟩ := nw h
      rw [σset_ne c]
      exact e.ow j ds g
    · obtain ⟨c1, g1⟩ := nw h1
      obtain ⟨c2, g2⟩ := nw h2
      rw [σset_ne c1] at h3
      rw [σset_ne c2]
      exact e.ne j k ds es a hjk g1 g2 h3
    · obtain ⟨fp, z1, z2, z3⟩ := e.sep
      refine ⟨fp, fun j t h => ?_, fun j k t u a hjk h1 h2 => ?_, fun j k t ds a h1 h2 h3 => ?_⟩
      · obtain ⟨c, g⟩ := nt h
        rw [σset_ne c]
        exact z1 j t g
      · exact z2 j k t u a hjk (nt h1).2 (nt h2).2
      · obtain ⟨c2, g2⟩ := nw h2
        rw [σset_ne c2]
        exact z3 j k t ds a (nt h1).2 g2 h3
  · have h1 : ρ.length ≤ i := Nat.le_of_not_lt hi
    rw [setS_out h1, List.set_eq_of_length_le (by rw [← e.len]; exact h1)]
    exact e
theorem EnvO.putP (e : EnvO K F σ H ρ) (i : Nat) {v : V} {d : Dt} (h : Dp K F v d) : EnvO K F (σ.set i (some v)) H (setS ρ i (.pu d)) :=
  e.put i (fun d' q => by cases q; exact ⟨v, rfl, h⟩) (fun A q => nomatch q) (fun ds q => nomatch q) (fun t q => nomatch q)
theorem EnvO.putA (e : EnvO K F σ H ρ) (i : Nat) {v : V} {A : Ass} (h : A.p K F v) : EnvO K F (σ.set i (some v)) H (setS ρ i (.an A)) :=
  e.put i (fun d' q => nomatch q) (fun A' q => by cases q; exact ⟨v, rfl, h⟩) (fun ds q => nomatch q) (fun t q => nomatch q)
theorem EnvO.putU (e : EnvO K F σ H ρ) (i : Nat) {x : Option V} : EnvO K F (σ.set i x) H (setS ρ i .un) :=
  e.put i (fun d' q => nomatch q) (fun A q => nomatch q) (fun ds q => nomatch q) (fun t q => nomatch q)
theorem setS_setS : ∀ {ρ : Rho} {i : Nat} {s t : Slot}, setS (setS ρ i s) i t = setS ρ i t
  | [], i, s, t => rfl
  | a :: r, 0, s, t => rfl
  | a :: r, i + 1, s, t => congrArg (a :: ·) (setS_setS (ρ := r))
/-- a slot that holds nothing gets an owned list -/
theorem EnvO.setO (e : EnvO K F σ H ρ) (i : Nat) (hu : getS ρ i = .un) {a : Addr} {vs : List V} {ds : List Dt} (h2 : H a = some (.lst vs)) (fn : F a = none) (hd : DpAll K F vs ds)
    (n1 : ∀ j es, getS ρ j = .ow es → σ[j]? ≠ some (some (.ref a))) (n2 : ∀ j t v fp, getS ρ j = .tr t → σ[j]? = some (some v) → OwT K F H v t fp → a ∉ fp) : EnvO K F (σ.set i (some (.ref a))) H (setS ρ i (.ow ds)) := by
  by_cases hi : i < ρ.length
  · have hi2 : i < σ.length := by rw [← e.len]; exact hi
    have gi : getS (setS ρ i (.ow ds)) i = .ow ds := getS_setS_eq hi
    have si : (σ.set i (some (.ref a)))[i]? = some (some (.ref a)) := List.getElem?_set_self hi2
    have ne_ : ∀ {j : Nat} {s : Slot}, (∀ es, s ≠ .ow es) → getS (setS ρ i (.ow ds)) j = s → j ≠ i ∧ getS ρ j = s := fun {j s} hs h => by
      by_cases c : j = i
      · subst c; rw [gi] at h; exact absurd h.symm (hs ds)
      · rw [getS_setS_ne c] at h; exact ⟨c, h⟩
    refine ⟨e.fz, by rw [setS_len, List.length_set]; exact e.len, fun j d h => ?_, fun j A h => ?_, fun j es h => ?_, fun j k ds1 es1 b hjk h1 h2' h3 => ?_, ?_⟩
    · obtain ⟨c, g⟩ := ne_ (by intro _ z; cases z) h
      rw [σset_ne c]; exact e.pu j d g
    · obtain ⟨c, g⟩ := ne_ (by intro _ z; cases z) h
      rw [σset_ne c]; exact e.an j A g
    · by_cases c : j = i
      · subst c
        rw [gi] at h
        cases h
        exact ⟨a, vs, si, h2, fn, hd⟩
      · rw [getS_setS_ne c] at h
        rw [σset_ne c]
        exact e.ow j es h
    · by_cases cj : j = i
      · subst cj
        have ck : k ≠ j := fun z => hjk z.symm
        rw [getS_setS_ne ck] at h2'
        rw [si] at h3
        have h3' : V.ref a = V.ref b := Option.some.inj (Option.some.inj h3)
        cases h3'
        rw [σset_ne ck]
        exact n1 k es1 h2'
      · rw [getS_setS_ne cj] at h1
        rw [σset_ne cj] at h3
        by_cases ck : k = i
        · subst ck
          rw [si]
          intro z
          have z' : V.ref a = V.ref b := Option.some.inj (Option.some.inj z)
          cases z'
          exact n1 j ds1 h1 h3
        · rw [getS_setS_ne ck] at h2'
          rw [σset_ne ck]
          exact e.ne j k ds1 es1 b hjk h1 h2' h3
    · obtain ⟨fp, z1, z2, z3⟩ := e.sep
      refine ⟨fp, fun j t h => ?_, fun j k t u b hjk h1 h2' => ?_, fun j k t es b h1 h2' h3 => ?_⟩
      · obtain ⟨c, g⟩ := ne_ (by intro _ z; cases z) h
        rw [σset_ne c]
        exact z1 j t g
      · exact z2 j k t u b hjk (ne_ (by intro _ z; cases z) h1).2 (ne_ (by intro _ z; cases z) h2').2
      · obtain ⟨c1, g1⟩ := ne_ (by intro _ z; cases z) h1
        by_cases ck : k = i
        · subst ck
          rw [si]
          intro z
          have z' : V.ref a = V.ref b := Option.some.inj (Option.some.inj z)
          cases z'
          obtain ⟨v, q1, q2⟩ := z1 j t g1
          exact n2 j t v _ g1 q1 q2 h3
        · rw [getS_setS_ne ck] at h2'
          rw [σset_ne ck]
          exact z3 j k t es b g1 h2' h3
  · have h1 : ρ.length ≤ i := Nat.le_of_not_lt hi
    rw [setS_out h1, List.set_eq_of_length_le (by rw [← e.len]; exact h1)]
    exact e
/-- a new object that nobody knows -/
theorem EnvO.fresh (e : EnvO K F σ H ρ) {a : Addr} {o : HO} (hn : H a = none) (hm : isMut o = true) : F a = none ∧ EnvO K F σ (upd H a o) ρ := by
  have fn : F a = none := by
    cases q : F a with
    | none => rfl
    | some u => rw [e.fz.same a u q] at hn; cases hn
  refine ⟨fn, ⟨fun b u q => ?_, fun b u q => ?_⟩, e.len, e.pu, e.an, fun j es h => ?_, e.ne, sep_upA e.sep (Same.refl F) fun b u h1 h2 => ⟨h2, by rw [upd_ne (ne_of_none h1 hn)]; exact h1⟩⟩
  · rw [upd_ne (fun z => by rw [z, fn] at q; cases q)]
    exact e.fz.same b u q
  · by_cases c : b = a
    · rw [c, upd_same] at q
      cases q
      exact .inr ⟨by rw [c]; exact fn, hm⟩
    · rw [upd_ne c] at q
      exact e.fz.drop b u q
  · obtain ⟨b, us, h1, h2, h3, h4⟩ := e.ow j es h
    exact ⟨b, us, h1, by rw [upd_ne (ne_of_none h2 hn)]; exact h2, h3, h4⟩
/-- a new list -/
theorem EnvO.putO (e : EnvO K F σ H ρ) (i : Nat) {a : Addr} {vs : List V} {ds : List Dt} (hn : H a = none) (hd : DpAll K F vs ds) : EnvO K F (σ.set i (some (.ref a))) (upd H a (.lst vs)) (setS ρ i (.ow ds)) := by
  obtain ⟨fn, e1⟩ := e.fresh (o := .lst vs) hn rfl
  have e2 := e1.putU i (x := some (.ref a))
  have hu : getS (setS ρ i .un) i = .un := by
    by_cases c : i < ρ.length
    · exact getS_setS_eq c
    · rw [setS_out (Nat.le_of_not_lt c)]; exact getS_out (Nat.le_of_not_lt c)
  have old : ∀ j, getS (setS ρ i .un) j ≠ .un → j ≠ i ∧ getS ρ j = getS (setS ρ i .un) j := fun j h => by
    by_cases c : j = i
    · subst c; exact absurd hu h
    · exact ⟨c, (getS_setS_ne c).symm⟩
  have e3 := e2.setO i hu (a := a) (vs := vs) (ds := ds) upd_same fn hd (fun j es h z => by
    obtain ⟨c, g⟩ := old j (by rw [h]; intro z; cases z)
    rw [h] at g
    rw [σset_ne c] at z
    obtain ⟨b, us, h1, h2, _⟩ := e.ow j es g
    rw [z] at h1
    have h1' : V.ref a = V.ref b := Option.some.inj (Option.some.inj h1)
    cases h1'
    rw [hn] at h2
    cases h2) (fun j t v fp h z o ha => by
    obtain ⟨c, g⟩ := old j (by rw [h]; intro z; cases z)
    rw [h] at g
    obtain ⟨fp', z1, _, _⟩ := e.sep
    rw [σset_ne c] at z
    obtain ⟨v', q1, q2⟩ := z1 j t g
    rw [z] at q1
    cases q1
    have := owT_fp o q2 (fun b x y w1 w2 => by
      by_cases cb : b = a
      · rw [cb, hn] at w2; cases w2
      · rw [upd_ne cb] at w1; rw [w1] at w2; exact Option.some.inj w2)
    rw [this] at ha
    obtain ⟨⟨ob, k1, _⟩, _⟩ := owT_mut q2 a ha
    rw [hn] at k1
    cases k1)
  rw [List.set_set, setS_setS] at e3
  exact e3
/-- an owned list changes -/
theorem EnvO.mut (e : EnvO K F σ H ρ) (i : Nat) {a : Addr} {vs : List V} {ds ds' : List Dt} (h : getS ρ i = .ow ds) (hs : σ[i]? = some (some (.ref a))) (hd : DpAll K F vs ds') : EnvO K F σ (upd H a (.lst vs)) (setS ρ i (.ow ds')) := by
  obtain ⟨b, us, h1, h2, h3, h4⟩ := e.ow i ds h
  rw [hs] at h1
  cases h1
  have hi : i < ρ.length := by
    by_cases c : i < ρ.length
    · exact c
    · rw [getS_out (Nat.le_of_not_lt c)] at h; cases h
  refine ⟨⟨fun b o q => ?_, fun b o q => ?_⟩, by rw [setS_len]; exact e.len, fun j d q => ?_, fun j A q => ?_, fun j es q => ?_, fun j k ds1 es1 a1 hjk q1 q2 q3 => ?_, ?_⟩
  · rw [upd_ne (fun z => by rw [z, h3] at q; cases q)]
    exact e.fz.same b o q
  · by_cases c : b = a
    · rw [c, upd_same] at q
      cases q
      exact .inr ⟨by rw [c]; exact h3, rfl⟩
    · rw [upd_ne c] at q
      exact e.fz.drop b o q
  · have c : j ≠ i := fun z => by rw [z, getS_setS_eq hi] at q; cases q
    rw [getS_setS_ne c] at q
    exact e.pu j d q
  · have c : j ≠ i := fun z => by rw [z, getS_setS_eq hi] at q; cases q
    rw [getS_setS_ne c] at q
    exact e.an j A q
  · by_cases c : j = i
    · subst c
      rw [getS_setS_eq hi] at q
      cases q
      exact ⟨a, vs, hs, upd_same, h3, hd⟩
    · rw [getS_setS_ne c] at q
      obtain ⟨b, us', g1, g2, g3, g4⟩ := e.ow j es q
      have nb : b ≠ a := fun z => by
        rw [z] at g1
        exact e.ne i j ds es a (fun y => c y.symm) h q hs g1
      exact ⟨b, us', g1, by rw [upd_ne nb]; exact g2, g3, g4⟩
  · have old : ∀ {n : Nat} {xs : List Dt}, getS (setS ρ i (.ow ds')) n = .ow xs → ∃ ys, getS ρ n = .ow ys := fun {n xs} z => by
      by_cases c : n = i
      · subst c; exact ⟨ds, h⟩
      · rw [getS_setS_ne c] at z; exact ⟨xs, z⟩
    obtain ⟨y1, z1⟩ := old q1
    obtain ⟨y2, z2⟩ := old q2
    exact e.ne j k y1 y2 a1 hjk z1 z2 q3
  · obtain ⟨fp, z1, z2, z3⟩ := e.sep
    have nt : ∀ {j : Nat} {t : Tr}, getS (setS ρ i (.ow ds')) j = .tr t → getS ρ j = .tr t := fun {j t} q => by
      have c : j ≠ i := fun z => by rw [z, getS_setS_eq hi] at q; cases q
      rw [getS_setS_ne c] at q
      exact q
    refine ⟨fp, fun j t q => ?_, fun j k t u b hjk q1 q2 => z2 j k t u b hjk (nt q1) (nt q2), fun j k t es b q1 q2 q3 => ?_⟩
    · obtain ⟨v, k1, k2⟩ := z1 j t (nt q)
      refine ⟨v, k1, owT_up (Same.refl F) k2 (fun b hb => (owT_mut k2 b hb).2) fun b hb => upd_ne fun z => ?_⟩
      subst z
      exact z3 j i t ds b (nt q) h hb hs
    · by_cases c : k = i
      · subst c
        exact z3 j k t ds b (nt q1) h q3
      · rw [getS_setS_ne c] at q2
        exact z3 j k t es b (nt q1) q2 q3
end
end L2.D3
set_option maxHeartbeats 4000000
namespace L2.D3
open PySem PySem.Spec PyProof.Rows
/-! ### what a def promises, over data -/
/-- an exception: its class, the fields of its own -/
structure XD where
  cls : Str
  fs : List (Str × Dt)
def XAt (K : PySem.W.Frag) (H : Hp) (x : XD) (d : Option Addr) : Prop := match x.fs with
  | [] => d = none
  | fs => ∃ a vs, d = some a ∧ H a = some (.xd ((fs.map (·.1)).zip vs)) ∧ DpAll K H vs (fs.map (·.2))
abbrev DSp := List Dt → (Slot → Prop) → (XD → Prop) → Prop
structure RetOk (K : PySem.W.Frag) (H : Hp) (Φ : Slot → Prop) (Q : VK) : Prop where
  pu : ∀ v d H', Same H H' → Dp K H' v d → Φ (.pu d) → Q v H'
  ow : ∀ a vs ds H', Same H H' → H' a = none → DpAll K H' vs ds → Φ (.ow ds) → Q (.ref a) (upd H' a (.lst vs))
def RaiOk (K : PySem.W.Frag) (H : Hp) (Ξ : XD → Prop) (E : XK) : Prop := ∀ x d H', Same H H' → XAt K H' x d → Ξ x → E (.ref (He.ga K x.cls)) d H'
def lift (K : PySem.W.Frag) (dsp : DSp) : Sp := fun vs H Q E => ∃ ds Φ Ξ, DpAll K H vs ds ∧ dsp ds Φ Ξ ∧ RetOk K H Φ Q ∧ RaiOk K H Ξ E
/-- the module's name x is a def that keeps dsp -/
structure FN (P : Program) (w : World) (K : PySem.W.Frag) (mg : Str → Option Value) (base : Heap) (x : Str) (k : Nat) (dsp : DSp) : Prop where
  ex : ∃ f fd ps us dvs sp, FnOk P w K mg base (L2.CX P w) k f fd ps sp ∧ mg x = some (.ref f) ∧ PySem.W.keepIn K (.ref f) = true ∧ Binds K fd ps us ∧ Vals dvs us ∧ ∀ vs H Q E, lift K dsp vs H Q E → sp (vs ++ dvs) H Q E
def dCall (dsp : DSp) (da : DA) : DE := fun φ Φ => da φ fun ds => dsp ds (fun s => Φ s.dat) (fun _ => False)
section
variable {X : Cx} {K : PySem.W.Frag}
theorem retOk_data {H H1 : Hp} {Φ : Dt → Prop} {Q : VK} (s1 : Same H H1) (q : ∀ v H' d, Same H H' → Dp K H' v d → Φ d → Q v H') : RetOk K H1 (fun s => Φ s.dat) Q where
  pu := fun v d H' s p h => q v H' d (s1.trans s) p h
  ow := fun a vs ds H' s n p h => by
    have s2 := same_new (o := .lst vs) n
    exact q _ _ (.list ds) (s1.trans (s.trans s2)) (.lst (SqL.of upd_same) (p.up s2)) h
theorem g_call {x : Str} {k : Nat} {dsp : DSp} {e : Expr} {es : List Expr} {da : DA} {p pos : Pos} (N : FN X.prog X.w X.K X.mg X.base x k dsp) (hr : Room k X.A) (ha : GA X (e :: es) da) (hg : Gl X x := by rfl)
    (hdb : (x == ("__debug__" : Str)) = false := by decide) (he : starEach (e :: es) X.env = (false, eval e X.env) :: starEach es X.env := by rfl) (hpl : (backTo pos (starEach es X.env)).any (·.1) = false := by rfl) :
    GE X (.Call (.Name x p) (e :: es) [] pos) (dCall dsp da) := by
  obtain ⟨f, fd, ps, us, dvs, sp, F, hm, hk, hb, hd, hs⟩ := N
  obtain ⟨ta, a1, a2⟩ := ha
  refine ⟨_, pe_call F hr hg hm hk hb hd passL a1 hdb he hpl, fun σ H φ Φ Q env h q => a2 σ H φ _ _ env h fun vs H1 ds s1 ps l h1 => hs _ _ _ _ ?_⟩
  exact ⟨ds, _, _, ps, h1, retOk_data s1 q, fun x d H' s p z => z.elim⟩
/-! new lists -/
abbrev DF := Fro → (List Dt → Prop) → Prop
def SF (K : PySem.W.Frag) (te : TE) (df : DF) : Prop := ∀ (σ : St) (H : Hp) (φ : Fro) (Φ : List Dt → Prop) (Q : VK), EnvF K σ H φ → df φ Φ → (∀ a vs ds H', Same H H' → H' a = none → DpAll K H' vs ds → Φ ds → Q (.ref a) (upd H' a (.lst vs))) → te σ H Q
structure GF (X : Cx) (e : Expr) (df : DF) : Prop where
  ex : ∃ te, PE X e te ∧ SF X.K te df
def dFE (df : DF) : DE := fun φ Φ => df φ fun ds => Φ (.list ds)
theorem GF.g {e : Expr} {df : DF} (h : GF X e df) : GE X e (dFE df) := by
  obtain ⟨te, a1, a2⟩ := h
  refine ⟨te, a1, fun σ H φ Φ Q env h q => a2 σ H φ _ _ env h fun a vs ds H' s n p hd => ?_⟩
  have s2 := same_new (o := .lst vs) n
  exact q _ _ _ (s.trans s2) (.lst (SqL.of upd_same) (p.up s2)) hd
theorem f_lst {es : List Expr} {da : DA} {pos : Pos} (h : GA X es da) (hz : es.length ≤ sizeLine := by decide) : GF X (.List es pos) da := by
  obtain ⟨t, a1, a2⟩ := h
  exact ⟨_, pe_lst a1, fun σ H φ Φ Q env h q => a2 σ H φ _ _ env h fun vs H1 ds s1 ps l h1 => ⟨by rw [ps.len, l]; exact hz, fun p hp => q p vs ds H1 s1 hp ps h1⟩⟩
/-- a call whose end is a list of its own -/
def dCallF (dsp : DSp) (da : DA) : DF := fun φ Φ => da φ fun ds => dsp ds (fun s => match s with | .ow es => Φ es | _ => False) (fun _ => False)
end
/-! ### statements -/
structure DEnds where
  nx : Rho → Prop
  rt : Slot → Prop
  xr : XD → Rho → Prop
  bk : Rho → Prop := fun _ => False
  ct : Rho → Prop := fun _ => False
abbrev DS := DEnds → Rho → Prop
structure Meets (K : PySem.W.Frag) (W : WX) (F : Hp) (D : Ends) (E : DEnds) : Prop where
  nx : ∀ F' σ H ρ, Same F F' → EnvO K F' σ H ρ → E.nx ρ → D.nx σ H
  bk : ∀ F' σ H ρ, Same F F' → EnvO K F' σ H ρ → E.bk ρ → D.bk σ H
  ct : ∀ F' σ H ρ, Same F F' → EnvO K F' σ H ρ → E.ct ρ → D.ct σ H
  rt : ∀ F' H v d, Same F F' → Fz F' H → Dp K F' v d → E.rt (.pu d) → D.rt v H
  rtO : ∀ F' H a vs ds, Same F F' → Fz F' H → F' a = none → H a = some (.lst vs) → DpAll K F' vs ds → E.rt (.ow ds) → D.rt (.ref a) H
  xr : ∀ F' σ H ρ x d, Same F F' → EnvO K F' σ H ρ → XAt K F' x d → E.xr x ρ → W (.ref (He.ga K x.cls)) d σ H
theorem Meets.up {K : PySem.W.Frag} {W : WX} {F F' : Hp} {D : Ends} {E : DEnds} (m : Meets K W F D E) (s : Same F F') : Meets K W F' D E :=
  ⟨fun F2 σ H ρ s2 => m.nx F2 σ H ρ (s.trans s2), fun F2 σ H ρ s2 => m.bk F2 σ H ρ (s.trans s2), fun F2 σ H ρ s2 => m.ct F2 σ H ρ (s.trans s2), fun F2 H v d s2 => m.rt F2 H v d (s.trans s2), fun F2 H a vs ds s2 => m.rtO F2 H a vs ds (s.trans s2), fun F2 σ H ρ x d s2 => m.xr F2 σ H ρ x d (s.trans s2)⟩
def SS (K : PySem.W.Frag) (W : WX) (ts : TS) (ds : DS) : Prop := ∀ (D : Ends) (E : DEnds) (F : Hp) (σ : St) (H : Hp) (ρ : Rho), EnvO K F σ H ρ → ds E ρ → Meets K W F D E → ts D σ H
structure GS (X : Cx) (W : WX) (st : Stmt) (ds : DS) : Prop where
  ex : ∃ ts, PS X st ts ∧ SS X.K W ts ds
structure GSs (X : Cx) (W : WX) (st : List Stmt) (ds : DS) : Prop where
  ex : ∃ ts, PSs X st ts ∧ SS X.K W ts ds
def dNext : DS := fun E ρ => E.nx ρ
def dSeq (t u : DS) : DS := fun E ρ => t { E with nx := u E } ρ
section
variable {X : Cx} {K : PySem.W.Frag} {W : WX}
theorem s_nil : GSs X W [] dNext := ⟨_, pss_nil, fun D E F σ H ρ env h m => m.nx F σ H ρ (Same.refl F) env h⟩
theorem s_one {st : Stmt} {d : DS} (h : GS X W st d) : GSs X W [st] d := by
  obtain ⟨t, a1, a2⟩ := h
  exact ⟨_, pss_one a1, a2⟩
theorem s_cons {st : Stmt} {rest : List Stmt} {d e : DS} (h : GS X W st d) (hr : GSs X W rest e) : GSs X W (st :: rest) (dSeq d e) := by
  obtain ⟨t, a1, a2⟩ := h
  obtain ⟨u, b1, b2⟩ := hr
  exact ⟨_, pss_cons a1 b1, fun D E F σ H ρ env h m => a2 _ _ F σ H ρ env h ⟨fun F' σ' H' ρ' s env' h' => b2 D E F' σ' H' ρ' env' h' (m.up s), m.bk, m.ct, m.rt, m.rtO, m.xr⟩⟩
def dBreak : DS := fun E ρ => E.bk ρ
def dCont : DS := fun E ρ => E.ct ρ
/-! x = e -/
/-- by an expression that looks at no owned list -/
def dSetP (i : Nat) (de : DE) : DS := fun E ρ => de (purF ρ) fun d => E.nx (setS ρ i (.pu d))
def scalD : Dt → Prop
  | .list _ => False
  | .tuple _ => False
  | .dict _ => False
  | _ => True
/-- by an expression over all, its end a number, a text, a truth, None -/
def dSetS (i : Nat) (de : DE) : DS := fun E ρ => de (allF ρ) fun d => scalD d ∧ E.nx (setS ρ i (.pu d))
/-- by a new list -/
def dSetF (i : Nat) (df : DF) : DS := fun E ρ => df (purF ρ) fun ds => E.nx (setS ρ i (.ow ds))
theorem ss_frame {te : TE} {de : DE} (h : SE K te de) {k : V → St → Hp → Prop} {F : Hp} {σ : St} {H : Hp} {ρ : Rho} {Φ : Dt → Prop} (env : EnvO K F σ H ρ) (hd : de (purF ρ) Φ) (hk : ∀ F' H' v d, Same F F' → EnvO K F' σ H' ρ → Dp K F' v d → Φ d → k v σ H') :
    tFr te σ H fun v H' => k v σ H' := ⟨F, env.fz, h σ F (purF ρ) _ _ env.pur hd fun v F' d s p hΦ => ⟨s, fun dj => hk F' _ v d s (env.grow s dj) p hΦ⟩⟩
theorem ss_frameF {te : TE} {df : DF} (h : SF K te df) {k : V → St → Hp → Prop} {F : Hp} {σ : St} {H : Hp} {ρ : Rho} {Φ : List Dt → Prop} (env : EnvO K F σ H ρ) (hd : df (purF ρ) Φ)
    (hk : ∀ F' H' a vs ds, Same F F' → EnvO K F' σ H' ρ → H' a = none → DpAll K F' vs ds → Φ ds → k (.ref a) σ (upd H' a (.lst vs))) : tFr te σ H fun v H' => k v σ H' := by
  refine ⟨F, env.fz, h σ F (purF ρ) _ _ env.pur hd fun a vs ds F' s n p hΦ => ⟨s.trans (same_new n), fun dj => ?_⟩⟩
  have ha : H a = none := by
    cases q : H a with
    | none => rfl
    | some o =>
      rcases env.fz.drop a o q with z | ⟨z, _⟩
      · rw [s a o z] at n; cases n
      · have y := dj a o q z
        rw [upd_same] at y
        cases y
  have dj' : ∀ b o, H b = some o → F b = none → F' b = none := fun b o q z => by
    have y := dj b o q z
    rw [upd_ne (fun w => by rw [w, ha] at q; cases q)] at y
    exact y
  have e : glue (upd F' a (.lst vs)) H = upd (glue F' H) a (.lst vs) := by
    funext b
    by_cases c : b = a
    · rw [c, upd_same, glue_some upd_same]
    · rw [upd_ne c]
      unfold glue
      rw [upd_ne c]
  rw [e]
  exact hk F' _ a vs ds s (env.grow s dj') (by rw [glue_none n]; exact ha) p hΦ
theorem dp_scal {H H' : Hp} {v : V} {d : Dt} (p : Dp K H v d) (h : scalD d) : Dp K H' v d := by
  cases d with
  | none => cases p; exact .non
  | bool b => cases p; exact .bl b
  | int i => cases p; exact .int i
  | str x => cases p; exact .str x
  | list _ => exact h.elim
  | tuple _ => exact h.elim
  | dict _ => exact h.elim
section
variable {i : Nat} {x : Str} {e : Expr} {pos' pos : Pos}
theorem s_setP {de : DE} (hN : X.N.Nodup) (hi : X.N[i]? = some x) (he : GE X e de) (hx : Loc X.env.scope x := by first | exact Or.inl rfl | exact Or.inr rfl) (hs : swapsWith e (some (.Name x pos')) pos.line X.env = pure false := by rfl) (hf : X.fn x = true ∨ X.env.scope.names.lookup x = some .local := by first | exact .inl rfl | exact .inr rfl | assumption) :
    GS X W (.Assign [.Name x pos'] e pos) (dSetP i de) := by
  obtain ⟨te, a1, a2⟩ := he
  exact ⟨_, ps_set hN hi hx (pe_frame a1) hs hf, fun D E F σ H ρ env h m => ss_frame (k := fun v σ H' => D.nx (σ.set i (some v)) H') a2 env h fun F' H' v d s env' p hd => m.nx F' _ _ _ s (env'.putP i p) hd⟩
theorem s_setS {de : DE} (hN : X.N.Nodup) (hi : X.N[i]? = some x) (he : GE X e de) (hx : Loc X.env.scope x := by first | exact Or.inl rfl | exact Or.inr rfl) (hs : swapsWith e (some (.Name x pos')) pos.line X.env = pure false := by rfl) (hf : X.fn x = true ∨ X.env.scope.names.lookup x = some .local := by first | exact .inl rfl | exact .inr rfl | assumption) :
    GS X W (.Assign [.Name x pos'] e pos) (dSetS i de) := by
  obtain ⟨te, a1, a2⟩ := he
  refine ⟨_, ps_set hN hi hx a1 hs hf, fun D E F σ H ρ env h m => a2 σ H _ _ _ env.all h fun v H' d s p hd => ?_⟩
  obtain ⟨F', s', env'⟩ := env.after s
  exact m.nx F' _ _ _ s' (env'.putP i (dp_scal p hd.1)) hd.2
theorem s_setF {df : DF} (hN : X.N.Nodup) (hi : X.N[i]? = some x) (he : GF X e df) (hx : Loc X.env.scope x := by first | exact Or.inl rfl | exact Or.inr rfl) (hs : swapsWith e (some (.Name x pos')) pos.line X.env = pure false := by rfl) (hf : X.fn x = true ∨ X.env.scope.names.lookup x = some .local := by first | exact .inl rfl | exact .inr rfl | assumption) :
    GS X W (.Assign [.Name x pos'] e pos) (dSetF i df) := by
  obtain ⟨te, a1, a2⟩ := he
  exact ⟨_, ps_set hN hi hx (pe_frame a1) hs hf, fun D E F σ H ρ env h m => ss_frameF (k := fun v σ H' => D.nx (σ.set i (some v)) H') a2 env h fun F' H' a vs ds s env' n p hd => m.nx F' _ _ _ s (env'.putO i n p) hd⟩
end
/-! return -/
def dRet (de : DE) : DS := fun E ρ => de (allF ρ) fun d => E.rt (.pu d)
def dRetF (df : DF) : DS := fun E ρ => df (allF ρ) fun ds => E.rt (.ow ds)
def dRetO (i : Nat) : DS := fun E ρ => match getS ρ i with
  | .ow ds => E.rt (.ow ds)
  | _ => False
theorem s_ret {e : Expr} {de : DE} {pos : Pos} (he : GE X e de) : GS X W (.Return (some e) pos) (dRet de) := by
  obtain ⟨te, a1, a2⟩ := he
  exact ⟨_, ps_ret a1, fun D E F σ H ρ env h m => a2 σ H _ _ _ env.all h fun v H' d s p hd => m.rt H' H' v d (env.fz.same.trans s) (Fz.refl _) p hd⟩
theorem s_retO {x : Str} {p pos : Pos} (i : Nat) (hN : X.N[i]? = some x := by rfl) (hv : Vis X.env.scope x := by first | exact Or.inl rfl | exact Or.inr (Or.inl rfl) | exact Or.inr (Or.inr rfl)) (hd : (x == ("__debug__" : Str)) = false := by decide)
    (hcd : (x == ("__classdict__" : Str)) = false := by decide) : GS X W (.Return (some (.Name x p)) pos) (dRetO i) := by
  refine ⟨_, ps_ret (pe_var hN hv hd hcd), fun D E F σ H ρ env h m => ?_⟩
  unfold dRetO at h
  cases q : getS ρ i with
  | ow ds =>
    rw [q] at h
    obtain ⟨a, vs, h1, h2, h3, h4⟩ := env.ow i ds q
    exact ⟨_, h1, m.rtO F H a vs ds (Same.refl F) env.fz h3 h2 h4 h⟩
  | _ => rw [q] at h; exact h.elim
/-! if -/
def dIf (t : DT) (a b : DS) : DS := fun E ρ => t (allF ρ) fun c => if c = true then a E ρ else b E ρ
theorem s_if {c : Expr} {a b : List Stmt} {t : DT} {da db : DS} {pos : Pos} (hc : GT X c t) (ha : GSs X W a da) (hb : GSs X W b db) : GS X W (.If c a b pos) (dIf t da db) := by
  obtain ⟨tc, c1, c2⟩ := hc
  obtain ⟨ta, a1, a2⟩ := ha
  obtain ⟨tb, b1, b2⟩ := hb
  refine ⟨_, ps_if c1 a1 b1, fun D E F σ H ρ env h m => c2 σ H _ _ _ env.all h fun c H' s hc => ?_⟩
  obtain ⟨F', s', env'⟩ := env.after s
  cases c with
  | true =>
    rw [if_pos rfl] at hc ⊢
    exact a2 D E F' σ H' ρ env' hc (m.up s')
  | false =>
    rw [if_neg Bool.false_ne_true] at hc ⊢
    exact b2 D E F' σ H' ρ env' hc (m.up s')
/-! a list is changed no more -/
def dFrz (i : Nat) (t : DS) : DS := fun E ρ => match getS ρ i with
  | .ow ds => t E (setS ρ i (.pu (.list ds)))
  | _ => False
/-! while -/
end
/-! ### targets -/
abbrev DG := Dt → Rho → (Rho → Prop) → Prop
abbrev DGs := List Dt → Rho → (Rho → Prop) → Prop
def SG (K : PySem.W.Frag) (g : TG) (dg : DG) : Prop := ∀ (v : V) (d : Dt) (F : Hp) (σ : St) (H : Hp) (ρ : Rho) (Ψ : Rho → Prop) (Q : St → Hp → Prop), EnvO K F σ H ρ → Dp K F v d → dg d ρ Ψ → (∀ σ' ρ', EnvO K F σ' H ρ' → Ψ ρ' → Q σ' H) → g v σ H Q
structure GG (X : Cx) (tg : Expr) (dg : DG) : Prop where
  ex : ∃ g, PG X tg g ∧ SG X.K g dg
def dgN (i : Nat) : DG := fun d ρ Ψ => Ψ (setS ρ i (.pu d))
def dgNil : DGs := fun ds ρ Ψ => match ds with
  | [] => Ψ ρ
  | _ :: _ => False
def dgCons (g : DG) (gs : DGs) : DGs := fun ds ρ Ψ => match ds with
  | [] => False
  | d :: r => g d ρ fun ρ' => (gs r ρ' Ψ)
def seqD : Dt → Option (List Dt)
  | .list ds => some ds
  | .tuple ds => some ds
  | _ => none
def dgT (n : Nat) (gs : DGs) : DG := fun d ρ Ψ => match seqD d with
  | some ds => ds.length = n ∧ gs ds ρ Ψ
  | none => False
section
variable {X : Cx} {K : PySem.W.Frag}
theorem gg_name (i : Nat) {x : Str} {pos : Pos} (hN : X.N.Nodup) (hi : X.N[i]? = some x := by rfl) (hx : Loc X.env.scope x := by first | exact Or.inl rfl | exact Or.inr rfl) (hf : X.fn x = true ∨ X.env.scope.names.lookup x = some .local := by first | exact .inl rfl | exact .inr rfl | assumption) : GG X (.Name x pos) (dgN i) :=
  ⟨_, pg_name hN hi hx hf, fun v d F σ H ρ Ψ Q env p h q => q _ _ (env.putP i p) h⟩
theorem PG.or {tg : Expr} {g g' : TG} (h : PG X tg g) (h' : PG X tg g') : PG X tg (fun v σ H Q => g v σ H Q ∨ g' v σ H Q) := by
  refine ⟨fun pins s σ H v u Q I r hw => ?_⟩
  rcases hw with hw | hw
  · exact h.run pins s σ H v u Q I r hw
  · exact h'.run pins s σ H v u Q I r hw
def SGs' (K : PySem.W.Frag) (g : TGs) (dg : DGs) : Prop := ∀ (vs : List V) (ds : List Dt) (F : Hp) (σ : St) (H : Hp) (ρ : Rho) (Ψ : Rho → Prop) (Q : St → Hp → Prop), EnvO K F σ H ρ → DpAll K F vs ds → dg ds ρ Ψ → (∀ σ' ρ', EnvO K F σ' H ρ' → Ψ ρ' → Q σ' H) → g vs σ H Q
structure GG2 (X : Cx) (ts : List Expr) (dg : DGs) : Prop where
  ex : ∃ g, PGs X ts g ∧ SGs' X.K g dg
theorem ggs_nil : GG2 X [] dgNil := by
  refine ⟨_, pgs_nil, fun vs ds F σ H ρ Ψ Q env p h q => ?_⟩
  cases ds with
  | nil => cases p; exact ⟨rfl, q σ ρ env h⟩
  | cons _ _ => exact h.elim
theorem ggs_cons {e : Expr} {es : List Expr} {g : DG} {gs : DGs} (h : GG X e g) (hr : GG2 X es gs) (hs : (assignEach (e :: es) X.env).map (·.2) = assign e X.env :: (assignEach es X.env).map (·.2) := by rfl) : GG2 X (e :: es) (dgCons g gs) := by
  obtain ⟨t, a1, a2⟩ := h
  obtain ⟨u, b1, b2⟩ := hr
  refine ⟨_, pgs_cons a1 b1 hs, fun vs ds F σ H ρ Ψ Q env p h q => ?_⟩
  cases ds with
  | nil => exact h.elim
  | cons d r =>
    cases p with
    | cons p1 p2 => exact ⟨_, _, rfl, a2 _ d F σ H ρ _ _ env p1 h fun σ' ρ' env' h' => b2 _ r F σ' H ρ' Ψ Q env' p2 h' q⟩
theorem gg_tup {es : List Expr} {k : Nat} {gs : DGs} {n : Nat} {pos : Pos} (hc : X.calm = true) (h : GG2 X es gs) (hn : (assignEach es X.env).length = n := by rfl) (hst : (assignEach es X.env).findIdx? (·.1) = none := by rfl) : GG X (.Tuple es k pos) (dgT n gs) := by
  obtain ⟨g, a1, a2⟩ := h
  refine ⟨_, PG.or (pg_tup hc a1 hn hst) (pg_lst hc a1 hn hst), fun v d F σ H ρ Ψ Q env p h q => ?_⟩
  cases d with
  | list ds =>
    obtain ⟨hl, h⟩ : ds.length = n ∧ gs ds ρ Ψ := h
    cases p with
    | lst hs ha => exact .inr ⟨_, _, rfl, env.fz.same.seq hs, by rw [ha.len, hl], a2 _ ds F σ H ρ Ψ Q env ha h q⟩
  | tuple ds =>
    obtain ⟨hl, h⟩ : ds.length = n ∧ gs ds ρ Ψ := h
    cases p with
    | tup hs ha => exact .inl ⟨_, _, rfl, sqT_mono env.fz.same hs, by rw [ha.len, hl], a2 _ ds F σ H ρ Ψ Q env ha h q⟩
  | _ => exact h.elim
/-- target = e -/
def dAsg (de : DE) (g : DG) : DS := fun E ρ => de (purF ρ) fun d => g d ρ E.nx
variable {W : WX}
/-- a, b = e1, e2 -/
def dPar (i j : Nat) (da : DA) : DS := fun E ρ => da (purF ρ) fun ds => match ds with
  | [d, e] => E.nx (setS (setS ρ i (.pu d)) j (.pu e))
  | _ => False
/-- .. over all, of numbers, texts, truths -/
def dParS (i j : Nat) (da : DA) : DS := fun E ρ => da (allF ρ) fun ds => match ds with
  | [d, e] => scalD d ∧ scalD e ∧ E.nx (setS (setS ρ i (.pu d)) j (.pu e))
  | _ => False
end
end L2.D3
set_option maxHeartbeats 4000000
namespace L2.D3
open PySem PySem.Spec PyProof.Rows
/-! ### the frame rule for what is walked, for statements -/
def iFr (wi : TI) : TI := fun σ H R => ∃ F, Fz F H ∧ wi σ F fun J F' => Same F F' ∧ ((∀ a o, H a = some o → F a = none → F' a = none) → R J (glue F' H))
section
variable {X : Cx} {tg : Expr}
theorem pi_frame {e : Expr} {wi : TI} (h : PI X tg e wi) : PI X tg e (iFr wi) := by
  refine ⟨fun pins s σ H R I hw => ?_⟩
  obtain ⟨F, z, ht⟩ := hw
  refine thn (h.run _ s σ F _ (Inv.without I z) ht) fun v s1 h1 => thn h1 fun itv s2 h2 => ?_
  obtain ⟨it, fp, tn, J, F', e1, I2, T, st, fpo, sm, q⟩ := h2
  obtain ⟨I3, dj⟩ := Inv.back I z sm I2
  refine ⟨it, fp, tn, J, glue F' H, e1, I3, T, st, fun b hb => ?_, q dj⟩
  obtain ⟨b0, b1, b2, b3, b4, b5⟩ := fpo b hb
  refine ⟨?_, b1, b2, b3, b4, fun p hp => b5 p ?_⟩
  · rw [glue_none b0]
    cases c : H b with
    | none => rfl
    | some o =>
      rcases z.drop b o c with y | ⟨y, m⟩
      · rw [sm b o y] at b0; cases b0
      · obtain ⟨ob, g, _⟩ := obj_of_mut (I.hok _ _ c) m
        exact absurd rfl (b5 (b, ob) (List.mem_append_right _ (List.mem_append_right _ (mem_aside c y g))))
  · rcases List.mem_append.mp hp with y | y
    · exact List.mem_append_left _ y
    · exact List.mem_append_right _ (List.mem_append_left _ y)
end
/-! ### what is walked -/
def YOk (K : PySem.W.Frag) (F H : Hp) (d : Dt) (x : V) (H' : Hp) : Prop :=
  (H' = H ∧ Dp K F x d) ∨ ∃ T vs ds, x = .ref T ∧ H T = none ∧ H' = upd H T (.tup vs) ∧ d = .tuple ds ∧ DpAll K F vs ds
def Yields (K : PySem.W.Frag) (J : It) (F₀ : Hp) (ds : List Dt) : Prop := ∀ F H, Same F₀ F → Same F H → (∀ i d, ds[i]? = some d → J.go i H ∧ ∀ x H', J.yld i H x H' → YOk K F H d x H') ∧ J.stop ds.length H
abbrev DI := Fro → (List Dt → Prop) → Prop
def SI (K : PySem.W.Frag) (wi : TI) (di : DI) : Prop := ∀ (σ : St) (H : Hp) (φ : Fro) (Φ : List Dt → Prop) (R : It → Hp → Prop), EnvF K σ H φ → di φ Φ → (∀ J H' ds, Same H H' → Yields K J H' ds → Φ ds → R J H') → wi σ H R
structure GI (X : Cx) (tg iter : Expr) (di : DI) : Prop where
  ex : ∃ wi, PI X tg iter wi ∧ SI X.K wi di
theorem EnvO.newTup {K : PySem.W.Frag} {F H : Hp} {σ : St} {ρ : Rho} (e : EnvO K F σ H ρ) {T : Addr} {vs : List V} (n : H T = none) : EnvO K (upd F T (.tup vs)) σ (upd H T (.tup vs)) ρ ∧ Same F (upd F T (.tup vs)) := by
  have fn : F T = none := by
    cases q : F T with
    | none => rfl
    | some o => rw [e.fz.same T o q] at n; cases n
  have s := same_new (o := .tup vs) fn
  refine ⟨⟨⟨fun b o q => ?_, fun b o q => ?_⟩, e.len, fun i d h => ?_, fun i A h => ?_, fun i ds h => ?_, e.ne, sep_upA e.sep s fun a o h1 h2 => ⟨by rw [upd_ne (ne_of_none h1 n)]; exact h2, by rw [upd_ne (ne_of_none h1 n)]; exact h1⟩⟩, s⟩
  · by_cases c : b = T
    · rw [c, upd_same] at q ⊢; exact q
    · rw [upd_ne c] at q ⊢; exact e.fz.same b o q
  · by_cases c : b = T
    · rw [c, upd_same] at q ⊢; exact .inl q
    · rw [upd_ne c] at q ⊢; exact e.fz.drop b o q
  · obtain ⟨v, a, b⟩ := e.pu i d h
    exact ⟨v, a, b.up s⟩
  · obtain ⟨v, a, b⟩ := e.an i A h
    exact ⟨v, a, A.up _ _ _ _ s b⟩
  · obtain ⟨a, us, h1, h2, h3, h4⟩ := e.ow i ds h
    have na : a ≠ T := ne_of_none h2 n
    exact ⟨a, us, h1, by rw [upd_ne na]; exact h2, by rw [upd_ne na]; exact h3, h4.up s⟩
section
variable {X : Cx} {K : PySem.W.Frag} {tg : Expr}
def iSeq (K : PySem.W.Frag) (tl : TE) : TI := fun σ H R => tl σ H fun x H1 => (∃ a, x = .ref a ∧ (∃ xs, SqL K H1 a xs) ∧ R (Itl K a) H1) ∨ (∃ a, x = .ref a ∧ (∃ xs, SqT K H1 a xs) ∧ R (Itt K a) H1) ∨ ∃ z, x = .str z ∧ R (Its z) H1
theorem pi_seq {l : Expr} {tl : TE} (hl : PE X l tl) : PI X tg l (iSeq X.K tl) := by
  refine ⟨fun pins s σ H R I h => thn (hl.run pins s σ H _ I h) fun v s1 hq => ?_⟩
  obtain ⟨x, H1, I1, r1, q | q | q⟩ := hq
  · obtain ⟨a, rfl, ⟨xs, hs⟩, q⟩ := q
    cases r1
    obtain ⟨its, rv, p, _⟩ := I1.list hs
    exact wpAny_pyIter_list p.isList (pi_one (tk := s1.toks) I1 _ (turn_list a _) ⟨_, Heap.get?_push_size _ rfl, rfl, rfl⟩ q)
  · obtain ⟨a, rfl, ⟨xs, hs⟩, q⟩ := q
    cases r1
    obtain ⟨its, rv, p, _⟩ := I1.tuple hs
    exact wpAny_pyIter_tuple (show s1.heap.IsTuple a its.toArray from p) (pi_one (tk := s1.toks) I1 _ (turn_tuple a _) ⟨_, Heap.get?_push_size _ rfl, rfl, rfl⟩ q)
  · obtain ⟨z, rfl, q⟩ := q
    obtain ⟨t, rfl⟩ := r1
    cases ha : z.cps.all (· < 128) with
    | false => exact wpAny_pyIter_wide ha (pi_one (tk := s1.toks) I1 _ (turn_str _ z t "str_iterator" (.inr rfl)) ⟨_, Heap.get?_push_size _ rfl, rfl, rfl⟩ q)
    | true => exact wpAny_pyIter_ascii ha (pi_one (tk := s1.toks) I1 _ (turn_str _ z t "str_ascii_iterator" (.inl rfl)) ⟨_, Heap.get?_push_size _ rfl, rfl, rfl⟩ q)
/-- the things that are walked -/
def walkD : Dt → Option (List Dt)
  | .list ds => some ds
  | .tuple ds => some ds
  | .str z => some (z.cps.toList.map fun c => .str ⟨#[c]⟩)
  | _ => none
def diSeq (de : DE) : DI := fun φ Φ => de φ fun d => match walkD d with
  | some ds => Φ ds
  | none => False
theorem gi_seq {e : Expr} {de : DE} (he : GE X e de) : GI X tg e (diSeq de) := by
  obtain ⟨te, a1, a2⟩ := he
  refine ⟨_, pi_seq a1, fun σ H φ Φ R env h q => a2 σ H φ _ _ env h fun v H1 d s1 p hd => ?_⟩
  cases d with
  | list ds =>
    cases p with
    | lst hs ha =>
      refine .inl ⟨_, rfl, ⟨_, hs⟩, q _ H1 ds s1 (fun F H s0 s => ⟨fun i d hi => ?_, ⟨_, s.seq (s0.seq hs), by rw [ha.len]; exact Nat.le_refl _⟩⟩) hd⟩
      obtain ⟨v, h1, h2⟩ := ha.get hi
      refine ⟨⟨_, v, s.seq (s0.seq hs), h1⟩, fun x H' y => .inl ⟨y.1, ?_⟩⟩
      have e := y.2 _ (s.seq (s0.seq hs))
      rw [h1] at e
      cases e
      exact h2.up s0
  | tuple ds =>
    cases p with
    | tup hs ha =>
      refine .inr (.inl ⟨_, rfl, ⟨_, hs⟩, q _ H1 ds s1 (fun F H s0 s => ⟨fun i d hi => ?_, ⟨_, sqT_mono s (sqT_mono s0 hs), by rw [ha.len]; exact Nat.le_refl _⟩⟩) hd⟩)
      obtain ⟨v, h1, h2⟩ := ha.get hi
      refine ⟨⟨_, v, sqT_mono s (sqT_mono s0 hs), h1⟩, fun x H' y => .inl ⟨y.1, ?_⟩⟩
      have e := y.2 _ (sqT_mono s (sqT_mono s0 hs))
      rw [h1] at e
      cases e
      exact h2.up s0
  | str z =>
    cases p
    refine .inr (.inr ⟨z, rfl, q _ H1 _ s1 (fun F H s0 s => ⟨fun i d hi => ?_, ?_⟩) hd⟩)
    · rw [List.getElem?_map] at hi
      cases c : z.cps.toList[i]? with
      | none => rw [c] at hi; cases hi
      | some cc =>
        rw [c] at hi
        have e2 : PyData.str ⟨#[cc]⟩ = d := Option.some.inj hi
        subst e2
        have c2 : z.cps[i]? = some cc := by rw [← Array.getElem?_toList]; exact c
        refine ⟨(Array.getElem?_eq_some_iff.mp c2).1, fun x H' y => .inl ?_⟩
        obtain ⟨e1, c', h1, h2⟩ := y
        rw [c2] at h1
        cases h1
        subst h2
        exact ⟨e1, .str _⟩
    · show z.cps.size ≤ _
      rw [List.length_map, Array.length_toList]
      exact Nat.le_refl _
  | _ => exact hd.elim
def diRng1 (da : DA) : DI := fun φ Φ => da φ fun ds => match ds with
  | [.int j] => -(2 ^ 62) ≤ j ∧ j < 2 ^ 62 ∧ Φ ((List.range j.toNat).map fun (k : Nat) => .int k)
  | _ => False
theorem yields_rng {lo : Int} {n : Nat} {H : Hp} : Yields K (Itr lo n) H ((List.range n).map fun (k : Nat) => .int (lo + k)) := fun F H s0 s => by
  refine ⟨fun i d hi => ?_, ?_⟩
  · rw [List.getElem?_map] at hi
    cases c : (List.range n)[i]? with
    | none => rw [c] at hi; cases hi
    | some k =>
      rw [c] at hi
      obtain ⟨h1, h2⟩ := List.getElem?_eq_some_iff.mp c
      rw [List.getElem_range] at h2
      subst h2
      rw [List.length_range] at h1
      have e2 : PyData.int (lo + (i : Nat)) = d := Option.some.inj hi
      subst e2
      exact ⟨h1, fun x H' y => .inl ⟨y.1, by rw [y.2]; exact .int _⟩⟩
  · show n ≤ _
    rw [List.length_map, List.length_range]
    exact Nat.le_refl _
theorem gi_rng1 {a : Expr} {da : DA} {p pos : Pos} (hm : X.mg "range" = none) (ha : GA X [a] da) (hg : Gl X "range" := by rfl) (hs : starEach [a] X.env = [(false, eval a X.env)] := by rfl) : GI X tg (.Call (.Name "range" p) [a] [] pos) (diRng1 da) := by
  obtain ⟨ta, a1, a2⟩ := ha
  refine ⟨_, pi_range1 hg hm a1 hs, fun σ H φ Φ R env h q => a2 σ H φ _ _ env h fun vs H1 ds s1 p l hd => ?_⟩
  match ds, hd, p with
  | [.int j], hd, p =>
    cases p with
    | cons p1 p2 =>
      cases p1
      cases p2
      refine ⟨j, rfl, hd.1, hd.2.1, q _ H1 _ s1 ?_ hd.2.2⟩
      have y := yields_rng (K := X.K) (lo := 0) (n := j.toNat) (H := H1)
      have e : ((List.range j.toNat).map fun (k : Nat) => PyData.int ((0 : Int) + k)) = (List.range j.toNat).map fun (k : Nat) => PyData.int k := List.map_congr_left fun k _ => by rw [Int.zero_add]
      rw [e] at y
      exact y
/-! ### for -/
variable {W : WX}
def dFor (di : DI) (g : DG) (b : DS) : DS := fun E ρ => di (purF ρ) fun ds => ∃ Iv : Nat → Rho → Prop, Iv 0 ρ ∧
  (∀ k d ρ', ds[k]? = some d → Iv k ρ' → g d ρ' fun ρ2 => b { E with nx := Iv (k + 1), ct := Iv (k + 1), bk := E.nx } ρ2) ∧ ∀ ρ', Iv ds.length ρ' → E.nx ρ'
theorem for_core {J : It} {F₀ : Hp} {ds : List Dt} {g : TG} {dg : DG} {tb : TS} {db : DS} {D : Ends} {E : DEnds} {F : Hp} {σ : St} {H : Hp} {ρ : Rho} (hy : Yields K J F₀ ds) (hg : SG K g dg) (hb : SS K W tb db) (s0 : Same F₀ F) (env : EnvO K F σ H ρ) (m : Meets K W F D E)
    (h : ∃ Iv : Nat → Rho → Prop, Iv 0 ρ ∧ (∀ k d ρ', ds[k]? = some d → Iv k ρ' → dg d ρ' fun ρ2 => db { E with nx := Iv (k + 1), ct := Iv (k + 1), bk := E.nx } ρ2) ∧ ∀ ρ', Iv ds.length ρ' → E.nx ρ') :
    ∃ Wv : Nat → Nat → St → Hp → Prop, (∃ m, Wv 0 m σ H) ∧ ∀ i m σ H, Wv i m σ H → (J.stop i H ∧ D.nx σ H) ∨ (J.go i H ∧ ∃ N : St → Hp → Prop, (∀ σ' H', N σ' H' → ∃ m', m' < m ∧ Wv (i + 1) m' σ' H') ∧ ∀ x H', J.yld i H x H' → g x σ H' fun σ2 H2 => tb { D with nx := N, ct := N, bk := D.nx } σ2 H2) := by
  obtain ⟨Iv, i0, turn, fin⟩ := h
  refine ⟨fun i n σ' H' => ∃ F' ρ', Same F F' ∧ EnvO K F' σ' H' ρ' ∧ Iv i ρ' ∧ n = ds.length - i ∧ i ≤ ds.length, ⟨ds.length, F, ρ, Same.refl F, env, i0, rfl, Nat.zero_le _⟩, fun i n σ' H' hw => ?_⟩
  obtain ⟨F', ρ', s, env', iv, rfl, hi⟩ := hw
  obtain ⟨y1, y2⟩ := hy F' H' (s0.trans s) env'.fz.same
  by_cases c : i < ds.length
  · have e := List.getElem?_eq_getElem c
    obtain ⟨go, yl⟩ := y1 i _ e
    refine .inr ⟨go, fun σ2 H2 => ∃ F2 ρ2, Same F F2 ∧ EnvO K F2 σ2 H2 ρ2 ∧ Iv (i + 1) ρ2, fun σ2 H2 hN => ?_, fun x H2 y => ?_⟩
    · obtain ⟨F2, ρ2, s2, env2, iv2⟩ := hN
      exact ⟨ds.length - (i + 1), by omega, F2, ρ2, s2, env2, iv2, rfl, c⟩
    · have key : ∀ F2, Same F' F2 → EnvO K F2 σ' H2 ρ' → Dp K F2 x ds[i] → g x σ' H2 fun σ3 H3 => tb { D with nx := fun σ2 H2 => ∃ F2 ρ2, Same F F2 ∧ EnvO K F2 σ2 H2 ρ2 ∧ Iv (i + 1) ρ2, ct := fun σ2 H2 => ∃ F2 ρ2, Same F F2 ∧ EnvO K F2 σ2 H2 ρ2 ∧ Iv (i + 1) ρ2, bk := D.nx } σ3 H3 := fun F2 s2 env2 p => by
        refine hg x _ F2 σ' H2 ρ' _ _ env2 p (turn i _ ρ' e iv) fun σ3 ρ3 env3 hb3 => ?_
        have sF := s.trans s2
        exact hb _ _ F2 σ3 H2 ρ3 env3 hb3 ⟨fun F4 σ4 H4 ρ4 s4 env4 iv4 => ⟨F4, ρ4, sF.trans s4, env4, iv4⟩, fun F4 σ4 H4 ρ4 s4 env4 q => m.nx F4 σ4 H4 ρ4 (sF.trans s4) env4 q, fun F4 σ4 H4 ρ4 s4 env4 iv4 => ⟨F4, ρ4, sF.trans s4, env4, iv4⟩, (m.up sF).rt, (m.up sF).rtO, (m.up sF).xr⟩
      rcases yl x H2 y with ⟨rfl, p⟩ | ⟨T, vs, es, rfl, n, rfl, ed, pa⟩
      · exact key F' (Same.refl _) env' p
      · obtain ⟨env2, s2⟩ := env'.newTup (vs := vs) n
        exact key _ s2 env2 (by rw [ed]; exact .tup (SqT.of upd_same) (pa.up s2))
  · have e : i = ds.length := by omega
    subst e
    exact .inl ⟨y2, m.nx F' σ' H' ρ' s env' (fin ρ' iv)⟩
theorem s_for {iter : Expr} {body : List Stmt} {di : DI} {g : DG} {db : DS} {pos : Pos} (hp : PassesOwn (model X.prog X.w) X.A X.env X.xe) (hc : X.calm = true) (hi : GI X tg iter di) (hg : GG X tg g) (hb : GSs X W body db)
    (hs : ∀ x, foldedSetIterable iter X.env x = pure x := by intro _; rfl) : GS X W (.For tg iter body [] pos) (dFor di g db) := by
  obtain ⟨wi, i1, i2⟩ := hi
  obtain ⟨tg', g1, g2⟩ := hg
  obtain ⟨tb, b1, b2⟩ := hb
  refine ⟨_, ps_for hp hc (pi_frame i1) g1 b1 hs, fun D E F σ H ρ env h m => ?_⟩
  refine ⟨F, env.fz, i2 σ F (purF ρ) _ _ env.pur h fun J F' ds s hy hd => ⟨s, fun dj => ?_⟩⟩
  exact for_core hy g2 b2 (Same.refl _) (env.grow s dj) (m.up s) hd
end
/-! ### methods of owned lists -/
section
variable {X : Cx} {K : PySem.W.Frag} {W : WX}
/-- found.append(e) -/
def dApp (i : Nat) (de : DE) : DS := fun E ρ => match getS ρ i with
  | .ow ds => de (purF ρ) fun d => ds.length < sizeLine ∧ E.nx (setS ρ i (.ow (ds ++ [d])))
  | _ => False
def dAppS (i : Nat) (de : DE) : DS := fun E ρ => match getS ρ i with
  | .ow ds => de (allF ρ) fun d => scalD d ∧ ds.length < sizeLine ∧ E.nx (setS ρ i (.ow (ds ++ [d])))
  | _ => False
theorem s_app {i : Nat} {x : Str} {e : Expr} {de : DE} {p apos cpos pos : Pos} (he : GE X e de) (hN : X.N[i]? = some x := by rfl) (hv : Vis X.env.scope x := by first | exact Or.inl rfl | exact Or.inr (Or.inl rfl) | exact Or.inr (Or.inr rfl)) (hdb : (x == ("__debug__" : Str)) = false := by decide) (hcd : (x == ("__classdict__" : Str)) = false := by decide)
    (hbase : attributeBase (.Name x p) "append" X.env (eval (.Name x p) X.env) = eval (.Name x p) X.env := by rfl) (hst : starEach [e] X.env = (false, eval e X.env) :: starEach [] X.env := by rfl) (hline : (apos.endLine == cpos.line) = true := by rfl)
    (hfew : ((backTo cpos (starEach [e] X.env)).all (fun x => !x.1) && (backToKw cpos (keywordEach [] X.env)).all (fun x => x.1.isSome) && decide (([e] : List Expr).length + ([] : List Keyword).length + (if ([] : List Keyword).isEmpty then 0 else 1) < 30)) = true := by rfl)
    (hplain : (backTo cpos (starEach [] X.env)).any (·.1) = false := by rfl)
    (hs : swapsWith (.Call (.Attribute (.Name x p) "append" apos) [e] [] cpos) none pos.line X.env = pure false := by rfl) :
    GS X W (.Expr (.Call (.Attribute (.Name x p) "append" apos) [e] [] cpos) pos) (dApp i de) := by
  obtain ⟨te, a1, a2⟩ := he
  refine ⟨_, ps_expr (pe_bm PySem.F.plainAttrs_list PySem.F.slot_list_append PySem.F.type_list_append mt_append (pe_var hN hv hdb hcd) (pa_cons (pe_frame a1) pa_nil hst) hbase hfew hline hst hplain) hs, fun D E F σ H ρ env h m => ?_⟩
  unfold dApp at h
  cases q : getS ρ i with
  | ow ds =>
    rw [q] at h
    obtain ⟨a, us, h1, h2, h3, h4⟩ := env.ow i ds q
    refine ⟨_, h1, .inl ⟨rfl, _, SqL.of h2⟩, ss_frame (k := fun v σ H' => (tNil σ H' fun xs H2 => rAppend (.ref a) (v :: xs) H2 fun _ H1 => D.nx σ H1)) a2 env h fun F' H' v d s env' pv hd => ?_⟩
    obtain ⟨a', vs, g1, g2, g3, g4⟩ := env'.ow i ds q
    rw [h1] at g1
    cases g1
    exact ⟨a, vs, v, rfl, rfl, g2, by rw [g4.len]; exact hd.1, m.nx F' _ _ _ s (env'.mut i q h1 (g4.app (.one pv))) hd.2⟩
  | _ => rw [q] at h; exact h.elim
/-- found.insert(k, e) -/
def dIns (i : Nat) (da : DA) : DS := fun E ρ => match getS ρ i with
  | .ow ds => da (purF ρ) fun es => match es with
    | [.int k, d] => ds.length < sizeLine ∧ 0 ≤ k ∧ k < 2 ^ 63 ∧ E.nx (setS ρ i (.ow (ds.take k.toNat ++ [d] ++ ds.drop k.toNat)))
    | _ => False
  | _ => False
end
end L2.D3
set_option maxHeartbeats 4000000
namespace L2.D3
open PySem PySem.Spec PyProof.Rows
/-! ### the readings by themselves -/
def tD (K : PySem.W.Frag) (de : DE) : TE := fun σ H Q => ∃ φ Φ, EnvF K σ H φ ∧ de φ Φ ∧ ∀ v H' d, Same H H' → Dp K H' v d → Φ d → Q v H'
def tTD (K : PySem.W.Frag) (dt : DT) : TT := fun σ H Q => ∃ φ Φ, EnvF K σ H φ ∧ dt φ Φ ∧ ∀ b H', Same H H' → Φ b → Q b H'
theorem GE.pe {X : Cx} {e : Expr} {de : DE} (h : GE X e de) : PE X e (tD X.K de) := by
  obtain ⟨te, a1, a2⟩ := h
  refine ⟨fun pins s σ H Q I hw => ?_⟩
  obtain ⟨φ, Φ, env, hd, q⟩ := hw
  exact a1.run pins s σ H Q I (a2 σ H φ Φ Q env hd q)
theorem GT.pt {X : Cx} {e : Expr} {dt : DT} (h : GT X e dt) : PT X e (tTD X.K dt) := by
  obtain ⟨te, a1, a2⟩ := h
  refine ⟨fun pins s σ H Q I hw => ?_⟩
  obtain ⟨φ, Φ, env, hd, q⟩ := hw
  exact a1.run pins s σ H Q I (a2 σ H φ Φ Q env hd q)
/-! ### comprehensions -/
def noneF : Fro → Nat → Fro
  | [], _ => []
  | _ :: r, 0 => .no :: r
  | a :: r, n + 1 => a :: noneF r n
def wipeF (φ : Fro) : List Nat → Fro
  | [] => φ
  | v :: vs => noneF (wipeF φ vs) v
theorem getF_none : ∀ {φ : Fro} {i j : Nat} {d : Dt}, getF (noneF φ i) j = some d → j ≠ i ∧ getF φ j = some d
  | [], i, j, d, h => by cases h
  | a :: r, 0, 0, d, h => by cases h
  | a :: r, 0, j + 1, d, h => ⟨Nat.succ_ne_zero j, h⟩
  | a :: r, i + 1, 0, d, h => ⟨(Nat.succ_ne_zero i).symm, h⟩
  | a :: r, i + 1, j + 1, d, h => by
    obtain ⟨h1, h2⟩ := getF_none (φ := r) (i := i) (j := j) h
    exact ⟨fun z => h1 (Nat.succ.inj z), h2⟩
theorem getA_none : ∀ {φ : Fro} {i j : Nat} {d : Ass}, getA (noneF φ i) j = some d → j ≠ i ∧ getA φ j = some d
  | [], i, j, d, h => by cases h
  | a :: r, 0, 0, d, h => by cases h
  | a :: r, 0, j + 1, d, h => ⟨Nat.succ_ne_zero j, h⟩
  | a :: r, i + 1, 0, d, h => ⟨(Nat.succ_ne_zero i).symm, h⟩
  | a :: r, i + 1, j + 1, d, h => by
    obtain ⟨h1, h2⟩ := getA_none (φ := r) (i := i) (j := j) h
    exact ⟨fun z => h1 (Nat.succ.inj z), h2⟩
theorem noneF_len : ∀ {φ : Fro} {i : Nat}, (noneF φ i).length = φ.length
  | [], i => rfl
  | a :: r, 0 => rfl
  | a :: r, i + 1 => congrArg Nat.succ (noneF_len (φ := r))
theorem EnvF.wipe {K : PySem.W.Frag} {σ : St} {H : Hp} {φ : Fro} (h : EnvF K σ H φ) : ∀ vs : List Nat, EnvF K (L2.wipe σ vs) H (wipeF φ vs)
  | [] => h
  | v :: vs => by
    have ih := EnvF.wipe h vs
    refine ⟨by show (noneF (wipeF φ vs) v).length ≤ ((L2.wipe σ vs).set v none).length; rw [noneF_len, List.length_set]; exact ih.len, fun i d q => ?_, fun i A q => ?_⟩
    · obtain ⟨h1, h2⟩ := getF_none (φ := wipeF φ vs) q
      obtain ⟨u, a, b⟩ := ih.at_ i d h2
      exact ⟨u, by show ((L2.wipe σ vs).set v none)[i]? = _; rw [List.getElem?_set_ne (Ne.symm h1)]; exact a, b⟩
    · obtain ⟨h1, h2⟩ := getA_none (φ := wipeF φ vs) q
      obtain ⟨u, a, b⟩ := ih.an i A h2
      exact ⟨u, by show ((L2.wipe σ vs).set v none)[i]? = _; rw [List.getElem?_set_ne (Ne.symm h1)]; exact a, b⟩
theorem wipe_get {σ : St} {i : Nat} : ∀ {vs : List Nat}, i ∈ vs → i < σ.length → (L2.wipe σ vs)[i]? = some none
  | [], h, _ => by cases h
  | v :: vs, h, hl => by
    show ((L2.wipe σ vs).set v none)[i]? = some none
    by_cases c : v = i
    · subst c
      exact List.getElem?_set_self (by rw [wipe_length]; exact hl)
    · rw [List.getElem?_set_ne c]
      exact wipe_get (by rcases List.mem_cons.mp h with z | z; exact absurd z.symm c; exact z) hl
theorem wipe_same {σ σ' : St} {vs : List Nat} (hl : σ.length = σ'.length) (h : ∀ i, i ∉ vs → σ[i]? = σ'[i]?) : L2.wipe σ vs = L2.wipe σ' vs := by
  apply List.ext_getElem?
  intro i
  by_cases c : i ∈ vs
  · by_cases ci : i < σ.length
    · rw [wipe_get c ci, wipe_get c (by rw [← hl]; exact ci)]
    · rw [List.getElem?_eq_none (by rw [wipe_length]; omega), List.getElem?_eq_none (by rw [wipe_length]; omega)]
  · rw [wipe_out c, wipe_out c]
    exact h i c
theorem wipe_wipe {σ : St} {vs : List Nat} : L2.wipe (L2.wipe σ vs) vs = L2.wipe σ vs := wipe_same (wipe_length σ vs) fun _ hi => wipe_out hi
theorem wipe_set {σ : St} {vs : List Nat} {i : Nat} {x : Option V} (h : i ∈ vs) : L2.wipe (σ.set i x) vs = L2.wipe σ vs := wipe_same (List.length_set ..) fun j hj => List.getElem?_set_ne (fun z => hj (by rw [← z]; exact h))
/-- a target within a comprehension -/
abbrev DGc := Dt → Fro → (Fro → Prop) → Prop
def SGc (K : PySem.W.Frag) (vs : List Nat) (g : TG) (dg : DGc) : Prop := ∀ (v : V) (d : Dt) (σ : St) (F H : Hp) (φ : Fro) (Ψ : Fro → Prop) (Q : St → Hp → Prop), EnvF K σ F φ → Same F H → Dp K F v d → dg d φ Ψ → (∀ σ' φ', EnvF K σ' F φ' → L2.wipe σ' vs = L2.wipe σ vs → Ψ φ' → Q σ' H) → g v σ H Q
def dcN (i : Nat) : DGc := fun d φ Ψ => Ψ (setF φ i d)
section
variable {K : PySem.W.Frag} {vs : List Nat}
theorem sgc_name {i : Nat} (h : i ∈ vs) : SGc K vs (gName i) (dcN i) := fun v d σ F H φ Ψ Q env s p hd q => q _ _ (env.set p) (wipe_set h) hd
end
def dYes : DT := fun _ Φ => Φ true
def dLc (vs : List Nat) (di : DI) (g : DGc) (t : DT) (de : DE) : DF := fun φ Φ => di φ fun ds => ∃ Iv : Nat → List Dt → Prop, Iv 0 [] ∧
  (∀ k d acc, ds[k]? = some d → Iv k acc → g d (wipeF φ vs) fun φ2 => t φ2 fun b => if b = true then de φ2 fun y => acc.length < sizeLine ∧ Iv (k + 1) (acc ++ [y]) else Iv (k + 1) acc) ∧ ∀ acc, Iv ds.length acc → Φ acc
theorem erase_upd {H : Hp} {a : Addr} {o : HO} (h : H a = some o) : ∃ F : Hp, F a = none ∧ H = upd F a o := by
  refine ⟨fun b => if b = a then none else H b, if_pos rfl, ?_⟩
  funext b
  by_cases c : b = a
  · rw [c, upd_same, h]
  · rw [upd_ne c, if_neg c]
theorem same_erase {F F' : Hp} {a : Addr} {o : HO} (n : F a = none) (s : Same (upd F a o) (upd F' a o)) : Same F F' := fun b u e => by
  have c : b ≠ a := fun z => by rw [z, n] at e; cases e
  have q := s b u (by rw [upd_ne c]; exact e)
  rw [upd_ne c] at q
  exact q
theorem fz_upd {F : Hp} {a : Addr} {vs : List V} (n : F a = none) : Fz F (upd F a (.lst vs)) := ⟨same_new n, fun b o q => by
  by_cases c : b = a
  · rw [c, upd_same] at q
    cases q
    exact .inr ⟨by rw [c]; exact n, rfl⟩
  · rw [upd_ne c] at q
    exact .inl q⟩
theorem sf_lc {K : PySem.W.Frag} {wi : TI} {g : TG} {tt : TT} {de : DE} {vs : List Nat} {di : DI} {dg : DGc} {dt : DT} (hi : SI K wi di) (hg : SGc K vs g dg) (ht : ST K tt dt) : SF K (tLc wi g tt (tFr (tD K de)) vs) (dLc vs di dg dt de) := fun σ H φ Φ Q env h q =>
  hi σ H φ _ _ env h fun J H1 ds s1 hy hd => by
    intro D hD
    obtain ⟨Iv, i0, turn, fin⟩ := hd
    refine ⟨fun i m H' => ∃ F acc es, H' = upd F D (.lst acc) ∧ Same H1 F ∧ F D = none ∧ DpAll K F acc es ∧ Iv i es ∧ m = ds.length - i ∧ i ≤ ds.length, ⟨_, H1, [], [], rfl, Same.refl _, hD, .nil, i0, rfl, Nat.zero_le _⟩, fun i m H' hw => ?_⟩
    obtain ⟨F, acc, es, rfl, sF, nD, pa, iv, rfl, hle⟩ := hw
    obtain ⟨y1, y2⟩ := hy F (upd F D (.lst acc)) sF (same_new nD)
    by_cases c : i < ds.length
    · have e := List.getElem?_eq_getElem c
      obtain ⟨go, yl⟩ := y1 i _ e
      refine .inr ⟨go, fun H' => ∃ F acc es, H' = upd F D (.lst acc) ∧ Same H1 F ∧ F D = none ∧ DpAll K F acc es ∧ Iv (i + 1) es, fun H' hN => ?_, fun x H2 y => ?_⟩
      · obtain ⟨F2, acc2, es2, h1, h2, h3, h4, h5⟩ := hN
        exact ⟨ds.length - (i + 1), by omega, F2, acc2, es2, h1, h2, h3, h4, h5, rfl, c⟩
      · have key : ∀ F2, Same F F2 → F2 D = none → Dp K F2 x ds[i] → g x (L2.wipe σ vs) (upd F2 D (.lst acc)) fun σ2 H2 => L2.wipe σ2 vs = L2.wipe σ vs ∧ tt σ2 H2 fun b H3 => if b = true then tFr (tD K de) σ2 H3 fun y H4 => ∃ acc, H4 D = some (.lst acc) ∧ acc.length < sizeLine ∧ ∃ F acc' es, upd H4 D (.lst (acc ++ [y])) = upd F D (.lst acc') ∧ Same H1 F ∧ F D = none ∧ DpAll K F acc' es ∧ Iv (i + 1) es else ∃ F acc es, H3 = upd F D (.lst acc) ∧ Same H1 F ∧ F D = none ∧ DpAll K F acc es ∧ Iv (i + 1) es := fun F2 s2 n2 p => by
          refine hg x _ (L2.wipe σ vs) F2 (upd F2 D (.lst acc)) (wipeF φ vs) _ _ ((env.wipe vs).up (s1.trans (sF.trans s2))) (same_new n2) p (turn i _ es e iv) fun σ3 φ3 env3 w3 h3 => ⟨w3.trans wipe_wipe, ?_⟩
          refine ht σ3 _ φ3 _ _ (env3.up (same_new n2)) h3 fun b H3 s3 hb => ?_
          obtain ⟨F3, n3, rfl⟩ := erase_upd (s3 D _ upd_same)
          have s4 : Same F2 F3 := same_erase n2 s3
          cases b with
          | true =>
            rw [if_pos rfl] at hb ⊢
            refine ⟨F3, fz_upd n3, φ3, _, env3.up s4, hb, fun v F4 d s5 pv hv => ⟨s5, fun dj => ?_⟩⟩
            have n4 : F4 D = none := dj D _ upd_same n3
            have eg : glue F4 (upd F3 D (.lst acc)) = upd F4 D (.lst acc) := by
              funext b
              by_cases cb : b = D
              · rw [cb, upd_same, glue_none n4, upd_same]
              · rw [upd_ne cb]
                cases z : F4 b with
                | some o => rw [glue_some z]
                | none =>
                  rw [glue_none z, upd_ne cb]
                  cases z3 : F3 b with
                  | none => rfl
                  | some o => rw [s5 b o z3] at z; cases z
            rw [eg]
            have s6 := s2.trans (s4.trans s5)
            exact ⟨acc, upd_same, by rw [pa.len]; exact hv.1, F4, acc ++ [v], es ++ [d], upd_upd, sF.trans s6, n4, (pa.up s6).app (.one pv), hv.2⟩
          | false =>
            rw [if_neg Bool.false_ne_true] at hb ⊢
            have s6 := s2.trans s4
            exact ⟨F3, acc, es, rfl, sF.trans s6, n3, pa.up s6, hb⟩
        rcases yl x H2 y with ⟨rfl, p⟩ | ⟨T, us, es', rfl, n, rfl, ed, pd⟩
        · exact key F (Same.refl _) nD p
        · have cT : T ≠ D := fun z => by rw [z, upd_same] at n; cases n
          have nT : F T = none := by rw [upd_ne cT] at n; exact n
          have s2 := same_new (o := .tup us) nT
          have ec : upd (upd F D (.lst acc)) T (.tup us) = upd (upd F T (.tup us)) D (.lst acc) := by
            funext b
            by_cases c1 : b = T
            · rw [c1, upd_same, upd_ne cT, upd_same]
            · rw [upd_ne c1]
              by_cases c2 : b = D
              · rw [c2, upd_same, upd_same]
              · rw [upd_ne c2, upd_ne c2, upd_ne c1]
          rw [ec]
          exact key _ s2 (by rw [upd_ne (Ne.symm cT)]; exact nD) (by rw [ed]; exact .tup (SqT.of upd_same) (pd.up s2))
    · have e : i = ds.length := by omega
      subst e
      exact .inl ⟨y2, q D acc es F (s1.trans sF) nD pa (fin es iv)⟩
structure GTs (X : Cx) (ifs : List Expr) (dt : DT) : Prop where
  ex : PTs X ifs (tTD X.K dt)
section
variable {X : Cx}
theorem ts_nil : GTs X [] dYes := ⟨⟨fun pins s σ H Q I h => by
  obtain ⟨φ, Φ, env, h1, h2⟩ := h
  exact pts_nil.run pins s σ H Q I (h2 true H (Same.refl H) h1)⟩⟩
theorem ts_one {c : Expr} {t : DT} (h : GT X c t) : GTs X [c] t := ⟨pts_one h.pt⟩
theorem st_tTD {K : PySem.W.Frag} {dt : DT} : ST K (tTD K dt) dt := fun σ H φ Φ Q env h q => ⟨φ, Φ, env, h, q⟩
theorem f_lc {elt tg iter : Expr} {ifs : List Expr} {scope : Scope} (own : List (Str × Nat)) {pos : Pos} {di : DI} {g : TG} {dg : DGc} {dt : DT} {de : DE} (hc : X.calm = true) (hN : X.N.Nodup) (hi : GI X tg iter di) (ok : BlkOk X.N X.env.scope scope own)
    (hg : ∀ (s : Shared) (H : Hp) (C : Addr) (cl : List (Str × Addr)) (fp : List Addr), PG (X.blk s H scope (compEnvC scope cl C X.env) fp) tg g) (sg : SGc X.K (own.map (·.2)) g dg)
    (ht : ∀ (s : Shared) (H : Hp) (C : Addr) (cl : List (Str × Addr)) (fp : List Addr), GTs (X.blk s H scope (compEnvC scope cl C X.env) fp) ifs dt)
    (he : ∀ (s : Shared) (H : Hp) (C : Addr) (cl : List (Str × Addr)) (fp : List Addr), GE (X.blk s H scope (compEnvC scope cl C X.env) fp) elt de) (hs : ∀ x, foldedSetIterable iter X.env x = pure x := by intro _; rfl) :
    GF X (.ListComp elt [⟨tg, iter, ifs, 0⟩] scope pos) (dLc (own.map (·.2)) di dg dt de) := by
  obtain ⟨wi, i1, i2⟩ := hi
  exact ⟨_, pe_lc (te := tFr (tD X.K de)) (tt := tTD X.K dt) hc hN i1 ok hg (fun s H C cl fp => (ht s H C cl fp).ex) (fun s H C cl fp => pe_frame (he s H C cl fp).pe) hs, sf_lc i2 sg st_tTD⟩
end
/-! ### slices -/
def cutD {α : Type} (xs : List α) (lo hi : Option Int) : List α := (xs.drop (HT.sIx xs.length 0 lo)).take (HT.sIx xs.length xs.length hi - HT.sIx xs.length 0 lo)
def slD (x : Dt) (lo hi : Option Int) : Option Dt := match x with
  | .list ds => some (.list (cutD ds lo hi))
  | .tuple ds => some (.tuple (cutD ds lo hi))
  | .str z => some (.str (cutS z lo hi))
  | _ => none
abbrev DOp := Fro → (Option Int → Prop) → Prop
def dNoPart : DOp := fun _ Φ => Φ none
def dPart (de : DE) : DOp := fun φ Φ => de φ fun d => match d with
  | .int i => Φ (some i)
  | _ => False
def SO (K : PySem.W.Frag) (t : TO) (d : DOp) : Prop := ∀ (σ : St) (H : Hp) (φ : Fro) (Φ : Option Int → Prop) (Q : Option Int → Hp → Prop), EnvF K σ H φ → d φ Φ → (∀ i H', Same H H' → Φ i → Q i H') → t σ H Q
structure GO (X : Cx) (e : Option Expr) (d : DOp) : Prop where
  ex : ∃ t, PO X e t ∧ SO X.K t d
def dSl (de : DE) (lo hi : DOp) : DE := fun φ Φ => de φ fun x => lo φ fun l => hi φ fun u => fitsD x ∧ match slD x l u with
  | some d => Φ d
  | none => False
/-- a list's slice, a new list -/
def dSlF (de : DE) (lo hi : DOp) : DF := fun φ Φ => de φ fun x => lo φ fun l => hi φ fun u => match x with
  | .list ds => Φ (cutD ds l u)
  | _ => False
section
variable {X : Cx} {K : PySem.W.Frag}
theorem SlR.or {r r' : V → Option Int → Option Int → Hp → VK → Prop} (h : SlR X r) (h' : SlR X r') : SlR X (fun x l u H Q => r x l u H Q ∨ r' x l u H Q) := by
  intro pins s σ H x v vl vu lo hi sl Q I rx hs pl pu q
  rcases q with q | q
  · exact h pins s σ H x v vl vu lo hi sl Q I rx hs pl pu q
  · exact h' pins s σ H x v vl vu lo hi sl Q I rx hs pl pu q
theorem go_none : GO X none dNoPart := ⟨_, po_none, fun σ H φ Φ Q env h q => q none H (Same.refl H) h⟩
theorem go_some {e : Expr} {de : DE} (h : GE X e de) : GO X (some e) (dPart de) := by
  obtain ⟨te, a1, a2⟩ := h
  refine ⟨_, po_some a1, fun σ H φ Φ Q env h q => a2 σ H φ _ _ env h fun v H' d s p hd => ?_⟩
  cases d with
  | int i => cases p; exact ⟨i, rfl, q _ H' s hd⟩
  | _ => exact hd.elim
theorem dp_cut {H : Hp} {vs : List V} {ds : List Dt} {lo hi : Option Int} (p : DpAll K H vs ds) : DpAll K H (cutV vs lo hi) (cutD ds lo hi) := by
  unfold cutV cutD
  rw [p.len]
  exact (p.drop _).take _
theorem g_slice {e : Expr} {lo hi : Option Expr} {de : DE} {dl dh : DOp} {p2 pos : Pos} (he : GE X e de) (hl : GO X lo dl) (hu : GO X hi dh) : GE X (.Subscript e (.Slice lo hi none p2) pos) (dSl de dl dh) := by
  obtain ⟨te, a1, a2⟩ := he
  obtain ⟨tl, b1, b2⟩ := hl
  obtain ⟨th, c1, c2⟩ := hu
  refine ⟨_, pe_slice (SlR.or sl_list (SlR.or sl_tupA sl_str)) a1 b1 c1, fun σ H φ Φ Q env h q => a2 σ H φ _ _ env h fun v H1 d s1 p h1 => b2 σ H1 φ _ _ (env.up s1) h1 fun l H2 s2 h2 => c2 σ H2 φ _ _ (env.up (s1.trans s2)) h2 fun u H3 s3 h3 => ?_⟩
  have sA := s1.trans (s2.trans s3)
  have p3 := p.up (s2.trans s3)
  obtain ⟨hf, h3⟩ := h3
  cases d with
  | list ds =>
    cases p3 with
    | @lst a0 xs0 _ hs ha =>
      refine .inl ⟨_, _, rfl, hs, fun a n => ?_⟩
      have s4 := same_new (o := .lst (cutV xs0 l u)) n
      exact q _ _ _ (sA.trans s4) (.lst (SqL.of upd_same) ((dp_cut ha).up s4)) h3
  | tuple ds =>
    cases p3 with
    | @tup a0 xs0 _ hs ha =>
      refine .inr (.inl ⟨_, _, rfl, hs, fun z => ?_, fun z a n => ?_⟩)
      · have e : cutD ds l u = ds := by
          unfold cutD
          rw [← ha.len, z.1, z.2]
          rw [List.drop_zero, Nat.sub_zero, List.take_of_length_le (by rw [ha.len]; exact Nat.le_refl _)]
        have h3' : Φ (.tuple (cutD ds l u)) := h3
        rw [e] at h3'
        exact q _ _ _ sA (.tup hs ha) h3'
      · have s4 := same_new (o := .tup (cutV xs0 l u)) n
        exact q _ _ _ (sA.trans s4) (.tup (SqT.of upd_same) ((dp_cut ha).up s4)) h3
  | str z =>
    cases p3
    exact .inr (.inr ⟨z, rfl, hf, q _ _ _ sA (.str _) h3⟩)
  | _ => exact h3.elim
theorem f_slice {e : Expr} {lo hi : Option Expr} {de : DE} {dl dh : DOp} {p2 pos : Pos} (he : GE X e de) (hl : GO X lo dl) (hu : GO X hi dh) : GF X (.Subscript e (.Slice lo hi none p2) pos) (dSlF de dl dh) := by
  obtain ⟨te, a1, a2⟩ := he
  obtain ⟨tl, b1, b2⟩ := hl
  obtain ⟨th, c1, c2⟩ := hu
  refine ⟨_, pe_slice sl_list a1 b1 c1, fun σ H φ Φ Q env h q => a2 σ H φ _ _ env h fun v H1 d s1 p h1 => b2 σ H1 φ _ _ (env.up s1) h1 fun l H2 s2 h2 => c2 σ H2 φ _ _ (env.up (s1.trans s2)) h2 fun u H3 s3 h3 => ?_⟩
  have p3 := p.up (s2.trans s3)
  cases d with
  | list ds =>
    cases p3 with
    | lst hs ha => exact ⟨_, _, rfl, hs, fun a n => q a _ _ H3 (s1.trans (s2.trans s3)) n (dp_cut ha) h3⟩
  | _ => exact h3.elim
end
/-! ### built-ins -/
section
variable {X : Cx} {K : PySem.W.Frag}
def CD (K : PySem.W.Frag) (r : List V → Hp → VK → Prop) (o : List Dt → (Dt → Prop) → Prop) : Prop := ∀ (vs : List V) (H : Hp) (Q : VK) (ds : List Dt) (Φ : Dt → Prop), DpAll K H vs ds → o ds Φ → (∀ v H' d, Same H H' → Dp K H' v d → Φ d → Q v H') → r vs H Q
def dB (o : List Dt → (Dt → Prop) → Prop) (da : DA) : DE := fun φ Φ => da φ fun ds => o ds Φ
structure CallG (X : Cx) (f : Value) (o : List Dt → (Dt → Prop) → Prop) : Prop where
  ex : ∃ r, CallR X f r ∧ CD X.K r o
theorem g_callB {x : Str} {id : String} {o : List Dt → (Dt → Prop) → Prop} {e : Expr} {es : List Expr} {da : DA} {p pos : Pos} (hc : CallG X (.builtin id) o) (hm : X.mg x = none) (hv : bootBuiltins x = some (.builtin id)) (ha : GA X (e :: es) da) (hg : Gl X x := by rfl) (hn : x ≠ "__name__" := by decide) (hdb : (x == ("__debug__" : Str)) = false := by decide)
    (he : starEach (e :: es) X.env = (false, eval e X.env) :: starEach es X.env := by rfl) (hpl : (backTo pos (starEach es X.env)).any (·.1) = false := by rfl) : GE X (.Call (.Name x p) (e :: es) [] pos) (dB o da) := by
  obtain ⟨r, h1, h2⟩ := hc
  obtain ⟨ta, a1, a2⟩ := ha
  exact ⟨_, pe_callB h1 hg hm hv a1 hn hdb he hpl, fun σ H φ Φ Q env h q => a2 σ H φ _ _ env h fun vs H1 ds s1 p l h1 => h2 vs H1 Q ds Φ p h1 fun v H' d s pv hd => q v H' d (s1.trans s) pv hd⟩
theorem g_callT {x : Str} {T : String} {o : List Dt → (Dt → Prop) → Prop} {e : Expr} {es : List Expr} {da : DA} {p pos : Pos} (hc : CallG X (.type T) o) (hm : X.mg x = none) (hv : bootBuiltins x = some (.type T)) (ha : GA X (e :: es) da) (hg : Gl X x := by rfl) (hn : x ≠ "__name__" := by decide) (hdb : (x == ("__debug__" : Str)) = false := by decide)
    (he : starEach (e :: es) X.env = (false, eval e X.env) :: starEach es X.env := by rfl) (hpl : (backTo pos (starEach es X.env)).any (·.1) = false := by rfl) : GE X (.Call (.Name x p) (e :: es) [] pos) (dB o da) := by
  obtain ⟨r, h1, h2⟩ := hc
  obtain ⟨ta, a1, a2⟩ := ha
  exact ⟨_, pe_callTy h1 hg hm hv a1 hn hdb he hpl, fun σ H φ Φ Q env h q => a2 σ H φ _ _ env h fun vs H1 ds s1 p l h1 => h2 vs H1 Q ds Φ p h1 fun v H' d s pv hd => q v H' d (s1.trans s) pv hd⟩
def bLen : List Dt → (Dt → Prop) → Prop := fun ds Φ => match ds with
  | [.list es] => Φ (.int es.length)
  | [.tuple es] => Φ (.int es.length)
  | [.str z] => z.length ≤ sizeLine ∧ Φ (.int z.length)
  | _ => False
theorem c_len : CallG X (.builtin "len") bLen := by
  refine ⟨_, call_len, fun vs H Q ds Φ p h q => ?_⟩
  match ds, p, h with
  | [.list es], p, h =>
    cases p with
    | cons p1 p2 =>
      cases p2
      cases p1 with
      | lst hs ha => exact ⟨_, _, rfl, .inl ⟨_, hs, rfl⟩, q _ H _ (Same.refl H) (by rw [ha.len]; exact .int _) h⟩
  | [.tuple es], p, h =>
    cases p with
    | cons p1 p2 =>
      cases p2
      cases p1 with
      | tup hs ha => exact ⟨_, _, rfl, .inr ⟨_, hs, rfl⟩, q _ H _ (Same.refl H) (by rw [ha.len]; exact .int _) h⟩
  | [.str z], p, h =>
    cases p with
    | cons p1 p2 =>
      cases p2
      cases p1
      exact ⟨_, _, rfl, ⟨h.1, rfl⟩, q _ H _ (Same.refl H) (.int _) h.2⟩
def bAbs : List Dt → (Dt → Prop) → Prop := fun ds Φ => match ds with
  | [.int i] => Φ (.int (i.natAbs : Nat))
  | _ => False
theorem c_abs : CallG X (.builtin "abs") bAbs := by
  refine ⟨_, call_abs, fun vs H Q ds Φ p h q => ?_⟩
  match ds, p, h with
  | [.int i], p, h =>
    cases p with
    | cons p1 p2 =>
      cases p2
      cases p1
      refine ⟨i, rfl, ?_⟩
      have e : (if i < 0 then -i else i) = ((i.natAbs : Nat) : Int) := by split <;> omega
      rw [e]
      exact q _ H _ (Same.refl H) (.int _) h
def bInt : List Dt → (Dt → Prop) → Prop := fun ds Φ => match ds with
  | [.int i] => Φ (.int i)
  | [.bool b] => Φ (.int (if b then 1 else 0))
  | _ => False
theorem c_int : CallG X (.type "int") bInt := by
  refine ⟨_, call_int1, fun vs H Q ds Φ p h q => ?_⟩
  match ds, p, h with
  | [.int i], p, h =>
    cases p with
    | cons p1 p2 =>
      cases p2
      cases p1
      exact .inl ⟨i, rfl, q _ H _ (Same.refl H) (.int _) h⟩
  | [.bool b], p, h =>
    cases p with
    | cons p1 p2 =>
      cases p2
      cases p1
      exact .inr ⟨b, rfl, q _ H _ (Same.refl H) (.int _) h⟩
def bTup : List Dt → (Dt → Prop) → Prop := fun ds Φ => match ds with
  | [.list es] => Φ (.tuple es)
  | [.tuple es] => Φ (.tuple es)
  | _ => False
/-- list(x) -/
def dListF (da : DA) : DF := fun φ Φ => da φ fun ds => match ds with
  | [.list es] => Φ es
  | [.tuple es] => Φ es
  | _ => False
theorem f_list {x : Str} {e : Expr} {da : DA} {p pos : Pos} (hm : X.mg x = none) (hv : bootBuiltins x = some (.type "list")) (ha : GA X [e] da) (hg : Gl X x := by rfl) (hn : x ≠ "__name__" := by decide) (hdb : (x == ("__debug__" : Str)) = false := by decide)
    (he : starEach [e] X.env = (false, eval e X.env) :: starEach [] X.env := by rfl) (hpl : (backTo pos (starEach [] X.env)).any (·.1) = false := by rfl) : GF X (.Call (.Name x p) [e] [] pos) (dListF da) := by
  obtain ⟨ta, a1, a2⟩ := ha
  refine ⟨_, pe_callTy call_list_of hg hm hv a1 hn hdb he hpl, fun σ H φ Φ Q env h q => a2 σ H φ _ _ env h fun vs H1 ds s1 p l h1 => ?_⟩
  match ds, p, h1 with
  | [.list es], p, h =>
    cases p with
    | cons p1 p2 =>
      cases p2
      cases p1 with
      | lst hs ha => exact ⟨_, _, rfl, .inl hs, fun l n => q l _ _ H1 s1 n ha h⟩
  | [.tuple es], p, h =>
    cases p with
    | cons p1 p2 =>
      cases p2
      cases p1 with
      | tup hs ha => exact ⟨_, _, rfl, .inr hs, fun l n => q l _ _ H1 s1 n ha h⟩
/-- all, any, sum of a list -/
def bAll : List Dt → (Dt → Prop) → Prop := fun ds Φ => ∃ bs : List Bool, ds = [.list (bs.map .bool)] ∧ Φ (.bool (bs.all id))
theorem c_all (hc : X.calm = true) : CallG X (.builtin "all") bAll := by
  refine ⟨_, cr_all hc, fun vs H Q ds Φ p h q => ?_⟩
  obtain ⟨bs, rfl, h⟩ := h
  cases p with
  | cons p1 p2 =>
    cases p2
    cases p1 with
    | lst hs ha => rw [ha.bls_eq] at hs; exact ⟨_, bs, rfl, hs, q _ H _ (Same.refl H) (.bl _) h⟩
/-- isinstance(x, T) -/
def tyD : Dt → String
  | .none => "NoneType"
  | .bool _ => "bool"
  | .int _ => "int"
  | .str _ => "str"
  | .list _ => "list"
  | .tuple _ => "tuple"
  | .dict _ => "dict"
/-- no datum of the plain kind -/
def spec : Dt → Bool
  | .dict (_ :: _) => true
  | _ => false
theorem nsp_none : spec .none = false := rfl
theorem nsp_bool (b : Bool) : spec (.bool b) = false := rfl
theorem nsp_int (i : Int) : spec (.int i) = false := rfl
theorem nsp_str (x : Str) : spec (.str x) = false := rfl
theorem nsp_list (xs : List Dt) : spec (.list xs) = false := rfl
theorem nsp_tuple (xs : List Dt) : spec (.tuple xs) = false := rfl
theorem dp_ty {H : Hp} {v : V} {d : Dt} (p : Dp K H v d) (ns : spec d = false) : TyX K H v (.type (tyD d)) := by
  cases p with
  | pool h => cases ns
  | xs h => cases ns
  | ins h _ _ _ e => subst e; cases ns
  | non => exact .base .non
  | bl b => exact .base (.bl b)
  | int i => exact .base (.int i)
  | str x => exact .base (.str x)
  | dk h _ _ _ => exact .base (.dK h)
  | dt h _ _ _ => exact .base (.dT h)
  | lst hs ha =>
    rcases hs with (h | ⟨o, h⟩) | ⟨o, its, n, h1, h2, _⟩
    · exact .base (.lst h)
    · exact .base (.frz h)
    · exact .kList h1 h2
  | tup hs ha =>
    rcases hs with (h | ⟨o, h⟩) | ⟨o, its, n, h1, h2, _⟩
    · exact .base (.tup h)
    · exact .fTuple h
    · exact .kTuple h1 h2
def dIsi (f : Dt → Bool) (de : DE) : DE := fun φ Φ => de φ fun d => spec d = false ∧ Φ (.bool (f d))
theorem g_isi {T : String} {x : Str} {f : Dt → Bool} {e : Expr} {de : DE} {p p2 pos : Pos} (hm : X.mg "isinstance" = none) (hmT : X.mg x = none) (hvT : bootBuiltins x = some (.type T)) (hf : ∀ d, kitB (tyD d) T = some (f d)) (he : GE X e de) (hg : Gl X "isinstance" := by rfl) (hgT : Gl X x := by rfl) (hnT : x ≠ "__name__" := by decide) (hdT : (x == ("__debug__" : Str)) = false := by decide)
    (hv : bootBuiltins "isinstance" = some (.builtin "isinstance") := by decide +kernel) (hs : starEach [e, .Name x p2] X.env = (false, eval e X.env) :: starEach [.Name x p2] X.env := by rfl) (hs2 : starEach [.Name x p2] X.env = (false, eval (.Name x p2) X.env) :: starEach [] X.env := by rfl) (hpl : (backTo pos (starEach [.Name x p2] X.env)).any (·.1) = false := by rfl) :
    GE X (.Call (.Name "isinstance" p) [e, .Name x p2] [] pos) (dIsi f de) := by
  obtain ⟨te, a1, a2⟩ := he
  refine ⟨_, pe_callB call_isi hg hm hv (pa_cons a1 (pa_cons (pe_bltn (v := .ty T) hgT hmT hvT rfl hnT hdT) pa_nil hs2) hs) (by decide) (by decide) hs hpl, fun σ H φ Φ Q env h q => a2 σ H φ _ _ env h fun v H1 d s1 p h1 => ?_⟩
  exact ⟨v, .ty T, _, _, f d, rfl, .ty T, dp_ty p h1.1, kit_ty (hf d), q _ H1 _ s1 (.bl _) h1.2⟩
def isIntD : Dt → Bool
  | .int _ => true
  | .bool _ => true
  | _ => false
def isBoolD : Dt → Bool
  | .bool _ => true
  | _ => false
def isStrD : Dt → Bool
  | .str _ => true
  | _ => false
def isListD : Dt → Bool
  | .list _ => true
  | _ => false
def isTupD : Dt → Bool
  | .tuple _ => true
  | _ => false
theorem ty_str : ∀ d, kitB (tyD d) "str" = some (isStrD d) := fun d => match d with
  | .none => (by decide +kernel : kitB "NoneType" "str" = some false)
  | .bool _ => (by decide +kernel : kitB "bool" "str" = some false)
  | .int _ => (by decide +kernel : kitB "int" "str" = some false)
  | .str _ => (by decide +kernel : kitB "str" "str" = some true)
  | .list _ => (by decide +kernel : kitB "list" "str" = some false)
  | .tuple _ => (by decide +kernel : kitB "tuple" "str" = some false)
  | .dict _ => (by decide +kernel : kitB "dict" "str" = some false)
end
end L2.D3
set_option maxHeartbeats 4000000
namespace L2.D3
open PySem PySem.Spec PyProof.Rows
/-! ### defs -/
def rho0 : List Str → List Dt → Rho
  | [], _ => []
  | _ :: r, [] => .un :: rho0 r []
  | _ :: r, d :: ds => .pu d :: rho0 r ds
theorem getS_rho0_nil : ∀ {N : List Str} {i : Nat}, getS (rho0 N []) i = .un
  | [], i => rfl
  | _ :: r, 0 => rfl
  | _ :: r, i + 1 => getS_rho0_nil (N := r)
theorem rho0_len : ∀ {N : List Str} {ds : List Dt}, (rho0 N ds).length = N.length
  | [], _ => rfl
  | _ :: r, [] => congrArg Nat.succ (rho0_len (N := r))
  | _ :: r, d :: ds => congrArg Nat.succ (rho0_len (N := r))
theorem getS_rho0 : ∀ {N : List Str} {ds : List Dt} {i : Nat}, getS (rho0 N ds) i = .un ∨ ∃ d, getS (rho0 N ds) i = .pu d ∧ ds[i]? = some d
  | [], _, i => .inl rfl
  | _ :: r, [], i => .inl getS_rho0_nil
  | _ :: r, d :: ds, 0 => .inr ⟨d, rfl, rfl⟩
  | _ :: r, d :: ds, i + 1 => by
    rcases getS_rho0 (N := r) (ds := ds) (i := i) with h | ⟨e, h1, h2⟩
    · exact .inl h
    · exact .inr ⟨e, h1, by simpa using h2⟩
theorem start_env {K : PySem.W.Frag} {H : Hp} {N : List Str} {vs : List V} {ds : List Dt} (p : DpAll K H vs ds) (hl : ds.length ≤ N.length) : EnvO K H (start N vs) H (rho0 N ds) := by
  have len : (rho0 N ds).length = (start N vs).length := by
    rw [rho0_len]
    unfold start
    rw [List.length_append, List.length_map, List.length_replicate, p.len]
    omega
  refine ⟨Fz.refl H, len, fun i d h => ?_, fun i A h => ?_, fun i es h => ?_, fun i j es es' a hij h => ?_, sep_no fun i t h => ?_⟩
  rotate_left 4
  · rcases getS_rho0 (N := N) (ds := ds) (i := i) with q | ⟨e, q1, q2⟩
    · rw [q] at h; cases h
    · rw [q1] at h; cases h
  · rcases getS_rho0 (N := N) (ds := ds) (i := i) with q | ⟨e, q1, q2⟩
    · rw [q] at h; cases h
    · rw [q1] at h
      cases h
      obtain ⟨v, g1, g2⟩ := p.get q2
      refine ⟨v, ?_, g2⟩
      unfold start
      rw [List.getElem?_append_left (by rw [List.length_map]; exact (List.getElem?_eq_some_iff.mp g1).1), List.getElem?_map, g1]
      rfl
  · rcases getS_rho0 (N := N) (ds := ds) (i := i) with q | ⟨e, q1, q2⟩
    · rw [q] at h; cases h
    · rw [q1] at h; cases h
  · rcases getS_rho0 (N := N) (ds := ds) (i := i) with q | ⟨e, q1, q2⟩
    · rw [q] at h; cases h
    · rw [q1] at h; cases h
  · rcases getS_rho0 (N := N) (ds := ds) (i := i) with q | ⟨e, q1, q2⟩
    · rw [q] at h; cases h
    · rw [q1] at h; cases h
theorem XAt.up {K : PySem.W.Frag} {H H' : Hp} {x : XD} {d : Option Addr} (h : XAt K H x d) (s : Same H H') : XAt K H' x d := by
  unfold XAt at h ⊢
  cases e : x.fs with
  | nil => rw [e] at h; exact h
  | cons f fs =>
    rw [e] at h
    obtain ⟨a, vs, h1, h2, h3⟩ := h
    exact ⟨a, vs, h1, s _ _ h2, h3.up s⟩
/-- the ends that a def's body has -/
def endsOf (Φ : Slot → Prop) (Ξ : XD → Prop) : DEnds := { nx := fun _ => Φ (.pu .none), rt := Φ, xr := fun x _ => Ξ x }
section
variable {P : Program} {w : World} {K : PySem.W.Frag} {mg : Str → Option Value} {base : Heap} {x qual : Str} {params : Arguments} {body : List Stmt} {scope : Scope} {f : Addr} {fd : FuncData}
theorem meets_def {H : Hp} {Q : VK} {E : XK} {Φ : Slot → Prop} {Ξ : XD → Prop} (r : RetOk K H Φ Q) (e : RaiOk K H Ξ E) : Meets K (fun cls d _ H => E cls d H) H { nx := fun _ H' => Q .non H', rt := Q } (endsOf Φ Ξ) where
  nx := fun F' σ H' ρ s env h => r.pu _ _ _ (s.trans env.fz.same) .non h
  bk := fun F' σ H' ρ s env h => h.elim
  ct := fun F' σ H' ρ s env h => h.elim
  rt := fun F' H' v d s z p h => r.pu v d H' (s.trans z.same) (p.up z.same) h
  rtO := fun F' H' a vs ds s z n q p h => by
    obtain ⟨G, g1, rfl⟩ := erase_upd q
    have s2 : Same F' G := fun b o e => by
      have c : b ≠ a := fun y => by rw [y, n] at e; cases e
      have q2 := z.same b o e
      rw [upd_ne c] at q2
      exact q2
    exact r.ow a vs ds G (s.trans s2) g1 (p.up s2) h
  xr := fun F' σ H' ρ x d s env hx h => e x d H' (s.trans env.fz.same) (hx.up env.fz.same) h
theorem fn_ok {N ps : List Str} {k : Nat} {dsp : DSp} {dvs : List V} {kws : List (Str × V)} (F : FunD K x qual params body scope dvs kws f fd) (S : FnScope N ps scope) (hps : ps.length ≤ N.length) (len : ∀ ds Φ Ξ, dsp ds Φ Ξ → ds.length = ps.length)
    (hb : ∀ (cdv : Value) (A : Around) (outer : List Env) (s : Shared) (H : Hp) (E : XK), Room k (A.deeper (envOfC qual scope s.heap.objs.size f cdv)) →
      ∃ d, GSs (cxOf (L2.CX P w) P w K mg base N qual scope f cdv A outer s H E) (fun cls d _ H => E cls d H) body d ∧ ∀ ds Φ Ξ, dsp ds Φ Ξ → d (endsOf Φ Ξ) (rho0 N ds)) : FnOk P w K mg base (L2.CX P w) (k + 1) f fd ps (lift K dsp) := by
  refine F.ok S (fun vs H Q E h => ?_) (fun cdv A outer s H vs Q E hr h => ?_)
  · obtain ⟨ds, Φ, Ξ, p, h1, _⟩ := h
    rw [p.len]
    exact len ds Φ Ξ h1
  · obtain ⟨ds, Φ, Ξ, p, h1, r, e⟩ := h
    obtain ⟨d, ⟨ts, a1, a2⟩, hd⟩ := hb cdv A outer s H E hr
    exact ⟨ts, a1, a2 _ (endsOf Φ Ξ) H _ H _ (start_env p (by rw [len ds Φ Ξ h1]; exact hps)) (hd ds Φ Ξ h1) (meets_def r e)⟩
theorem mkFN {ps : List Str} {k : Nat} {dsp : DSp} {dvs : List V} {kws : List (Str × V)} (F : FunD K x qual params body scope dvs kws f fd) (hm : mg x = some (.ref f)) (ok : FnOk P w K mg base (L2.CX P w) k f fd ps (lift K dsp)) (b : Binds K fd ps []) : FN P w K mg base x k dsp := ⟨f, fd, ps, [], [], _, ok, hm, F.kp, b, .nil, fun vs H Q E h => by rw [List.append_nil]; exact h⟩
end
/-- what leaves a def that wishes nothing -/
theorem cx_no {P : Program} {w : World} (H : Hp) (s : Shared) (e : Value) (s' : Shared) (h : L2.CX P w [] H s (fun _ _ _ => False) e s') : False := by
  obtain ⟨_, _, _, _, _, _, _, _, _, _, _, _, z⟩ := h
  exact z
/-- the law's promise: True of every script -/
def dspLaw (n : Nat) : DSp := fun ds Φ _ => ∃ ns : List Int, ns.length ≤ n ∧ ds = [.list (ns.map .int)] ∧ Φ (.pu (.bool true))
theorem lift_law {K : PySem.W.Frag} {n : Nat} {H : Hp} {a : Addr} {ns : List Int} (hl : ns.length ≤ n) (hS : SqL K H a (ns.map V.int)) : lift K (dspLaw n) [.ref a] H (fun v _ => v = .bl true) fun _ _ _ => False :=
  ⟨_, fun s => s = .pu (.bool true), fun _ => False, .one (.lst hS (DpAll.ints ns)), ⟨ns, hl, rfl, rfl⟩, ⟨fun v d H' s p e => by cases e; cases p; rfl, fun a vs ds H' s n p e => nomatch e⟩, fun x d H' s p z => z⟩
abbrev FnP (K : PySem.W.Frag) (x : Str) (st : Stmt) (f : Addr) (fd : FuncData) (dvs : List V := []) : Prop := FunD K x x (defArgs st) (defBody st) (defScope st) dvs [] f fd
theorem glo_tup {K : PySem.W.Frag} {mg : Str → Option Value} {x : Str} {a : Addr} {vs : List V} {ds : List Dt} (hm : mg x = some (.ref a)) (h : ∀ H, SqT K H a vs) (p : ∀ H, DpAll K H vs ds) : Glo K mg x (.tuple ds) := ⟨.ref a, .ref a, hm, rfl, fun H => .tup (h H) (p H)⟩
theorem glo_int {K : PySem.W.Frag} {mg : Str → Option Value} {x : Str} {i : Int} (h : ∃ t, mg x = some (.int i t)) : Glo K mg x (.int i) := by
  obtain ⟨t, e⟩ := h
  exact ⟨_, .int i, e, ⟨t, rfl⟩, fun H => .int i⟩
theorem glo_str {K : PySem.W.Frag} {mg : Str → Option Value} {x z : Str} (h : ∃ t, mg x = some (.str z t)) : Glo K mg x (.str z) := by
  obtain ⟨t, e⟩ := h
  exact ⟨_, .str z, e, ⟨t, rfl⟩, fun H => .str z⟩
end L2.D3
set_option maxHeartbeats 4000000
namespace L2.D3
open PySem PySem.Spec PyProof.Rows
section
variable {X : Cx} {K : PySem.W.Frag} {W : WX}
/-! ### + and * of any kind, -x, in -/
def rCatL (K : PySem.W.Frag) : R2 := fun x y H Q => ∃ a b xs ys, x = .ref a ∧ y = .ref b ∧ SqL K H a xs ∧ SqL K H b ys ∧ xs.length + ys.length ≤ sizeLine ∧ ∀ p, H p = none → Q (.ref p) (upd H p (.lst (xs ++ ys)))
theorem op_catL : OpR X (binaryOp .Add) (rCatL X.K) := by
  intro pins s σ H x y v u Q I rx ry h
  obtain ⟨a, b, xs, ys, rfl, rfl, ha, hb, hz, q⟩ := h
  cases rx
  cases ry
  obtain ⟨its, r, p1, z1⟩ := I.list ha
  obtain ⟨its2, r2, p2, z2⟩ := I.list hb
  have l1 := r.length
  have l2 := r2.length
  obtain ⟨⟨k1, dd1, dt1, sl1⟩, n1, g1, c1, d1, e1⟩ := p1
  obtain ⟨⟨k2, dd2, dt2, sl2⟩, n2, g2, c2, d2, e2⟩ := p2
  simp only at c1 e1 c2 e2
  subst c1 e1 c2 e2
  refine concat_meets ⟨_, g1, rfl⟩ ⟨_, g2, rfl⟩ noFill_list_add seq_list_add PySem.F.slot_list_add PySem.F.entry_list_add (PySem.F.args_list_add_2 _ _) (list_addW a b its.toArray its2.toArray n1 n2 dd1 dd2 sl1 sl2 (by rw [List.size_toArray, List.size_toArray]; omega)) ⟨g1, g2, ?_⟩
  have ea : its.toArray ++ its2.toArray = (its ++ its2).toArray := by simp
  rw [ea]
  exact ⟨.ref _, _, I.lnew (t' := s.toks) (r.append r2) (by rw [List.length_append]; omega), rfl, q _ I.fresh⟩
def oAddU : DO := fun x y Φ => match x, y with
  | .int i, .int j => Φ (.int (i + j))
  | .str a, .str b => a.length + b.length ≤ sizeLine ∧ Φ (.str (a ++ b))
  | .list xs, .list ys => xs.length + ys.length ≤ sizeLine ∧ Φ (.list (xs ++ ys))
  | .tuple xs, .tuple ys => xs.length + ys.length ≤ sizeLine ∧ Φ (.tuple (xs ++ ys))
  | _, _ => False
theorem o_addU : OpG X (binaryOp .Add) oAddU := by
  refine ⟨_, OpR.or op_add (OpR.or op_add_str (OpR.or op_catL op_catA)), fun x y H Q dx dy Φ px py ho q => ?_⟩
  cases dx with
  | int i =>
    cases dy with
    | int j => cases px; cases py; exact .inl ⟨i, j, rfl, rfl, q _ H _ (Same.refl H) (.int _) ho⟩
    | _ => exact ho.elim
  | str a =>
    cases dy with
    | str b => cases px; cases py; exact .inr (.inl ⟨a, b, rfl, rfl, ho.1, q _ H _ (Same.refl H) (.str _) ho.2⟩)
    | _ => exact ho.elim
  | list xs =>
    cases dy with
    | list ys =>
      cases px with
      | @lst a us _ hs ha =>
        cases py with
        | @lst b ws _ hs2 ha2 =>
          refine .inr (.inr (.inl ⟨a, b, us, ws, rfl, rfl, hs, hs2, by rw [ha.len, ha2.len]; exact ho.1, fun p n => ?_⟩))
          have s := same_new (o := .lst (us ++ ws)) n
          exact q _ _ _ s (.lst (SqL.of upd_same) ((ha.app ha2).up s)) ho.2
    | _ => exact ho.elim
  | tuple xs =>
    cases dy with
    | tuple ys =>
      cases px with
      | @tup a us _ hs ha =>
        cases py with
        | @tup b ws _ hs2 ha2 =>
          refine .inr (.inr (.inr ⟨a, b, us, ws, rfl, rfl, hs, hs2, by rw [ha.len, ha2.len]; exact ho.1, fun e => ?_, fun e1 e2 => ?_, fun e1 e2 p n => ?_⟩))
          · subst e
            cases xs with
            | nil => exact q _ _ _ (Same.refl H) (.tup hs2 ha2) ho.2
            | cons _ _ => cases ha
          · subst e2
            cases ys with
            | nil =>
              have h2 := ho.2
              rw [List.append_nil] at h2
              exact q _ _ _ (Same.refl H) (.tup hs ha) h2
            | cons _ _ => cases ha2
          · have s := same_new (o := .tup (us ++ ws)) n
            exact q _ _ _ s (.tup (SqT.of upd_same) ((ha.app ha2).up s)) ho.2
    | _ => exact ho.elim
  | _ => exact ho.elim
/-- a text n times -/
def strRep (a : Str) (n : Nat) : Str := ⟨(List.replicate n a.cps).foldl (· ++ ·) #[]⟩
theorem rep_size (a : Array Nat) : ∀ (n : Nat) (acc : Array Nat), ((List.replicate n a).foldl (· ++ ·) acc).size = acc.size + n * a.size
  | 0, acc => by simp
  | n + 1, acc => by
    rw [List.replicate_succ, List.foldl_cons, rep_size a n, Array.size_append, Nat.succ_mul]
    omega
def rRepS : R2 := fun x y H Q => ∃ (a : Str) (k : Int), x = .str a ∧ y = .int k ∧ 2 ≤ k ∧ k ≤ 1000 ∧ a.length = 1 ∧ Q (.str (strRep a k.toNat)) H
theorem op_repS : OpR X (binaryOp .Mult) rRepS := by
  intro pins s σ H x y v u Q I rx ry h
  obtain ⟨a, k, rfl, rfl, h1, h2, h3, q⟩ := h
  obtain ⟨t, rfl⟩ := rx
  obtain ⟨t2, rfl⟩ := ry
  have n1 : ¬ k < 1 := by omega
  have n2 : (k == 1 || a.length == 0) = false := by rw [h3]; simp; omega
  have hz : (1000 : Nat) ≤ sizeLine := by decide
  refine PySem.P.mul_str (by rw [decide_eq_false (by omega), decide_eq_false (by omega)]; rfl) (fun _ _ => ?_) (fun _ _ => ?_) ?_
  · rw [h3]
    have : 1 ≤ ((2 : Int) ^ 63 - 1) / k := by
      rw [Int.le_ediv_iff_mul_le (by omega)]
      omega
    omega
  · rw [h3, Nat.one_mul]
    unfold Builtin.Str.tooLong
    exact decide_eq_false (by omega)
  · rw [if_neg n1, n2]
    refine ⟨?_, .str (strRep a k.toNat), H, I.tok _, ⟨_, rfl⟩, q⟩
    show (strRep a k.toNat).cps.size ≤ sizeLine
    have e : a.cps.size = 1 := h3
    unfold strRep
    rw [rep_size, e]
    simp
    omega
def oMulU : DO := fun x y Φ => match x, y with
  | .int i, .int j => CMulW i j ∧ Φ (.int (i * j))
  | .tuple xs, .int k => xs ≠ [] ∧ 2 ≤ k ∧ k ≤ 1000 ∧ xs.length ≤ 1000 ∧ Φ (.tuple (List.replicate k.toNat xs).flatten)
  | .str a, .int k => 2 ≤ k ∧ k ≤ 1000 ∧ a.length = 1 ∧ Φ (.str (strRep a k.toNat))
  | _, _ => False
theorem DpAll.rep {H : Hp} {ds : List Dt} {vs : List V} (h : DpAll K H vs ds) : ∀ n : Nat, DpAll K H (List.replicate n vs).flatten (List.replicate n ds).flatten
  | 0 => .nil
  | n + 1 => by
    rw [List.replicate_succ, List.replicate_succ, List.flatten_cons, List.flatten_cons]
    exact h.app (DpAll.rep h n)
theorem o_mulU : OpG X (binaryOp .Mult) oMulU := by
  refine ⟨_, OpR.or op_mulW (OpR.or op_repT op_repS), fun x y H Q dx dy Φ px py ho q => ?_⟩
  cases dx with
  | int i =>
    cases dy with
    | int j => cases px; cases py; exact .inl ⟨i, j, rfl, rfl, ho.1, q _ H _ (Same.refl H) (.int _) ho.2⟩
    | _ => exact ho.elim
  | tuple xs =>
    cases dy with
    | int k =>
      cases py
      cases px with
      | @tup a us _ hs ha =>
        obtain ⟨h0, h1, h2, h3, hΦ⟩ := ho
        refine .inr (.inl ⟨a, k, us, rfl, rfl, hs, ?_, h1, h2, by rw [ha.len]; exact h3, fun p n => ?_⟩)
        · intro z
          rw [z] at ha
          cases ha
          exact h0 rfl
        · have s := same_new (o := .tup (List.replicate k.toNat us).flatten) n
          exact q _ _ _ s (.tup (SqT.of upd_same) ((ha.rep _).up s)) hΦ
    | _ => exact ho.elim
  | str a =>
    cases dy with
    | int k =>
      cases px; cases py
      obtain ⟨h1, h2, h3, hΦ⟩ := ho
      exact .inr (.inr ⟨a, k, rfl, rfl, h1, h2, h3, q _ H _ (Same.refl H) (.str _) hΦ⟩)
    | _ => exact ho.elim
  | _ => exact ho.elim
def dNeg (da : DE) : DE := fun φ Φ => da φ fun x => match x with
  | .int i => Φ (.int (-i))
  | _ => False
theorem g_neg {a : Expr} {da : DE} {pos : Pos} (ha : GE X a da) : GE X (.UnaryOp .USub a pos) (dNeg da) := by
  obtain ⟨ta, a1, a2⟩ := ha
  refine ⟨_, pe_un un_neg a1, fun σ H φ Φ Q env h q => a2 σ H φ _ _ env h fun v H1 d s1 p h1 => ?_⟩
  cases d with
  | int i => cases p; exact ⟨i, rfl, q _ H1 _ s1 (.int _) h1⟩
  | _ => exact h1.elim
/-- x in y, y a list or tuple of data -/
def oIn : DO := fun x y Φ => SeqAt.shaped x = true ∧ SeqAt.shaped y = true ∧ match y with
  | .list ds => Φ (.bool (ds.any fun z => PyData.eqv z x))
  | .tuple ds => Φ (.bool (ds.any fun z => PyData.eqv z x))
  | .str z => match x with
    | .str c => c.length = 1 ∧ Φ (.bool (decide (c.cps.getD 0 0 ∈ z.cps.toList)))
    | _ => False
  | _ => False
def oNin : DO := fun x y Φ => SeqAt.shaped x = true ∧ SeqAt.shaped y = true ∧ match y with
  | .list ds => Φ (.bool (!ds.any fun z => PyData.eqv z x))
  | .tuple ds => Φ (.bool (!ds.any fun z => PyData.eqv z x))
  | .str z => match x with
    | .str c => c.length = 1 ∧ Φ (.bool (!decide (c.cps.getD 0 0 ∈ z.cps.toList)))
    | _ => False
  | _ => False
def rInTD (K : PySem.W.Frag) : R2 := fun x y H Q => ∃ d ds, Dp K H x d ∧ Dp K H y (.tuple ds) ∧ SeqAt.shaped d = true ∧ SeqAt.shaped (.tuple ds) = true ∧ Q (.bl (ds.any fun z => PyData.eqv z d)) H
def rNinTD (K : PySem.W.Frag) : R2 := fun x y H Q => ∃ d ds, Dp K H x d ∧ Dp K H y (.tuple ds) ∧ SeqAt.shaped d = true ∧ SeqAt.shaped (.tuple ds) = true ∧ Q (.bl (!ds.any fun z => PyData.eqv z d)) H
theorem op_inTD (hu : X.A.units + 65 < cLine) : OpR X (compareOp .In) (rInTD X.K) := by
  intro pins s σ H x y v u Q I rx ry h
  obtain ⟨d, ds, hd, he, sd, se, q⟩ := h
  obtain ⟨as, r1⟩ := L2.Dp.reads I d x v (hd.old sd) rx
  obtain ⟨bs, r2⟩ := L2.Dp.reads I (.tuple ds) y u (he.old se) ry
  exact SeqAt.in_tuple_reads r2 r1 (SeqAt.canLay_of_shaped se) (SeqAt.canLay_of_shaped sd) (room_in_shaped sd hu) ⟨.bl _, H, I, rfl, q⟩
theorem op_ninTD (hu : X.A.units + 65 < cLine) : OpR X (compareOp .NotIn) (rNinTD X.K) := by
  intro pins s σ H x y v u Q I rx ry h
  obtain ⟨d, ds, hd, he, sd, se, q⟩ := h
  obtain ⟨as, r1⟩ := L2.Dp.reads I d x v (hd.old sd) rx
  obtain ⟨bs, r2⟩ := L2.Dp.reads I (.tuple ds) y u (he.old se) ry
  exact SeqAt.notIn_tuple_reads r2 r1 (SeqAt.canLay_of_shaped se) (SeqAt.canLay_of_shaped sd) (room_in_shaped sd hu) ⟨.bl _, H, I, rfl, q⟩
theorem str_one {c : Str} (h : c.length = 1) : c = ⟨#[c.cps.getD 0 0]⟩ := by
  obtain ⟨l⟩ := c
  obtain ⟨l⟩ := l
  match l, h with
  | [a], _ => rfl
theorem room65 {k : Nat} {A : Around} (hr : Room k A) : A.units + 65 < cLine := by have := hr.un; omega
theorem o_in {k : Nat} (hr : Room k X.A) : OpG X (compareOp .In) oIn := by
  refine ⟨_, OpR.or (op_inD (room65 hr)) (OpR.or (op_inTD (room65 hr)) op_in_sign), fun x y H Q dx dy Φ px py ho q => ?_⟩
  obtain ⟨h1, h2, h3⟩ := ho
  cases dy with
  | list ds => exact .inl ⟨dx, ds, px.old h1, py.old h2, h1, h2, q _ H _ (Same.refl H) (.bl _) h3⟩
  | tuple ds => exact .inr (.inl ⟨dx, ds, px, py, h1, h2, q _ H _ (Same.refl H) (.bl _) h3⟩)
  | str z =>
    cases dx with
    | str c =>
      cases px; cases py
      exact .inr (.inr ⟨c.cps.getD 0 0, z, congrArg V.str (str_one h3.1), rfl, q _ H _ (Same.refl H) (.bl _) h3.2⟩)
    | _ => exact h3.elim
  | _ => exact h3.elim
theorem o_nin {k : Nat} (hr : Room k X.A) : OpG X (compareOp .NotIn) oNin := by
  refine ⟨_, OpR.or (op_notInD (room65 hr)) (OpR.or (op_ninTD (room65 hr)) op_notIn_sign), fun x y H Q dx dy Φ px py ho q => ?_⟩
  obtain ⟨h1, h2, h3⟩ := ho
  cases dy with
  | list ds => exact .inl ⟨dx, ds, px.old h1, py.old h2, h1, h2, q _ H _ (Same.refl H) (.bl _) h3⟩
  | tuple ds => exact .inr (.inl ⟨dx, ds, px, py, h1, h2, q _ H _ (Same.refl H) (.bl _) h3⟩)
  | str z =>
    cases dx with
    | str c =>
      cases px; cases py
      exact .inr (.inr ⟨c.cps.getD 0 0, z, congrArg V.str (str_one h3.1), rfl, q _ H _ (Same.refl H) (.bl _) h3.2⟩)
    | _ => exact h3.elim
  | _ => exact h3.elim
/-! ### a, b = e1, e2 of anything -/
/-! ### x += e -/
/-! ### more methods of owned lists -/
def dClear (i : Nat) : DS := fun E ρ => match getS ρ i with
  | .ow _ => E.nx (setS ρ i (.ow []))
  | _ => False
def dReverse (i : Nat) : DS := fun E ρ => match getS ρ i with
  | .ow ds => E.nx (setS ρ i (.ow ds.reverse))
  | _ => False
def dPop (i : Nat) : DS := fun E ρ => match getS ρ i with
  | .ow ds => ds ≠ [] ∧ E.nx (setS ρ i (.ow ds.dropLast))
  | _ => False
theorem DpAll.dropLast {H : Hp} : ∀ {ds : List Dt} {vs : List V}, DpAll K H vs ds → DpAll K H vs.dropLast ds.dropLast := fun {ds vs} h => by
  rw [List.dropLast_eq_take, List.dropLast_eq_take, h.len]
  exact h.take _
end
end L2.D3
set_option maxHeartbeats 4000000
namespace L2.D3
open PySem PySem.Spec PyProof.Rows
/-! ### no list stands in the written part -/
def NoL (K : PySem.W.Frag) : Prop := ∀ a o, K.lookup a = some o → o.cls ≠ .type "list"
def noLB (K : PySem.W.Frag) : Bool := K.all fun p => !decide (p.2.cls = .type "list")
theorem lookup_memF {a : Addr} {o : Obj} : ∀ {l : List (Addr × Obj)}, l.lookup a = some o → (a, o) ∈ l
  | [], h => by cases h
  | (b, u) :: r, h => by
    by_cases c : (a == b) = true
    · have h' : some u = some o := by simpa [List.lookup, c] using h
      cases h'
      rw [beq_iff_eq.mp c]
      exact List.mem_cons_self
    · have c2 : (a == b) = false := by simpa using c
      have h' : List.lookup a r = some o := by simpa [List.lookup, c2] using h
      exact List.mem_cons_of_mem _ (lookup_memF h')
theorem noL_of {K : PySem.W.Frag} (h : noLB K = true) : NoL K := fun a o e z => by
  have q := List.all_eq_true.mp h (a, o) (lookup_memF e)
  rw [decide_eq_true z] at q
  cases q
/-! ### the head's facts, with a truth more -/
/-! ### found.extend(e) -/
section
variable {X : Cx} {K : PySem.W.Frag} {W : WX}
def dExtend (i : Nat) (de : DE) : DS := fun E ρ => match getS ρ i with
  | .ow ds => de (purF ρ) fun d => match d with
    | .list es => ds.length + es.length ≤ sizeLine ∧ E.nx (setS ρ i (.ow (ds ++ es)))
    | _ => False
  | _ => False
/-! ### int(x) -/
abbrev bIntU := bInt
theorem c_intU {X : Cx} : CallG X (.type "int") bIntU := c_int
end
end L2.D3
set_option maxHeartbeats 4000000
namespace L2.D3
open PySem PySem.Spec PyProof.Rows
section
variable {X : Cx} {K : PySem.W.Frag}
/-! ### xs[::-1] -/
def dRev (da : DE) : DE := fun φ Φ => da φ fun d => match d with
  | .list ds => Φ (.list ds.reverse)
  | .tuple ds => Φ (.tuple ds.reverse)
  | _ => False
end
end L2.D3
set_option maxHeartbeats 4000000
/-! The end of a law, where what is caught may hang on the world. -/
namespace L2.D3
open PySem PySem.Spec PyProof.Rows
theorem walk_ofW {lw : PySem.W.OpenLaw} {m k : Nat} {qv : Program} {ls : List Str} {X1 : (Str → Option Value) → Heap → Prop} {Y1 : World → Heap → Prop} {dr : DefRec} {C : World → CXT} {x : Str} (hm : lw.most = some m) (hm2 : m ≤ sizeLine) (hdf : dr.params.defaults = []) (hroom : Room k callerA)
    (hall : ∀ (w : World) (mg : Str → Option Value) (fa : Addr) (h : Heap), Y1 w h → h.Ns mainGlobals mg → mg dr.name = some (.ref fa) → ∃ (K : PySem.W.Frag) (fd : FuncData) (sp : Sp), K.In h ∧ (∀ (s : Shared) (u : Value), BindsTo s fd ⟨[u], []⟩ [(x, u)]) ∧
        (∀ (H : Hp) (a : Addr) (ns : List Int), ns.length ≤ m → Only H → SqL K H a (ns.map V.int) → sp [.ref a] H (fun v _ => v = .bl true) fun _ _ _ => False) ∧ ∀ base : Heap, K.In base → base.Ns mainGlobals mg → FnOk lw.prog w K mg base (C w) k fa fd [x] sp)
    (hno : ∀ (w : World) (H : Hp) (s : Shared) (e : Value) (s2 : Shared), C w [] H s (fun _ _ _ => False) e s2 → False) : PySem.W.WalkO qv ls X1 Y1 lw.row.toRowW dr [] (fun f vs => PySem.call f vs) := by
  refine Att.attach_call hm hdf fun w s0 s1 mg mb fa ob pm cd doc a us ns G hY _ _ _ hmg hobj hints hlen hg => ?_
  obtain ⟨K, fd, sp, hK, hb, hsp, hfn⟩ := hall w mg fa _ hY G.T.g hmg
  exact law_call hK G.T.g G.T.b G.T.builtins G.T.nolimit hg hobj hints (Nat.le_trans hlen hm2) hroom hfn hb (fun H hO hS => hsp H a ns hlen hO hS) fun H e s2 => hno w H s1 e s2
end L2.D3
set_option maxHeartbeats 4000000
/-! Exceptions: raised, let through, caught, asked. -/
namespace L2.D3
open PySem PySem.Spec PyProof.Rows
/-- an exception that was caught, at a -/
def ExC (cls : Value) (d : Option Addr) (a : Addr) : HO := .ext fun h => ∃ (ob : Obj) (fv : Array Value), h.get? a = some ob ∧ Zc cls d ob ∧ ob.data = .fields fv
theorem exC_ok {P : Program} {w : World} {H : Hp} {h : Heap} {a : Addr} {cls : Value} {d : Option Addr} {ob : Obj} {fv : Array Value} (e : h.get? a = some ob) (z : Zc cls d ob) (q : ob.data = .fields fv) : ObjOk P w H h a (ExC cls d a) :=
  ⟨⟨ob, fv, e, z, q⟩, ⟨ob, e⟩, fun _ _ ⟨o2, v2, q2, r2⟩ k => ⟨o2, v2, k o2 q2, r2⟩⟩
def ExAt (K : PySem.W.Frag) (H : Hp) (a : Addr) (x : XD) : Prop := ∃ d, H a = some (ExC (.ref (He.ga K x.cls)) d a) ∧ XAt K H x d
def exA (x : XD) : Ass := ⟨fun K H v => ∃ a, v = .ref a ∧ ExAt K H a x, fun K H H' v s ⟨a, e, d, h1, h2⟩ => ⟨a, e, d, s _ _ h1, h2.up s⟩⟩
section
variable {X : Cx} {pins : List (Addr × Obj)} {σ : St} {H : Hp} {s : Shared}
theorem inv_track {a : Addr} {ob : Obj} {fv : Array Value} {cls : Value} {d : Option Addr} (I : Inv X pins σ H s) (ha : s.heap.get? a = some ob) (hz : Zc cls d ob) (hd : ob.data = .fields fv) (na : H a = none) (n0 : X.s_0.heap.get? a = none) (nL : a ≠ X.env.locals) (np : ∀ p ∈ X.pn ++ pins, p.1 ≠ a) :
    Inv X pins σ (upd H a (ExC cls d a)) s := by
  refine ⟨I.ok, I.os, I.bare, ⟨I.base.keep, I.base.slot, fun b o e n hx => ?_, I.base.there, fun b xs q => ?_, fun b o u q => ?_, fun b ps q => ?_⟩, I.loc, I.cell, ?_, fun x c e => ?_, fun p hp => ?_, I.hok.laidN (fun _ _ e => e) na (exC_ok ha hz hd), I.len⟩
  · rw [upd_ne (fun z => by rw [z, n0] at e; cases e)]
    exact I.base.free b o e n hx
  · have q1 := I.base.tups b xs q
    rw [upd_ne (ne_of_none q1 na)]
    exact q1
  · have q1 := I.base.frzs b o u q
    rw [upd_ne (ne_of_none q1 na)]
    exact q1
  · obtain ⟨m, q1⟩ := I.base.tbls b ps q
    exact ⟨m, by rw [upd_ne (ne_of_none q1 na)]; exact q1⟩
  · rw [upd_ne (Ne.symm nL)]
    exact I.free
  · obtain ⟨v, o, ho, hc⟩ := I.cell x c e
    rw [upd_ne (fun z => by rw [z, ha] at ho; cases ho; rw [hd] at hc; cases hc)]
    exact I.freeC x c e
  · obtain ⟨p1, p2, p3⟩ := I.pin p hp
    exact ⟨p1, by rw [upd_ne (np p hp)]; exact p2, p3⟩
theorem inv_in {a : Addr} (I : Inv X pins σ H s) : Inv (X.suite a (X.pn ++ pins)) [] σ H s :=
  ⟨I.ok.suite _ _, I.os, I.bare, I.base, I.loc, I.cell, I.free, I.freeC, fun p hp => I.pin p (by rw [List.append_nil] at hp; exact hp), I.hok, I.len⟩
theorem inv_out {a : Addr} {more : List (Addr × Obj)} (I : Inv (X.suite a (X.pn ++ pins)) more σ H s) (ok : X.Ok) : Inv X pins σ H s :=
  ⟨ok, I.os, I.bare, I.base, I.loc, I.cell, I.free, I.freeC, fun p hp => I.pin p (List.mem_append_left _ hp), I.hok, I.len⟩
end
/-- what the clause wishes of an exception of the body; the suite sees it as a tracked object -/
def wAn (K : PySem.W.Frag) (c : Value) (i : Nat) (ts : TS) (Wo : WX) (D : Ends) : WX := fun cls d σ H =>
  ∃ b, PySem.W.exmOne K cls c = some b ∧ (b = true → ∀ a, H a = none → ts { nx := fun σ2 H2 => D.nx (σ2.set i none) H2, rt := D.rt, bk := fun σ2 H2 => D.bk (σ2.set i none) H2, ct := fun σ2 H2 => D.ct (σ2.set i none) H2 } (σ.set i (some (.ref a))) (upd H a (ExC cls d a))) ∧ (b = false → Wo cls d σ H)
section
variable {X : Cx} {x n : Str} {c : Value} {i : Nat} {body suite : List Stmt} {b1 : Stmt} {np pos pos2 : Pos} {tb : WX → TS} {ts : TS} {Wo : WX}
theorem ps_try_an (hst : X.stack = X.env :: X.outer) (hfr : X.env.frame = some X.env.locals) (hex : X.ex = []) (hN : X.N.Nodup) (hi : X.N[i]? = some n) (hln : X.env.kindOf n = some .local) (hc : Names X x c) (tk : Takes X Wo)
    (hb : ∀ (W : WX) (pn : List (Addr × Obj)) (xe : Value → Shared → Prop), Takes (X.tr pn xe) W → PassesOwn (model X.prog X.w) X.A X.env xe → PSs (X.tr pn xe) body (tb W))
    (hsu : ∀ (a : Addr) (pn : List (Addr × Obj)), PSs (X.suite a pn) (b1 :: suite) ts) : PS X (.Try body [.ExceptHandler (some (.Name x np)) (some n) (b1 :: suite) pos2] [] [] pos) (fun D σ H => tb (wAn X.K c i ts Wo D) D σ H) := by
  refine ⟨fun pins s σ H D I h => ?_⟩
  have okX := I.ok
  have frames : X.A.frames = some (X.env :: X.outer) := by rw [okX.frames, hst]
  have locn : Loc X.env.scope n := .inl hln
  refine wpAny_Try_except ?_
  refine wpAny_mono ((hb (wAn X.K c i ts Wo D) (X.pn ++ pins) (fun e s₁ => wpAny (model X.prog X.w) X.A (noteFrame e X.env) (fun _ s₂ => wpAny (model X.prog X.w) X.A (setFlight e none) (fun _ s₃ => wpAny (model X.prog X.w) X.A (handleBy e X.env [.ExceptHandler (some (.Name x np)) (some n) (b1 :: suite) pos2]) (SP X pins D) X.xe s₃) X.xe s₂) X.xe s₁) (fun u s' xx => ?_) PassesOwn.looking).run [] s σ H D (I.toTry _) h) (fun f s1 hsp => ?_) (fun e s1 he => he)
  · obtain ⟨a, B, sI, pins2, σ2, H2, cls, d, rfl, J2, nb, up, sky, na, os, ag, b, hm, yes, no⟩ := xx
    have J : Inv X pins σ2 H2 sI := J2.ofTry okX
    have sky2 : Sky B (X.env :: X.outer) a (Zc cls d) X.env.locals s'.heap := by rw [← hst]; exact sky
    show wpAny (model X.prog X.w) X.A (noteFrame (.ref a) X.env) _ _ _
    refine Sky.land Zc.steady frames hfr sky2 fun h3 fl3 up3 => ?_
    have J3 : Inv X pins σ2 H2 { s' with heap := h3 } := J.landed nb fl3.1 (up.trans up3) os ag
    obtain ⟨ob3, fv3, get3, z3, dat3⟩ := fl3.there
    have nfr : a ∉ frs (X.env :: X.outer) := fun m => by
      obtain ⟨_, o2, e2, nf⟩ := fl3.2.2.1.mem m
      rw [get3] at e2
      cases e2
      exact nf _ dat3
    have nL : a ≠ X.env.locals := fun z => nfr (List.mem_filterMap.mpr ⟨X.env, List.mem_cons_self, by rw [hfr, z]⟩)
    have gone : sI.heap.get? a = none := by
      cases e : sI.heap.get? a with
      | none => rfl
      | some o =>
        have z := nb a o e (by rw [hst]; exact nfr)
        rw [fl3.2.1] at z
        cases z
    have n0 : X.s_0.heap.get? a = none := by
      cases e : X.s_0.heap.get? a with
      | none => rfl
      | some o =>
        obtain ⟨o2, z⟩ := J.base.there a o e (by rw [hex]; exact fun y => nomatch y)
        rw [gone] at z
        cases z
    have npin : ∀ p ∈ X.pn ++ pins, p.1 ≠ a := fun p hp z => by
      have y := (J.pin p hp).1
      rw [z, gone] at y
      cases y
    have S3 := inv_in (a := a) J3
    refine wpAny_handleBy_cons (codeAny_handlers_test ?_) (by intro q; cases q)
    have LT : PySem.W.Looks (model X.prog X.w) h3 (typeOf (.ref a)) cls := fun A Q E s k q => wpAny_typeOf_ref (k _ _ get3) (by rw [z3.1]; exact q)
    have LM := PySem.W.exm_one (M := model X.prog X.w) J3.kIn LT hm
    have test : ∀ {Q : Value → Shared → Prop} {E : Value → Shared → Prop}, Q c { s' with heap := h3 } → wpAny (model X.prog X.w) (X.A.mark (some (.ref a))) (eval (.Name x np) X.env) Q E { s' with heap := h3 } := fun {Q E} q => by
      obtain ⟨hg, hdbg, hmg | ⟨hmg, hv, hnn⟩⟩ := hc
      · exact ld_glob (X := X.suite a (X.pn ++ pins)) S3 hg hmg q hdbg
      · exact ld_blt (X := X.suite a (X.pn ++ pins)) S3 hg hmg hv q hnn hdbg
    refine test (LM.here ?_)
    cases b with
    | true =>
      refine codeAny_handlers_suite_as (HandSPX.lands_againZ fl3 fun h4 fl4 up4 => ?_)
      have J4 : Inv X pins σ2 H2 { s' with heap := h4 } := J.landed nb fl4.1 ((up.trans up3).trans up4) os ag
      obtain ⟨ob4, fv4, get4, z4, dat4⟩ := fl4.there
      have S4 := inv_in (a := a) (inv_track (cls := cls) (d := d) J4 get4 z4 dat4 na n0 nL npin)
      refine store_ok (X := X.suite a (X.pn ++ pins)) (v := .ref a) S4 hN hi locn rfl (fun s5 S5 => ?_) (.inr hln)
      refine wpAny_mono ((hsu a (X.pn ++ pins)).run [] s5 _ _ _ S5 (yes rfl a na)) (fun f s6 hsp => ?_) (fun _ _ z => False.elim z)
      have fin : ∀ {σ6 : St} {H6 : Hp} {Q : Shared → Prop}, Inv (X.suite a (X.pn ++ pins)) [] σ6 H6 s6 → (∀ s7, Inv X pins (σ6.set i none) H6 s7 → Q s7) → wpAny (model X.prog X.w) X.A (do bindName X.env n .none; unbindBehindTheSuite X.env n pos2) (fun _ s7 => Q s7) X.xe s6 := fun {σ6 H6 Q} S6 hq => gone_ok (inv_out S6 okX) hN hi hln hq
      cases f with
      | ret u =>
        obtain ⟨v6, σ6, H6, S6, r6, q6⟩ := hsp
        exact fin S6 fun s7 J7 => ⟨_, _, _, J7, r6, q6⟩
      | _ =>
        obtain ⟨σ6, H6, S6, q6⟩ := hsp
        exact fin S6 fun s7 J7 => ⟨_, _, J7, q6⟩
    | false =>
      show wpAny _ X.A (handleBy (.ref a) X.env []) _ _ _
      refine wpAny_handleBy_nil ?_
      obtain ⟨k1, k2, k3, ob, fv, T, oT, ts2, he, hz, hd, h1, hr⟩ := id fl3
      unfold PySem.passOn
      refine wpAny_bind (wpAny_field he hd h1 ?_)
      rw [if_neg (show ¬ ((Value.ref T == Value.none) = true) from by simp)]
      have on : wpAny (model X.prog X.w) X.A (setFlight (.ref a) X.env.frame) (fun _ s4 => wpAny (model X.prog X.w) X.A (throw (.ref a) : Sem Flow) (SP X pins D) X.xe s4) X.xe { s' with heap := h3 } := by
        rw [hfr]
        refine HandSPX.setFlight_upZ fl3 fun h4 hh4 up4 => wpAny_throw (tk _ _ ?_)
        exact ⟨a, B, sI, pins, σ2, H2, cls, d, rfl, J, nb, (up.trans up3).trans up4, .inr (.inr (by rw [hst]; exact hh4)), na, os, ag, no rfl⟩
      first
        | exact wpAny_bind (wpAny_pure (wpAny_bind on))
        | exact wpAny_bind on
  · cases f with
    | next =>
      obtain ⟨σ2, H2, J2, q⟩ := hsp
      exact wpAny_execs_nil ⟨σ2, H2, J2.ofTry okX, q⟩
    | ret u =>
      obtain ⟨v, σ2, H2, J2, r, q⟩ := hsp
      exact ⟨v, σ2, H2, J2.ofTry okX, r, q⟩
    | _ =>
      obtain ⟨σ2, H2, J2, q⟩ := hsp
      exact ⟨σ2, H2, J2.ofTry okX, q⟩
end
end L2.D3
set_option maxHeartbeats 4000000
/-! Exceptions at the level of data. -/
namespace L2.D3
open PySem PySem.Spec PyProof.Rows
/-- what a reading wishes, as a wish of the layer below -/
def tSD (K : PySem.W.Frag) (W : WX) (d : DS) : TS := fun D σ H => ∃ E F ρ, EnvO K F σ H ρ ∧ d E ρ ∧ Meets K W F D E
theorem GSs.pss {X : Cx} {W : WX} {st : List Stmt} {d : DS} (h : GSs X W st d) : PSs X st (tSD X.K W d) := by
  obtain ⟨ts, a1, a2⟩ := h
  refine ⟨fun pins s σ H D I hw => ?_⟩
  obtain ⟨E, F, ρ, env, hd, m⟩ := hw
  exact a1.run pins s σ H D I (a2 D E F σ H ρ env hd m)
/-! raise -/
def dRaise (x : XD) : DS := fun E ρ => E.xr x ρ
/-- an own exception class without an __init__ of its own -/
structure ExF (K : PySem.W.Frag) (x : Str) : Prop where
  ex : PySem.W.excIn K (He.ga K x) He.veBase "ValueError.__new__" = true
  kp : PySem.W.keepIn K (.ref (He.ga K x)) = true
  sb : PySem.W.subIn K (.ref (He.ga K x)) (.type "BaseException") = some true
  ty : PySem.W.typeIn K (.ref (He.ga K x)) = some (.type "type")
section
variable {X : Cx} {W : WX}
theorem s_raise {x m : Str} {j : Nat} {p p2 pos pos2 : Pos} (hc : X.calm = true) (tk : Takes X W) (c : ExF X.K x) (gC : X.mg x = some (.ref (He.ga X.K x))) (hg : Gl X x := by rfl) (hdb : (x == ("__debug__" : Str)) = false := by decide) :
    GS X W (.Raise (some (.Call (.Name x p) [.Constant (.str m) j p2] [] pos)) none pos2) (dRaise ⟨x, []⟩) :=
  ⟨_, ps_raise hc tk (pmk_own PySem.F.excBase_ValueError c.ex gC c.kp (raises_own c.sb c.ty) hg hdb), fun D E F σ H ρ env h m => m.xr F σ H ρ ⟨x, []⟩ none (Same.refl F) env rfl h⟩
/-! calls that may raise -/
def noOw : Rho → Prop
  | [] => True
  | .ow _ :: _ => False
  | .tr _ :: _ => False
  | _ :: r => noOw r
theorem noOw_get : ∀ {ρ : Rho} {i : Nat} {ds : List Dt}, noOw ρ → getS ρ i ≠ .ow ds
  | [], i, ds, _ => fun h => nomatch h
  | a :: r, 0, ds, h => by cases a <;> first | exact h.elim | exact fun z => nomatch z
  | a :: r, i + 1, ds, h => by cases a <;> first | exact h.elim | exact noOw_get (ρ := r) (i := i) h
theorem noOw_tr : ∀ {ρ : Rho} {i : Nat} {t : Tr}, noOw ρ → getS ρ i ≠ .tr t
  | [], i, ds, _ => fun h => nomatch h
  | a :: r, 0, ds, h => by cases a <;> first | exact h.elim | exact fun z => nomatch z
  | a :: r, i + 1, ds, h => by cases a <;> first | exact h.elim | exact noOw_tr (ρ := r) (i := i) h
theorem EnvO.flat {K : PySem.W.Frag} {F H H' : Hp} {σ : St} {ρ : Rho} (e : EnvO K F σ H ρ) (n : noOw ρ) (s : Same H H') : EnvO K H' σ H' ρ :=
  ⟨Fz.refl H', e.len, fun i d h => by obtain ⟨v, a, b⟩ := e.pu i d h; exact ⟨v, a, b.up (e.fz.same.trans s)⟩, fun i A h => by obtain ⟨v, a, b⟩ := e.an i A h; exact ⟨v, a, A.up _ _ _ _ (e.fz.same.trans s) b⟩, fun i ds h => absurd h (noOw_get n), fun i j ds es a hij h => absurd h (noOw_get n), sep_no fun i t => noOw_tr n⟩
section
variable {f : Str} {k : Nat} {dsp : DSp} {e : Expr} {es : List Expr} {da : DA} {p pos : Pos}
def dSetX (i : Nat) (dsp : DSp) (da : DA) : DS := fun E ρ => noOw ρ ∧ da (allF ρ) fun ds => dsp ds (fun s => E.nx (setS ρ i (.pu s.dat))) (fun x => E.xr x ρ)
def dCallX (dsp : DSp) (da : DA) : DS := fun E ρ => noOw ρ ∧ da (allF ρ) fun ds => dsp ds (fun _ => E.nx ρ) (fun x => E.xr x ρ)
def dRetX (dsp : DSp) (da : DA) : DS := fun E ρ => noOw ρ ∧ da (allF ρ) fun ds => dsp ds (fun s => E.rt (.pu s.dat)) (fun x => E.xr x ρ)
/-- the call itself -/
theorem call_x (N : FN X.prog X.w X.K X.mg X.base f k dsp) (hr : Room k X.A) (tk : Takes X W) (ha : GA X (e :: es) da) (hg : Gl X f) (hdb : (f == ("__debug__" : Str)) = false) (he : starEach (e :: es) X.env = (false, eval e X.env) :: starEach es X.env) (hpl : (backTo pos (starEach es X.env)).any (·.1) = false) :
    ∃ te, PE X (.Call (.Name f p) (e :: es) [] pos) te ∧ ∀ (D : Ends) (E : DEnds) (F : Hp) (σ : St) (H : Hp) (ρ : Rho) (Ψ : Slot → Prop) (Q : VK), EnvO X.K F σ H ρ → Meets X.K W F D E → (noOw ρ ∧ da (allF ρ) fun ds => dsp ds Ψ (fun x => E.xr x ρ)) →
      (∀ v H' d, Same H H' → Dp X.K H' v d → (Ψ (.pu d) ∨ ∃ ds, d = .list ds ∧ Ψ (.ow ds)) → Q v H') → te σ H Q := by
  obtain ⟨fa, fd, ps, us0, dvs, sp, F1, hm, hk, hb, hd, hs⟩ := N
  obtain ⟨ta, a1, a2⟩ := ha
  refine ⟨_, pe_callSD (E := fun σ => WE W σ) F1 hr hg hm hk hb hd (fun σ => passAt tk σ) a1 hdb he hpl, fun D E F σ H ρ Ψ Q env m h q => ?_⟩
  obtain ⟨no, h⟩ := h
  refine a2 σ H (allF ρ) _ _ env.all h fun vs H1 ds s1 pd l h1 => hs _ _ _ _ ⟨ds, _, _, pd, h1, ⟨fun v d H2 s2 pv z => q v H2 d (s1.trans s2) pv (.inl z), fun a us ds2 H2 s2 n pv z => ?_⟩, fun x d H2 s2 hx z => ?_⟩
  · have s3 := same_new (o := .lst us) n
    exact q _ _ (.list ds2) (s1.trans (s2.trans s3)) (.lst (SqL.of upd_same) (pv.up s3)) (.inr ⟨ds2, rfl, z⟩)
  · exact m.xr H2 σ H2 ρ x d (env.fz.same.trans (s1.trans s2)) (env.flat no (s1.trans s2)) hx z
theorem s_retX {pos2 : Pos} (N : FN X.prog X.w X.K X.mg X.base f k dsp) (hr : Room k X.A) (tk : Takes X W) (ha : GA X (e :: es) da) (hg : Gl X f := by rfl) (hdb : (f == ("__debug__" : Str)) = false := by decide) (he : starEach (e :: es) X.env = (false, eval e X.env) :: starEach es X.env := by rfl) (hpl : (backTo pos (starEach es X.env)).any (·.1) = false := by rfl) :
    GS X W (.Return (some (.Call (.Name f p) (e :: es) [] pos)) pos2) (dRetX dsp da) := by
  obtain ⟨te, a1, a2⟩ := call_x (p := p) (pos := pos) N hr tk ha hg hdb he hpl
  refine ⟨_, ps_ret a1, fun D E F σ H ρ env h m => a2 D E F σ H ρ _ _ env m h fun v H2 d s pv z => ?_⟩
  refine m.rt H2 H2 v d (env.fz.same.trans s) (Fz.refl H2) pv ?_
  rcases z with z | ⟨_, rfl, z⟩ <;> exact z
end
/-! try .. except C as n: .. -/
def noX : WX := fun _ _ _ _ => False
def dTry (tb : List (Str × Bool)) (i : Nat) (body suite : DS) : DS := fun E ρ => body { E with xr := fun x ρ2 => match tb.lookup x.cls with
  | some true => suite { nx := fun ρ3 => E.nx (setS ρ3 i .un), rt := E.rt, bk := fun ρ3 => E.bk (setS ρ3 i .un), ct := fun ρ3 => E.ct (setS ρ3 i .un), xr := fun _ _ => False } (setS ρ2 i (.an (exA x)))
  | some false => E.xr x ρ2
  | none => False } ρ
theorem EnvO.track {K : PySem.W.Frag} {F H : Hp} {σ : St} {ρ : Rho} {a : Addr} {o : HO} (e : EnvO K F σ H ρ) (na : H a = none) : F a = none ∧ EnvO K (upd F a o) σ (upd H a o) ρ := by
  have fn : F a = none := by
    cases q : F a with
    | none => rfl
    | some u => rw [e.fz.same a u q] at na; cases na
  have s := same_new (o := o) fn
  refine ⟨fn, ⟨fun b u q => ?_, fun b u q => ?_⟩, e.len, fun i d h => ?_, fun i A h => ?_, fun i ds h => ?_, e.ne, sep_upA e.sep s fun b u h1 h2 => ⟨by rw [upd_ne (ne_of_none h1 na)]; exact h2, by rw [upd_ne (ne_of_none h1 na)]; exact h1⟩⟩
  · by_cases c : b = a
    · rw [c, upd_same] at q ⊢; exact q
    · rw [upd_ne c] at q ⊢; exact e.fz.same b u q
  · by_cases c : b = a
    · rw [c, upd_same] at q ⊢; exact .inl q
    · rw [upd_ne c] at q ⊢; exact e.fz.drop b u q
  · obtain ⟨v, h1, h2⟩ := e.pu i d h; exact ⟨v, h1, h2.up s⟩
  · obtain ⟨v, h1, h2⟩ := e.an i A h; exact ⟨v, h1, A.up _ _ _ _ s h2⟩
  · obtain ⟨b, vs, h1, h2, h3, h4⟩ := e.ow i ds h
    have nb : b ≠ a := ne_of_none h2 na
    exact ⟨b, vs, h1, by rw [upd_ne nb]; exact h2, by rw [upd_ne nb]; exact h3, h4.up s⟩
theorem s_try {c n : Str} {i : Nat} {body suite : List Stmt} {b1 : Stmt} {np pos pos2 : Pos} {tb : List (Str × Bool)} {db dsu : DS} (hst : X.stack = X.env :: X.outer) (hfr : X.env.frame = some X.env.locals) (hex : X.ex = []) (hN : X.N.Nodup) (hi : X.N[i]? = some n) (hln : X.env.kindOf n = some .local) (tk : Takes X W) (gC : X.mg c = some (.ref (He.ga X.K c)))
    (htb : ∀ x b, tb.lookup x = some b → PySem.W.exmOne X.K (.ref (He.ga X.K x)) (.ref (He.ga X.K c)) = some b)
    (hb : ∀ (W2 : WX) (pn : List (Addr × Obj)) (xe : Value → Shared → Prop), Takes (X.tr pn xe) W2 → GSs (X.tr pn xe) W2 body db) (hsu : ∀ (a : Addr) (pn : List (Addr × Obj)), GSs (X.suite a pn) noX (b1 :: suite) dsu) (hg : Gl X c := by rfl) (hdb : (c == ("__debug__" : Str)) = false := by decide) :
    GS X W (.Try body [.ExceptHandler (some (.Name c np)) (some n) (b1 :: suite) pos2] [] [] pos) (dTry tb i db dsu) := by
  refine ⟨_, ps_try_an (tb := fun W2 => tSD X.K W2 db) (ts := tSD X.K noX dsu) hst hfr hex hN hi hln ⟨hg, hdb, .inl gC⟩ tk (fun W2 pn xe t _ => (hb W2 pn xe t).pss) (fun a pn => (hsu a pn).pss), fun D E F σ H ρ env h m => ?_⟩
  refine ⟨_, F, ρ, env, h, m.nx, m.bk, m.ct, m.rt, m.rtO, fun F2 σ2 H2 ρ2 x d s env2 hx hh => ?_⟩
  have hh2 : (match tb.lookup x.cls with
    | some true => dsu { nx := fun ρ3 => E.nx (setS ρ3 i .un), rt := E.rt, bk := fun ρ3 => E.bk (setS ρ3 i .un), ct := fun ρ3 => E.ct (setS ρ3 i .un), xr := fun _ _ => False } (setS ρ2 i (.an (exA x)))
    | some false => E.xr x ρ2
    | none => False) := hh
  cases q : tb.lookup x.cls with
  | none => rw [q] at hh2; exact hh2.elim
  | some b =>
    rw [q] at hh2
    refine ⟨b, htb _ _ q, fun e a na => ?_, fun e => ?_⟩
    · subst e
      obtain ⟨fn, env3⟩ := env2.track (o := ExC (.ref (He.ga X.K x.cls)) d a) na
      have s3 := same_new (o := ExC (.ref (He.ga X.K x.cls)) d a) fn
      have env4 := env3.putA i (v := .ref a) (A := exA x) ⟨a, rfl, d, upd_same, hx.up s3⟩
      have up : ∀ {F3 : Hp}, Same (upd F2 a (ExC (.ref (He.ga X.K x.cls)) d a)) F3 → Same F F3 := fun {F3} s4 => s.trans (s3.trans s4)
      refine ⟨_, _, _, env4, hh2, ⟨fun F3 σ3 H3 ρ3 s4 e3 k => m.nx F3 _ H3 _ (up s4) (e3.putU i) k, fun F3 σ3 H3 ρ3 s4 e3 k => m.bk F3 _ H3 _ (up s4) (e3.putU i) k, fun F3 σ3 H3 ρ3 s4 e3 k => m.ct F3 _ H3 _ (up s4) (e3.putU i) k, fun F3 H3 v d3 s4 => m.rt F3 H3 v d3 (up s4), fun F3 H3 b vs ds s4 => m.rtO F3 H3 b vs ds (up s4), fun F3 σ3 H3 ρ3 x3 d3 s4 e3 hx3 k => k⟩⟩
    · subst e
      exact m.xr F2 σ2 H2 ρ2 x d s env2 hx hh2
end
end L2.D3
set_option maxHeartbeats 4000000
/-! isinstance of a caught exception. -/
namespace L2.D3
open PySem PySem.Spec PyProof.Rows
/-- what an exception's class must say, so that isinstance asks it rightly -/
structure XiF (K : PySem.W.Frag) (C : Addr) : Prop where
  cl : (PySem.W.clsIn K C).isSome = true
  ga : PySem.W.findIn K (.ref C) "__getattribute__" = some (some (.builtin "BaseException.__getattribute__"))
  gt : PySem.W.findIn K (.ref C) "__getattr__" = some none
  sb : PySem.W.subIn K (.ref C) (.type "BaseException") = some true
  hc : PySem.W.findIn K (.ref C) "__class__" = some (some (.builtin "object.__class__"))
  hs : PySem.W.specialIn K (.builtin "object.__class__") "__get__" = some (some (.builtin "getset_descriptor.__get__"))
  ht : PySem.W.takesIn K (.builtin "object.__class__") = some true
  hm : PySem.W.mroIn K C (.type "object") = some true
def xiB (K : PySem.W.Frag) (C : Addr) : Bool := (PySem.W.clsIn K C).isSome && (He.eqO (PySem.W.findIn K (.ref C) "__getattribute__") (some (some (.builtin "BaseException.__getattribute__"))) && (He.eqO (PySem.W.findIn K (.ref C) "__getattr__") (some none) && (decide (PySem.W.subIn K (.ref C) (.type "BaseException") = some true) &&
  (He.eqO (PySem.W.findIn K (.ref C) "__class__") (some (some (.builtin "object.__class__"))) && (He.eqO (PySem.W.specialIn K (.builtin "object.__class__") "__get__") (some (some (.builtin "getset_descriptor.__get__"))) && (decide (PySem.W.takesIn K (.builtin "object.__class__") = some true) && decide (PySem.W.mroIn K C (.type "object") = some true)))))))
theorem xiB_ok {K : PySem.W.Frag} {C : Addr} (h : xiB K C = true) : XiF K C := by
  obtain ⟨h1, h⟩ := He.ba h
  obtain ⟨h2, h⟩ := He.ba h
  obtain ⟨h3, h⟩ := He.ba h
  obtain ⟨h4, h⟩ := He.ba h
  obtain ⟨h5, h⟩ := He.ba h
  obtain ⟨h6, h⟩ := He.ba h
  obtain ⟨h7, h8⟩ := He.ba h
  exact ⟨h1, He.eqO_ok h2, He.eqO_ok h3, of_decide_eq_true h4, He.eqO_ok h5, He.eqO_ok h6, of_decide_eq_true h7, of_decide_eq_true h8⟩
/-- an exception as isinstance meets it -/
def DictOk (H : Hp) (d : Option Addr) : Prop := d = none ∨ ∃ dd fs, d = some dd ∧ H dd = some (.xd fs)
theorem XAt.dict {K : PySem.W.Frag} {H : Hp} {x : XD} {d : Option Addr} (h : XAt K H x d) : DictOk H d := by
  unfold XAt at h
  cases e : x.fs with
  | nil => rw [e] at h; exact .inl h
  | cons f fs =>
    rw [e] at h
    obtain ⟨a, vs, h1, h2, _⟩ := h
    exact .inr ⟨a, _, h1, h2⟩
theorem inst_of {X : Cx} {pins : List (Addr × Obj)} {σ : St} {H : Hp} {s : Shared} {a C : Addr} {d : Option Addr} (I : Inv X pins σ H s) (ha : H a = some (ExC (.ref C) d a)) (hd : DictOk H d) : ∃ ob od, PySem.W.InstAt s.heap a ob C od := by
  obtain ⟨⟨ob, fv, e, z, q⟩, _, _⟩ := I.hok a _ ha
  have no : PySem.W.notCls ob = true := by unfold PySem.W.notCls; rw [q] <;> rfl
  rcases hd with hd | ⟨dd, fs, hd, hx⟩
  · exact ⟨ob, none, e, z.1, no, by rw [z.2, hd]; exact trivial⟩
  · obtain ⟨od, e2⟩ := objOk_get (I.hok dd _ hx)
    exact ⟨ob, some od, e, z.1, no, by rw [z.2, hd]; exact e2⟩
def rIsX (K : PySem.W.Frag) : List V → Hp → VK → Prop := fun xs H Q => ∃ (a C : Addr) (d : Option Addr) (c : V) (cv : Value) (b : Bool), xs = [.ref a, c] ∧ H a = some (ExC (.ref C) d a) ∧ DictOk H d ∧ XiF K C ∧ ClsV c cv ∧ PySem.W.kitAny K (.ref C) [cv] = some b ∧ Q (.bl b) H
theorem kit_single {K : PySem.W.Frag} {t c : Value} {b : Bool} (h : PySem.W.kitAny K t [c] = some b) : PySem.W.kitOne K t c = some b := by
  unfold PySem.W.kitAny at h
  cases e : PySem.W.kitOne K t c with
  | none => rw [e] at h; cases h
  | some y =>
    rw [e] at h
    cases y with
    | true => exact h
    | false => exact h
section
variable {X : Cx}
theorem call_isX : CallR X (.builtin "isinstance") (rIsX X.K) := by
  intro pins s σ H xs us Q I r h
  obtain ⟨a, C, d, c, cv, b, rfl, ha, hd, F, k, e, q⟩ := h
  obtain ⟨u1, u2, rfl, r1, r2⟩ := vals2 r
  have e2 := k.eq r2
  subst e2
  cases (show u1 = Value.ref a from r1)
  obtain ⟨ob, od, J⟩ := inst_of I ha hd
  exact PySem.W.kia_one (PySem.W.kitx_exc F.cl F.ga F.gt F.sb F.hc F.hs F.ht F.hm) I.kIn J (kit_single e) (fun z => nomatch z) fun tk => ⟨.bl b, H, I.tok tk, rfl, q⟩
end
/-- what is asked for: an own class, a built-in one -/
inductive Tg where
  | own (x : Str)
  | ty (T : String)
def Tg.v (K : PySem.W.Frag) : Tg → V
  | .own x => .ref (He.ga K x)
  | .ty T => .ty T
def Tg.u (K : PySem.W.Frag) : Tg → Value
  | .own x => .ref (He.ga K x)
  | .ty T => .type T
theorem Tg.cls (K : PySem.W.Frag) : ∀ g : Tg, ClsV (g.v K) (g.u K)
  | .own x => .own _
  | .ty T => .ty T
/-- the table tb tells of each exception class whether it is one of these -/
def IsT (K : PySem.W.Frag) (tb : List (Str × Bool)) (gs : List Tg) : Prop := ∀ x b, tb.lookup x = some b → XiF K (He.ga K x) ∧ PySem.W.kitAny K (.ref (He.ga K x)) (gs.map (Tg.u K)) = some b
def isB (K : PySem.W.Frag) (tb : List (Str × Bool)) (gs : List Tg) : Bool := tb.all fun p => xiB K (He.ga K p.1) && decide (PySem.W.kitAny K (.ref (He.ga K p.1)) (gs.map (Tg.u K)) = some p.2)
theorem lookup_mem {tb : List (Str × Bool)} {x : Str} {b : Bool} (h : tb.lookup x = some b) : (x, b) ∈ tb := by
  induction tb with
  | nil => cases h
  | cons p r ih =>
    obtain ⟨y, c⟩ := p
    rw [List.lookup_cons] at h
    by_cases e : (x == y) = true
    · rw [e] at h
      have e2 : x = y := beq_iff_eq.mp e
      cases h
      rw [e2]
      exact List.mem_cons_self
    · have e2 : (x == y) = false := by simpa using e
      rw [e2] at h
      exact List.mem_cons_of_mem _ (ih h)
theorem isT_of {K : PySem.W.Frag} {tb : List (Str × Bool)} {gs : List Tg} (h : isB K tb gs = true) : IsT K tb gs := fun x b q => by
  have z := List.all_eq_true.mp h (x, b) (lookup_mem q)
  obtain ⟨z1, z2⟩ := He.ba z
  exact ⟨xiB_ok z1, of_decide_eq_true z2⟩
def TryT (K : PySem.W.Frag) (tb : List (Str × Bool)) (c : Str) : Prop := ∀ x b, tb.lookup x = some b → PySem.W.exmOne K (.ref (He.ga K x)) (.ref (He.ga K c)) = some b
def tryB (K : PySem.W.Frag) (tb : List (Str × Bool)) (c : Str) : Bool := tb.all fun p => decide (PySem.W.exmOne K (.ref (He.ga K p.1)) (.ref (He.ga K c)) = some p.2)
theorem tryT_of {K : PySem.W.Frag} {tb : List (Str × Bool)} {c : Str} (h : tryB K tb c = true) : TryT K tb c := fun x b q => of_decide_eq_true (List.all_eq_true.mp h (x, b) (lookup_mem q))
theorem exF_of {K : PySem.W.Frag} {x : Str} (c : (He.Fa.exc x).ok K = true) : ExF K x := by
  obtain ⟨a, b, c, d⟩ := He.exc_ok c
  exact ⟨a, b, c, d⟩
def dIsX (i : Nat) (tb : List (Str × Bool)) : DE := fun φ Φ => ∃ x b, getA φ i = some (exA x) ∧ tb.lookup x.cls = some b ∧ Φ (.bool b)
section
variable {X : Cx}
theorem an_ex {K : PySem.W.Frag} {σ : St} {H : Hp} {φ : Fro} {i : Nat} {x : XD} (env : EnvF K σ H φ) (h : getA φ i = some (exA x)) : ∃ a d, σ[i]? = some (some (.ref a)) ∧ H a = some (ExC (.ref (He.ga K x.cls)) d a) ∧ DictOk H d := by
  obtain ⟨v, h1, a, rfl, d, h2, h3⟩ := env.an i (exA x) h
  exact ⟨a, d, h1, h2, h3.dict⟩
/-- isinstance(y, C), C an own class -/
theorem g_isX {i : Nat} {y c : Str} {tb : List (Str × Bool)} {p py pc pos : Pos} (hm : X.mg "isinstance" = none) (gC : X.mg c = some (.ref (He.ga X.K c))) (t : IsT X.K tb [.own c]) (hN : X.N[i]? = some y := by rfl) (hvs : Vis X.env.scope y := by first | exact Or.inl rfl | exact Or.inr (Or.inl rfl) | exact Or.inr (Or.inr rfl)) (hdy : (y == ("__debug__" : Str)) = false := by decide) (hcy : (y == ("__classdict__" : Str)) = false := by decide)
    (hg : Gl X "isinstance" := by rfl) (hgc : Gl X c := by rfl) (hdc : (c == ("__debug__" : Str)) = false := by decide) (hv : bootBuiltins "isinstance" = some (.builtin "isinstance") := by decide +kernel) (hs : starEach [.Name y py, .Name c pc] X.env = (false, eval (.Name y py) X.env) :: starEach [.Name c pc] X.env := by rfl) (hs2 : starEach [.Name c pc] X.env = (false, eval (.Name c pc) X.env) :: starEach [] X.env := by rfl) (hpl : (backTo pos (starEach [.Name c pc] X.env)).any (·.1) = false := by rfl) :
    GE X (.Call (.Name "isinstance" p) [.Name y py, .Name c pc] [] pos) (dIsX i tb) := by
  refine ⟨_, pe_callB call_isX hg hm hv (pa_cons (pe_var (i := i) hN hvs hdy hcy) (pa_cons (pe_glob (v := .ref (He.ga X.K c)) hgc gC rfl hdc) pa_nil hs2) hs) (by decide) (by decide) hs hpl, fun σ H φ Φ Q env h q => ?_⟩
  obtain ⟨x, b, h1, h2, h3⟩ := h
  obtain ⟨a, d, e1, e2, e3⟩ := an_ex env h1
  obtain ⟨f, k⟩ := t x.cls b h2
  exact ⟨_, e1, a, _, d, _, _, b, rfl, e2, e3, f, .own _, k, q _ H _ (Same.refl H) (.bl b) h3⟩
/-- .. a built-in one -/
theorem g_isXB {i : Nat} {y c : Str} {T : String} {tb : List (Str × Bool)} {p py pc pos : Pos} (hm : X.mg "isinstance" = none) (hmc : X.mg c = none) (hvc : bootBuiltins c = some (.type T)) (t : IsT X.K tb [.ty T]) (hN : X.N[i]? = some y := by rfl) (hvs : Vis X.env.scope y := by first | exact Or.inl rfl | exact Or.inr (Or.inl rfl) | exact Or.inr (Or.inr rfl)) (hdy : (y == ("__debug__" : Str)) = false := by decide) (hcy : (y == ("__classdict__" : Str)) = false := by decide)
    (hg : Gl X "isinstance" := by rfl) (hgc : Gl X c := by rfl) (hnc : c ≠ "__name__" := by decide) (hdc : (c == ("__debug__" : Str)) = false := by decide) (hv : bootBuiltins "isinstance" = some (.builtin "isinstance") := by decide +kernel) (hs : starEach [.Name y py, .Name c pc] X.env = (false, eval (.Name y py) X.env) :: starEach [.Name c pc] X.env := by rfl) (hs2 : starEach [.Name c pc] X.env = (false, eval (.Name c pc) X.env) :: starEach [] X.env := by rfl) (hpl : (backTo pos (starEach [.Name c pc] X.env)).any (·.1) = false := by rfl) :
    GE X (.Call (.Name "isinstance" p) [.Name y py, .Name c pc] [] pos) (dIsX i tb) := by
  refine ⟨_, pe_callB call_isX hg hm hv (pa_cons (pe_var (i := i) hN hvs hdy hcy) (pa_cons (pe_bltn (v := .ty T) hgc hmc hvc rfl hnc hdc) pa_nil hs2) hs) (by decide) (by decide) hs hpl, fun σ H φ Φ Q env h q => ?_⟩
  obtain ⟨x, b, h1, h2, h3⟩ := h
  obtain ⟨a, d, e1, e2, e3⟩ := an_ex env h1
  obtain ⟨f, k⟩ := t x.cls b h2
  exact ⟨_, e1, a, _, d, _, _, b, rfl, e2, e3, f, .ty T, k, q _ H _ (Same.refl H) (.bl b) h3⟩
/-! y = x, of what is no datum -/
def dCpy (i j : Nat) : DS := fun E ρ => match getS ρ j with
  | .an A => E.nx (setS ρ i (.an A))
  | _ => False
theorem s_cpy {W : WX} {i j : Nat} {x y : Str} {p1 p2 pos : Pos} (hN : X.N.Nodup) (hi : X.N[i]? = some x) (hj : X.N[j]? = some y := by rfl) (hvs : Vis X.env.scope y := by first | exact Or.inl rfl | exact Or.inr (Or.inl rfl) | exact Or.inr (Or.inr rfl)) (hdy : (y == ("__debug__" : Str)) = false := by decide) (hcy : (y == ("__classdict__" : Str)) = false := by decide)
    (hx : Loc X.env.scope x := by first | exact Or.inl rfl | exact Or.inr rfl) (hs : swapsWith (.Name y p2) (some (.Name x p1)) pos.line X.env = pure false := by rfl) (hf : X.fn x = true ∨ X.env.scope.names.lookup x = some .local := by first | exact .inl rfl | exact .inr rfl | assumption) :
    GS X W (.Assign [.Name x p1] (.Name y p2) pos) (dCpy i j) := by
  refine ⟨_, ps_set hN hi hx (pe_var (i := j) hj hvs hdy hcy) hs hf, fun D E F σ H ρ env h m => ?_⟩
  unfold dCpy at h
  cases e : getS ρ j with
  | an A =>
    rw [e] at h
    obtain ⟨v, h1, h2⟩ := env.an j A e
    exact ⟨v, h1, m.nx F _ H _ (Same.refl F) (env.putA i h2) h⟩
  | _ => rw [e] at h; exact h.elim
end
end L2.D3
set_option maxHeartbeats 4000000
/-! Pools (lists of one number that defs change), the empty dict, .. -/
namespace L2.D3
open PySem PySem.Spec PyProof.Rows
def plainO : HO → Bool
  | .lst _ => true
  | .dK _ => true
  | .dT _ => true
  | .ext _ => true
  | _ => false
section
variable {X : Cx} {pins : List (Addr × Obj)} {σ : St} {H : Hp} {s : Shared}
/-- another description of an object -/
theorem Inv.swap {a : Addr} {o o' : HO} (I : Inv X pins σ H s) (ha : H a = some o) (hp : plainO o = true) (new : ObjOk X.prog X.w (upd H a o') s.heap a o') : Inv X pins σ (upd H a o') s := by
  have ne : ∀ {b : Addr} {u : HO}, H b = some u → plainO u = false → b ≠ a := fun {b u} e n z => by
    rw [z, ha] at e
    cases e
    rw [hp] at n
    cases n
  have no : ∀ {b : Addr}, H b = none → b ≠ a := fun {b} e z => by rw [z, ha] at e; cases e
  refine ⟨I.ok, I.os, I.bare, ⟨I.base.keep, I.base.slot, fun b u e n hx => ?_, I.base.there, fun b xs q => ?_, fun b u v q => ?_, fun b ps q => ?_⟩, I.loc, I.cell, ?_, fun x c e => ?_, fun p hp => ?_, fun b u e => ?_, I.len⟩
  · have z := I.base.free b u e n hx
    rw [upd_ne (no z)]; exact z
  · have z := I.base.tups b xs q
    rw [upd_ne (ne z rfl)]; exact z
  · have z := I.base.frzs b u v q
    rw [upd_ne (ne z rfl)]; exact z
  · obtain ⟨m, z⟩ := I.base.tbls b ps q
    exact ⟨m, by rw [upd_ne (ne z rfl)]; exact z⟩
  · rw [upd_ne (no I.free)]; exact I.free
  · have z := I.freeC x c e
    rw [upd_ne (no z)]; exact z
  · obtain ⟨p1, p2, p3⟩ := I.pin p hp
    exact ⟨p1, by rw [upd_ne (no p2)]; exact p2, p3⟩
  · by_cases c : b = a
    · subst c
      rw [upd_same] at e
      cases e
      exact new
    · rw [upd_ne c] at e
      exact (I.hok b u e).stay (fun _ _ _ q => q) (fun d q => by rw [upd_ne (ne q rfl)]; exact q) fun d xs q => by rw [upd_ne (ne q rfl)]; exact q
theorem pool_ok {P : Program} {w : World} {h : Heap} {a : Addr} {n c : Nat} {t : Tok} (e : h.get? a = some { cls := .type "list", data := .seq #[.int (n : Int) t] c }) : ObjOk P w H h a (PoolO a) :=
  ⟨⟨n, c, t, e⟩, ⟨_, e⟩, fun _ _ ⟨m, c', t', q⟩ k => ⟨m, c', t', k _ q⟩⟩
theorem Inv.pool {a : Addr} {n : Nat} (I : Inv X pins σ H s) (ha : H a = some (.lst [.int n])) : Inv X pins σ (upd H a (PoolO a)) s := by
  obtain ⟨_, its, c, r, e⟩ := I.hok a _ ha
  cases r with
  | cons r1 r2 =>
    cases r2
    obtain ⟨t, rfl⟩ := r1
    exact Inv.swap I ha rfl (pool_ok (n := n) (c := c) (t := t) e)
end
end L2.D3
namespace L2.D3
open PySem PySem.Spec PyProof.Rows
end L2.D3
set_option maxHeartbeats 4000000
/-! Texts: their methods; is of truths; rows repeated. -/
namespace L2.D3
open PySem PySem.Spec PyProof.Rows
section
variable {X : Cx}
/-! x is True, x is not True -/
def oIsB : DO := fun x y Φ => match x, y with
  | .bool a, .bool b => Φ (.bool (decide (a = b)))
  | _, _ => False
def oNotB : DO := fun x y Φ => match x, y with
  | .bool a, .bool b => Φ (.bool (!decide (a = b)))
  | _, _ => False
/-! methods of texts -/
theorem dm_str {K : PySem.W.Frag} {te tf : TE} {de df : DE} {r : V → List V → Hp → VK → Prop} {P : Str → Dt → (Dt → Prop) → Prop} (h1 : SE K te de) (h2 : SE K tf df)
    (hr : ∀ (a : Str) (y : V) (dy : Dt) (H : Hp) (Φ : Dt → Prop) (Q : VK), Dp K H y dy → P a dy Φ → (∀ v H' d, Same H H' → Dp K H' v d → Φ d → Q v H') → r (.str a) [y] H Q) :
    SE K (tM1 r te tf) (fun φ Φ => de φ fun x => match x with | .str a => df φ fun y => P a y Φ | _ => False) := fun σ H φ Φ Q env h q => h1 σ H φ _ _ env h fun x H1 dx s1 px hx => by
  cases dx with
  | str a =>
    cases px
    exact ⟨⟨a, rfl⟩, h2 σ H1 φ _ _ (env.up s1) hx fun y H2 dy s2 py hy => hr a y dy H2 Φ Q py hy fun v H' d s3 pv hd => q v H' d (s1.trans (s2.trans s3)) pv hd⟩
  | _ => exact hx.elim
/-- text.m(x): the text, the argument, what is asked of both -/
def dTx (P : Str → Dt → (Dt → Prop) → Prop) (de df : DE) : DE := fun φ Φ => de φ fun x => match x with
  | .str a => df φ fun y => P a y Φ
  | _ => False
def pJoin : Str → Dt → (Dt → Prop) → Prop := fun a y Φ => ∃ ys : List Str, (y = .list (ys.map .str) ∨ y = .tuple (ys.map .str)) ∧ (ys.map (·.length)).sum + ys.length * a.length ≤ 16777216 ∧ Φ (.str (Txt.join a ys))
def pSplit : Str → Dt → (Dt → Prop) → Prop := fun a y Φ => ∃ b : Str, y = .str b ∧ (b.length == 0) = false ∧ a.length + 2 ≤ sizeLine ∧ Φ (.list ((Txt.split a b).map .str))
def pPart : Str → Dt → (Dt → Prop) → Prop := fun a y Φ => ∃ b : Str, y = .str b ∧ (b.length == 0) = false ∧ a.length ≤ sizeLine ∧ Φ (.tuple [.str (Txt.partition a b).1, .str (Txt.partition a b).2.1, .str (Txt.partition a b).2.2])
def pStarts : Str → Dt → (Dt → Prop) → Prop := fun a y Φ => ∃ b : Str, y = .str b ∧ Φ (.bool (Txt.startswith a b))
section
variable {e f : Expr} {de df : DE} {apos pos : Pos}
theorem g_join (he : GE X e de) (hf : GE X f df) (hs : starEach [f] X.env = [(false, eval f X.env)] := by rfl) (hbase : attributeBase e "join" X.env (eval e X.env) = eval e X.env := by rfl) (hline : (apos.endLine == pos.line) = true := by rfl) : GE X (.Call (.Attribute e "join" apos) [f] [] pos) (dTx pJoin de df) := by
  obtain ⟨te, a1, a2⟩ := he
  obtain ⟨tf, b1, b2⟩ := hf
  refine ⟨_, pe_join a1 b1 hs hbase hline, dm_str a2 b2 fun a y dy H Φ Q py hy q => ?_⟩
  obtain ⟨ys, hyy, hz, hΦ⟩ := hy
  rcases hyy with rfl | rfl
  · cases py with
    | lst h1 h2 => exact ⟨a, _, ys, rfl, rfl, .inl (by rw [h2.strs_eq] at h1; exact h1), hz, q _ H _ (Same.refl H) (.str _) hΦ⟩
  · cases py with
    | tup h1 h2 => exact ⟨a, _, ys, rfl, rfl, .inr (by rw [h2.strs_eq] at h1; exact h1), hz, q _ H _ (Same.refl H) (.str _) hΦ⟩
theorem g_split (he : GE X e de) (hf : GE X f df) (hs : starEach [f] X.env = [(false, eval f X.env)] := by rfl) (hbase : attributeBase e "split" X.env (eval e X.env) = eval e X.env := by rfl) (hline : (apos.endLine == pos.line) = true := by rfl) : GE X (.Call (.Attribute e "split" apos) [f] [] pos) (dTx pSplit de df) := by
  obtain ⟨te, a1, a2⟩ := he
  obtain ⟨tf, b1, b2⟩ := hf
  refine ⟨_, pe_split a1 b1 hs hbase hline, dm_str a2 b2 fun a y dy H Φ Q py hy q => ?_⟩
  obtain ⟨b, rfl, h1, h2, hΦ⟩ := hy
  cases py
  refine ⟨a, b, rfl, rfl, h1, h2, fun p hp => ?_⟩
  have s := same_new (o := .lst ((Txt.split a b).map V.str)) hp
  exact q _ _ _ s (.lst (SqL.of upd_same) (DpAll.strs _)) hΦ
end
/-! str(x), int(x) of a text -/
def bStr : List Dt → (Dt → Prop) → Prop := fun ds Φ => match ds with
  | [.int i] => i.natAbs.log2 < 1920 ∧ Φ (.str (toString i))
  | _ => False
def bIntS : List Dt → (Dt → Prop) → Prop := fun ds Φ => match ds with
  | [.str a] => ∃ n, PySem.intText? a = some n ∧ a.length ≤ 640 ∧ Φ (.int n)
  | _ => False
/-! f'..' -/
def dFmt (de : DE) : DE := fun φ Φ => de φ fun x => match x with
  | .str y => y.length ≤ sizeLine ∧ Φ (.str y)
  | .int i => i.natAbs.log2 < 1920 ∧ Φ (.str (toString i))
  | _ => False
def dJs : List DE → Str → DE
  | [], acc => fun _ Φ => Φ (.str acc)
  | d :: ds, acc => fun φ Φ => d φ fun x => ∃ y : Str, x = .str y ∧ (acc ++ y).length ≤ sizeLine ∧ dJs ds (acc ++ y) φ Φ
inductive GJ (X : Cx) : List Expr → List DE → Prop where
  | nil : GJ X [] []
  | cons {e : Expr} {d : DE} {es : List Expr} {ds : List DE} (h : GE X e d) (r : GJ X es ds) : GJ X (e :: es) (d :: ds)
theorem GJ.ex {es : List Expr} {ds : List DE} (h : GJ X es ds) : ∃ ts, PJ X es ts ∧ ∀ acc σ H φ Φ (Q : Str → Hp → Prop), EnvF X.K σ H φ → dJs ds acc φ Φ → (∀ y H', Same H H' → Φ (.str y) → Q y H') → tJs ts acc σ H Q := by
  induction h with
  | nil => exact ⟨[], .nil, fun acc σ H φ Φ Q env h q => q acc H (Same.refl H) h⟩
  | @cons e d es ds he r ih =>
    obtain ⟨te, a1, a2⟩ := he
    obtain ⟨ts, b1, b2⟩ := ih
    refine ⟨te :: ts, .cons a1 b1, fun acc σ H φ Φ Q env h q => a2 σ H φ _ _ env h fun x H1 dx s1 px hx => ?_⟩
    obtain ⟨y, rfl, hl, hx⟩ := hx
    cases px
    exact ⟨y, rfl, hl, b2 (acc ++ y) σ H1 φ Φ Q (env.up s1) hx fun z H' s2 hz => q z H' (s1.trans s2) hz⟩
end
end L2.D3
namespace L2.D3
open PySem PySem.Spec PyProof.Rows
/-! ### expressions whose end is data beside the owned lists -/
abbrev DX := Rho → (Dt → Prop) → Prop
def SX (K : PySem.W.Frag) (te : TE) (dx : DX) : Prop := ∀ (F : Hp) (σ : St) (H : Hp) (ρ : Rho) (Φ : Dt → Prop) (Q : VK), EnvO K F σ H ρ → dx ρ Φ → (∀ F' H' v d, Same F F' → EnvO K F' σ H' ρ → Dp K F' v d → Φ d → Q v H') → te σ H Q
def dXi (i : Nat) (db : DE) : DX := fun ρ Φ => match getS ρ i with
  | .ow ds => db (allF ρ) fun k => match k with
    | .int j => ∃ d, atI ds j = some d ∧ Φ d
    | _ => False
  | _ => False
section
variable {X : Cx} {W : WX}
/-- x = e -/
def dSetG (i : Nat) (dx : DX) : DS := fun E ρ => dx ρ fun d => E.nx (setS ρ i (.pu d))
/-- ys.append(e) -/
def dAppG (i : Nat) (dx : DX) : DS := fun E ρ => match getS ρ i with
  | .ow ds => dx ρ fun d => ds.length < sizeLine ∧ E.nx (setS ρ i (.ow (ds ++ [d])))
  | _ => False
end
end L2.D3
set_option maxHeartbeats 4000000
/-! Exceptions with a field of their own; calls beside owned lists. -/
namespace L2.D3
open PySem PySem.Spec PyProof.Rows
/-! ### SheetError.__init__(self, ..) -/
/-! ### the class's own __init__: SheetError.__init__(self, m); self.f = y -/
/-! raise C(e) -/
end L2.D3
namespace L2.D3
open PySem PySem.Spec PyProof.Rows
/-- a method's statement in a class's -/
def inCls (i : Nat) (s : Stmt) : Stmt := match s with
  | .ClassDef _ _ _ body _ _ _ _ _ _ _ => body.getD i (.Pass ⟨0, 0, 0, 0⟩)
  | _ => .Pass ⟨0, 0, 0, 0⟩
end L2.D3
set_option maxHeartbeats 4000000
/-! try .. except C: without a name. -/
namespace L2.D3
open PySem PySem.Spec PyProof.Rows
end L2.D3
set_option maxHeartbeats 4000000
/-! What is written stands apart from what is tracked; a value is one datum; expressions over all whose end holds no owned list. -/
namespace L2.D3
open PySem PySem.Spec PyProof.Rows
/-! what a datum holds -/
/-! the data of the parts of an owned thing that may change -/
/-! the readings' steps, kind by kind -/
theorem add_ii (i j : Int) (Φ : Dt → Prop) : oAddU (.int i) (.int j) Φ = Φ (.int (i + j)) := rfl
theorem add_ss (a b : Str) (Φ : Dt → Prop) : oAddU (.str a) (.str b) Φ = (a.length + b.length ≤ sizeLine ∧ Φ (.str (a ++ b))) := rfl
theorem add_ll (a b : List Dt) (Φ : Dt → Prop) : oAddU (.list a) (.list b) Φ = (a.length + b.length ≤ sizeLine ∧ Φ (.list (a ++ b))) := rfl
theorem add_tt (a b : List Dt) (Φ : Dt → Prop) : oAddU (.tuple a) (.tuple b) Φ = (a.length + b.length ≤ sizeLine ∧ Φ (.tuple (a ++ b))) := rfl
theorem len_l (a : List Dt) (Φ : Dt → Prop) : bLen [.list a] Φ = Φ (.int a.length) := rfl
theorem len_t (a : List Dt) (Φ : Dt → Prop) : bLen [.tuple a] Φ = Φ (.int a.length) := rfl
theorem len_s (a : Str) (Φ : Dt → Prop) : bLen [.str a] Φ = (a.length ≤ sizeLine ∧ Φ (.int a.length)) := rfl
theorem sl_l (a : List Dt) (lo hi : Option Int) : slD (.list a) lo hi = some (.list (cutD a lo hi)) := rfl
theorem tup_l (a : List Dt) (Φ : Dt → Prop) : bTup [.list a] Φ = Φ (.tuple a) := rfl
theorem tup_t (a : List Dt) (Φ : Dt → Prop) : bTup [.tuple a] Φ = Φ (.tuple a) := rfl
end L2.D3
set_option maxHeartbeats 4000000
/-! Instances as data: their fields, their methods, how they are made. -/
namespace L2.D3
open PySem PySem.Spec PyProof.Rows
def clsD : Dt → Option Str
  | .dict ((.list [.str c], .none) :: _) => some c
  | _ => none
def fldL (f : Str) : List (Dt × Dt) → Option Dt
  | [] => none
  | (.str g, d) :: r => if g = f then some d else fldL f r
  | _ :: r => fldL f r
def fldD (f : Str) : Dt → Option Dt
  | .dict (_ :: m) => fldL f m
  | _ => none
theorem cn_ga {K : PySem.W.Frag} {C : Addr} {c : Str} (h : cnOf K C = some c) : He.ga K c = C := by
  have := List.find?_some h
  exact beq_iff_eq.mp this
theorem fldL_zip {K : PySem.W.Frag} {H : Hp} (f : Str) : ∀ {ns : List Str} {us : List V} {es : List Dt}, DpAll K H us es → ns.length = us.length →
    (∀ d, fldL f (List.zip (ns.map PyData.str) es) = some d → ∃ v, (List.zip ns us).lookup f = some v ∧ Dp K H v d) ∧ (fldL f (List.zip (ns.map PyData.str) es) = none → (List.zip ns us).lookup f = none)
  | [], [], [], _, _ => ⟨fun d h => (by cases h), fun _ => rfl⟩
  | n :: ns, u :: us, e :: es, h, l => by
    cases h with
    | cons h1 h2 =>
      obtain ⟨i1, i2⟩ := fldL_zip f h2 (by simpa using l)
      have q : fldL f (List.zip ((n :: ns).map PyData.str) (e :: es)) = if n = f then some e else fldL f (List.zip (ns.map PyData.str) es) := rfl
      have q2 : (List.zip (n :: ns) (u :: us)).lookup f = if f == n then some u else (List.zip ns us).lookup f := by
        show List.lookup f ((n, u) :: List.zip ns us) = _
        rw [List.lookup_cons]
        cases f == n <;> rfl
      rw [q, q2]
      by_cases c : n = f
      · subst c
        simp only [if_true, beq_self_eq_true]
        exact ⟨fun d h => by cases h; exact ⟨u, rfl, h1⟩, fun h => by cases h⟩
      · have c2 : (f == n) = false := beq_eq_false_iff_ne.mpr fun z => c z.symm
        simp only [c, c2, if_false, Bool.false_eq_true]
        exact ⟨i1, i2⟩
theorem dp_ins {K : PySem.W.Frag} {H : Hp} {v : V} {d : Dt} {c : Str} (p : Dp K H v d) (hc : clsD d = some c) : ∃ a dx fs, v = .ref a ∧ H a = some (.ins (He.ga K c) dx fs) ∧ (∀ f x, fldD f d = some x → ∃ y, fs.lookup f = some y ∧ Dp K H y x) ∧ ∀ f, fldD f d = none → fs.lookup f = none := by
  cases p with
  | ins h1 h2 h3 h4 h5 =>
    subst h5
    cases hc
    have e := cn_ga h2
    subst e
    exact ⟨_, _, _, rfl, h1, fun f x hx => (fldL_zip f h4 h3).1 x hx, fun f hx => (fldL_zip f h4 h3).2 hx⟩
  | dk h1 h2 h3 h4 =>
    rename_i ks us es m
    subst h4
    cases ks with
    | nil => cases hc
    | cons k ks =>
      cases es with
      | nil => cases hc
      | cons e es => cases k <;> cases hc
  | dt h1 h2 h3 h4 => subst h4; cases hc
  | pool _ => cases hc
  | xs _ => cases hc
  | _ => cases hc
/-! readings that tell one datum -/
def dRel (R : Fro → Dt → Prop) : DE := fun φ Φ => ∃ d, R φ d ∧ Φ d
def rVar (i : Nat) : Fro → Dt → Prop := fun φ d => getF φ i = some d
def rFld (cs : List Str) (f : Str) (R : Fro → Dt → Prop) : Fro → Dt → Prop := fun φ v => ∃ d c, R φ d ∧ clsD d = some c ∧ c ∈ cs ∧ fldD f d = some v
/-- fields of some classes -/
def InsF (K : PySem.W.Frag) (cs : List Str) (f : Str) : Prop := ∀ c ∈ cs, Cls K (He.ga K c) ∧ NoAttr K (He.ga K c) f
section
variable {X : Cx}
theorem g_rvar (i : Nat) {x : Str} {pos : Pos} (hN : X.N[i]? = some x := by rfl) (hv : Vis X.env.scope x := by first | exact Or.inl rfl | exact Or.inr (Or.inl rfl) | exact Or.inr (Or.inr rfl)) (hd : (x == ("__debug__" : Str)) = false := by decide)
    (hcd : (x == ("__classdict__" : Str)) = false := by decide) : GE X (.Name x pos) (dRel (rVar i)) := ⟨_, pe_var hN hv hd hcd, fun σ H φ Φ Q env h q => by
  obtain ⟨d, h1, h2⟩ := h
  refine se_var i σ H φ Φ Q env ?_ q
  unfold dV
  rw [show getF φ i = some d from h1]
  exact h2⟩
theorem g_rfld {cs : List Str} {f : Str} {e : Expr} {R : Fro → Dt → Prop} {pos : Pos} (t : InsF X.K cs f) (he : GE X e (dRel R)) (hb : attributeBase e f X.env (eval e X.env) = eval e X.env := by rfl) : GE X (.Attribute e f pos) (dRel (rFld cs f R)) := by
  obtain ⟨te, a1, a2⟩ := he
  refine ⟨_, pe_fld a1 hb, fun σ H φ Φ Q env h q => ?_⟩
  obtain ⟨v, ⟨d, c, hR, hc, hm, hf⟩, hΦ⟩ := h
  refine a2 σ H φ (fun d' => d' = d) _ env ⟨d, hR, rfl⟩ fun x H1 d' s1 p1 e1 => ?_
  subst e1
  obtain ⟨a, dx, fs, rfl, h1, h2, _⟩ := dp_ins p1 hc
  obtain ⟨y, h3, h4⟩ := h2 f v hf
  exact ⟨a, _, dx, fs, y, rfl, h1, (t c hm).1, (t c hm).2, h3, q y H1 v s1 h4 hΦ⟩
end
/-! methods -/
/-- a contract, asked of one class alone -/
def onC (c : Str) (dsp : DSp) : DSp := fun ds Φ Ξ => (∃ d r, ds = d :: r ∧ clsD d = some c) ∧ dsp ds Φ Ξ
structure MN (P : Program) (w : World) (K : PySem.W.Frag) (mg : Str → Option Value) (base : Heap) (m : Str) (k : Nat) (cs : List Str) (dsp : DSp) : Prop where
  ex : ∀ c ∈ cs, Cls K (He.ga K c) ∧ ∃ f fd ps, FnOk P w K mg base (L2.CX P w) k f fd ps (lift K (onC c dsp)) ∧ Meth K (He.ga K c) m f ∧ Binds K fd ps []
def dMeth (R : Fro → Dt → Prop) (cs : List Str) (m : Str) (dsp : DSp) (da : DA) : DE := fun φ Φ => ∃ d c, R φ d ∧ clsD d = some c ∧ c ∈ cs ∧ fldD m d = none ∧ da φ fun ds => dsp (d :: ds) (fun s => Φ s.dat) (fun _ => False)
theorem pe_any {X : Cx} {e : Expr} {ι : Type} {t : ι → TE} {p : ι → Prop} (h : ∀ i, p i → PE X e (t i)) : PE X e (fun σ H Q => ∃ i, p i ∧ t i σ H Q) := ⟨fun pins s σ H Q I ⟨i, hi, q⟩ => (h i hi).run pins s σ H Q I q⟩
section
variable {X : Cx}
theorem g_meth {cs : List Str} {m : Str} {k : Nat} {dsp : DSp} {o e : Expr} {es : List Expr} {R : Fro → Dt → Prop} {da : DA} {apos pos : Pos} {pl : Sem Bool} (N : MN X.prog X.w X.K X.mg X.base m k cs dsp) (hr : Room k X.A) (ho : GE X o (dRel R)) (ha : GA X (e :: es) da)
    (hst : starEach (e :: es) X.env = (false, eval e X.env) :: starEach es X.env := by rfl) (hpl : (backTo pos (starEach es X.env)).any (·.1) = false := by rfl)
    (ht : eval (.Call (.Attribute o m apos) (e :: es) [] pos) X.env = (do
      let ov ← eval o X.env
      standAt apos.atName
      let (f, first) ← holding [ov] (getMethod ov m pl)
      callWith pos f first (backTo pos (starEach (e :: es) X.env)) (backToKw pos (keywordEach [] X.env))) := by rfl) :
    GE X (.Call (.Attribute o m apos) (e :: es) [] pos) (dMeth R cs m dsp da) := by
  obtain ⟨to, o1, o2⟩ := ho
  obtain ⟨ta, a1, a2⟩ := ha
  refine ⟨fun σ H Q => ∃ c, c ∈ cs ∧ tMeth (He.ga X.K c) m (lift X.K (onC c dsp)) [] E0 to ta σ H Q, pe_any fun c hc => ?_, fun σ H φ Φ Q env h q => ?_⟩
  · obtain ⟨hcl, f, fd, ps, F, hm, hb⟩ := N.ex c hc
    exact pe_meth o1 hcl hm F hr hb .nil passL a1 hst hpl ht
  · obtain ⟨d, c, hR, hc, hcs, hf, h⟩ := h
    refine ⟨c, hcs, o2 σ H φ (fun d' => d' = d) _ env ⟨d, hR, rfl⟩ fun x H1 d' s1 p1 e1 => ?_⟩
    subst e1
    obtain ⟨a, dx, fs, rfl, h1, _, h3⟩ := dp_ins p1 hc
    refine ⟨a, dx, fs, rfl, h1, h3 m hf, a2 σ H1 φ _ _ (env.up s1) h fun vs H2 ds s2 ps l hd => ?_⟩
    show lift X.K (onC c dsp) (V.ref a :: (vs ++ [])) H2 Q E0
    rw [List.append_nil]
    exact ⟨d' :: ds, _, _, .cons (p1.up s2) ps, ⟨⟨d', ds, rfl, hc⟩, hd⟩, retOk_data (s1.trans s2) q, fun x d H' s p z => z.elim⟩
theorem g_meth0 {cs : List Str} {m : Str} {k : Nat} {dsp : DSp} {o : Expr} {R : Fro → Dt → Prop} {apos pos : Pos} {pl : Sem Bool} (N : MN X.prog X.w X.K X.mg X.base m k cs dsp) (hr : Room k X.A) (ho : GE X o (dRel R))
    (ht : eval (.Call (.Attribute o m apos) [] [] pos) X.env = (do
      let ov ← eval o X.env
      standAt apos.atName
      let (f, first) ← holding [ov] (getMethod ov m pl)
      callWith pos f first (backTo pos (starEach [] X.env)) (backToKw pos (keywordEach [] X.env))) := by rfl) :
    GE X (.Call (.Attribute o m apos) [] [] pos) (dMeth R cs m dsp dNil) := by
  obtain ⟨to, o1, o2⟩ := ho
  refine ⟨fun σ H Q => ∃ c, c ∈ cs ∧ tMeth (He.ga X.K c) m (lift X.K (onC c dsp)) [] E0 to tNil σ H Q, pe_any fun c hc => ?_, fun σ H φ Φ Q env h q => ?_⟩
  · obtain ⟨hcl, f, fd, ps, F, hm, hb⟩ := N.ex c hc
    exact pe_meth0 o1 hcl hm F hr hb .nil passL ht
  · obtain ⟨d, c, hR, hc, hcs, hf, h⟩ := h
    refine ⟨c, hcs, o2 σ H φ (fun d' => d' = d) _ env ⟨d, hR, rfl⟩ fun x H1 d' s1 p1 e1 => ?_⟩
    subst e1
    obtain ⟨a, dx, fs, rfl, h1, _, h3⟩ := dp_ins p1 hc
    refine ⟨a, dx, fs, rfl, h1, h3 m hf, ?_⟩
    show lift X.K (onC c dsp) [V.ref a] H1 Q E0
    exact ⟨[d'], _, _, .cons p1 .nil, ⟨⟨d', [], rfl, hc⟩, h⟩, retOk_data s1 q, fun x d H' s p z => z.elim⟩
end
/-! how instances are made -/
def spIns (C : Addr) (ns : List Str) : Sp := fun vs H Q _ => ∃ (a dx : Addr) (ys : List V), vs = .ref a :: ys ∧ ys.length = ns.length ∧ H a = some (.ins C dx []) ∧ Q .non (upd H a (.ins C dx (List.zip ns ys)))
structure MkN (P : Program) (w : World) (K : PySem.W.Frag) (mg : Str → Option Value) (base : Heap) (c : Str) (ns : List Str) : Prop where
  cn : cnOf K (He.ga K c) = some c
  gC : mg c = some (.ref (He.ga K c))
  ex : ∃ f fd ps, Mk K (He.ga K c) f ∧ FnOk P w K mg base (L2.CX P w) 1 f fd ps (spIns (He.ga K c) ns) ∧ Binds K fd ps []
def dMake (c : Str) (ns : List Str) (da : DA) : DE := fun φ Φ => da φ fun ds => ds.length = ns.length ∧ Φ (.dict ((.list [.str c], .none) :: List.zip (ns.map .str) ds))
theorem same_ins {H : Hp} {x dx C : Addr} {fs : List (Str × V)} (hx : H x = none) (hd : H dx = none) : Same H (upd (upd H dx (.own x)) x (.ins C dx fs)) := fun b o e => by
  rw [upd_ne (ne_of_none e hx), upd_ne (ne_of_none e hd)]
  exact e
section
variable {X : Cx}
theorem g_make {c : Str} {ns : List Str} {e : Expr} {es : List Expr} {da : DA} {p pos : Pos} (N : MkN X.prog X.w X.K X.mg X.base c ns) (hr : Room 2 X.A) (ha : GA X (e :: es) da) (hg : Gl X c := by rfl) (hdb : (c == ("__debug__" : Str)) = false := by decide)
    (he : starEach (e :: es) X.env = (false, eval e X.env) :: starEach es X.env := by rfl) (hpl : (backTo pos (starEach es X.env)).any (·.1) = false := by rfl) : GE X (.Call (.Name c p) (e :: es) [] pos) (dMake c ns da) := by
  obtain ⟨ta, a1, a2⟩ := ha
  obtain ⟨f, fd, ps, M, F, hb⟩ := N.ex
  refine ⟨_, pe_make (E := fun _ _ _ => False) M F hr hg N.gC hb .nil passL a1 hdb he hpl, fun σ H φ Φ Q env h q => ?_⟩
  refine a2 σ H φ _ _ env h fun vs H1 ds s1 pd l hd => ?_
  obtain ⟨hl, hΦ⟩ := hd
  intro x dx hx hdx hne
  refine ⟨x, dx, vs, by rw [List.append_nil], by rw [pd.len]; exact hl, upd_same, rfl, ?_⟩
  have e2 : upd (upd (upd H1 dx (.own x)) x (.ins (He.ga X.K c) dx [])) x (.ins (He.ga X.K c) dx (List.zip ns vs)) = upd (upd H1 dx (.own x)) x (.ins (He.ga X.K c) dx (List.zip ns vs)) := by
    funext b
    by_cases z : b = x
    · rw [z, upd_same, upd_same]
    · rw [upd_ne z, upd_ne z, upd_ne z]
  rw [e2]
  have s2 := same_ins (C := He.ga X.K c) (fs := List.zip ns vs) hx hdx
  exact q _ _ _ (s1.trans s2) (.ins upd_same N.cn (by rw [pd.len]; exact hl.symm) (pd.up s2) rfl) hΦ
end
end L2.D3
set_option maxHeartbeats 4000000
/-! Instances as data: made without an __init__ of their own; __init__s that store their arguments; isinstance; checks of classes. -/
namespace L2.D3
open PySem PySem.Spec PyProof.Rows
section
variable {X : Cx}
theorem run_make0 {C : Addr} {pins : List (Addr × Obj)} {σ : St} {H : Hp} {s : Shared} {Q : VK} (mk : PySem.W.makesIn X.K C = true) (ini : PySem.W.findIn X.K (.ref C) "__init__" = some (some (.builtin "object.__init__"))) (I : Inv X pins σ H s)
    (h : ∀ x dx, H x = none → H dx = none → dx ≠ x → Q (.ref x) (upd (upd H dx (.own x)) x (.ins C dx []))) : wpAny (model X.prog X.w) X.A (call (.ref C) []) (EP X pins σ Q) X.xe s := by
  have hq := h (s.heap.objs.size + 1) s.heap.objs.size (I.hok.fresh (Nat.le_succ _)) (I.hok.fresh (Nat.le_refl _)) (Nat.ne_of_lt (Nat.lt_succ_self _))
  have I2 := Inv.made (C := C) I
  have Y := PySem.W.makes_of (M := model X.prog X.w) I.kIn mk
  refine wpAny_call (make_map0 I.kIn mk ini (fun self => PySem.W.Looks.of_pure (PySem.W.oi_bind self)) ?_)
  obtain ⟨hh, g, d, t, os⟩ := s
  have hget : ((hh.push PySem.W.emptyDict).push (PySem.W.instObj C hh.objs.size)).get? (hh.objs.size + 1) = some (PySem.W.instObj C hh.objs.size) := by heap_get
  have t1 : PySem.W.Looks (model X.prog X.w) ((hh.push PySem.W.emptyDict).push (PySem.W.instObj C hh.objs.size)) (typeOf (.ref (hh.objs.size + 1))) (.ref C) := (PySem.W.Looks.ld hget).andThen .now
  have t2 : PySem.W.Looks (model X.prog X.w) ((hh.push PySem.W.emptyDict).push (PySem.W.instObj C hh.objs.size)) (isInstance (.ref (hh.objs.size + 1)) (.type "object")) true := t1.andThen (Y.top.keeps fun b o e => Heap.get?_push_of_some _ (Heap.get?_push_of_some _ e))
  refine codeAny_call_builtin PySem.W.oi_plain PySem.W.entry_oi (@PySem.W.check_slot (model X.prog X.w) _ _ _ "object.__init__" "object" "__init__" (.ref (hh.objs.size + 1)) [] [] _ PySem.W.oi_kind PySem.W.oi_split t2 (PySem.W.oi_args (.ref (hh.objs.size + 1))) ?_)
  rw [PySem.W.oi_run]
  exact wpAny_pure (And.intro rfl ⟨V.ref (hh.objs.size + 1), _, I2, rfl, hq⟩)
end
/-- a class without an __init__ of its own -/
structure MkN0 (K : PySem.W.Frag) (mg : Str → Option Value) (c : Str) : Prop where
  cn : cnOf K (He.ga K c) = some c
  gC : mg c = some (.ref (He.ga K c))
  mks : PySem.W.makesIn K (He.ga K c) = true
  ini : PySem.W.findIn K (.ref (He.ga K c)) "__init__" = some (some (.builtin "object.__init__"))
  kp : PySem.W.keepIn K (.ref (He.ga K c)) = true
section
variable {X : Cx}
theorem g_make0 {c : Str} {p pos : Pos} (N : MkN0 X.K X.mg c) (hg : Gl X c := by rfl) (hdb : (c == ("__debug__" : Str)) = false := by decide) : GE X (.Call (.Name c p) [] [] pos) (dMake c [] dNil) := by
  refine ⟨fun σ H Q => ∀ x dx, H x = none → H dx = none → dx ≠ x → Q (.ref x) (upd (upd H dx (.own x)) x (.ins (He.ga X.K c) dx [])), ⟨fun pins s σ H Q I h => ?_⟩, fun σ H φ Φ Q env h q => ?_⟩
  · refine wpAny_Call_Name_kw (ld_glob I hg N.gC ?_ hdb)
    exact PySem.W.callWith_K0 I.kIn N.kp (run_make0 N.mks N.ini I h)
  · intro x dx hx hdx hne
    exact q _ _ _ (same_ins hx hdx) (.ins (ns := []) (us := []) (es := []) upd_same N.cn rfl .nil rfl) h.2
end
/-! __init__s that store what they are handed -/
def IniS (X : Cx) (C : Addr) (ns : List Str) (body : List Stmt) : Prop := ∃ t, PSs X body t ∧ ∀ (D : Ends) (a dx : Addr) (ys : List V) (H : Hp), ys.length = ns.length → H a = some (.ins C dx []) → D.nx (some (.ref a) :: ys.map some) (upd H a (.ins C dx (List.zip ns ys))) → t D (some (.ref a) :: ys.map some) H
section
variable {P : Program} {w : World} {K : PySem.W.Frag} {mg : Str → Option Value} {base : Heap} {qual : Str} {params : Arguments} {scope : Scope} {fa : Addr} {fd : FuncData} {dvs : List V} {kws : List (Str × V)}
theorem ins_ok {C : Addr} {ns yn : List Str} {body : List Stmt} (F : FunD K "__init__" qual params body scope dvs kws fa fd) (S : FnScope ("self" :: yn) ("self" :: yn) scope) (hl : yn.length = ns.length)
    (hb : ∀ cdv A outer s H E, IniS (cxOf (L2.CX P w) P w K mg base ("self" :: yn) qual scope fa cdv A outer s H E) C ns body) : FnOk P w K mg base (L2.CX P w) 1 fa fd ("self" :: yn) (spIns C ns) := by
  refine F.ok (k := 0) S (fun vs H Q E h => ?_) (fun cdv A outer s H vs Q E hr h => ?_)
  · obtain ⟨a, dx, ys, rfl, l, _⟩ := h
    simp [l, hl]
  · obtain ⟨a, dx, ys, rfl, l, ha, hq⟩ := h
    obtain ⟨t, h1, h2⟩ := hb cdv A outer s H E
    have e : start ("self" :: yn) (V.ref a :: ys) = some (.ref a) :: ys.map some := by
      unfold start
      simp [l, hl]
    refine ⟨t, h1, ?_⟩
    rw [e]
    exact h2 _ a dx ys H l ha hq
theorem ins_body1 {X : Cx} {C : Addr} {f yn : Str} {p1 p2 p3 pos : Pos} (c : Cls X.K C) (n : NoAttr X.K C f) (hN0 : X.N[0]? = some ("self" : Str) := by rfl) (hN1 : X.N[1]? = some yn := by rfl)
    (hv0 : Vis X.env.scope "self" := by first | exact Or.inl rfl | exact Or.inr (Or.inl rfl) | exact Or.inr (Or.inr rfl)) (hv1 : Vis X.env.scope yn := by first | exact Or.inl rfl | exact Or.inr (Or.inl rfl) | exact Or.inr (Or.inr rfl))
    (hd1 : (yn == ("__debug__" : Str)) = false := by decide) (hc1 : (yn == ("__classdict__" : Str)) = false := by decide) (hs : swapsWith (.Name yn p3) (some (.Attribute (.Name "self" p1) f p2)) pos.line X.env = pure false := by rfl) :
    IniS X C [f] [.Assign [.Attribute (.Name "self" p1) f p2] (.Name yn p3) pos] := by
  refine ⟨_, pss_one (ps_fld (pe_var (i := 0) hN0 hv0 (by decide) (by decide)) (pe_var (i := 1) hN1 hv1 hd1 hc1) hs), fun D a dx ys H l ha hq => ?_⟩
  match ys, l with
  | [y], _ => exact ⟨y, rfl, _, rfl, a, C, dx, [], rfl, ha, c, n, by decide, hq⟩
theorem ins_body2 {X : Cx} {C : Addr} {f g yn zn : Str} {p1 p2 p3 pos q1 q2 q3 qos : Pos} (c : Cls X.K C) (n : NoAttr X.K C f) (n2 : NoAttr X.K C g) (hfg : ¬ f = g) (hN0 : X.N[0]? = some ("self" : Str) := by rfl) (hN1 : X.N[1]? = some yn := by rfl) (hN2 : X.N[2]? = some zn := by rfl)
    (hv0 : Vis X.env.scope "self" := by first | exact Or.inl rfl | exact Or.inr (Or.inl rfl) | exact Or.inr (Or.inr rfl)) (hv1 : Vis X.env.scope yn := by first | exact Or.inl rfl | exact Or.inr (Or.inl rfl) | exact Or.inr (Or.inr rfl)) (hv2 : Vis X.env.scope zn := by first | exact Or.inl rfl | exact Or.inr (Or.inl rfl) | exact Or.inr (Or.inr rfl))
    (hd1 : (yn == ("__debug__" : Str)) = false := by decide) (hc1 : (yn == ("__classdict__" : Str)) = false := by decide) (hd2 : (zn == ("__debug__" : Str)) = false := by decide) (hc2 : (zn == ("__classdict__" : Str)) = false := by decide)
    (hs : swapsWith (.Name yn p3) (some (.Attribute (.Name "self" p1) f p2)) pos.line X.env = pure false := by rfl) (hs2 : swapsWith (.Name zn q3) (some (.Attribute (.Name "self" q1) g q2)) qos.line X.env = pure false := by rfl) :
    IniS X C [f, g] [.Assign [.Attribute (.Name "self" p1) f p2] (.Name yn p3) pos, .Assign [.Attribute (.Name "self" q1) g q2] (.Name zn q3) qos] := by
  refine ⟨_, pss_cons (ps_fld (pe_var (i := 0) hN0 hv0 (by decide) (by decide)) (pe_var (i := 1) hN1 hv1 hd1 hc1) hs) (pss_one (ps_fld (pe_var (i := 0) hN0 hv0 (by decide) (by decide)) (pe_var (i := 2) hN2 hv2 hd2 hc2) hs2)), fun D a dx ys H l ha hq => ?_⟩
  match ys, l with
  | [y, z], _ =>
    refine ⟨y, rfl, _, rfl, a, C, dx, [], rfl, ha, c, n, by decide, z, rfl, _, rfl, a, C, dx, [(f, y)], rfl, upd_same, c, n2, by show 1 < 1000; decide, ?_⟩
    have e1 : putF g z [(f, y)] = [(f, y), (g, z)] := by simp [putF, hfg]
    have e2 : upd (upd H a (.ins C dx (putF f y []))) a (.ins C dx (putF g z [(f, y)])) = upd H a (.ins C dx (List.zip [f, g] [y, z])) := by
      funext b
      by_cases k : b = a
      · rw [k, upd_same, upd_same, e1]; rfl
      · rw [upd_ne k, upd_ne k, upd_ne k]
    rw [e2]
    exact hq
end
/-! isinstance of an instance -/
def dIsI (R : Fro → Dt → Prop) (tb : List (Str × Bool)) : DE := fun φ Φ => ∃ d c b, R φ d ∧ clsD d = some c ∧ tb.lookup c = some b ∧ Φ (.bool b)
/-! checks -/
def clsB (K : PySem.W.Frag) (C : Addr) : Bool := PySem.W.plainGet K C Str.empty && (PySem.W.hasDictIn K C && (PySem.W.plainOver K C && He.eqO (PySem.W.findIn K (.ref C) "__setattr__") (some (some (.builtin "object.__setattr__")))))
theorem clsB_ok {K : PySem.W.Frag} {C : Addr} (h : clsB K C = true) : Cls K C := by
  obtain ⟨h1, h⟩ := He.ba h
  obtain ⟨h2, h⟩ := He.ba h
  obtain ⟨h3, h4⟩ := He.ba h
  exact ⟨h1, h2, h3, He.eqO_ok h4⟩
def insCB (K : PySem.W.Frag) (C : Addr) : Bool := clsB K C && (He.eqO (PySem.W.findIn K (.ref C) "__class__") (some (some (.builtin "object.__class__"))) && (He.eqO (PySem.W.specialIn K (.builtin "object.__class__") "__get__") (some (some (.builtin "getset_descriptor.__get__"))) && (decide (PySem.W.takesIn K (.builtin "object.__class__") = some true) && (decide (PySem.W.mroIn K C (.type "object") = some true) && decide (PySem.W.kitOne K (.ref C) (.ref C) = some true)))))
theorem insCB_ok {K : PySem.W.Frag} {C : Addr} (h : insCB K C = true) : C8.InsC K C := by
  obtain ⟨h1, h⟩ := He.ba h
  obtain ⟨h2, h⟩ := He.ba h
  obtain ⟨h3, h⟩ := He.ba h
  obtain ⟨h4, h⟩ := He.ba h
  obtain ⟨h5, h6⟩ := He.ba h
  exact ⟨clsB_ok h1, He.eqO_ok h2, He.eqO_ok h3, of_decide_eq_true h4, of_decide_eq_true h5, of_decide_eq_true h6⟩
/-- of a class: its name tells it; fields that no class has; methods, by the class that has them -/
def clsTB (K : PySem.W.Frag) (c : Str) (fs : List Str) (ms : List (Str × Str)) : Bool := insCB K (He.ga K c) && (decide (cnOf K (He.ga K c) = some c) && ((fs.all fun f => He.eqO (PySem.W.findIn K (.ref (He.ga K c)) f) (some none)) && ((ms.all fun x => He.eqO (PySem.W.findIn K (.ref (He.ga K c)) x.1) (some (some (.ref (He.ma K (He.ga K x.2) x.1)))) && (PySem.W.isFn K (.ref (He.ma K (He.ga K x.2) x.1)) && PySem.W.keepIn K (.ref (He.ma K (He.ga K x.2) x.1)))) && (PySem.W.makesIn K (He.ga K c) && PySem.W.keepIn K (.ref (He.ga K c))))))
structure ClsT (K : PySem.W.Frag) (c : Str) (fs : List Str) (ms : List (Str × Str)) : Prop where
  ic : C8.InsC K (He.ga K c)
  cn : cnOf K (He.ga K c) = some c
  fs : ∀ f ∈ fs, NoAttr K (He.ga K c) f
  ms : ∀ x ∈ ms, Meth K (He.ga K c) x.1 (He.ma K (He.ga K x.2) x.1)
  mks : PySem.W.makesIn K (He.ga K c) = true
  kp : PySem.W.keepIn K (.ref (He.ga K c)) = true
theorem clsTB_ok {K : PySem.W.Frag} {c : Str} {fs : List Str} {ms : List (Str × Str)} (h : clsTB K c fs ms = true) : ClsT K c fs ms := by
  obtain ⟨h1, h⟩ := He.ba h
  obtain ⟨h2, h⟩ := He.ba h
  obtain ⟨h3, h⟩ := He.ba h
  obtain ⟨h4, h⟩ := He.ba h
  obtain ⟨h5, h6⟩ := He.ba h
  refine ⟨insCB_ok h1, of_decide_eq_true h2, fun f hf => He.eqO_ok (List.all_eq_true.mp h3 f hf), fun x hx => ?_, h5, h6⟩
  obtain ⟨k1, k⟩ := He.ba (List.all_eq_true.mp h4 x hx)
  obtain ⟨k2, k3⟩ := He.ba k
  exact ⟨He.eqO_ok k1, k2, k3⟩
end L2.D3
set_option maxHeartbeats 4000000
/-! d["key"]; a list of numbers in a dict, of which the last one is taken and into which another one is put. -/
namespace L2.D3
open PySem PySem.Spec PyProof.Rows
def keyD (k : Str) : Dt → Option Dt
  | .dict m => fldL k m
  | _ => none
theorem valV_zip {K : PySem.W.Frag} {H : Hp} (f : Str) : ∀ {ks : List Key} {us : List V} {es : List Dt}, DpAll K H us es → ks.length = us.length → ∀ d, fldL f (List.zip (ks.map kD) es) = some d → ∃ v, valV (List.zip ks us) (.inr f) = some v ∧ Dp K H v d
  | [], [], [], _, _, d, h => by cases h
  | k :: ks, u :: us, e :: es, h, l, d, hd => by
    cases h with
    | cons h1 h2 =>
      have ih := valV_zip f h2 (by simpa using l) d
      have q : ∀ b : Bool, decide (k = .inr f) = b → valV (List.zip (k :: ks) (u :: us)) (.inr f) = if b then some u else valV (List.zip ks us) (.inr f) := fun b hb => by
        show Option.map _ (List.find? _ ((k, u) :: List.zip ks us)) = _
        rw [List.find?_cons]
        simp only [hb]
        cases b <;> rfl
      cases k with
      | inl i =>
        rw [q false (by simp)]
        exact ih hd
      | inr z =>
        have q2 : fldL f (List.zip ((Sum.inr z :: ks).map kD) (e :: es)) = if z = f then some e else fldL f (List.zip (ks.map kD) es) := rfl
        rw [q2] at hd
        by_cases c : z = f
        · subst c
          rw [q true (by simp)]
          simp only [if_true] at hd ⊢
          cases hd
          exact ⟨u, rfl, h1⟩
        · rw [q false (by simp [c])]
          rw [if_neg c] at hd
          exact ih hd
theorem dp_key {K : PySem.W.Frag} {H : Hp} {v : V} {d x : Dt} {k : Str} (p : Dp K H v d) (hk : keyD k d = some x) (hn : clsD d = none) (ht : ∀ m, d ≠ .dict ((.str "t", .none) :: m)) : ∃ a kvs u, v = .ref a ∧ H a = some (.dK kvs) ∧ valV kvs (.inr k) = some u ∧ Dp K H u x := by
  cases p with
  | dk h1 h2 h3 h4 =>
    subst h4
    obtain ⟨u, e1, e2⟩ := valV_zip k h3 h2 x hk
    exact ⟨_, _, u, rfl, h1, e1, e2⟩
  | dt h1 h2 h3 h4 => exact absurd (congrArg PyData.dict h4) (ht _)
  | pool h => cases hk
  | xs h => cases hk
  | ins h1 h2 h3 h4 h5 => subst h5; cases hn
  | _ => cases hk
/-- a dict with texts for keys, no other marker -/
def keyed (d : Dt) : Prop := clsD d = none ∧ ∀ m, d ≠ .dict ((.str "t", .none) :: m)
def dKey (k : Str) (de : DE) : DE := fun φ Φ => de φ fun d => ∃ x, keyed d ∧ keyD k d = some x ∧ Φ x
section
variable {X : Cx}
theorem g_key {k : Str} {n j : Nat} {e : Expr} {de : DE} {p pos : Pos} (hr : Room n X.A) (he : GE X e de) (hs : NoSl (.Constant (.str k) j p) := by exact fun _ _ => rfl) : GE X (.Subscript e (.Constant (.str k) j p) pos) (dKey k de) := by
  obtain ⟨te, a1, a2⟩ := he
  refine ⟨_, pe_dget (by have := hr.units; omega) a1 pe_str hs, fun σ H φ Φ Q env h q => a2 σ H φ _ _ env h fun v H1 d s1 p1 hd => ?_⟩
  obtain ⟨x, ⟨hc, ht⟩, hk, hΦ⟩ := hd
  obtain ⟨a, kvs, u, rfl, e1, e2, e3⟩ := dp_key p1 hk hc ht
  refine ⟨a, u, rfl, ?_, q u H1 x s1 e3 hΦ⟩
  rw [← e2]
  exact DGet.k (k := .inr k) e1
end
/-! the list of numbers -/
theorem xs_ok {P : Program} {w : World} {H : Hp} {h : Heap} {a : Addr} {vs : List Value} {ns : List Nat} {c : Nat} (e : h.get? a = some { cls := .type "list", data := .seq vs.toArray c }) (r : Vals (ns.map fun n => V.int (n : Nat)) vs) (h1 : 1 ≤ ns.length) (h2 : ns.length ≤ 1000) : ObjOk P w H h a (XsO a) :=
  ⟨⟨vs, ns, c, e, r, h1, h2⟩, ⟨_, e⟩, fun _ _ ⟨vs', ns', c', q, r', k1, k2⟩ k => ⟨vs', ns', c', k _ q, r', k1, k2⟩⟩
section
variable {X : Cx} {pins : List (Addr × Obj)} {σ : St} {H : Hp} {s : Shared}
theorem Inv.unxs {a : Addr} (I : Inv X pins σ H s) (ha : H a = some (XsO a)) : ∃ ns : List Nat, 1 ≤ ns.length ∧ ns.length ≤ 1000 ∧ Inv X pins σ (upd H a (.lst (ns.map fun n => V.int (n : Nat)))) s := by
  obtain ⟨⟨vs, ns, c, e, r, h1, h2⟩, _, _⟩ := I.hok a _ ha
  have hz : (1000 : Nat) ≤ sizeLine := by decide
  exact ⟨ns, h1, h2, Inv.swap I ha rfl ⟨by rw [List.length_map]; omega, vs, c, r, e⟩⟩
theorem Inv.xs {a : Addr} {ns : List Nat} (I : Inv X pins σ H s) (ha : H a = some (.lst (ns.map fun n => V.int (n : Nat)))) (h1 : 1 ≤ ns.length) (h2 : ns.length ≤ 1000) : Inv X pins σ (upd H a (XsO a)) s := by
  obtain ⟨_, its, c, r, e⟩ := I.hok a _ ha
  exact Inv.swap I ha rfl (xs_ok e r h1 h2)
end
/-- the whole numbers of the slots alone -/
def intF : Rho → Fro
  | [] => []
  | .pu (.int n) :: r => .da (.int n) :: intF r
  | _ :: r => .no :: intF r
theorem intF_len : ∀ {ρ : Rho}, (intF ρ).length = ρ.length
  | [] => rfl
  | a :: r => by
    have ih := intF_len (ρ := r)
    match a with
    | .pu (.int n) => exact congrArg Nat.succ ih
    | .pu .none | .pu (.bool _) | .pu (.str _) | .pu (.list _) | .pu (.tuple _) | .pu (.dict _) => exact congrArg Nat.succ ih
    | .un | .ow _ | .an _ | .tr _ => exact congrArg Nat.succ ih
theorem intF_get : ∀ {ρ : Rho} {i : Nat} {d : Dt}, getF (intF ρ) i = some d → ∃ n, d = .int n ∧ getS ρ i = .pu (.int n)
  | [], i, d, h => nomatch h
  | a :: r, 0, d, h => by
    match a, h with
    | .pu (.int n), h => cases h; exact ⟨n, rfl, rfl⟩
    | .pu .none, h | .pu (.bool _), h | .pu (.str _), h | .pu (.list _), h | .pu (.tuple _), h | .pu (.dict _), h => cases h
    | .un, h | .ow _, h | .an _, h | .tr _, h => cases h
  | a :: r, i + 1, d, h => by
    have g : getF (intF (a :: r)) (i + 1) = getF (intF r) i := by
      match a with
      | .pu (.int n) => rfl
      | .pu .none | .pu (.bool _) | .pu (.str _) | .pu (.list _) | .pu (.tuple _) | .pu (.dict _) => rfl
      | .un | .ow _ | .an _ | .tr _ => rfl
    rw [g] at h
    exact intF_get (ρ := r) h
theorem intF_an : ∀ {ρ : Rho} {i : Nat}, getA (intF ρ) i = none
  | [], i => rfl
  | a :: r, 0 => by
    match a with
    | .pu (.int n) => rfl
    | .pu .none | .pu (.bool _) | .pu (.str _) | .pu (.list _) | .pu (.tuple _) | .pu (.dict _) => rfl
    | .un | .ow _ | .an _ | .tr _ => rfl
  | a :: r, i + 1 => by
    have g : getA (intF (a :: r)) (i + 1) = getA (intF r) i := by
      match a with
      | .pu (.int n) => rfl
      | .pu .none | .pu (.bool _) | .pu (.str _) | .pu (.list _) | .pu (.tuple _) | .pu (.dict _) => rfl
      | .un | .ow _ | .an _ | .tr _ => rfl
    rw [g]
    exact intF_an (ρ := r)
theorem intF_env {K : PySem.W.Frag} {F H H' : Hp} {σ : St} {ρ : Rho} (e : EnvO K F σ H ρ) : EnvF K σ H' (intF ρ) := ⟨by rw [intF_len, e.len]; exact Nat.le_refl _, fun i d h => by
  obtain ⟨n, rfl, h2⟩ := intF_get h
  obtain ⟨v, h3, h4⟩ := e.pu i _ h2
  cases h4
  exact ⟨_, h3, .int n⟩, fun i A h => by rw [intF_an] at h; cases h⟩
def dPopIns (i j : Nat) (k : Str) (de : DE) (dr : DS) : DS := fun E ρ => noOw ρ ∧ (∃ d, getS ρ i = .pu d ∧ keyed d ∧ keyD k d = some xsD) ∧ ∀ n : Nat, de (intF (setS ρ j (.pu (.int n)))) fun d2 => (∃ m : Nat, d2 = .int m) ∧ dr E (setS ρ j (.pu (.int n)))
theorem dp_xs {K : PySem.W.Frag} {H : Hp} {v : V} (h : Dp K H v xsD) : ∃ a, v = .ref a ∧ H a = some (XsO a) := by
  unfold xsD at h
  cases h with
  | xs e => exact ⟨_, rfl, e⟩
  | dk _ _ _ e => exact (kD_ne _ _ .none _ _ (.inl e)).elim
  | dt _ _ _ e => cases e
  | ins _ _ _ _ e => cases e
/-- two statements that leave a list of numbers such a list -/
theorem pss_xs {X : Cx} {st1 st2 : Stmt} {rest : List Stmt} {t1 t2 tr : TS} (h1 : PS X st1 t1) (h2 : PS X st2 t2) (hr : PSs X rest tr) :
    PSs X (st1 :: st2 :: rest) (fun D σ H => ∃ b, H b = some (XsO b) ∧ ∀ ns : List Nat, 1 ≤ ns.length → ns.length ≤ 1000 →
      t1 { D with nx := fun σ2 H2 => t2 { D with nx := fun σ3 H3 => ∃ ms : List Nat, H3 b = some (.lst (ms.map fun n => V.int (n : Nat))) ∧ 1 ≤ ms.length ∧ ms.length ≤ 1000 ∧ tr D σ3 (upd H3 b (XsO b)) } σ2 H2 } σ (upd H b (.lst (ns.map fun n => V.int (n : Nat))))) := by
  refine ⟨fun pins s σ H D I h => ?_⟩
  obtain ⟨b, hb, h⟩ := h
  obtain ⟨ns, n1, n2, J⟩ := Inv.unxs I hb
  refine wpAny_execs_cons (thn (h1.run pins s σ _ _ J (h ns n1 n2)) fun f s1 q => ?_)
  cases f with
  | next =>
    obtain ⟨σ2, H2, J2, q2⟩ := q
    refine wpAny_execs_cons (thn (h2.run pins s1 σ2 H2 _ J2 q2) fun f s2 q => ?_)
    cases f with
    | next =>
      obtain ⟨σ3, H3, J3, ms, e, m1, m2, q3⟩ := q
      exact hr.run pins s2 σ3 _ D (Inv.xs J3 e m1 m2) q3
    | ret v => exact q
    | brk => exact q
    | cont => exact q
  | ret v => exact q
  | brk => exact q
  | cont => exact q
section
variable {X : Cx} {W : WX}
theorem s_popins {i j n j1 j2 j3 : Nat} {x y k : Str} {e : Expr} {rest : List Stmt} {de : DE} {dr : DS} {p1 p2 p3 apos cpos pos2 pos3 q1 q2 q3 q4 bpos dpos pos4 : Pos} (hr : Room n X.A) (hN : X.N.Nodup) (hi : X.N[i]? = some x) (hj : X.N[j]? = some y) (hij : j ≠ i) (he : GE X e de) (hrest : GSs X W rest dr)
    (hv : Vis X.env.scope x := by first | exact Or.inl rfl | exact Or.inr (Or.inl rfl) | exact Or.inr (Or.inr rfl)) (hd : (x == ("__debug__" : Str)) = false := by decide) (hcd : (x == ("__classdict__" : Str)) = false := by decide)
    (hy : Loc X.env.scope y := by first | exact Or.inl rfl | exact Or.inr rfl) (hf : X.fn y = true ∨ X.env.scope.names.lookup y = some .local := by first | exact .inl rfl | exact .inr rfl | assumption)
    (hs1 : NoSl (.Constant (.str k) j1 p2) := by exact fun _ _ => rfl) (hs2 : NoSl (.Constant (.str k) j2 q2) := by exact fun _ _ => rfl)
    (hb1 : attributeBase (.Subscript (.Name x p1) (.Constant (.str k) j1 p2) p3) "pop" X.env (eval (.Subscript (.Name x p1) (.Constant (.str k) j1 p2) p3) X.env) = eval (.Subscript (.Name x p1) (.Constant (.str k) j1 p2) p3) X.env := by rfl) (hl1 : (apos.endLine == cpos.line) = true := by rfl)
    (hw1 : swapsWith (.Call (.Attribute (.Subscript (.Name x p1) (.Constant (.str k) j1 p2) p3) "pop" apos) [] [] cpos) (some (.Name y pos2)) pos3.line X.env = pure false := by rfl)
    (hb2 : attributeBase (.Subscript (.Name x q1) (.Constant (.str k) j2 q2) q3) "insert" X.env (eval (.Subscript (.Name x q1) (.Constant (.str k) j2 q2) q3) X.env) = eval (.Subscript (.Name x q1) (.Constant (.str k) j2 q2) q3) X.env := by rfl)
    (hfew : ((backTo dpos (starEach [.Constant (.int 0) j3 q4, e] X.env)).all (fun x => !x.1) && (backToKw dpos (keywordEach [] X.env)).all (fun x => x.1.isSome)
      && decide (([.Constant (.int 0) j3 q4, e] : List Expr).length + ([] : List Keyword).length + (if ([] : List Keyword).isEmpty then 0 else 1) < 30)) = true := by rfl) (hl2 : (bpos.endLine == dpos.line) = true := by rfl)
    (hst : starEach [.Constant (.int 0) j3 q4, e] X.env = (false, eval (.Constant (.int 0) j3 q4) X.env) :: starEach [e] X.env := by rfl) (hst2 : starEach [e] X.env = (false, eval e X.env) :: starEach [] X.env := by rfl) (hpl : (backTo dpos (starEach [e] X.env)).any (·.1) = false := by rfl)
    (hw2 : swapsWith (.Call (.Attribute (.Subscript (.Name x q1) (.Constant (.str k) j2 q2) q3) "insert" bpos) [.Constant (.int 0) j3 q4, e] [] dpos) none pos4.line X.env = pure false := by rfl) :
    GSs X W (.Assign [.Name y pos2] (.Call (.Attribute (.Subscript (.Name x p1) (.Constant (.str k) j1 p2) p3) "pop" apos) [] [] cpos) pos3 :: .Expr (.Call (.Attribute (.Subscript (.Name x q1) (.Constant (.str k) j2 q2) q3) "insert" bpos) [.Constant (.int 0) j3 q4, e] [] dpos) pos4 :: rest) (dPopIns i j k de dr) := by
  obtain ⟨te, a1, a2⟩ := he
  obtain ⟨tr, b1, b2⟩ := hrest
  have hu : X.A.units + 1 < cLine := by have := hr.units; omega
  refine ⟨_, pss_xs (ps_set hN hj hy (pe_bm0 PySem.F.plainAttrs_list PySem.F.slot_list_pop PySem.F.type_list_pop mt_pop (pe_dget hu (pe_var hi hv hd hcd) pe_str hs1) hb1 hl1) hw1 hf) (ps_expr (pe_bm PySem.F.plainAttrs_list PySem.F.slot_list_insert PySem.F.type_list_insert mt_insert (pe_dget hu (pe_var hi hv hd hcd) pe_str hs2) (pa_cons pe_int (pa_cons a1 pa_nil hst2) hst) hb2 hfew hl2 hst hpl) hw2) b1, fun D E F σ H ρ env h m => ?_⟩
  obtain ⟨no, ⟨d, g1, ⟨kc, kt⟩, kx⟩, h⟩ := h
  obtain ⟨v, v1, v2⟩ := env.pu i d g1
  obtain ⟨a, kvs, u, rfl, e1, e2, e3⟩ := dp_key v2 kx kc kt
  obtain ⟨b, rfl, e4⟩ := dp_xs e3
  have ha := env.fz.same _ _ e1
  have hb := env.fz.same _ _ e4
  have hab : a ≠ b := fun z => by rw [z, hb] at ha; cases ha
  refine ⟨b, hb, fun ns n1 n2 => ?_⟩
  have hz : (1001 : Nat) ≤ sizeLine := by decide
  obtain ⟨n0, hn0⟩ : ∃ n0, ns[ns.length - 1]? = some n0 := ⟨_, List.getElem?_eq_getElem (by omega)⟩
  have da : ∀ o, (upd H b o) a = some (.dK kvs) := fun o => by rw [upd_ne hab]; exact ha
  have gk : ∀ o, DGet (upd H b o) a (.str k) (some (.ref b)) := fun o => by rw [← e2]; exact DGet.k (k := .inr k) (da o)
  have vi : (σ.set j (some (.int n0)))[i]? = some (some (.ref a)) := by rw [List.getElem?_set_ne hij]; exact v1
  have hl : ((ns.map fun n => V.int (n : Nat)))[(ns.map fun n => V.int (n : Nat)).length - 1]? = some (V.int n0) := by rw [List.length_map, List.getElem?_map, hn0]; rfl
  have hdl : (ns.map fun n => V.int (n : Nat)).dropLast = ns.dropLast.map fun n => V.int (n : Nat) := List.map_dropLast.symm
  refine ⟨.ref a, v1, a, .ref b, rfl, gk _, .inl ⟨rfl, _, SqL.of upd_same⟩, b, _, V.int n0, rfl, rfl, upd_same, hl, ?_⟩
  rw [upd_upd, hdl]
  refine ⟨.ref a, vi, a, .ref b, rfl, gk _, .inl ⟨rfl, _, SqL.of upd_same⟩, ?_⟩
  refine a2 _ _ (intF (setS ρ j (.pu (.int n0)))) _ _ (intF_env (env.putP j (.int n0))) (h n0) fun w H' d2 s' pw hd => ?_
  obtain ⟨⟨m0, rfl⟩, hd⟩ := hd
  cases pw
  have hb' : H' b = some (.lst (ns.dropLast.map fun n => V.int (n : Nat))) := s' _ _ upd_same
  have sH : Same H (upd H' b (XsO b)) := fun c o e => by
    by_cases z : c = b
    · subst z
      rw [hb] at e
      cases e
      exact upd_same
    · rw [upd_ne z]
      exact s' c o (by rw [upd_ne z]; exact e)
  refine ⟨b, _, 0, V.int m0, rfl, rfl, hb', by rw [List.length_map, List.length_dropLast]; omega, by decide, by decide, m0 :: ns.dropLast, ?_, by simp, by rw [List.length_cons, List.length_dropLast]; omega, ?_⟩
  · rw [upd_same]
    simp
  · rw [upd_upd]
    exact b2 D E _ _ _ _ ((env.flat no sH).putP j (.int n0)) hd (m.up (env.fz.same.trans sH))
end
/-! a dict display whose first value becomes a list of numbers -/
theorem fz_glue {G G' Hc : Hp} (z : Fz G Hc) (s : Same G G') : Fz G' (glue G' Hc) := ⟨fun a o e => glue_some e, fun a o e => by
  cases q : G' a with
  | some o' => rw [glue_some q] at e; exact .inl e
  | none =>
    rw [glue_none q] at e
    rcases z.drop a o e with k | ⟨_, k⟩
    · rw [s _ _ k] at q; cases q
    · exact .inr ⟨rfl, k⟩⟩
theorem fr_step {K : PySem.W.Frag} {te : TE} {de : DE} (h : SE K te de) {σ : St} {G Hc : Hp} {φ : Fro} {Φ : Dt → Prop} {Q : VK} (env : EnvF K σ G φ) (z : Fz G Hc) (hd : de φ Φ)
    (q : ∀ v G' d, Same G G' → Fz G' (glue G' Hc) → (∀ c o, Hc c = some o → G c = none → G' c = none ∧ (glue G' Hc) c = some o) → Dp K G' v d → Φ d → Q v (glue G' Hc)) : tFr te σ Hc Q :=
  ⟨G, z, h σ G φ Φ _ env hd fun v G' d s p hΦ => ⟨s, fun k => q v G' d s (fz_glue z s) (fun c o e n => ⟨k c o e n, by rw [glue_none (k c o e n)]; exact e⟩) p hΦ⟩⟩
theorem fr_stepF {K : PySem.W.Frag} {te : TE} {df : DF} (h : SF K te df) {σ : St} {G Hc : Hp} {φ : Fro} {Φ : List Dt → Prop} {Q : VK} (env : EnvF K σ G φ) (z : Fz G Hc) (hd : df φ Φ)
    (q : ∀ a vs ds G', Same G G' → G' a = none → DpAll K G' vs ds → Φ ds → Fz G' (glue (upd G' a (.lst vs)) Hc) → (glue (upd G' a (.lst vs)) Hc) a = some (.lst vs) → (∀ c o, Hc c = some o → G c = none → c ≠ a ∧ G' c = none ∧ (glue (upd G' a (.lst vs)) Hc) c = some o) → Q (.ref a) (glue (upd G' a (.lst vs)) Hc)) : tFr te σ Hc Q :=
  ⟨G, z, h σ G φ Φ _ env hd fun a vs ds G' s n p hΦ => ⟨s.trans (same_new n), fun k => by
    have s2 : Same G (upd G' a (.lst vs)) := s.trans (same_new n)
    have f2 := fz_glue z s2
    refine q a vs ds G' s n p hΦ ⟨(same_new n).trans f2.same, fun c o e => ?_⟩ (glue_some upd_same) (fun c o e hn => ?_)
    · rcases f2.drop c o e with y | ⟨y, y2⟩
      · by_cases w : c = a
        · subst w
          rw [upd_same] at y
          cases y
          exact .inr ⟨n, rfl⟩
        · rw [upd_ne w] at y
          exact .inl y
      · by_cases w : c = a
        · subst w; rw [upd_same] at y; cases y
        · rw [upd_ne w] at y
          exact .inr ⟨y, y2⟩
    · have y := k c o e hn
      have w : c ≠ a := fun w => by subst w; rw [upd_same] at y; cases y
      exact ⟨w, by rw [upd_ne w] at y; exact y, by rw [glue_none y]; exact e⟩⟩⟩
def dState (k1 k2 k3 k4 : Str) (df : DF) (d2 d3 d4 : DE) : DE := fun φ Φ => df φ fun ds => (∃ ns : List Nat, ds = ns.map (fun n => .int (n : Nat)) ∧ 1 ≤ ns.length ∧ ns.length ≤ 1000) ∧ d2 φ fun x2 => d3 φ fun x3 => d4 φ fun x4 => Φ (.dict [(.str k1, xsD), (.str k2, x2), (.str k3, x3), (.str k4, x4)])
theorem merge4 {k1 k2 k3 k4 : Str} (h : [k1, k2, k3, k4].Nodup) (a b c d : V) : mergeK [] [(Sum.inr k1, a), (Sum.inr k2, b), (Sum.inr k3, c), (Sum.inr k4, d)] = ([(Sum.inr k1, a), (Sum.inr k2, b), (Sum.inr k3, c), (Sum.inr k4, d)] : List (Key × V)) := by
  simp only [List.nodup_cons, List.mem_cons, List.not_mem_nil, or_false, not_or] at h
  obtain ⟨⟨h1, h2, h3⟩, ⟨h4, h5⟩, h6, _⟩ := h
  simp [mergeK, putK, h1, h2, h3, h4, h5, h6, Ne.symm h1, Ne.symm h2]
section
variable {X : Cx}
theorem ints_vs {K : PySem.W.Frag} {H : Hp} : ∀ {ns : List Nat} {vs : List V}, DpAll K H vs (ns.map fun n => .int (n : Nat)) → vs = ns.map fun n => V.int (n : Nat)
  | [], _, h => by cases h; rfl
  | n :: ns, _, h => by
    cases h with
    | cons h1 h2 =>
      cases h1
      rw [ints_vs h2]
      rfl
theorem g_state {k1 k2 k3 k4 : Str} {j1 j2 j3 j4 : Nat} {e1 e2 e3 e4 : Expr} {df : DF} {d2 d3 d4 : DE} {p1 p2 p3 p4 pos : Pos} (h1 : GF X e1 df) (h2 : GE X e2 d2) (h3 : GE X e3 d3) (h4 : GE X e4 d4) (hk : [k1, k2, k3, k4].Nodup := by decide) :
    GE X (.Dict [some (.Constant (.str k1) j1 p1), some (.Constant (.str k2) j2 p2), some (.Constant (.str k3) j3 p3), some (.Constant (.str k4) j4 p4)] [e1, e2, e3, e4] pos) (dState k1 k2 k3 k4 df d2 d3 d4) := by
  obtain ⟨t1, a1, b1⟩ := h1
  obtain ⟨t2, a2, b2⟩ := h2
  obtain ⟨t3, a3, b3⟩ := h3
  obtain ⟨t4, a4, b4⟩ := h4
  have hT := pe_disp (pos := pos) (pps_cons (k := .Constant (.str k1) j1 p1) pe_str (pe_frame a1) (pps_cons (k := .Constant (.str k2) j2 p2) pe_str (pe_frame a2) (pps_cons (k := .Constant (.str k3) j3 p3) pe_str (pe_frame a3) (pps_cons (k := .Constant (.str k4) j4 p4) pe_str (pe_frame a4) pps_nil)))) rfl rfl (by simp) (by show 4 ≤ 15; decide)
  refine ⟨fun σ H Q => tDisp [(tC (.str k1), tFr t1), (tC (.str k2), tFr t2), (tC (.str k3), tFr t3), (tC (.str k4), tFr t4)] σ H (fun v H2 => ∃ (a : Addr) (ns : List Nat), H2 a = some (.lst (ns.map fun n => V.int (n : Nat))) ∧ 1 ≤ ns.length ∧ ns.length ≤ 1000 ∧ Q v (upd H2 a (XsO a))), ⟨fun pins s σ H Q I h => ?_⟩, fun σ H φ Φ Q env h q => ?_⟩
  · refine thn (hT.run pins s σ H _ I h) fun u s1 hw => ?_
    obtain ⟨v, H2, J, r, a, ns, ha, l1, l2, hq⟩ := hw
    exact ⟨_, _, Inv.xs J ha l1 l2, r, hq⟩
  · intro p hp
    have z0 : Fz H (upd H p (.dK [])) := ⟨same_new hp, fun a o e => by
      by_cases w : a = p
      · subst w; rw [upd_same] at e; cases e; exact .inr ⟨hp, rfl⟩
      · rw [upd_ne w] at e; exact .inl e⟩
    simp only [tPairs, tC]
    refine fr_stepF b1 env z0 h fun a vs ds G1 s1 n1 pv hd z1 ga k1' => ?_
    obtain ⟨⟨ns, rfl, l1, l2⟩, hd⟩ := hd
    have ev := ints_vs pv
    subst ev
    obtain ⟨pa, pg, pk⟩ := k1' p _ upd_same hp
    refine fr_step b2 (env.up s1) z1 hd fun v2 G2 x2 s2 z2 k2' p2 hd => ?_
    obtain ⟨pg2, pk2⟩ := k2' p _ pk pg
    obtain ⟨ag2, ak2⟩ := k2' a _ ga n1
    refine fr_step b3 ((env.up s1).up s2) z2 hd fun v3 G3 x3 s3 z3 k3' p3 hd => ?_
    obtain ⟨pg3, pk3⟩ := k3' p _ pk2 pg2
    obtain ⟨ag3, ak3⟩ := k3' a _ ak2 ag2
    refine fr_step b4 (((env.up s1).up s2).up s3) z3 hd fun v4 G4 x4 s4 z4 k4' p4 hd => ?_
    obtain ⟨pg4, pk4⟩ := k4' p _ pk3 pg3
    obtain ⟨ag4, ak4⟩ := k4' a _ ak3 ag3
    refine ⟨pk4, [(.inr k1, .ref a), (.inr k2, v2), (.inr k3, v3), (.inr k4, v4)], rfl, by show 4 ≤ 15; decide, a, ns, by rw [upd_ne (Ne.symm pa)]; exact ak4, l1, l2, ?_⟩
    rw [merge4 hk]
    have sG : ∀ (Hc : Hp) (u : HO), Same G4 (upd (upd (glue G4 Hc) p u) a (XsO a)) := fun Hc u c o e => by
      rw [upd_ne (fun w => by rw [w, ag4] at e; cases e), upd_ne (fun w => by rw [w, pg4] at e; cases e)]
      exact glue_some e
    have sH : Same H G4 := s1.trans (s2.trans (s3.trans s4))
    refine q _ _ _ (sH.trans (sG _ _)) (.dk (ks := [.inr k1, .inr k2, .inr k3, .inr k4]) (us := [.ref a, v2, v3, v4]) (es := [xsD, x2, x3, x4]) (by rw [upd_ne pa, upd_same]; rfl) rfl (.cons (.xs upd_same) (.cons ((p2.up (s3.trans s4)).up (sG _ _)) (.cons ((p3.up s4).up (sG _ _)) (.cons (p4.up (sG _ _)) .nil)))) rfl) hd
end
end L2.D3
set_option maxHeartbeats 4000000
/-! Defs that call themselves: a contract for each depth. -/
namespace L2.D3
open PySem PySem.Spec PyProof.Rows
def dNever : DS := fun _ _ => False
theorem s_never {X : Cx} {W : WX} {st : List Stmt} : GSs X W st dNever := ⟨fun _ _ _ => False, ⟨fun pins s σ H D I h => h.elim⟩, fun D E F σ H ρ env h m => h.elim⟩
section
variable {P : Program} {w : World} {K : PySem.W.Frag} {mg : Str → Option Value} {base : Heap} {x qual : Str} {params : Arguments} {body : List Stmt} {scope : Scope} {f : Addr} {fd : FuncData}
/-- a contract that is never asked -/
theorem fn_ok0 {N ps : List Str} {k : Nat} {dsp : DSp} {dvs : List V} {kws : List (Str × V)} (F : FunD K x qual params body scope dvs kws f fd) (S : FnScope N ps scope) (hps : ps.length ≤ N.length) (h0 : ∀ ds Φ Ξ, ¬ dsp ds Φ Ξ) : FnOk P w K mg base (L2.CX P w) (k + 1) f fd ps (lift K dsp) :=
  fn_ok F S hps (fun ds Φ Ξ h => (h0 ds Φ Ξ h).elim) fun cdv A outer s H E hr => ⟨dNever, s_never, fun ds Φ Ξ h => (h0 ds Φ Ξ h).elim⟩
end
end L2.D3
set_option maxHeartbeats 4000000
/-! a, b = f(..), where f may raise. -/
namespace L2.D3
open PySem PySem.Spec PyProof.Rows
def dAsgX (dsp : DSp) (da : DA) (g : DG) : DS := fun E ρ => noOw ρ ∧ da (allF ρ) fun ds => dsp ds (fun s => g s.dat ρ E.nx) (fun x => E.xr x ρ)
section
variable {X : Cx} {W : WX} {f : Str} {k : Nat} {dsp : DSp} {e : Expr} {es : List Expr} {da : DA} {p pos : Pos}
theorem s_asgX {tg : Expr} {g : DG} {pos3 : Pos} (N : FN X.prog X.w X.K X.mg X.base f k dsp) (hr : Room k X.A) (tk : Takes X W) (ha : GA X (e :: es) da) (hg : GG X tg g) (hgl : Gl X f := by rfl) (hdb : (f == ("__debug__" : Str)) = false := by decide) (he : starEach (e :: es) X.env = (false, eval e X.env) :: starEach es X.env := by rfl) (hpl : (backTo pos (starEach es X.env)).any (·.1) = false := by rfl)
    (hs : swapsWithSole [tg] (.Call (.Name f p) (e :: es) [] pos) pos3.line X.env = pure false := by rfl) (hw : swappedStores [tg] (.Call (.Name f p) (e :: es) [] pos) X.env = pure none := by rfl)
    (h1 : (assignEach [tg] X.env).map (·.2) = [assign tg X.env] := by rfl) : GS X W (.Assign [tg] (.Call (.Name f p) (e :: es) [] pos) pos3) (dAsgX dsp da g) := by
  obtain ⟨te, a1, a2⟩ := call_x (p := p) (pos := pos) N hr tk ha hgl hdb he hpl
  obtain ⟨tg', b1, b2⟩ := hg
  refine ⟨_, ps_asg a1 b1 hs hw h1, fun D E F σ H ρ env h m => a2 D E F σ H ρ _ _ env m h fun v H2 d s pv z => ?_⟩
  have z' : g d ρ E.nx := by rcases z with z | ⟨_, rfl, z⟩ <;> exact z
  exact b2 v d H2 σ H2 ρ _ _ (env.flat h.1 s) pv z' fun σ' ρ' env' hn => m.nx H2 σ' H2 ρ' (env.fz.same.trans s) env' hn
end
end L2.D3
set_option maxHeartbeats 4000000
/-! Numbers as Rat, points, sides; sizes; what equals what. -/
namespace L2.D3
open PySem PySem.Spec PyProof.Rows
/-! ### numbers as data -/
def eQ (q : Rat) : Dt := .tuple [.int q.num, .int q.den]
abbrev Pt := Rat × Rat
def eP (p : Pt) : Dt := .tuple [eQ p.1, eQ p.2]
abbrev Sd := Pt × Pt
def eS (s : Sd) : Dt := .tuple [eP s.1, eP s.2]
theorem nsp_eQ (q : Rat) : spec (eQ q) = false := rfl
theorem nsp_eP (p : Pt) : spec (eP p) = false := rfl
theorem nsp_eS (s : Sd) : spec (eS s) = false := rfl
theorem eqv_eQ (a b : Rat) : PyData.eqv (eQ a) (eQ b) = decide (a = b) := by
  unfold eQ
  simp only [PyData.eqv, PyData.eqvAll, Bool.and_true]
  by_cases h : a = b
  · subst h; simp
  · rw [decide_eq_false h, Bool.and_eq_false_iff]
    by_cases h1 : a.num = b.num
    · right
      have h2 : a.den ≠ b.den := fun z => h (Rat.ext h1 z)
      rw [beq_eq_false_iff_ne]
      exact fun z => h2 (by exact_mod_cast z)
    · left
      rw [beq_eq_false_iff_ne]
      exact h1
theorem eqv_eP (a b : Pt) : PyData.eqv (eP a) (eP b) = decide (a = b) := by
  unfold eP
  simp only [PyData.eqv, PyData.eqvAll, Bool.and_true, eqv_eQ]
  by_cases h : a = b
  · subst h; simp
  · rw [decide_eq_false h, Bool.and_eq_false_iff]
    by_cases h1 : a.1 = b.1
    · right; exact decide_eq_false fun z => h (Prod.ext h1 z)
    · left; exact decide_eq_false h1
theorem eqv_eS (a b : Sd) : PyData.eqv (eS a) (eS b) = decide (a = b) := by
  unfold eS
  simp only [PyData.eqv, PyData.eqvAll, Bool.and_true, eqv_eP]
  by_cases h : a = b
  · subst h; simp
  · rw [decide_eq_false h, Bool.and_eq_false_iff]
    by_cases h1 : a.1 = b.1
    · right; exact decide_eq_false fun z => h (Prod.ext h1 z)
    · left; exact decide_eq_false h1
/-! shaped -/
theorem shaped_iff {d : Dt} : SeqAt.shaped d = true ↔ d.canLay0 = true ∧ d.depth ≤ 64 := by
  unfold SeqAt.shaped
  rw [Bool.and_eq_true, decide_eq_true_iff]
/-- laid at most n deep -/
def Sh (n : Nat) (d : Dt) : Prop := d.canLay0 = true ∧ d.depth ≤ n
theorem Sh.shaped {n : Nat} {d : Dt} (h : Sh n d) (hn : n ≤ 64) : SeqAt.shaped d = true := shaped_iff.mpr ⟨h.1, Nat.le_trans h.2 hn⟩
theorem Sh.mono {n m : Nat} {d : Dt} (h : Sh n d) (hn : n ≤ m) : Sh m d := ⟨h.1, Nat.le_trans h.2 hn⟩
theorem sh_int (n : Nat) (i : Int) : Sh n (.int i) := ⟨by simp [PyData.canLay0], by simp [PyData.depth]⟩
theorem sh_bool (n : Nat) (i : Bool) : Sh n (.bool i) := ⟨by simp [PyData.canLay0], by simp [PyData.depth]⟩
theorem sh_none (n : Nat) : Sh n .none := ⟨by simp [PyData.canLay0], by simp [PyData.depth]⟩
theorem shAll {n : Nat} : ∀ {ds : List Dt}, (∀ d ∈ ds, Sh n d) → PyData.canLayAll0 ds = true ∧ PyData.depthAll ds ≤ n
  | [], _ => ⟨by simp [PyData.canLayAll0], by simp [PyData.depthAll]⟩
  | d :: ds, h => by
    obtain ⟨h1, h2⟩ := h d List.mem_cons_self
    obtain ⟨h3, h4⟩ := shAll (ds := ds) fun e he => h e (List.mem_cons_of_mem _ he)
    refine ⟨by simp [PyData.canLayAll0, h1, h3], ?_⟩
    simp only [PyData.depthAll]
    omega
theorem sh_tuple {n : Nat} {ds : List Dt} (h : ∀ d ∈ ds, Sh n d) : Sh (n + 1) (.tuple ds) := by
  obtain ⟨h1, h2⟩ := shAll h
  exact ⟨by simp only [PyData.canLay0]; exact h1, by simp only [PyData.depth]; omega⟩
theorem sh_list {n : Nat} {ds : List Dt} (h : ∀ d ∈ ds, Sh n d) : Sh (n + 1) (.list ds) := by
  obtain ⟨h1, h2⟩ := shAll h
  exact ⟨by simp only [PyData.canLay0]; exact h1, by simp only [PyData.depth]; omega⟩
theorem sh_eQ (q : Rat) : Sh 1 (eQ q) := sh_tuple fun d hd => by
  simp only [List.mem_cons, List.not_mem_nil, or_false] at hd
  rcases hd with rfl | rfl <;> exact sh_int 0 _
theorem sh_eP (p : Pt) : Sh 2 (eP p) := sh_tuple fun d hd => by
  simp only [List.mem_cons, List.not_mem_nil, or_false] at hd
  rcases hd with rfl | rfl <;> exact sh_eQ _
theorem sh_eS (p : Sd) : Sh 3 (eS p) := sh_tuple fun d hd => by
  simp only [List.mem_cons, List.not_mem_nil, or_false] at hd
  rcases hd with rfl | rfl <;> exact sh_eP _
theorem sh_map {α : Type} {n : Nat} {f : α → Dt} (h : ∀ a, Sh n (f a)) (xs : List α) : ∀ d ∈ xs.map f, Sh n d := fun d hd => by
  obtain ⟨a, _, rfl⟩ := List.mem_map.mp hd
  exact h a
theorem shp_int (i : Int) : SeqAt.shaped (.int i) = true := (sh_int 0 i).shaped (by decide)
theorem shp_bool (i : Bool) : SeqAt.shaped (.bool i) = true := (sh_bool 0 i).shaped (by decide)
theorem shp_none : SeqAt.shaped .none = true := (sh_none 0).shaped (by decide)
theorem shp_eQ (q : Rat) : SeqAt.shaped (eQ q) = true := (sh_eQ q).shaped (by decide)
theorem shp_eP (q : Pt) : SeqAt.shaped (eP q) = true := (sh_eP q).shaped (by decide)
theorem shp_eS (q : Sd) : SeqAt.shaped (eS q) = true := (sh_eS q).shaped (by decide)
theorem shp_ps (xs : List Pt) : SeqAt.shaped (.list (xs.map eP)) = true := (sh_list (sh_map sh_eP xs)).shaped (by decide)
theorem shp_pt (xs : List Pt) : SeqAt.shaped (.tuple (xs.map eP)) = true := (sh_tuple (sh_map sh_eP xs)).shaped (by decide)
theorem shp_ss (xs : List Sd) : SeqAt.shaped (.list (xs.map eS)) = true := (sh_list (sh_map sh_eS xs)).shaped (by decide)
theorem shp_is (xs : List Int) : SeqAt.shaped (.list (xs.map .int)) = true := (sh_list (sh_map (sh_int 0) xs)).shaped (by decide)
theorem eqv_int (a b : Int) : PyData.eqv (.int a) (.int b) = decide (a = b) := by
  simp only [PyData.eqv]
  by_cases h : a = b
  · subst h; simp
  · rw [decide_eq_false h]; exact beq_eq_false_iff_ne.mpr h
theorem eqv_bool (a b : Bool) : PyData.eqv (.bool a) (.bool b) = decide (a = b) := by
  cases a <;> cases b <;> rfl
/-! items -/
theorem it_eQ0 (q : Rat) : itemD (eQ q) 0 = some (.int q.num) := rfl
theorem it_eQ1 (q : Rat) : itemD (eQ q) 1 = some (.int q.den) := rfl
theorem it_eP0 (q : Pt) : itemD (eP q) 0 = some (eQ q.1) := rfl
theorem it_eP1 (q : Pt) : itemD (eP q) 1 = some (eQ q.2) := rfl
theorem it_eS0 (q : Sd) : itemD (eS q) 0 = some (eP q.1) := rfl
theorem it_eS1 (q : Sd) : itemD (eS q) 1 = some (eP q.2) := rfl
theorem fits_eQ (q : Rat) : fitsD (eQ q) := trivial
theorem fits_eP (q : Pt) : fitsD (eP q) := trivial
theorem fits_eS (q : Sd) : fitsD (eS q) := trivial
/-! ### sizes -/
/-- top and bottom below 2 ^ n -/
def Bd (n : Nat) (q : Rat) : Prop := q.num.natAbs < 2 ^ n ∧ q.den < 2 ^ n
theorem Bd.mono {n m : Nat} {q : Rat} (h : Bd n q) (hn : n ≤ m) : Bd m q :=
  ⟨Nat.lt_of_lt_of_le h.1 (Nat.pow_le_pow_right (by decide) hn), Nat.lt_of_lt_of_le h.2 (Nat.pow_le_pow_right (by decide) hn)⟩
theorem Bd.pos {n : Nat} {q : Rat} (h : Bd n q) : 0 < n := by
  cases n with
  | zero =>
    have h1 := h.2
    have h2 := q.den_pos
    simp at h1
    omega
  | succ n => exact Nat.succ_pos n
theorem bd_divInt {t b : Int} {n : Nat} (ht : t.natAbs < 2 ^ n) (hb : b.natAbs < 2 ^ n) (h0 : b ≠ 0) : Bd n (Rat.divInt t b) := by
  have hb0 : b.natAbs ≠ 0 := by omega
  refine ⟨?_, ?_⟩
  · rw [Rat.num_divInt]
    have h1 : (b.sign * t / (b.gcd t : Nat)).natAbs ≤ (b.sign * t).natAbs := Int.natAbs_ediv_le_natAbs _ _
    have h2 : (b.sign * t).natAbs ≤ t.natAbs := by
      rw [Int.natAbs_mul]
      have h3 : b.sign.natAbs ≤ 1 := by
        rcases Int.lt_trichotomy b 0 with h | h | h
        · rw [Int.sign_eq_neg_one_of_neg h]; decide
        · rw [h]; decide
        · rw [Int.sign_eq_one_of_pos h]; decide
      calc b.sign.natAbs * t.natAbs ≤ 1 * t.natAbs := Nat.mul_le_mul_right _ h3
        _ = t.natAbs := Nat.one_mul _
    omega
  · rw [Rat.den_divInt, if_neg h0]
    exact Nat.lt_of_le_of_lt (Nat.div_le_self _ _) hb
theorem den_ne (q : Rat) : (q.den : Int) ≠ 0 := by have := q.den_pos; omega
theorem mul_lt2 {a b : Int} {n m : Nat} (ha : a.natAbs < 2 ^ n) (hb : b.natAbs < 2 ^ m) : (a * b).natAbs < 2 ^ (n + m) := wide_lt ha hb
theorem bd_num {n : Nat} {q : Rat} (h : Bd n q) : q.num.natAbs < 2 ^ n := h.1
theorem bd_den {n : Nat} {q : Rat} (h : Bd n q) : ((q.den : Int)).natAbs < 2 ^ n := by rw [Int.natAbs_natCast]; exact h.2
theorem sub_lt2 {a b : Int} {n : Nat} (ha : a.natAbs < 2 ^ n) (hb : b.natAbs < 2 ^ n) : (a - b).natAbs < 2 ^ (n + 1) := by
  rw [Nat.pow_succ]
  omega
theorem sub_div (a b : Rat) : a - b = Rat.divInt (a.num * b.den - b.num * a.den) (a.den * b.den) := by
  rw [Rat.sub_def', ← Rat.divInt_ofNat, Int.natCast_mul]
theorem Bd.sub {n m : Nat} {a b : Rat} (ha : Bd n a) (hb : Bd m b) : Bd (n + m + 1) (a - b) := by
  rw [sub_div]
  have k1 := mul_lt2 (bd_num ha) (bd_den hb)
  have k2 := mul_lt2 (bd_num hb) (bd_den ha)
  rw [Nat.add_comm] at k2
  refine bd_divInt (sub_lt2 k1 k2) ?_ (Int.mul_ne_zero (den_ne a) (den_ne b))
  exact Nat.lt_trans (mul_lt2 (bd_den ha) (bd_den hb)) (Nat.pow_lt_pow_right (by decide) (Nat.lt_succ_self _))
theorem cm {a b : Int} {n m : Nat} (ha : a.natAbs < 2 ^ n) (hb : b.natAbs < 2 ^ m) (h : n + m ≤ 900000) : CMulW a b :=
  wide_mul (Nat.lt_of_lt_of_le ha (Nat.pow_le_pow_right (by decide) (Nat.le_succ n))) (Nat.lt_of_lt_of_le hb (Nat.pow_le_pow_right (by decide) (Nat.le_succ m))) (Nat.succ_pos n) (Nat.succ_pos m) (by omega)
theorem cfd {a b : Int} {m : Nat} (h0 : b ≠ 0) (hb : b.natAbs < 2 ^ m) (h : m ≤ 8999) : CFd a b :=
  ⟨h0, Nat.lt_of_lt_of_le (PySem.Flt.log2_lt_of (Nat.succ_pos m) (Nat.lt_of_lt_of_le hb (Nat.pow_le_pow_right (by decide) (Nat.le_succ m)))) (by omega)⟩
/-! ### the greatest common divisor by remainders -/
end L2.D3
set_option maxHeartbeats 4000000
/-! The contracts and readings of numbers and points. -/
namespace L2.D3
open PySem PySem.Spec PyProof.Rows
end L2.D3
set_option maxHeartbeats 4000000
/-! Points: their order, their turns. -/
namespace L2.D3
open PySem PySem.Spec PyProof.Rows
def BdP (n : Nat) (p : Pt) : Prop := Bd n p.1 ∧ Bd n p.2
def BdS (n : Nat) (s : Sd) : Prop := BdP n s.1 ∧ BdP n s.2
theorem BdP.mono {n m : Nat} {p : Pt} (h : BdP n p) (hn : n ≤ m) : BdP m p := ⟨h.1.mono hn, h.2.mono hn⟩
theorem BdS.mono {n m : Nat} {p : Sd} (h : BdS n p) (hn : n ≤ m) : BdS m p := ⟨h.1.mono hn, h.2.mono hn⟩
/-- ahead of another point -/
def ltP (p q : Pt) : Prop := p.1 < q.1 ∨ (p.1 = q.1 ∧ p.2 < q.2)
instance (p q : Pt) : Decidable (ltP p q) := by unfold ltP; exact inferInstance
def crossQ (a b c : Pt) : Rat := (b.1 - a.1) * (c.2 - a.2) - (b.2 - a.2) * (c.1 - a.1)
theorem it_map {α : Type} [Inhabited α] {f : α → Dt} {xs : List α} {i : Int} (h0 : 0 ≤ i) (h1 : i < xs.length) : itemD (.list (xs.map f)) i = some (f (xs.getD i.toNat default)) := by
  show atI (xs.map f) i = _
  have h2 : i.toNat < xs.length := by omega
  have e : i = ((i.toNat : Nat) : Int) := by omega
  have g : (xs.map f)[i.toNat]? = some (f (xs.getD i.toNat default)) := by
    rw [List.getElem?_map, List.getElem?_eq_getElem h2, List.getD_eq_getElem?_getD, List.getElem?_eq_getElem h2]
    rfl
  rw [e]
  exact atI_nat g
theorem fits_list (ds : List Dt) : fitsD (.list ds) := trivial
theorem fits_tuple (ds : List Dt) : fitsD (.tuple ds) := trivial
/-! ### a sorted list of points, each once -/
/-- the lesser, the greater end -/
def loP (s : Sd) : Pt := if ltP s.2 s.1 then s.2 else s.1
def hiP (s : Sd) : Pt := if ltP s.2 s.1 then s.1 else s.2
/-! ### contracts -/
/-- the point lies on the side -/
def onS (s : Sd) (p : Pt) : Prop := crossQ s.1 s.2 p = 0 ∧ ¬ ltP p (loP s) ∧ ¬ ltP (hiP s) p
instance (s : Sd) (p : Pt) : Decidable (onS s p) := by unfold onS; exact inferInstance
end L2.D3
set_option maxHeartbeats 4000000
/-! What the laws' own drawing of numbers gives. -/
namespace L2.D3
open PySem PySem.Spec PyProof.Rows
theorem cutD_map {α : Type} (f : α → Dt) (xs : List α) (lo hi : Option Int) : cutD (xs.map f) lo hi = (cutD xs lo hi).map f := by
  unfold cutD
  rw [List.length_map, List.map_take, List.map_drop]
theorem cutD_len {α : Type} (xs : List α) (lo hi : Option Int) : (cutD xs lo hi).length ≤ xs.length := by
  unfold cutD
  rw [List.length_take, List.length_drop]
  omega
/-- xs[k:] -/
theorem cutD_from {α : Type} (xs : List α) (k : Nat) : cutD xs (some (k : Int)) none = xs.drop k := by
  unfold cutD
  rw [HT.sIx_nat, HT.sIx_none]
  by_cases c : k ≤ xs.length
  · rw [Nat.min_eq_left c, List.take_of_length_le (by rw [List.length_drop]; exact Nat.le_refl _)]
  · rw [Nat.min_eq_right (by omega), Nat.sub_self, List.take_zero, List.drop_of_length_le (by omega)]
/-- xs[:k] -/
theorem cutD_to {α : Type} (xs : List α) (k : Nat) : cutD xs none (some (k : Int)) = xs.take k := by
  unfold cutD
  rw [HT.sIx_nat, HT.sIx_none, List.drop_zero, Nat.sub_zero]
  by_cases c : k ≤ xs.length
  · rw [Nat.min_eq_left c]
  · rw [Nat.min_eq_right (by omega), List.take_length, List.take_of_length_le (by omega)]
theorem it_at {ds : List Dt} {i : Int} {k : Nat} {d : Dt} (e : i = (k : Int)) (h : ds[k]? = some d) : itemD (.list ds) i = some d := by
  show atI ds i = some d
  rw [e]
  exact atI_nat h
theorem it_atT {ds : List Dt} {i : Int} {k : Nat} {d : Dt} (e : i = (k : Int)) (h : ds[k]? = some d) : itemD (.tuple ds) i = some d := by
  show atI ds i = some d
  rw [e]
  exact atI_nat h
theorem it_l0 (x : Dt) (r : List Dt) : itemD (.list (x :: r)) 0 = some x := it_at (k := 0) rfl rfl
theorem it_l1 (x y : Dt) (r : List Dt) : itemD (.list (x :: y :: r)) 1 = some y := it_at (k := 1) rfl rfl
theorem it_l2 (x y z : Dt) (r : List Dt) : itemD (.list (x :: y :: z :: r)) 2 = some z := it_at (k := 2) rfl rfl
theorem it_t0 (x : Dt) (r : List Dt) : itemD (.tuple (x :: r)) 0 = some x := it_atT (k := 0) rfl rfl
theorem it_t1 (x y : Dt) (r : List Dt) : itemD (.tuple (x :: y :: r)) 1 = some y := it_atT (k := 1) rfl rfl
theorem it_t2 (x y z : Dt) (r : List Dt) : itemD (.tuple (x :: y :: z :: r)) 2 = some z := it_atT (k := 2) rfl rfl
theorem cmN {a b : Int} (ha : a.natAbs < 2 ^ 240) (hb : b.natAbs < 2 ^ 240) : CMulW a b := cm ha hb (by decide)
theorem fmod_b {x : Int} {m : Int} (hm : 0 < m) : 0 ≤ x.fmod m ∧ x.fmod m < m := ⟨Int.fmod_nonneg_of_pos x hm, Int.fmod_lt_of_pos x hm⟩
theorem cfdN {a b : Int} (h0 : b ≠ 0) (hb : b.natAbs < 2 ^ 240) : CFd a b := cfd h0 hb (by decide)
theorem rng_get {n k : Nat} {d : Dt} (h : ((List.range n).map fun (k : Nat) => PyData.int k)[k]? = some d) : k < n ∧ d = .int k := by
  rw [List.getElem?_map] at h
  cases c : (List.range n)[k]? with
  | none => rw [c] at h; cases h
  | some j =>
    rw [c] at h
    obtain ⟨h1, h2⟩ := List.getElem?_eq_some_iff.mp c
    rw [List.getElem_range] at h2
    rw [List.length_range] at h1
    subst h2
    exact ⟨h1, (Option.some.inj h).symm⟩
theorem rng_len (n : Nat) : ((List.range n).map fun (k : Nat) => PyData.int k).length = n := by rw [List.length_map, List.length_range]
theorem map_get {α : Type} {f : α → Dt} {xs : List α} {k : Nat} {d : Dt} (h : (xs.map f)[k]? = some d) : ∃ x, xs[k]? = some x ∧ d = f x := by
  rw [List.getElem?_map] at h
  cases c : xs[k]? with
  | none => rw [c] at h; cases h
  | some x => rw [c] at h; exact ⟨x, rfl, (Option.some.inj h).symm⟩
/-- a number as _law_numbers draws it -/
def Drw (x : Int) : Prop := 0 ≤ x ∧ x < 1999999973
def sp__law_cell : DSp := fun ds Φ _ => ∃ (ns : List Int) (k : Int), ds = [.list (ns.map .int), .int k] ∧ ns.length ≤ 63 ∧ 0 ≤ k ∧ k ≤ 1000 ∧ ∀ c : Int, Φ (.pu (.int c))
def sp__law_numbers : DSp := fun ds Φ _ => ∃ (c : Int) (m : Nat), ds = [.int c, .int m] ∧ m ≤ 1000 ∧ ∀ xs : List Int, xs.length = m → (∀ x ∈ xs, Drw x) → Φ (.ow (xs.map .int))
abbrev N__law_cell : List Str := ["_law_script", "_law_k", "_law_state", "_law_cell_here"]
def d__law_cell : DS := (dSeq (dIf (dTV (dBin oLt (dV 1) (dB bLen (dCons (dV 0) dNil)))) (dRet (dBin oIx (dV 0) (dV 1))) dNext)
  (dSeq (dSetP 2 (dBin oMd (dBin oMulU (dC (.int 48271)) (dBin oAddU (dBin oAddU (dBin oMulU (dV 1) (dV 1)) (dBin oMulU (dC (.int 7)) (dV 1))) (dC (.int 11)))) (dC (.int 2147483647))))
  (dSeq (dFor (diSeq (dSl (dV 0) dNoPart (dPart (dC (.int 3))))) (dgN 3) (dSetP 2 (dBin oMd (dBin oAddU (dBin oMulU (dV 2) (dC (.int 69621))) (dV 3)) (dC (.int 2147483647)))))
  (dRet (dV 2)))))
abbrev N__law_numbers : List Str := ["_law_cell_here", "_law_many", "_law_found", "_law_state", "_law_digits", "_law_k"]
def d__law_numbers : DS := (dSeq (dSetF 2 dNil)
  (dSeq (dSetP 3 (dBin oMd (dBin oMulU (dBin oAddU (dBin oMd (dV 0) (dC (.int 1999999973))) (dC (.int 31))) (dC (.int 765432101))) (dC (.int 1999999973))))
  (dSeq (dSetP 4 (dC (.int 0)))
  (dSeq (dIf (dTOr (dTV (dBin oLt (dV 0) (dC (.int 0)))) (dTV (dBin oGe (dV 0) (dBin oPw (dC (.int 10)) (dC (.int 18)))))) (dSetP 4 (dB bAbs (dCons (dV 0) dNil))) dNext)
  (dSeq (dFor (diRng1 (dCons (dV 1) dNil)) (dgN 5) (dSeq (dSetP 3 (dBin oMd (dBin oAddU (dBin oAddU (dBin oMulU (dV 3) (dBin oAddU (dBin oMd (dV 3) (dC (.int 65521))) (dC (.int 40487)))) (dBin oMulU (dC (.int 7)) (dV 5))) (dC (.int 5))) (dC (.int 1999999973))))
  (dSeq (dApp 2 (dBin oIx (dLst (dCons (dV 3) (dCons (dBin oMd (dV 4) (dC (.int 1000000))) dNil))) (dB bIntU (dCons (dBin oGt (dV 4) (dC (.int 0))) dNil))))
  (dSetP 4 (dBin oFd (dV 4) (dC (.int 1000000)))))))
  (dRetO 2))))))
theorem rd__law_cell (ds : List Dt) (Φ : Slot → Prop) (Ξ : XD → Prop) (h : sp__law_cell ds Φ Ξ) : d__law_cell (endsOf Φ Ξ) (rho0 N__law_cell ds) := by
  obtain ⟨ns, k, rfl, hl, h0, h1, h⟩ := h
  simp only [d__law_cell, N__law_cell, dRet, dRetF, dSetX, dCallX, dRetX, noOw, dTry, dCpy, dRaise, dRetO, dSetP, dSetS, dSetF, dSeq, dIf, dNext, dCall, dCallF, dB, dBin, dCons, dNil, dTup, dLst, dV, dC, dTV, onB, dTAnd, dTOr, dTNot, dAnd, dOr, dNot, dIfE, dIsN, dNotN, isN, dSl, dSlF, dNoPart, dPart, dPar, dParS, dAsg, dgN, dgT, dgCons, dgNil, seqD, dFE, dIsi, dListF, dNeg, dRev, dFrz, dApp, dAppS, dIns, dExtend, dClear, dReverse, dPop, oIx, oI, oIC, oAddU, oSubI, oMulU, oMulI, oFd, oMd, oPw, oLt, oLe, oGt, oGe, oEq, oNe, getF, setF, Cl.d, getS, setS, purF, allF, rho0, endsOf, scalD, bLen, bAbs, bInt, bIntU, bTup, Slot.dat, true_and, and_true, Option.some.injEq, exists_eq_left', decide_eq_true_eq, Bool.not_eq_true', decide_eq_false_iff_not, it_eQ0, it_eQ1, it_eP0, it_eP1, it_eS0, it_eS1, fits_eQ, fits_eP, fits_eS, eqv_eQ, eqv_eP, eqv_eS, eqv_int, eqv_bool, shp_int, shp_bool, shp_none, shp_eQ, shp_eP, shp_eS, dCont, dBreak, dXi, dSetG, dAppG, oIsB, oNotB, dTx, pJoin, pSplit, pPart, pStarts, bStr, bIntS, dFmt, dJs, ↓reduceIte, nsp_none, nsp_bool, nsp_int, nsp_str, nsp_list, nsp_tuple, nsp_eQ, nsp_eP, nsp_eS, List.length_map]
  split
  · rename_i c
    refine ⟨trivial, _, it_map h0 c, ?_⟩
    exact h _
  · rename_i c
    refine ⟨cmN (by omega) (by omega), cmN (by omega) (by omega), ?_⟩
    have hk2 : 0 ≤ k * k ∧ k * k ≤ 1000000 := ⟨Int.mul_nonneg h0 h0, by have := Int.mul_le_mul h1 h1 h0 (by decide : (0 : Int) ≤ 1000); omega⟩
    refine ⟨cmN (by omega) (by omega), by decide, ?_⟩
    simp only [dFor, diSeq, slD, cutD_map, walkD, dRet, dRetF, dSetX, dCallX, dRetX, noOw, dTry, dCpy, dRaise, dRetO, dSetP, dSetS, dSetF, dSeq, dIf, dNext, dCall, dCallF, dB, dBin, dCons, dNil, dTup, dLst, dV, dC, dTV, onB, dTAnd, dTOr, dTNot, dAnd, dOr, dNot, dIfE, dIsN, dNotN, isN, dSl, dSlF, dNoPart, dPart, dPar, dParS, dAsg, dgN, dgT, dgCons, dgNil, seqD, dFE, dIsi, dListF, dNeg, dRev, dFrz, dApp, dAppS, dIns, dExtend, dClear, dReverse, dPop, oIx, oI, oIC, oAddU, oSubI, oMulU, oMulI, oFd, oMd, oPw, oLt, oLe, oGt, oGe, oEq, oNe, getF, setF, Cl.d, getS, setS, purF, allF, rho0, endsOf, scalD, bLen, bAbs, bInt, bIntU, bTup, Slot.dat, true_and, and_true, Option.some.injEq, exists_eq_left', decide_eq_true_eq, Bool.not_eq_true', decide_eq_false_iff_not, it_eQ0, it_eQ1, it_eP0, it_eP1, it_eS0, it_eS1, fits_eQ, fits_eP, fits_eS, eqv_eQ, eqv_eP, eqv_eS, eqv_int, eqv_bool, shp_int, shp_bool, shp_none, shp_eQ, shp_eP, shp_eS, dCont, dBreak, dXi, dSetG, dAppG, oIsB, oNotB, dTx, pJoin, pSplit, pPart, pStarts, bStr, bIntS, dFmt, dJs, ↓reduceIte, nsp_none, nsp_bool, nsp_int, nsp_str, nsp_list, nsp_tuple, nsp_eQ, nsp_eP, nsp_eS]
    refine ⟨trivial, fun j ρ => ∃ (st : Int) (w : Slot), ρ = [.pu (.list (ns.map .int)), .pu (.int k), .pu (.int st), w] ∧ 0 ≤ st ∧ st < 2147483647, ?_, ?_, ?_⟩
    · obtain ⟨g0, g1⟩ := fmod_b (x := 48271 * (k * k + 7 * k + 11)) (m := 2147483647) (by decide)
      exact ⟨_, _, rfl, g0, g1⟩
    · rintro j d ρ' hj ⟨st, w, rfl, s0, s1⟩
      obtain ⟨x, hx, rfl⟩ := map_get hj
      simp only [dRet, dRetF, dSetX, dCallX, dRetX, noOw, dTry, dCpy, dRaise, dRetO, dSetP, dSetS, dSetF, dSeq, dIf, dNext, dCall, dCallF, dB, dBin, dCons, dNil, dTup, dLst, dV, dC, dTV, onB, dTAnd, dTOr, dTNot, dAnd, dOr, dNot, dIfE, dIsN, dNotN, isN, dSl, dSlF, dNoPart, dPart, dPar, dParS, dAsg, dgN, dgT, dgCons, dgNil, seqD, dFE, dIsi, dListF, dNeg, dRev, dFrz, dApp, dAppS, dIns, dExtend, dClear, dReverse, dPop, oIx, oI, oIC, oAddU, oSubI, oMulU, oMulI, oFd, oMd, oPw, oLt, oLe, oGt, oGe, oEq, oNe, getF, setF, Cl.d, getS, setS, purF, allF, rho0, endsOf, scalD, bLen, bAbs, bInt, bIntU, bTup, Slot.dat, true_and, and_true, Option.some.injEq, exists_eq_left', decide_eq_true_eq, Bool.not_eq_true', decide_eq_false_iff_not, it_eQ0, it_eQ1, it_eP0, it_eP1, it_eS0, it_eS1, fits_eQ, fits_eP, fits_eS, eqv_eQ, eqv_eP, eqv_eS, eqv_int, eqv_bool, shp_int, shp_bool, shp_none, shp_eQ, shp_eP, shp_eS, dCont, dBreak, dXi, dSetG, dAppG, oIsB, oNotB, dTx, pJoin, pSplit, pPart, pStarts, bStr, bIntS, dFmt, dJs, ↓reduceIte, nsp_none, nsp_bool, nsp_int, nsp_str, nsp_list, nsp_tuple, nsp_eQ, nsp_eP, nsp_eS]
      refine ⟨cmN (by omega) (by omega), by decide, _, _, rfl, ?_⟩
      exact fmod_b (by decide)
    · rintro ρ' ⟨st, w, rfl, s0, s1⟩
      simp only [dRet, dRetF, dSetX, dCallX, dRetX, noOw, dTry, dCpy, dRaise, dRetO, dSetP, dSetS, dSetF, dSeq, dIf, dNext, dCall, dCallF, dB, dBin, dCons, dNil, dTup, dLst, dV, dC, dTV, onB, dTAnd, dTOr, dTNot, dAnd, dOr, dNot, dIfE, dIsN, dNotN, isN, dSl, dSlF, dNoPart, dPart, dPar, dParS, dAsg, dgN, dgT, dgCons, dgNil, seqD, dFE, dIsi, dListF, dNeg, dRev, dFrz, dApp, dAppS, dIns, dExtend, dClear, dReverse, dPop, oIx, oI, oIC, oAddU, oSubI, oMulU, oMulI, oFd, oMd, oPw, oLt, oLe, oGt, oGe, oEq, oNe, getF, setF, Cl.d, getS, setS, purF, allF, rho0, endsOf, scalD, bLen, bAbs, bInt, bIntU, bTup, Slot.dat, true_and, and_true, Option.some.injEq, exists_eq_left', decide_eq_true_eq, Bool.not_eq_true', decide_eq_false_iff_not, it_eQ0, it_eQ1, it_eP0, it_eP1, it_eS0, it_eS1, fits_eQ, fits_eP, fits_eS, eqv_eQ, eqv_eP, eqv_eS, eqv_int, eqv_bool, shp_int, shp_bool, shp_none, shp_eQ, shp_eP, shp_eS, dCont, dBreak, dXi, dSetG, dAppG, oIsB, oNotB, dTx, pJoin, pSplit, pPart, pStarts, bStr, bIntS, dFmt, dJs, ↓reduceIte, nsp_none, nsp_bool, nsp_int, nsp_str, nsp_list, nsp_tuple, nsp_eQ, nsp_eP, nsp_eS]
      exact h _
theorem rd__law_numbers (ds : List Dt) (Φ : Slot → Prop) (Ξ : XD → Prop) (h : sp__law_numbers ds Φ Ξ) : d__law_numbers (endsOf Φ Ξ) (rho0 N__law_numbers ds) := by
  obtain ⟨c, m, rfl, hm, h⟩ := h
  have hz : (1000 : Nat) < sizeLine := by decide
  simp only [d__law_numbers, N__law_numbers, dRet, dRetF, dSetX, dCallX, dRetX, noOw, dTry, dCpy, dRaise, dRetO, dSetP, dSetS, dSetF, dSeq, dIf, dNext, dCall, dCallF, dB, dBin, dCons, dNil, dTup, dLst, dV, dC, dTV, onB, dTAnd, dTOr, dTNot, dAnd, dOr, dNot, dIfE, dIsN, dNotN, isN, dSl, dSlF, dNoPart, dPart, dPar, dParS, dAsg, dgN, dgT, dgCons, dgNil, seqD, dFE, dIsi, dListF, dNeg, dRev, dFrz, dApp, dAppS, dIns, dExtend, dClear, dReverse, dPop, oIx, oI, oIC, oAddU, oSubI, oMulU, oMulI, oFd, oMd, oPw, oLt, oLe, oGt, oGe, oEq, oNe, getF, setF, Cl.d, getS, setS, purF, allF, rho0, endsOf, scalD, bLen, bAbs, bInt, bIntU, bTup, Slot.dat, true_and, and_true, Option.some.injEq, exists_eq_left', decide_eq_true_eq, Bool.not_eq_true', decide_eq_false_iff_not, it_eQ0, it_eQ1, it_eP0, it_eP1, it_eS0, it_eS1, fits_eQ, fits_eP, fits_eS, eqv_eQ, eqv_eP, eqv_eS, eqv_int, eqv_bool, shp_int, shp_bool, shp_none, shp_eQ, shp_eP, shp_eS, dCont, dBreak, dXi, dSetG, dAppG, oIsB, oNotB, dTx, pJoin, pSplit, pPart, pStarts, bStr, bIntS, dFmt, dJs, ↓reduceIte, nsp_none, nsp_bool, nsp_int, nsp_str, nsp_list, nsp_tuple, nsp_eQ, nsp_eP, nsp_eS]
  obtain ⟨f0, f1⟩ := fmod_b (x := c) (m := 1999999973) (by decide)
  refine ⟨by decide, cmN (by omega) (by omega), by decide, ?_⟩
  obtain ⟨g0, g1⟩ := fmod_b (x := (c.fmod 1999999973 + 31) * 765432101) (m := 1999999973) (by decide)
  have hp : CPow 10 18 := ⟨by decide, by decide, by decide⟩
  have loop : ∀ (s0 dg : Int), 0 ≤ s0 → s0 < 1999999973 → 0 ≤ dg → dFor (diRng1 (dCons (dV 1) dNil)) (dgN 5) (dSeq (dSetP 3 (dBin oMd (dBin oAddU (dBin oAddU (dBin oMulU (dV 3) (dBin oAddU (dBin oMd (dV 3) (dC (.int 65521))) (dC (.int 40487)))) (dBin oMulU (dC (.int 7)) (dV 5))) (dC (.int 5))) (dC (.int 1999999973))))
      (dSeq (dApp 2 (dBin oIx (dLst (dCons (dV 3) (dCons (dBin oMd (dV 4) (dC (.int 1000000))) dNil))) (dB bIntU (dCons (dBin oGt (dV 4) (dC (.int 0))) dNil))))
      (dSetP 4 (dBin oFd (dV 4) (dC (.int 1000000)))))) { endsOf Φ Ξ with nx := dRetO 2 (endsOf Φ Ξ) } [.pu (.int c), .pu (.int m), .ow [], .pu (.int s0), .pu (.int dg), .un] := fun s0 dg s1 s2 d0 => by
    simp only [dFor, diRng1, dRet, dRetF, dSetX, dCallX, dRetX, noOw, dTry, dCpy, dRaise, dRetO, dSetP, dSetS, dSetF, dSeq, dIf, dNext, dCall, dCallF, dB, dBin, dCons, dNil, dTup, dLst, dV, dC, dTV, onB, dTAnd, dTOr, dTNot, dAnd, dOr, dNot, dIfE, dIsN, dNotN, isN, dSl, dSlF, dNoPart, dPart, dPar, dParS, dAsg, dgN, dgT, dgCons, dgNil, seqD, dFE, dIsi, dListF, dNeg, dRev, dFrz, dApp, dAppS, dIns, dExtend, dClear, dReverse, dPop, oIx, oI, oIC, oAddU, oSubI, oMulU, oMulI, oFd, oMd, oPw, oLt, oLe, oGt, oGe, oEq, oNe, getF, setF, Cl.d, getS, setS, purF, allF, rho0, endsOf, scalD, bLen, bAbs, bInt, bIntU, bTup, Slot.dat, true_and, and_true, Option.some.injEq, exists_eq_left', decide_eq_true_eq, Bool.not_eq_true', decide_eq_false_iff_not, it_eQ0, it_eQ1, it_eP0, it_eP1, it_eS0, it_eS1, fits_eQ, fits_eP, fits_eS, eqv_eQ, eqv_eP, eqv_eS, eqv_int, eqv_bool, shp_int, shp_bool, shp_none, shp_eQ, shp_eP, shp_eS, dCont, dBreak, dXi, dSetG, dAppG, oIsB, oNotB, dTx, pJoin, pSplit, pPart, pStarts, bStr, bIntS, dFmt, dJs, ↓reduceIte, nsp_none, nsp_bool, nsp_int, nsp_str, nsp_list, nsp_tuple, nsp_eQ, nsp_eP, nsp_eS]
    refine ⟨by omega, by omega, fun k ρ => ∃ (xs : List Int) (st dg : Int) (w : Slot), ρ = [.pu (.int c), .pu (.int m), .ow (xs.map .int), .pu (.int st), .pu (.int dg), w] ∧ xs.length = k ∧ (∀ x ∈ xs, Drw x) ∧ 0 ≤ st ∧ st < 1999999973 ∧ 0 ≤ dg, ⟨[], _, _, _, rfl, rfl, (fun x hx => by cases hx), s1, s2, d0⟩, ?_, ?_⟩
    · rintro k d ρ' hk ⟨xs, st, dg, w, rfl, hx, hd, t1, t2, t3⟩
      obtain ⟨hkm, rfl⟩ := rng_get hk
      simp only [dRet, dRetF, dSetX, dCallX, dRetX, noOw, dTry, dCpy, dRaise, dRetO, dSetP, dSetS, dSetF, dSeq, dIf, dNext, dCall, dCallF, dB, dBin, dCons, dNil, dTup, dLst, dV, dC, dTV, onB, dTAnd, dTOr, dTNot, dAnd, dOr, dNot, dIfE, dIsN, dNotN, isN, dSl, dSlF, dNoPart, dPart, dPar, dParS, dAsg, dgN, dgT, dgCons, dgNil, seqD, dFE, dIsi, dListF, dNeg, dRev, dFrz, dApp, dAppS, dIns, dExtend, dClear, dReverse, dPop, oIx, oI, oIC, oAddU, oSubI, oMulU, oMulI, oFd, oMd, oPw, oLt, oLe, oGt, oGe, oEq, oNe, getF, setF, Cl.d, getS, setS, purF, allF, rho0, endsOf, scalD, bLen, bAbs, bInt, bIntU, bTup, Slot.dat, true_and, and_true, Option.some.injEq, exists_eq_left', decide_eq_true_eq, Bool.not_eq_true', decide_eq_false_iff_not, it_eQ0, it_eQ1, it_eP0, it_eP1, it_eS0, it_eS1, fits_eQ, fits_eP, fits_eS, eqv_eQ, eqv_eP, eqv_eS, eqv_int, eqv_bool, shp_int, shp_bool, shp_none, shp_eQ, shp_eP, shp_eS, dCont, dBreak, dXi, dSetG, dAppG, oIsB, oNotB, dTx, pJoin, pSplit, pPart, pStarts, bStr, bIntS, dFmt, dJs, ↓reduceIte, nsp_none, nsp_bool, nsp_int, nsp_str, nsp_list, nsp_tuple, nsp_eQ, nsp_eP, nsp_eS]
      obtain ⟨a0, a1⟩ := fmod_b (x := st) (m := 65521) (by decide)
      refine ⟨by decide, cmN (by omega) (by omega), cmN (by omega) (by omega), by decide, by decide, trivial, ?_⟩
      obtain ⟨e0, e1⟩ := fmod_b (x := st * (st.fmod 65521 + 40487) + 7 * (k : Int) + 5) (m := 1999999973) (by decide)
      obtain ⟨b0, b1⟩ := fmod_b (x := dg) (m := 1000000) (by decide)
      have dn : 0 ≤ dg.fdiv 1000000 := by rw [Int.fdiv_eq_ediv_of_nonneg _ (by decide)]; omega
      have fin : ∀ y : Int, Drw y → (xs.map PyData.int).length < sizeLine ∧ CFd dg 1000000 ∧ ∃ (xs' : List Int) (st' dg' : Int) (w' : Slot), [Slot.pu (.int c), .pu (.int m), .ow (xs.map PyData.int ++ [.int y]), .pu (.int ((st * (st.fmod 65521 + 40487) + 7 * (k : Int) + 5).fmod 1999999973)), .pu (.int (dg.fdiv 1000000)), .pu (.int k)] = [.pu (.int c), .pu (.int m), .ow (xs'.map .int), .pu (.int st'), .pu (.int dg'), w'] ∧ xs'.length = k + 1 ∧ (∀ x ∈ xs', Drw x) ∧ 0 ≤ st' ∧ st' < 1999999973 ∧ 0 ≤ dg' := fun y hy => by
        refine ⟨by rw [List.length_map]; omega, cfdN (by decide) (by decide), xs ++ [y], _, _, _, by rw [List.map_append]; rfl, by rw [List.length_append, hx]; rfl, fun x hx2 => ?_, e0, e1, dn⟩
        rcases List.mem_append.mp hx2 with z | z
        · exact hd x z
        · rw [List.mem_singleton.mp z]; exact hy
      by_cases c0 : 0 < dg
      · simp only [c0, if_true]
        refine ⟨_, it_l1 _ _ _, ?_⟩
        exact fin _ ⟨b0, by omega⟩
      · simp only [c0, if_false]
        refine ⟨_, it_l0 _ _, ?_⟩
        exact fin _ ⟨e0, e1⟩
    · rintro ρ' ⟨xs, st, dg, w, rfl, hx, hd, t1, t2, t3⟩
      rw [rng_len] at hx
      simp only [dRet, dRetF, dSetX, dCallX, dRetX, noOw, dTry, dCpy, dRaise, dRetO, dSetP, dSetS, dSetF, dSeq, dIf, dNext, dCall, dCallF, dB, dBin, dCons, dNil, dTup, dLst, dV, dC, dTV, onB, dTAnd, dTOr, dTNot, dAnd, dOr, dNot, dIfE, dIsN, dNotN, isN, dSl, dSlF, dNoPart, dPart, dPar, dParS, dAsg, dgN, dgT, dgCons, dgNil, seqD, dFE, dIsi, dListF, dNeg, dRev, dFrz, dApp, dAppS, dIns, dExtend, dClear, dReverse, dPop, oIx, oI, oIC, oAddU, oSubI, oMulU, oMulI, oFd, oMd, oPw, oLt, oLe, oGt, oGe, oEq, oNe, getF, setF, Cl.d, getS, setS, purF, allF, rho0, endsOf, scalD, bLen, bAbs, bInt, bIntU, bTup, Slot.dat, true_and, and_true, Option.some.injEq, exists_eq_left', decide_eq_true_eq, Bool.not_eq_true', decide_eq_false_iff_not, it_eQ0, it_eQ1, it_eP0, it_eP1, it_eS0, it_eS1, fits_eQ, fits_eP, fits_eS, eqv_eQ, eqv_eP, eqv_eS, eqv_int, eqv_bool, shp_int, shp_bool, shp_none, shp_eQ, shp_eP, shp_eS, dCont, dBreak, dXi, dSetG, dAppG, oIsB, oNotB, dTx, pJoin, pSplit, pPart, pStarts, bStr, bIntS, dFmt, dJs, ↓reduceIte, nsp_none, nsp_bool, nsp_int, nsp_str, nsp_list, nsp_tuple, nsp_eQ, nsp_eP, nsp_eS]
      exact h xs (by simpa using hx) hd
  have tail : ∀ dg : Int, 0 ≤ dg → _ := fun dg hdg => loop ((c.fmod 1999999973 + 31) * 765432101 |>.fmod 1999999973) dg g0 g1 hdg
  split
  · exact tail _ (by omega)
  · refine ⟨hp, ?_⟩
    split
    · exact tail _ (by omega)
    · exact tail _ (by omega)
end L2.D3
set_option maxHeartbeats 4000000
/-! Loops and comprehensions by recursion; more of the laws' own defs. -/
namespace L2.D3
open PySem PySem.Spec PyProof.Rows
/-- a comprehension over just these -/
def unrC (g : DGc) (t : DT) (de : DE) (φ : Fro) (Φ : List Dt → Prop) : List Dt → List Dt → Prop
  | [], acc => Φ acc
  | d :: r, acc => g d φ fun φ2 => t φ2 fun b => if b = true then de φ2 fun y => acc.length < sizeLine ∧ unrC g t de φ Φ r (acc ++ [y]) else unrC g t de φ Φ r acc
theorem lc_unr {g : DGc} {t : DT} {de : DE} {φ : Fro} {Φ : List Dt → Prop} {ds : List Dt} (h : unrC g t de φ Φ ds []) : ∃ Iv : Nat → List Dt → Prop, Iv 0 [] ∧
    (∀ k d acc, ds[k]? = some d → Iv k acc → g d φ fun φ2 => t φ2 fun b => if b = true then de φ2 fun y => acc.length < sizeLine ∧ Iv (k + 1) (acc ++ [y]) else Iv (k + 1) acc) ∧ ∀ acc, Iv ds.length acc → Φ acc := by
  refine ⟨fun k acc => unrC g t de φ Φ (ds.drop k) acc, h, fun k d acc hk hi => ?_, fun acc hi => ?_⟩
  · have e : ds.drop k = d :: ds.drop (k + 1) := by
      obtain ⟨hl, rfl⟩ := List.getElem?_eq_some_iff.mp hk
      exact List.drop_eq_getElem_cons hl
    have hi' : unrC g t de φ Φ (ds.drop k) acc := hi
    rw [e] at hi'
    exact hi'
  · have hi' : unrC g t de φ Φ (ds.drop ds.length) acc := hi
    rw [List.drop_length] at hi'
    exact hi'
theorem rho0_len_eq : ∀ {N M : List Str} {ds : List Dt}, N.length = M.length → rho0 N ds = rho0 M ds
  | [], [], _, _ => rfl
  | _ :: r, _ :: r', [], h => by
    show Slot.un :: rho0 r [] = Slot.un :: rho0 r' []
    rw [rho0_len_eq (N := r) (M := r') (by simpa using h)]
  | _ :: r, _ :: r', d :: ds, h => by
    show Slot.pu d :: rho0 r ds = Slot.pu d :: rho0 r' ds
    rw [rho0_len_eq (N := r) (M := r') (by simpa using h)]
/-! ### the laws' own sums -/
/-! the turn by whole numbers -/
end L2.D3
set_option maxHeartbeats 4000000
/-! Drawn points and sides. -/
namespace L2.D3
open PySem PySem.Spec PyProof.Rows
theorem mkP (a b : Rat) : PyData.tuple [eQ a, eQ b] = eP (a, b) := rfl
theorem mkS (a b : Pt) : PyData.tuple [eP a, eP b] = eS (a, b) := rfl
end L2.D3
set_option maxHeartbeats 1000000
/-! More of loops and comprehensions; a cut between statements. -/
namespace L2.D3
open PySem PySem.Spec PyProof.Rows
def allH : Slot → Cl
  | .pu d => .da d
  | .ow ds => .da (.list ds)
  | .an A => .an A
  | .tr t => .da t.dat
  | _ => .no
def purH : Slot → Cl
  | .pu d => .da d
  | .an A => .an A
  | _ => .no
theorem allF_nil : allF [] = [] := rfl
theorem allF_cons (s : Slot) (r : Rho) : allF (s :: r) = allH s :: allF r := by cases s <;> rfl
theorem purF_nil : purF [] = [] := rfl
theorem purF_cons (s : Slot) (r : Rho) : purF (s :: r) = purH s :: purF r := by cases s <;> rfl
/-- a statement, then the rest: what holds between them -/
theorem seq_cut {t u : DS} {E : DEnds} {ρ : Rho} (M : Rho → Prop) (h1 : ∀ E' : DEnds, E'.rt = E.rt → (∀ ρ', M ρ' → E'.nx ρ') → t E' ρ) (h2 : ∀ ρ', M ρ' → u E ρ') : dSeq t u E ρ := h1 { E with nx := u E } rfl h2
theorem ite_no {c : Prop} [Decidable c] {a b : Prop} (h : ¬ c) (k : b) : if c then a else b := by rw [if_neg h]; exact k
theorem ite_yes {c : Prop} [Decidable c] {a b : Prop} (h : c) (k : a) : if c then a else b := by rw [if_pos h]; exact k
theorem dat_pu (d : Dt) : (Slot.pu d).dat = d := rfl
theorem dat_ow (d : List Dt) : (Slot.ow d).dat = .list d := rfl
theorem seqD_l (ds : List Dt) : seqD (.list ds) = some ds := rfl
theorem seqD_t (ds : List Dt) : seqD (.tuple ds) = some ds := rfl
theorem unrC_filterM {α : Type} {e v : α → Dt} {g : DGc} {t : DT} {de : DE} {φ : Fro} {Φ : List Dt → Prop} {c : α → Bool} : ∀ (xs : List α) (acc : List Dt), acc.length + xs.length ≤ sizeLine → (∀ a ∈ xs, ∀ Ψ : Bool → Fro → Prop, (∀ φ2, (∀ Ψ' : Dt → Prop, Ψ' (v a) → de φ2 Ψ') → Ψ (c a) φ2) → g (e a) φ fun φ2 => t φ2 fun b => Ψ b φ2) → Φ (acc ++ (xs.filter c).map v) → unrC g t de φ Φ (xs.map e) acc
  | [], acc, _, _, h => by rw [List.filter_nil, List.map_nil, List.append_nil] at h; exact h
  | d :: r, acc, hl, hf, h => by
    rw [List.length_cons] at hl
    refine hf d List.mem_cons_self (fun b φ2 => if b = true then de φ2 fun y => acc.length < sizeLine ∧ unrC g t de φ Φ (r.map e) (acc ++ [y]) else unrC g t de φ Φ (r.map e) acc) fun φ2 hd => ?_
    rw [List.filter_cons] at h
    cases ec : c d with
    | true =>
      rw [if_pos rfl]
      rw [ec, if_pos rfl, List.map_cons] at h
      refine hd _ ⟨by omega, unrC_filterM r _ (by rw [List.length_append, List.length_singleton]; omega) (fun e he => hf e (List.mem_cons_of_mem _ he)) (by rw [List.append_assoc]; exact h)⟩
    | false =>
      rw [if_neg Bool.false_ne_true]
      rw [ec, if_neg Bool.false_ne_true] at h
      exact unrC_filterM r acc (by omega) (fun e he => hf e (List.mem_cons_of_mem _ he)) h
theorem dLc_filterM {α : Type} {xs : List α} {e : α → Dt} {vs : List Nat} {di : DI} {g : DGc} {t : DT} {de : DE} {φ : Fro} {Φ : List Dt → Prop} (hd : ∀ Q : List Dt → Prop, Q (xs.map e) → di φ Q) (v : α → Dt) (c : α → Bool) (hl : xs.length ≤ sizeLine) (hf : ∀ a ∈ xs, ∀ Ψ : Bool → Fro → Prop, (∀ φ2, (∀ Ψ' : Dt → Prop, Ψ' (v a) → de φ2 Ψ') → Ψ (c a) φ2) → g (e a) (wipeF φ vs) fun φ2 => t φ2 fun b => Ψ b φ2) (h : Φ ((xs.filter c).map v)) : dLc vs di g t de φ Φ := hd _ (lc_unr (unrC_filterM xs [] (by simpa using hl) hf h))
theorem unrC_mapM {α : Type} {e v : α → Dt} {g : DGc} {de : DE} {φ : Fro} {Φ : List Dt → Prop} : ∀ (xs : List α) (acc : List Dt), acc.length + xs.length ≤ sizeLine → (∀ a ∈ xs, ∀ Ψ : Dt → Prop, Ψ (v a) → g (e a) φ fun φ2 => de φ2 Ψ) → Φ (acc ++ xs.map v) → unrC g dYes de φ Φ (xs.map e) acc
  | [], acc, _, _, h => by rw [List.map_nil, List.append_nil] at h; exact h
  | d :: r, acc, hl, hf, h => by
    show g (e d) φ fun φ2 => dYes φ2 fun b => if b = true then de φ2 fun y => acc.length < sizeLine ∧ unrC g dYes de φ Φ (r.map e) (acc ++ [y]) else unrC g dYes de φ Φ (r.map e) acc
    simp only [dYes, if_true]
    rw [List.length_cons] at hl
    refine hf d List.mem_cons_self _ ⟨by omega, ?_⟩
    exact unrC_mapM r _ (by rw [List.length_append, List.length_singleton]; omega) (fun e he => hf e (List.mem_cons_of_mem _ he)) (by rw [List.append_assoc]; exact h)
theorem dLc_mapM {α : Type} {xs : List α} {e : α → Dt} {vs : List Nat} {di : DI} {g : DGc} {de : DE} {φ : Fro} {Φ : List Dt → Prop} (hd : ∀ Q : List Dt → Prop, Q (xs.map e) → di φ Q) (v : α → Dt) (hl : xs.length ≤ sizeLine) (hf : ∀ a ∈ xs, ∀ Ψ : Dt → Prop, Ψ (v a) → g (e a) (wipeF φ vs) fun φ2 => de φ2 Ψ) (h : Φ (xs.map v)) : dLc vs di g dYes de φ Φ := hd _ (lc_unr (unrC_mapM xs [] (by simpa using hl) hf h))
theorem any_map {α : Type} [DecidableEq α] {f : α → Dt} (hf : ∀ a b, PyData.eqv (f a) (f b) = decide (a = b)) (xs : List α) (x : α) : ((xs.map f).any fun z => PyData.eqv z (f x)) = decide (x ∈ xs) := by
  rw [List.any_map]
  induction xs with
  | nil => rfl
  | cons a r ih =>
    rw [List.any_cons, ih]
    show (PyData.eqv (f a) (f x) || _) = _
    rw [hf]
    by_cases c : a = x
    · subst c; simp
    · have c' : ¬ x = a := fun z => c z.symm
      simp [c, c', List.mem_cons]
theorem seqD_eQ (q : Rat) : seqD (eQ q) = some [.int q.num, .int q.den] := rfl
theorem seqD_eP (q : Pt) : seqD (eP q) = some [eQ q.1, eQ q.2] := rfl
theorem seqD_eS (q : Sd) : seqD (eS q) = some [eP q.1, eP q.2] := rfl
theorem walkD_eP (q : Pt) : walkD (eP q) = some [eQ q.1, eQ q.2] := rfl
theorem walkD_eS (q : Sd) : walkD (eS q) = some [eP q.1, eP q.2] := rfl
theorem walkD_l (ds : List Dt) : walkD (.list ds) = some ds := rfl
theorem walkD_t (ds : List Dt) : walkD (.tuple ds) = some ds := rfl
theorem seq_forA {di : DI} {g : DG} {b u : DS} {E : DEnds} {ρ : Rho} (C : List Dt → Prop) (hd : ∀ Q : List Dt → Prop, (∀ ds, C ds → Q ds) → di (purF ρ) Q) (Iv : Nat → Rho → Prop) (h0 : Iv 0 ρ) (ht : ∀ ds, C ds → ∀ k d ρ', ds[k]? = some d → Iv k ρ' → g d ρ' fun ρ2 => b { E with nx := Iv (k + 1), ct := Iv (k + 1), bk := u E } ρ2) (he : ∀ ds, C ds → ∀ ρ', Iv ds.length ρ' → u E ρ') : dSeq (dFor di g b) u E ρ := hd _ fun ds hc => ⟨Iv, h0, ht ds hc, he ds hc⟩
theorem seq_cut' {t u : DS} {E : DEnds} {ρ : Rho} (M : Rho → Prop) (h1 : ∀ E' : DEnds, E'.rt = E.rt → E'.xr = E.xr → (∀ ρ', M ρ' → E'.nx ρ') → t E' ρ) (h2 : ∀ ρ', M ρ' → u E ρ') : dSeq t u E ρ := h1 { E with nx := u E } rfl rfl h2
end L2.D3
set_option maxHeartbeats 1000000
/-! Lands: what is one. -/
namespace L2.D3
open PySem PySem.Spec PyProof.Rows
/-! ### plain things of bounded size -/
mutual
def okD : PyData → Prop
  | .int i => i.natAbs < 2 ^ 8000
  | .str z => z.length ≤ 100000 ∧ PyData.strOk z = true
  | .list xs => xs.length ≤ 100000 ∧ okAll xs
  | .tuple xs => xs.length ≤ 100000 ∧ okAll xs
  | .dict kv => kv = []
  | .none => True
  | .bool _ => True
def okAll : List PyData → Prop
  | [] => True
  | d :: ds => okD d ∧ okAll ds
end
theorem okAll_of : ∀ {ds : List PyData}, (∀ d ∈ ds, okD d) → okAll ds
  | [], _ => by simp only [okAll]
  | e :: ds, h => by
    simp only [okAll]
    exact ⟨h e List.mem_cons_self, okAll_of fun d hd => h d (List.mem_cons_of_mem _ hd)⟩
theorem ok_spec {d : Dt} (h : okD d) : spec d = false := by
  cases d with
  | dict kv => simp only [okD] at h; subst h; rfl
  | _ => rfl
theorem okT_of {xs : List PyData} (h : xs.length ≤ 100000) (g : ∀ d ∈ xs, okD d) : okD (.tuple xs) := by
  simp only [okD]
  exact ⟨h, okAll_of g⟩
theorem okL_of {xs : List PyData} (h : xs.length ≤ 100000) (g : ∀ d ∈ xs, okD d) : okD (.list xs) := by
  simp only [okD]
  exact ⟨h, okAll_of g⟩
/-! ### what is good -/
def LETS : List Nat := [97, 98, 99, 100, 101, 102, 103, 104, 105, 106, 107, 108, 109, 110, 111, 112, 113, 114, 115, 116, 117, 118, 119, 120, 121, 122]
def WRDS : List Str := ["and", "or", "not", "all", "none", "sheet"]
def isNm (z : Str) : Bool := decide (1 ≤ z.length) && (decide (z.length ≤ 8) && (!decide (z ∈ WRDS) && z.cps.toList.all fun c => decide (c ∈ LETS)))
def gName : Dt → Bool
  | .str z => isNm z
  | _ => false
def cv_LETTERS : Dt := .str "abcdefghijklmnopqrstuvwxyz"
def cv_WORDS : Dt := .tuple (WRDS.map .str)
theorem lets_eq : ("abcdefghijklmnopqrstuvwxyz" : Str).cps.toList = LETS := by decide +kernel
/-! ### texts in rows -/
theorem eqv_str (a b : Str) : PyData.eqv (.str a) (.str b) = decide (a = b) := by
  simp only [PyData.eqv]
  by_cases h : a = b
  · subst h; simp
  · rw [decide_eq_false h]; exact beq_eq_false_iff_ne.mpr h
theorem sh_str (n : Nat) {z : Str} (h : PyData.strOk z = true) : Sh n (.str z) := ⟨by simpa [PyData.canLay0] using h, by simp [PyData.depth]⟩
theorem shp_str {z : Str} (h : PyData.strOk z = true) : SeqAt.shaped (.str z) = true := (sh_str 0 h).shaped (by decide)
theorem ok_chars {z : Str} (h : PyData.strOk z = true) : ∀ c ∈ z.cps.toList, PyData.strOk ⟨#[c]⟩ = true := fun c hc => by
  unfold PyData.strOk at h ⊢
  rw [← Array.all_toList, List.all_eq_true] at h
  have := h c hc
  simpa using this
theorem shp_chars {z : Str} (h : PyData.strOk z = true) : ∀ c ∈ z.cps.toList, SeqAt.shaped (.str ⟨#[c]⟩) = true := fun c hc => shp_str (ok_chars h c hc)
theorem sh_mapM {α : Type} {n : Nat} {f : α → Dt} {xs : List α} (h : ∀ a ∈ xs, Sh n (f a)) : ∀ d ∈ xs.map f, Sh n d := fun d hd => by
  obtain ⟨a, ha, rfl⟩ := List.mem_map.mp hd
  exact h a ha
theorem shp_strs {zs : List Str} (h : ∀ z ∈ zs, PyData.strOk z = true) : SeqAt.shaped (.tuple (zs.map .str)) = true := (sh_tuple (sh_mapM fun z hz => sh_str 0 (h z hz))).shaped (by decide)
theorem shp_strl {zs : List Str} (h : ∀ z ∈ zs, PyData.strOk z = true) : SeqAt.shaped (.list (zs.map .str)) = true := (sh_list (sh_mapM fun z hz => sh_str 0 (h z hz))).shaped (by decide)
theorem shp_words : SeqAt.shaped (.tuple (WRDS.map .str)) = true := shp_strs (by decide +kernel)
theorem shp_letters : SeqAt.shaped (.str "abcdefghijklmnopqrstuvwxyz") = true := shp_str (by decide +kernel)
theorem any_str (zs : List Str) (z : Str) : ((zs.map PyData.str).any fun x => PyData.eqv x (.str z)) = decide (z ∈ zs) := any_map eqv_str zs z
/-! ### the contracts -/
def sp_is_name : DSp := fun ds Φ _ => ∃ d, ds = [d] ∧ okD d ∧ Φ (.pu (.bool (gName d)))
abbrev N_is_name : List Str := ["thing", "sign"]
def d_is_name : DS := (dSeq (dIf (dTOr (dTNot (dTV (dIsi isStrD (dV 0)))) (dTOr (dTNot (dTV (dChn oLe oLe (dC (.int 1)) (dB bLen (dCons (dV 0) dNil)) (dC (.int 8))))) (dTV (dBin oIn (dV 0) (dC cv_WORDS))))) (dRet (dC (.bool false))) dNext)
  (dRet (dB bAll (dCons (dFE (dLc [1] (diSeq (dV 0)) (dcN 1) dYes (dBin oIn (dV 1) (dC cv_LETTERS)))) dNil))))
theorem all_lets (z : Str) (Φ : Bool → Prop) (h : Φ (z.cps.toList.all fun c => decide (c ∈ LETS))) : Φ ((z.cps.toList.map fun c => decide (c ∈ LETS)).all id) := by
  rw [List.all_map]
  exact h
theorem rd_is_name (ds : List Dt) (Φ : Slot → Prop) (Ξ : XD → Prop) (h : sp_is_name ds Φ Ξ) : d_is_name (endsOf Φ Ξ) (rho0 N_is_name ds) := by
  obtain ⟨d, rfl, ho, h⟩ := h
  have hz : (100000 : Nat) < sizeLine := by decide
  have hs := ok_spec ho
  simp only [d_is_name, N_is_name, dRet, dRetF, dSetX, dCallX, dRetX, noOw, dTry, dCpy, dRaise, dRetO, dSetP, dSetS, dSetF, dSeq, dIf, dNext, dCall, dCallF, dB, dBin, dCons, dNil, dTup, dLst, dV, dC, dTV, onB, dTAnd, dTOr, dTNot, dAnd, dOr, dNot, dIfE, dIsN, dNotN, isN, dSl, dSlF, dNoPart, dPart, dPar, dParS, dAsg, dgN, dgT, dgCons, dgNil, dFE, dIsi, dListF, dNeg, dRev, dFrz, dApp, dAppS, dIns, dExtend, dClear, dReverse, dPop, oIx, oI, oIC, oAddU, oSubI, oMulU, oMulI, oFd, oMd, oPw, oLt, oLe, oGt, oGe, oEq, oNe, getF, setF, Cl.d, getS, setS, purF_nil, purF_cons, purH, allF_nil, allF_cons, allH, rho0, endsOf, scalD, bLen, bAbs, bInt, bIntU, bTup, true_and, and_true, Option.some.injEq, exists_eq_left', decide_eq_true_eq, Bool.not_eq_true', decide_eq_false_iff_not, it_eQ0, it_eQ1, it_eP0, it_eP1, it_eS0, it_eS1, fits_eQ, fits_eP, fits_eS, eqv_eQ, eqv_eP, eqv_eS, eqv_int, eqv_bool, shp_int, shp_bool, shp_none, shp_eQ, shp_eP, shp_eS, dCont, dBreak, dXi, dSetG, dAppG, oIsB, oNotB, dTx, pJoin, pSplit, pPart, pStarts, bStr, bIntS, dFmt, dJs, ↓reduceIte, nsp_none, nsp_bool, nsp_int, nsp_str, nsp_list, nsp_tuple, nsp_eQ, nsp_eP, nsp_eS, dat_pu, dat_ow, seqD_l, seqD_t, not_true_eq_false, Bool.true_eq_false, Bool.not_not, List.length_cons, List.length_nil, mkP, mkS, fits_list, fits_tuple, isIntD, isBoolD, isListD, isStrD, isTupD, Bool.not_true, Bool.not_false, Bool.false_eq_true, it_l0, it_l1, it_l2, it_t0, it_t1, it_t2, shp_ps, shp_pt, shp_ss, shp_is, seqD_eQ, seqD_eP, seqD_eS, walkD_eP, walkD_eS, walkD_l, walkD_t]
  cases d with
  | str z =>
    simp only [okD] at ho
    obtain ⟨ho, hk⟩ := ho
    have hk2 := shp_str hk
    have hk3 := shp_chars hk
    simp only [dChn, hk2, cv_WORDS, shp_words, oIn, any_str, gName, isNm, dRet, dRetF, dSetX, dCallX, dRetX, noOw, dTry, dCpy, dRaise, dRetO, dSetP, dSetS, dSetF, dSeq, dIf, dNext, dCall, dCallF, dB, dBin, dCons, dNil, dTup, dLst, dV, dC, dTV, onB, dTAnd, dTOr, dTNot, dAnd, dOr, dNot, dIfE, dIsN, dNotN, isN, dSl, dSlF, dNoPart, dPart, dPar, dParS, dAsg, dgN, dgT, dgCons, dgNil, dFE, dIsi, dListF, dNeg, dRev, dFrz, dApp, dAppS, dIns, dExtend, dClear, dReverse, dPop, oIx, oI, oIC, oAddU, oSubI, oMulU, oMulI, oFd, oMd, oPw, oLt, oLe, oGt, oGe, oEq, oNe, getF, setF, Cl.d, getS, setS, purF_nil, purF_cons, purH, allF_nil, allF_cons, allH, rho0, endsOf, scalD, bLen, bAbs, bInt, bIntU, bTup, true_and, and_true, Option.some.injEq, exists_eq_left', decide_eq_true_eq, Bool.not_eq_true', decide_eq_false_iff_not, it_eQ0, it_eQ1, it_eP0, it_eP1, it_eS0, it_eS1, fits_eQ, fits_eP, fits_eS, eqv_eQ, eqv_eP, eqv_eS, eqv_int, eqv_bool, shp_int, shp_bool, shp_none, shp_eQ, shp_eP, shp_eS, dCont, dBreak, dXi, dSetG, dAppG, oIsB, oNotB, dTx, pJoin, pSplit, pPart, pStarts, bStr, bIntS, dFmt, dJs, ↓reduceIte, nsp_none, nsp_bool, nsp_int, nsp_str, nsp_list, nsp_tuple, nsp_eQ, nsp_eP, nsp_eS, dat_pu, dat_ow, seqD_l, seqD_t, not_true_eq_false, Bool.true_eq_false, Bool.not_not, List.length_cons, List.length_nil, mkP, mkS, fits_list, fits_tuple, isIntD, isBoolD, isListD, isStrD, isTupD, Bool.not_true, Bool.not_false, Bool.false_eq_true, it_l0, it_l1, it_l2, it_t0, it_t1, it_t2, shp_ps, shp_pt, shp_ss, shp_is, seqD_eQ, seqD_eP, seqD_eS, walkD_eP, walkD_eS, walkD_l, walkD_t] at h ⊢
    refine ⟨by omega, ?_⟩
    by_cases c1 : 1 ≤ z.length
    · have c1' : (1 : Int) ≤ z.length := by omega
      simp only [c1, c1', dRet, dRetF, dSetX, dCallX, dRetX, noOw, dTry, dCpy, dRaise, dRetO, dSetP, dSetS, dSetF, dSeq, dIf, dNext, dCall, dCallF, dB, dBin, dCons, dNil, dTup, dLst, dV, dC, dTV, onB, dTAnd, dTOr, dTNot, dAnd, dOr, dNot, dIfE, dIsN, dNotN, isN, dSl, dSlF, dNoPart, dPart, dPar, dParS, dAsg, dgN, dgT, dgCons, dgNil, dFE, dIsi, dListF, dNeg, dRev, dFrz, dApp, dAppS, dIns, dExtend, dClear, dReverse, dPop, oIx, oI, oIC, oAddU, oSubI, oMulU, oMulI, oFd, oMd, oPw, oLt, oLe, oGt, oGe, oEq, oNe, getF, setF, Cl.d, getS, setS, purF_nil, purF_cons, purH, allF_nil, allF_cons, allH, rho0, endsOf, scalD, bLen, bAbs, bInt, bIntU, bTup, true_and, and_true, Option.some.injEq, exists_eq_left', decide_eq_true_eq, Bool.not_eq_true', decide_eq_false_iff_not, it_eQ0, it_eQ1, it_eP0, it_eP1, it_eS0, it_eS1, fits_eQ, fits_eP, fits_eS, eqv_eQ, eqv_eP, eqv_eS, eqv_int, eqv_bool, shp_int, shp_bool, shp_none, shp_eQ, shp_eP, shp_eS, dCont, dBreak, dXi, dSetG, dAppG, oIsB, oNotB, dTx, pJoin, pSplit, pPart, pStarts, bStr, bIntS, dFmt, dJs, ↓reduceIte, nsp_none, nsp_bool, nsp_int, nsp_str, nsp_list, nsp_tuple, nsp_eQ, nsp_eP, nsp_eS, dat_pu, dat_ow, seqD_l, seqD_t, not_true_eq_false, Bool.true_eq_false, Bool.not_not, List.length_cons, List.length_nil, mkP, mkS, fits_list, fits_tuple, isIntD, isBoolD, isListD, isStrD, isTupD, Bool.not_true, Bool.not_false, Bool.false_eq_true, it_l0, it_l1, it_l2, it_t0, it_t1, it_t2, shp_ps, shp_pt, shp_ss, shp_is, seqD_eQ, seqD_eP, seqD_eS, walkD_eP, walkD_eS, walkD_l, walkD_t] at h ⊢
      by_cases c2 : z.length ≤ 8
      · have c2' : (z.length : Int) ≤ 8 := by omega
        simp only [c2, c2', dRet, dRetF, dSetX, dCallX, dRetX, noOw, dTry, dCpy, dRaise, dRetO, dSetP, dSetS, dSetF, dSeq, dIf, dNext, dCall, dCallF, dB, dBin, dCons, dNil, dTup, dLst, dV, dC, dTV, onB, dTAnd, dTOr, dTNot, dAnd, dOr, dNot, dIfE, dIsN, dNotN, isN, dSl, dSlF, dNoPart, dPart, dPar, dParS, dAsg, dgN, dgT, dgCons, dgNil, dFE, dIsi, dListF, dNeg, dRev, dFrz, dApp, dAppS, dIns, dExtend, dClear, dReverse, dPop, oIx, oI, oIC, oAddU, oSubI, oMulU, oMulI, oFd, oMd, oPw, oLt, oLe, oGt, oGe, oEq, oNe, getF, setF, Cl.d, getS, setS, purF_nil, purF_cons, purH, allF_nil, allF_cons, allH, rho0, endsOf, scalD, bLen, bAbs, bInt, bIntU, bTup, true_and, and_true, Option.some.injEq, exists_eq_left', decide_eq_true_eq, Bool.not_eq_true', decide_eq_false_iff_not, it_eQ0, it_eQ1, it_eP0, it_eP1, it_eS0, it_eS1, fits_eQ, fits_eP, fits_eS, eqv_eQ, eqv_eP, eqv_eS, eqv_int, eqv_bool, shp_int, shp_bool, shp_none, shp_eQ, shp_eP, shp_eS, dCont, dBreak, dXi, dSetG, dAppG, oIsB, oNotB, dTx, pJoin, pSplit, pPart, pStarts, bStr, bIntS, dFmt, dJs, ↓reduceIte, nsp_none, nsp_bool, nsp_int, nsp_str, nsp_list, nsp_tuple, nsp_eQ, nsp_eP, nsp_eS, dat_pu, dat_ow, seqD_l, seqD_t, not_true_eq_false, Bool.true_eq_false, Bool.not_not, List.length_cons, List.length_nil, mkP, mkS, fits_list, fits_tuple, isIntD, isBoolD, isListD, isStrD, isTupD, Bool.not_true, Bool.not_false, Bool.false_eq_true, it_l0, it_l1, it_l2, it_t0, it_t1, it_t2, shp_ps, shp_pt, shp_ss, shp_is, seqD_eQ, seqD_eP, seqD_eS, walkD_eP, walkD_eS, walkD_l, walkD_t] at h ⊢
        by_cases c3 : z ∈ WRDS
        · simp only [c3, dRet, dRetF, dSetX, dCallX, dRetX, noOw, dTry, dCpy, dRaise, dRetO, dSetP, dSetS, dSetF, dSeq, dIf, dNext, dCall, dCallF, dB, dBin, dCons, dNil, dTup, dLst, dV, dC, dTV, onB, dTAnd, dTOr, dTNot, dAnd, dOr, dNot, dIfE, dIsN, dNotN, isN, dSl, dSlF, dNoPart, dPart, dPar, dParS, dAsg, dgN, dgT, dgCons, dgNil, dFE, dIsi, dListF, dNeg, dRev, dFrz, dApp, dAppS, dIns, dExtend, dClear, dReverse, dPop, oIx, oI, oIC, oAddU, oSubI, oMulU, oMulI, oFd, oMd, oPw, oLt, oLe, oGt, oGe, oEq, oNe, getF, setF, Cl.d, getS, setS, purF_nil, purF_cons, purH, allF_nil, allF_cons, allH, rho0, endsOf, scalD, bLen, bAbs, bInt, bIntU, bTup, true_and, and_true, Option.some.injEq, exists_eq_left', decide_eq_true_eq, Bool.not_eq_true', decide_eq_false_iff_not, it_eQ0, it_eQ1, it_eP0, it_eP1, it_eS0, it_eS1, fits_eQ, fits_eP, fits_eS, eqv_eQ, eqv_eP, eqv_eS, eqv_int, eqv_bool, shp_int, shp_bool, shp_none, shp_eQ, shp_eP, shp_eS, dCont, dBreak, dXi, dSetG, dAppG, oIsB, oNotB, dTx, pJoin, pSplit, pPart, pStarts, bStr, bIntS, dFmt, dJs, ↓reduceIte, nsp_none, nsp_bool, nsp_int, nsp_str, nsp_list, nsp_tuple, nsp_eQ, nsp_eP, nsp_eS, dat_pu, dat_ow, seqD_l, seqD_t, not_true_eq_false, Bool.true_eq_false, Bool.not_not, List.length_cons, List.length_nil, mkP, mkS, fits_list, fits_tuple, isIntD, isBoolD, isListD, isStrD, isTupD, Bool.not_true, Bool.not_false, Bool.false_eq_true, it_l0, it_l1, it_l2, it_t0, it_t1, it_t2, shp_ps, shp_pt, shp_ss, shp_is, seqD_eQ, seqD_eP, seqD_eS, walkD_eP, walkD_eS, walkD_l, walkD_t] at h ⊢
          simpa using h
        · simp only [c3, dRet, dRetF, dSetX, dCallX, dRetX, noOw, dTry, dCpy, dRaise, dRetO, dSetP, dSetS, dSetF, dSeq, dIf, dNext, dCall, dCallF, dB, dBin, dCons, dNil, dTup, dLst, dV, dC, dTV, onB, dTAnd, dTOr, dTNot, dAnd, dOr, dNot, dIfE, dIsN, dNotN, isN, dSl, dSlF, dNoPart, dPart, dPar, dParS, dAsg, dgN, dgT, dgCons, dgNil, dFE, dIsi, dListF, dNeg, dRev, dFrz, dApp, dAppS, dIns, dExtend, dClear, dReverse, dPop, oIx, oI, oIC, oAddU, oSubI, oMulU, oMulI, oFd, oMd, oPw, oLt, oLe, oGt, oGe, oEq, oNe, getF, setF, Cl.d, getS, setS, purF_nil, purF_cons, purH, allF_nil, allF_cons, allH, rho0, endsOf, scalD, bLen, bAbs, bInt, bIntU, bTup, true_and, and_true, Option.some.injEq, exists_eq_left', decide_eq_true_eq, Bool.not_eq_true', decide_eq_false_iff_not, it_eQ0, it_eQ1, it_eP0, it_eP1, it_eS0, it_eS1, fits_eQ, fits_eP, fits_eS, eqv_eQ, eqv_eP, eqv_eS, eqv_int, eqv_bool, shp_int, shp_bool, shp_none, shp_eQ, shp_eP, shp_eS, dCont, dBreak, dXi, dSetG, dAppG, oIsB, oNotB, dTx, pJoin, pSplit, pPart, pStarts, bStr, bIntS, dFmt, dJs, ↓reduceIte, nsp_none, nsp_bool, nsp_int, nsp_str, nsp_list, nsp_tuple, nsp_eQ, nsp_eP, nsp_eS, dat_pu, dat_ow, seqD_l, seqD_t, not_true_eq_false, Bool.true_eq_false, Bool.not_not, List.length_cons, List.length_nil, mkP, mkS, fits_list, fits_tuple, isIntD, isBoolD, isListD, isStrD, isTupD, Bool.not_true, Bool.not_false, Bool.false_eq_true, it_l0, it_l1, it_l2, it_t0, it_t1, it_t2, shp_ps, shp_pt, shp_ss, shp_is, seqD_eQ, seqD_eP, seqD_eS, walkD_eP, walkD_eS, walkD_l, walkD_t] at h ⊢
          refine dLc_mapM (xs := z.cps.toList) (e := fun c => .str ⟨#[c]⟩) (fun Q hQ => ?_) (fun c => .bool (decide (c ∈ LETS))) ?_ (fun s hs Ψ hΨ => ?_) ?_
          · simp only [diSeq, walkD, dRet, dRetF, dSetX, dCallX, dRetX, noOw, dTry, dCpy, dRaise, dRetO, dSetP, dSetS, dSetF, dSeq, dIf, dNext, dCall, dCallF, dB, dBin, dCons, dNil, dTup, dLst, dV, dC, dTV, onB, dTAnd, dTOr, dTNot, dAnd, dOr, dNot, dIfE, dIsN, dNotN, isN, dSl, dSlF, dNoPart, dPart, dPar, dParS, dAsg, dgN, dgT, dgCons, dgNil, dFE, dIsi, dListF, dNeg, dRev, dFrz, dApp, dAppS, dIns, dExtend, dClear, dReverse, dPop, oIx, oI, oIC, oAddU, oSubI, oMulU, oMulI, oFd, oMd, oPw, oLt, oLe, oGt, oGe, oEq, oNe, getF, setF, Cl.d, getS, setS, purF_nil, purF_cons, purH, allF_nil, allF_cons, allH, rho0, endsOf, scalD, bLen, bAbs, bInt, bIntU, bTup, true_and, and_true, Option.some.injEq, exists_eq_left', decide_eq_true_eq, Bool.not_eq_true', decide_eq_false_iff_not, it_eQ0, it_eQ1, it_eP0, it_eP1, it_eS0, it_eS1, fits_eQ, fits_eP, fits_eS, eqv_eQ, eqv_eP, eqv_eS, eqv_int, eqv_bool, shp_int, shp_bool, shp_none, shp_eQ, shp_eP, shp_eS, dCont, dBreak, dXi, dSetG, dAppG, oIsB, oNotB, dTx, pJoin, pSplit, pPart, pStarts, bStr, bIntS, dFmt, dJs, ↓reduceIte, nsp_none, nsp_bool, nsp_int, nsp_str, nsp_list, nsp_tuple, nsp_eQ, nsp_eP, nsp_eS, dat_pu, dat_ow, seqD_l, seqD_t, not_true_eq_false, Bool.true_eq_false, Bool.not_not, List.length_cons, List.length_nil, mkP, mkS, fits_list, fits_tuple, isIntD, isBoolD, isListD, isStrD, isTupD, Bool.not_true, Bool.not_false, Bool.false_eq_true, it_l0, it_l1, it_l2, it_t0, it_t1, it_t2, shp_ps, shp_pt, shp_ss, shp_is, seqD_eQ, seqD_eP, seqD_eS, walkD_eP, walkD_eS, walkD_l, walkD_t]
            exact hQ
          · have : z.cps.toList.length = z.length := by simp [Str.length]
            omega
          · simp only [dcN, wipeF, noneF, oIn, cv_LETTERS, hk3 s hs, shp_letters, lets_eq, dRet, dRetF, dSetX, dCallX, dRetX, noOw, dTry, dCpy, dRaise, dRetO, dSetP, dSetS, dSetF, dSeq, dIf, dNext, dCall, dCallF, dB, dBin, dCons, dNil, dTup, dLst, dV, dC, dTV, onB, dTAnd, dTOr, dTNot, dAnd, dOr, dNot, dIfE, dIsN, dNotN, isN, dSl, dSlF, dNoPart, dPart, dPar, dParS, dAsg, dgN, dgT, dgCons, dgNil, dFE, dIsi, dListF, dNeg, dRev, dFrz, dApp, dAppS, dIns, dExtend, dClear, dReverse, dPop, oIx, oI, oIC, oAddU, oSubI, oMulU, oMulI, oFd, oMd, oPw, oLt, oLe, oGt, oGe, oEq, oNe, getF, setF, Cl.d, getS, setS, purF_nil, purF_cons, purH, allF_nil, allF_cons, allH, rho0, endsOf, scalD, bLen, bAbs, bInt, bIntU, bTup, true_and, and_true, Option.some.injEq, exists_eq_left', decide_eq_true_eq, Bool.not_eq_true', decide_eq_false_iff_not, it_eQ0, it_eQ1, it_eP0, it_eP1, it_eS0, it_eS1, fits_eQ, fits_eP, fits_eS, eqv_eQ, eqv_eP, eqv_eS, eqv_int, eqv_bool, shp_int, shp_bool, shp_none, shp_eQ, shp_eP, shp_eS, dCont, dBreak, dXi, dSetG, dAppG, oIsB, oNotB, dTx, pJoin, pSplit, pPart, pStarts, bStr, bIntS, dFmt, dJs, ↓reduceIte, nsp_none, nsp_bool, nsp_int, nsp_str, nsp_list, nsp_tuple, nsp_eQ, nsp_eP, nsp_eS, dat_pu, dat_ow, seqD_l, seqD_t, not_true_eq_false, Bool.true_eq_false, Bool.not_not, List.length_cons, List.length_nil, mkP, mkS, fits_list, fits_tuple, isIntD, isBoolD, isListD, isStrD, isTupD, Bool.not_true, Bool.not_false, Bool.false_eq_true, it_l0, it_l1, it_l2, it_t0, it_t1, it_t2, shp_ps, shp_pt, shp_ss, shp_is, seqD_eQ, seqD_eP, seqD_eS, walkD_eP, walkD_eS, walkD_l, walkD_t]
            exact ⟨rfl, hΨ⟩
          · refine ⟨z.cps.toList.map fun c => decide (c ∈ LETS), by rw [List.map_map]; rfl, ?_⟩
            refine all_lets z (fun b => Φ (.pu (.bool b))) ?_
            simpa using h
      · have c2' : ¬ (z.length : Int) ≤ 8 := by omega
        simp only [c2, c2', dRet, dRetF, dSetX, dCallX, dRetX, noOw, dTry, dCpy, dRaise, dRetO, dSetP, dSetS, dSetF, dSeq, dIf, dNext, dCall, dCallF, dB, dBin, dCons, dNil, dTup, dLst, dV, dC, dTV, onB, dTAnd, dTOr, dTNot, dAnd, dOr, dNot, dIfE, dIsN, dNotN, isN, dSl, dSlF, dNoPart, dPart, dPar, dParS, dAsg, dgN, dgT, dgCons, dgNil, dFE, dIsi, dListF, dNeg, dRev, dFrz, dApp, dAppS, dIns, dExtend, dClear, dReverse, dPop, oIx, oI, oIC, oAddU, oSubI, oMulU, oMulI, oFd, oMd, oPw, oLt, oLe, oGt, oGe, oEq, oNe, getF, setF, Cl.d, getS, setS, purF_nil, purF_cons, purH, allF_nil, allF_cons, allH, rho0, endsOf, scalD, bLen, bAbs, bInt, bIntU, bTup, true_and, and_true, Option.some.injEq, exists_eq_left', decide_eq_true_eq, Bool.not_eq_true', decide_eq_false_iff_not, it_eQ0, it_eQ1, it_eP0, it_eP1, it_eS0, it_eS1, fits_eQ, fits_eP, fits_eS, eqv_eQ, eqv_eP, eqv_eS, eqv_int, eqv_bool, shp_int, shp_bool, shp_none, shp_eQ, shp_eP, shp_eS, dCont, dBreak, dXi, dSetG, dAppG, oIsB, oNotB, dTx, pJoin, pSplit, pPart, pStarts, bStr, bIntS, dFmt, dJs, ↓reduceIte, nsp_none, nsp_bool, nsp_int, nsp_str, nsp_list, nsp_tuple, nsp_eQ, nsp_eP, nsp_eS, dat_pu, dat_ow, seqD_l, seqD_t, not_true_eq_false, Bool.true_eq_false, Bool.not_not, List.length_cons, List.length_nil, mkP, mkS, fits_list, fits_tuple, isIntD, isBoolD, isListD, isStrD, isTupD, Bool.not_true, Bool.not_false, Bool.false_eq_true, it_l0, it_l1, it_l2, it_t0, it_t1, it_t2, shp_ps, shp_pt, shp_ss, shp_is, seqD_eQ, seqD_eP, seqD_eS, walkD_eP, walkD_eS, walkD_l, walkD_t] at h ⊢
        simpa using h
    · have c1' : ¬ (1 : Int) ≤ z.length := by omega
      simp only [c1, c1', dRet, dRetF, dSetX, dCallX, dRetX, noOw, dTry, dCpy, dRaise, dRetO, dSetP, dSetS, dSetF, dSeq, dIf, dNext, dCall, dCallF, dB, dBin, dCons, dNil, dTup, dLst, dV, dC, dTV, onB, dTAnd, dTOr, dTNot, dAnd, dOr, dNot, dIfE, dIsN, dNotN, isN, dSl, dSlF, dNoPart, dPart, dPar, dParS, dAsg, dgN, dgT, dgCons, dgNil, dFE, dIsi, dListF, dNeg, dRev, dFrz, dApp, dAppS, dIns, dExtend, dClear, dReverse, dPop, oIx, oI, oIC, oAddU, oSubI, oMulU, oMulI, oFd, oMd, oPw, oLt, oLe, oGt, oGe, oEq, oNe, getF, setF, Cl.d, getS, setS, purF_nil, purF_cons, purH, allF_nil, allF_cons, allH, rho0, endsOf, scalD, bLen, bAbs, bInt, bIntU, bTup, true_and, and_true, Option.some.injEq, exists_eq_left', decide_eq_true_eq, Bool.not_eq_true', decide_eq_false_iff_not, it_eQ0, it_eQ1, it_eP0, it_eP1, it_eS0, it_eS1, fits_eQ, fits_eP, fits_eS, eqv_eQ, eqv_eP, eqv_eS, eqv_int, eqv_bool, shp_int, shp_bool, shp_none, shp_eQ, shp_eP, shp_eS, dCont, dBreak, dXi, dSetG, dAppG, oIsB, oNotB, dTx, pJoin, pSplit, pPart, pStarts, bStr, bIntS, dFmt, dJs, ↓reduceIte, nsp_none, nsp_bool, nsp_int, nsp_str, nsp_list, nsp_tuple, nsp_eQ, nsp_eP, nsp_eS, dat_pu, dat_ow, seqD_l, seqD_t, not_true_eq_false, Bool.true_eq_false, Bool.not_not, List.length_cons, List.length_nil, mkP, mkS, fits_list, fits_tuple, isIntD, isBoolD, isListD, isStrD, isTupD, Bool.not_true, Bool.not_false, Bool.false_eq_true, it_l0, it_l1, it_l2, it_t0, it_t1, it_t2, shp_ps, shp_pt, shp_ss, shp_is, seqD_eQ, seqD_eP, seqD_eS, walkD_eP, walkD_eS, walkD_l, walkD_t] at h ⊢
      simpa using h
  | dict kv =>
    refine ⟨hs, ?_⟩
    simpa [isStrD, gName] using h
  | _ => simpa [isStrD, gName, spec] using h
end L2.D3
set_option maxHeartbeats 1000000
/-! Lands drawn from pools: the laws' helpers. -/
namespace L2.D3.PL
open PySem PySem.Spec PyProof.Rows L2.D3
def sp__law_cell : DSp := fun ds Φ _ => ∃ (ns : List Int) (k : Int), ds = [.list (ns.map .int), .int k] ∧ 0 ≤ k ∧ ∀ c : Int, Φ (.pu (.int c))
abbrev N__law_cell : List Str := ["_law_script", "_law_k"]
def d__law_cell : DS := (dRet (dIfE (dTV (dBin oLt (dV 1) (dB bLen (dCons (dV 0) dNil)))) (dBin oIx (dV 0) (dV 1)) (dC (.int 0))))
theorem rd__law_cell (ds : List Dt) (Φ : Slot → Prop) (Ξ : XD → Prop) (h : sp__law_cell ds Φ Ξ) : d__law_cell (endsOf Φ Ξ) (rho0 N__law_cell ds) := by
  obtain ⟨ns, k, rfl, h0, h⟩ := h
  simp only [d__law_cell, N__law_cell, dRet, dRetF, dSetX, dCallX, dRetX, noOw, dTry, dCpy, dRaise, dRetO, dSetP, dSetS, dSetF, dSeq, dIf, dNext, dCall, dCallF, dB, dBin, dCons, dNil, dTup, dLst, dV, dC, dTV, onB, dTAnd, dTOr, dTNot, dAnd, dOr, dNot, dIfE, dIsN, dNotN, isN, dSl, dSlF, dNoPart, dPart, dPar, dParS, dAsg, dgN, dgT, dgCons, dgNil, dFE, dIsi, dListF, dNeg, dRev, dFrz, dApp, dAppS, dIns, dExtend, dClear, dReverse, dPop, oIx, oI, oIC, oAddU, oSubI, oMulU, oMulI, oFd, oMd, oPw, oLt, oLe, oGt, oGe, oEq, oNe, getF, setF, Cl.d, getS, setS, purF_nil, purF_cons, purH, allF_nil, allF_cons, allH, rho0, endsOf, scalD, bLen, bAbs, bInt, bIntU, bTup, true_and, and_true, Option.some.injEq, exists_eq_left', decide_eq_true_eq, Bool.not_eq_true', decide_eq_false_iff_not, it_eQ0, it_eQ1, it_eP0, it_eP1, it_eS0, it_eS1, fits_eQ, fits_eP, fits_eS, eqv_eQ, eqv_eP, eqv_eS, eqv_int, eqv_bool, shp_int, shp_bool, shp_none, shp_eQ, shp_eP, shp_eS, dCont, dBreak, dXi, dSetG, dAppG, oIsB, oNotB, dTx, pJoin, pSplit, pPart, pStarts, bStr, bIntS, dFmt, dJs, ↓reduceIte, nsp_none, nsp_bool, nsp_int, nsp_str, nsp_list, nsp_tuple, nsp_eQ, nsp_eP, nsp_eS, dat_pu, dat_ow, seqD_l, seqD_t, not_true_eq_false, Bool.true_eq_false, Bool.not_not, List.length_cons, List.length_nil, mkP, mkS, fits_list, fits_tuple, isIntD, isBoolD, isListD, isStrD, isTupD, Bool.not_true, Bool.not_false, Bool.false_eq_true, it_l0, it_l1, it_l2, it_t0, it_t1, it_t2, shp_ps, shp_pt, shp_ss, shp_is, seqD_eQ, seqD_eP, seqD_eS, walkD_eP, walkD_eS, walkD_l, walkD_t, List.length_map]
  split
  · rename_i c
    refine ⟨_, it_map (xs := ns) (f := PyData.int) h0 c, h _⟩
  · exact h 0
open SX (S)
theorem nm_S {cs : List Nat} (h1 : 1 ≤ cs.length) (h2 : cs.length ≤ 8) (h3 : ∀ c ∈ cs, c ∈ LETS) (h4 : S cs ∉ WRDS) : isNm (S cs) = true := by
  have e : (S cs).length = cs.length := SX.S_len cs
  have e2 : (S cs).cps.toList = cs := by simp
  unfold isNm
  rw [e, e2, decide_eq_true h1, decide_eq_true h2, decide_eq_false h4]
  simp only [Bool.true_and, Bool.not_false]
  exact List.all_eq_true.mpr fun c hc => decide_eq_true (h3 c hc)
theorem nm_of {z : Str} (h : isNm z = true) : ∃ cs : List Nat, z = S cs ∧ 1 ≤ cs.length ∧ cs.length ≤ 8 ∧ (∀ c ∈ cs, c ∈ LETS) ∧ z ∉ WRDS := by
  unfold isNm at h
  simp only [Bool.and_eq_true, decide_eq_true_eq, Bool.not_eq_true', decide_eq_false_iff_not, List.all_eq_true] at h
  refine ⟨z.cps.toList, (SX.S_tl z).symm, ?_, ?_, h.2.2.2, h.2.2.1⟩
  · have := h.1; unfold Str.length at this; simpa using this
  · have := h.2.1; unfold Str.length at this; simpa using this
theorem lets_small : ∀ c ∈ LETS, c < 256 := by decide
theorem lets_ok {cs : List Nat} (h : ∀ c ∈ cs, c ∈ LETS) : PyData.strOk (S cs) = true := by
  unfold PyData.strOk
  rw [← Array.all_toList]
  exact List.all_eq_true.mpr fun c hc => by
    have := lets_small c (h c (by simpa using hc))
    exact decide_eq_true (by omega)
theorem nm_ok {z : Str} (h : isNm z = true) : PyData.strOk z = true := by
  obtain ⟨cs, rfl, _, _, h3, _⟩ := nm_of h
  exact lets_ok h3
theorem letter_at {x : Int} (h0 : 0 ≤ x) (h1 : x < 26) : ∃ c ∈ LETS, itemD (.str "abcdefghijklmnopqrstuvwxyz") x = some (.str ⟨#[c]⟩) := by
  have e : itemD (.str "abcdefghijklmnopqrstuvwxyz") x = (atI LETS x).map fun c => .str ⟨#[c]⟩ := by
    show (atI ("abcdefghijklmnopqrstuvwxyz" : Str).cps.toList x).map _ = _
    rw [lets_eq]
  have hl : LETS.length = 26 := rfl
  have hx : x.toNat < LETS.length := by omega
  refine ⟨LETS[x.toNat], List.getElem_mem hx, ?_⟩
  have e3 : atI LETS x = some LETS[x.toNat] := by
    have := atI_nat (List.getElem?_eq_getElem hx)
    rwa [show ((x.toNat : Nat) : Int) = x by omega] at this
  rw [e, e3]
  rfl
theorem nodup_le {α : Type} [DecidableEq α] : ∀ {l m : List α}, l.Nodup → (∀ x ∈ l, x ∈ m) → l.length ≤ m.length
  | [], m, _, _ => Nat.zero_le _
  | x :: l, m, hn, hs => by
    have hx := hs x List.mem_cons_self
    obtain ⟨h1, h2⟩ := List.nodup_cons.mp hn
    have ih := nodup_le (l := l) (m := m.erase x) h2 fun y hy => by
      have ne : y ≠ x := fun z => h1 (by rw [← z]; exact hy)
      exact (List.mem_erase_of_ne ne).mpr (hs y (List.mem_cons_of_mem _ hy))
    rw [List.length_erase_of_mem hx] at ih
    have : 0 < m.length := List.length_pos_of_mem hx
    rw [List.length_cons]
    omega
theorem head_filter {α : Type} {p : α → Bool} {l : List α} (h : ∃ x ∈ l, p x = true) : ∃ x r, l.filter p = x :: r ∧ x ∈ l ∧ p x = true := by
  cases e : l.filter p with
  | nil =>
    obtain ⟨x, h1, h2⟩ := h
    have : x ∈ l.filter p := List.mem_filter.mpr ⟨h1, h2⟩
    rw [e] at this
    cases this
  | cons x r =>
    have : x ∈ l.filter p := by rw [e]; exact List.mem_cons_self
    obtain ⟨h1, h2⟩ := List.mem_filter.mp this
    exact ⟨x, r, rfl, h1, h2⟩
end L2.D3.PL
set_option maxHeartbeats 1000000
/-! Sayings, plainly. -/
namespace L2.D3.SY
open PySem PySem.Spec PyProof.Rows L2.D3
inductive Sy where
  | name (z : Str)
  | sheet (z : Str)
  | all
  | none
  | not (t : Sy)
  | and (a b : Sy)
  | or (a b : Sy)
def wds : Sy → List Str
  | .name z => [z]
  | .sheet z => ["sheet", z]
  | .all => ["all"]
  | .none => ["none"]
  | .not t => "not" :: wds t
  | .and a b => "(" :: (wds a ++ ("and" : Str) :: (wds b ++ [(")" : Str)]))
  | .or a b => "(" :: (wds a ++ ("or" : Str) :: (wds b ++ [(")" : Str)]))
def dep : Sy → Nat
  | .not t => dep t + 1
  | .and a b => max (dep a) (dep b) + 1
  | .or a b => max (dep a) (dep b) + 1
  | _ => 1
theorem dep_wds : ∀ t, dep t ≤ (wds t).length
  | .name _ | .sheet _ | .all | .none => by simp [dep, wds]
  | .not t => by have := dep_wds t; simp only [dep, wds, List.length_cons]; omega
  | .and a b => by
    have := dep_wds a
    have := dep_wds b
    simp only [dep, wds, List.length_cons, List.length_append, List.length_nil]
    omega
  | .or a b => by
    have := dep_wds a
    have := dep_wds b
    simp only [dep, wds, List.length_cons, List.length_append, List.length_nil]
    omega
theorem wds_pos : ∀ t, 1 ≤ (wds t).length := fun t => Nat.le_trans (by cases t <;> simp [dep]) (dep_wds t)
/-- its names are names -/
def Ok : Sy → Prop
  | .name z => isNm z = true
  | .sheet z => isNm z = true
  | .not t => Ok t
  | .and a b => Ok a ∧ Ok b
  | .or a b => Ok a ∧ Ok b
  | _ => True
/-- whether it holds, by names and sheets -/
def ev (ls : List (Str × Str)) : Sy → Bool
  | .name z => decide (z ∈ ls.map (·.1))
  | .sheet z => decide (z ∈ ls.map (·.2))
  | .all => true
  | .none => false
  | .not t => !ev ls t
  | .and a b => ev ls a && ev ls b
  | .or a b => ev ls a || ev ls b
/-- as the law tells it -/
def eT : Sy → Dt
  | .name z => .tuple [.str "name", .str z]
  | .sheet z => .tuple [.str "sheet", .str z]
  | .all => .tuple [.str "all"]
  | .none => .tuple [.str "none"]
  | .not t => .tuple [.str "not", eT t]
  | .and a b => .tuple [.str "and", eT a, eT b]
  | .or a b => .tuple [.str "or", eT a, eT b]
def mk (c : Str) (fs : List (Str × Dt)) : Dt := .dict ((.list [.str c], .none) :: fs.map fun x => (.str x.1, x.2))
/-- as an instance -/
def eS : Sy → Dt
  | .name z => mk "OfLand" [("name", .str z)]
  | .sheet z => mk "OfSheet" [("sheet", .str z)]
  | .all => mk "Everywhere" []
  | .none => mk "Nowhere" []
  | .not t => mk "Not" [("inner", eS t)]
  | .and a b => mk "Both" [("one", eS a), ("other", eS b)]
  | .or a b => mk "Either" [("one", eS a), ("other", eS b)]
/-- words that are no names of lands -/
theorem nm_words {z : Str} (h : isNm z = true) : z ≠ "all" ∧ z ≠ "none" ∧ z ≠ "not" ∧ z ≠ "(" ∧ z ≠ "sheet" ∧ z ≠ "and" ∧ z ≠ "or" ∧ z ≠ ")" := by
  refine ⟨?_, ?_, ?_, ?_, ?_, ?_, ?_, ?_⟩ <;> (intro e; subst e; revert h; decide +kernel)
end L2.D3.SY
set_option maxHeartbeats 1000000
/-! Sayings as instances: their methods. -/
namespace L2.D3.SY
open PySem PySem.Spec PyProof.Rows L2.D3
def CS : List Str := ["OfLand", "OfSheet", "Everywhere", "Nowhere", "Not", "Both", "Either"]
def eLS (x : Str × Str) : Dt := .tuple [.str x.1, .str x.2]
def LsOk (ls : List (Str × Str)) : Prop := ls.length ≤ 1000 ∧ ∀ x ∈ ls, PyData.strOk x.1 = true ∧ PyData.strOk x.2 = true
def spr_holds (n : Nat) : DSp := fun ds Φ _ => ∃ (t : Sy) (ls : List (Str × Str)), ds = [eS t, .list (ls.map eLS)] ∧ Ok t ∧ dep t ≤ n ∧ LsOk ls ∧ Φ (.pu (.bool (ev ls t)))
def sp_holds : DSp := spr_holds 41
abbrev N_Saying__holds : List Str := ["self", "lands"]
def d_Saying__holds (n : Nat) : DS := (dRet (dC (.bool false)))
abbrev N_OfLand__holds : List Str := ["self", "lands", "land"]
def d_OfLand__holds (n : Nat) : DS := (dRet (dBin oIn (dRel (rFld ["OfLand"] "name" (rVar 0))) (dFE (dLc [2] (diSeq (dV 1)) (dcN 2) dYes (dBin oIx (dV 2) (dC (.int 0)))))))
abbrev N_OfSheet__holds : List Str := ["self", "lands", "land"]
def d_OfSheet__holds (n : Nat) : DS := (dRet (dBin oIn (dRel (rFld ["OfSheet"] "sheet" (rVar 0))) (dFE (dLc [2] (diSeq (dV 1)) (dcN 2) dYes (dBin oIx (dV 2) (dC (.int 1)))))))
abbrev N_Everywhere__holds : List Str := ["self", "lands"]
def d_Everywhere__holds (n : Nat) : DS := (dRet (dC (.bool true)))
abbrev N_Not__holds : List Str := ["self", "lands"]
def d_Not__holds (n : Nat) : DS := (dRet (dNot (dMeth (rFld ["Not"] "inner" (rVar 0)) CS "holds" (spr_holds n) (dCons (dV 1) dNil))))
abbrev N_Both__holds : List Str := ["self", "lands"]
def d_Both__holds (n : Nat) : DS := (dRet (dAnd (dMeth (rFld ["Both"] "one" (rVar 0)) CS "holds" (spr_holds n) (dCons (dV 1) dNil)) (dMeth (rFld ["Both"] "other" (rVar 0)) CS "holds" (spr_holds n) (dCons (dV 1) dNil))))
abbrev N_Either__holds : List Str := ["self", "lands"]
def d_Either__holds (n : Nat) : DS := (dRet (dOr (dMeth (rFld ["Either"] "one" (rVar 0)) CS "holds" (spr_holds n) (dCons (dV 1) dNil)) (dMeth (rFld ["Either"] "other" (rVar 0)) CS "holds" (spr_holds n) (dCons (dV 1) dNil))))
theorem dep_pos (t : Sy) : 1 ≤ dep t := by cases t <;> simp [dep]
theorem cls_S : ∀ t, ∃ c ∈ CS, clsD (eS t) = some c
  | .name _ => ⟨"OfLand", by simp [CS], rfl⟩
  | .sheet _ => ⟨"OfSheet", by simp [CS], rfl⟩
  | .all => ⟨"Everywhere", by simp [CS], rfl⟩
  | .none => ⟨"Nowhere", by simp [CS], rfl⟩
  | .not _ => ⟨"Not", by simp [CS], rfl⟩
  | .and _ _ => ⟨"Both", by simp [CS], rfl⟩
  | .or _ _ => ⟨"Either", by simp [CS], rfl⟩
theorem fld0 {f c : Str} : fldD f (mk c []) = none := rfl
theorem fld1 {f g c : Str} {d : Dt} (h : ¬ g = f) : fldD f (mk c [(g, d)]) = none := by simp [mk, fldD, fldL, h]
theorem fld2 {f g k c : Str} {d e : Dt} (h : ¬ g = f) (h2 : ¬ k = f) : fldD f (mk c [(g, d), (k, e)]) = none := by simp [mk, fldD, fldL, h, h2]
theorem no_holds : ∀ t, fldD "holds" (eS t) = none
  | .name _ => fld1 (by decide)
  | .sheet _ => fld1 (by decide)
  | .all => fld0
  | .none => fld0
  | .not _ => fld1 (by decide)
  | .and _ _ => fld2 (by decide) (by decide)
  | .or _ _ => fld2 (by decide) (by decide)
theorem rd_Not__holds (n : Nat) (ds : List Dt) (Φ : Slot → Prop) (Ξ : XD → Prop) (h : onC "Not" (spr_holds (n + 1)) ds Φ Ξ) : d_Not__holds n (endsOf Φ Ξ) (rho0 N_Not__holds ds) := by
  obtain ⟨⟨d, r, e, hc⟩, t, ls, rfl, ok, hd, hl, h⟩ := h
  cases e
  cases t with
  | not u =>
    obtain ⟨c, hm, hu⟩ := cls_S u
    have hd : dep u ≤ n := by simp only [dep] at hd; omega
    simp only [d_Not__holds, N_Not__holds, dRet, dRetF, dSetX, dCallX, dRetX, noOw, dTry, dCpy, dRaise, dRetO, dSetP, dSetS, dSetF, dSeq, dIf, dNext, dCall, dCallF, dB, dBin, dCons, dNil, dTup, dLst, dV, dC, dTV, onB, dTAnd, dTOr, dTNot, dAnd, dOr, dNot, dIfE, dIsN, dNotN, isN, dSl, dSlF, dNoPart, dPart, dPar, dParS, dAsg, dgN, dgT, dgCons, dgNil, dFE, dIsi, dListF, dNeg, dRev, dFrz, dApp, dAppS, dIns, dExtend, dClear, dReverse, dPop, oIx, oI, oIC, add_ii, add_ss, add_ll, add_tt, oSubI, oMulU, oMulI, oFd, oMd, oPw, oLt, oLe, oGt, oGe, oEq, oNe, getF, setF, Cl.d, getS, setS, purF_nil, purF_cons, purH, allF_nil, allF_cons, allH, rho0, endsOf, scalD, len_l, len_t, len_s, bAbs, bInt, bIntU, tup_l, tup_t, true_and, and_true, Option.some.injEq, exists_eq_left', decide_eq_true_eq, Bool.not_eq_true', decide_eq_false_iff_not, it_eQ0, it_eQ1, it_eP0, it_eP1, it_eS0, it_eS1, fits_eQ, fits_eP, fits_eS, eqv_eQ, eqv_eP, eqv_eS, eqv_int, eqv_bool, shp_int, shp_bool, shp_none, shp_eQ, shp_eP, shp_eS, dCont, dBreak, dXi, dSetG, dAppG, oIsB, oNotB, dTx, pJoin, pSplit, pPart, pStarts, bStr, bIntS, dFmt, dJs, ↓reduceIte, nsp_none, nsp_bool, nsp_int, nsp_str, nsp_list, nsp_tuple, nsp_eQ, nsp_eP, nsp_eS, dat_pu, dat_ow, seqD_l, seqD_t, not_true_eq_false, Bool.true_eq_false, Bool.not_not, List.length_cons, List.length_nil, mkP, mkS, fits_list, fits_tuple, isIntD, isBoolD, isListD, isStrD, isTupD, Bool.not_true, Bool.not_false, Bool.false_eq_true, it_l0, it_l1, it_l2, it_t0, it_t1, it_t2, shp_ps, shp_pt, shp_ss, shp_is, seqD_eQ, seqD_eP, seqD_eS, walkD_eP, walkD_eS, walkD_l, walkD_t]
    refine ⟨eS u, c, ⟨_, "Not", rfl, rfl, by simp, rfl⟩, hu, hm, no_holds u, ?_⟩
    simp only [dRet, dRetF, dSetX, dCallX, dRetX, noOw, dTry, dCpy, dRaise, dRetO, dSetP, dSetS, dSetF, dSeq, dIf, dNext, dCall, dCallF, dB, dBin, dCons, dNil, dTup, dLst, dV, dC, dTV, onB, dTAnd, dTOr, dTNot, dAnd, dOr, dNot, dIfE, dIsN, dNotN, isN, dSl, dSlF, dNoPart, dPart, dPar, dParS, dAsg, dgN, dgT, dgCons, dgNil, dFE, dIsi, dListF, dNeg, dRev, dFrz, dApp, dAppS, dIns, dExtend, dClear, dReverse, dPop, oIx, oI, oIC, add_ii, add_ss, add_ll, add_tt, oSubI, oMulU, oMulI, oFd, oMd, oPw, oLt, oLe, oGt, oGe, oEq, oNe, getF, setF, Cl.d, getS, setS, purF_nil, purF_cons, purH, allF_nil, allF_cons, allH, rho0, endsOf, scalD, len_l, len_t, len_s, bAbs, bInt, bIntU, tup_l, tup_t, true_and, and_true, Option.some.injEq, exists_eq_left', decide_eq_true_eq, Bool.not_eq_true', decide_eq_false_iff_not, it_eQ0, it_eQ1, it_eP0, it_eP1, it_eS0, it_eS1, fits_eQ, fits_eP, fits_eS, eqv_eQ, eqv_eP, eqv_eS, eqv_int, eqv_bool, shp_int, shp_bool, shp_none, shp_eQ, shp_eP, shp_eS, dCont, dBreak, dXi, dSetG, dAppG, oIsB, oNotB, dTx, pJoin, pSplit, pPart, pStarts, bStr, bIntS, dFmt, dJs, ↓reduceIte, nsp_none, nsp_bool, nsp_int, nsp_str, nsp_list, nsp_tuple, nsp_eQ, nsp_eP, nsp_eS, dat_pu, dat_ow, seqD_l, seqD_t, not_true_eq_false, Bool.true_eq_false, Bool.not_not, List.length_cons, List.length_nil, mkP, mkS, fits_list, fits_tuple, isIntD, isBoolD, isListD, isStrD, isTupD, Bool.not_true, Bool.not_false, Bool.false_eq_true, it_l0, it_l1, it_l2, it_t0, it_t1, it_t2, shp_ps, shp_pt, shp_ss, shp_is, seqD_eQ, seqD_eP, seqD_eS, walkD_eP, walkD_eS, walkD_l, walkD_t]
    exact ⟨u, ls, rfl, ok, hd, hl, h⟩
  | _ => cases hc
theorem rd_Both__holds (n : Nat) (ds : List Dt) (Φ : Slot → Prop) (Ξ : XD → Prop) (h : onC "Both" (spr_holds (n + 1)) ds Φ Ξ) : d_Both__holds n (endsOf Φ Ξ) (rho0 N_Both__holds ds) := by
  obtain ⟨⟨d, r, e, hc⟩, t, ls, rfl, ok, hd, hl, h⟩ := h
  cases e
  cases t with
  | and a b =>
    obtain ⟨c1, hm1, hu1⟩ := cls_S a
    obtain ⟨c2, hm2, hu2⟩ := cls_S b
    have hda : dep a ≤ n := by simp only [dep] at hd; omega
    have hdb : dep b ≤ n := by simp only [dep] at hd; omega
    simp only [d_Both__holds, N_Both__holds, dRet, dRetF, dSetX, dCallX, dRetX, noOw, dTry, dCpy, dRaise, dRetO, dSetP, dSetS, dSetF, dSeq, dIf, dNext, dCall, dCallF, dB, dBin, dCons, dNil, dTup, dLst, dV, dC, dTV, onB, dTAnd, dTOr, dTNot, dAnd, dOr, dNot, dIfE, dIsN, dNotN, isN, dSl, dSlF, dNoPart, dPart, dPar, dParS, dAsg, dgN, dgT, dgCons, dgNil, dFE, dIsi, dListF, dNeg, dRev, dFrz, dApp, dAppS, dIns, dExtend, dClear, dReverse, dPop, oIx, oI, oIC, add_ii, add_ss, add_ll, add_tt, oSubI, oMulU, oMulI, oFd, oMd, oPw, oLt, oLe, oGt, oGe, oEq, oNe, getF, setF, Cl.d, getS, setS, purF_nil, purF_cons, purH, allF_nil, allF_cons, allH, rho0, endsOf, scalD, len_l, len_t, len_s, bAbs, bInt, bIntU, tup_l, tup_t, true_and, and_true, Option.some.injEq, exists_eq_left', decide_eq_true_eq, Bool.not_eq_true', decide_eq_false_iff_not, it_eQ0, it_eQ1, it_eP0, it_eP1, it_eS0, it_eS1, fits_eQ, fits_eP, fits_eS, eqv_eQ, eqv_eP, eqv_eS, eqv_int, eqv_bool, shp_int, shp_bool, shp_none, shp_eQ, shp_eP, shp_eS, dCont, dBreak, dXi, dSetG, dAppG, oIsB, oNotB, dTx, pJoin, pSplit, pPart, pStarts, bStr, bIntS, dFmt, dJs, ↓reduceIte, nsp_none, nsp_bool, nsp_int, nsp_str, nsp_list, nsp_tuple, nsp_eQ, nsp_eP, nsp_eS, dat_pu, dat_ow, seqD_l, seqD_t, not_true_eq_false, Bool.true_eq_false, Bool.not_not, List.length_cons, List.length_nil, mkP, mkS, fits_list, fits_tuple, isIntD, isBoolD, isListD, isStrD, isTupD, Bool.not_true, Bool.not_false, Bool.false_eq_true, it_l0, it_l1, it_l2, it_t0, it_t1, it_t2, shp_ps, shp_pt, shp_ss, shp_is, seqD_eQ, seqD_eP, seqD_eS, walkD_eP, walkD_eS, walkD_l, walkD_t]
    refine ⟨eS a, c1, ⟨_, "Both", rfl, rfl, by simp, rfl⟩, hu1, hm1, no_holds a, ?_⟩
    simp only [dRet, dRetF, dSetX, dCallX, dRetX, noOw, dTry, dCpy, dRaise, dRetO, dSetP, dSetS, dSetF, dSeq, dIf, dNext, dCall, dCallF, dB, dBin, dCons, dNil, dTup, dLst, dV, dC, dTV, onB, dTAnd, dTOr, dTNot, dAnd, dOr, dNot, dIfE, dIsN, dNotN, isN, dSl, dSlF, dNoPart, dPart, dPar, dParS, dAsg, dgN, dgT, dgCons, dgNil, dFE, dIsi, dListF, dNeg, dRev, dFrz, dApp, dAppS, dIns, dExtend, dClear, dReverse, dPop, oIx, oI, oIC, add_ii, add_ss, add_ll, add_tt, oSubI, oMulU, oMulI, oFd, oMd, oPw, oLt, oLe, oGt, oGe, oEq, oNe, getF, setF, Cl.d, getS, setS, purF_nil, purF_cons, purH, allF_nil, allF_cons, allH, rho0, endsOf, scalD, len_l, len_t, len_s, bAbs, bInt, bIntU, tup_l, tup_t, true_and, and_true, Option.some.injEq, exists_eq_left', decide_eq_true_eq, Bool.not_eq_true', decide_eq_false_iff_not, it_eQ0, it_eQ1, it_eP0, it_eP1, it_eS0, it_eS1, fits_eQ, fits_eP, fits_eS, eqv_eQ, eqv_eP, eqv_eS, eqv_int, eqv_bool, shp_int, shp_bool, shp_none, shp_eQ, shp_eP, shp_eS, dCont, dBreak, dXi, dSetG, dAppG, oIsB, oNotB, dTx, pJoin, pSplit, pPart, pStarts, bStr, bIntS, dFmt, dJs, ↓reduceIte, nsp_none, nsp_bool, nsp_int, nsp_str, nsp_list, nsp_tuple, nsp_eQ, nsp_eP, nsp_eS, dat_pu, dat_ow, seqD_l, seqD_t, not_true_eq_false, Bool.true_eq_false, Bool.not_not, List.length_cons, List.length_nil, mkP, mkS, fits_list, fits_tuple, isIntD, isBoolD, isListD, isStrD, isTupD, Bool.not_true, Bool.not_false, Bool.false_eq_true, it_l0, it_l1, it_l2, it_t0, it_t1, it_t2, shp_ps, shp_pt, shp_ss, shp_is, seqD_eQ, seqD_eP, seqD_eS, walkD_eP, walkD_eS, walkD_l, walkD_t]
    refine ⟨a, ls, rfl, ok.1, hda, hl, ?_⟩
    simp only [ev] at h
    cases q : ev ls a with
    | false =>
      rw [q] at h
      simp only [dRet, dRetF, dSetX, dCallX, dRetX, noOw, dTry, dCpy, dRaise, dRetO, dSetP, dSetS, dSetF, dSeq, dIf, dNext, dCall, dCallF, dB, dBin, dCons, dNil, dTup, dLst, dV, dC, dTV, onB, dTAnd, dTOr, dTNot, dAnd, dOr, dNot, dIfE, dIsN, dNotN, isN, dSl, dSlF, dNoPart, dPart, dPar, dParS, dAsg, dgN, dgT, dgCons, dgNil, dFE, dIsi, dListF, dNeg, dRev, dFrz, dApp, dAppS, dIns, dExtend, dClear, dReverse, dPop, oIx, oI, oIC, add_ii, add_ss, add_ll, add_tt, oSubI, oMulU, oMulI, oFd, oMd, oPw, oLt, oLe, oGt, oGe, oEq, oNe, getF, setF, Cl.d, getS, setS, purF_nil, purF_cons, purH, allF_nil, allF_cons, allH, rho0, endsOf, scalD, len_l, len_t, len_s, bAbs, bInt, bIntU, tup_l, tup_t, true_and, and_true, Option.some.injEq, exists_eq_left', decide_eq_true_eq, Bool.not_eq_true', decide_eq_false_iff_not, it_eQ0, it_eQ1, it_eP0, it_eP1, it_eS0, it_eS1, fits_eQ, fits_eP, fits_eS, eqv_eQ, eqv_eP, eqv_eS, eqv_int, eqv_bool, shp_int, shp_bool, shp_none, shp_eQ, shp_eP, shp_eS, dCont, dBreak, dXi, dSetG, dAppG, oIsB, oNotB, dTx, pJoin, pSplit, pPart, pStarts, bStr, bIntS, dFmt, dJs, ↓reduceIte, nsp_none, nsp_bool, nsp_int, nsp_str, nsp_list, nsp_tuple, nsp_eQ, nsp_eP, nsp_eS, dat_pu, dat_ow, seqD_l, seqD_t, not_true_eq_false, Bool.true_eq_false, Bool.not_not, List.length_cons, List.length_nil, mkP, mkS, fits_list, fits_tuple, isIntD, isBoolD, isListD, isStrD, isTupD, Bool.not_true, Bool.not_false, Bool.false_eq_true, it_l0, it_l1, it_l2, it_t0, it_t1, it_t2, shp_ps, shp_pt, shp_ss, shp_is, seqD_eQ, seqD_eP, seqD_eS, walkD_eP, walkD_eS, walkD_l, walkD_t]
      exact h
    | true =>
      rw [q] at h
      simp only [dRet, dRetF, dSetX, dCallX, dRetX, noOw, dTry, dCpy, dRaise, dRetO, dSetP, dSetS, dSetF, dSeq, dIf, dNext, dCall, dCallF, dB, dBin, dCons, dNil, dTup, dLst, dV, dC, dTV, onB, dTAnd, dTOr, dTNot, dAnd, dOr, dNot, dIfE, dIsN, dNotN, isN, dSl, dSlF, dNoPart, dPart, dPar, dParS, dAsg, dgN, dgT, dgCons, dgNil, dFE, dIsi, dListF, dNeg, dRev, dFrz, dApp, dAppS, dIns, dExtend, dClear, dReverse, dPop, oIx, oI, oIC, add_ii, add_ss, add_ll, add_tt, oSubI, oMulU, oMulI, oFd, oMd, oPw, oLt, oLe, oGt, oGe, oEq, oNe, getF, setF, Cl.d, getS, setS, purF_nil, purF_cons, purH, allF_nil, allF_cons, allH, rho0, endsOf, scalD, len_l, len_t, len_s, bAbs, bInt, bIntU, tup_l, tup_t, true_and, and_true, Option.some.injEq, exists_eq_left', decide_eq_true_eq, Bool.not_eq_true', decide_eq_false_iff_not, it_eQ0, it_eQ1, it_eP0, it_eP1, it_eS0, it_eS1, fits_eQ, fits_eP, fits_eS, eqv_eQ, eqv_eP, eqv_eS, eqv_int, eqv_bool, shp_int, shp_bool, shp_none, shp_eQ, shp_eP, shp_eS, dCont, dBreak, dXi, dSetG, dAppG, oIsB, oNotB, dTx, pJoin, pSplit, pPart, pStarts, bStr, bIntS, dFmt, dJs, ↓reduceIte, nsp_none, nsp_bool, nsp_int, nsp_str, nsp_list, nsp_tuple, nsp_eQ, nsp_eP, nsp_eS, dat_pu, dat_ow, seqD_l, seqD_t, not_true_eq_false, Bool.true_eq_false, Bool.not_not, List.length_cons, List.length_nil, mkP, mkS, fits_list, fits_tuple, isIntD, isBoolD, isListD, isStrD, isTupD, Bool.not_true, Bool.not_false, Bool.false_eq_true, it_l0, it_l1, it_l2, it_t0, it_t1, it_t2, shp_ps, shp_pt, shp_ss, shp_is, seqD_eQ, seqD_eP, seqD_eS, walkD_eP, walkD_eS, walkD_l, walkD_t]
      refine ⟨eS b, c2, ⟨_, "Both", rfl, rfl, by simp, rfl⟩, hu2, hm2, no_holds b, ?_⟩
      simp only [dRet, dRetF, dSetX, dCallX, dRetX, noOw, dTry, dCpy, dRaise, dRetO, dSetP, dSetS, dSetF, dSeq, dIf, dNext, dCall, dCallF, dB, dBin, dCons, dNil, dTup, dLst, dV, dC, dTV, onB, dTAnd, dTOr, dTNot, dAnd, dOr, dNot, dIfE, dIsN, dNotN, isN, dSl, dSlF, dNoPart, dPart, dPar, dParS, dAsg, dgN, dgT, dgCons, dgNil, dFE, dIsi, dListF, dNeg, dRev, dFrz, dApp, dAppS, dIns, dExtend, dClear, dReverse, dPop, oIx, oI, oIC, add_ii, add_ss, add_ll, add_tt, oSubI, oMulU, oMulI, oFd, oMd, oPw, oLt, oLe, oGt, oGe, oEq, oNe, getF, setF, Cl.d, getS, setS, purF_nil, purF_cons, purH, allF_nil, allF_cons, allH, rho0, endsOf, scalD, len_l, len_t, len_s, bAbs, bInt, bIntU, tup_l, tup_t, true_and, and_true, Option.some.injEq, exists_eq_left', decide_eq_true_eq, Bool.not_eq_true', decide_eq_false_iff_not, it_eQ0, it_eQ1, it_eP0, it_eP1, it_eS0, it_eS1, fits_eQ, fits_eP, fits_eS, eqv_eQ, eqv_eP, eqv_eS, eqv_int, eqv_bool, shp_int, shp_bool, shp_none, shp_eQ, shp_eP, shp_eS, dCont, dBreak, dXi, dSetG, dAppG, oIsB, oNotB, dTx, pJoin, pSplit, pPart, pStarts, bStr, bIntS, dFmt, dJs, ↓reduceIte, nsp_none, nsp_bool, nsp_int, nsp_str, nsp_list, nsp_tuple, nsp_eQ, nsp_eP, nsp_eS, dat_pu, dat_ow, seqD_l, seqD_t, not_true_eq_false, Bool.true_eq_false, Bool.not_not, List.length_cons, List.length_nil, mkP, mkS, fits_list, fits_tuple, isIntD, isBoolD, isListD, isStrD, isTupD, Bool.not_true, Bool.not_false, Bool.false_eq_true, it_l0, it_l1, it_l2, it_t0, it_t1, it_t2, shp_ps, shp_pt, shp_ss, shp_is, seqD_eQ, seqD_eP, seqD_eS, walkD_eP, walkD_eS, walkD_l, walkD_t]
      exact ⟨b, ls, rfl, ok.2, hdb, hl, h⟩
  | _ => cases hc
theorem rd_Either__holds (n : Nat) (ds : List Dt) (Φ : Slot → Prop) (Ξ : XD → Prop) (h : onC "Either" (spr_holds (n + 1)) ds Φ Ξ) : d_Either__holds n (endsOf Φ Ξ) (rho0 N_Either__holds ds) := by
  obtain ⟨⟨d, r, e, hc⟩, t, ls, rfl, ok, hd, hl, h⟩ := h
  cases e
  cases t with
  | or a b =>
    obtain ⟨c1, hm1, hu1⟩ := cls_S a
    obtain ⟨c2, hm2, hu2⟩ := cls_S b
    have hda : dep a ≤ n := by simp only [dep] at hd; omega
    have hdb : dep b ≤ n := by simp only [dep] at hd; omega
    simp only [d_Either__holds, N_Either__holds, dRet, dRetF, dSetX, dCallX, dRetX, noOw, dTry, dCpy, dRaise, dRetO, dSetP, dSetS, dSetF, dSeq, dIf, dNext, dCall, dCallF, dB, dBin, dCons, dNil, dTup, dLst, dV, dC, dTV, onB, dTAnd, dTOr, dTNot, dAnd, dOr, dNot, dIfE, dIsN, dNotN, isN, dSl, dSlF, dNoPart, dPart, dPar, dParS, dAsg, dgN, dgT, dgCons, dgNil, dFE, dIsi, dListF, dNeg, dRev, dFrz, dApp, dAppS, dIns, dExtend, dClear, dReverse, dPop, oIx, oI, oIC, add_ii, add_ss, add_ll, add_tt, oSubI, oMulU, oMulI, oFd, oMd, oPw, oLt, oLe, oGt, oGe, oEq, oNe, getF, setF, Cl.d, getS, setS, purF_nil, purF_cons, purH, allF_nil, allF_cons, allH, rho0, endsOf, scalD, len_l, len_t, len_s, bAbs, bInt, bIntU, tup_l, tup_t, true_and, and_true, Option.some.injEq, exists_eq_left', decide_eq_true_eq, Bool.not_eq_true', decide_eq_false_iff_not, it_eQ0, it_eQ1, it_eP0, it_eP1, it_eS0, it_eS1, fits_eQ, fits_eP, fits_eS, eqv_eQ, eqv_eP, eqv_eS, eqv_int, eqv_bool, shp_int, shp_bool, shp_none, shp_eQ, shp_eP, shp_eS, dCont, dBreak, dXi, dSetG, dAppG, oIsB, oNotB, dTx, pJoin, pSplit, pPart, pStarts, bStr, bIntS, dFmt, dJs, ↓reduceIte, nsp_none, nsp_bool, nsp_int, nsp_str, nsp_list, nsp_tuple, nsp_eQ, nsp_eP, nsp_eS, dat_pu, dat_ow, seqD_l, seqD_t, not_true_eq_false, Bool.true_eq_false, Bool.not_not, List.length_cons, List.length_nil, mkP, mkS, fits_list, fits_tuple, isIntD, isBoolD, isListD, isStrD, isTupD, Bool.not_true, Bool.not_false, Bool.false_eq_true, it_l0, it_l1, it_l2, it_t0, it_t1, it_t2, shp_ps, shp_pt, shp_ss, shp_is, seqD_eQ, seqD_eP, seqD_eS, walkD_eP, walkD_eS, walkD_l, walkD_t]
    refine ⟨eS a, c1, ⟨_, "Either", rfl, rfl, by simp, rfl⟩, hu1, hm1, no_holds a, ?_⟩
    simp only [dRet, dRetF, dSetX, dCallX, dRetX, noOw, dTry, dCpy, dRaise, dRetO, dSetP, dSetS, dSetF, dSeq, dIf, dNext, dCall, dCallF, dB, dBin, dCons, dNil, dTup, dLst, dV, dC, dTV, onB, dTAnd, dTOr, dTNot, dAnd, dOr, dNot, dIfE, dIsN, dNotN, isN, dSl, dSlF, dNoPart, dPart, dPar, dParS, dAsg, dgN, dgT, dgCons, dgNil, dFE, dIsi, dListF, dNeg, dRev, dFrz, dApp, dAppS, dIns, dExtend, dClear, dReverse, dPop, oIx, oI, oIC, add_ii, add_ss, add_ll, add_tt, oSubI, oMulU, oMulI, oFd, oMd, oPw, oLt, oLe, oGt, oGe, oEq, oNe, getF, setF, Cl.d, getS, setS, purF_nil, purF_cons, purH, allF_nil, allF_cons, allH, rho0, endsOf, scalD, len_l, len_t, len_s, bAbs, bInt, bIntU, tup_l, tup_t, true_and, and_true, Option.some.injEq, exists_eq_left', decide_eq_true_eq, Bool.not_eq_true', decide_eq_false_iff_not, it_eQ0, it_eQ1, it_eP0, it_eP1, it_eS0, it_eS1, fits_eQ, fits_eP, fits_eS, eqv_eQ, eqv_eP, eqv_eS, eqv_int, eqv_bool, shp_int, shp_bool, shp_none, shp_eQ, shp_eP, shp_eS, dCont, dBreak, dXi, dSetG, dAppG, oIsB, oNotB, dTx, pJoin, pSplit, pPart, pStarts, bStr, bIntS, dFmt, dJs, ↓reduceIte, nsp_none, nsp_bool, nsp_int, nsp_str, nsp_list, nsp_tuple, nsp_eQ, nsp_eP, nsp_eS, dat_pu, dat_ow, seqD_l, seqD_t, not_true_eq_false, Bool.true_eq_false, Bool.not_not, List.length_cons, List.length_nil, mkP, mkS, fits_list, fits_tuple, isIntD, isBoolD, isListD, isStrD, isTupD, Bool.not_true, Bool.not_false, Bool.false_eq_true, it_l0, it_l1, it_l2, it_t0, it_t1, it_t2, shp_ps, shp_pt, shp_ss, shp_is, seqD_eQ, seqD_eP, seqD_eS, walkD_eP, walkD_eS, walkD_l, walkD_t]
    refine ⟨a, ls, rfl, ok.1, hda, hl, ?_⟩
    simp only [ev] at h
    cases q : ev ls a with
    | true =>
      rw [q] at h
      simp only [dRet, dRetF, dSetX, dCallX, dRetX, noOw, dTry, dCpy, dRaise, dRetO, dSetP, dSetS, dSetF, dSeq, dIf, dNext, dCall, dCallF, dB, dBin, dCons, dNil, dTup, dLst, dV, dC, dTV, onB, dTAnd, dTOr, dTNot, dAnd, dOr, dNot, dIfE, dIsN, dNotN, isN, dSl, dSlF, dNoPart, dPart, dPar, dParS, dAsg, dgN, dgT, dgCons, dgNil, dFE, dIsi, dListF, dNeg, dRev, dFrz, dApp, dAppS, dIns, dExtend, dClear, dReverse, dPop, oIx, oI, oIC, add_ii, add_ss, add_ll, add_tt, oSubI, oMulU, oMulI, oFd, oMd, oPw, oLt, oLe, oGt, oGe, oEq, oNe, getF, setF, Cl.d, getS, setS, purF_nil, purF_cons, purH, allF_nil, allF_cons, allH, rho0, endsOf, scalD, len_l, len_t, len_s, bAbs, bInt, bIntU, tup_l, tup_t, true_and, and_true, Option.some.injEq, exists_eq_left', decide_eq_true_eq, Bool.not_eq_true', decide_eq_false_iff_not, it_eQ0, it_eQ1, it_eP0, it_eP1, it_eS0, it_eS1, fits_eQ, fits_eP, fits_eS, eqv_eQ, eqv_eP, eqv_eS, eqv_int, eqv_bool, shp_int, shp_bool, shp_none, shp_eQ, shp_eP, shp_eS, dCont, dBreak, dXi, dSetG, dAppG, oIsB, oNotB, dTx, pJoin, pSplit, pPart, pStarts, bStr, bIntS, dFmt, dJs, ↓reduceIte, nsp_none, nsp_bool, nsp_int, nsp_str, nsp_list, nsp_tuple, nsp_eQ, nsp_eP, nsp_eS, dat_pu, dat_ow, seqD_l, seqD_t, not_true_eq_false, Bool.true_eq_false, Bool.not_not, List.length_cons, List.length_nil, mkP, mkS, fits_list, fits_tuple, isIntD, isBoolD, isListD, isStrD, isTupD, Bool.not_true, Bool.not_false, Bool.false_eq_true, it_l0, it_l1, it_l2, it_t0, it_t1, it_t2, shp_ps, shp_pt, shp_ss, shp_is, seqD_eQ, seqD_eP, seqD_eS, walkD_eP, walkD_eS, walkD_l, walkD_t]
      exact h
    | false =>
      rw [q] at h
      simp only [dRet, dRetF, dSetX, dCallX, dRetX, noOw, dTry, dCpy, dRaise, dRetO, dSetP, dSetS, dSetF, dSeq, dIf, dNext, dCall, dCallF, dB, dBin, dCons, dNil, dTup, dLst, dV, dC, dTV, onB, dTAnd, dTOr, dTNot, dAnd, dOr, dNot, dIfE, dIsN, dNotN, isN, dSl, dSlF, dNoPart, dPart, dPar, dParS, dAsg, dgN, dgT, dgCons, dgNil, dFE, dIsi, dListF, dNeg, dRev, dFrz, dApp, dAppS, dIns, dExtend, dClear, dReverse, dPop, oIx, oI, oIC, add_ii, add_ss, add_ll, add_tt, oSubI, oMulU, oMulI, oFd, oMd, oPw, oLt, oLe, oGt, oGe, oEq, oNe, getF, setF, Cl.d, getS, setS, purF_nil, purF_cons, purH, allF_nil, allF_cons, allH, rho0, endsOf, scalD, len_l, len_t, len_s, bAbs, bInt, bIntU, tup_l, tup_t, true_and, and_true, Option.some.injEq, exists_eq_left', decide_eq_true_eq, Bool.not_eq_true', decide_eq_false_iff_not, it_eQ0, it_eQ1, it_eP0, it_eP1, it_eS0, it_eS1, fits_eQ, fits_eP, fits_eS, eqv_eQ, eqv_eP, eqv_eS, eqv_int, eqv_bool, shp_int, shp_bool, shp_none, shp_eQ, shp_eP, shp_eS, dCont, dBreak, dXi, dSetG, dAppG, oIsB, oNotB, dTx, pJoin, pSplit, pPart, pStarts, bStr, bIntS, dFmt, dJs, ↓reduceIte, nsp_none, nsp_bool, nsp_int, nsp_str, nsp_list, nsp_tuple, nsp_eQ, nsp_eP, nsp_eS, dat_pu, dat_ow, seqD_l, seqD_t, not_true_eq_false, Bool.true_eq_false, Bool.not_not, List.length_cons, List.length_nil, mkP, mkS, fits_list, fits_tuple, isIntD, isBoolD, isListD, isStrD, isTupD, Bool.not_true, Bool.not_false, Bool.false_eq_true, it_l0, it_l1, it_l2, it_t0, it_t1, it_t2, shp_ps, shp_pt, shp_ss, shp_is, seqD_eQ, seqD_eP, seqD_eS, walkD_eP, walkD_eS, walkD_l, walkD_t]
      refine ⟨eS b, c2, ⟨_, "Either", rfl, rfl, by simp, rfl⟩, hu2, hm2, no_holds b, ?_⟩
      simp only [dRet, dRetF, dSetX, dCallX, dRetX, noOw, dTry, dCpy, dRaise, dRetO, dSetP, dSetS, dSetF, dSeq, dIf, dNext, dCall, dCallF, dB, dBin, dCons, dNil, dTup, dLst, dV, dC, dTV, onB, dTAnd, dTOr, dTNot, dAnd, dOr, dNot, dIfE, dIsN, dNotN, isN, dSl, dSlF, dNoPart, dPart, dPar, dParS, dAsg, dgN, dgT, dgCons, dgNil, dFE, dIsi, dListF, dNeg, dRev, dFrz, dApp, dAppS, dIns, dExtend, dClear, dReverse, dPop, oIx, oI, oIC, add_ii, add_ss, add_ll, add_tt, oSubI, oMulU, oMulI, oFd, oMd, oPw, oLt, oLe, oGt, oGe, oEq, oNe, getF, setF, Cl.d, getS, setS, purF_nil, purF_cons, purH, allF_nil, allF_cons, allH, rho0, endsOf, scalD, len_l, len_t, len_s, bAbs, bInt, bIntU, tup_l, tup_t, true_and, and_true, Option.some.injEq, exists_eq_left', decide_eq_true_eq, Bool.not_eq_true', decide_eq_false_iff_not, it_eQ0, it_eQ1, it_eP0, it_eP1, it_eS0, it_eS1, fits_eQ, fits_eP, fits_eS, eqv_eQ, eqv_eP, eqv_eS, eqv_int, eqv_bool, shp_int, shp_bool, shp_none, shp_eQ, shp_eP, shp_eS, dCont, dBreak, dXi, dSetG, dAppG, oIsB, oNotB, dTx, pJoin, pSplit, pPart, pStarts, bStr, bIntS, dFmt, dJs, ↓reduceIte, nsp_none, nsp_bool, nsp_int, nsp_str, nsp_list, nsp_tuple, nsp_eQ, nsp_eP, nsp_eS, dat_pu, dat_ow, seqD_l, seqD_t, not_true_eq_false, Bool.true_eq_false, Bool.not_not, List.length_cons, List.length_nil, mkP, mkS, fits_list, fits_tuple, isIntD, isBoolD, isListD, isStrD, isTupD, Bool.not_true, Bool.not_false, Bool.false_eq_true, it_l0, it_l1, it_l2, it_t0, it_t1, it_t2, shp_ps, shp_pt, shp_ss, shp_is, seqD_eQ, seqD_eP, seqD_eS, walkD_eP, walkD_eS, walkD_l, walkD_t]
      exact ⟨b, ls, rfl, ok.2, hdb, hl, h⟩
  | _ => cases hc
theorem rd_Everywhere__holds (n : Nat) (ds : List Dt) (Φ : Slot → Prop) (Ξ : XD → Prop) (h : onC "Everywhere" (spr_holds (n + 1)) ds Φ Ξ) : d_Everywhere__holds n (endsOf Φ Ξ) (rho0 N_Everywhere__holds ds) := by
  obtain ⟨⟨d, r, e, hc⟩, t, ls, rfl, ok, hd, hl, h⟩ := h
  cases e
  cases t with
  | all => exact h
  | _ => cases hc
theorem rd_Saying__holds (n : Nat) (ds : List Dt) (Φ : Slot → Prop) (Ξ : XD → Prop) (h : onC "Nowhere" (spr_holds (n + 1)) ds Φ Ξ) : d_Saying__holds n (endsOf Φ Ξ) (rho0 N_Saying__holds ds) := by
  obtain ⟨⟨d, r, e, hc⟩, t, ls, rfl, ok, hd, hl, h⟩ := h
  cases e
  cases t with
  | none => exact h
  | _ => cases hc
theorem in_ls {zs : List Str} (z : Str) : ((zs.map PyData.str).any fun x => PyData.eqv x (.str z)) = decide (z ∈ zs) := any_str zs z
theorem rd_OfLand__holds (n : Nat) (ds : List Dt) (Φ : Slot → Prop) (Ξ : XD → Prop) (h : onC "OfLand" (spr_holds (n + 1)) ds Φ Ξ) : d_OfLand__holds n (endsOf Φ Ξ) (rho0 N_OfLand__holds ds) := by
  obtain ⟨⟨d, r, e, hc⟩, t, ls, rfl, ok, hd, hl, h⟩ := h
  cases e
  cases t with
  | name z =>
    have hz : (100000 : Nat) < sizeLine := by decide
    have hl1 := hl.1
    have sz : SeqAt.shaped (.str z) = true := shp_str (PL.nm_ok ok)
    have sl : SeqAt.shaped (.list ((ls.map (·.1)).map .str)) = true := shp_strl fun y hy => by
      obtain ⟨x, hx, rfl⟩ := List.mem_map.mp hy
      exact (hl.2 x hx).1
    simp only [d_OfLand__holds, N_OfLand__holds, dRet, dRetF, dSetX, dCallX, dRetX, noOw, dTry, dCpy, dRaise, dRetO, dSetP, dSetS, dSetF, dSeq, dIf, dNext, dCall, dCallF, dB, dBin, dCons, dNil, dTup, dLst, dV, dC, dTV, onB, dTAnd, dTOr, dTNot, dAnd, dOr, dNot, dIfE, dIsN, dNotN, isN, dSl, dSlF, dNoPart, dPart, dPar, dParS, dAsg, dgN, dgT, dgCons, dgNil, dFE, dIsi, dListF, dNeg, dRev, dFrz, dApp, dAppS, dIns, dExtend, dClear, dReverse, dPop, oIx, oI, oIC, add_ii, add_ss, add_ll, add_tt, oSubI, oMulU, oMulI, oFd, oMd, oPw, oLt, oLe, oGt, oGe, oEq, oNe, getF, setF, Cl.d, getS, setS, purF_nil, purF_cons, purH, allF_nil, allF_cons, allH, rho0, endsOf, scalD, len_l, len_t, len_s, bAbs, bInt, bIntU, tup_l, tup_t, true_and, and_true, Option.some.injEq, exists_eq_left', decide_eq_true_eq, Bool.not_eq_true', decide_eq_false_iff_not, it_eQ0, it_eQ1, it_eP0, it_eP1, it_eS0, it_eS1, fits_eQ, fits_eP, fits_eS, eqv_eQ, eqv_eP, eqv_eS, eqv_int, eqv_bool, shp_int, shp_bool, shp_none, shp_eQ, shp_eP, shp_eS, dCont, dBreak, dXi, dSetG, dAppG, oIsB, oNotB, dTx, pJoin, pSplit, pPart, pStarts, bStr, bIntS, dFmt, dJs, ↓reduceIte, nsp_none, nsp_bool, nsp_int, nsp_str, nsp_list, nsp_tuple, nsp_eQ, nsp_eP, nsp_eS, dat_pu, dat_ow, seqD_l, seqD_t, not_true_eq_false, Bool.true_eq_false, Bool.not_not, List.length_cons, List.length_nil, mkP, mkS, fits_list, fits_tuple, isIntD, isBoolD, isListD, isStrD, isTupD, Bool.not_true, Bool.not_false, Bool.false_eq_true, it_l0, it_l1, it_l2, it_t0, it_t1, it_t2, shp_ps, shp_pt, shp_ss, shp_is, seqD_eQ, seqD_eP, seqD_eS, walkD_eP, walkD_eS, walkD_l, walkD_t]
    refine ⟨.str z, ⟨_, "OfLand", rfl, rfl, by simp, rfl⟩, ?_⟩
    refine dLc_mapM (xs := ls) (e := eLS) (fun Q hQ => ?_) (fun x => .str x.1) (by omega) (fun x hx Ψ hΨ => ?_) ?_
    · simp only [diSeq, dRet, dRetF, dSetX, dCallX, dRetX, noOw, dTry, dCpy, dRaise, dRetO, dSetP, dSetS, dSetF, dSeq, dIf, dNext, dCall, dCallF, dB, dBin, dCons, dNil, dTup, dLst, dV, dC, dTV, onB, dTAnd, dTOr, dTNot, dAnd, dOr, dNot, dIfE, dIsN, dNotN, isN, dSl, dSlF, dNoPart, dPart, dPar, dParS, dAsg, dgN, dgT, dgCons, dgNil, dFE, dIsi, dListF, dNeg, dRev, dFrz, dApp, dAppS, dIns, dExtend, dClear, dReverse, dPop, oIx, oI, oIC, add_ii, add_ss, add_ll, add_tt, oSubI, oMulU, oMulI, oFd, oMd, oPw, oLt, oLe, oGt, oGe, oEq, oNe, getF, setF, Cl.d, getS, setS, purF_nil, purF_cons, purH, allF_nil, allF_cons, allH, rho0, endsOf, scalD, len_l, len_t, len_s, bAbs, bInt, bIntU, tup_l, tup_t, true_and, and_true, Option.some.injEq, exists_eq_left', decide_eq_true_eq, Bool.not_eq_true', decide_eq_false_iff_not, it_eQ0, it_eQ1, it_eP0, it_eP1, it_eS0, it_eS1, fits_eQ, fits_eP, fits_eS, eqv_eQ, eqv_eP, eqv_eS, eqv_int, eqv_bool, shp_int, shp_bool, shp_none, shp_eQ, shp_eP, shp_eS, dCont, dBreak, dXi, dSetG, dAppG, oIsB, oNotB, dTx, pJoin, pSplit, pPart, pStarts, bStr, bIntS, dFmt, dJs, ↓reduceIte, nsp_none, nsp_bool, nsp_int, nsp_str, nsp_list, nsp_tuple, nsp_eQ, nsp_eP, nsp_eS, dat_pu, dat_ow, seqD_l, seqD_t, not_true_eq_false, Bool.true_eq_false, Bool.not_not, List.length_cons, List.length_nil, mkP, mkS, fits_list, fits_tuple, isIntD, isBoolD, isListD, isStrD, isTupD, Bool.not_true, Bool.not_false, Bool.false_eq_true, it_l0, it_l1, it_l2, it_t0, it_t1, it_t2, shp_ps, shp_pt, shp_ss, shp_is, seqD_eQ, seqD_eP, seqD_eS, walkD_eP, walkD_eS, walkD_l, walkD_t]
      exact hQ
    · simp only [dcN, wipeF, noneF, eLS, it_t0, fits_tuple, dRet, dRetF, dSetX, dCallX, dRetX, noOw, dTry, dCpy, dRaise, dRetO, dSetP, dSetS, dSetF, dSeq, dIf, dNext, dCall, dCallF, dB, dBin, dCons, dNil, dTup, dLst, dV, dC, dTV, onB, dTAnd, dTOr, dTNot, dAnd, dOr, dNot, dIfE, dIsN, dNotN, isN, dSl, dSlF, dNoPart, dPart, dPar, dParS, dAsg, dgN, dgT, dgCons, dgNil, dFE, dIsi, dListF, dNeg, dRev, dFrz, dApp, dAppS, dIns, dExtend, dClear, dReverse, dPop, oIx, oI, oIC, add_ii, add_ss, add_ll, add_tt, oSubI, oMulU, oMulI, oFd, oMd, oPw, oLt, oLe, oGt, oGe, oEq, oNe, getF, setF, Cl.d, getS, setS, purF_nil, purF_cons, purH, allF_nil, allF_cons, allH, rho0, endsOf, scalD, len_l, len_t, len_s, bAbs, bInt, bIntU, tup_l, tup_t, true_and, and_true, Option.some.injEq, exists_eq_left', decide_eq_true_eq, Bool.not_eq_true', decide_eq_false_iff_not, it_eQ0, it_eQ1, it_eP0, it_eP1, it_eS0, it_eS1, fits_eQ, fits_eP, fits_eS, eqv_eQ, eqv_eP, eqv_eS, eqv_int, eqv_bool, shp_int, shp_bool, shp_none, shp_eQ, shp_eP, shp_eS, dCont, dBreak, dXi, dSetG, dAppG, oIsB, oNotB, dTx, pJoin, pSplit, pPart, pStarts, bStr, bIntS, dFmt, dJs, ↓reduceIte, nsp_none, nsp_bool, nsp_int, nsp_str, nsp_list, nsp_tuple, nsp_eQ, nsp_eP, nsp_eS, dat_pu, dat_ow, seqD_l, seqD_t, not_true_eq_false, Bool.true_eq_false, Bool.not_not, List.length_cons, List.length_nil, mkP, mkS, fits_list, fits_tuple, isIntD, isBoolD, isListD, isStrD, isTupD, Bool.not_true, Bool.not_false, Bool.false_eq_true, it_l0, it_l1, it_l2, it_t0, it_t1, it_t2, shp_ps, shp_pt, shp_ss, shp_is, seqD_eQ, seqD_eP, seqD_eS, walkD_eP, walkD_eS, walkD_l, walkD_t]
      exact hΨ
    · have e : ls.map (fun x => PyData.str x.1) = (ls.map (·.1)).map .str := by rw [List.map_map]; rfl
      rw [e]
      simp only [oIn, sz, sl, in_ls, dRet, dRetF, dSetX, dCallX, dRetX, noOw, dTry, dCpy, dRaise, dRetO, dSetP, dSetS, dSetF, dSeq, dIf, dNext, dCall, dCallF, dB, dBin, dCons, dNil, dTup, dLst, dV, dC, dTV, onB, dTAnd, dTOr, dTNot, dAnd, dOr, dNot, dIfE, dIsN, dNotN, isN, dSl, dSlF, dNoPart, dPart, dPar, dParS, dAsg, dgN, dgT, dgCons, dgNil, dFE, dIsi, dListF, dNeg, dRev, dFrz, dApp, dAppS, dIns, dExtend, dClear, dReverse, dPop, oIx, oI, oIC, add_ii, add_ss, add_ll, add_tt, oSubI, oMulU, oMulI, oFd, oMd, oPw, oLt, oLe, oGt, oGe, oEq, oNe, getF, setF, Cl.d, getS, setS, purF_nil, purF_cons, purH, allF_nil, allF_cons, allH, rho0, endsOf, scalD, len_l, len_t, len_s, bAbs, bInt, bIntU, tup_l, tup_t, true_and, and_true, Option.some.injEq, exists_eq_left', decide_eq_true_eq, Bool.not_eq_true', decide_eq_false_iff_not, it_eQ0, it_eQ1, it_eP0, it_eP1, it_eS0, it_eS1, fits_eQ, fits_eP, fits_eS, eqv_eQ, eqv_eP, eqv_eS, eqv_int, eqv_bool, shp_int, shp_bool, shp_none, shp_eQ, shp_eP, shp_eS, dCont, dBreak, dXi, dSetG, dAppG, oIsB, oNotB, dTx, pJoin, pSplit, pPart, pStarts, bStr, bIntS, dFmt, dJs, ↓reduceIte, nsp_none, nsp_bool, nsp_int, nsp_str, nsp_list, nsp_tuple, nsp_eQ, nsp_eP, nsp_eS, dat_pu, dat_ow, seqD_l, seqD_t, not_true_eq_false, Bool.true_eq_false, Bool.not_not, List.length_cons, List.length_nil, mkP, mkS, fits_list, fits_tuple, isIntD, isBoolD, isListD, isStrD, isTupD, Bool.not_true, Bool.not_false, Bool.false_eq_true, it_l0, it_l1, it_l2, it_t0, it_t1, it_t2, shp_ps, shp_pt, shp_ss, shp_is, seqD_eQ, seqD_eP, seqD_eS, walkD_eP, walkD_eS, walkD_l, walkD_t]
      exact h
  | _ => cases hc
end L2.D3.SY
set_option maxHeartbeats 1000000
/-! Sayings, plainly: their texts, and how words are read. -/
namespace L2.D3.SY
open PySem PySem.Spec PyProof.Rows L2.D3
open SX (S)
abbrev cw (z : Str) : List Nat := z.cps.toList
def tx : Sy → Str
  | .name z => z
  | .sheet z => "sheet " ++ z
  | .all => "all"
  | .none => "none"
  | .not t => "not " ++ tx t
  | .and a b => "( " ++ tx a ++ " and " ++ tx b ++ " )"
  | .or a b => "( " ++ tx a ++ " or " ++ tx b ++ " )"
def tj (ws : List Str) : List Nat := TL.joinL [32] (ws.map cw)
theorem tj_one (w : Str) : tj [w] = cw w := rfl
theorem tj_cons (w : Str) {b : List Str} (h : b ≠ []) : tj (w :: b) = cw w ++ 32 :: tj b := by
  cases b with
  | nil => exact absurd rfl h
  | cons x r => rfl
theorem tj_app : ∀ {a b : List Str}, a ≠ [] → b ≠ [] → tj (a ++ b) = tj a ++ 32 :: tj b
  | [], _, h, _ => absurd rfl h
  | [w], b, _, h => tj_cons w h
  | w :: x :: r, b, _, h => by
    rw [List.cons_append, tj_cons w (by simp), tj_app (a := x :: r) (by simp) h, tj_cons w (by simp), List.append_assoc]
    rfl
theorem wds_ne (t : Sy) : wds t ≠ [] := fun h => by have := wds_pos t; rw [h] at this; exact absurd this (by decide)
theorem cw_app (a b : Str) : cw (a ++ b) = cw a ++ cw b := TL.tl_append a b
theorem cw_tx : ∀ t, cw (tx t) = tj (wds t)
  | .name z => rfl
  | .sheet z => by
    show cw ("sheet " ++ z) = tj ["sheet", z]
    rw [cw_app]
    rfl
  | .all => rfl
  | .none => rfl
  | .not t => by
    show cw ("not " ++ tx t) = tj ("not" :: wds t)
    rw [cw_app, cw_tx t, tj_cons _ (wds_ne t)]
    rfl
  | .and a b => by
    show cw ("( " ++ tx a ++ " and " ++ tx b ++ " )") = tj ("(" :: (wds a ++ ("and" : Str) :: (wds b ++ [(")" : Str)])))
    rw [tj_cons _ (by simp), tj_app (wds_ne a) (by simp), tj_cons _ (by simp), tj_app (wds_ne b) (by simp)]
    simp only [cw_app, cw_tx a, cw_tx b]
    have e1 : cw ("( " : Str) = cw ("(" : Str) ++ [32] := by decide +kernel
    have e2 : cw (" and " : Str) = 32 :: (cw ("and" : Str) ++ [32]) := by decide +kernel
    have e3 : cw (" )" : Str) = 32 :: cw (")" : Str) := by decide +kernel
    rw [e1, e2, e3, tj_one]
    simp
  | .or a b => by
    show cw ("( " ++ tx a ++ " or " ++ tx b ++ " )") = tj ("(" :: (wds a ++ ("or" : Str) :: (wds b ++ [(")" : Str)])))
    rw [tj_cons _ (by simp), tj_app (wds_ne a) (by simp), tj_cons _ (by simp), tj_app (wds_ne b) (by simp)]
    simp only [cw_app, cw_tx a, cw_tx b]
    have e1 : cw ("( " : Str) = cw ("(" : Str) ++ [32] := by decide +kernel
    have e2 : cw (" or " : Str) = 32 :: (cw ("or" : Str) ++ [32]) := by decide +kernel
    have e3 : cw (" )" : Str) = 32 :: cw (")" : Str) := by decide +kernel
    rw [e1, e2, e3, tj_one]
    simp
/-! ### lengths and signs -/
theorem nm_len {z : Str} (h : isNm z = true) : z.length ≤ 8 := by
  obtain ⟨cs, rfl, _, h2, _⟩ := PL.nm_of h
  rw [SX.S_len]
  exact h2
theorem slen (a b : Str) : (a ++ b).length = a.length + b.length := by
  rw [TL.len_tl, TL.tl_append, List.length_append, TL.len_tl a, TL.len_tl b]
theorem l_sheet : ("sheet " : Str).length = 6 := by decide +kernel
theorem l_not : ("not " : Str).length = 4 := by decide +kernel
theorem l_op : ("( " : Str).length = 2 := by decide +kernel
theorem l_and : (" and " : Str).length = 5 := by decide +kernel
theorem l_or : (" or " : Str).length = 4 := by decide +kernel
theorem l_cl : (" )" : Str).length = 2 := by decide +kernel
theorem l_all : ("all" : Str).length = 3 := by decide +kernel
theorem l_none : ("none" : Str).length = 4 := by decide +kernel
theorem tx_len : ∀ t, Ok t → (tx t).length ≤ 10 * (wds t).length
  | .name z, h => by
    have := nm_len h
    show z.length ≤ 10
    omega
  | .sheet z, h => by
    have := nm_len h
    show ("sheet " ++ z).length ≤ 20
    rw [slen, l_sheet]
    omega
  | .all, _ => by show ("all" : Str).length ≤ 10; rw [l_all]; decide
  | .none, _ => by show ("none" : Str).length ≤ 10; rw [l_none]; decide
  | .not t, h => by
    have := tx_len t h
    show ("not " ++ tx t).length ≤ 10 * ((wds t).length + 1)
    rw [slen, l_not]
    omega
  | .and a b, h => by
    have := tx_len a h.1
    have := tx_len b h.2
    simp only [tx, wds, slen, l_op, l_and, l_cl, List.length_cons, List.length_append, List.length_nil]
    omega
  | .or a b, h => by
    have := tx_len a h.1
    have := tx_len b h.2
    simp only [tx, wds, slen, l_op, l_or, l_cl, List.length_cons, List.length_append, List.length_nil]
    omega
/-- words of a saying have no blanks -/
theorem nm_noblank {z : Str} (h : isNm z = true) : 32 ∉ cw z := by
  obtain ⟨cs, rfl, _, _, h3, _⟩ := PL.nm_of h
  intro hc
  have := h3 32 hc
  revert this
  decide
theorem wd_ok : ∀ t, Ok t → ∀ w ∈ wds t, 32 ∉ cw w ∧ PyData.strOk w = true ∧ w.length ≤ 8
  | .name z, h, w, hw => by
    rw [List.mem_singleton.mp hw]
    exact ⟨nm_noblank h, PL.nm_ok h, nm_len h⟩
  | .sheet z, h, w, hw => by
    rcases List.mem_cons.mp hw with rfl | hw
    · exact ⟨by decide +kernel, by decide +kernel, by decide +kernel⟩
    · rw [List.mem_singleton.mp hw]
      exact ⟨nm_noblank h, PL.nm_ok h, nm_len h⟩
  | .all, _, w, hw => by rw [List.mem_singleton.mp hw]; exact ⟨by decide +kernel, by decide +kernel, by decide +kernel⟩
  | .none, _, w, hw => by rw [List.mem_singleton.mp hw]; exact ⟨by decide +kernel, by decide +kernel, by decide +kernel⟩
  | .not t, h, w, hw => by
    rcases List.mem_cons.mp hw with rfl | hw
    · exact ⟨by decide +kernel, by decide +kernel, by decide +kernel⟩
    · exact wd_ok t h w hw
  | .and a b, h, w, hw => by
    rcases List.mem_cons.mp hw with rfl | hw
    · exact ⟨by decide +kernel, by decide +kernel, by decide +kernel⟩
    · rcases List.mem_append.mp hw with hw | hw
      · exact wd_ok a h.1 w hw
      · rcases List.mem_cons.mp hw with rfl | hw
        · exact ⟨by decide +kernel, by decide +kernel, by decide +kernel⟩
        · rcases List.mem_append.mp hw with hw | hw
          · exact wd_ok b h.2 w hw
          · rw [List.mem_singleton.mp hw]; exact ⟨by decide +kernel, by decide +kernel, by decide +kernel⟩
  | .or a b, h, w, hw => by
    rcases List.mem_cons.mp hw with rfl | hw
    · exact ⟨by decide +kernel, by decide +kernel, by decide +kernel⟩
    · rcases List.mem_append.mp hw with hw | hw
      · exact wd_ok a h.1 w hw
      · rcases List.mem_cons.mp hw with rfl | hw
        · exact ⟨by decide +kernel, by decide +kernel, by decide +kernel⟩
        · rcases List.mem_append.mp hw with hw | hw
          · exact wd_ok b h.2 w hw
          · rw [List.mem_singleton.mp hw]; exact ⟨by decide +kernel, by decide +kernel, by decide +kernel⟩
/-- a saying's text, split -/
theorem split_tx (t : Sy) (h : Ok t) : Txt.split (tx t) " " = wds t := by
  have e : (" " : Str) = S [32] := rfl
  rw [e, ← SX.S_tl (tx t), SX.split_S (by simp) (by decide)]
  have e2 : (tx t).cps.toList = tj (wds t) := cw_tx t
  rw [e2]
  unfold tj
  rw [TL.spl_join (by simpa using wds_ne t) fun p hp => ?_]
  · rw [List.map_map]
    conv => rhs; rw [← List.map_id (wds t)]
    refine List.map_congr_left fun w _ => ?_
    exact SX.S_tl w
  · obtain ⟨w, hw, rfl⟩ := List.mem_map.mp hp
    exact (wd_ok t h w hw).1
/-! ### reading -/
def wAt (ws : List Str) (k : Nat) : Str := ws.getD k ""
def pr : Nat → List Str → Nat → Option (Sy × Nat)
  | 0, _, _ => none
  | n + 1, ws, k =>
    if wAt ws k = "all" then some (.all, k + 1)
    else if wAt ws k = "none" then some (.none, k + 1)
    else if wAt ws k = "not" then match pr n ws (k + 1) with
      | some (t, e) => some (.not t, e)
      | none => none
    else if wAt ws k = "(" then match pr n ws (k + 1) with
      | some (a, m) => if wAt ws m = "and" ∨ wAt ws m = "or" then match pr n ws (m + 1) with
        | some (b, e) => if wAt ws e = ")" then some (if wAt ws m = "and" then .and a b else .or a b, e + 1) else none
        | none => none
        else none
      | none => none
    else if wAt ws k = "sheet" ∧ isNm (wAt ws (k + 1)) = true then some (.sheet (wAt ws (k + 1)), k + 2)
    else if isNm (wAt ws k) = true then some (.name (wAt ws k), k + 1)
    else none
theorem wAt0 (pre : List Str) (w : Str) (post : List Str) : wAt (pre ++ w :: post) pre.length = w := by
  unfold wAt
  rw [List.getD_eq_getElem?_getD, List.getElem?_append_right (Nat.le_refl _), Nat.sub_self]
  rfl
theorem wAt1 (pre : List Str) (w x : Str) (post : List Str) : wAt (pre ++ w :: x :: post) (pre.length + 1) = x := by
  have := wAt0 (pre ++ [w]) x post
  rw [List.append_assoc, List.length_append] at this
  exact this
/-- what is written is read back -/
theorem pr_wds : ∀ (t : Sy) (n : Nat) (p q : List Str), Ok t → dep t ≤ n → pr n (p ++ (wds t ++ q)) p.length = some (t, p.length + (wds t).length)
  | t, 0, p, q, _, hd => absurd hd (by cases t <;> simp [dep])
  | .name z, n + 1, p, q, h, hd => by
    have e : wAt (p ++ (wds (.name z) ++ q)) p.length = z := wAt0 p z q
    obtain ⟨n1, n2, n3, n4, n5, _⟩ := nm_words h
    have h : isNm z = true := h
    unfold pr
    simp only [e, n1, n2, n3, n4, n5, h, if_false, if_true, false_and]
    rfl
  | .sheet z, n + 1, p, q, h, hd => by
    have e : wAt (p ++ (wds (.sheet z) ++ q)) p.length = "sheet" := wAt0 p "sheet" (z :: q)
    have e2 : wAt (p ++ (wds (.sheet z) ++ q)) (p.length + 1) = z := wAt1 p "sheet" z q
    have h : isNm z = true := h
    unfold pr
    rw [e, e2, if_neg (by decide), if_neg (by decide), if_neg (by decide), if_neg (by decide), if_pos ⟨rfl, h⟩]
    rfl
  | .all, n + 1, p, q, h, hd => by
    have e : wAt (p ++ (wds .all ++ q)) p.length = "all" := wAt0 p "all" q
    unfold pr
    rw [e, if_pos rfl]
    rfl
  | .none, n + 1, p, q, h, hd => by
    have e : wAt (p ++ (wds .none ++ q)) p.length = "none" := wAt0 p "none" q
    unfold pr
    rw [e, if_neg (by decide), if_pos rfl]
    rfl
  | .not t, n + 1, p, q, h, hd => by
    have e : wAt (p ++ (wds (.not t) ++ q)) p.length = "not" := wAt0 p "not" (wds t ++ q)
    have ih := pr_wds t n (p ++ [("not" : Str)]) q h (by simp only [dep] at hd; omega)
    have ea : p ++ (wds (.not t) ++ q) = p ++ [("not" : Str)] ++ (wds t ++ q) := by simp [wds]
    have el : (p ++ [("not" : Str)]).length = p.length + 1 := by simp
    rw [el] at ih
    unfold pr
    rw [e, if_neg (by decide), if_neg (by decide), if_pos rfl, ea, ih]
    simp only [wds, List.length_cons]
    congr 2
    omega
  | .and a b, n + 1, p, q, h, hd => by
    have e : wAt (p ++ (wds (.and a b) ++ q)) p.length = "(" := wAt0 p "(" _
    have hd1 : dep a ≤ n := by simp only [dep] at hd; omega
    have hd2 : dep b ≤ n := by simp only [dep] at hd; omega
    have i1 := pr_wds a n (p ++ [("(" : Str)]) (("and" : Str) :: (wds b ++ ((")" : Str) :: q))) h.1 hd1
    have i2 := pr_wds b n (p ++ [("(" : Str)] ++ wds a ++ [("and" : Str)]) ((")" : Str) :: q) h.2 hd2
    have w1 := wAt0 (p ++ [("(" : Str)] ++ wds a) "and" (wds b ++ ((")" : Str) :: q))
    have w2 := wAt0 (p ++ [("(" : Str)] ++ wds a ++ [("and" : Str)] ++ wds b) ")" q
    have e1 : p ++ (wds (.and a b) ++ q) = p ++ [("(" : Str)] ++ (wds a ++ (("and" : Str) :: (wds b ++ ((")" : Str) :: q)))) := by simp [wds]
    have e2 : p ++ [("(" : Str)] ++ (wds a ++ (("and" : Str) :: (wds b ++ ((")" : Str) :: q)))) = p ++ [("(" : Str)] ++ wds a ++ [("and" : Str)] ++ (wds b ++ ((")" : Str) :: q)) := by simp
    have e3 : p ++ [("(" : Str)] ++ wds a ++ [("and" : Str)] ++ (wds b ++ ((")" : Str) :: q)) = p ++ [("(" : Str)] ++ wds a ++ (("and" : Str) :: (wds b ++ ((")" : Str) :: q))) := by simp
    have e4 : p ++ [("(" : Str)] ++ wds a ++ [("and" : Str)] ++ (wds b ++ ((")" : Str) :: q)) = p ++ [("(" : Str)] ++ wds a ++ [("and" : Str)] ++ wds b ++ ((")" : Str) :: q) := by simp
    rw [← e3] at w1
    rw [← e4] at w2
    have l1 : (p ++ [("(" : Str)]).length = p.length + 1 := by simp
    have l2 : (p ++ [("(" : Str)] ++ wds a).length = p.length + 1 + (wds a).length := by simp only [List.length_append, List.length_cons, List.length_nil]
    have l3 : (p ++ [("(" : Str)] ++ wds a ++ [("and" : Str)]).length = p.length + 1 + (wds a).length + 1 := by simp only [List.length_append, List.length_cons, List.length_nil]
    have l4 : (p ++ [("(" : Str)] ++ wds a ++ [("and" : Str)] ++ wds b).length = p.length + 1 + (wds a).length + 1 + (wds b).length := by simp only [List.length_append, List.length_cons, List.length_nil]
    rw [l1, e2] at i1
    rw [l3] at i2
    rw [l2] at w1
    rw [l4] at w2
    unfold pr
    rw [e, if_neg (by decide), if_neg (by decide), if_neg (by decide), if_pos rfl, e1, e2, i1]
    simp only [w1, true_or, if_true, i2, w2]
    simp only [wds, List.length_cons, List.length_append, List.length_nil]
    congr 2
    omega
  | .or a b, n + 1, p, q, h, hd => by
    have e : wAt (p ++ (wds (.or a b) ++ q)) p.length = "(" := wAt0 p "(" _
    have hd1 : dep a ≤ n := by simp only [dep] at hd; omega
    have hd2 : dep b ≤ n := by simp only [dep] at hd; omega
    have i1 := pr_wds a n (p ++ [("(" : Str)]) (("or" : Str) :: (wds b ++ ((")" : Str) :: q))) h.1 hd1
    have i2 := pr_wds b n (p ++ [("(" : Str)] ++ wds a ++ [("or" : Str)]) ((")" : Str) :: q) h.2 hd2
    have w1 := wAt0 (p ++ [("(" : Str)] ++ wds a) "or" (wds b ++ ((")" : Str) :: q))
    have w2 := wAt0 (p ++ [("(" : Str)] ++ wds a ++ [("or" : Str)] ++ wds b) ")" q
    have e1 : p ++ (wds (.or a b) ++ q) = p ++ [("(" : Str)] ++ (wds a ++ (("or" : Str) :: (wds b ++ ((")" : Str) :: q)))) := by simp [wds]
    have e2 : p ++ [("(" : Str)] ++ (wds a ++ (("or" : Str) :: (wds b ++ ((")" : Str) :: q)))) = p ++ [("(" : Str)] ++ wds a ++ [("or" : Str)] ++ (wds b ++ ((")" : Str) :: q)) := by simp
    have e3 : p ++ [("(" : Str)] ++ wds a ++ [("or" : Str)] ++ (wds b ++ ((")" : Str) :: q)) = p ++ [("(" : Str)] ++ wds a ++ (("or" : Str) :: (wds b ++ ((")" : Str) :: q))) := by simp
    have e4 : p ++ [("(" : Str)] ++ wds a ++ [("or" : Str)] ++ (wds b ++ ((")" : Str) :: q)) = p ++ [("(" : Str)] ++ wds a ++ [("or" : Str)] ++ wds b ++ ((")" : Str) :: q) := by simp
    rw [← e3] at w1
    rw [← e4] at w2
    have l1 : (p ++ [("(" : Str)]).length = p.length + 1 := by simp
    have l2 : (p ++ [("(" : Str)] ++ wds a).length = p.length + 1 + (wds a).length := by simp only [List.length_append, List.length_cons, List.length_nil]
    have l3 : (p ++ [("(" : Str)] ++ wds a ++ [("or" : Str)]).length = p.length + 1 + (wds a).length + 1 := by simp only [List.length_append, List.length_cons, List.length_nil]
    have l4 : (p ++ [("(" : Str)] ++ wds a ++ [("or" : Str)] ++ wds b).length = p.length + 1 + (wds a).length + 1 + (wds b).length := by simp only [List.length_append, List.length_cons, List.length_nil]
    rw [l1, e2] at i1
    rw [l3] at i2
    rw [l2] at w1
    rw [l4] at w2
    unfold pr
    have no : ¬ ("or" : Str) = "and" := by decide
    rw [e, if_neg (by decide), if_neg (by decide), if_neg (by decide), if_pos rfl, e1, e2, i1]
    simp only [w1, or_true, if_true, i2, w2, no, if_false]
    simp only [wds, List.length_cons, List.length_append, List.length_nil]
    congr 2
    omega
end L2.D3.SY
set_option maxHeartbeats 1000000
/-! Texts of numbers, points, rings: written and read, over lists of signs. -/
namespace L2.D3
open PySem
open SX (S)
/-! ### whole numbers -/
/-! ### numbers -/
/-! ### points -/
/-! ### rings -/
end L2.D3
set_option maxHeartbeats 1000000
/-! Rings written and read: the program's defs. -/
namespace L2.D3
open PySem PySem.Spec PyProof.Rows
open SX (S)
/-! ### words of bounded size -/
def OkW (w : List Nat) : Prop := w.length ≤ 100000 ∧ ∀ c ∈ w, c < 1114112
theorem OkW.str {w : List Nat} (h : OkW w) : PyData.strOk (S w) = true := by
  unfold PyData.strOk
  rw [← Array.all_toList]
  exact List.all_eq_true.mpr fun c hc => decide_eq_true (h.2 c (by simpa using hc))
theorem OkW.sub {w v : List Nat} (h : OkW w) (hl : v.length ≤ w.length) (hm : ∀ c ∈ v, c ∈ w) : OkW v := ⟨Nat.le_trans hl h.1, fun c hc => h.2 c (hm c hc)⟩
theorem OkW.of {z : Str} (h : okD (.str z)) : ∃ w, z = S w ∧ OkW w := by
  simp only [okD] at h
  refine ⟨z.cps.toList, (SX.S_tl z).symm, ?_, fun c hc => ?_⟩
  · have := h.1; unfold Str.length at this; simpa using this
  · have := h.2
    unfold PyData.strOk at this
    rw [← Array.all_toList, List.all_eq_true] at this
    exact of_decide_eq_true (this c hc)
theorem OkW.ok {w : List Nat} (h : OkW w) : okD (.str (S w)) := by
  simp only [okD]
  exact ⟨by rw [SX.S_len]; exact h.1, h.str⟩
theorem spl_sub (s : Nat) : ∀ (l acc : List Nat), ∀ p ∈ TL.spl [s] 0 acc l, p.length ≤ acc.length + l.length ∧ ∀ c ∈ p, c ∈ acc ∨ c ∈ l
  | [], acc, p, hp => by
    rw [TL.spl_nil] at hp
    rw [List.mem_singleton.mp hp]
    exact ⟨by simp, fun c hc => .inl hc⟩
  | c :: l, acc, p, hp => by
    by_cases k : TL.pre [s] (c :: l) = true
    · rw [TL.spl_hit k] at hp
      rcases List.mem_cons.mp hp with rfl | hp
      · exact ⟨by simp, fun c hc => .inl hc⟩
      · obtain ⟨i1, i2⟩ := spl_sub s l [] p hp
        simp only [List.length_nil, Nat.zero_add] at i1
        refine ⟨by rw [List.length_cons]; omega, fun d hd => ?_⟩
        rcases i2 d hd with z | z
        · cases z
        · exact .inr (List.mem_cons_of_mem _ z)
    · rw [TL.spl_miss (by simpa using k)] at hp
      obtain ⟨i1, i2⟩ := spl_sub s l (acc ++ [c]) p hp
      rw [List.length_append, List.length_singleton] at i1
      refine ⟨by rw [List.length_cons]; omega, fun d hd => ?_⟩
      rcases i2 d hd with z | z
      · rcases List.mem_append.mp z with z | z
        · exact .inl z
        · exact .inr (by rw [List.mem_singleton.mp z]; exact List.mem_cons_self)
      · exact .inr (List.mem_cons_of_mem _ z)
theorem spl_len (s : Nat) : ∀ (l acc : List Nat), (TL.spl [s] 0 acc l).length ≤ l.length + 1
  | [], acc => by rw [TL.spl_nil]; simp
  | c :: l, acc => by
    by_cases k : TL.pre [s] (c :: l) = true
    · rw [TL.spl_hit k]
      have := spl_len s l []
      simp only [List.length_cons] at this ⊢
      show (TL.spl [s] 0 [] l).length + 1 ≤ _
      omega
    · rw [TL.spl_miss (by simpa using k)]
      have := spl_len s l (acc ++ [c])
      simp only [List.length_cons]
      omega
/-! ### the contracts -/
theorem OkW.nil : OkW [] := ⟨by simp, fun c hc => by cases hc⟩
theorem OkW.one {c : Nat} (h : c < 1114112) : OkW [c] := ⟨by simp, fun d hd => by rw [List.mem_singleton.mp hd]; exact h⟩
theorem OkW.drop {w : List Nat} (h : OkW w) (n : Nat) : OkW (w.drop n) := h.sub (by rw [List.length_drop]; omega) fun c hc => List.mem_of_mem_drop hc
theorem OkW.take {w : List Nat} (h : OkW w) (n : Nat) : OkW (w.take n) := h.sub (by rw [List.length_take]; omega) fun c hc => List.mem_of_mem_take hc
end L2.D3
set_option maxHeartbeats 1000000
/-! Sayings as instances: shown; words read. -/
namespace L2.D3.SY
open PySem PySem.Spec PyProof.Rows L2.D3
open SX (S)
theorem rd_OfSheet__holds (n : Nat) (ds : List Dt) (Φ : Slot → Prop) (Ξ : XD → Prop) (h : onC "OfSheet" (spr_holds (n + 1)) ds Φ Ξ) : d_OfSheet__holds n (endsOf Φ Ξ) (rho0 N_OfSheet__holds ds) := by
  obtain ⟨⟨d, r, e, hc⟩, t, ls, rfl, ok, hd, hl, h⟩ := h
  cases e
  cases t with
  | sheet z =>
    have hz : (100000 : Nat) < sizeLine := by decide
    have hl1 := hl.1
    have sz : SeqAt.shaped (.str z) = true := shp_str (PL.nm_ok ok)
    have sl : SeqAt.shaped (.list ((ls.map (·.2)).map .str)) = true := shp_strl fun y hy => by
      obtain ⟨x, hx, rfl⟩ := List.mem_map.mp hy
      exact (hl.2 x hx).2
    simp only [d_OfSheet__holds, N_OfSheet__holds, dRet, dRetF, dSetX, dCallX, dRetX, noOw, dTry, dCpy, dRaise, dRetO, dSetP, dSetS, dSetF, dSeq, dIf, dNext, dCall, dCallF, dB, dBin, dCons, dNil, dTup, dLst, dV, dC, dTV, onB, dTAnd, dTOr, dTNot, dAnd, dOr, dNot, dIfE, dIsN, dNotN, isN, dSl, dSlF, dNoPart, dPart, dPar, dParS, dAsg, dgN, dgT, dgCons, dgNil, dFE, dIsi, dListF, dNeg, dRev, dFrz, dApp, dAppS, dIns, dExtend, dClear, dReverse, dPop, oIx, oI, oIC, add_ii, add_ss, add_ll, add_tt, oSubI, oMulU, oMulI, oFd, oMd, oPw, oLt, oLe, oGt, oGe, oEq, oNe, getF, setF, Cl.d, getS, setS, purF_nil, purF_cons, purH, allF_nil, allF_cons, allH, rho0, endsOf, scalD, len_l, len_t, len_s, bAbs, bInt, bIntU, tup_l, tup_t, true_and, and_true, Option.some.injEq, exists_eq_left', decide_eq_true_eq, Bool.not_eq_true', decide_eq_false_iff_not, it_eQ0, it_eQ1, it_eP0, it_eP1, it_eS0, it_eS1, fits_eQ, fits_eP, fits_eS, eqv_eQ, eqv_eP, eqv_eS, eqv_int, eqv_bool, shp_int, shp_bool, shp_none, shp_eQ, shp_eP, shp_eS, dCont, dBreak, dXi, dSetG, dAppG, oIsB, oNotB, dTx, pJoin, pSplit, pPart, pStarts, bStr, bIntS, dFmt, dJs, ↓reduceIte, nsp_none, nsp_bool, nsp_int, nsp_str, nsp_list, nsp_tuple, nsp_eQ, nsp_eP, nsp_eS, dat_pu, dat_ow, seqD_l, seqD_t, not_true_eq_false, Bool.true_eq_false, Bool.not_not, List.length_cons, List.length_nil, mkP, mkS, fits_list, fits_tuple, isIntD, isBoolD, isListD, isStrD, isTupD, Bool.not_true, Bool.not_false, Bool.false_eq_true, it_l0, it_l1, it_l2, it_t0, it_t1, it_t2, shp_ps, shp_pt, shp_ss, shp_is, seqD_eQ, seqD_eP, seqD_eS, walkD_eP, walkD_eS, walkD_l, walkD_t]
    refine ⟨.str z, ⟨_, "OfSheet", rfl, rfl, by simp, rfl⟩, ?_⟩
    refine dLc_mapM (xs := ls) (e := eLS) (fun Q hQ => ?_) (fun x => .str x.2) (by omega) (fun x hx Ψ hΨ => ?_) ?_
    · simp only [diSeq, dRet, dRetF, dSetX, dCallX, dRetX, noOw, dTry, dCpy, dRaise, dRetO, dSetP, dSetS, dSetF, dSeq, dIf, dNext, dCall, dCallF, dB, dBin, dCons, dNil, dTup, dLst, dV, dC, dTV, onB, dTAnd, dTOr, dTNot, dAnd, dOr, dNot, dIfE, dIsN, dNotN, isN, dSl, dSlF, dNoPart, dPart, dPar, dParS, dAsg, dgN, dgT, dgCons, dgNil, dFE, dIsi, dListF, dNeg, dRev, dFrz, dApp, dAppS, dIns, dExtend, dClear, dReverse, dPop, oIx, oI, oIC, add_ii, add_ss, add_ll, add_tt, oSubI, oMulU, oMulI, oFd, oMd, oPw, oLt, oLe, oGt, oGe, oEq, oNe, getF, setF, Cl.d, getS, setS, purF_nil, purF_cons, purH, allF_nil, allF_cons, allH, rho0, endsOf, scalD, len_l, len_t, len_s, bAbs, bInt, bIntU, tup_l, tup_t, true_and, and_true, Option.some.injEq, exists_eq_left', decide_eq_true_eq, Bool.not_eq_true', decide_eq_false_iff_not, it_eQ0, it_eQ1, it_eP0, it_eP1, it_eS0, it_eS1, fits_eQ, fits_eP, fits_eS, eqv_eQ, eqv_eP, eqv_eS, eqv_int, eqv_bool, shp_int, shp_bool, shp_none, shp_eQ, shp_eP, shp_eS, dCont, dBreak, dXi, dSetG, dAppG, oIsB, oNotB, dTx, pJoin, pSplit, pPart, pStarts, bStr, bIntS, dFmt, dJs, ↓reduceIte, nsp_none, nsp_bool, nsp_int, nsp_str, nsp_list, nsp_tuple, nsp_eQ, nsp_eP, nsp_eS, dat_pu, dat_ow, seqD_l, seqD_t, not_true_eq_false, Bool.true_eq_false, Bool.not_not, List.length_cons, List.length_nil, mkP, mkS, fits_list, fits_tuple, isIntD, isBoolD, isListD, isStrD, isTupD, Bool.not_true, Bool.not_false, Bool.false_eq_true, it_l0, it_l1, it_l2, it_t0, it_t1, it_t2, shp_ps, shp_pt, shp_ss, shp_is, seqD_eQ, seqD_eP, seqD_eS, walkD_eP, walkD_eS, walkD_l, walkD_t]
      exact hQ
    · simp only [dcN, wipeF, noneF, eLS, it_t1, fits_tuple, dRet, dRetF, dSetX, dCallX, dRetX, noOw, dTry, dCpy, dRaise, dRetO, dSetP, dSetS, dSetF, dSeq, dIf, dNext, dCall, dCallF, dB, dBin, dCons, dNil, dTup, dLst, dV, dC, dTV, onB, dTAnd, dTOr, dTNot, dAnd, dOr, dNot, dIfE, dIsN, dNotN, isN, dSl, dSlF, dNoPart, dPart, dPar, dParS, dAsg, dgN, dgT, dgCons, dgNil, dFE, dIsi, dListF, dNeg, dRev, dFrz, dApp, dAppS, dIns, dExtend, dClear, dReverse, dPop, oIx, oI, oIC, add_ii, add_ss, add_ll, add_tt, oSubI, oMulU, oMulI, oFd, oMd, oPw, oLt, oLe, oGt, oGe, oEq, oNe, getF, setF, Cl.d, getS, setS, purF_nil, purF_cons, purH, allF_nil, allF_cons, allH, rho0, endsOf, scalD, len_l, len_t, len_s, bAbs, bInt, bIntU, tup_l, tup_t, true_and, and_true, Option.some.injEq, exists_eq_left', decide_eq_true_eq, Bool.not_eq_true', decide_eq_false_iff_not, it_eQ0, it_eQ1, it_eP0, it_eP1, it_eS0, it_eS1, fits_eQ, fits_eP, fits_eS, eqv_eQ, eqv_eP, eqv_eS, eqv_int, eqv_bool, shp_int, shp_bool, shp_none, shp_eQ, shp_eP, shp_eS, dCont, dBreak, dXi, dSetG, dAppG, oIsB, oNotB, dTx, pJoin, pSplit, pPart, pStarts, bStr, bIntS, dFmt, dJs, ↓reduceIte, nsp_none, nsp_bool, nsp_int, nsp_str, nsp_list, nsp_tuple, nsp_eQ, nsp_eP, nsp_eS, dat_pu, dat_ow, seqD_l, seqD_t, not_true_eq_false, Bool.true_eq_false, Bool.not_not, List.length_cons, List.length_nil, mkP, mkS, fits_list, fits_tuple, isIntD, isBoolD, isListD, isStrD, isTupD, Bool.not_true, Bool.not_false, Bool.false_eq_true, it_l0, it_l1, it_l2, it_t0, it_t1, it_t2, shp_ps, shp_pt, shp_ss, shp_is, seqD_eQ, seqD_eP, seqD_eS, walkD_eP, walkD_eS, walkD_l, walkD_t]
      exact hΨ
    · have e : ls.map (fun x => PyData.str x.2) = (ls.map (·.2)).map .str := by rw [List.map_map]; rfl
      rw [e]
      simp only [oIn, sz, sl, in_ls, dRet, dRetF, dSetX, dCallX, dRetX, noOw, dTry, dCpy, dRaise, dRetO, dSetP, dSetS, dSetF, dSeq, dIf, dNext, dCall, dCallF, dB, dBin, dCons, dNil, dTup, dLst, dV, dC, dTV, onB, dTAnd, dTOr, dTNot, dAnd, dOr, dNot, dIfE, dIsN, dNotN, isN, dSl, dSlF, dNoPart, dPart, dPar, dParS, dAsg, dgN, dgT, dgCons, dgNil, dFE, dIsi, dListF, dNeg, dRev, dFrz, dApp, dAppS, dIns, dExtend, dClear, dReverse, dPop, oIx, oI, oIC, add_ii, add_ss, add_ll, add_tt, oSubI, oMulU, oMulI, oFd, oMd, oPw, oLt, oLe, oGt, oGe, oEq, oNe, getF, setF, Cl.d, getS, setS, purF_nil, purF_cons, purH, allF_nil, allF_cons, allH, rho0, endsOf, scalD, len_l, len_t, len_s, bAbs, bInt, bIntU, tup_l, tup_t, true_and, and_true, Option.some.injEq, exists_eq_left', decide_eq_true_eq, Bool.not_eq_true', decide_eq_false_iff_not, it_eQ0, it_eQ1, it_eP0, it_eP1, it_eS0, it_eS1, fits_eQ, fits_eP, fits_eS, eqv_eQ, eqv_eP, eqv_eS, eqv_int, eqv_bool, shp_int, shp_bool, shp_none, shp_eQ, shp_eP, shp_eS, dCont, dBreak, dXi, dSetG, dAppG, oIsB, oNotB, dTx, pJoin, pSplit, pPart, pStarts, bStr, bIntS, dFmt, dJs, ↓reduceIte, nsp_none, nsp_bool, nsp_int, nsp_str, nsp_list, nsp_tuple, nsp_eQ, nsp_eP, nsp_eS, dat_pu, dat_ow, seqD_l, seqD_t, not_true_eq_false, Bool.true_eq_false, Bool.not_not, List.length_cons, List.length_nil, mkP, mkS, fits_list, fits_tuple, isIntD, isBoolD, isListD, isStrD, isTupD, Bool.not_true, Bool.not_false, Bool.false_eq_true, it_l0, it_l1, it_l2, it_t0, it_t1, it_t2, shp_ps, shp_pt, shp_ss, shp_is, seqD_eQ, seqD_eP, seqD_eS, walkD_eP, walkD_eS, walkD_l, walkD_t]
      exact h
  | _ => cases hc
/-! ### shown -/
def spr_shown (n : Nat) : DSp := fun ds Φ _ => ∃ t : Sy, ds = [eS t] ∧ Ok t ∧ dep t ≤ n ∧ (wds t).length ≤ 1000 ∧ Φ (.pu (.str (tx t)))
def sp_shown : DSp := spr_shown 41
abbrev N_Saying__shown : List Str := ["self"]
def d_Saying__shown (n : Nat) : DS := (dRet (dC (.str "none")))
abbrev N_OfLand__shown : List Str := ["self"]
def d_OfLand__shown (n : Nat) : DS := (dRet (dRel (rFld ["OfLand"] "name" (rVar 0))))
abbrev N_OfSheet__shown : List Str := ["self"]
def d_OfSheet__shown (n : Nat) : DS := (dRet (dBin oAddU (dC (.str "sheet ")) (dRel (rFld ["OfSheet"] "sheet" (rVar 0)))))
abbrev N_Everywhere__shown : List Str := ["self"]
def d_Everywhere__shown (n : Nat) : DS := (dRet (dC (.str "all")))
abbrev N_Not__shown : List Str := ["self"]
def d_Not__shown (n : Nat) : DS := (dRet (dBin oAddU (dC (.str "not ")) (dMeth (rFld ["Not"] "inner" (rVar 0)) CS "shown" (spr_shown n) dNil)))
abbrev N_Both__shown : List Str := ["self"]
def d_Both__shown (n : Nat) : DS := (dRet (dBin oAddU (dBin oAddU (dBin oAddU (dBin oAddU (dC (.str "( ")) (dMeth (rFld ["Both"] "one" (rVar 0)) CS "shown" (spr_shown n) dNil)) (dC (.str " and "))) (dMeth (rFld ["Both"] "other" (rVar 0)) CS "shown" (spr_shown n) dNil)) (dC (.str " )"))))
abbrev N_Either__shown : List Str := ["self"]
def d_Either__shown (n : Nat) : DS := (dRet (dBin oAddU (dBin oAddU (dBin oAddU (dBin oAddU (dC (.str "( ")) (dMeth (rFld ["Either"] "one" (rVar 0)) CS "shown" (spr_shown n) dNil)) (dC (.str " or "))) (dMeth (rFld ["Either"] "other" (rVar 0)) CS "shown" (spr_shown n) dNil)) (dC (.str " )"))))
theorem no_shown : ∀ t, fldD "shown" (eS t) = none
  | .name _ => fld1 (by decide)
  | .sheet _ => fld1 (by decide)
  | .all => fld0
  | .none => fld0
  | .not _ => fld1 (by decide)
  | .and _ _ => fld2 (by decide) (by decide)
  | .or _ _ => fld2 (by decide) (by decide)
theorem rd_Saying__shown (n : Nat) (ds : List Dt) (Φ : Slot → Prop) (Ξ : XD → Prop) (h : onC "Nowhere" (spr_shown (n + 1)) ds Φ Ξ) : d_Saying__shown n (endsOf Φ Ξ) (rho0 N_Saying__shown ds) := by
  obtain ⟨⟨d, r, e, hc⟩, t, rfl, ok, hd, hl, h⟩ := h
  cases e
  cases t with
  | none => exact h
  | _ => cases hc
theorem rd_Everywhere__shown (n : Nat) (ds : List Dt) (Φ : Slot → Prop) (Ξ : XD → Prop) (h : onC "Everywhere" (spr_shown (n + 1)) ds Φ Ξ) : d_Everywhere__shown n (endsOf Φ Ξ) (rho0 N_Everywhere__shown ds) := by
  obtain ⟨⟨d, r, e, hc⟩, t, rfl, ok, hd, hl, h⟩ := h
  cases e
  cases t with
  | all => exact h
  | _ => cases hc
theorem rd_OfLand__shown (n : Nat) (ds : List Dt) (Φ : Slot → Prop) (Ξ : XD → Prop) (h : onC "OfLand" (spr_shown (n + 1)) ds Φ Ξ) : d_OfLand__shown n (endsOf Φ Ξ) (rho0 N_OfLand__shown ds) := by
  obtain ⟨⟨d, r, e, hc⟩, t, rfl, ok, hd, hl, h⟩ := h
  cases e
  cases t with
  | name z => exact ⟨.str z, ⟨_, "OfLand", rfl, rfl, by simp, rfl⟩, h⟩
  | _ => cases hc
theorem rd_OfSheet__shown (n : Nat) (ds : List Dt) (Φ : Slot → Prop) (Ξ : XD → Prop) (h : onC "OfSheet" (spr_shown (n + 1)) ds Φ Ξ) : d_OfSheet__shown n (endsOf Φ Ξ) (rho0 N_OfSheet__shown ds) := by
  obtain ⟨⟨d, r, e, hc⟩, t, rfl, ok, hd, hl, h⟩ := h
  cases e
  cases t with
  | sheet z =>
    have hz : (100000 : Nat) < sizeLine := by decide
    have := nm_len ok
    simp only [d_OfSheet__shown, N_OfSheet__shown, dRet, dRetF, dSetX, dCallX, dRetX, noOw, dTry, dCpy, dRaise, dRetO, dSetP, dSetS, dSetF, dSeq, dIf, dNext, dCall, dCallF, dB, dBin, dCons, dNil, dTup, dLst, dV, dC, dTV, onB, dTAnd, dTOr, dTNot, dAnd, dOr, dNot, dIfE, dIsN, dNotN, isN, dSl, dSlF, dNoPart, dPart, dPar, dParS, dAsg, dgN, dgT, dgCons, dgNil, dFE, dIsi, dListF, dNeg, dRev, dFrz, dApp, dAppS, dIns, dExtend, dClear, dReverse, dPop, oIx, oI, oIC, add_ii, add_ss, add_ll, add_tt, oSubI, oMulU, oMulI, oFd, oMd, oPw, oLt, oLe, oGt, oGe, oEq, oNe, getF, setF, Cl.d, getS, setS, purF_nil, purF_cons, purH, allF_nil, allF_cons, allH, rho0, endsOf, scalD, len_l, len_t, len_s, bAbs, bInt, bIntU, tup_l, tup_t, true_and, and_true, Option.some.injEq, exists_eq_left', decide_eq_true_eq, Bool.not_eq_true', decide_eq_false_iff_not, it_eQ0, it_eQ1, it_eP0, it_eP1, it_eS0, it_eS1, fits_eQ, fits_eP, fits_eS, eqv_eQ, eqv_eP, eqv_eS, eqv_int, eqv_bool, shp_int, shp_bool, shp_none, shp_eQ, shp_eP, shp_eS, dCont, dBreak, dXi, dSetG, dAppG, oIsB, oNotB, dTx, pJoin, pSplit, pPart, pStarts, bStr, bIntS, dFmt, dJs, ↓reduceIte, nsp_none, nsp_bool, nsp_int, nsp_str, nsp_list, nsp_tuple, nsp_eQ, nsp_eP, nsp_eS, dat_pu, dat_ow, seqD_l, seqD_t, not_true_eq_false, Bool.true_eq_false, Bool.not_not, List.length_cons, List.length_nil, mkP, mkS, fits_list, fits_tuple, isIntD, isBoolD, isListD, isStrD, isTupD, Bool.not_true, Bool.not_false, Bool.false_eq_true, it_l0, it_l1, it_l2, it_t0, it_t1, it_t2, shp_ps, shp_pt, shp_ss, shp_is, seqD_eQ, seqD_eP, seqD_eS, walkD_eP, walkD_eS, walkD_l, walkD_t]
    refine ⟨.str z, ⟨_, "OfSheet", rfl, rfl, by simp, rfl⟩, ?_⟩
    simp only [l_sheet, dRet, dRetF, dSetX, dCallX, dRetX, noOw, dTry, dCpy, dRaise, dRetO, dSetP, dSetS, dSetF, dSeq, dIf, dNext, dCall, dCallF, dB, dBin, dCons, dNil, dTup, dLst, dV, dC, dTV, onB, dTAnd, dTOr, dTNot, dAnd, dOr, dNot, dIfE, dIsN, dNotN, isN, dSl, dSlF, dNoPart, dPart, dPar, dParS, dAsg, dgN, dgT, dgCons, dgNil, dFE, dIsi, dListF, dNeg, dRev, dFrz, dApp, dAppS, dIns, dExtend, dClear, dReverse, dPop, oIx, oI, oIC, add_ii, add_ss, add_ll, add_tt, oSubI, oMulU, oMulI, oFd, oMd, oPw, oLt, oLe, oGt, oGe, oEq, oNe, getF, setF, Cl.d, getS, setS, purF_nil, purF_cons, purH, allF_nil, allF_cons, allH, rho0, endsOf, scalD, len_l, len_t, len_s, bAbs, bInt, bIntU, tup_l, tup_t, true_and, and_true, Option.some.injEq, exists_eq_left', decide_eq_true_eq, Bool.not_eq_true', decide_eq_false_iff_not, it_eQ0, it_eQ1, it_eP0, it_eP1, it_eS0, it_eS1, fits_eQ, fits_eP, fits_eS, eqv_eQ, eqv_eP, eqv_eS, eqv_int, eqv_bool, shp_int, shp_bool, shp_none, shp_eQ, shp_eP, shp_eS, dCont, dBreak, dXi, dSetG, dAppG, oIsB, oNotB, dTx, pJoin, pSplit, pPart, pStarts, bStr, bIntS, dFmt, dJs, ↓reduceIte, nsp_none, nsp_bool, nsp_int, nsp_str, nsp_list, nsp_tuple, nsp_eQ, nsp_eP, nsp_eS, dat_pu, dat_ow, seqD_l, seqD_t, not_true_eq_false, Bool.true_eq_false, Bool.not_not, List.length_cons, List.length_nil, mkP, mkS, fits_list, fits_tuple, isIntD, isBoolD, isListD, isStrD, isTupD, Bool.not_true, Bool.not_false, Bool.false_eq_true, it_l0, it_l1, it_l2, it_t0, it_t1, it_t2, shp_ps, shp_pt, shp_ss, shp_is, seqD_eQ, seqD_eP, seqD_eS, walkD_eP, walkD_eS, walkD_l, walkD_t]
    exact ⟨by omega, h⟩
  | _ => cases hc
theorem rd_Not__shown (n : Nat) (ds : List Dt) (Φ : Slot → Prop) (Ξ : XD → Prop) (h : onC "Not" (spr_shown (n + 1)) ds Φ Ξ) : d_Not__shown n (endsOf Φ Ξ) (rho0 N_Not__shown ds) := by
  obtain ⟨⟨d, r, e, hc⟩, t, rfl, ok, hd, hl, h⟩ := h
  cases e
  cases t with
  | not u =>
    have hz : (100000 : Nat) < sizeLine := by decide
    obtain ⟨c, hm, hu⟩ := cls_S u
    have hd : dep u ≤ n := by simp only [dep] at hd; omega
    have hl : (wds u).length ≤ 1000 := by simp only [wds, List.length_cons] at hl; omega
    have := tx_len u ok
    simp only [d_Not__shown, N_Not__shown, dRet, dRetF, dSetX, dCallX, dRetX, noOw, dTry, dCpy, dRaise, dRetO, dSetP, dSetS, dSetF, dSeq, dIf, dNext, dCall, dCallF, dB, dBin, dCons, dNil, dTup, dLst, dV, dC, dTV, onB, dTAnd, dTOr, dTNot, dAnd, dOr, dNot, dIfE, dIsN, dNotN, isN, dSl, dSlF, dNoPart, dPart, dPar, dParS, dAsg, dgN, dgT, dgCons, dgNil, dFE, dIsi, dListF, dNeg, dRev, dFrz, dApp, dAppS, dIns, dExtend, dClear, dReverse, dPop, oIx, oI, oIC, add_ii, add_ss, add_ll, add_tt, oSubI, oMulU, oMulI, oFd, oMd, oPw, oLt, oLe, oGt, oGe, oEq, oNe, getF, setF, Cl.d, getS, setS, purF_nil, purF_cons, purH, allF_nil, allF_cons, allH, rho0, endsOf, scalD, len_l, len_t, len_s, bAbs, bInt, bIntU, tup_l, tup_t, true_and, and_true, Option.some.injEq, exists_eq_left', decide_eq_true_eq, Bool.not_eq_true', decide_eq_false_iff_not, it_eQ0, it_eQ1, it_eP0, it_eP1, it_eS0, it_eS1, fits_eQ, fits_eP, fits_eS, eqv_eQ, eqv_eP, eqv_eS, eqv_int, eqv_bool, shp_int, shp_bool, shp_none, shp_eQ, shp_eP, shp_eS, dCont, dBreak, dXi, dSetG, dAppG, oIsB, oNotB, dTx, pJoin, pSplit, pPart, pStarts, bStr, bIntS, dFmt, dJs, ↓reduceIte, nsp_none, nsp_bool, nsp_int, nsp_str, nsp_list, nsp_tuple, nsp_eQ, nsp_eP, nsp_eS, dat_pu, dat_ow, seqD_l, seqD_t, not_true_eq_false, Bool.true_eq_false, Bool.not_not, List.length_cons, List.length_nil, mkP, mkS, fits_list, fits_tuple, isIntD, isBoolD, isListD, isStrD, isTupD, Bool.not_true, Bool.not_false, Bool.false_eq_true, it_l0, it_l1, it_l2, it_t0, it_t1, it_t2, shp_ps, shp_pt, shp_ss, shp_is, seqD_eQ, seqD_eP, seqD_eS, walkD_eP, walkD_eS, walkD_l, walkD_t]
    refine ⟨eS u, c, ⟨_, "Not", rfl, rfl, by simp, rfl⟩, hu, hm, no_shown u, ?_⟩
    simp only [dRet, dRetF, dSetX, dCallX, dRetX, noOw, dTry, dCpy, dRaise, dRetO, dSetP, dSetS, dSetF, dSeq, dIf, dNext, dCall, dCallF, dB, dBin, dCons, dNil, dTup, dLst, dV, dC, dTV, onB, dTAnd, dTOr, dTNot, dAnd, dOr, dNot, dIfE, dIsN, dNotN, isN, dSl, dSlF, dNoPart, dPart, dPar, dParS, dAsg, dgN, dgT, dgCons, dgNil, dFE, dIsi, dListF, dNeg, dRev, dFrz, dApp, dAppS, dIns, dExtend, dClear, dReverse, dPop, oIx, oI, oIC, add_ii, add_ss, add_ll, add_tt, oSubI, oMulU, oMulI, oFd, oMd, oPw, oLt, oLe, oGt, oGe, oEq, oNe, getF, setF, Cl.d, getS, setS, purF_nil, purF_cons, purH, allF_nil, allF_cons, allH, rho0, endsOf, scalD, len_l, len_t, len_s, bAbs, bInt, bIntU, tup_l, tup_t, true_and, and_true, Option.some.injEq, exists_eq_left', decide_eq_true_eq, Bool.not_eq_true', decide_eq_false_iff_not, it_eQ0, it_eQ1, it_eP0, it_eP1, it_eS0, it_eS1, fits_eQ, fits_eP, fits_eS, eqv_eQ, eqv_eP, eqv_eS, eqv_int, eqv_bool, shp_int, shp_bool, shp_none, shp_eQ, shp_eP, shp_eS, dCont, dBreak, dXi, dSetG, dAppG, oIsB, oNotB, dTx, pJoin, pSplit, pPart, pStarts, bStr, bIntS, dFmt, dJs, ↓reduceIte, nsp_none, nsp_bool, nsp_int, nsp_str, nsp_list, nsp_tuple, nsp_eQ, nsp_eP, nsp_eS, dat_pu, dat_ow, seqD_l, seqD_t, not_true_eq_false, Bool.true_eq_false, Bool.not_not, List.length_cons, List.length_nil, mkP, mkS, fits_list, fits_tuple, isIntD, isBoolD, isListD, isStrD, isTupD, Bool.not_true, Bool.not_false, Bool.false_eq_true, it_l0, it_l1, it_l2, it_t0, it_t1, it_t2, shp_ps, shp_pt, shp_ss, shp_is, seqD_eQ, seqD_eP, seqD_eS, walkD_eP, walkD_eS, walkD_l, walkD_t]
    refine ⟨u, rfl, ok, hd, hl, ?_⟩
    simp only [l_not, dRet, dRetF, dSetX, dCallX, dRetX, noOw, dTry, dCpy, dRaise, dRetO, dSetP, dSetS, dSetF, dSeq, dIf, dNext, dCall, dCallF, dB, dBin, dCons, dNil, dTup, dLst, dV, dC, dTV, onB, dTAnd, dTOr, dTNot, dAnd, dOr, dNot, dIfE, dIsN, dNotN, isN, dSl, dSlF, dNoPart, dPart, dPar, dParS, dAsg, dgN, dgT, dgCons, dgNil, dFE, dIsi, dListF, dNeg, dRev, dFrz, dApp, dAppS, dIns, dExtend, dClear, dReverse, dPop, oIx, oI, oIC, add_ii, add_ss, add_ll, add_tt, oSubI, oMulU, oMulI, oFd, oMd, oPw, oLt, oLe, oGt, oGe, oEq, oNe, getF, setF, Cl.d, getS, setS, purF_nil, purF_cons, purH, allF_nil, allF_cons, allH, rho0, endsOf, scalD, len_l, len_t, len_s, bAbs, bInt, bIntU, tup_l, tup_t, true_and, and_true, Option.some.injEq, exists_eq_left', decide_eq_true_eq, Bool.not_eq_true', decide_eq_false_iff_not, it_eQ0, it_eQ1, it_eP0, it_eP1, it_eS0, it_eS1, fits_eQ, fits_eP, fits_eS, eqv_eQ, eqv_eP, eqv_eS, eqv_int, eqv_bool, shp_int, shp_bool, shp_none, shp_eQ, shp_eP, shp_eS, dCont, dBreak, dXi, dSetG, dAppG, oIsB, oNotB, dTx, pJoin, pSplit, pPart, pStarts, bStr, bIntS, dFmt, dJs, ↓reduceIte, nsp_none, nsp_bool, nsp_int, nsp_str, nsp_list, nsp_tuple, nsp_eQ, nsp_eP, nsp_eS, dat_pu, dat_ow, seqD_l, seqD_t, not_true_eq_false, Bool.true_eq_false, Bool.not_not, List.length_cons, List.length_nil, mkP, mkS, fits_list, fits_tuple, isIntD, isBoolD, isListD, isStrD, isTupD, Bool.not_true, Bool.not_false, Bool.false_eq_true, it_l0, it_l1, it_l2, it_t0, it_t1, it_t2, shp_ps, shp_pt, shp_ss, shp_is, seqD_eQ, seqD_eP, seqD_eS, walkD_eP, walkD_eS, walkD_l, walkD_t]
    exact ⟨by omega, h⟩
  | _ => cases hc
theorem rd_Both__shown (n : Nat) (ds : List Dt) (Φ : Slot → Prop) (Ξ : XD → Prop) (h : onC "Both" (spr_shown (n + 1)) ds Φ Ξ) : d_Both__shown n (endsOf Φ Ξ) (rho0 N_Both__shown ds) := by
  obtain ⟨⟨d, r, e, hc⟩, t, rfl, ok, hd, hl, h⟩ := h
  cases e
  cases t with
  | and a b =>
    have hz : (100000 : Nat) < sizeLine := by decide
    obtain ⟨c1, hm1, hu1⟩ := cls_S a
    obtain ⟨c2, hm2, hu2⟩ := cls_S b
    have hda : dep a ≤ n := by simp only [dep] at hd; omega
    have hdb : dep b ≤ n := by simp only [dep] at hd; omega
    simp only [wds, List.length_cons, List.length_append, List.length_nil] at hl
    have := tx_len a ok.1
    have := tx_len b ok.2
    simp only [d_Both__shown, N_Both__shown, dRet, dRetF, dSetX, dCallX, dRetX, noOw, dTry, dCpy, dRaise, dRetO, dSetP, dSetS, dSetF, dSeq, dIf, dNext, dCall, dCallF, dB, dBin, dCons, dNil, dTup, dLst, dV, dC, dTV, onB, dTAnd, dTOr, dTNot, dAnd, dOr, dNot, dIfE, dIsN, dNotN, isN, dSl, dSlF, dNoPart, dPart, dPar, dParS, dAsg, dgN, dgT, dgCons, dgNil, dFE, dIsi, dListF, dNeg, dRev, dFrz, dApp, dAppS, dIns, dExtend, dClear, dReverse, dPop, oIx, oI, oIC, add_ii, add_ss, add_ll, add_tt, oSubI, oMulU, oMulI, oFd, oMd, oPw, oLt, oLe, oGt, oGe, oEq, oNe, getF, setF, Cl.d, getS, setS, purF_nil, purF_cons, purH, allF_nil, allF_cons, allH, rho0, endsOf, scalD, len_l, len_t, len_s, bAbs, bInt, bIntU, tup_l, tup_t, true_and, and_true, Option.some.injEq, exists_eq_left', decide_eq_true_eq, Bool.not_eq_true', decide_eq_false_iff_not, it_eQ0, it_eQ1, it_eP0, it_eP1, it_eS0, it_eS1, fits_eQ, fits_eP, fits_eS, eqv_eQ, eqv_eP, eqv_eS, eqv_int, eqv_bool, shp_int, shp_bool, shp_none, shp_eQ, shp_eP, shp_eS, dCont, dBreak, dXi, dSetG, dAppG, oIsB, oNotB, dTx, pJoin, pSplit, pPart, pStarts, bStr, bIntS, dFmt, dJs, ↓reduceIte, nsp_none, nsp_bool, nsp_int, nsp_str, nsp_list, nsp_tuple, nsp_eQ, nsp_eP, nsp_eS, dat_pu, dat_ow, seqD_l, seqD_t, not_true_eq_false, Bool.true_eq_false, Bool.not_not, List.length_cons, List.length_nil, mkP, mkS, fits_list, fits_tuple, isIntD, isBoolD, isListD, isStrD, isTupD, Bool.not_true, Bool.not_false, Bool.false_eq_true, it_l0, it_l1, it_l2, it_t0, it_t1, it_t2, shp_ps, shp_pt, shp_ss, shp_is, seqD_eQ, seqD_eP, seqD_eS, walkD_eP, walkD_eS, walkD_l, walkD_t]
    refine ⟨eS a, c1, ⟨_, "Both", rfl, rfl, by simp, rfl⟩, hu1, hm1, no_shown a, ?_⟩
    simp only [dRet, dRetF, dSetX, dCallX, dRetX, noOw, dTry, dCpy, dRaise, dRetO, dSetP, dSetS, dSetF, dSeq, dIf, dNext, dCall, dCallF, dB, dBin, dCons, dNil, dTup, dLst, dV, dC, dTV, onB, dTAnd, dTOr, dTNot, dAnd, dOr, dNot, dIfE, dIsN, dNotN, isN, dSl, dSlF, dNoPart, dPart, dPar, dParS, dAsg, dgN, dgT, dgCons, dgNil, dFE, dIsi, dListF, dNeg, dRev, dFrz, dApp, dAppS, dIns, dExtend, dClear, dReverse, dPop, oIx, oI, oIC, add_ii, add_ss, add_ll, add_tt, oSubI, oMulU, oMulI, oFd, oMd, oPw, oLt, oLe, oGt, oGe, oEq, oNe, getF, setF, Cl.d, getS, setS, purF_nil, purF_cons, purH, allF_nil, allF_cons, allH, rho0, endsOf, scalD, len_l, len_t, len_s, bAbs, bInt, bIntU, tup_l, tup_t, true_and, and_true, Option.some.injEq, exists_eq_left', decide_eq_true_eq, Bool.not_eq_true', decide_eq_false_iff_not, it_eQ0, it_eQ1, it_eP0, it_eP1, it_eS0, it_eS1, fits_eQ, fits_eP, fits_eS, eqv_eQ, eqv_eP, eqv_eS, eqv_int, eqv_bool, shp_int, shp_bool, shp_none, shp_eQ, shp_eP, shp_eS, dCont, dBreak, dXi, dSetG, dAppG, oIsB, oNotB, dTx, pJoin, pSplit, pPart, pStarts, bStr, bIntS, dFmt, dJs, ↓reduceIte, nsp_none, nsp_bool, nsp_int, nsp_str, nsp_list, nsp_tuple, nsp_eQ, nsp_eP, nsp_eS, dat_pu, dat_ow, seqD_l, seqD_t, not_true_eq_false, Bool.true_eq_false, Bool.not_not, List.length_cons, List.length_nil, mkP, mkS, fits_list, fits_tuple, isIntD, isBoolD, isListD, isStrD, isTupD, Bool.not_true, Bool.not_false, Bool.false_eq_true, it_l0, it_l1, it_l2, it_t0, it_t1, it_t2, shp_ps, shp_pt, shp_ss, shp_is, seqD_eQ, seqD_eP, seqD_eS, walkD_eP, walkD_eS, walkD_l, walkD_t]
    refine ⟨a, rfl, ok.1, hda, by omega, ?_⟩
    simp only [l_op, l_and, slen, dRet, dRetF, dSetX, dCallX, dRetX, noOw, dTry, dCpy, dRaise, dRetO, dSetP, dSetS, dSetF, dSeq, dIf, dNext, dCall, dCallF, dB, dBin, dCons, dNil, dTup, dLst, dV, dC, dTV, onB, dTAnd, dTOr, dTNot, dAnd, dOr, dNot, dIfE, dIsN, dNotN, isN, dSl, dSlF, dNoPart, dPart, dPar, dParS, dAsg, dgN, dgT, dgCons, dgNil, dFE, dIsi, dListF, dNeg, dRev, dFrz, dApp, dAppS, dIns, dExtend, dClear, dReverse, dPop, oIx, oI, oIC, add_ii, add_ss, add_ll, add_tt, oSubI, oMulU, oMulI, oFd, oMd, oPw, oLt, oLe, oGt, oGe, oEq, oNe, getF, setF, Cl.d, getS, setS, purF_nil, purF_cons, purH, allF_nil, allF_cons, allH, rho0, endsOf, scalD, len_l, len_t, len_s, bAbs, bInt, bIntU, tup_l, tup_t, true_and, and_true, Option.some.injEq, exists_eq_left', decide_eq_true_eq, Bool.not_eq_true', decide_eq_false_iff_not, it_eQ0, it_eQ1, it_eP0, it_eP1, it_eS0, it_eS1, fits_eQ, fits_eP, fits_eS, eqv_eQ, eqv_eP, eqv_eS, eqv_int, eqv_bool, shp_int, shp_bool, shp_none, shp_eQ, shp_eP, shp_eS, dCont, dBreak, dXi, dSetG, dAppG, oIsB, oNotB, dTx, pJoin, pSplit, pPart, pStarts, bStr, bIntS, dFmt, dJs, ↓reduceIte, nsp_none, nsp_bool, nsp_int, nsp_str, nsp_list, nsp_tuple, nsp_eQ, nsp_eP, nsp_eS, dat_pu, dat_ow, seqD_l, seqD_t, not_true_eq_false, Bool.true_eq_false, Bool.not_not, List.length_cons, List.length_nil, mkP, mkS, fits_list, fits_tuple, isIntD, isBoolD, isListD, isStrD, isTupD, Bool.not_true, Bool.not_false, Bool.false_eq_true, it_l0, it_l1, it_l2, it_t0, it_t1, it_t2, shp_ps, shp_pt, shp_ss, shp_is, seqD_eQ, seqD_eP, seqD_eS, walkD_eP, walkD_eS, walkD_l, walkD_t]
    refine ⟨by omega, by omega, ?_⟩
    refine ⟨eS b, c2, ⟨_, "Both", rfl, rfl, by simp, rfl⟩, hu2, hm2, no_shown b, ?_⟩
    simp only [dRet, dRetF, dSetX, dCallX, dRetX, noOw, dTry, dCpy, dRaise, dRetO, dSetP, dSetS, dSetF, dSeq, dIf, dNext, dCall, dCallF, dB, dBin, dCons, dNil, dTup, dLst, dV, dC, dTV, onB, dTAnd, dTOr, dTNot, dAnd, dOr, dNot, dIfE, dIsN, dNotN, isN, dSl, dSlF, dNoPart, dPart, dPar, dParS, dAsg, dgN, dgT, dgCons, dgNil, dFE, dIsi, dListF, dNeg, dRev, dFrz, dApp, dAppS, dIns, dExtend, dClear, dReverse, dPop, oIx, oI, oIC, add_ii, add_ss, add_ll, add_tt, oSubI, oMulU, oMulI, oFd, oMd, oPw, oLt, oLe, oGt, oGe, oEq, oNe, getF, setF, Cl.d, getS, setS, purF_nil, purF_cons, purH, allF_nil, allF_cons, allH, rho0, endsOf, scalD, len_l, len_t, len_s, bAbs, bInt, bIntU, tup_l, tup_t, true_and, and_true, Option.some.injEq, exists_eq_left', decide_eq_true_eq, Bool.not_eq_true', decide_eq_false_iff_not, it_eQ0, it_eQ1, it_eP0, it_eP1, it_eS0, it_eS1, fits_eQ, fits_eP, fits_eS, eqv_eQ, eqv_eP, eqv_eS, eqv_int, eqv_bool, shp_int, shp_bool, shp_none, shp_eQ, shp_eP, shp_eS, dCont, dBreak, dXi, dSetG, dAppG, oIsB, oNotB, dTx, pJoin, pSplit, pPart, pStarts, bStr, bIntS, dFmt, dJs, ↓reduceIte, nsp_none, nsp_bool, nsp_int, nsp_str, nsp_list, nsp_tuple, nsp_eQ, nsp_eP, nsp_eS, dat_pu, dat_ow, seqD_l, seqD_t, not_true_eq_false, Bool.true_eq_false, Bool.not_not, List.length_cons, List.length_nil, mkP, mkS, fits_list, fits_tuple, isIntD, isBoolD, isListD, isStrD, isTupD, Bool.not_true, Bool.not_false, Bool.false_eq_true, it_l0, it_l1, it_l2, it_t0, it_t1, it_t2, shp_ps, shp_pt, shp_ss, shp_is, seqD_eQ, seqD_eP, seqD_eS, walkD_eP, walkD_eS, walkD_l, walkD_t]
    refine ⟨b, rfl, ok.2, hdb, by omega, ?_⟩
    simp only [l_op, l_and, l_cl, slen, dRet, dRetF, dSetX, dCallX, dRetX, noOw, dTry, dCpy, dRaise, dRetO, dSetP, dSetS, dSetF, dSeq, dIf, dNext, dCall, dCallF, dB, dBin, dCons, dNil, dTup, dLst, dV, dC, dTV, onB, dTAnd, dTOr, dTNot, dAnd, dOr, dNot, dIfE, dIsN, dNotN, isN, dSl, dSlF, dNoPart, dPart, dPar, dParS, dAsg, dgN, dgT, dgCons, dgNil, dFE, dIsi, dListF, dNeg, dRev, dFrz, dApp, dAppS, dIns, dExtend, dClear, dReverse, dPop, oIx, oI, oIC, add_ii, add_ss, add_ll, add_tt, oSubI, oMulU, oMulI, oFd, oMd, oPw, oLt, oLe, oGt, oGe, oEq, oNe, getF, setF, Cl.d, getS, setS, purF_nil, purF_cons, purH, allF_nil, allF_cons, allH, rho0, endsOf, scalD, len_l, len_t, len_s, bAbs, bInt, bIntU, tup_l, tup_t, true_and, and_true, Option.some.injEq, exists_eq_left', decide_eq_true_eq, Bool.not_eq_true', decide_eq_false_iff_not, it_eQ0, it_eQ1, it_eP0, it_eP1, it_eS0, it_eS1, fits_eQ, fits_eP, fits_eS, eqv_eQ, eqv_eP, eqv_eS, eqv_int, eqv_bool, shp_int, shp_bool, shp_none, shp_eQ, shp_eP, shp_eS, dCont, dBreak, dXi, dSetG, dAppG, oIsB, oNotB, dTx, pJoin, pSplit, pPart, pStarts, bStr, bIntS, dFmt, dJs, ↓reduceIte, nsp_none, nsp_bool, nsp_int, nsp_str, nsp_list, nsp_tuple, nsp_eQ, nsp_eP, nsp_eS, dat_pu, dat_ow, seqD_l, seqD_t, not_true_eq_false, Bool.true_eq_false, Bool.not_not, List.length_cons, List.length_nil, mkP, mkS, fits_list, fits_tuple, isIntD, isBoolD, isListD, isStrD, isTupD, Bool.not_true, Bool.not_false, Bool.false_eq_true, it_l0, it_l1, it_l2, it_t0, it_t1, it_t2, shp_ps, shp_pt, shp_ss, shp_is, seqD_eQ, seqD_eP, seqD_eS, walkD_eP, walkD_eS, walkD_l, walkD_t]
    exact ⟨by omega, by omega, h⟩
  | _ => cases hc
theorem rd_Either__shown (n : Nat) (ds : List Dt) (Φ : Slot → Prop) (Ξ : XD → Prop) (h : onC "Either" (spr_shown (n + 1)) ds Φ Ξ) : d_Either__shown n (endsOf Φ Ξ) (rho0 N_Either__shown ds) := by
  obtain ⟨⟨d, r, e, hc⟩, t, rfl, ok, hd, hl, h⟩ := h
  cases e
  cases t with
  | or a b =>
    have hz : (100000 : Nat) < sizeLine := by decide
    obtain ⟨c1, hm1, hu1⟩ := cls_S a
    obtain ⟨c2, hm2, hu2⟩ := cls_S b
    have hda : dep a ≤ n := by simp only [dep] at hd; omega
    have hdb : dep b ≤ n := by simp only [dep] at hd; omega
    simp only [wds, List.length_cons, List.length_append, List.length_nil] at hl
    have := tx_len a ok.1
    have := tx_len b ok.2
    simp only [d_Either__shown, N_Either__shown, dRet, dRetF, dSetX, dCallX, dRetX, noOw, dTry, dCpy, dRaise, dRetO, dSetP, dSetS, dSetF, dSeq, dIf, dNext, dCall, dCallF, dB, dBin, dCons, dNil, dTup, dLst, dV, dC, dTV, onB, dTAnd, dTOr, dTNot, dAnd, dOr, dNot, dIfE, dIsN, dNotN, isN, dSl, dSlF, dNoPart, dPart, dPar, dParS, dAsg, dgN, dgT, dgCons, dgNil, dFE, dIsi, dListF, dNeg, dRev, dFrz, dApp, dAppS, dIns, dExtend, dClear, dReverse, dPop, oIx, oI, oIC, add_ii, add_ss, add_ll, add_tt, oSubI, oMulU, oMulI, oFd, oMd, oPw, oLt, oLe, oGt, oGe, oEq, oNe, getF, setF, Cl.d, getS, setS, purF_nil, purF_cons, purH, allF_nil, allF_cons, allH, rho0, endsOf, scalD, len_l, len_t, len_s, bAbs, bInt, bIntU, tup_l, tup_t, true_and, and_true, Option.some.injEq, exists_eq_left', decide_eq_true_eq, Bool.not_eq_true', decide_eq_false_iff_not, it_eQ0, it_eQ1, it_eP0, it_eP1, it_eS0, it_eS1, fits_eQ, fits_eP, fits_eS, eqv_eQ, eqv_eP, eqv_eS, eqv_int, eqv_bool, shp_int, shp_bool, shp_none, shp_eQ, shp_eP, shp_eS, dCont, dBreak, dXi, dSetG, dAppG, oIsB, oNotB, dTx, pJoin, pSplit, pPart, pStarts, bStr, bIntS, dFmt, dJs, ↓reduceIte, nsp_none, nsp_bool, nsp_int, nsp_str, nsp_list, nsp_tuple, nsp_eQ, nsp_eP, nsp_eS, dat_pu, dat_ow, seqD_l, seqD_t, not_true_eq_false, Bool.true_eq_false, Bool.not_not, List.length_cons, List.length_nil, mkP, mkS, fits_list, fits_tuple, isIntD, isBoolD, isListD, isStrD, isTupD, Bool.not_true, Bool.not_false, Bool.false_eq_true, it_l0, it_l1, it_l2, it_t0, it_t1, it_t2, shp_ps, shp_pt, shp_ss, shp_is, seqD_eQ, seqD_eP, seqD_eS, walkD_eP, walkD_eS, walkD_l, walkD_t]
    refine ⟨eS a, c1, ⟨_, "Either", rfl, rfl, by simp, rfl⟩, hu1, hm1, no_shown a, ?_⟩
    simp only [dRet, dRetF, dSetX, dCallX, dRetX, noOw, dTry, dCpy, dRaise, dRetO, dSetP, dSetS, dSetF, dSeq, dIf, dNext, dCall, dCallF, dB, dBin, dCons, dNil, dTup, dLst, dV, dC, dTV, onB, dTAnd, dTOr, dTNot, dAnd, dOr, dNot, dIfE, dIsN, dNotN, isN, dSl, dSlF, dNoPart, dPart, dPar, dParS, dAsg, dgN, dgT, dgCons, dgNil, dFE, dIsi, dListF, dNeg, dRev, dFrz, dApp, dAppS, dIns, dExtend, dClear, dReverse, dPop, oIx, oI, oIC, add_ii, add_ss, add_ll, add_tt, oSubI, oMulU, oMulI, oFd, oMd, oPw, oLt, oLe, oGt, oGe, oEq, oNe, getF, setF, Cl.d, getS, setS, purF_nil, purF_cons, purH, allF_nil, allF_cons, allH, rho0, endsOf, scalD, len_l, len_t, len_s, bAbs, bInt, bIntU, tup_l, tup_t, true_and, and_true, Option.some.injEq, exists_eq_left', decide_eq_true_eq, Bool.not_eq_true', decide_eq_false_iff_not, it_eQ0, it_eQ1, it_eP0, it_eP1, it_eS0, it_eS1, fits_eQ, fits_eP, fits_eS, eqv_eQ, eqv_eP, eqv_eS, eqv_int, eqv_bool, shp_int, shp_bool, shp_none, shp_eQ, shp_eP, shp_eS, dCont, dBreak, dXi, dSetG, dAppG, oIsB, oNotB, dTx, pJoin, pSplit, pPart, pStarts, bStr, bIntS, dFmt, dJs, ↓reduceIte, nsp_none, nsp_bool, nsp_int, nsp_str, nsp_list, nsp_tuple, nsp_eQ, nsp_eP, nsp_eS, dat_pu, dat_ow, seqD_l, seqD_t, not_true_eq_false, Bool.true_eq_false, Bool.not_not, List.length_cons, List.length_nil, mkP, mkS, fits_list, fits_tuple, isIntD, isBoolD, isListD, isStrD, isTupD, Bool.not_true, Bool.not_false, Bool.false_eq_true, it_l0, it_l1, it_l2, it_t0, it_t1, it_t2, shp_ps, shp_pt, shp_ss, shp_is, seqD_eQ, seqD_eP, seqD_eS, walkD_eP, walkD_eS, walkD_l, walkD_t]
    refine ⟨a, rfl, ok.1, hda, by omega, ?_⟩
    simp only [l_op, l_or, slen, dRet, dRetF, dSetX, dCallX, dRetX, noOw, dTry, dCpy, dRaise, dRetO, dSetP, dSetS, dSetF, dSeq, dIf, dNext, dCall, dCallF, dB, dBin, dCons, dNil, dTup, dLst, dV, dC, dTV, onB, dTAnd, dTOr, dTNot, dAnd, dOr, dNot, dIfE, dIsN, dNotN, isN, dSl, dSlF, dNoPart, dPart, dPar, dParS, dAsg, dgN, dgT, dgCons, dgNil, dFE, dIsi, dListF, dNeg, dRev, dFrz, dApp, dAppS, dIns, dExtend, dClear, dReverse, dPop, oIx, oI, oIC, add_ii, add_ss, add_ll, add_tt, oSubI, oMulU, oMulI, oFd, oMd, oPw, oLt, oLe, oGt, oGe, oEq, oNe, getF, setF, Cl.d, getS, setS, purF_nil, purF_cons, purH, allF_nil, allF_cons, allH, rho0, endsOf, scalD, len_l, len_t, len_s, bAbs, bInt, bIntU, tup_l, tup_t, true_and, and_true, Option.some.injEq, exists_eq_left', decide_eq_true_eq, Bool.not_eq_true', decide_eq_false_iff_not, it_eQ0, it_eQ1, it_eP0, it_eP1, it_eS0, it_eS1, fits_eQ, fits_eP, fits_eS, eqv_eQ, eqv_eP, eqv_eS, eqv_int, eqv_bool, shp_int, shp_bool, shp_none, shp_eQ, shp_eP, shp_eS, dCont, dBreak, dXi, dSetG, dAppG, oIsB, oNotB, dTx, pJoin, pSplit, pPart, pStarts, bStr, bIntS, dFmt, dJs, ↓reduceIte, nsp_none, nsp_bool, nsp_int, nsp_str, nsp_list, nsp_tuple, nsp_eQ, nsp_eP, nsp_eS, dat_pu, dat_ow, seqD_l, seqD_t, not_true_eq_false, Bool.true_eq_false, Bool.not_not, List.length_cons, List.length_nil, mkP, mkS, fits_list, fits_tuple, isIntD, isBoolD, isListD, isStrD, isTupD, Bool.not_true, Bool.not_false, Bool.false_eq_true, it_l0, it_l1, it_l2, it_t0, it_t1, it_t2, shp_ps, shp_pt, shp_ss, shp_is, seqD_eQ, seqD_eP, seqD_eS, walkD_eP, walkD_eS, walkD_l, walkD_t]
    refine ⟨by omega, by omega, ?_⟩
    refine ⟨eS b, c2, ⟨_, "Either", rfl, rfl, by simp, rfl⟩, hu2, hm2, no_shown b, ?_⟩
    simp only [dRet, dRetF, dSetX, dCallX, dRetX, noOw, dTry, dCpy, dRaise, dRetO, dSetP, dSetS, dSetF, dSeq, dIf, dNext, dCall, dCallF, dB, dBin, dCons, dNil, dTup, dLst, dV, dC, dTV, onB, dTAnd, dTOr, dTNot, dAnd, dOr, dNot, dIfE, dIsN, dNotN, isN, dSl, dSlF, dNoPart, dPart, dPar, dParS, dAsg, dgN, dgT, dgCons, dgNil, dFE, dIsi, dListF, dNeg, dRev, dFrz, dApp, dAppS, dIns, dExtend, dClear, dReverse, dPop, oIx, oI, oIC, add_ii, add_ss, add_ll, add_tt, oSubI, oMulU, oMulI, oFd, oMd, oPw, oLt, oLe, oGt, oGe, oEq, oNe, getF, setF, Cl.d, getS, setS, purF_nil, purF_cons, purH, allF_nil, allF_cons, allH, rho0, endsOf, scalD, len_l, len_t, len_s, bAbs, bInt, bIntU, tup_l, tup_t, true_and, and_true, Option.some.injEq, exists_eq_left', decide_eq_true_eq, Bool.not_eq_true', decide_eq_false_iff_not, it_eQ0, it_eQ1, it_eP0, it_eP1, it_eS0, it_eS1, fits_eQ, fits_eP, fits_eS, eqv_eQ, eqv_eP, eqv_eS, eqv_int, eqv_bool, shp_int, shp_bool, shp_none, shp_eQ, shp_eP, shp_eS, dCont, dBreak, dXi, dSetG, dAppG, oIsB, oNotB, dTx, pJoin, pSplit, pPart, pStarts, bStr, bIntS, dFmt, dJs, ↓reduceIte, nsp_none, nsp_bool, nsp_int, nsp_str, nsp_list, nsp_tuple, nsp_eQ, nsp_eP, nsp_eS, dat_pu, dat_ow, seqD_l, seqD_t, not_true_eq_false, Bool.true_eq_false, Bool.not_not, List.length_cons, List.length_nil, mkP, mkS, fits_list, fits_tuple, isIntD, isBoolD, isListD, isStrD, isTupD, Bool.not_true, Bool.not_false, Bool.false_eq_true, it_l0, it_l1, it_l2, it_t0, it_t1, it_t2, shp_ps, shp_pt, shp_ss, shp_is, seqD_eQ, seqD_eP, seqD_eS, walkD_eP, walkD_eS, walkD_l, walkD_t]
    refine ⟨b, rfl, ok.2, hdb, by omega, ?_⟩
    simp only [l_op, l_or, l_cl, slen, dRet, dRetF, dSetX, dCallX, dRetX, noOw, dTry, dCpy, dRaise, dRetO, dSetP, dSetS, dSetF, dSeq, dIf, dNext, dCall, dCallF, dB, dBin, dCons, dNil, dTup, dLst, dV, dC, dTV, onB, dTAnd, dTOr, dTNot, dAnd, dOr, dNot, dIfE, dIsN, dNotN, isN, dSl, dSlF, dNoPart, dPart, dPar, dParS, dAsg, dgN, dgT, dgCons, dgNil, dFE, dIsi, dListF, dNeg, dRev, dFrz, dApp, dAppS, dIns, dExtend, dClear, dReverse, dPop, oIx, oI, oIC, add_ii, add_ss, add_ll, add_tt, oSubI, oMulU, oMulI, oFd, oMd, oPw, oLt, oLe, oGt, oGe, oEq, oNe, getF, setF, Cl.d, getS, setS, purF_nil, purF_cons, purH, allF_nil, allF_cons, allH, rho0, endsOf, scalD, len_l, len_t, len_s, bAbs, bInt, bIntU, tup_l, tup_t, true_and, and_true, Option.some.injEq, exists_eq_left', decide_eq_true_eq, Bool.not_eq_true', decide_eq_false_iff_not, it_eQ0, it_eQ1, it_eP0, it_eP1, it_eS0, it_eS1, fits_eQ, fits_eP, fits_eS, eqv_eQ, eqv_eP, eqv_eS, eqv_int, eqv_bool, shp_int, shp_bool, shp_none, shp_eQ, shp_eP, shp_eS, dCont, dBreak, dXi, dSetG, dAppG, oIsB, oNotB, dTx, pJoin, pSplit, pPart, pStarts, bStr, bIntS, dFmt, dJs, ↓reduceIte, nsp_none, nsp_bool, nsp_int, nsp_str, nsp_list, nsp_tuple, nsp_eQ, nsp_eP, nsp_eS, dat_pu, dat_ow, seqD_l, seqD_t, not_true_eq_false, Bool.true_eq_false, Bool.not_not, List.length_cons, List.length_nil, mkP, mkS, fits_list, fits_tuple, isIntD, isBoolD, isListD, isStrD, isTupD, Bool.not_true, Bool.not_false, Bool.false_eq_true, it_l0, it_l1, it_l2, it_t0, it_t1, it_t2, shp_ps, shp_pt, shp_ss, shp_is, seqD_eQ, seqD_eP, seqD_eS, walkD_eP, walkD_eS, walkD_l, walkD_t]
    exact ⟨by omega, by omega, h⟩
  | _ => cases hc
/-! ### words -/
def OkWs (ws : List Str) : Prop := ws.length ≤ 40 ∧ ∀ z ∈ ws, okD (.str z)
def sp_word_at : DSp := fun ds Φ _ => ∃ (ws : List Str) (k : Nat), ds = [.list (ws.map .str), .int k] ∧ ws.length ≤ 100000 ∧ Φ (.pu (.str (wAt ws k)))
def xNS : XD := ⟨"NoSaying", []⟩
def prP (n : Nat) (ws : List Str) (k : Nat) : Option (Sy × Nat) := match pr n ws k with
  | some (a, m) => if wAt ws m = "and" ∨ wAt ws m = "or" then match pr n ws (m + 1) with
    | some (b, e) => if wAt ws e = ")" then some (if wAt ws m = "and" then .and a b else .or a b, e + 1) else none
    | none => none
    else none
  | none => none
def eR2 (x : Sy × Nat) : Dt := .tuple [eS x.1, .int x.2]
def spr_read_at (n : Nat) : DSp := fun ds Φ Ξ => ∃ (ws : List Str) (k : Nat), ds = [.list (ws.map .str), .int k] ∧ OkWs ws ∧ k ≤ ws.length ∧ ws.length + 1 ≤ n + k ∧ (∀ x, pr n ws k = some x → Φ (.pu (eR2 x))) ∧ (pr n ws k = none → Ξ xNS)
def sp_read_at : DSp := spr_read_at 41
def spr_read_pair (n : Nat) : DSp := fun ds Φ Ξ => ∃ (ws : List Str) (k : Nat), ds = [.list (ws.map .str), .int k] ∧ OkWs ws ∧ k ≤ ws.length ∧ ws.length + 1 ≤ n + k ∧ (∀ x, prP n ws k = some x → Φ (.pu (eR2 x))) ∧ (prP n ws k = none → Ξ xNS)
def cv_MOST_WORDS : Dt := .int 40
abbrev N_word_at : List Str := ["words", "at"]
def d_word_at : DS := (dSeq (dIf (dTV (dBin oLt (dV 1) (dB bLen (dCons (dV 0) dNil)))) (dRet (dBin oIx (dV 0) (dV 1))) dNext)
  (dRet (dC (.str ""))))
abbrev N_read_pair : List Str := ["words", "at", "one", "middle", "word", "other", "end"]
def d_read_pair (n : Nat) : DS := (dSeq (dAsgX (spr_read_at n) (dCons (dV 0) (dCons (dV 1) dNil)) (dgT 2 (dgCons (dgN 2) (dgCons (dgN 3) dgNil))))
  (dSeq (dSetP 4 (dCall sp_word_at (dCons (dV 0) (dCons (dV 3) dNil))))
  (dSeq (dIf (dTV (dBin oNin (dV 4) (dTup (dCons (dC (.str "and")) (dCons (dC (.str "or")) dNil))))) (dRaise ⟨"NoSaying", []⟩) dNext)
  (dSeq (dAsgX (spr_read_at n) (dCons (dV 0) (dCons (dBin oAddU (dV 3) (dC (.int 1))) dNil)) (dgT 2 (dgCons (dgN 5) (dgCons (dgN 6) dgNil))))
  (dSeq (dIf (dTV (dBin oNe (dCall sp_word_at (dCons (dV 0) (dCons (dV 6) dNil))) (dC (.str ")")))) (dRaise ⟨"NoSaying", []⟩) dNext)
  (dSeq (dIf (dTV (dBin oEq (dV 4) (dC (.str "and")))) (dRet (dTup (dCons (dMake "Both" ["one", "other"] (dCons (dV 2) (dCons (dV 5) dNil))) (dCons (dBin oAddU (dV 6) (dC (.int 1))) dNil)))) dNext)
  (dRet (dTup (dCons (dMake "Either" ["one", "other"] (dCons (dV 2) (dCons (dV 5) dNil))) (dCons (dBin oAddU (dV 6) (dC (.int 1))) dNil))))))))))
abbrev N_read_at : List Str := ["words", "at", "word", "inner", "end"]
def d_read_at (n : Nat) : DS := (dSeq (dSetP 2 (dCall sp_word_at (dCons (dV 0) (dCons (dV 1) dNil))))
  (dSeq (dIf (dTV (dBin oEq (dV 2) (dC (.str "all")))) (dRet (dTup (dCons (dMake "Everywhere" [] dNil) (dCons (dBin oAddU (dV 1) (dC (.int 1))) dNil)))) dNext)
  (dSeq (dIf (dTV (dBin oEq (dV 2) (dC (.str "none")))) (dRet (dTup (dCons (dMake "Nowhere" [] dNil) (dCons (dBin oAddU (dV 1) (dC (.int 1))) dNil)))) dNext)
  (dSeq (dIf (dTV (dBin oEq (dV 2) (dC (.str "not")))) (dSeq (dAsgX (spr_read_at n) (dCons (dV 0) (dCons (dBin oAddU (dV 1) (dC (.int 1))) dNil)) (dgT 2 (dgCons (dgN 3) (dgCons (dgN 4) dgNil))))
  (dRet (dTup (dCons (dMake "Not" ["inner"] (dCons (dV 3) dNil)) (dCons (dV 4) dNil))))) dNext)
  (dSeq (dIf (dTV (dBin oEq (dV 2) (dC (.str "(")))) (dRetX (spr_read_pair n) (dCons (dV 0) (dCons (dBin oAddU (dV 1) (dC (.int 1))) dNil))) dNext)
  (dSeq (dIf (dTAnd (dTV (dBin oEq (dV 2) (dC (.str "sheet")))) (dTV (dCall sp_is_name (dCons (dCall sp_word_at (dCons (dV 0) (dCons (dBin oAddU (dV 1) (dC (.int 1))) dNil))) dNil)))) (dRet (dTup (dCons (dMake "OfSheet" ["sheet"] (dCons (dBin oIx (dV 0) (dBin oAddU (dV 1) (dC (.int 1)))) dNil)) (dCons (dBin oAddU (dV 1) (dC (.int 2))) dNil)))) dNext)
  (dSeq (dIf (dTNot (dTV (dCall sp_is_name (dCons (dV 2) dNil)))) (dRaise ⟨"NoSaying", []⟩) dNext)
  (dRet (dTup (dCons (dMake "OfLand" ["name"] (dCons (dV 2) dNil)) (dCons (dBin oAddU (dV 1) (dC (.int 1))) dNil)))))))))))
theorem rd_word_at (ds : List Dt) (Φ : Slot → Prop) (Ξ : XD → Prop) (h : sp_word_at ds Φ Ξ) : d_word_at (endsOf Φ Ξ) (rho0 N_word_at ds) := by
  obtain ⟨ws, k, rfl, hl, h⟩ := h
  have hz : (100000 : Nat) < sizeLine := by decide
  simp only [d_word_at, N_word_at, List.length_map, dRet, dRetF, dSetX, dCallX, dRetX, noOw, dTry, dCpy, dRaise, dRetO, dSetP, dSetS, dSetF, dSeq, dIf, dNext, dCall, dCallF, dB, dBin, dCons, dNil, dTup, dLst, dV, dC, dTV, onB, dTAnd, dTOr, dTNot, dAnd, dOr, dNot, dIfE, dIsN, dNotN, isN, dSl, dSlF, dNoPart, dPart, dPar, dParS, dAsg, dgN, dgT, dgCons, dgNil, dFE, dIsi, dListF, dNeg, dRev, dFrz, dApp, dAppS, dIns, dExtend, dClear, dReverse, dPop, oIx, oI, oIC, add_ii, add_ss, add_ll, add_tt, oSubI, oMulU, oMulI, oFd, oMd, oPw, oLt, oLe, oGt, oGe, oEq, oNe, getF, setF, Cl.d, getS, setS, purF_nil, purF_cons, purH, allF_nil, allF_cons, allH, rho0, endsOf, scalD, len_l, len_t, len_s, bAbs, bInt, bIntU, tup_l, tup_t, true_and, and_true, Option.some.injEq, exists_eq_left', decide_eq_true_eq, Bool.not_eq_true', decide_eq_false_iff_not, it_eQ0, it_eQ1, it_eP0, it_eP1, it_eS0, it_eS1, fits_eQ, fits_eP, fits_eS, eqv_eQ, eqv_eP, eqv_eS, eqv_int, eqv_bool, shp_int, shp_bool, shp_none, shp_eQ, shp_eP, shp_eS, dCont, dBreak, dXi, dSetG, dAppG, oIsB, oNotB, dTx, pJoin, pSplit, pPart, pStarts, bStr, bIntS, dFmt, dJs, ↓reduceIte, nsp_none, nsp_bool, nsp_int, nsp_str, nsp_list, nsp_tuple, nsp_eQ, nsp_eP, nsp_eS, dat_pu, dat_ow, seqD_l, seqD_t, not_true_eq_false, Bool.true_eq_false, Bool.not_not, List.length_cons, List.length_nil, mkP, mkS, fits_list, fits_tuple, isIntD, isBoolD, isListD, isStrD, isTupD, Bool.not_true, Bool.not_false, Bool.false_eq_true, it_l0, it_l1, it_l2, it_t0, it_t1, it_t2, shp_ps, shp_pt, shp_ss, shp_is, seqD_eQ, seqD_eP, seqD_eS, walkD_eP, walkD_eS, walkD_l, walkD_t]
  unfold wAt at h
  by_cases c : k < ws.length
  · refine ite_yes (by omega) ?_
    rw [List.getD_eq_getElem?_getD, List.getElem?_eq_getElem c] at h
    exact ⟨.str ws[k], it_at (k := k) rfl (by rw [List.getElem?_map, List.getElem?_eq_getElem c]; rfl), h⟩
  · refine ite_no (by omega) ?_
    rw [List.getD_eq_getElem?_getD, List.getElem?_eq_none (by omega)] at h
    exact h
theorem wAt_lt {ws : List Str} {k : Nat} (h : wAt ws k ≠ "") : k < ws.length := by
  apply Classical.byContradiction
  intro c
  apply h
  unfold wAt
  rw [List.getD_eq_getElem?_getD, List.getElem?_eq_none (by omega)]
  rfl
theorem wAt_ok {ws : List Str} (h : OkWs ws) (k : Nat) : okD (.str (wAt ws k)) := by
  by_cases c : k < ws.length
  · unfold wAt
    rw [List.getD_eq_getElem?_getD, List.getElem?_eq_getElem c]
    exact h.2 _ (List.getElem_mem c)
  · unfold wAt
    rw [List.getD_eq_getElem?_getD, List.getElem?_eq_none (by omega)]
    simp only [okD]
    exact ⟨by decide +kernel, by decide +kernel⟩
theorem ok_shp {z : Str} (h : okD (.str z)) : SeqAt.shaped (.str z) = true := by
  simp only [okD] at h
  exact shp_str h.2
/-- if x == "..": .. -/
theorem seq_eq {i : Nat} {w c : Str} {A u : DS} {E : DEnds} {ρ : Rho} (g : getF (allF ρ) i = some (.str w)) (hw : SeqAt.shaped (.str w) = true) (hc : SeqAt.shaped (.str c) = true) (h1 : w = c → A { E with nx := u E } ρ) (h2 : w ≠ c → u E ρ) : dSeq (dIf (dTV (dBin oEq (dV i) (dC (.str c)))) A dNext) u E ρ := by
  unfold dSeq dIf dTV dBin dV dC oEq
  rw [g]
  refine ⟨hw, hc, ?_⟩
  rw [eqv_str]
  show if decide (w = c) = true then _ else _
  by_cases k : w = c
  · rw [if_pos (decide_eq_true k)]
    exact h1 k
  · rw [if_neg (by simp [k])]
    exact h2 k
theorem pr_gt : ∀ (n : Nat) (ws : List Str) (k : Nat) (x : Sy × Nat), pr n ws k = some x → k < x.2
  | 0, ws, k, x, h => by cases h
  | n + 1, ws, k, x, h => by
    unfold pr at h
    split at h
    · cases h; exact Nat.lt_succ_self k
    split at h
    · cases h; exact Nat.lt_succ_self k
    split at h
    · split at h
      · rename_i t e q
        cases h
        have := pr_gt n ws (k + 1) _ q
        simp only at this ⊢
        omega
      · cases h
    split at h
    · split at h
      · rename_i a m q
        split at h
        · split at h
          · rename_i b e q2
            split at h
            · cases h
              have := pr_gt n ws (k + 1) _ q
              have := pr_gt n ws (m + 1) _ q2
              simp only at *
              omega
            · cases h
          · cases h
        · cases h
      · cases h
    split at h
    · cases h; simp
    split at h
    · cases h; exact Nat.lt_succ_self k
    · cases h
section
variable {n k : Nat} {ws : List Str}
theorem pr_all (c : wAt ws k = "all") : pr (n + 1) ws k = some (.all, k + 1) := by
  unfold pr
  rw [if_pos c]
theorem pr_none (c : wAt ws k = "none") : pr (n + 1) ws k = some (.none, k + 1) := by
  unfold pr
  rw [c, if_neg (by decide), if_pos rfl]
theorem pr_not (c : wAt ws k = "not") : pr (n + 1) ws k = match pr n ws (k + 1) with
      | some (t, e) => some (.not t, e)
      | none => none := by
  conv => lhs; unfold pr
  rw [c, if_neg (by decide), if_neg (by decide), if_pos rfl]
  all_goals rfl
theorem pr_op (c : wAt ws k = "(") : pr (n + 1) ws k = prP n ws (k + 1) := by
  unfold prP
  conv => lhs; unfold pr
  rw [c, if_neg (by decide), if_neg (by decide), if_neg (by decide), if_pos rfl]
  all_goals rfl
theorem pr_sheet (c : wAt ws k = "sheet") (h : isNm (wAt ws (k + 1)) = true) : pr (n + 1) ws k = some (.sheet (wAt ws (k + 1)), k + 2) := by
  unfold pr
  rw [c, if_neg (by decide), if_neg (by decide), if_neg (by decide), if_neg (by decide), if_pos ⟨rfl, h⟩]
theorem pr_name (c1 : wAt ws k ≠ "all") (c2 : wAt ws k ≠ "none") (c3 : wAt ws k ≠ "not") (c4 : wAt ws k ≠ "(") (c5 : ¬ (wAt ws k = "sheet" ∧ isNm (wAt ws (k + 1)) = true)) : pr (n + 1) ws k = if isNm (wAt ws k) = true then some (.name (wAt ws k), k + 1) else none := by
  unfold pr
  rw [if_neg c1, if_neg c2, if_neg c3, if_neg c4, if_neg c5]
end
theorem k_shp : SeqAt.shaped (.str "all") = true ∧ SeqAt.shaped (.str "none") = true ∧ SeqAt.shaped (.str "not") = true ∧ SeqAt.shaped (.str "(") = true ∧ SeqAt.shaped (.str "sheet") = true ∧ SeqAt.shaped (.str ")") = true ∧ SeqAt.shaped (.str "and") = true ∧ SeqAt.shaped (.tuple ([("and" : Str), "or"].map .str)) = true :=
  ⟨shp_str (by decide +kernel), shp_str (by decide +kernel), shp_str (by decide +kernel), shp_str (by decide +kernel), shp_str (by decide +kernel), shp_str (by decide +kernel), shp_str (by decide +kernel), shp_strs (by decide +kernel)⟩
theorem rd_read_at (n : Nat) (ds : List Dt) (Φ : Slot → Prop) (Ξ : XD → Prop) (h : spr_read_at (n + 1) ds Φ Ξ) : d_read_at n (endsOf Φ Ξ) (rho0 N_read_at ds) := by
  obtain ⟨ws, k, rfl, hw, hk, hn, hs, hx⟩ := h
  have hz : (100000 : Nat) < sizeLine := by decide
  have hl := hw.1
  obtain ⟨s1, s2, s3, s4, s5, s6, s7, s8⟩ := k_shp
  have ok := wAt_ok hw k
  have sw := ok_shp ok
  show dSeq _ _ _ [.pu (.list (ws.map .str)), .pu (.int k), .un, .un, .un]
  refine seq_cut' (fun ρ => ρ = [.pu (.list (ws.map .str)), .pu (.int k), .pu (.str (wAt ws k)), .un, .un]) (fun E _ _ hE => ?_) ?_
  · simp only [dRet, dRetF, dSetX, dCallX, dRetX, noOw, dTry, dCpy, dRaise, dRetO, dSetP, dSetS, dSetF, dSeq, dIf, dNext, dCall, dCallF, dB, dBin, dCons, dNil, dTup, dLst, dV, dC, dTV, onB, dTAnd, dTOr, dTNot, dAnd, dOr, dNot, dIfE, dIsN, dNotN, isN, dSl, dSlF, dNoPart, dPart, dPar, dParS, dAsg, dgN, dgT, dgCons, dgNil, dFE, dIsi, dListF, dNeg, dRev, dFrz, dApp, dAppS, dIns, dExtend, dClear, dReverse, dPop, oIx, oI, oIC, add_ii, add_ss, add_ll, add_tt, oSubI, oMulU, oMulI, oFd, oMd, oPw, oLt, oLe, oGt, oGe, oEq, oNe, getF, setF, Cl.d, getS, setS, purF_nil, purF_cons, purH, allF_nil, allF_cons, allH, rho0, endsOf, scalD, len_l, len_t, len_s, bAbs, bInt, bIntU, tup_l, tup_t, true_and, and_true, Option.some.injEq, exists_eq_left', decide_eq_true_eq, Bool.not_eq_true', decide_eq_false_iff_not, it_eQ0, it_eQ1, it_eP0, it_eP1, it_eS0, it_eS1, fits_eQ, fits_eP, fits_eS, eqv_eQ, eqv_eP, eqv_eS, eqv_int, eqv_bool, shp_int, shp_bool, shp_none, shp_eQ, shp_eP, shp_eS, dCont, dBreak, dXi, dSetG, dAppG, oIsB, oNotB, dTx, pJoin, pSplit, pPart, pStarts, bStr, bIntS, dFmt, dJs, ↓reduceIte, nsp_none, nsp_bool, nsp_int, nsp_str, nsp_list, nsp_tuple, nsp_eQ, nsp_eP, nsp_eS, dat_pu, dat_ow, seqD_l, seqD_t, not_true_eq_false, Bool.true_eq_false, Bool.not_not, List.length_cons, List.length_nil, mkP, mkS, fits_list, fits_tuple, isIntD, isBoolD, isListD, isStrD, isTupD, Bool.not_true, Bool.not_false, Bool.false_eq_true, it_l0, it_l1, it_l2, it_t0, it_t1, it_t2, shp_ps, shp_pt, shp_ss, shp_is, seqD_eQ, seqD_eP, seqD_eS, walkD_eP, walkD_eS, walkD_l, walkD_t]
    exact ⟨ws, k, rfl, by omega, hE _ rfl⟩
  rintro _ rfl
  refine seq_eq (w := wAt ws k) rfl sw s1 (fun c => ?_) fun c1 => ?_
  · simp only [dMake, List.map_nil, List.zip_nil_left, dRet, dRetF, dSetX, dCallX, dRetX, noOw, dTry, dCpy, dRaise, dRetO, dSetP, dSetS, dSetF, dSeq, dIf, dNext, dCall, dCallF, dB, dBin, dCons, dNil, dTup, dLst, dV, dC, dTV, onB, dTAnd, dTOr, dTNot, dAnd, dOr, dNot, dIfE, dIsN, dNotN, isN, dSl, dSlF, dNoPart, dPart, dPar, dParS, dAsg, dgN, dgT, dgCons, dgNil, dFE, dIsi, dListF, dNeg, dRev, dFrz, dApp, dAppS, dIns, dExtend, dClear, dReverse, dPop, oIx, oI, oIC, add_ii, add_ss, add_ll, add_tt, oSubI, oMulU, oMulI, oFd, oMd, oPw, oLt, oLe, oGt, oGe, oEq, oNe, getF, setF, Cl.d, getS, setS, purF_nil, purF_cons, purH, allF_nil, allF_cons, allH, rho0, endsOf, scalD, len_l, len_t, len_s, bAbs, bInt, bIntU, tup_l, tup_t, true_and, and_true, Option.some.injEq, exists_eq_left', decide_eq_true_eq, Bool.not_eq_true', decide_eq_false_iff_not, it_eQ0, it_eQ1, it_eP0, it_eP1, it_eS0, it_eS1, fits_eQ, fits_eP, fits_eS, eqv_eQ, eqv_eP, eqv_eS, eqv_int, eqv_bool, shp_int, shp_bool, shp_none, shp_eQ, shp_eP, shp_eS, dCont, dBreak, dXi, dSetG, dAppG, oIsB, oNotB, dTx, pJoin, pSplit, pPart, pStarts, bStr, bIntS, dFmt, dJs, ↓reduceIte, nsp_none, nsp_bool, nsp_int, nsp_str, nsp_list, nsp_tuple, nsp_eQ, nsp_eP, nsp_eS, dat_pu, dat_ow, seqD_l, seqD_t, not_true_eq_false, Bool.true_eq_false, Bool.not_not, List.length_cons, List.length_nil, mkP, mkS, fits_list, fits_tuple, isIntD, isBoolD, isListD, isStrD, isTupD, Bool.not_true, Bool.not_false, Bool.false_eq_true, it_l0, it_l1, it_l2, it_t0, it_t1, it_t2, shp_ps, shp_pt, shp_ss, shp_is, seqD_eQ, seqD_eP, seqD_eS, walkD_eP, walkD_eS, walkD_l, walkD_t]
    exact hs _ (pr_all c)
  refine seq_eq (w := wAt ws k) rfl sw s2 (fun c => ?_) fun c2 => ?_
  · simp only [dMake, List.map_nil, List.zip_nil_left, dRet, dRetF, dSetX, dCallX, dRetX, noOw, dTry, dCpy, dRaise, dRetO, dSetP, dSetS, dSetF, dSeq, dIf, dNext, dCall, dCallF, dB, dBin, dCons, dNil, dTup, dLst, dV, dC, dTV, onB, dTAnd, dTOr, dTNot, dAnd, dOr, dNot, dIfE, dIsN, dNotN, isN, dSl, dSlF, dNoPart, dPart, dPar, dParS, dAsg, dgN, dgT, dgCons, dgNil, dFE, dIsi, dListF, dNeg, dRev, dFrz, dApp, dAppS, dIns, dExtend, dClear, dReverse, dPop, oIx, oI, oIC, add_ii, add_ss, add_ll, add_tt, oSubI, oMulU, oMulI, oFd, oMd, oPw, oLt, oLe, oGt, oGe, oEq, oNe, getF, setF, Cl.d, getS, setS, purF_nil, purF_cons, purH, allF_nil, allF_cons, allH, rho0, endsOf, scalD, len_l, len_t, len_s, bAbs, bInt, bIntU, tup_l, tup_t, true_and, and_true, Option.some.injEq, exists_eq_left', decide_eq_true_eq, Bool.not_eq_true', decide_eq_false_iff_not, it_eQ0, it_eQ1, it_eP0, it_eP1, it_eS0, it_eS1, fits_eQ, fits_eP, fits_eS, eqv_eQ, eqv_eP, eqv_eS, eqv_int, eqv_bool, shp_int, shp_bool, shp_none, shp_eQ, shp_eP, shp_eS, dCont, dBreak, dXi, dSetG, dAppG, oIsB, oNotB, dTx, pJoin, pSplit, pPart, pStarts, bStr, bIntS, dFmt, dJs, ↓reduceIte, nsp_none, nsp_bool, nsp_int, nsp_str, nsp_list, nsp_tuple, nsp_eQ, nsp_eP, nsp_eS, dat_pu, dat_ow, seqD_l, seqD_t, not_true_eq_false, Bool.true_eq_false, Bool.not_not, List.length_cons, List.length_nil, mkP, mkS, fits_list, fits_tuple, isIntD, isBoolD, isListD, isStrD, isTupD, Bool.not_true, Bool.not_false, Bool.false_eq_true, it_l0, it_l1, it_l2, it_t0, it_t1, it_t2, shp_ps, shp_pt, shp_ss, shp_is, seqD_eQ, seqD_eP, seqD_eS, walkD_eP, walkD_eS, walkD_l, walkD_t]
    exact hs _ (pr_none c)
  refine seq_eq (w := wAt ws k) rfl sw s3 (fun c => ?_) fun c3 => ?_
  · have kl : k < ws.length := wAt_lt (by rw [c]; decide)
    rw [pr_not c] at hs hx
    refine seq_cut' (fun ρ => ∃ x, pr n ws (k + 1) = some x ∧ ρ = [.pu (.list (ws.map .str)), .pu (.int k), .pu (.str (wAt ws k)), .pu (eS x.1), .pu (.int x.2)]) (fun E _ hxr hE => ?_) ?_
    · simp only [dAsgX, dRet, dRetF, dSetX, dCallX, dRetX, noOw, dTry, dCpy, dRaise, dRetO, dSetP, dSetS, dSetF, dSeq, dIf, dNext, dCall, dCallF, dB, dBin, dCons, dNil, dTup, dLst, dV, dC, dTV, onB, dTAnd, dTOr, dTNot, dAnd, dOr, dNot, dIfE, dIsN, dNotN, isN, dSl, dSlF, dNoPart, dPart, dPar, dParS, dAsg, dgN, dgT, dgCons, dgNil, dFE, dIsi, dListF, dNeg, dRev, dFrz, dApp, dAppS, dIns, dExtend, dClear, dReverse, dPop, oIx, oI, oIC, add_ii, add_ss, add_ll, add_tt, oSubI, oMulU, oMulI, oFd, oMd, oPw, oLt, oLe, oGt, oGe, oEq, oNe, getF, setF, Cl.d, getS, setS, purF_nil, purF_cons, purH, allF_nil, allF_cons, allH, rho0, endsOf, scalD, len_l, len_t, len_s, bAbs, bInt, bIntU, tup_l, tup_t, true_and, and_true, Option.some.injEq, exists_eq_left', decide_eq_true_eq, Bool.not_eq_true', decide_eq_false_iff_not, it_eQ0, it_eQ1, it_eP0, it_eP1, it_eS0, it_eS1, fits_eQ, fits_eP, fits_eS, eqv_eQ, eqv_eP, eqv_eS, eqv_int, eqv_bool, shp_int, shp_bool, shp_none, shp_eQ, shp_eP, shp_eS, dCont, dBreak, dXi, dSetG, dAppG, oIsB, oNotB, dTx, pJoin, pSplit, pPart, pStarts, bStr, bIntS, dFmt, dJs, ↓reduceIte, nsp_none, nsp_bool, nsp_int, nsp_str, nsp_list, nsp_tuple, nsp_eQ, nsp_eP, nsp_eS, dat_pu, dat_ow, seqD_l, seqD_t, not_true_eq_false, Bool.true_eq_false, Bool.not_not, List.length_cons, List.length_nil, mkP, mkS, fits_list, fits_tuple, isIntD, isBoolD, isListD, isStrD, isTupD, Bool.not_true, Bool.not_false, Bool.false_eq_true, it_l0, it_l1, it_l2, it_t0, it_t1, it_t2, shp_ps, shp_pt, shp_ss, shp_is, seqD_eQ, seqD_eP, seqD_eS, walkD_eP, walkD_eS, walkD_l, walkD_t]
      refine ⟨ws, k + 1, by simp, hw, by omega, by omega, fun x hx1 => ?_, fun hx1 => ?_⟩
      · simp only [eR2, dRet, dRetF, dSetX, dCallX, dRetX, noOw, dTry, dCpy, dRaise, dRetO, dSetP, dSetS, dSetF, dSeq, dIf, dNext, dCall, dCallF, dB, dBin, dCons, dNil, dTup, dLst, dV, dC, dTV, onB, dTAnd, dTOr, dTNot, dAnd, dOr, dNot, dIfE, dIsN, dNotN, isN, dSl, dSlF, dNoPart, dPart, dPar, dParS, dAsg, dgN, dgT, dgCons, dgNil, dFE, dIsi, dListF, dNeg, dRev, dFrz, dApp, dAppS, dIns, dExtend, dClear, dReverse, dPop, oIx, oI, oIC, add_ii, add_ss, add_ll, add_tt, oSubI, oMulU, oMulI, oFd, oMd, oPw, oLt, oLe, oGt, oGe, oEq, oNe, getF, setF, Cl.d, getS, setS, purF_nil, purF_cons, purH, allF_nil, allF_cons, allH, rho0, endsOf, scalD, len_l, len_t, len_s, bAbs, bInt, bIntU, tup_l, tup_t, true_and, and_true, Option.some.injEq, exists_eq_left', decide_eq_true_eq, Bool.not_eq_true', decide_eq_false_iff_not, it_eQ0, it_eQ1, it_eP0, it_eP1, it_eS0, it_eS1, fits_eQ, fits_eP, fits_eS, eqv_eQ, eqv_eP, eqv_eS, eqv_int, eqv_bool, shp_int, shp_bool, shp_none, shp_eQ, shp_eP, shp_eS, dCont, dBreak, dXi, dSetG, dAppG, oIsB, oNotB, dTx, pJoin, pSplit, pPart, pStarts, bStr, bIntS, dFmt, dJs, ↓reduceIte, nsp_none, nsp_bool, nsp_int, nsp_str, nsp_list, nsp_tuple, nsp_eQ, nsp_eP, nsp_eS, dat_pu, dat_ow, seqD_l, seqD_t, not_true_eq_false, Bool.true_eq_false, Bool.not_not, List.length_cons, List.length_nil, mkP, mkS, fits_list, fits_tuple, isIntD, isBoolD, isListD, isStrD, isTupD, Bool.not_true, Bool.not_false, Bool.false_eq_true, it_l0, it_l1, it_l2, it_t0, it_t1, it_t2, shp_ps, shp_pt, shp_ss, shp_is, seqD_eQ, seqD_eP, seqD_eS, walkD_eP, walkD_eS, walkD_l, walkD_t]
        exact hE _ ⟨x, hx1, rfl⟩
      · rw [hxr]
        rw [hx1] at hx
        exact hx rfl
    · rintro _ ⟨x, hx1, rfl⟩
      rw [hx1] at hs
      simp only [dMake, dRet, dRetF, dSetX, dCallX, dRetX, noOw, dTry, dCpy, dRaise, dRetO, dSetP, dSetS, dSetF, dSeq, dIf, dNext, dCall, dCallF, dB, dBin, dCons, dNil, dTup, dLst, dV, dC, dTV, onB, dTAnd, dTOr, dTNot, dAnd, dOr, dNot, dIfE, dIsN, dNotN, isN, dSl, dSlF, dNoPart, dPart, dPar, dParS, dAsg, dgN, dgT, dgCons, dgNil, dFE, dIsi, dListF, dNeg, dRev, dFrz, dApp, dAppS, dIns, dExtend, dClear, dReverse, dPop, oIx, oI, oIC, add_ii, add_ss, add_ll, add_tt, oSubI, oMulU, oMulI, oFd, oMd, oPw, oLt, oLe, oGt, oGe, oEq, oNe, getF, setF, Cl.d, getS, setS, purF_nil, purF_cons, purH, allF_nil, allF_cons, allH, rho0, endsOf, scalD, len_l, len_t, len_s, bAbs, bInt, bIntU, tup_l, tup_t, true_and, and_true, Option.some.injEq, exists_eq_left', decide_eq_true_eq, Bool.not_eq_true', decide_eq_false_iff_not, it_eQ0, it_eQ1, it_eP0, it_eP1, it_eS0, it_eS1, fits_eQ, fits_eP, fits_eS, eqv_eQ, eqv_eP, eqv_eS, eqv_int, eqv_bool, shp_int, shp_bool, shp_none, shp_eQ, shp_eP, shp_eS, dCont, dBreak, dXi, dSetG, dAppG, oIsB, oNotB, dTx, pJoin, pSplit, pPart, pStarts, bStr, bIntS, dFmt, dJs, ↓reduceIte, nsp_none, nsp_bool, nsp_int, nsp_str, nsp_list, nsp_tuple, nsp_eQ, nsp_eP, nsp_eS, dat_pu, dat_ow, seqD_l, seqD_t, not_true_eq_false, Bool.true_eq_false, Bool.not_not, List.length_cons, List.length_nil, mkP, mkS, fits_list, fits_tuple, isIntD, isBoolD, isListD, isStrD, isTupD, Bool.not_true, Bool.not_false, Bool.false_eq_true, it_l0, it_l1, it_l2, it_t0, it_t1, it_t2, shp_ps, shp_pt, shp_ss, shp_is, seqD_eQ, seqD_eP, seqD_eS, walkD_eP, walkD_eS, walkD_l, walkD_t]
      exact hs _ rfl
  refine seq_eq (w := wAt ws k) rfl sw s4 (fun c => ?_) fun c4 => ?_
  · have kl : k < ws.length := wAt_lt (by rw [c]; decide)
    rw [pr_op c] at hs hx
    simp only [dRet, dRetF, dSetX, dCallX, dRetX, noOw, dTry, dCpy, dRaise, dRetO, dSetP, dSetS, dSetF, dSeq, dIf, dNext, dCall, dCallF, dB, dBin, dCons, dNil, dTup, dLst, dV, dC, dTV, onB, dTAnd, dTOr, dTNot, dAnd, dOr, dNot, dIfE, dIsN, dNotN, isN, dSl, dSlF, dNoPart, dPart, dPar, dParS, dAsg, dgN, dgT, dgCons, dgNil, dFE, dIsi, dListF, dNeg, dRev, dFrz, dApp, dAppS, dIns, dExtend, dClear, dReverse, dPop, oIx, oI, oIC, add_ii, add_ss, add_ll, add_tt, oSubI, oMulU, oMulI, oFd, oMd, oPw, oLt, oLe, oGt, oGe, oEq, oNe, getF, setF, Cl.d, getS, setS, purF_nil, purF_cons, purH, allF_nil, allF_cons, allH, rho0, endsOf, scalD, len_l, len_t, len_s, bAbs, bInt, bIntU, tup_l, tup_t, true_and, and_true, Option.some.injEq, exists_eq_left', decide_eq_true_eq, Bool.not_eq_true', decide_eq_false_iff_not, it_eQ0, it_eQ1, it_eP0, it_eP1, it_eS0, it_eS1, fits_eQ, fits_eP, fits_eS, eqv_eQ, eqv_eP, eqv_eS, eqv_int, eqv_bool, shp_int, shp_bool, shp_none, shp_eQ, shp_eP, shp_eS, dCont, dBreak, dXi, dSetG, dAppG, oIsB, oNotB, dTx, pJoin, pSplit, pPart, pStarts, bStr, bIntS, dFmt, dJs, ↓reduceIte, nsp_none, nsp_bool, nsp_int, nsp_str, nsp_list, nsp_tuple, nsp_eQ, nsp_eP, nsp_eS, dat_pu, dat_ow, seqD_l, seqD_t, not_true_eq_false, Bool.true_eq_false, Bool.not_not, List.length_cons, List.length_nil, mkP, mkS, fits_list, fits_tuple, isIntD, isBoolD, isListD, isStrD, isTupD, Bool.not_true, Bool.not_false, Bool.false_eq_true, it_l0, it_l1, it_l2, it_t0, it_t1, it_t2, shp_ps, shp_pt, shp_ss, shp_is, seqD_eQ, seqD_eP, seqD_eS, walkD_eP, walkD_eS, walkD_l, walkD_t]
    exact ⟨ws, k + 1, by simp, hw, by omega, by omega, hs, hx⟩
  have ok1 := wAt_ok hw (k + 1)
  refine seq_cut' (fun ρ => ¬ (wAt ws k = "sheet" ∧ isNm (wAt ws (k + 1)) = true) ∧ ρ = [.pu (.list (ws.map .str)), .pu (.int k), .pu (.str (wAt ws k)), .un, .un]) (fun E hr _ hE => ?_) ?_
  · simp only [sw, s5, eqv_str, dRet, dRetF, dSetX, dCallX, dRetX, noOw, dTry, dCpy, dRaise, dRetO, dSetP, dSetS, dSetF, dSeq, dIf, dNext, dCall, dCallF, dB, dBin, dCons, dNil, dTup, dLst, dV, dC, dTV, onB, dTAnd, dTOr, dTNot, dAnd, dOr, dNot, dIfE, dIsN, dNotN, isN, dSl, dSlF, dNoPart, dPart, dPar, dParS, dAsg, dgN, dgT, dgCons, dgNil, dFE, dIsi, dListF, dNeg, dRev, dFrz, dApp, dAppS, dIns, dExtend, dClear, dReverse, dPop, oIx, oI, oIC, add_ii, add_ss, add_ll, add_tt, oSubI, oMulU, oMulI, oFd, oMd, oPw, oLt, oLe, oGt, oGe, oEq, oNe, getF, setF, Cl.d, getS, setS, purF_nil, purF_cons, purH, allF_nil, allF_cons, allH, rho0, endsOf, scalD, len_l, len_t, len_s, bAbs, bInt, bIntU, tup_l, tup_t, true_and, and_true, Option.some.injEq, exists_eq_left', decide_eq_true_eq, Bool.not_eq_true', decide_eq_false_iff_not, it_eQ0, it_eQ1, it_eP0, it_eP1, it_eS0, it_eS1, fits_eQ, fits_eP, fits_eS, eqv_eQ, eqv_eP, eqv_eS, eqv_int, eqv_bool, shp_int, shp_bool, shp_none, shp_eQ, shp_eP, shp_eS, dCont, dBreak, dXi, dSetG, dAppG, oIsB, oNotB, dTx, pJoin, pSplit, pPart, pStarts, bStr, bIntS, dFmt, dJs, ↓reduceIte, nsp_none, nsp_bool, nsp_int, nsp_str, nsp_list, nsp_tuple, nsp_eQ, nsp_eP, nsp_eS, dat_pu, dat_ow, seqD_l, seqD_t, not_true_eq_false, Bool.true_eq_false, Bool.not_not, List.length_cons, List.length_nil, mkP, mkS, fits_list, fits_tuple, isIntD, isBoolD, isListD, isStrD, isTupD, Bool.not_true, Bool.not_false, Bool.false_eq_true, it_l0, it_l1, it_l2, it_t0, it_t1, it_t2, shp_ps, shp_pt, shp_ss, shp_is, seqD_eQ, seqD_eP, seqD_eS, walkD_eP, walkD_eS, walkD_l, walkD_t]
    by_cases c : wAt ws k = "sheet"
    · refine ite_yes c ⟨ws, k + 1, by simp, by omega, ?_⟩
      simp only [dRet, dRetF, dSetX, dCallX, dRetX, noOw, dTry, dCpy, dRaise, dRetO, dSetP, dSetS, dSetF, dSeq, dIf, dNext, dCall, dCallF, dB, dBin, dCons, dNil, dTup, dLst, dV, dC, dTV, onB, dTAnd, dTOr, dTNot, dAnd, dOr, dNot, dIfE, dIsN, dNotN, isN, dSl, dSlF, dNoPart, dPart, dPar, dParS, dAsg, dgN, dgT, dgCons, dgNil, dFE, dIsi, dListF, dNeg, dRev, dFrz, dApp, dAppS, dIns, dExtend, dClear, dReverse, dPop, oIx, oI, oIC, add_ii, add_ss, add_ll, add_tt, oSubI, oMulU, oMulI, oFd, oMd, oPw, oLt, oLe, oGt, oGe, oEq, oNe, getF, setF, Cl.d, getS, setS, purF_nil, purF_cons, purH, allF_nil, allF_cons, allH, rho0, endsOf, scalD, len_l, len_t, len_s, bAbs, bInt, bIntU, tup_l, tup_t, true_and, and_true, Option.some.injEq, exists_eq_left', decide_eq_true_eq, Bool.not_eq_true', decide_eq_false_iff_not, it_eQ0, it_eQ1, it_eP0, it_eP1, it_eS0, it_eS1, fits_eQ, fits_eP, fits_eS, eqv_eQ, eqv_eP, eqv_eS, eqv_int, eqv_bool, shp_int, shp_bool, shp_none, shp_eQ, shp_eP, shp_eS, dCont, dBreak, dXi, dSetG, dAppG, oIsB, oNotB, dTx, pJoin, pSplit, pPart, pStarts, bStr, bIntS, dFmt, dJs, ↓reduceIte, nsp_none, nsp_bool, nsp_int, nsp_str, nsp_list, nsp_tuple, nsp_eQ, nsp_eP, nsp_eS, dat_pu, dat_ow, seqD_l, seqD_t, not_true_eq_false, Bool.true_eq_false, Bool.not_not, List.length_cons, List.length_nil, mkP, mkS, fits_list, fits_tuple, isIntD, isBoolD, isListD, isStrD, isTupD, Bool.not_true, Bool.not_false, Bool.false_eq_true, it_l0, it_l1, it_l2, it_t0, it_t1, it_t2, shp_ps, shp_pt, shp_ss, shp_is, seqD_eQ, seqD_eP, seqD_eS, walkD_eP, walkD_eS, walkD_l, walkD_t]
      refine ⟨_, rfl, ok1, ?_⟩
      simp only [gName, dRet, dRetF, dSetX, dCallX, dRetX, noOw, dTry, dCpy, dRaise, dRetO, dSetP, dSetS, dSetF, dSeq, dIf, dNext, dCall, dCallF, dB, dBin, dCons, dNil, dTup, dLst, dV, dC, dTV, onB, dTAnd, dTOr, dTNot, dAnd, dOr, dNot, dIfE, dIsN, dNotN, isN, dSl, dSlF, dNoPart, dPart, dPar, dParS, dAsg, dgN, dgT, dgCons, dgNil, dFE, dIsi, dListF, dNeg, dRev, dFrz, dApp, dAppS, dIns, dExtend, dClear, dReverse, dPop, oIx, oI, oIC, add_ii, add_ss, add_ll, add_tt, oSubI, oMulU, oMulI, oFd, oMd, oPw, oLt, oLe, oGt, oGe, oEq, oNe, getF, setF, Cl.d, getS, setS, purF_nil, purF_cons, purH, allF_nil, allF_cons, allH, rho0, endsOf, scalD, len_l, len_t, len_s, bAbs, bInt, bIntU, tup_l, tup_t, true_and, and_true, Option.some.injEq, exists_eq_left', decide_eq_true_eq, Bool.not_eq_true', decide_eq_false_iff_not, it_eQ0, it_eQ1, it_eP0, it_eP1, it_eS0, it_eS1, fits_eQ, fits_eP, fits_eS, eqv_eQ, eqv_eP, eqv_eS, eqv_int, eqv_bool, shp_int, shp_bool, shp_none, shp_eQ, shp_eP, shp_eS, dCont, dBreak, dXi, dSetG, dAppG, oIsB, oNotB, dTx, pJoin, pSplit, pPart, pStarts, bStr, bIntS, dFmt, dJs, ↓reduceIte, nsp_none, nsp_bool, nsp_int, nsp_str, nsp_list, nsp_tuple, nsp_eQ, nsp_eP, nsp_eS, dat_pu, dat_ow, seqD_l, seqD_t, not_true_eq_false, Bool.true_eq_false, Bool.not_not, List.length_cons, List.length_nil, mkP, mkS, fits_list, fits_tuple, isIntD, isBoolD, isListD, isStrD, isTupD, Bool.not_true, Bool.not_false, Bool.false_eq_true, it_l0, it_l1, it_l2, it_t0, it_t1, it_t2, shp_ps, shp_pt, shp_ss, shp_is, seqD_eQ, seqD_eP, seqD_eS, walkD_eP, walkD_eS, walkD_l, walkD_t]
      by_cases q : isNm (wAt ws (k + 1)) = true
      · rw [if_pos q]
        have kl : k + 1 < ws.length := wAt_lt (fun z => by rw [z] at q; revert q; decide)
        have hs' := hs _ (pr_sheet c q)
        have e : wAt ws (k + 1) = ws[k + 1] := by
          unfold wAt
          rw [List.getD_eq_getElem?_getD, List.getElem?_eq_getElem kl]
          rfl
        simp only [dMake, List.length_map, dRet, dRetF, dSetX, dCallX, dRetX, noOw, dTry, dCpy, dRaise, dRetO, dSetP, dSetS, dSetF, dSeq, dIf, dNext, dCall, dCallF, dB, dBin, dCons, dNil, dTup, dLst, dV, dC, dTV, onB, dTAnd, dTOr, dTNot, dAnd, dOr, dNot, dIfE, dIsN, dNotN, isN, dSl, dSlF, dNoPart, dPart, dPar, dParS, dAsg, dgN, dgT, dgCons, dgNil, dFE, dIsi, dListF, dNeg, dRev, dFrz, dApp, dAppS, dIns, dExtend, dClear, dReverse, dPop, oIx, oI, oIC, add_ii, add_ss, add_ll, add_tt, oSubI, oMulU, oMulI, oFd, oMd, oPw, oLt, oLe, oGt, oGe, oEq, oNe, getF, setF, Cl.d, getS, setS, purF_nil, purF_cons, purH, allF_nil, allF_cons, allH, rho0, endsOf, scalD, len_l, len_t, len_s, bAbs, bInt, bIntU, tup_l, tup_t, true_and, and_true, Option.some.injEq, exists_eq_left', decide_eq_true_eq, Bool.not_eq_true', decide_eq_false_iff_not, it_eQ0, it_eQ1, it_eP0, it_eP1, it_eS0, it_eS1, fits_eQ, fits_eP, fits_eS, eqv_eQ, eqv_eP, eqv_eS, eqv_int, eqv_bool, shp_int, shp_bool, shp_none, shp_eQ, shp_eP, shp_eS, dCont, dBreak, dXi, dSetG, dAppG, oIsB, oNotB, dTx, pJoin, pSplit, pPart, pStarts, bStr, bIntS, dFmt, dJs, ↓reduceIte, nsp_none, nsp_bool, nsp_int, nsp_str, nsp_list, nsp_tuple, nsp_eQ, nsp_eP, nsp_eS, dat_pu, dat_ow, seqD_l, seqD_t, not_true_eq_false, Bool.true_eq_false, Bool.not_not, List.length_cons, List.length_nil, mkP, mkS, fits_list, fits_tuple, isIntD, isBoolD, isListD, isStrD, isTupD, Bool.not_true, Bool.not_false, Bool.false_eq_true, it_l0, it_l1, it_l2, it_t0, it_t1, it_t2, shp_ps, shp_pt, shp_ss, shp_is, seqD_eQ, seqD_eP, seqD_eS, walkD_eP, walkD_eS, walkD_l, walkD_t]
        refine ⟨.str ws[k + 1], it_at (k := k + 1) (by simp) (by rw [List.getElem?_map, List.getElem?_eq_getElem kl]; rfl), ?_⟩
        rw [hr]
        rw [e] at hs'
        exact hs'
      · rw [if_neg q]
        exact hE _ ⟨fun z => q z.2, rfl⟩
    · exact ite_no c (hE _ ⟨fun z => c z.1, rfl⟩)
  rintro _ ⟨c5, rfl⟩
  rw [pr_name c1 c2 c3 c4 c5] at hs hx
  refine seq_cut' (fun ρ => isNm (wAt ws k) = true ∧ ρ = [.pu (.list (ws.map .str)), .pu (.int k), .pu (.str (wAt ws k)), .un, .un]) (fun E _ hxr hE => ?_) ?_
  · simp only [dRet, dRetF, dSetX, dCallX, dRetX, noOw, dTry, dCpy, dRaise, dRetO, dSetP, dSetS, dSetF, dSeq, dIf, dNext, dCall, dCallF, dB, dBin, dCons, dNil, dTup, dLst, dV, dC, dTV, onB, dTAnd, dTOr, dTNot, dAnd, dOr, dNot, dIfE, dIsN, dNotN, isN, dSl, dSlF, dNoPart, dPart, dPar, dParS, dAsg, dgN, dgT, dgCons, dgNil, dFE, dIsi, dListF, dNeg, dRev, dFrz, dApp, dAppS, dIns, dExtend, dClear, dReverse, dPop, oIx, oI, oIC, add_ii, add_ss, add_ll, add_tt, oSubI, oMulU, oMulI, oFd, oMd, oPw, oLt, oLe, oGt, oGe, oEq, oNe, getF, setF, Cl.d, getS, setS, purF_nil, purF_cons, purH, allF_nil, allF_cons, allH, rho0, endsOf, scalD, len_l, len_t, len_s, bAbs, bInt, bIntU, tup_l, tup_t, true_and, and_true, Option.some.injEq, exists_eq_left', decide_eq_true_eq, Bool.not_eq_true', decide_eq_false_iff_not, it_eQ0, it_eQ1, it_eP0, it_eP1, it_eS0, it_eS1, fits_eQ, fits_eP, fits_eS, eqv_eQ, eqv_eP, eqv_eS, eqv_int, eqv_bool, shp_int, shp_bool, shp_none, shp_eQ, shp_eP, shp_eS, dCont, dBreak, dXi, dSetG, dAppG, oIsB, oNotB, dTx, pJoin, pSplit, pPart, pStarts, bStr, bIntS, dFmt, dJs, ↓reduceIte, nsp_none, nsp_bool, nsp_int, nsp_str, nsp_list, nsp_tuple, nsp_eQ, nsp_eP, nsp_eS, dat_pu, dat_ow, seqD_l, seqD_t, not_true_eq_false, Bool.true_eq_false, Bool.not_not, List.length_cons, List.length_nil, mkP, mkS, fits_list, fits_tuple, isIntD, isBoolD, isListD, isStrD, isTupD, Bool.not_true, Bool.not_false, Bool.false_eq_true, it_l0, it_l1, it_l2, it_t0, it_t1, it_t2, shp_ps, shp_pt, shp_ss, shp_is, seqD_eQ, seqD_eP, seqD_eS, walkD_eP, walkD_eS, walkD_l, walkD_t]
    refine ⟨_, rfl, ok, ?_⟩
    simp only [gName, dRet, dRetF, dSetX, dCallX, dRetX, noOw, dTry, dCpy, dRaise, dRetO, dSetP, dSetS, dSetF, dSeq, dIf, dNext, dCall, dCallF, dB, dBin, dCons, dNil, dTup, dLst, dV, dC, dTV, onB, dTAnd, dTOr, dTNot, dAnd, dOr, dNot, dIfE, dIsN, dNotN, isN, dSl, dSlF, dNoPart, dPart, dPar, dParS, dAsg, dgN, dgT, dgCons, dgNil, dFE, dIsi, dListF, dNeg, dRev, dFrz, dApp, dAppS, dIns, dExtend, dClear, dReverse, dPop, oIx, oI, oIC, add_ii, add_ss, add_ll, add_tt, oSubI, oMulU, oMulI, oFd, oMd, oPw, oLt, oLe, oGt, oGe, oEq, oNe, getF, setF, Cl.d, getS, setS, purF_nil, purF_cons, purH, allF_nil, allF_cons, allH, rho0, endsOf, scalD, len_l, len_t, len_s, bAbs, bInt, bIntU, tup_l, tup_t, true_and, and_true, Option.some.injEq, exists_eq_left', decide_eq_true_eq, Bool.not_eq_true', decide_eq_false_iff_not, it_eQ0, it_eQ1, it_eP0, it_eP1, it_eS0, it_eS1, fits_eQ, fits_eP, fits_eS, eqv_eQ, eqv_eP, eqv_eS, eqv_int, eqv_bool, shp_int, shp_bool, shp_none, shp_eQ, shp_eP, shp_eS, dCont, dBreak, dXi, dSetG, dAppG, oIsB, oNotB, dTx, pJoin, pSplit, pPart, pStarts, bStr, bIntS, dFmt, dJs, ↓reduceIte, nsp_none, nsp_bool, nsp_int, nsp_str, nsp_list, nsp_tuple, nsp_eQ, nsp_eP, nsp_eS, dat_pu, dat_ow, seqD_l, seqD_t, not_true_eq_false, Bool.true_eq_false, Bool.not_not, List.length_cons, List.length_nil, mkP, mkS, fits_list, fits_tuple, isIntD, isBoolD, isListD, isStrD, isTupD, Bool.not_true, Bool.not_false, Bool.false_eq_true, it_l0, it_l1, it_l2, it_t0, it_t1, it_t2, shp_ps, shp_pt, shp_ss, shp_is, seqD_eQ, seqD_eP, seqD_eS, walkD_eP, walkD_eS, walkD_l, walkD_t]
    cases q : isNm (wAt ws k) with
    | true =>
      simp only [dRet, dRetF, dSetX, dCallX, dRetX, noOw, dTry, dCpy, dRaise, dRetO, dSetP, dSetS, dSetF, dSeq, dIf, dNext, dCall, dCallF, dB, dBin, dCons, dNil, dTup, dLst, dV, dC, dTV, onB, dTAnd, dTOr, dTNot, dAnd, dOr, dNot, dIfE, dIsN, dNotN, isN, dSl, dSlF, dNoPart, dPart, dPar, dParS, dAsg, dgN, dgT, dgCons, dgNil, dFE, dIsi, dListF, dNeg, dRev, dFrz, dApp, dAppS, dIns, dExtend, dClear, dReverse, dPop, oIx, oI, oIC, add_ii, add_ss, add_ll, add_tt, oSubI, oMulU, oMulI, oFd, oMd, oPw, oLt, oLe, oGt, oGe, oEq, oNe, getF, setF, Cl.d, getS, setS, purF_nil, purF_cons, purH, allF_nil, allF_cons, allH, rho0, endsOf, scalD, len_l, len_t, len_s, bAbs, bInt, bIntU, tup_l, tup_t, true_and, and_true, Option.some.injEq, exists_eq_left', decide_eq_true_eq, Bool.not_eq_true', decide_eq_false_iff_not, it_eQ0, it_eQ1, it_eP0, it_eP1, it_eS0, it_eS1, fits_eQ, fits_eP, fits_eS, eqv_eQ, eqv_eP, eqv_eS, eqv_int, eqv_bool, shp_int, shp_bool, shp_none, shp_eQ, shp_eP, shp_eS, dCont, dBreak, dXi, dSetG, dAppG, oIsB, oNotB, dTx, pJoin, pSplit, pPart, pStarts, bStr, bIntS, dFmt, dJs, ↓reduceIte, nsp_none, nsp_bool, nsp_int, nsp_str, nsp_list, nsp_tuple, nsp_eQ, nsp_eP, nsp_eS, dat_pu, dat_ow, seqD_l, seqD_t, not_true_eq_false, Bool.true_eq_false, Bool.not_not, List.length_cons, List.length_nil, mkP, mkS, fits_list, fits_tuple, isIntD, isBoolD, isListD, isStrD, isTupD, Bool.not_true, Bool.not_false, Bool.false_eq_true, it_l0, it_l1, it_l2, it_t0, it_t1, it_t2, shp_ps, shp_pt, shp_ss, shp_is, seqD_eQ, seqD_eP, seqD_eS, walkD_eP, walkD_eS, walkD_l, walkD_t]
      exact hE _ ⟨q, rfl⟩
    | false =>
      simp only [dRet, dRetF, dSetX, dCallX, dRetX, noOw, dTry, dCpy, dRaise, dRetO, dSetP, dSetS, dSetF, dSeq, dIf, dNext, dCall, dCallF, dB, dBin, dCons, dNil, dTup, dLst, dV, dC, dTV, onB, dTAnd, dTOr, dTNot, dAnd, dOr, dNot, dIfE, dIsN, dNotN, isN, dSl, dSlF, dNoPart, dPart, dPar, dParS, dAsg, dgN, dgT, dgCons, dgNil, dFE, dIsi, dListF, dNeg, dRev, dFrz, dApp, dAppS, dIns, dExtend, dClear, dReverse, dPop, oIx, oI, oIC, add_ii, add_ss, add_ll, add_tt, oSubI, oMulU, oMulI, oFd, oMd, oPw, oLt, oLe, oGt, oGe, oEq, oNe, getF, setF, Cl.d, getS, setS, purF_nil, purF_cons, purH, allF_nil, allF_cons, allH, rho0, endsOf, scalD, len_l, len_t, len_s, bAbs, bInt, bIntU, tup_l, tup_t, true_and, and_true, Option.some.injEq, exists_eq_left', decide_eq_true_eq, Bool.not_eq_true', decide_eq_false_iff_not, it_eQ0, it_eQ1, it_eP0, it_eP1, it_eS0, it_eS1, fits_eQ, fits_eP, fits_eS, eqv_eQ, eqv_eP, eqv_eS, eqv_int, eqv_bool, shp_int, shp_bool, shp_none, shp_eQ, shp_eP, shp_eS, dCont, dBreak, dXi, dSetG, dAppG, oIsB, oNotB, dTx, pJoin, pSplit, pPart, pStarts, bStr, bIntS, dFmt, dJs, ↓reduceIte, nsp_none, nsp_bool, nsp_int, nsp_str, nsp_list, nsp_tuple, nsp_eQ, nsp_eP, nsp_eS, dat_pu, dat_ow, seqD_l, seqD_t, not_true_eq_false, Bool.true_eq_false, Bool.not_not, List.length_cons, List.length_nil, mkP, mkS, fits_list, fits_tuple, isIntD, isBoolD, isListD, isStrD, isTupD, Bool.not_true, Bool.not_false, Bool.false_eq_true, it_l0, it_l1, it_l2, it_t0, it_t1, it_t2, shp_ps, shp_pt, shp_ss, shp_is, seqD_eQ, seqD_eP, seqD_eS, walkD_eP, walkD_eS, walkD_l, walkD_t]
      rw [hxr]
      exact hx (by rw [q]; rfl)
  rintro _ ⟨q, rfl⟩
  rw [if_pos q] at hs
  simp only [dMake, dRet, dRetF, dSetX, dCallX, dRetX, noOw, dTry, dCpy, dRaise, dRetO, dSetP, dSetS, dSetF, dSeq, dIf, dNext, dCall, dCallF, dB, dBin, dCons, dNil, dTup, dLst, dV, dC, dTV, onB, dTAnd, dTOr, dTNot, dAnd, dOr, dNot, dIfE, dIsN, dNotN, isN, dSl, dSlF, dNoPart, dPart, dPar, dParS, dAsg, dgN, dgT, dgCons, dgNil, dFE, dIsi, dListF, dNeg, dRev, dFrz, dApp, dAppS, dIns, dExtend, dClear, dReverse, dPop, oIx, oI, oIC, add_ii, add_ss, add_ll, add_tt, oSubI, oMulU, oMulI, oFd, oMd, oPw, oLt, oLe, oGt, oGe, oEq, oNe, getF, setF, Cl.d, getS, setS, purF_nil, purF_cons, purH, allF_nil, allF_cons, allH, rho0, endsOf, scalD, len_l, len_t, len_s, bAbs, bInt, bIntU, tup_l, tup_t, true_and, and_true, Option.some.injEq, exists_eq_left', decide_eq_true_eq, Bool.not_eq_true', decide_eq_false_iff_not, it_eQ0, it_eQ1, it_eP0, it_eP1, it_eS0, it_eS1, fits_eQ, fits_eP, fits_eS, eqv_eQ, eqv_eP, eqv_eS, eqv_int, eqv_bool, shp_int, shp_bool, shp_none, shp_eQ, shp_eP, shp_eS, dCont, dBreak, dXi, dSetG, dAppG, oIsB, oNotB, dTx, pJoin, pSplit, pPart, pStarts, bStr, bIntS, dFmt, dJs, ↓reduceIte, nsp_none, nsp_bool, nsp_int, nsp_str, nsp_list, nsp_tuple, nsp_eQ, nsp_eP, nsp_eS, dat_pu, dat_ow, seqD_l, seqD_t, not_true_eq_false, Bool.true_eq_false, Bool.not_not, List.length_cons, List.length_nil, mkP, mkS, fits_list, fits_tuple, isIntD, isBoolD, isListD, isStrD, isTupD, Bool.not_true, Bool.not_false, Bool.false_eq_true, it_l0, it_l1, it_l2, it_t0, it_t1, it_t2, shp_ps, shp_pt, shp_ss, shp_is, seqD_eQ, seqD_eP, seqD_eS, walkD_eP, walkD_eS, walkD_l, walkD_t]
  exact hs _ rfl
theorem and_or : (dTup (dCons (dC (.str "and")) (dCons (dC (.str "or")) dNil))) = dC (.tuple ([("and" : Str), "or"].map .str)) := rfl
theorem rd_read_pair (n : Nat) (ds : List Dt) (Φ : Slot → Prop) (Ξ : XD → Prop) (h : spr_read_pair n ds Φ Ξ) : d_read_pair n (endsOf Φ Ξ) (rho0 N_read_pair ds) := by
  obtain ⟨ws, k, rfl, hw, hk, hn, hs, hx⟩ := h
  have hz : (100000 : Nat) < sizeLine := by decide
  have hl := hw.1
  obtain ⟨s1, s2, s3, s4, s5, s6, s7, s8⟩ := k_shp
  unfold prP at hs hx
  show dSeq _ _ _ [.pu (.list (ws.map .str)), .pu (.int k), .un, .un, .un, .un, .un]
  refine seq_cut' (fun ρ => ∃ a m, pr n ws k = some (a, m) ∧ ρ = [.pu (.list (ws.map .str)), .pu (.int k), .pu (eS a), .pu (.int m), .un, .un, .un]) (fun E _ hxr hE => ?_) ?_
  · simp only [dAsgX, dRet, dRetF, dSetX, dCallX, dRetX, noOw, dTry, dCpy, dRaise, dRetO, dSetP, dSetS, dSetF, dSeq, dIf, dNext, dCall, dCallF, dB, dBin, dCons, dNil, dTup, dLst, dV, dC, dTV, onB, dTAnd, dTOr, dTNot, dAnd, dOr, dNot, dIfE, dIsN, dNotN, isN, dSl, dSlF, dNoPart, dPart, dPar, dParS, dAsg, dgN, dgT, dgCons, dgNil, dFE, dIsi, dListF, dNeg, dRev, dFrz, dApp, dAppS, dIns, dExtend, dClear, dReverse, dPop, oIx, oI, oIC, add_ii, add_ss, add_ll, add_tt, oSubI, oMulU, oMulI, oFd, oMd, oPw, oLt, oLe, oGt, oGe, oEq, oNe, getF, setF, Cl.d, getS, setS, purF_nil, purF_cons, purH, allF_nil, allF_cons, allH, rho0, endsOf, scalD, len_l, len_t, len_s, bAbs, bInt, bIntU, tup_l, tup_t, true_and, and_true, Option.some.injEq, exists_eq_left', decide_eq_true_eq, Bool.not_eq_true', decide_eq_false_iff_not, it_eQ0, it_eQ1, it_eP0, it_eP1, it_eS0, it_eS1, fits_eQ, fits_eP, fits_eS, eqv_eQ, eqv_eP, eqv_eS, eqv_int, eqv_bool, shp_int, shp_bool, shp_none, shp_eQ, shp_eP, shp_eS, dCont, dBreak, dXi, dSetG, dAppG, oIsB, oNotB, dTx, pJoin, pSplit, pPart, pStarts, bStr, bIntS, dFmt, dJs, ↓reduceIte, nsp_none, nsp_bool, nsp_int, nsp_str, nsp_list, nsp_tuple, nsp_eQ, nsp_eP, nsp_eS, dat_pu, dat_ow, seqD_l, seqD_t, not_true_eq_false, Bool.true_eq_false, Bool.not_not, List.length_cons, List.length_nil, mkP, mkS, fits_list, fits_tuple, isIntD, isBoolD, isListD, isStrD, isTupD, Bool.not_true, Bool.not_false, Bool.false_eq_true, it_l0, it_l1, it_l2, it_t0, it_t1, it_t2, shp_ps, shp_pt, shp_ss, shp_is, seqD_eQ, seqD_eP, seqD_eS, walkD_eP, walkD_eS, walkD_l, walkD_t]
    refine ⟨ws, k, rfl, hw, by omega, by omega, fun x hx1 => ?_, fun hx1 => ?_⟩
    · simp only [eR2, dRet, dRetF, dSetX, dCallX, dRetX, noOw, dTry, dCpy, dRaise, dRetO, dSetP, dSetS, dSetF, dSeq, dIf, dNext, dCall, dCallF, dB, dBin, dCons, dNil, dTup, dLst, dV, dC, dTV, onB, dTAnd, dTOr, dTNot, dAnd, dOr, dNot, dIfE, dIsN, dNotN, isN, dSl, dSlF, dNoPart, dPart, dPar, dParS, dAsg, dgN, dgT, dgCons, dgNil, dFE, dIsi, dListF, dNeg, dRev, dFrz, dApp, dAppS, dIns, dExtend, dClear, dReverse, dPop, oIx, oI, oIC, add_ii, add_ss, add_ll, add_tt, oSubI, oMulU, oMulI, oFd, oMd, oPw, oLt, oLe, oGt, oGe, oEq, oNe, getF, setF, Cl.d, getS, setS, purF_nil, purF_cons, purH, allF_nil, allF_cons, allH, rho0, endsOf, scalD, len_l, len_t, len_s, bAbs, bInt, bIntU, tup_l, tup_t, true_and, and_true, Option.some.injEq, exists_eq_left', decide_eq_true_eq, Bool.not_eq_true', decide_eq_false_iff_not, it_eQ0, it_eQ1, it_eP0, it_eP1, it_eS0, it_eS1, fits_eQ, fits_eP, fits_eS, eqv_eQ, eqv_eP, eqv_eS, eqv_int, eqv_bool, shp_int, shp_bool, shp_none, shp_eQ, shp_eP, shp_eS, dCont, dBreak, dXi, dSetG, dAppG, oIsB, oNotB, dTx, pJoin, pSplit, pPart, pStarts, bStr, bIntS, dFmt, dJs, ↓reduceIte, nsp_none, nsp_bool, nsp_int, nsp_str, nsp_list, nsp_tuple, nsp_eQ, nsp_eP, nsp_eS, dat_pu, dat_ow, seqD_l, seqD_t, not_true_eq_false, Bool.true_eq_false, Bool.not_not, List.length_cons, List.length_nil, mkP, mkS, fits_list, fits_tuple, isIntD, isBoolD, isListD, isStrD, isTupD, Bool.not_true, Bool.not_false, Bool.false_eq_true, it_l0, it_l1, it_l2, it_t0, it_t1, it_t2, shp_ps, shp_pt, shp_ss, shp_is, seqD_eQ, seqD_eP, seqD_eS, walkD_eP, walkD_eS, walkD_l, walkD_t]
      exact hE _ ⟨x.1, x.2, hx1, rfl⟩
    · rw [hxr]
      rw [hx1] at hx
      exact hx rfl
  rintro _ ⟨a, m, e1, rfl⟩
  have g1 := pr_gt n ws k _ e1
  simp only at g1
  simp only [e1] at hs hx
  have sm := ok_shp (wAt_ok hw m)
  refine seq_cut' (fun ρ => ρ = [.pu (.list (ws.map .str)), .pu (.int k), .pu (eS a), .pu (.int m), .pu (.str (wAt ws m)), .un, .un]) (fun E _ _ hE => ?_) ?_
  · simp only [dRet, dRetF, dSetX, dCallX, dRetX, noOw, dTry, dCpy, dRaise, dRetO, dSetP, dSetS, dSetF, dSeq, dIf, dNext, dCall, dCallF, dB, dBin, dCons, dNil, dTup, dLst, dV, dC, dTV, onB, dTAnd, dTOr, dTNot, dAnd, dOr, dNot, dIfE, dIsN, dNotN, isN, dSl, dSlF, dNoPart, dPart, dPar, dParS, dAsg, dgN, dgT, dgCons, dgNil, dFE, dIsi, dListF, dNeg, dRev, dFrz, dApp, dAppS, dIns, dExtend, dClear, dReverse, dPop, oIx, oI, oIC, add_ii, add_ss, add_ll, add_tt, oSubI, oMulU, oMulI, oFd, oMd, oPw, oLt, oLe, oGt, oGe, oEq, oNe, getF, setF, Cl.d, getS, setS, purF_nil, purF_cons, purH, allF_nil, allF_cons, allH, rho0, endsOf, scalD, len_l, len_t, len_s, bAbs, bInt, bIntU, tup_l, tup_t, true_and, and_true, Option.some.injEq, exists_eq_left', decide_eq_true_eq, Bool.not_eq_true', decide_eq_false_iff_not, it_eQ0, it_eQ1, it_eP0, it_eP1, it_eS0, it_eS1, fits_eQ, fits_eP, fits_eS, eqv_eQ, eqv_eP, eqv_eS, eqv_int, eqv_bool, shp_int, shp_bool, shp_none, shp_eQ, shp_eP, shp_eS, dCont, dBreak, dXi, dSetG, dAppG, oIsB, oNotB, dTx, pJoin, pSplit, pPart, pStarts, bStr, bIntS, dFmt, dJs, ↓reduceIte, nsp_none, nsp_bool, nsp_int, nsp_str, nsp_list, nsp_tuple, nsp_eQ, nsp_eP, nsp_eS, dat_pu, dat_ow, seqD_l, seqD_t, not_true_eq_false, Bool.true_eq_false, Bool.not_not, List.length_cons, List.length_nil, mkP, mkS, fits_list, fits_tuple, isIntD, isBoolD, isListD, isStrD, isTupD, Bool.not_true, Bool.not_false, Bool.false_eq_true, it_l0, it_l1, it_l2, it_t0, it_t1, it_t2, shp_ps, shp_pt, shp_ss, shp_is, seqD_eQ, seqD_eP, seqD_eS, walkD_eP, walkD_eS, walkD_l, walkD_t]
    exact ⟨ws, m, rfl, by omega, hE _ rfl⟩
  rintro _ rfl
  rw [and_or]
  refine seq_cut' (fun ρ => (wAt ws m = "and" ∨ wAt ws m = "or") ∧ ρ = [.pu (.list (ws.map .str)), .pu (.int k), .pu (eS a), .pu (.int m), .pu (.str (wAt ws m)), .un, .un]) (fun E _ hxr hE => ?_) ?_
  · simp only [oNin, sm, s8, any_str, dRet, dRetF, dSetX, dCallX, dRetX, noOw, dTry, dCpy, dRaise, dRetO, dSetP, dSetS, dSetF, dSeq, dIf, dNext, dCall, dCallF, dB, dBin, dCons, dNil, dTup, dLst, dV, dC, dTV, onB, dTAnd, dTOr, dTNot, dAnd, dOr, dNot, dIfE, dIsN, dNotN, isN, dSl, dSlF, dNoPart, dPart, dPar, dParS, dAsg, dgN, dgT, dgCons, dgNil, dFE, dIsi, dListF, dNeg, dRev, dFrz, dApp, dAppS, dIns, dExtend, dClear, dReverse, dPop, oIx, oI, oIC, add_ii, add_ss, add_ll, add_tt, oSubI, oMulU, oMulI, oFd, oMd, oPw, oLt, oLe, oGt, oGe, oEq, oNe, getF, setF, Cl.d, getS, setS, purF_nil, purF_cons, purH, allF_nil, allF_cons, allH, rho0, endsOf, scalD, len_l, len_t, len_s, bAbs, bInt, bIntU, tup_l, tup_t, true_and, and_true, Option.some.injEq, exists_eq_left', decide_eq_true_eq, Bool.not_eq_true', decide_eq_false_iff_not, it_eQ0, it_eQ1, it_eP0, it_eP1, it_eS0, it_eS1, fits_eQ, fits_eP, fits_eS, eqv_eQ, eqv_eP, eqv_eS, eqv_int, eqv_bool, shp_int, shp_bool, shp_none, shp_eQ, shp_eP, shp_eS, dCont, dBreak, dXi, dSetG, dAppG, oIsB, oNotB, dTx, pJoin, pSplit, pPart, pStarts, bStr, bIntS, dFmt, dJs, ↓reduceIte, nsp_none, nsp_bool, nsp_int, nsp_str, nsp_list, nsp_tuple, nsp_eQ, nsp_eP, nsp_eS, dat_pu, dat_ow, seqD_l, seqD_t, not_true_eq_false, Bool.true_eq_false, Bool.not_not, List.length_cons, List.length_nil, mkP, mkS, fits_list, fits_tuple, isIntD, isBoolD, isListD, isStrD, isTupD, Bool.not_true, Bool.not_false, Bool.false_eq_true, it_l0, it_l1, it_l2, it_t0, it_t1, it_t2, shp_ps, shp_pt, shp_ss, shp_is, seqD_eQ, seqD_eP, seqD_eS, walkD_eP, walkD_eS, walkD_l, walkD_t]
    by_cases c : wAt ws m ∈ ([("and" : Str), "or"] : List Str)
    · refine ite_no (fun z => z c) ?_
      exact hE _ ⟨by simpa using c, rfl⟩
    · refine ite_yes c ?_
      rw [hxr]
      exact hx (if_neg (by simpa using c))
  rintro _ ⟨c, rfl⟩
  simp only [if_pos c] at hs hx
  have ml : m < ws.length := wAt_lt (by rcases c with c | c <;> rw [c] <;> decide)
  refine seq_cut' (fun ρ => ∃ b e, pr n ws (m + 1) = some (b, e) ∧ ρ = [.pu (.list (ws.map .str)), .pu (.int k), .pu (eS a), .pu (.int m), .pu (.str (wAt ws m)), .pu (eS b), .pu (.int e)]) (fun E _ hxr hE => ?_) ?_
  · simp only [dAsgX, dRet, dRetF, dSetX, dCallX, dRetX, noOw, dTry, dCpy, dRaise, dRetO, dSetP, dSetS, dSetF, dSeq, dIf, dNext, dCall, dCallF, dB, dBin, dCons, dNil, dTup, dLst, dV, dC, dTV, onB, dTAnd, dTOr, dTNot, dAnd, dOr, dNot, dIfE, dIsN, dNotN, isN, dSl, dSlF, dNoPart, dPart, dPar, dParS, dAsg, dgN, dgT, dgCons, dgNil, dFE, dIsi, dListF, dNeg, dRev, dFrz, dApp, dAppS, dIns, dExtend, dClear, dReverse, dPop, oIx, oI, oIC, add_ii, add_ss, add_ll, add_tt, oSubI, oMulU, oMulI, oFd, oMd, oPw, oLt, oLe, oGt, oGe, oEq, oNe, getF, setF, Cl.d, getS, setS, purF_nil, purF_cons, purH, allF_nil, allF_cons, allH, rho0, endsOf, scalD, len_l, len_t, len_s, bAbs, bInt, bIntU, tup_l, tup_t, true_and, and_true, Option.some.injEq, exists_eq_left', decide_eq_true_eq, Bool.not_eq_true', decide_eq_false_iff_not, it_eQ0, it_eQ1, it_eP0, it_eP1, it_eS0, it_eS1, fits_eQ, fits_eP, fits_eS, eqv_eQ, eqv_eP, eqv_eS, eqv_int, eqv_bool, shp_int, shp_bool, shp_none, shp_eQ, shp_eP, shp_eS, dCont, dBreak, dXi, dSetG, dAppG, oIsB, oNotB, dTx, pJoin, pSplit, pPart, pStarts, bStr, bIntS, dFmt, dJs, ↓reduceIte, nsp_none, nsp_bool, nsp_int, nsp_str, nsp_list, nsp_tuple, nsp_eQ, nsp_eP, nsp_eS, dat_pu, dat_ow, seqD_l, seqD_t, not_true_eq_false, Bool.true_eq_false, Bool.not_not, List.length_cons, List.length_nil, mkP, mkS, fits_list, fits_tuple, isIntD, isBoolD, isListD, isStrD, isTupD, Bool.not_true, Bool.not_false, Bool.false_eq_true, it_l0, it_l1, it_l2, it_t0, it_t1, it_t2, shp_ps, shp_pt, shp_ss, shp_is, seqD_eQ, seqD_eP, seqD_eS, walkD_eP, walkD_eS, walkD_l, walkD_t]
    refine ⟨ws, m + 1, by simp, hw, by omega, by omega, fun x hx1 => ?_, fun hx1 => ?_⟩
    · simp only [eR2, dRet, dRetF, dSetX, dCallX, dRetX, noOw, dTry, dCpy, dRaise, dRetO, dSetP, dSetS, dSetF, dSeq, dIf, dNext, dCall, dCallF, dB, dBin, dCons, dNil, dTup, dLst, dV, dC, dTV, onB, dTAnd, dTOr, dTNot, dAnd, dOr, dNot, dIfE, dIsN, dNotN, isN, dSl, dSlF, dNoPart, dPart, dPar, dParS, dAsg, dgN, dgT, dgCons, dgNil, dFE, dIsi, dListF, dNeg, dRev, dFrz, dApp, dAppS, dIns, dExtend, dClear, dReverse, dPop, oIx, oI, oIC, add_ii, add_ss, add_ll, add_tt, oSubI, oMulU, oMulI, oFd, oMd, oPw, oLt, oLe, oGt, oGe, oEq, oNe, getF, setF, Cl.d, getS, setS, purF_nil, purF_cons, purH, allF_nil, allF_cons, allH, rho0, endsOf, scalD, len_l, len_t, len_s, bAbs, bInt, bIntU, tup_l, tup_t, true_and, and_true, Option.some.injEq, exists_eq_left', decide_eq_true_eq, Bool.not_eq_true', decide_eq_false_iff_not, it_eQ0, it_eQ1, it_eP0, it_eP1, it_eS0, it_eS1, fits_eQ, fits_eP, fits_eS, eqv_eQ, eqv_eP, eqv_eS, eqv_int, eqv_bool, shp_int, shp_bool, shp_none, shp_eQ, shp_eP, shp_eS, dCont, dBreak, dXi, dSetG, dAppG, oIsB, oNotB, dTx, pJoin, pSplit, pPart, pStarts, bStr, bIntS, dFmt, dJs, ↓reduceIte, nsp_none, nsp_bool, nsp_int, nsp_str, nsp_list, nsp_tuple, nsp_eQ, nsp_eP, nsp_eS, dat_pu, dat_ow, seqD_l, seqD_t, not_true_eq_false, Bool.true_eq_false, Bool.not_not, List.length_cons, List.length_nil, mkP, mkS, fits_list, fits_tuple, isIntD, isBoolD, isListD, isStrD, isTupD, Bool.not_true, Bool.not_false, Bool.false_eq_true, it_l0, it_l1, it_l2, it_t0, it_t1, it_t2, shp_ps, shp_pt, shp_ss, shp_is, seqD_eQ, seqD_eP, seqD_eS, walkD_eP, walkD_eS, walkD_l, walkD_t]
      exact hE _ ⟨x.1, x.2, hx1, rfl⟩
    · rw [hxr]
      rw [hx1] at hx
      exact hx rfl
  rintro _ ⟨b, e, e2, rfl⟩
  simp only [e2] at hs hx
  have se := ok_shp (wAt_ok hw e)
  refine seq_cut' (fun ρ => wAt ws e = ")" ∧ ρ = [.pu (.list (ws.map .str)), .pu (.int k), .pu (eS a), .pu (.int m), .pu (.str (wAt ws m)), .pu (eS b), .pu (.int e)]) (fun E _ hxr hE => ?_) ?_
  · simp only [dRet, dRetF, dSetX, dCallX, dRetX, noOw, dTry, dCpy, dRaise, dRetO, dSetP, dSetS, dSetF, dSeq, dIf, dNext, dCall, dCallF, dB, dBin, dCons, dNil, dTup, dLst, dV, dC, dTV, onB, dTAnd, dTOr, dTNot, dAnd, dOr, dNot, dIfE, dIsN, dNotN, isN, dSl, dSlF, dNoPart, dPart, dPar, dParS, dAsg, dgN, dgT, dgCons, dgNil, dFE, dIsi, dListF, dNeg, dRev, dFrz, dApp, dAppS, dIns, dExtend, dClear, dReverse, dPop, oIx, oI, oIC, add_ii, add_ss, add_ll, add_tt, oSubI, oMulU, oMulI, oFd, oMd, oPw, oLt, oLe, oGt, oGe, oEq, oNe, getF, setF, Cl.d, getS, setS, purF_nil, purF_cons, purH, allF_nil, allF_cons, allH, rho0, endsOf, scalD, len_l, len_t, len_s, bAbs, bInt, bIntU, tup_l, tup_t, true_and, and_true, Option.some.injEq, exists_eq_left', decide_eq_true_eq, Bool.not_eq_true', decide_eq_false_iff_not, it_eQ0, it_eQ1, it_eP0, it_eP1, it_eS0, it_eS1, fits_eQ, fits_eP, fits_eS, eqv_eQ, eqv_eP, eqv_eS, eqv_int, eqv_bool, shp_int, shp_bool, shp_none, shp_eQ, shp_eP, shp_eS, dCont, dBreak, dXi, dSetG, dAppG, oIsB, oNotB, dTx, pJoin, pSplit, pPart, pStarts, bStr, bIntS, dFmt, dJs, ↓reduceIte, nsp_none, nsp_bool, nsp_int, nsp_str, nsp_list, nsp_tuple, nsp_eQ, nsp_eP, nsp_eS, dat_pu, dat_ow, seqD_l, seqD_t, not_true_eq_false, Bool.true_eq_false, Bool.not_not, List.length_cons, List.length_nil, mkP, mkS, fits_list, fits_tuple, isIntD, isBoolD, isListD, isStrD, isTupD, Bool.not_true, Bool.not_false, Bool.false_eq_true, it_l0, it_l1, it_l2, it_t0, it_t1, it_t2, shp_ps, shp_pt, shp_ss, shp_is, seqD_eQ, seqD_eP, seqD_eS, walkD_eP, walkD_eS, walkD_l, walkD_t]
    refine ⟨ws, e, rfl, by omega, ?_⟩
    simp only [se, s6, eqv_str, dRet, dRetF, dSetX, dCallX, dRetX, noOw, dTry, dCpy, dRaise, dRetO, dSetP, dSetS, dSetF, dSeq, dIf, dNext, dCall, dCallF, dB, dBin, dCons, dNil, dTup, dLst, dV, dC, dTV, onB, dTAnd, dTOr, dTNot, dAnd, dOr, dNot, dIfE, dIsN, dNotN, isN, dSl, dSlF, dNoPart, dPart, dPar, dParS, dAsg, dgN, dgT, dgCons, dgNil, dFE, dIsi, dListF, dNeg, dRev, dFrz, dApp, dAppS, dIns, dExtend, dClear, dReverse, dPop, oIx, oI, oIC, add_ii, add_ss, add_ll, add_tt, oSubI, oMulU, oMulI, oFd, oMd, oPw, oLt, oLe, oGt, oGe, oEq, oNe, getF, setF, Cl.d, getS, setS, purF_nil, purF_cons, purH, allF_nil, allF_cons, allH, rho0, endsOf, scalD, len_l, len_t, len_s, bAbs, bInt, bIntU, tup_l, tup_t, true_and, and_true, Option.some.injEq, exists_eq_left', decide_eq_true_eq, Bool.not_eq_true', decide_eq_false_iff_not, it_eQ0, it_eQ1, it_eP0, it_eP1, it_eS0, it_eS1, fits_eQ, fits_eP, fits_eS, eqv_eQ, eqv_eP, eqv_eS, eqv_int, eqv_bool, shp_int, shp_bool, shp_none, shp_eQ, shp_eP, shp_eS, dCont, dBreak, dXi, dSetG, dAppG, oIsB, oNotB, dTx, pJoin, pSplit, pPart, pStarts, bStr, bIntS, dFmt, dJs, ↓reduceIte, nsp_none, nsp_bool, nsp_int, nsp_str, nsp_list, nsp_tuple, nsp_eQ, nsp_eP, nsp_eS, dat_pu, dat_ow, seqD_l, seqD_t, not_true_eq_false, Bool.true_eq_false, Bool.not_not, List.length_cons, List.length_nil, mkP, mkS, fits_list, fits_tuple, isIntD, isBoolD, isListD, isStrD, isTupD, Bool.not_true, Bool.not_false, Bool.false_eq_true, it_l0, it_l1, it_l2, it_t0, it_t1, it_t2, shp_ps, shp_pt, shp_ss, shp_is, seqD_eQ, seqD_eP, seqD_eS, walkD_eP, walkD_eS, walkD_l, walkD_t]
    by_cases c2 : wAt ws e = ")"
    · exact ite_no (by simpa using c2) (hE _ ⟨c2, rfl⟩)
    · refine ite_yes (by simpa using c2) ?_
      rw [hxr]
      exact hx (if_neg c2)
  rintro _ ⟨c2, rfl⟩
  simp only [if_pos c2] at hs hx
  refine seq_eq (w := wAt ws m) rfl sm s7 (fun c => ?_) fun c3 => ?_
  · simp only [dMake, dRet, dRetF, dSetX, dCallX, dRetX, noOw, dTry, dCpy, dRaise, dRetO, dSetP, dSetS, dSetF, dSeq, dIf, dNext, dCall, dCallF, dB, dBin, dCons, dNil, dTup, dLst, dV, dC, dTV, onB, dTAnd, dTOr, dTNot, dAnd, dOr, dNot, dIfE, dIsN, dNotN, isN, dSl, dSlF, dNoPart, dPart, dPar, dParS, dAsg, dgN, dgT, dgCons, dgNil, dFE, dIsi, dListF, dNeg, dRev, dFrz, dApp, dAppS, dIns, dExtend, dClear, dReverse, dPop, oIx, oI, oIC, add_ii, add_ss, add_ll, add_tt, oSubI, oMulU, oMulI, oFd, oMd, oPw, oLt, oLe, oGt, oGe, oEq, oNe, getF, setF, Cl.d, getS, setS, purF_nil, purF_cons, purH, allF_nil, allF_cons, allH, rho0, endsOf, scalD, len_l, len_t, len_s, bAbs, bInt, bIntU, tup_l, tup_t, true_and, and_true, Option.some.injEq, exists_eq_left', decide_eq_true_eq, Bool.not_eq_true', decide_eq_false_iff_not, it_eQ0, it_eQ1, it_eP0, it_eP1, it_eS0, it_eS1, fits_eQ, fits_eP, fits_eS, eqv_eQ, eqv_eP, eqv_eS, eqv_int, eqv_bool, shp_int, shp_bool, shp_none, shp_eQ, shp_eP, shp_eS, dCont, dBreak, dXi, dSetG, dAppG, oIsB, oNotB, dTx, pJoin, pSplit, pPart, pStarts, bStr, bIntS, dFmt, dJs, ↓reduceIte, nsp_none, nsp_bool, nsp_int, nsp_str, nsp_list, nsp_tuple, nsp_eQ, nsp_eP, nsp_eS, dat_pu, dat_ow, seqD_l, seqD_t, not_true_eq_false, Bool.true_eq_false, Bool.not_not, List.length_cons, List.length_nil, mkP, mkS, fits_list, fits_tuple, isIntD, isBoolD, isListD, isStrD, isTupD, Bool.not_true, Bool.not_false, Bool.false_eq_true, it_l0, it_l1, it_l2, it_t0, it_t1, it_t2, shp_ps, shp_pt, shp_ss, shp_is, seqD_eQ, seqD_eP, seqD_eS, walkD_eP, walkD_eS, walkD_l, walkD_t]
    rw [if_pos c] at hs
    exact hs _ rfl
  · simp only [dMake, dRet, dRetF, dSetX, dCallX, dRetX, noOw, dTry, dCpy, dRaise, dRetO, dSetP, dSetS, dSetF, dSeq, dIf, dNext, dCall, dCallF, dB, dBin, dCons, dNil, dTup, dLst, dV, dC, dTV, onB, dTAnd, dTOr, dTNot, dAnd, dOr, dNot, dIfE, dIsN, dNotN, isN, dSl, dSlF, dNoPart, dPart, dPar, dParS, dAsg, dgN, dgT, dgCons, dgNil, dFE, dIsi, dListF, dNeg, dRev, dFrz, dApp, dAppS, dIns, dExtend, dClear, dReverse, dPop, oIx, oI, oIC, add_ii, add_ss, add_ll, add_tt, oSubI, oMulU, oMulI, oFd, oMd, oPw, oLt, oLe, oGt, oGe, oEq, oNe, getF, setF, Cl.d, getS, setS, purF_nil, purF_cons, purH, allF_nil, allF_cons, allH, rho0, endsOf, scalD, len_l, len_t, len_s, bAbs, bInt, bIntU, tup_l, tup_t, true_and, and_true, Option.some.injEq, exists_eq_left', decide_eq_true_eq, Bool.not_eq_true', decide_eq_false_iff_not, it_eQ0, it_eQ1, it_eP0, it_eP1, it_eS0, it_eS1, fits_eQ, fits_eP, fits_eS, eqv_eQ, eqv_eP, eqv_eS, eqv_int, eqv_bool, shp_int, shp_bool, shp_none, shp_eQ, shp_eP, shp_eS, dCont, dBreak, dXi, dSetG, dAppG, oIsB, oNotB, dTx, pJoin, pSplit, pPart, pStarts, bStr, bIntS, dFmt, dJs, ↓reduceIte, nsp_none, nsp_bool, nsp_int, nsp_str, nsp_list, nsp_tuple, nsp_eQ, nsp_eP, nsp_eS, dat_pu, dat_ow, seqD_l, seqD_t, not_true_eq_false, Bool.true_eq_false, Bool.not_not, List.length_cons, List.length_nil, mkP, mkS, fits_list, fits_tuple, isIntD, isBoolD, isListD, isStrD, isTupD, Bool.not_true, Bool.not_false, Bool.false_eq_true, it_l0, it_l1, it_l2, it_t0, it_t1, it_t2, shp_ps, shp_pt, shp_ss, shp_is, seqD_eQ, seqD_eP, seqD_eS, walkD_eP, walkD_eS, walkD_l, walkD_t]
    rw [if_neg c3] at hs
    exact hs _ rfl
end L2.D3.SY
set_option maxHeartbeats 1000000
/-! Rings: sides and areas, plain. -/
namespace L2.D3
end L2.D3
set_option maxHeartbeats 1000000
/-! Rings: the program's sides and areas; the laws' drawn rings. -/
namespace L2.D3
open PySem PySem.Spec PyProof.Rows
end L2.D3
set_option maxHeartbeats 1000000
/-! Lands drawn in sixths: the laws' helpers. -/
namespace L2.D3.N6
open PySem PySem.Spec PyProof.Rows L2.D3 L2.D3.PL
open SX (S)
/-! ### points of whole numbers -/
abbrev IP := Int × Int
/-! sides -/
/-! ranges -/
def Rg (A B : Int) (p : IP) : Prop := A ≤ p.1 ∧ p.1 ≤ B ∧ A ≤ p.2 ∧ p.2 ≤ B
theorem Rg.mono {A B A' B' : Int} {p : IP} (h : Rg A B p) (h1 : A' ≤ A) (h2 : B ≤ B') : Rg A' B' p := ⟨by have := h.1; omega, by have := h.2.1; omega, by have := h.2.2.1; omega, by have := h.2.2.2; omega⟩
def Rr (m : Nat) (A B : Int) (r : List IP) : Prop := 1 ≤ r.length ∧ r.length ≤ m ∧ ∀ p ∈ r, Rg A B p
theorem Rr.mono {m m' : Nat} {A B A' B' : Int} {r : List IP} (h : Rr m A B r) (hm : m ≤ m') (h1 : A' ≤ A) (h2 : B ≤ B') : Rr m' A' B' r := ⟨h.1, by have := h.2.1; omega, fun p hp => (h.2.2 p hp).mono h1 h2⟩
/-! ### the contracts -/
def sp__law_words : DSp := fun ds Φ _ => ∃ (c : Int) (m : Nat), ds = [.int c, .int m] ∧ m ≤ 7 ∧ ∀ ws : List Str, ws.length = m → ws.Nodup → (∀ w ∈ ws, isNm w = true ∧ w.length ≠ 7) → Φ (.ow (ws.map .str))
abbrev N__law_words : List Str := ["_law_cell_here", "_law_many", "_law_letters", "_law_found", "_law_x", "_law_word", "_law_k", "_law_other"]
def d__law_words : DS := (dSeq (dSetP 2 (dC (.str "abcdefghijklmnopqrstuvwxyz")))
  (dSeq (dSetF 3 dNil)
  (dSeq (dFor (diSeq (dCall sp__law_numbers (dCons (dV 0) (dCons (dV 1) dNil)))) (dgN 4) (dSeq (dSetP 5 (dC (.str "")))
  (dSeq (dFor (diRng1 (dCons (dBin oIx (dLst (dCons (dC (.int 1)) (dCons (dC (.int 2)) (dCons (dC (.int 8)) (dCons (dC (.int 3)) (dCons (dC (.int 5)) dNil)))))) (dBin oMd (dV 4) (dC (.int 5)))) dNil)) (dgN 6) (dSeq (dSetP 4 (dBin oAddU (dBin oMulU (dV 4) (dC (.int 7))) (dC (.int 5))))
  (dSetP 5 (dBin oAddU (dV 5) (dBin oIx (dV 2) (dBin oMd (dBin oFd (dV 4) (dC (.int 5))) (dC (.int 26))))))))
  (dSeq (dIf (dTOr (dTV (dBin oIn (dV 5) (dV 3))) (dTV (dBin oIn (dV 5) (dLst (dCons (dC (.str "and")) (dCons (dC (.str "or")) (dCons (dC (.str "not")) (dCons (dC (.str "all")) (dCons (dC (.str "none")) (dCons (dC (.str "sheet")) dNil)))))))))) (dSetS 5 (dBin oIx (dFE (dLc [7] (diSeq (dLst (dCons (dC (.str "za")) (dCons (dC (.str "zb")) (dCons (dC (.str "zc")) (dCons (dC (.str "zd")) (dCons (dC (.str "ze")) (dCons (dC (.str "zf")) (dCons (dC (.str "zg")) dNil))))))))) (dcN 7) (dTV (dBin oNin (dV 7) (dV 3))) (dV 7))) (dC (.int 0)))) dNext)
  (dApp 3 (dV 5))))))
  (dRetO 3))))
end L2.D3.N6
set_option maxHeartbeats 1000000
namespace L2.D3.N6
open PySem PySem.Spec PyProof.Rows L2.D3 L2.D3.PL
open SX (S)
theorem words_lst : (dLst (dCons (dC (.str "and")) (dCons (dC (.str "or")) (dCons (dC (.str "not")) (dCons (dC (.str "all")) (dCons (dC (.str "none")) (dCons (dC (.str "sheet")) dNil))))))) = dC (.list (WRDS.map .str)) := rfl
def ZS : List Str := ["za", "zb", "zc", "zd", "ze", "zf", "zg"]
theorem zs_lst : (dLst (dCons (dC (.str "za")) (dCons (dC (.str "zb")) (dCons (dC (.str "zc")) (dCons (dC (.str "zd")) (dCons (dC (.str "ze")) (dCons (dC (.str "zf")) (dCons (dC (.str "zg")) dNil)))))))) = dC (.list (ZS.map .str)) := rfl
theorem zs_nm : ∀ z ∈ ZS, isNm z = true := by decide +kernel
theorem zs_n7 : ∀ z ∈ ZS, z.length ≠ 7 := by decide +kernel
theorem zs_nd : ZS.Nodup := by decide +kernel
theorem zs_some {ns : List Str} (h : ns.length < 7) : ∃ z ∈ ZS, z ∉ ns := by
  apply Classical.byContradiction
  intro hc
  have := nodup_le zs_nd (m := ns) fun z hz => by
    apply Classical.byContradiction
    intro hk
    exact hc ⟨z, hz, hk⟩
  have l : ZS.length = 7 := rfl
  omega
theorem shp_wl : SeqAt.shaped (.list (WRDS.map .str)) = true := shp_strl (by decide +kernel)
theorem pick5 {x : Int} (h0 : 0 ≤ x) (h1 : x < 5) : ∃ r : Nat, 1 ≤ r ∧ r ≤ 8 ∧ r ≠ 7 ∧ itemD (.list [.int 1, .int 2, .int 8, .int 3, .int 5]) x = some (.int r) := by
  have hm : x = 0 ∨ x = 1 ∨ x = 2 ∨ x = 3 ∨ x = 4 := by omega
  rcases hm with rfl | rfl | rfl | rfl | rfl
  · exact ⟨1, by decide, by decide, by decide, rfl⟩
  · exact ⟨2, by decide, by decide, by decide, rfl⟩
  · exact ⟨8, by decide, by decide, by decide, rfl⟩
  · exact ⟨3, by decide, by decide, by decide, rfl⟩
  · exact ⟨5, by decide, by decide, by decide, rfl⟩
theorem rd__law_words (ds : List Dt) (Φ : Slot → Prop) (Ξ : XD → Prop) (h : sp__law_words ds Φ Ξ) : d__law_words (endsOf Φ Ξ) (rho0 N__law_words ds) := by
  obtain ⟨c, m, rfl, hm, h⟩ := h
  have hz : (100000 : Nat) < sizeLine := by decide
  show dSeq _ _ _ [.pu (.int c), .pu (.int m), .un, .un, .un, .un, .un, .un]
  refine seq_cut (fun ρ => ρ = [.pu (.int c), .pu (.int m), .pu (.str "abcdefghijklmnopqrstuvwxyz"), .un, .un, .un, .un, .un]) (fun E _ hE => ?_) ?_
  · simp only [dRet, dRetF, dSetX, dCallX, dRetX, noOw, dTry, dCpy, dRaise, dRetO, dSetP, dSetS, dSetF, dSeq, dIf, dNext, dCall, dCallF, dB, dBin, dCons, dNil, dTup, dLst, dV, dC, dTV, onB, dTAnd, dTOr, dTNot, dAnd, dOr, dNot, dIfE, dIsN, dNotN, isN, dSl, dSlF, dNoPart, dPart, dPar, dParS, dAsg, dgN, dgT, dgCons, dgNil, dFE, dIsi, dListF, dNeg, dRev, dFrz, dApp, dAppS, dIns, dExtend, dClear, dReverse, dPop, oIx, oI, oIC, oAddU, oSubI, oMulU, oMulI, oFd, oMd, oPw, oLt, oLe, oGt, oGe, oEq, oNe, getF, setF, Cl.d, getS, setS, purF_nil, purF_cons, purH, allF_nil, allF_cons, allH, rho0, endsOf, scalD, bLen, bAbs, bInt, bIntU, bTup, true_and, and_true, Option.some.injEq, exists_eq_left', decide_eq_true_eq, Bool.not_eq_true', decide_eq_false_iff_not, it_eQ0, it_eQ1, it_eP0, it_eP1, it_eS0, it_eS1, fits_eQ, fits_eP, fits_eS, eqv_eQ, eqv_eP, eqv_eS, eqv_int, eqv_bool, shp_int, shp_bool, shp_none, shp_eQ, shp_eP, shp_eS, dCont, dBreak, dXi, dSetG, dAppG, oIsB, oNotB, dTx, pJoin, pSplit, pPart, pStarts, bStr, bIntS, dFmt, dJs, ↓reduceIte, nsp_none, nsp_bool, nsp_int, nsp_str, nsp_list, nsp_tuple, nsp_eQ, nsp_eP, nsp_eS, dat_pu, dat_ow, seqD_l, seqD_t, not_true_eq_false, Bool.true_eq_false, Bool.not_not, List.length_cons, List.length_nil, mkP, mkS, fits_list, fits_tuple, isIntD, isBoolD, isListD, isStrD, isTupD, Bool.not_true, Bool.not_false, Bool.false_eq_true, it_l0, it_l1, it_l2, it_t0, it_t1, it_t2, shp_ps, shp_pt, shp_ss, shp_is, seqD_eQ, seqD_eP, seqD_eS, walkD_eP, walkD_eS, walkD_l, walkD_t]
    exact hE _ rfl
  rintro _ rfl
  refine seq_cut (fun ρ => ρ = [.pu (.int c), .pu (.int m), .pu (.str "abcdefghijklmnopqrstuvwxyz"), .ow [], .un, .un, .un, .un]) (fun E _ hE => ?_) ?_
  · simp only [dRet, dRetF, dSetX, dCallX, dRetX, noOw, dTry, dCpy, dRaise, dRetO, dSetP, dSetS, dSetF, dSeq, dIf, dNext, dCall, dCallF, dB, dBin, dCons, dNil, dTup, dLst, dV, dC, dTV, onB, dTAnd, dTOr, dTNot, dAnd, dOr, dNot, dIfE, dIsN, dNotN, isN, dSl, dSlF, dNoPart, dPart, dPar, dParS, dAsg, dgN, dgT, dgCons, dgNil, dFE, dIsi, dListF, dNeg, dRev, dFrz, dApp, dAppS, dIns, dExtend, dClear, dReverse, dPop, oIx, oI, oIC, oAddU, oSubI, oMulU, oMulI, oFd, oMd, oPw, oLt, oLe, oGt, oGe, oEq, oNe, getF, setF, Cl.d, getS, setS, purF_nil, purF_cons, purH, allF_nil, allF_cons, allH, rho0, endsOf, scalD, bLen, bAbs, bInt, bIntU, bTup, true_and, and_true, Option.some.injEq, exists_eq_left', decide_eq_true_eq, Bool.not_eq_true', decide_eq_false_iff_not, it_eQ0, it_eQ1, it_eP0, it_eP1, it_eS0, it_eS1, fits_eQ, fits_eP, fits_eS, eqv_eQ, eqv_eP, eqv_eS, eqv_int, eqv_bool, shp_int, shp_bool, shp_none, shp_eQ, shp_eP, shp_eS, dCont, dBreak, dXi, dSetG, dAppG, oIsB, oNotB, dTx, pJoin, pSplit, pPart, pStarts, bStr, bIntS, dFmt, dJs, ↓reduceIte, nsp_none, nsp_bool, nsp_int, nsp_str, nsp_list, nsp_tuple, nsp_eQ, nsp_eP, nsp_eS, dat_pu, dat_ow, seqD_l, seqD_t, not_true_eq_false, Bool.true_eq_false, Bool.not_not, List.length_cons, List.length_nil, mkP, mkS, fits_list, fits_tuple, isIntD, isBoolD, isListD, isStrD, isTupD, Bool.not_true, Bool.not_false, Bool.false_eq_true, it_l0, it_l1, it_l2, it_t0, it_t1, it_t2, shp_ps, shp_pt, shp_ss, shp_is, seqD_eQ, seqD_eP, seqD_eS, walkD_eP, walkD_eS, walkD_l, walkD_t]
    exact hE _ rfl
  rintro _ rfl
  refine seq_forA (fun ds => ∃ xs : List Int, xs.length = m ∧ (∀ x ∈ xs, Drw x) ∧ ds = xs.map .int) (fun Q hQ => ?_) (fun k ρ => ∃ (ws : List Str) (s1 s2 s3 : Slot), ws.length = k ∧ ws.Nodup ∧ (∀ w ∈ ws, isNm w = true ∧ w.length ≠ 7) ∧ ρ = [.pu (.int c), .pu (.int m), .pu (.str "abcdefghijklmnopqrstuvwxyz"), .ow (ws.map .str), s1, s2, s3, .un]) ⟨[], _, _, _, rfl, List.nodup_nil, (fun w hw => nomatch hw), rfl⟩ ?_ ?_
  · simp only [diSeq, dRet, dRetF, dSetX, dCallX, dRetX, noOw, dTry, dCpy, dRaise, dRetO, dSetP, dSetS, dSetF, dSeq, dIf, dNext, dCall, dCallF, dB, dBin, dCons, dNil, dTup, dLst, dV, dC, dTV, onB, dTAnd, dTOr, dTNot, dAnd, dOr, dNot, dIfE, dIsN, dNotN, isN, dSl, dSlF, dNoPart, dPart, dPar, dParS, dAsg, dgN, dgT, dgCons, dgNil, dFE, dIsi, dListF, dNeg, dRev, dFrz, dApp, dAppS, dIns, dExtend, dClear, dReverse, dPop, oIx, oI, oIC, oAddU, oSubI, oMulU, oMulI, oFd, oMd, oPw, oLt, oLe, oGt, oGe, oEq, oNe, getF, setF, Cl.d, getS, setS, purF_nil, purF_cons, purH, allF_nil, allF_cons, allH, rho0, endsOf, scalD, bLen, bAbs, bInt, bIntU, bTup, true_and, and_true, Option.some.injEq, exists_eq_left', decide_eq_true_eq, Bool.not_eq_true', decide_eq_false_iff_not, it_eQ0, it_eQ1, it_eP0, it_eP1, it_eS0, it_eS1, fits_eQ, fits_eP, fits_eS, eqv_eQ, eqv_eP, eqv_eS, eqv_int, eqv_bool, shp_int, shp_bool, shp_none, shp_eQ, shp_eP, shp_eS, dCont, dBreak, dXi, dSetG, dAppG, oIsB, oNotB, dTx, pJoin, pSplit, pPart, pStarts, bStr, bIntS, dFmt, dJs, ↓reduceIte, nsp_none, nsp_bool, nsp_int, nsp_str, nsp_list, nsp_tuple, nsp_eQ, nsp_eP, nsp_eS, dat_pu, dat_ow, seqD_l, seqD_t, not_true_eq_false, Bool.true_eq_false, Bool.not_not, List.length_cons, List.length_nil, mkP, mkS, fits_list, fits_tuple, isIntD, isBoolD, isListD, isStrD, isTupD, Bool.not_true, Bool.not_false, Bool.false_eq_true, it_l0, it_l1, it_l2, it_t0, it_t1, it_t2, shp_ps, shp_pt, shp_ss, shp_is, seqD_eQ, seqD_eP, seqD_eS, walkD_eP, walkD_eS, walkD_l, walkD_t]
    exact ⟨c, m, rfl, by omega, fun xs hl hx => hQ _ ⟨xs, hl, hx, rfl⟩⟩
  · rintro _ ⟨xs, hl, hx, rfl⟩ k d ρ' hk ⟨ws, s1, s2, s3, hw, hn, hnm, rfl⟩
    obtain ⟨x, hxk, rfl⟩ := map_get hk
    have hkl : k < xs.length := (List.getElem?_eq_some_iff.mp hxk).1
    have dx := hx x (List.mem_of_getElem? hxk)
    have wsh := shp_strl (zs := ws) fun z hz => nm_ok (hnm z hz).1
    simp only [dgN, setS]
    refine seq_cut (fun ρ => ρ = [.pu (.int c), .pu (.int m), .pu (.str "abcdefghijklmnopqrstuvwxyz"), .ow (ws.map .str), .pu (.int x), .pu (.str ""), s3, .un]) (fun E _ hE => ?_) ?_
    · simp only [dRet, dRetF, dSetX, dCallX, dRetX, noOw, dTry, dCpy, dRaise, dRetO, dSetP, dSetS, dSetF, dSeq, dIf, dNext, dCall, dCallF, dB, dBin, dCons, dNil, dTup, dLst, dV, dC, dTV, onB, dTAnd, dTOr, dTNot, dAnd, dOr, dNot, dIfE, dIsN, dNotN, isN, dSl, dSlF, dNoPart, dPart, dPar, dParS, dAsg, dgN, dgT, dgCons, dgNil, dFE, dIsi, dListF, dNeg, dRev, dFrz, dApp, dAppS, dIns, dExtend, dClear, dReverse, dPop, oIx, oI, oIC, oAddU, oSubI, oMulU, oMulI, oFd, oMd, oPw, oLt, oLe, oGt, oGe, oEq, oNe, getF, setF, Cl.d, getS, setS, purF_nil, purF_cons, purH, allF_nil, allF_cons, allH, rho0, endsOf, scalD, bLen, bAbs, bInt, bIntU, bTup, true_and, and_true, Option.some.injEq, exists_eq_left', decide_eq_true_eq, Bool.not_eq_true', decide_eq_false_iff_not, it_eQ0, it_eQ1, it_eP0, it_eP1, it_eS0, it_eS1, fits_eQ, fits_eP, fits_eS, eqv_eQ, eqv_eP, eqv_eS, eqv_int, eqv_bool, shp_int, shp_bool, shp_none, shp_eQ, shp_eP, shp_eS, dCont, dBreak, dXi, dSetG, dAppG, oIsB, oNotB, dTx, pJoin, pSplit, pPart, pStarts, bStr, bIntS, dFmt, dJs, ↓reduceIte, nsp_none, nsp_bool, nsp_int, nsp_str, nsp_list, nsp_tuple, nsp_eQ, nsp_eP, nsp_eS, dat_pu, dat_ow, seqD_l, seqD_t, not_true_eq_false, Bool.true_eq_false, Bool.not_not, List.length_cons, List.length_nil, mkP, mkS, fits_list, fits_tuple, isIntD, isBoolD, isListD, isStrD, isTupD, Bool.not_true, Bool.not_false, Bool.false_eq_true, it_l0, it_l1, it_l2, it_t0, it_t1, it_t2, shp_ps, shp_pt, shp_ss, shp_is, seqD_eQ, seqD_eP, seqD_eS, walkD_eP, walkD_eS, walkD_l, walkD_t]
      exact hE _ rfl
    rintro _ rfl
    refine seq_forA (fun ds => ∃ n : Nat, 1 ≤ n ∧ n ≤ 8 ∧ n ≠ 7 ∧ ds = (List.range n).map fun (k : Nat) => PyData.int k) (fun Q hQ => ?_) (fun j ρ => ∃ (cs : List Nat) (y : Int) (s3 : Slot), cs.length = j ∧ j ≤ 8 ∧ (∀ c ∈ cs, c ∈ LETS) ∧ 0 ≤ y ∧ y < 2 ^ (31 + 4 * j) ∧ ρ = [.pu (.int c), .pu (.int m), .pu (.str "abcdefghijklmnopqrstuvwxyz"), .ow (ws.map .str), .pu (.int y), .pu (.str (S cs)), s3, .un]) ⟨[], x, _, rfl, by omega, (fun c hc => nomatch hc), by have := dx.1; omega, by have := dx.2; omega, rfl⟩ ?_ ?_
    · have f5 := fmod_b (x := x) (m := 5) (by decide)
      obtain ⟨r, r0, r1, r7, e⟩ := pick5 f5.1 f5.2
      simp only [diRng1, dRet, dRetF, dSetX, dCallX, dRetX, noOw, dTry, dCpy, dRaise, dRetO, dSetP, dSetS, dSetF, dSeq, dIf, dNext, dCall, dCallF, dB, dBin, dCons, dNil, dTup, dLst, dV, dC, dTV, onB, dTAnd, dTOr, dTNot, dAnd, dOr, dNot, dIfE, dIsN, dNotN, isN, dSl, dSlF, dNoPart, dPart, dPar, dParS, dAsg, dgN, dgT, dgCons, dgNil, dFE, dIsi, dListF, dNeg, dRev, dFrz, dApp, dAppS, dIns, dExtend, dClear, dReverse, dPop, oIx, oI, oIC, oAddU, oSubI, oMulU, oMulI, oFd, oMd, oPw, oLt, oLe, oGt, oGe, oEq, oNe, getF, setF, Cl.d, getS, setS, purF_nil, purF_cons, purH, allF_nil, allF_cons, allH, rho0, endsOf, scalD, bLen, bAbs, bInt, bIntU, bTup, true_and, and_true, Option.some.injEq, exists_eq_left', decide_eq_true_eq, Bool.not_eq_true', decide_eq_false_iff_not, it_eQ0, it_eQ1, it_eP0, it_eP1, it_eS0, it_eS1, fits_eQ, fits_eP, fits_eS, eqv_eQ, eqv_eP, eqv_eS, eqv_int, eqv_bool, shp_int, shp_bool, shp_none, shp_eQ, shp_eP, shp_eS, dCont, dBreak, dXi, dSetG, dAppG, oIsB, oNotB, dTx, pJoin, pSplit, pPart, pStarts, bStr, bIntS, dFmt, dJs, ↓reduceIte, nsp_none, nsp_bool, nsp_int, nsp_str, nsp_list, nsp_tuple, nsp_eQ, nsp_eP, nsp_eS, dat_pu, dat_ow, seqD_l, seqD_t, not_true_eq_false, Bool.true_eq_false, Bool.not_not, List.length_cons, List.length_nil, mkP, mkS, fits_list, fits_tuple, isIntD, isBoolD, isListD, isStrD, isTupD, Bool.not_true, Bool.not_false, Bool.false_eq_true, it_l0, it_l1, it_l2, it_t0, it_t1, it_t2, shp_ps, shp_pt, shp_ss, shp_is, seqD_eQ, seqD_eP, seqD_eS, walkD_eP, walkD_eS, walkD_l, walkD_t]
      refine ⟨by decide, _, e, ?_⟩
      simp only
      refine ⟨by omega, by omega, hQ _ ⟨r, r0, r1, r7, by rw [Int.toNat_natCast]⟩⟩
    · rintro _ ⟨n, n0, n1, n7, rfl⟩ j d ρ' hj ⟨cs, y, s3, hcl, hj8, hcs, y0, y1, rfl⟩
      obtain ⟨hjl, rfl⟩ := rng_get hj
      have f26 := fmod_b (x := (y * 7 + 5).fdiv 5) (m := 26) (by decide)
      obtain ⟨l, hl1, el⟩ := letter_at f26.1 f26.2
      have p1 : (2 : Int) ^ (31 + 4 * j) ≤ 2 ^ 63 := by
        have : (2 : Nat) ^ (31 + 4 * j) ≤ 2 ^ 63 := Nat.pow_le_pow_right (by decide) (by omega)
        exact_mod_cast this
      have p2 : (2 : Int) ^ (31 + 4 * (j + 1)) = 2 ^ (31 + 4 * j) * 16 := by
        rw [show 31 + 4 * (j + 1) = 31 + 4 * j + 4 by omega, Int.pow_add]
        rfl
      have p3 : (2 : Int) ^ 31 ≤ 2 ^ (31 + 4 * j) := by
        have : (2 : Nat) ^ 31 ≤ 2 ^ (31 + 4 * j) := Nat.pow_le_pow_right (by decide) (by omega)
        exact_mod_cast this
      simp only [dRet, dRetF, dSetX, dCallX, dRetX, noOw, dTry, dCpy, dRaise, dRetO, dSetP, dSetS, dSetF, dSeq, dIf, dNext, dCall, dCallF, dB, dBin, dCons, dNil, dTup, dLst, dV, dC, dTV, onB, dTAnd, dTOr, dTNot, dAnd, dOr, dNot, dIfE, dIsN, dNotN, isN, dSl, dSlF, dNoPart, dPart, dPar, dParS, dAsg, dgN, dgT, dgCons, dgNil, dFE, dIsi, dListF, dNeg, dRev, dFrz, dApp, dAppS, dIns, dExtend, dClear, dReverse, dPop, oIx, oI, oIC, oAddU, oSubI, oMulU, oMulI, oFd, oMd, oPw, oLt, oLe, oGt, oGe, oEq, oNe, getF, setF, Cl.d, getS, setS, purF_nil, purF_cons, purH, allF_nil, allF_cons, allH, rho0, endsOf, scalD, bLen, bAbs, bInt, bIntU, bTup, true_and, and_true, Option.some.injEq, exists_eq_left', decide_eq_true_eq, Bool.not_eq_true', decide_eq_false_iff_not, it_eQ0, it_eQ1, it_eP0, it_eP1, it_eS0, it_eS1, fits_eQ, fits_eP, fits_eS, eqv_eQ, eqv_eP, eqv_eS, eqv_int, eqv_bool, shp_int, shp_bool, shp_none, shp_eQ, shp_eP, shp_eS, dCont, dBreak, dXi, dSetG, dAppG, oIsB, oNotB, dTx, pJoin, pSplit, pPart, pStarts, bStr, bIntS, dFmt, dJs, ↓reduceIte, nsp_none, nsp_bool, nsp_int, nsp_str, nsp_list, nsp_tuple, nsp_eQ, nsp_eP, nsp_eS, dat_pu, dat_ow, seqD_l, seqD_t, not_true_eq_false, Bool.true_eq_false, Bool.not_not, List.length_cons, List.length_nil, mkP, mkS, fits_list, fits_tuple, isIntD, isBoolD, isListD, isStrD, isTupD, Bool.not_true, Bool.not_false, Bool.false_eq_true, it_l0, it_l1, it_l2, it_t0, it_t1, it_t2, shp_ps, shp_pt, shp_ss, shp_is, seqD_eQ, seqD_eP, seqD_eS, walkD_eP, walkD_eS, walkD_l, walkD_t]
      refine ⟨cmN (by omega) (by decide), cfdN (by decide) (by decide), by decide, by show ("abcdefghijklmnopqrstuvwxyz" : Str).length ≤ sizeLine; decide +kernel, _, el, ?_⟩
      simp only
      have e : S cs ++ (⟨#[l]⟩ : Str) = S (cs ++ [l]) := SX.S_cat cs [l]
      have l1 : (S cs).length = cs.length := SX.S_len cs
      have l3 : (⟨#[l]⟩ : Str).length = 1 := rfl
      rw [l1, l3, e]
      refine ⟨by omega, cs ++ [l], _, _, by rw [List.length_append, hcl]; rfl, by omega, fun c hc => ?_, by omega, by omega, rfl⟩
      rcases List.mem_append.mp hc with hc | hc
      · exact hcs c hc
      · rw [List.mem_singleton.mp hc]; exact hl1
    · rintro _ ⟨n, n0, n1, n7, rfl⟩ ρ' ⟨cs, y, s3, hcl, hj8, hcs, y0, y1, rfl⟩
      rw [rng_len] at hcl
      have ok := lets_ok hcs
      rw [words_lst]
      refine seq_cut (fun ρ => ∃ z : Str, (isNm z = true ∧ z.length ≠ 7) ∧ z ∉ ws ∧ ∃ s2 s3, ρ = [.pu (.int c), .pu (.int m), .pu (.str "abcdefghijklmnopqrstuvwxyz"), .ow (ws.map .str), s2, .pu (.str z), s3, .un]) (fun E _ hE => ?_) ?_
      · have bad : dSetS 5 (dBin oIx (dFE (dLc [7] (diSeq (dLst (dCons (dC (.str "za")) (dCons (dC (.str "zb")) (dCons (dC (.str "zc")) (dCons (dC (.str "zd")) (dCons (dC (.str "ze")) (dCons (dC (.str "zf")) (dCons (dC (.str "zg")) dNil))))))))) (dcN 7) (dTV (dBin oNin (dV 7) (dV 3))) (dV 7))) (dC (.int 0))) E [.pu (.int c), .pu (.int m), .pu (.str "abcdefghijklmnopqrstuvwxyz"), .ow (ws.map .str), .pu (.int y), .pu (.str (S cs)), s3, .un] := by
          rw [zs_lst]
          obtain ⟨z, rest, fe, fz1, fz2⟩ := head_filter (p := fun x => !decide (x ∈ ws)) (l := ZS) (by
            obtain ⟨x, h1, h2⟩ := zs_some (ns := ws) (by omega)
            exact ⟨x, h1, by rw [decide_eq_false h2]; rfl⟩)
          simp only [Bool.not_eq_true', decide_eq_false_iff_not] at fz2
          simp only [dRet, dRetF, dSetX, dCallX, dRetX, noOw, dTry, dCpy, dRaise, dRetO, dSetP, dSetS, dSetF, dSeq, dIf, dNext, dCall, dCallF, dB, dBin, dCons, dNil, dTup, dLst, dV, dC, dTV, onB, dTAnd, dTOr, dTNot, dAnd, dOr, dNot, dIfE, dIsN, dNotN, isN, dSl, dSlF, dNoPart, dPart, dPar, dParS, dAsg, dgN, dgT, dgCons, dgNil, dFE, dIsi, dListF, dNeg, dRev, dFrz, dApp, dAppS, dIns, dExtend, dClear, dReverse, dPop, oIx, oI, oIC, oAddU, oSubI, oMulU, oMulI, oFd, oMd, oPw, oLt, oLe, oGt, oGe, oEq, oNe, getF, setF, Cl.d, getS, setS, purF_nil, purF_cons, purH, allF_nil, allF_cons, allH, rho0, endsOf, scalD, bLen, bAbs, bInt, bIntU, bTup, true_and, and_true, Option.some.injEq, exists_eq_left', decide_eq_true_eq, Bool.not_eq_true', decide_eq_false_iff_not, it_eQ0, it_eQ1, it_eP0, it_eP1, it_eS0, it_eS1, fits_eQ, fits_eP, fits_eS, eqv_eQ, eqv_eP, eqv_eS, eqv_int, eqv_bool, shp_int, shp_bool, shp_none, shp_eQ, shp_eP, shp_eS, dCont, dBreak, dXi, dSetG, dAppG, oIsB, oNotB, dTx, pJoin, pSplit, pPart, pStarts, bStr, bIntS, dFmt, dJs, ↓reduceIte, nsp_none, nsp_bool, nsp_int, nsp_str, nsp_list, nsp_tuple, nsp_eQ, nsp_eP, nsp_eS, dat_pu, dat_ow, seqD_l, seqD_t, not_true_eq_false, Bool.true_eq_false, Bool.not_not, List.length_cons, List.length_nil, mkP, mkS, fits_list, fits_tuple, isIntD, isBoolD, isListD, isStrD, isTupD, Bool.not_true, Bool.not_false, Bool.false_eq_true, it_l0, it_l1, it_l2, it_t0, it_t1, it_t2, shp_ps, shp_pt, shp_ss, shp_is, seqD_eQ, seqD_eP, seqD_eS, walkD_eP, walkD_eS, walkD_l, walkD_t]
          refine dLc_filterM (xs := ZS) (e := .str) (fun Q hQ => ?_) .str (fun x => !decide (x ∈ ws)) (by show 7 ≤ sizeLine; omega) (fun x hx Ψ hΨ => ?_) ?_
          · simp only [diSeq, dRet, dRetF, dSetX, dCallX, dRetX, noOw, dTry, dCpy, dRaise, dRetO, dSetP, dSetS, dSetF, dSeq, dIf, dNext, dCall, dCallF, dB, dBin, dCons, dNil, dTup, dLst, dV, dC, dTV, onB, dTAnd, dTOr, dTNot, dAnd, dOr, dNot, dIfE, dIsN, dNotN, isN, dSl, dSlF, dNoPart, dPart, dPar, dParS, dAsg, dgN, dgT, dgCons, dgNil, dFE, dIsi, dListF, dNeg, dRev, dFrz, dApp, dAppS, dIns, dExtend, dClear, dReverse, dPop, oIx, oI, oIC, oAddU, oSubI, oMulU, oMulI, oFd, oMd, oPw, oLt, oLe, oGt, oGe, oEq, oNe, getF, setF, Cl.d, getS, setS, purF_nil, purF_cons, purH, allF_nil, allF_cons, allH, rho0, endsOf, scalD, bLen, bAbs, bInt, bIntU, bTup, true_and, and_true, Option.some.injEq, exists_eq_left', decide_eq_true_eq, Bool.not_eq_true', decide_eq_false_iff_not, it_eQ0, it_eQ1, it_eP0, it_eP1, it_eS0, it_eS1, fits_eQ, fits_eP, fits_eS, eqv_eQ, eqv_eP, eqv_eS, eqv_int, eqv_bool, shp_int, shp_bool, shp_none, shp_eQ, shp_eP, shp_eS, dCont, dBreak, dXi, dSetG, dAppG, oIsB, oNotB, dTx, pJoin, pSplit, pPart, pStarts, bStr, bIntS, dFmt, dJs, ↓reduceIte, nsp_none, nsp_bool, nsp_int, nsp_str, nsp_list, nsp_tuple, nsp_eQ, nsp_eP, nsp_eS, dat_pu, dat_ow, seqD_l, seqD_t, not_true_eq_false, Bool.true_eq_false, Bool.not_not, List.length_cons, List.length_nil, mkP, mkS, fits_list, fits_tuple, isIntD, isBoolD, isListD, isStrD, isTupD, Bool.not_true, Bool.not_false, Bool.false_eq_true, it_l0, it_l1, it_l2, it_t0, it_t1, it_t2, shp_ps, shp_pt, shp_ss, shp_is, seqD_eQ, seqD_eP, seqD_eS, walkD_eP, walkD_eS, walkD_l, walkD_t]
            exact hQ
          · simp only [dcN, wipeF, noneF, oNin, shp_str (nm_ok (zs_nm x hx)), wsh, any_str, dRet, dRetF, dSetX, dCallX, dRetX, noOw, dTry, dCpy, dRaise, dRetO, dSetP, dSetS, dSetF, dSeq, dIf, dNext, dCall, dCallF, dB, dBin, dCons, dNil, dTup, dLst, dV, dC, dTV, onB, dTAnd, dTOr, dTNot, dAnd, dOr, dNot, dIfE, dIsN, dNotN, isN, dSl, dSlF, dNoPart, dPart, dPar, dParS, dAsg, dgN, dgT, dgCons, dgNil, dFE, dIsi, dListF, dNeg, dRev, dFrz, dApp, dAppS, dIns, dExtend, dClear, dReverse, dPop, oIx, oI, oIC, oAddU, oSubI, oMulU, oMulI, oFd, oMd, oPw, oLt, oLe, oGt, oGe, oEq, oNe, getF, setF, Cl.d, getS, setS, purF_nil, purF_cons, purH, allF_nil, allF_cons, allH, rho0, endsOf, scalD, bLen, bAbs, bInt, bIntU, bTup, true_and, and_true, Option.some.injEq, exists_eq_left', decide_eq_true_eq, Bool.not_eq_true', decide_eq_false_iff_not, it_eQ0, it_eQ1, it_eP0, it_eP1, it_eS0, it_eS1, fits_eQ, fits_eP, fits_eS, eqv_eQ, eqv_eP, eqv_eS, eqv_int, eqv_bool, shp_int, shp_bool, shp_none, shp_eQ, shp_eP, shp_eS, dCont, dBreak, dXi, dSetG, dAppG, oIsB, oNotB, dTx, pJoin, pSplit, pPart, pStarts, bStr, bIntS, dFmt, dJs, ↓reduceIte, nsp_none, nsp_bool, nsp_int, nsp_str, nsp_list, nsp_tuple, nsp_eQ, nsp_eP, nsp_eS, dat_pu, dat_ow, seqD_l, seqD_t, not_true_eq_false, Bool.true_eq_false, Bool.not_not, List.length_cons, List.length_nil, mkP, mkS, fits_list, fits_tuple, isIntD, isBoolD, isListD, isStrD, isTupD, Bool.not_true, Bool.not_false, Bool.false_eq_true, it_l0, it_l1, it_l2, it_t0, it_t1, it_t2, shp_ps, shp_pt, shp_ss, shp_is, seqD_eQ, seqD_eP, seqD_eS, walkD_eP, walkD_eS, walkD_l, walkD_t]
            exact hΨ [.da (.int c), .da (.int m), .da (.str "abcdefghijklmnopqrstuvwxyz"), .da (.list (ws.map .str)), .da (.int y), .da (.str (S cs)), _, .da (.str x)] (fun Ψ' hq => hq)
          · rw [fe]
            exact ⟨_, it_at (k := 0) rfl rfl, trivial, hE _ ⟨z, ⟨zs_nm z fz1, zs_n7 z fz1⟩, fz2, _, _, rfl⟩⟩
        simp only [oIn, shp_str ok, wsh, shp_wl, any_str, dIf, dTOr, dTV, dBin, dV, allF_cons, allF_nil, allH, getF, Cl.d, onB, dC, true_and]
        by_cases c1 : S cs ∈ ws
        · rw [decide_eq_true c1]
          exact bad
        · rw [decide_eq_false c1]
          by_cases c2 : S cs ∈ WRDS
          · rw [decide_eq_true c2]
            exact bad
          · rw [decide_eq_false c2]
            exact hE _ ⟨S cs, ⟨nm_S (by omega) (by omega) hcs c2, by rw [SX.S_len]; omega⟩, c1, _, _, rfl⟩
      rintro _ ⟨z, znm, zn, s2, s3, rfl⟩
      simp only [dRet, dRetF, dSetX, dCallX, dRetX, noOw, dTry, dCpy, dRaise, dRetO, dSetP, dSetS, dSetF, dSeq, dIf, dNext, dCall, dCallF, dB, dBin, dCons, dNil, dTup, dLst, dV, dC, dTV, onB, dTAnd, dTOr, dTNot, dAnd, dOr, dNot, dIfE, dIsN, dNotN, isN, dSl, dSlF, dNoPart, dPart, dPar, dParS, dAsg, dgN, dgT, dgCons, dgNil, dFE, dIsi, dListF, dNeg, dRev, dFrz, dApp, dAppS, dIns, dExtend, dClear, dReverse, dPop, oIx, oI, oIC, oAddU, oSubI, oMulU, oMulI, oFd, oMd, oPw, oLt, oLe, oGt, oGe, oEq, oNe, getF, setF, Cl.d, getS, setS, purF_nil, purF_cons, purH, allF_nil, allF_cons, allH, rho0, endsOf, scalD, bLen, bAbs, bInt, bIntU, bTup, true_and, and_true, Option.some.injEq, exists_eq_left', decide_eq_true_eq, Bool.not_eq_true', decide_eq_false_iff_not, it_eQ0, it_eQ1, it_eP0, it_eP1, it_eS0, it_eS1, fits_eQ, fits_eP, fits_eS, eqv_eQ, eqv_eP, eqv_eS, eqv_int, eqv_bool, shp_int, shp_bool, shp_none, shp_eQ, shp_eP, shp_eS, dCont, dBreak, dXi, dSetG, dAppG, oIsB, oNotB, dTx, pJoin, pSplit, pPart, pStarts, bStr, bIntS, dFmt, dJs, ↓reduceIte, nsp_none, nsp_bool, nsp_int, nsp_str, nsp_list, nsp_tuple, nsp_eQ, nsp_eP, nsp_eS, dat_pu, dat_ow, seqD_l, seqD_t, not_true_eq_false, Bool.true_eq_false, Bool.not_not, List.length_cons, List.length_nil, mkP, mkS, fits_list, fits_tuple, isIntD, isBoolD, isListD, isStrD, isTupD, Bool.not_true, Bool.not_false, Bool.false_eq_true, it_l0, it_l1, it_l2, it_t0, it_t1, it_t2, shp_ps, shp_pt, shp_ss, shp_is, seqD_eQ, seqD_eP, seqD_eS, walkD_eP, walkD_eS, walkD_l, walkD_t, List.length_map]
      refine ⟨by omega, ws ++ [z], _, _, _, by rw [List.length_append, hw]; rfl, ?_, fun w hw => ?_, by rw [List.map_append]; rfl⟩
      · rw [List.nodup_append]
        refine ⟨hn, by simp, fun a ha b hb e => ?_⟩
        rw [List.mem_singleton.mp hb] at e
        exact zn (e ▸ ha)
      · rcases List.mem_append.mp hw with hw | hw
        · exact hnm w hw
        · rw [List.mem_singleton.mp hw]; exact znm
  · rintro _ ⟨xs, hl, hx, rfl⟩ ρ' ⟨ws, s1, s2, s3, hw, hn, hnm, rfl⟩
    rw [List.length_map] at hw
    simp only [dRet, dRetF, dSetX, dCallX, dRetX, noOw, dTry, dCpy, dRaise, dRetO, dSetP, dSetS, dSetF, dSeq, dIf, dNext, dCall, dCallF, dB, dBin, dCons, dNil, dTup, dLst, dV, dC, dTV, onB, dTAnd, dTOr, dTNot, dAnd, dOr, dNot, dIfE, dIsN, dNotN, isN, dSl, dSlF, dNoPart, dPart, dPar, dParS, dAsg, dgN, dgT, dgCons, dgNil, dFE, dIsi, dListF, dNeg, dRev, dFrz, dApp, dAppS, dIns, dExtend, dClear, dReverse, dPop, oIx, oI, oIC, oAddU, oSubI, oMulU, oMulI, oFd, oMd, oPw, oLt, oLe, oGt, oGe, oEq, oNe, getF, setF, Cl.d, getS, setS, purF_nil, purF_cons, purH, allF_nil, allF_cons, allH, rho0, endsOf, scalD, bLen, bAbs, bInt, bIntU, bTup, true_and, and_true, Option.some.injEq, exists_eq_left', decide_eq_true_eq, Bool.not_eq_true', decide_eq_false_iff_not, it_eQ0, it_eQ1, it_eP0, it_eP1, it_eS0, it_eS1, fits_eQ, fits_eP, fits_eS, eqv_eQ, eqv_eP, eqv_eS, eqv_int, eqv_bool, shp_int, shp_bool, shp_none, shp_eQ, shp_eP, shp_eS, dCont, dBreak, dXi, dSetG, dAppG, oIsB, oNotB, dTx, pJoin, pSplit, pPart, pStarts, bStr, bIntS, dFmt, dJs, ↓reduceIte, nsp_none, nsp_bool, nsp_int, nsp_str, nsp_list, nsp_tuple, nsp_eQ, nsp_eP, nsp_eS, dat_pu, dat_ow, seqD_l, seqD_t, not_true_eq_false, Bool.true_eq_false, Bool.not_not, List.length_cons, List.length_nil, mkP, mkS, fits_list, fits_tuple, isIntD, isBoolD, isListD, isStrD, isTupD, Bool.not_true, Bool.not_false, Bool.false_eq_true, it_l0, it_l1, it_l2, it_t0, it_t1, it_t2, shp_ps, shp_pt, shp_ss, shp_is, seqD_eQ, seqD_eP, seqD_eS, walkD_eP, walkD_eS, walkD_l, walkD_t]
    exact h ws (by omega) hn hnm
end L2.D3.N6
set_option maxHeartbeats 1000000
/-! Sayings: texts read; the laws' helpers. -/
namespace L2.D3.SY
open PySem PySem.Spec PyProof.Rows L2.D3
open SX (S)
def readW (ws : List Str) : Option Sy := if ws.length ≤ 40 then match pr 41 ws 0 with
  | some (t, e) => if e < ws.length then none else some t
  | none => none
  else none
def readS : Dt → Option Sy
  | .str z => readW (Txt.split z " ")
  | _ => none
def sp_read_saying : DSp := fun ds Φ Ξ => ∃ d, ds = [d] ∧ okD d ∧ (∀ t, readS d = some t → Φ (.pu (eS t))) ∧ (readS d = none → Ξ xNS)
abbrev N_read_saying : List Str := ["text", "words", "saying", "end"]
def d_read_saying : DS := (dSeq (dIf (dTNot (dTV (dIsi isStrD (dV 0)))) (dRaise ⟨"NoSaying", []⟩) dNext)
  (dSeq (dSetP 1 (dTx pSplit (dV 0) (dC (.str " "))))
  (dSeq (dIf (dTV (dBin oGt (dB bLen (dCons (dV 1) dNil)) (dC cv_MOST_WORDS))) (dRaise ⟨"NoSaying", []⟩) dNext)
  (dSeq (dAsgX sp_read_at (dCons (dV 1) (dCons (dC (.int 0)) dNil)) (dgT 2 (dgCons (dgN 2) (dgCons (dgN 3) dgNil))))
  (dSeq (dIf (dTV (dBin oLt (dV 3) (dB bLen (dCons (dV 1) dNil)))) (dRaise ⟨"NoSaying", []⟩) dNext)
  (dRet (dV 2)))))))
theorem split_ok {z : Str} (h : okD (.str z)) : z.length ≤ 100000 ∧ (Txt.split z " ").length ≤ 100001 ∧ ∀ w ∈ Txt.split z " ", okD (.str w) := by
  obtain ⟨w, rfl, hw⟩ := OkW.of h
  have e32 : (" " : Str) = S [32] := rfl
  have hl := hw.1
  have sn := spl_len 32 w []
  rw [e32, SX.split_S (by simp) (by decide)]
  refine ⟨by rw [SX.S_len]; exact hl, by rw [List.length_map]; omega, fun x hx => ?_⟩
  obtain ⟨v, hv, rfl⟩ := List.mem_map.mp hx
  obtain ⟨i1, i2⟩ := spl_sub 32 w [] v hv
  exact OkW.ok (hw.sub (by simpa using i1) fun c hc => by rcases i2 c hc with z | z; cases z; exact z)
theorem rd_read_saying (ds : List Dt) (Φ : Slot → Prop) (Ξ : XD → Prop) (h : sp_read_saying ds Φ Ξ) : d_read_saying (endsOf Φ Ξ) (rho0 N_read_saying ds) := by
  obtain ⟨d, rfl, ho, h1, h2⟩ := h
  have hz : (200000 : Nat) < sizeLine := by decide
  show dSeq _ _ _ [.pu d, .un, .un, .un]
  refine seq_cut' (fun ρ => ∃ z, d = .str z ∧ ρ = [.pu (.str z), .un, .un, .un]) (fun E hr hx hE => ?_) ?_
  · cases d with
    | str z =>
      simp only [isStrD, dRet, dRetF, dSetX, dCallX, dRetX, noOw, dTry, dCpy, dRaise, dRetO, dSetP, dSetS, dSetF, dSeq, dIf, dNext, dCall, dCallF, dB, dBin, dCons, dNil, dTup, dLst, dV, dC, dTV, onB, dTAnd, dTOr, dTNot, dAnd, dOr, dNot, dIfE, dIsN, dNotN, isN, dSl, dSlF, dNoPart, dPart, dPar, dParS, dAsg, dgN, dgT, dgCons, dgNil, dFE, dIsi, dListF, dNeg, dRev, dFrz, dApp, dAppS, dIns, dExtend, dClear, dReverse, dPop, oIx, oI, oIC, add_ii, add_ss, add_ll, add_tt, oSubI, oMulU, oMulI, oFd, oMd, oPw, oLt, oLe, oGt, oGe, oEq, oNe, getF, setF, Cl.d, getS, setS, purF_nil, purF_cons, purH, allF_nil, allF_cons, allH, rho0, endsOf, scalD, len_l, len_t, len_s, bAbs, bInt, bIntU, tup_l, tup_t, true_and, and_true, Option.some.injEq, exists_eq_left', decide_eq_true_eq, Bool.not_eq_true', decide_eq_false_iff_not, it_eQ0, it_eQ1, it_eP0, it_eP1, it_eS0, it_eS1, fits_eQ, fits_eP, fits_eS, eqv_eQ, eqv_eP, eqv_eS, eqv_int, eqv_bool, shp_int, shp_bool, shp_none, shp_eQ, shp_eP, shp_eS, dCont, dBreak, dXi, dSetG, dAppG, oIsB, oNotB, dTx, pJoin, pSplit, pPart, pStarts, bStr, bIntS, dFmt, dJs, ↓reduceIte, nsp_none, nsp_bool, nsp_int, nsp_str, nsp_list, nsp_tuple, nsp_eQ, nsp_eP, nsp_eS, dat_pu, dat_ow, seqD_l, seqD_t, not_true_eq_false, Bool.true_eq_false, Bool.not_not, List.length_cons, List.length_nil, mkP, mkS, fits_list, fits_tuple, isIntD, isBoolD, isListD, isStrD, isTupD, Bool.not_true, Bool.not_false, Bool.false_eq_true, it_l0, it_l1, it_l2, it_t0, it_t1, it_t2, shp_ps, shp_pt, shp_ss, shp_is, seqD_eQ, seqD_eP, seqD_eS, walkD_eP, walkD_eS, walkD_l, walkD_t]
      exact hE _ ⟨z, rfl, rfl⟩
    | dict kvs =>
      simp only [isStrD, dRet, dRetF, dSetX, dCallX, dRetX, noOw, dTry, dCpy, dRaise, dRetO, dSetP, dSetS, dSetF, dSeq, dIf, dNext, dCall, dCallF, dB, dBin, dCons, dNil, dTup, dLst, dV, dC, dTV, onB, dTAnd, dTOr, dTNot, dAnd, dOr, dNot, dIfE, dIsN, dNotN, isN, dSl, dSlF, dNoPart, dPart, dPar, dParS, dAsg, dgN, dgT, dgCons, dgNil, dFE, dIsi, dListF, dNeg, dRev, dFrz, dApp, dAppS, dIns, dExtend, dClear, dReverse, dPop, oIx, oI, oIC, add_ii, add_ss, add_ll, add_tt, oSubI, oMulU, oMulI, oFd, oMd, oPw, oLt, oLe, oGt, oGe, oEq, oNe, getF, setF, Cl.d, getS, setS, purF_nil, purF_cons, purH, allF_nil, allF_cons, allH, rho0, endsOf, scalD, len_l, len_t, len_s, bAbs, bInt, bIntU, tup_l, tup_t, true_and, and_true, Option.some.injEq, exists_eq_left', decide_eq_true_eq, Bool.not_eq_true', decide_eq_false_iff_not, it_eQ0, it_eQ1, it_eP0, it_eP1, it_eS0, it_eS1, fits_eQ, fits_eP, fits_eS, eqv_eQ, eqv_eP, eqv_eS, eqv_int, eqv_bool, shp_int, shp_bool, shp_none, shp_eQ, shp_eP, shp_eS, dCont, dBreak, dXi, dSetG, dAppG, oIsB, oNotB, dTx, pJoin, pSplit, pPart, pStarts, bStr, bIntS, dFmt, dJs, ↓reduceIte, nsp_none, nsp_bool, nsp_int, nsp_str, nsp_list, nsp_tuple, nsp_eQ, nsp_eP, nsp_eS, dat_pu, dat_ow, seqD_l, seqD_t, not_true_eq_false, Bool.true_eq_false, Bool.not_not, List.length_cons, List.length_nil, mkP, mkS, fits_list, fits_tuple, isIntD, isBoolD, isListD, isStrD, isTupD, Bool.not_true, Bool.not_false, Bool.false_eq_true, it_l0, it_l1, it_l2, it_t0, it_t1, it_t2, shp_ps, shp_pt, shp_ss, shp_is, seqD_eQ, seqD_eP, seqD_eS, walkD_eP, walkD_eS, walkD_l, walkD_t]
      rw [hx]
      exact ⟨ok_spec ho, h2 rfl⟩
    | _ =>
      simp only [isStrD, dRet, dRetF, dSetX, dCallX, dRetX, noOw, dTry, dCpy, dRaise, dRetO, dSetP, dSetS, dSetF, dSeq, dIf, dNext, dCall, dCallF, dB, dBin, dCons, dNil, dTup, dLst, dV, dC, dTV, onB, dTAnd, dTOr, dTNot, dAnd, dOr, dNot, dIfE, dIsN, dNotN, isN, dSl, dSlF, dNoPart, dPart, dPar, dParS, dAsg, dgN, dgT, dgCons, dgNil, dFE, dIsi, dListF, dNeg, dRev, dFrz, dApp, dAppS, dIns, dExtend, dClear, dReverse, dPop, oIx, oI, oIC, add_ii, add_ss, add_ll, add_tt, oSubI, oMulU, oMulI, oFd, oMd, oPw, oLt, oLe, oGt, oGe, oEq, oNe, getF, setF, Cl.d, getS, setS, purF_nil, purF_cons, purH, allF_nil, allF_cons, allH, rho0, endsOf, scalD, len_l, len_t, len_s, bAbs, bInt, bIntU, tup_l, tup_t, true_and, and_true, Option.some.injEq, exists_eq_left', decide_eq_true_eq, Bool.not_eq_true', decide_eq_false_iff_not, it_eQ0, it_eQ1, it_eP0, it_eP1, it_eS0, it_eS1, fits_eQ, fits_eP, fits_eS, eqv_eQ, eqv_eP, eqv_eS, eqv_int, eqv_bool, shp_int, shp_bool, shp_none, shp_eQ, shp_eP, shp_eS, dCont, dBreak, dXi, dSetG, dAppG, oIsB, oNotB, dTx, pJoin, pSplit, pPart, pStarts, bStr, bIntS, dFmt, dJs, ↓reduceIte, nsp_none, nsp_bool, nsp_int, nsp_str, nsp_list, nsp_tuple, nsp_eQ, nsp_eP, nsp_eS, dat_pu, dat_ow, seqD_l, seqD_t, not_true_eq_false, Bool.true_eq_false, Bool.not_not, List.length_cons, List.length_nil, mkP, mkS, fits_list, fits_tuple, isIntD, isBoolD, isListD, isStrD, isTupD, Bool.not_true, Bool.not_false, Bool.false_eq_true, it_l0, it_l1, it_l2, it_t0, it_t1, it_t2, shp_ps, shp_pt, shp_ss, shp_is, seqD_eQ, seqD_eP, seqD_eS, walkD_eP, walkD_eS, walkD_l, walkD_t]
      rw [hx]
      exact h2 rfl
  rintro _ ⟨z, rfl, rfl⟩
  obtain ⟨zl, sl, so⟩ := split_ok ho
  have h1 : ∀ t, readW (Txt.split z " ") = some t → Φ (.pu (eS t)) := h1
  have h2 : readW (Txt.split z " ") = none → Ξ xNS := h2
  generalize ew : Txt.split z " " = ws at sl so h1 h2
  refine seq_cut' (fun ρ => ρ = [.pu (.str z), .pu (.list (ws.map .str)), .un, .un]) (fun E hr hx hE => ?_) ?_
  · simp only [dTx, pSplit, dRet, dRetF, dSetX, dCallX, dRetX, noOw, dTry, dCpy, dRaise, dRetO, dSetP, dSetS, dSetF, dSeq, dIf, dNext, dCall, dCallF, dB, dBin, dCons, dNil, dTup, dLst, dV, dC, dTV, onB, dTAnd, dTOr, dTNot, dAnd, dOr, dNot, dIfE, dIsN, dNotN, isN, dSl, dSlF, dNoPart, dPart, dPar, dParS, dAsg, dgN, dgT, dgCons, dgNil, dFE, dIsi, dListF, dNeg, dRev, dFrz, dApp, dAppS, dIns, dExtend, dClear, dReverse, dPop, oIx, oI, oIC, add_ii, add_ss, add_ll, add_tt, oSubI, oMulU, oMulI, oFd, oMd, oPw, oLt, oLe, oGt, oGe, oEq, oNe, getF, setF, Cl.d, getS, setS, purF_nil, purF_cons, purH, allF_nil, allF_cons, allH, rho0, endsOf, scalD, len_l, len_t, len_s, bAbs, bInt, bIntU, tup_l, tup_t, true_and, and_true, Option.some.injEq, exists_eq_left', decide_eq_true_eq, Bool.not_eq_true', decide_eq_false_iff_not, it_eQ0, it_eQ1, it_eP0, it_eP1, it_eS0, it_eS1, fits_eQ, fits_eP, fits_eS, eqv_eQ, eqv_eP, eqv_eS, eqv_int, eqv_bool, shp_int, shp_bool, shp_none, shp_eQ, shp_eP, shp_eS, dCont, dBreak, dXi, dSetG, dAppG, oIsB, oNotB, dTx, pJoin, pSplit, pPart, pStarts, bStr, bIntS, dFmt, dJs, ↓reduceIte, nsp_none, nsp_bool, nsp_int, nsp_str, nsp_list, nsp_tuple, nsp_eQ, nsp_eP, nsp_eS, dat_pu, dat_ow, seqD_l, seqD_t, not_true_eq_false, Bool.true_eq_false, Bool.not_not, List.length_cons, List.length_nil, mkP, mkS, fits_list, fits_tuple, isIntD, isBoolD, isListD, isStrD, isTupD, Bool.not_true, Bool.not_false, Bool.false_eq_true, it_l0, it_l1, it_l2, it_t0, it_t1, it_t2, shp_ps, shp_pt, shp_ss, shp_is, seqD_eQ, seqD_eP, seqD_eS, walkD_eP, walkD_eS, walkD_l, walkD_t]
    refine ⟨_, rfl, rfl, by omega, ?_⟩
    rw [ew]
    exact hE _ rfl
  rintro _ rfl
  unfold readW at h1 h2
  refine seq_cut' (fun ρ => ws.length ≤ 40 ∧ ρ = [.pu (.str z), .pu (.list (ws.map .str)), .un, .un]) (fun E hr hx hE => ?_) ?_
  · simp only [cv_MOST_WORDS, List.length_map, dRet, dRetF, dSetX, dCallX, dRetX, noOw, dTry, dCpy, dRaise, dRetO, dSetP, dSetS, dSetF, dSeq, dIf, dNext, dCall, dCallF, dB, dBin, dCons, dNil, dTup, dLst, dV, dC, dTV, onB, dTAnd, dTOr, dTNot, dAnd, dOr, dNot, dIfE, dIsN, dNotN, isN, dSl, dSlF, dNoPart, dPart, dPar, dParS, dAsg, dgN, dgT, dgCons, dgNil, dFE, dIsi, dListF, dNeg, dRev, dFrz, dApp, dAppS, dIns, dExtend, dClear, dReverse, dPop, oIx, oI, oIC, add_ii, add_ss, add_ll, add_tt, oSubI, oMulU, oMulI, oFd, oMd, oPw, oLt, oLe, oGt, oGe, oEq, oNe, getF, setF, Cl.d, getS, setS, purF_nil, purF_cons, purH, allF_nil, allF_cons, allH, rho0, endsOf, scalD, len_l, len_t, len_s, bAbs, bInt, bIntU, tup_l, tup_t, true_and, and_true, Option.some.injEq, exists_eq_left', decide_eq_true_eq, Bool.not_eq_true', decide_eq_false_iff_not, it_eQ0, it_eQ1, it_eP0, it_eP1, it_eS0, it_eS1, fits_eQ, fits_eP, fits_eS, eqv_eQ, eqv_eP, eqv_eS, eqv_int, eqv_bool, shp_int, shp_bool, shp_none, shp_eQ, shp_eP, shp_eS, dCont, dBreak, dXi, dSetG, dAppG, oIsB, oNotB, dTx, pJoin, pSplit, pPart, pStarts, bStr, bIntS, dFmt, dJs, ↓reduceIte, nsp_none, nsp_bool, nsp_int, nsp_str, nsp_list, nsp_tuple, nsp_eQ, nsp_eP, nsp_eS, dat_pu, dat_ow, seqD_l, seqD_t, not_true_eq_false, Bool.true_eq_false, Bool.not_not, List.length_cons, List.length_nil, mkP, mkS, fits_list, fits_tuple, isIntD, isBoolD, isListD, isStrD, isTupD, Bool.not_true, Bool.not_false, Bool.false_eq_true, it_l0, it_l1, it_l2, it_t0, it_t1, it_t2, shp_ps, shp_pt, shp_ss, shp_is, seqD_eQ, seqD_eP, seqD_eS, walkD_eP, walkD_eS, walkD_l, walkD_t]
    by_cases c : ws.length ≤ 40
    · exact ite_no (by omega) (hE _ ⟨c, rfl⟩)
    · refine ite_yes (by omega) ?_
      rw [hx]
      exact h2 (if_neg c)
  rintro _ ⟨c, rfl⟩
  rw [if_pos c] at h1 h2
  refine seq_cut' (fun ρ => ∃ t e, pr 41 ws 0 = some (t, e) ∧ ρ = [.pu (.str z), .pu (.list (ws.map .str)), .pu (eS t), .pu (.int (e : Nat))]) (fun E hr hx hE => ?_) ?_
  · simp only [dAsgX, dRet, dRetF, dSetX, dCallX, dRetX, noOw, dTry, dCpy, dRaise, dRetO, dSetP, dSetS, dSetF, dSeq, dIf, dNext, dCall, dCallF, dB, dBin, dCons, dNil, dTup, dLst, dV, dC, dTV, onB, dTAnd, dTOr, dTNot, dAnd, dOr, dNot, dIfE, dIsN, dNotN, isN, dSl, dSlF, dNoPart, dPart, dPar, dParS, dAsg, dgN, dgT, dgCons, dgNil, dFE, dIsi, dListF, dNeg, dRev, dFrz, dApp, dAppS, dIns, dExtend, dClear, dReverse, dPop, oIx, oI, oIC, add_ii, add_ss, add_ll, add_tt, oSubI, oMulU, oMulI, oFd, oMd, oPw, oLt, oLe, oGt, oGe, oEq, oNe, getF, setF, Cl.d, getS, setS, purF_nil, purF_cons, purH, allF_nil, allF_cons, allH, rho0, endsOf, scalD, len_l, len_t, len_s, bAbs, bInt, bIntU, tup_l, tup_t, true_and, and_true, Option.some.injEq, exists_eq_left', decide_eq_true_eq, Bool.not_eq_true', decide_eq_false_iff_not, it_eQ0, it_eQ1, it_eP0, it_eP1, it_eS0, it_eS1, fits_eQ, fits_eP, fits_eS, eqv_eQ, eqv_eP, eqv_eS, eqv_int, eqv_bool, shp_int, shp_bool, shp_none, shp_eQ, shp_eP, shp_eS, dCont, dBreak, dXi, dSetG, dAppG, oIsB, oNotB, dTx, pJoin, pSplit, pPart, pStarts, bStr, bIntS, dFmt, dJs, ↓reduceIte, nsp_none, nsp_bool, nsp_int, nsp_str, nsp_list, nsp_tuple, nsp_eQ, nsp_eP, nsp_eS, dat_pu, dat_ow, seqD_l, seqD_t, not_true_eq_false, Bool.true_eq_false, Bool.not_not, List.length_cons, List.length_nil, mkP, mkS, fits_list, fits_tuple, isIntD, isBoolD, isListD, isStrD, isTupD, Bool.not_true, Bool.not_false, Bool.false_eq_true, it_l0, it_l1, it_l2, it_t0, it_t1, it_t2, shp_ps, shp_pt, shp_ss, shp_is, seqD_eQ, seqD_eP, seqD_eS, walkD_eP, walkD_eS, walkD_l, walkD_t]
    refine ⟨ws, 0, rfl, ⟨c, so⟩, by omega, by omega, fun x hx1 => ?_, fun hx1 => ?_⟩
    · simp only [eR2, dRet, dRetF, dSetX, dCallX, dRetX, noOw, dTry, dCpy, dRaise, dRetO, dSetP, dSetS, dSetF, dSeq, dIf, dNext, dCall, dCallF, dB, dBin, dCons, dNil, dTup, dLst, dV, dC, dTV, onB, dTAnd, dTOr, dTNot, dAnd, dOr, dNot, dIfE, dIsN, dNotN, isN, dSl, dSlF, dNoPart, dPart, dPar, dParS, dAsg, dgN, dgT, dgCons, dgNil, dFE, dIsi, dListF, dNeg, dRev, dFrz, dApp, dAppS, dIns, dExtend, dClear, dReverse, dPop, oIx, oI, oIC, add_ii, add_ss, add_ll, add_tt, oSubI, oMulU, oMulI, oFd, oMd, oPw, oLt, oLe, oGt, oGe, oEq, oNe, getF, setF, Cl.d, getS, setS, purF_nil, purF_cons, purH, allF_nil, allF_cons, allH, rho0, endsOf, scalD, len_l, len_t, len_s, bAbs, bInt, bIntU, tup_l, tup_t, true_and, and_true, Option.some.injEq, exists_eq_left', decide_eq_true_eq, Bool.not_eq_true', decide_eq_false_iff_not, it_eQ0, it_eQ1, it_eP0, it_eP1, it_eS0, it_eS1, fits_eQ, fits_eP, fits_eS, eqv_eQ, eqv_eP, eqv_eS, eqv_int, eqv_bool, shp_int, shp_bool, shp_none, shp_eQ, shp_eP, shp_eS, dCont, dBreak, dXi, dSetG, dAppG, oIsB, oNotB, dTx, pJoin, pSplit, pPart, pStarts, bStr, bIntS, dFmt, dJs, ↓reduceIte, nsp_none, nsp_bool, nsp_int, nsp_str, nsp_list, nsp_tuple, nsp_eQ, nsp_eP, nsp_eS, dat_pu, dat_ow, seqD_l, seqD_t, not_true_eq_false, Bool.true_eq_false, Bool.not_not, List.length_cons, List.length_nil, mkP, mkS, fits_list, fits_tuple, isIntD, isBoolD, isListD, isStrD, isTupD, Bool.not_true, Bool.not_false, Bool.false_eq_true, it_l0, it_l1, it_l2, it_t0, it_t1, it_t2, shp_ps, shp_pt, shp_ss, shp_is, seqD_eQ, seqD_eP, seqD_eS, walkD_eP, walkD_eS, walkD_l, walkD_t]
      exact hE _ ⟨x.1, x.2, hx1, rfl⟩
    · rw [hx]
      rw [hx1] at h2
      exact h2 rfl
  rintro _ ⟨t, e, e1, rfl⟩
  simp only [e1] at h1 h2
  refine seq_cut' (fun ρ => ¬ e < ws.length ∧ ρ = [.pu (.str z), .pu (.list (ws.map .str)), .pu (eS t), .pu (.int (e : Nat))]) (fun E hr hx hE => ?_) ?_
  · simp only [List.length_map, dRet, dRetF, dSetX, dCallX, dRetX, noOw, dTry, dCpy, dRaise, dRetO, dSetP, dSetS, dSetF, dSeq, dIf, dNext, dCall, dCallF, dB, dBin, dCons, dNil, dTup, dLst, dV, dC, dTV, onB, dTAnd, dTOr, dTNot, dAnd, dOr, dNot, dIfE, dIsN, dNotN, isN, dSl, dSlF, dNoPart, dPart, dPar, dParS, dAsg, dgN, dgT, dgCons, dgNil, dFE, dIsi, dListF, dNeg, dRev, dFrz, dApp, dAppS, dIns, dExtend, dClear, dReverse, dPop, oIx, oI, oIC, add_ii, add_ss, add_ll, add_tt, oSubI, oMulU, oMulI, oFd, oMd, oPw, oLt, oLe, oGt, oGe, oEq, oNe, getF, setF, Cl.d, getS, setS, purF_nil, purF_cons, purH, allF_nil, allF_cons, allH, rho0, endsOf, scalD, len_l, len_t, len_s, bAbs, bInt, bIntU, tup_l, tup_t, true_and, and_true, Option.some.injEq, exists_eq_left', decide_eq_true_eq, Bool.not_eq_true', decide_eq_false_iff_not, it_eQ0, it_eQ1, it_eP0, it_eP1, it_eS0, it_eS1, fits_eQ, fits_eP, fits_eS, eqv_eQ, eqv_eP, eqv_eS, eqv_int, eqv_bool, shp_int, shp_bool, shp_none, shp_eQ, shp_eP, shp_eS, dCont, dBreak, dXi, dSetG, dAppG, oIsB, oNotB, dTx, pJoin, pSplit, pPart, pStarts, bStr, bIntS, dFmt, dJs, ↓reduceIte, nsp_none, nsp_bool, nsp_int, nsp_str, nsp_list, nsp_tuple, nsp_eQ, nsp_eP, nsp_eS, dat_pu, dat_ow, seqD_l, seqD_t, not_true_eq_false, Bool.true_eq_false, Bool.not_not, List.length_cons, List.length_nil, mkP, mkS, fits_list, fits_tuple, isIntD, isBoolD, isListD, isStrD, isTupD, Bool.not_true, Bool.not_false, Bool.false_eq_true, it_l0, it_l1, it_l2, it_t0, it_t1, it_t2, shp_ps, shp_pt, shp_ss, shp_is, seqD_eQ, seqD_eP, seqD_eS, walkD_eP, walkD_eS, walkD_l, walkD_t]
    by_cases c2 : e < ws.length
    · refine ite_yes (by omega) ?_
      rw [hx]
      exact h2 (if_pos c2)
    · exact ite_no (by omega) (hE _ ⟨c2, rfl⟩)
  rintro _ ⟨c2, rfl⟩
  simp only [dRet, dRetF, dSetX, dCallX, dRetX, noOw, dTry, dCpy, dRaise, dRetO, dSetP, dSetS, dSetF, dSeq, dIf, dNext, dCall, dCallF, dB, dBin, dCons, dNil, dTup, dLst, dV, dC, dTV, onB, dTAnd, dTOr, dTNot, dAnd, dOr, dNot, dIfE, dIsN, dNotN, isN, dSl, dSlF, dNoPart, dPart, dPar, dParS, dAsg, dgN, dgT, dgCons, dgNil, dFE, dIsi, dListF, dNeg, dRev, dFrz, dApp, dAppS, dIns, dExtend, dClear, dReverse, dPop, oIx, oI, oIC, add_ii, add_ss, add_ll, add_tt, oSubI, oMulU, oMulI, oFd, oMd, oPw, oLt, oLe, oGt, oGe, oEq, oNe, getF, setF, Cl.d, getS, setS, purF_nil, purF_cons, purH, allF_nil, allF_cons, allH, rho0, endsOf, scalD, len_l, len_t, len_s, bAbs, bInt, bIntU, tup_l, tup_t, true_and, and_true, Option.some.injEq, exists_eq_left', decide_eq_true_eq, Bool.not_eq_true', decide_eq_false_iff_not, it_eQ0, it_eQ1, it_eP0, it_eP1, it_eS0, it_eS1, fits_eQ, fits_eP, fits_eS, eqv_eQ, eqv_eP, eqv_eS, eqv_int, eqv_bool, shp_int, shp_bool, shp_none, shp_eQ, shp_eP, shp_eS, dCont, dBreak, dXi, dSetG, dAppG, oIsB, oNotB, dTx, pJoin, pSplit, pPart, pStarts, bStr, bIntS, dFmt, dJs, ↓reduceIte, nsp_none, nsp_bool, nsp_int, nsp_str, nsp_list, nsp_tuple, nsp_eQ, nsp_eP, nsp_eS, dat_pu, dat_ow, seqD_l, seqD_t, not_true_eq_false, Bool.true_eq_false, Bool.not_not, List.length_cons, List.length_nil, mkP, mkS, fits_list, fits_tuple, isIntD, isBoolD, isListD, isStrD, isTupD, Bool.not_true, Bool.not_false, Bool.false_eq_true, it_l0, it_l1, it_l2, it_t0, it_t1, it_t2, shp_ps, shp_pt, shp_ss, shp_is, seqD_eQ, seqD_eP, seqD_eS, walkD_eP, walkD_eS, walkD_l, walkD_t]
  exact h1 _ (if_neg c2)
theorem readS_tx {t : Sy} (h : Ok t) (hl : (wds t).length ≤ 40) : readS (.str (tx t)) = some t := by
  have hd := dep_wds t
  have p := pr_wds t 41 [] [] h (by omega)
  simp only [List.nil_append, List.append_nil, List.length_nil, Nat.zero_add] at p
  show readW (Txt.split (tx t) " ") = some t
  rw [split_tx t h]
  unfold readW
  rw [if_pos hl, p]
  simp
/-! ### the laws' helpers -/
def spr__law_said (n : Nat) : DSp := fun ds Φ _ => ∃ t : Sy, ds = [eT t] ∧ Ok t ∧ dep t ≤ n ∧ (wds t).length ≤ 1000 ∧ Φ (.pu (.str (tx t)))
def sp__law_said : DSp := spr__law_said 41
def spr__law_true (n : Nat) : DSp := fun ds Φ _ => ∃ (t : Sy) (ls : List (Str × Str)), ds = [eT t, .list (ls.map eLS)] ∧ Ok t ∧ dep t ≤ n ∧ LsOk ls ∧ Φ (.pu (.bool (ev ls t)))
def sp__law_true : DSp := spr__law_true 41
def stD (ns ss : List Str) (r : Nat) : Dt := .dict [(.str "xs", xsD), (.str "names", .list (ns.map .str)), (.str "sheets", .list (ss.map .str)), (.str "room", .int r)]
structure StOk (ns : List Str) : Prop where
  pos : 1 ≤ ns.length
  len : ns.length ≤ 100
  nm : ∀ z ∈ ns, isNm z = true
def spr__law_saying (n : Nat) : DSp := fun ds Φ _ => ∃ (ns ss : List Str) (rm r : Nat), ds = [stD ns ss rm, .int r] ∧ StOk ns ∧ StOk ss ∧ 1 ≤ r ∧ r ≤ n ∧ r ≤ 40 ∧ ∀ t : Sy, Ok t → (wds t).length ≤ r → Φ (.pu (eT t))
def sp__law_saying : DSp := spr__law_saying 41
abbrev N__law_saying : List Str := ["_law_state_here", "_law_room", "_law_x", "_law_way", "_law_leaf", "_law_first", "_law_one"]
def d__law_saying (n : Nat) : DS := (dPopIns 0 2 "xs" (dBin oAddU (dBin oFd (dV 2) (dC (.int 7))) (dBin oMulU (dC (.int 31)) (dV 1)))
  (dSeq (dSetP 3 (dBin oMd (dV 2) (dC (.int 12))))
  (dSeq (dIf (dTOr (dTV (dBin oLt (dV 1) (dC (.int 2)))) (dTV (dBin oLt (dV 3) (dC (.int 4))))) (dSeq (dSetP 4 (dBin oMd (dBin oFd (dV 2) (dC (.int 12))) (dC (.int 8))))
  (dSeq (dIf (dTV (dBin oLt (dV 4) (dC (.int 6)))) (dRet (dTup (dCons (dC (.str "name")) (dCons (dBin oIx (dKey "names" (dV 0)) (dBin oMd (dBin oFd (dV 2) (dC (.int 96))) (dB bLen (dCons (dKey "names" (dV 0)) dNil)))) dNil)))) dNext)
  (dRet (dTup (dCons (dBin oIx (dLst (dCons (dC (.str "all")) (dCons (dC (.str "none")) dNil))) (dBin oSubI (dV 4) (dC (.int 6)))) dNil))))) dNext)
  (dSeq (dIf (dTOr (dTV (dBin oLt (dV 1) (dC (.int 5)))) (dTV (dBin oLt (dV 3) (dC (.int 7))))) (dSeq (dIf (dTV (dBin oEq (dBin oMd (dV 3) (dC (.int 2))) (dC (.int 0)))) (dRet (dTup (dCons (dC (.str "sheet")) (dCons (dBin oIx (dKey "sheets" (dV 0)) (dBin oMd (dBin oFd (dV 2) (dC (.int 12))) (dB bLen (dCons (dKey "sheets" (dV 0)) dNil)))) dNil)))) dNext)
  (dRet (dTup (dCons (dC (.str "not")) (dCons (dCall (spr__law_saying n) (dCons (dV 0) (dCons (dBin oSubI (dV 1) (dC (.int 1))) dNil))) dNil))))) dNext)
  (dSeq (dSetP 5 (dBin oAddU (dC (.int 1)) (dBin oMd (dBin oFd (dV 2) (dC (.int 12))) (dBin oSubI (dV 1) (dC (.int 4))))))
  (dSeq (dSetP 6 (dCall (spr__law_saying n) (dCons (dV 0) (dCons (dV 5) dNil))))
  (dRet (dTup (dCons (dBin oIx (dLst (dCons (dC (.str "and")) (dCons (dC (.str "or")) dNil))) (dBin oMd (dBin oFd (dV 2) (dC (.int 500))) (dC (.int 2)))) (dCons (dV 6) (dCons (dCall (spr__law_saying n) (dCons (dV 0) (dCons (dBin oSubI (dBin oSubI (dV 1) (dC (.int 3))) (dV 5)) dNil))) dNil)))))))))))
abbrev N__law_said : List Str := ["_law_told"]
def d__law_said (n : Nat) : DS := (dSeq (dIf (dTV (dBin oEq (dBin oIx (dV 0) (dC (.int 0))) (dC (.str "name")))) (dRet (dBin oIx (dV 0) (dC (.int 1)))) dNext)
  (dSeq (dIf (dTV (dBin oEq (dBin oIx (dV 0) (dC (.int 0))) (dC (.str "sheet")))) (dRet (dBin oAddU (dC (.str "sheet ")) (dBin oIx (dV 0) (dC (.int 1))))) dNext)
  (dSeq (dIf (dTV (dBin oEq (dBin oIx (dV 0) (dC (.int 0))) (dC (.str "not")))) (dRet (dBin oAddU (dC (.str "not ")) (dCall (spr__law_said n) (dCons (dBin oIx (dV 0) (dC (.int 1))) dNil)))) dNext)
  (dSeq (dIf (dTV (dBin oIn (dBin oIx (dV 0) (dC (.int 0))) (dTup (dCons (dC (.str "and")) (dCons (dC (.str "or")) dNil))))) (dRet (dBin oAddU (dBin oAddU (dBin oAddU (dBin oAddU (dBin oAddU (dBin oAddU (dC (.str "( ")) (dCall (spr__law_said n) (dCons (dBin oIx (dV 0) (dC (.int 1))) dNil))) (dC (.str " "))) (dBin oIx (dV 0) (dC (.int 0)))) (dC (.str " "))) (dCall (spr__law_said n) (dCons (dBin oIx (dV 0) (dC (.int 2))) dNil))) (dC (.str " )")))) dNext)
  (dRet (dBin oIx (dV 0) (dC (.int 0))))))))
abbrev N__law_true : List Str := ["_law_told", "_law_lands", "_law_land"]
def d__law_true (n : Nat) : DS := (dSeq (dIf (dTV (dBin oEq (dBin oIx (dV 0) (dC (.int 0))) (dC (.str "name")))) (dRet (dBin oIn (dBin oIx (dV 0) (dC (.int 1))) (dFE (dLc [2] (diSeq (dV 1)) (dcN 2) dYes (dBin oIx (dV 2) (dC (.int 0))))))) dNext)
  (dSeq (dIf (dTV (dBin oEq (dBin oIx (dV 0) (dC (.int 0))) (dC (.str "sheet")))) (dRet (dBin oIn (dBin oIx (dV 0) (dC (.int 1))) (dFE (dLc [2] (diSeq (dV 1)) (dcN 2) dYes (dBin oIx (dV 2) (dC (.int 1))))))) dNext)
  (dSeq (dIf (dTV (dBin oEq (dBin oIx (dV 0) (dC (.int 0))) (dC (.str "not")))) (dRet (dNot (dCall (spr__law_true n) (dCons (dBin oIx (dV 0) (dC (.int 1))) (dCons (dV 1) dNil))))) dNext)
  (dSeq (dIf (dTV (dBin oEq (dBin oIx (dV 0) (dC (.int 0))) (dC (.str "and")))) (dRet (dAnd (dCall (spr__law_true n) (dCons (dBin oIx (dV 0) (dC (.int 1))) (dCons (dV 1) dNil))) (dCall (spr__law_true n) (dCons (dBin oIx (dV 0) (dC (.int 2))) (dCons (dV 1) dNil))))) dNext)
  (dSeq (dIf (dTV (dBin oEq (dBin oIx (dV 0) (dC (.int 0))) (dC (.str "or")))) (dRet (dOr (dCall (spr__law_true n) (dCons (dBin oIx (dV 0) (dC (.int 1))) (dCons (dV 1) dNil))) (dCall (spr__law_true n) (dCons (dBin oIx (dV 0) (dC (.int 2))) (dCons (dV 1) dNil))))) dNext)
  (dRet (dBin oEq (dBin oIx (dV 0) (dC (.int 0))) (dC (.str "all")))))))))
/-- if x[0] == "..": .. -/
theorem seq_eq0 {w c : Str} {xs : List Dt} {A u : DS} {E : DEnds} {ρ : Rho} (g : getF (allF ρ) 0 = some (.tuple (.str w :: xs))) (hw : SeqAt.shaped (.str w) = true) (hc : SeqAt.shaped (.str c) = true) (h1 : w = c → A { E with nx := u E } ρ) (h2 : w ≠ c → u E ρ) : dSeq (dIf (dTV (dBin oEq (dBin oIx (dV 0) (dC (.int 0))) (dC (.str c)))) A dNext) u E ρ := by
  unfold dSeq dIf dTV dBin dV dC oEq
  rw [g]
  refine ⟨trivial, _, it_t0 _ _, hw, hc, ?_⟩
  rw [eqv_str]
  show if decide (w = c) = true then _ else _
  by_cases k : w = c
  · rw [if_pos (decide_eq_true k)]
    exact h1 k
  · rw [if_neg (by simp [k])]
    exact h2 k
def hdT : Sy → Str
  | .name _ => "name"
  | .sheet _ => "sheet"
  | .all => "all"
  | .none => "none"
  | .not _ => "not"
  | .and _ _ => "and"
  | .or _ _ => "or"
theorem k_shp2 : SeqAt.shaped (.str "name") = true ∧ SeqAt.shaped (.str "or") = true := ⟨shp_str (by decide +kernel), shp_str (by decide +kernel)⟩
theorem rd__law_said (n : Nat) (ds : List Dt) (Φ : Slot → Prop) (Ξ : XD → Prop) (h : spr__law_said (n + 1) ds Φ Ξ) : d__law_said n (endsOf Φ Ξ) (rho0 N__law_said ds) := by
  obtain ⟨t, rfl, ok, hd, hl, h⟩ := h
  have hz : (100000 : Nat) < sizeLine := by decide
  obtain ⟨s1, s2, s3, s4, s5, s6, s7, s8⟩ := k_shp
  obtain ⟨s9, s10⟩ := k_shp2
  have l1 : (" " : Str).length = 1 := by decide +kernel
  have l2 : ("and" : Str).length = 3 := by decide +kernel
  have l3 : ("or" : Str).length = 2 := by decide +kernel
  have as : ∀ a b c : Str, a ++ b ++ c = a ++ (b ++ c) := fun a b c => TL.ext_tl (by rw [TL.tl_append, TL.tl_append, TL.tl_append, TL.tl_append, List.append_assoc])
  have ea : (" " : Str) ++ ("and" ++ " ") = " and " := by decide +kernel
  have eo : (" " : Str) ++ ("or" ++ " ") = " or " := by decide +kernel
  show dSeq _ _ _ [.pu (eT t)]
  cases t with
  | name z =>
    refine seq_eq0 rfl s9 s9 (fun c => ?_) fun c => absurd rfl c
    simp only [eT, it_t1, fits_tuple, dRet, dRetF, dSetX, dCallX, dRetX, noOw, dTry, dCpy, dRaise, dRetO, dSetP, dSetS, dSetF, dSeq, dIf, dNext, dCall, dCallF, dB, dBin, dCons, dNil, dTup, dLst, dV, dC, dTV, onB, dTAnd, dTOr, dTNot, dAnd, dOr, dNot, dIfE, dIsN, dNotN, isN, dSl, dSlF, dNoPart, dPart, dPar, dParS, dAsg, dgN, dgT, dgCons, dgNil, dFE, dIsi, dListF, dNeg, dRev, dFrz, dApp, dAppS, dIns, dExtend, dClear, dReverse, dPop, oIx, oI, oIC, add_ii, add_ss, add_ll, add_tt, oSubI, oMulU, oMulI, oFd, oMd, oPw, oLt, oLe, oGt, oGe, oEq, oNe, getF, setF, Cl.d, getS, setS, purF_nil, purF_cons, purH, allF_nil, allF_cons, allH, rho0, endsOf, scalD, len_l, len_t, len_s, bAbs, bInt, bIntU, tup_l, tup_t, true_and, and_true, Option.some.injEq, exists_eq_left', decide_eq_true_eq, Bool.not_eq_true', decide_eq_false_iff_not, it_eQ0, it_eQ1, it_eP0, it_eP1, it_eS0, it_eS1, fits_eQ, fits_eP, fits_eS, eqv_eQ, eqv_eP, eqv_eS, eqv_int, eqv_bool, shp_int, shp_bool, shp_none, shp_eQ, shp_eP, shp_eS, dCont, dBreak, dXi, dSetG, dAppG, oIsB, oNotB, dTx, pJoin, pSplit, pPart, pStarts, bStr, bIntS, dFmt, dJs, ↓reduceIte, nsp_none, nsp_bool, nsp_int, nsp_str, nsp_list, nsp_tuple, nsp_eQ, nsp_eP, nsp_eS, dat_pu, dat_ow, seqD_l, seqD_t, not_true_eq_false, Bool.true_eq_false, Bool.not_not, List.length_cons, List.length_nil, mkP, mkS, fits_list, fits_tuple, isIntD, isBoolD, isListD, isStrD, isTupD, Bool.not_true, Bool.not_false, Bool.false_eq_true, it_l0, it_l1, it_l2, it_t0, it_t1, it_t2, shp_ps, shp_pt, shp_ss, shp_is, seqD_eQ, seqD_eP, seqD_eS, walkD_eP, walkD_eS, walkD_l, walkD_t]
    exact h
  | sheet z =>
    refine seq_eq0 rfl s5 s9 (fun c => absurd c (by decide)) fun c => ?_
    refine seq_eq0 rfl s5 s5 (fun c => ?_) fun c => absurd rfl c
    have := nm_len ok
    simp only [eT, it_t1, fits_tuple, l_sheet, dRet, dRetF, dSetX, dCallX, dRetX, noOw, dTry, dCpy, dRaise, dRetO, dSetP, dSetS, dSetF, dSeq, dIf, dNext, dCall, dCallF, dB, dBin, dCons, dNil, dTup, dLst, dV, dC, dTV, onB, dTAnd, dTOr, dTNot, dAnd, dOr, dNot, dIfE, dIsN, dNotN, isN, dSl, dSlF, dNoPart, dPart, dPar, dParS, dAsg, dgN, dgT, dgCons, dgNil, dFE, dIsi, dListF, dNeg, dRev, dFrz, dApp, dAppS, dIns, dExtend, dClear, dReverse, dPop, oIx, oI, oIC, add_ii, add_ss, add_ll, add_tt, oSubI, oMulU, oMulI, oFd, oMd, oPw, oLt, oLe, oGt, oGe, oEq, oNe, getF, setF, Cl.d, getS, setS, purF_nil, purF_cons, purH, allF_nil, allF_cons, allH, rho0, endsOf, scalD, len_l, len_t, len_s, bAbs, bInt, bIntU, tup_l, tup_t, true_and, and_true, Option.some.injEq, exists_eq_left', decide_eq_true_eq, Bool.not_eq_true', decide_eq_false_iff_not, it_eQ0, it_eQ1, it_eP0, it_eP1, it_eS0, it_eS1, fits_eQ, fits_eP, fits_eS, eqv_eQ, eqv_eP, eqv_eS, eqv_int, eqv_bool, shp_int, shp_bool, shp_none, shp_eQ, shp_eP, shp_eS, dCont, dBreak, dXi, dSetG, dAppG, oIsB, oNotB, dTx, pJoin, pSplit, pPart, pStarts, bStr, bIntS, dFmt, dJs, ↓reduceIte, nsp_none, nsp_bool, nsp_int, nsp_str, nsp_list, nsp_tuple, nsp_eQ, nsp_eP, nsp_eS, dat_pu, dat_ow, seqD_l, seqD_t, not_true_eq_false, Bool.true_eq_false, Bool.not_not, List.length_cons, List.length_nil, mkP, mkS, fits_list, fits_tuple, isIntD, isBoolD, isListD, isStrD, isTupD, Bool.not_true, Bool.not_false, Bool.false_eq_true, it_l0, it_l1, it_l2, it_t0, it_t1, it_t2, shp_ps, shp_pt, shp_ss, shp_is, seqD_eQ, seqD_eP, seqD_eS, walkD_eP, walkD_eS, walkD_l, walkD_t]
    exact ⟨by omega, h⟩
  | all =>
    refine seq_eq0 rfl s1 s9 (fun c => absurd c (by decide)) fun c => ?_
    refine seq_eq0 rfl s1 s5 (fun c => absurd c (by decide)) fun c => ?_
    refine seq_eq0 rfl s1 s3 (fun c => absurd c (by decide)) fun c => ?_
    rw [and_or]
    simp only [eT, it_t0, fits_tuple, oIn, s1, s8, any_str, dRet, dRetF, dSetX, dCallX, dRetX, noOw, dTry, dCpy, dRaise, dRetO, dSetP, dSetS, dSetF, dSeq, dIf, dNext, dCall, dCallF, dB, dBin, dCons, dNil, dTup, dLst, dV, dC, dTV, onB, dTAnd, dTOr, dTNot, dAnd, dOr, dNot, dIfE, dIsN, dNotN, isN, dSl, dSlF, dNoPart, dPart, dPar, dParS, dAsg, dgN, dgT, dgCons, dgNil, dFE, dIsi, dListF, dNeg, dRev, dFrz, dApp, dAppS, dIns, dExtend, dClear, dReverse, dPop, oIx, oI, oIC, add_ii, add_ss, add_ll, add_tt, oSubI, oMulU, oMulI, oFd, oMd, oPw, oLt, oLe, oGt, oGe, oEq, oNe, getF, setF, Cl.d, getS, setS, purF_nil, purF_cons, purH, allF_nil, allF_cons, allH, rho0, endsOf, scalD, len_l, len_t, len_s, bAbs, bInt, bIntU, tup_l, tup_t, true_and, and_true, Option.some.injEq, exists_eq_left', decide_eq_true_eq, Bool.not_eq_true', decide_eq_false_iff_not, it_eQ0, it_eQ1, it_eP0, it_eP1, it_eS0, it_eS1, fits_eQ, fits_eP, fits_eS, eqv_eQ, eqv_eP, eqv_eS, eqv_int, eqv_bool, shp_int, shp_bool, shp_none, shp_eQ, shp_eP, shp_eS, dCont, dBreak, dXi, dSetG, dAppG, oIsB, oNotB, dTx, pJoin, pSplit, pPart, pStarts, bStr, bIntS, dFmt, dJs, ↓reduceIte, nsp_none, nsp_bool, nsp_int, nsp_str, nsp_list, nsp_tuple, nsp_eQ, nsp_eP, nsp_eS, dat_pu, dat_ow, seqD_l, seqD_t, not_true_eq_false, Bool.true_eq_false, Bool.not_not, List.length_cons, List.length_nil, mkP, mkS, fits_list, fits_tuple, isIntD, isBoolD, isListD, isStrD, isTupD, Bool.not_true, Bool.not_false, Bool.false_eq_true, it_l0, it_l1, it_l2, it_t0, it_t1, it_t2, shp_ps, shp_pt, shp_ss, shp_is, seqD_eQ, seqD_eP, seqD_eS, walkD_eP, walkD_eS, walkD_l, walkD_t]
    rw [if_neg (by decide)]
    exact h
  | none =>
    refine seq_eq0 rfl s2 s9 (fun c => absurd c (by decide)) fun c => ?_
    refine seq_eq0 rfl s2 s5 (fun c => absurd c (by decide)) fun c => ?_
    refine seq_eq0 rfl s2 s3 (fun c => absurd c (by decide)) fun c => ?_
    rw [and_or]
    simp only [eT, it_t0, fits_tuple, oIn, s2, s8, any_str, dRet, dRetF, dSetX, dCallX, dRetX, noOw, dTry, dCpy, dRaise, dRetO, dSetP, dSetS, dSetF, dSeq, dIf, dNext, dCall, dCallF, dB, dBin, dCons, dNil, dTup, dLst, dV, dC, dTV, onB, dTAnd, dTOr, dTNot, dAnd, dOr, dNot, dIfE, dIsN, dNotN, isN, dSl, dSlF, dNoPart, dPart, dPar, dParS, dAsg, dgN, dgT, dgCons, dgNil, dFE, dIsi, dListF, dNeg, dRev, dFrz, dApp, dAppS, dIns, dExtend, dClear, dReverse, dPop, oIx, oI, oIC, add_ii, add_ss, add_ll, add_tt, oSubI, oMulU, oMulI, oFd, oMd, oPw, oLt, oLe, oGt, oGe, oEq, oNe, getF, setF, Cl.d, getS, setS, purF_nil, purF_cons, purH, allF_nil, allF_cons, allH, rho0, endsOf, scalD, len_l, len_t, len_s, bAbs, bInt, bIntU, tup_l, tup_t, true_and, and_true, Option.some.injEq, exists_eq_left', decide_eq_true_eq, Bool.not_eq_true', decide_eq_false_iff_not, it_eQ0, it_eQ1, it_eP0, it_eP1, it_eS0, it_eS1, fits_eQ, fits_eP, fits_eS, eqv_eQ, eqv_eP, eqv_eS, eqv_int, eqv_bool, shp_int, shp_bool, shp_none, shp_eQ, shp_eP, shp_eS, dCont, dBreak, dXi, dSetG, dAppG, oIsB, oNotB, dTx, pJoin, pSplit, pPart, pStarts, bStr, bIntS, dFmt, dJs, ↓reduceIte, nsp_none, nsp_bool, nsp_int, nsp_str, nsp_list, nsp_tuple, nsp_eQ, nsp_eP, nsp_eS, dat_pu, dat_ow, seqD_l, seqD_t, not_true_eq_false, Bool.true_eq_false, Bool.not_not, List.length_cons, List.length_nil, mkP, mkS, fits_list, fits_tuple, isIntD, isBoolD, isListD, isStrD, isTupD, Bool.not_true, Bool.not_false, Bool.false_eq_true, it_l0, it_l1, it_l2, it_t0, it_t1, it_t2, shp_ps, shp_pt, shp_ss, shp_is, seqD_eQ, seqD_eP, seqD_eS, walkD_eP, walkD_eS, walkD_l, walkD_t]
    rw [if_neg (by decide)]
    exact h
  | not u =>
    have hd : dep u ≤ n := by simp only [dep] at hd; omega
    have hl : (wds u).length ≤ 1000 := by simp only [wds, List.length_cons] at hl; omega
    have := tx_len u ok
    refine seq_eq0 rfl s3 s9 (fun c => absurd c (by decide)) fun c => ?_
    refine seq_eq0 rfl s3 s5 (fun c => absurd c (by decide)) fun c => ?_
    refine seq_eq0 rfl s3 s3 (fun c => ?_) fun c => absurd rfl c
    simp only [eT, it_t1, fits_tuple, dRet, dRetF, dSetX, dCallX, dRetX, noOw, dTry, dCpy, dRaise, dRetO, dSetP, dSetS, dSetF, dSeq, dIf, dNext, dCall, dCallF, dB, dBin, dCons, dNil, dTup, dLst, dV, dC, dTV, onB, dTAnd, dTOr, dTNot, dAnd, dOr, dNot, dIfE, dIsN, dNotN, isN, dSl, dSlF, dNoPart, dPart, dPar, dParS, dAsg, dgN, dgT, dgCons, dgNil, dFE, dIsi, dListF, dNeg, dRev, dFrz, dApp, dAppS, dIns, dExtend, dClear, dReverse, dPop, oIx, oI, oIC, add_ii, add_ss, add_ll, add_tt, oSubI, oMulU, oMulI, oFd, oMd, oPw, oLt, oLe, oGt, oGe, oEq, oNe, getF, setF, Cl.d, getS, setS, purF_nil, purF_cons, purH, allF_nil, allF_cons, allH, rho0, endsOf, scalD, len_l, len_t, len_s, bAbs, bInt, bIntU, tup_l, tup_t, true_and, and_true, Option.some.injEq, exists_eq_left', decide_eq_true_eq, Bool.not_eq_true', decide_eq_false_iff_not, it_eQ0, it_eQ1, it_eP0, it_eP1, it_eS0, it_eS1, fits_eQ, fits_eP, fits_eS, eqv_eQ, eqv_eP, eqv_eS, eqv_int, eqv_bool, shp_int, shp_bool, shp_none, shp_eQ, shp_eP, shp_eS, dCont, dBreak, dXi, dSetG, dAppG, oIsB, oNotB, dTx, pJoin, pSplit, pPart, pStarts, bStr, bIntS, dFmt, dJs, ↓reduceIte, nsp_none, nsp_bool, nsp_int, nsp_str, nsp_list, nsp_tuple, nsp_eQ, nsp_eP, nsp_eS, dat_pu, dat_ow, seqD_l, seqD_t, not_true_eq_false, Bool.true_eq_false, Bool.not_not, List.length_cons, List.length_nil, mkP, mkS, fits_list, fits_tuple, isIntD, isBoolD, isListD, isStrD, isTupD, Bool.not_true, Bool.not_false, Bool.false_eq_true, it_l0, it_l1, it_l2, it_t0, it_t1, it_t2, shp_ps, shp_pt, shp_ss, shp_is, seqD_eQ, seqD_eP, seqD_eS, walkD_eP, walkD_eS, walkD_l, walkD_t]
    refine ⟨u, rfl, ok, hd, hl, ?_⟩
    simp only [l_not, dRet, dRetF, dSetX, dCallX, dRetX, noOw, dTry, dCpy, dRaise, dRetO, dSetP, dSetS, dSetF, dSeq, dIf, dNext, dCall, dCallF, dB, dBin, dCons, dNil, dTup, dLst, dV, dC, dTV, onB, dTAnd, dTOr, dTNot, dAnd, dOr, dNot, dIfE, dIsN, dNotN, isN, dSl, dSlF, dNoPart, dPart, dPar, dParS, dAsg, dgN, dgT, dgCons, dgNil, dFE, dIsi, dListF, dNeg, dRev, dFrz, dApp, dAppS, dIns, dExtend, dClear, dReverse, dPop, oIx, oI, oIC, add_ii, add_ss, add_ll, add_tt, oSubI, oMulU, oMulI, oFd, oMd, oPw, oLt, oLe, oGt, oGe, oEq, oNe, getF, setF, Cl.d, getS, setS, purF_nil, purF_cons, purH, allF_nil, allF_cons, allH, rho0, endsOf, scalD, len_l, len_t, len_s, bAbs, bInt, bIntU, tup_l, tup_t, true_and, and_true, Option.some.injEq, exists_eq_left', decide_eq_true_eq, Bool.not_eq_true', decide_eq_false_iff_not, it_eQ0, it_eQ1, it_eP0, it_eP1, it_eS0, it_eS1, fits_eQ, fits_eP, fits_eS, eqv_eQ, eqv_eP, eqv_eS, eqv_int, eqv_bool, shp_int, shp_bool, shp_none, shp_eQ, shp_eP, shp_eS, dCont, dBreak, dXi, dSetG, dAppG, oIsB, oNotB, dTx, pJoin, pSplit, pPart, pStarts, bStr, bIntS, dFmt, dJs, ↓reduceIte, nsp_none, nsp_bool, nsp_int, nsp_str, nsp_list, nsp_tuple, nsp_eQ, nsp_eP, nsp_eS, dat_pu, dat_ow, seqD_l, seqD_t, not_true_eq_false, Bool.true_eq_false, Bool.not_not, List.length_cons, List.length_nil, mkP, mkS, fits_list, fits_tuple, isIntD, isBoolD, isListD, isStrD, isTupD, Bool.not_true, Bool.not_false, Bool.false_eq_true, it_l0, it_l1, it_l2, it_t0, it_t1, it_t2, shp_ps, shp_pt, shp_ss, shp_is, seqD_eQ, seqD_eP, seqD_eS, walkD_eP, walkD_eS, walkD_l, walkD_t]
    exact ⟨by omega, h⟩
  | and a b =>
    have hda : dep a ≤ n := by simp only [dep] at hd; omega
    have hdb : dep b ≤ n := by simp only [dep] at hd; omega
    simp only [wds, List.length_cons, List.length_append, List.length_nil] at hl
    have := tx_len a ok.1
    have := tx_len b ok.2
    refine seq_eq0 rfl s7 s9 (fun c => absurd c (by decide)) fun c => ?_
    refine seq_eq0 rfl s7 s5 (fun c => absurd c (by decide)) fun c => ?_
    refine seq_eq0 rfl s7 s3 (fun c => absurd c (by decide)) fun c => ?_
    rw [and_or]
    simp only [eT, it_t0, fits_tuple, oIn, s7, s8, any_str, dRet, dRetF, dSetX, dCallX, dRetX, noOw, dTry, dCpy, dRaise, dRetO, dSetP, dSetS, dSetF, dSeq, dIf, dNext, dCall, dCallF, dB, dBin, dCons, dNil, dTup, dLst, dV, dC, dTV, onB, dTAnd, dTOr, dTNot, dAnd, dOr, dNot, dIfE, dIsN, dNotN, isN, dSl, dSlF, dNoPart, dPart, dPar, dParS, dAsg, dgN, dgT, dgCons, dgNil, dFE, dIsi, dListF, dNeg, dRev, dFrz, dApp, dAppS, dIns, dExtend, dClear, dReverse, dPop, oIx, oI, oIC, add_ii, add_ss, add_ll, add_tt, oSubI, oMulU, oMulI, oFd, oMd, oPw, oLt, oLe, oGt, oGe, oEq, oNe, getF, setF, Cl.d, getS, setS, purF_nil, purF_cons, purH, allF_nil, allF_cons, allH, rho0, endsOf, scalD, len_l, len_t, len_s, bAbs, bInt, bIntU, tup_l, tup_t, true_and, and_true, Option.some.injEq, exists_eq_left', decide_eq_true_eq, Bool.not_eq_true', decide_eq_false_iff_not, it_eQ0, it_eQ1, it_eP0, it_eP1, it_eS0, it_eS1, fits_eQ, fits_eP, fits_eS, eqv_eQ, eqv_eP, eqv_eS, eqv_int, eqv_bool, shp_int, shp_bool, shp_none, shp_eQ, shp_eP, shp_eS, dCont, dBreak, dXi, dSetG, dAppG, oIsB, oNotB, dTx, pJoin, pSplit, pPart, pStarts, bStr, bIntS, dFmt, dJs, ↓reduceIte, nsp_none, nsp_bool, nsp_int, nsp_str, nsp_list, nsp_tuple, nsp_eQ, nsp_eP, nsp_eS, dat_pu, dat_ow, seqD_l, seqD_t, not_true_eq_false, Bool.true_eq_false, Bool.not_not, List.length_cons, List.length_nil, mkP, mkS, fits_list, fits_tuple, isIntD, isBoolD, isListD, isStrD, isTupD, Bool.not_true, Bool.not_false, Bool.false_eq_true, it_l0, it_l1, it_l2, it_t0, it_t1, it_t2, shp_ps, shp_pt, shp_ss, shp_is, seqD_eQ, seqD_eP, seqD_eS, walkD_eP, walkD_eS, walkD_l, walkD_t]
    rw [if_pos (by decide)]
    refine ⟨a, rfl, ok.1, hda, by omega, ?_⟩
    simp only [it_t0, it_t2, fits_tuple, l_op, l1, l2, slen, dRet, dRetF, dSetX, dCallX, dRetX, noOw, dTry, dCpy, dRaise, dRetO, dSetP, dSetS, dSetF, dSeq, dIf, dNext, dCall, dCallF, dB, dBin, dCons, dNil, dTup, dLst, dV, dC, dTV, onB, dTAnd, dTOr, dTNot, dAnd, dOr, dNot, dIfE, dIsN, dNotN, isN, dSl, dSlF, dNoPart, dPart, dPar, dParS, dAsg, dgN, dgT, dgCons, dgNil, dFE, dIsi, dListF, dNeg, dRev, dFrz, dApp, dAppS, dIns, dExtend, dClear, dReverse, dPop, oIx, oI, oIC, add_ii, add_ss, add_ll, add_tt, oSubI, oMulU, oMulI, oFd, oMd, oPw, oLt, oLe, oGt, oGe, oEq, oNe, getF, setF, Cl.d, getS, setS, purF_nil, purF_cons, purH, allF_nil, allF_cons, allH, rho0, endsOf, scalD, len_l, len_t, len_s, bAbs, bInt, bIntU, tup_l, tup_t, true_and, and_true, Option.some.injEq, exists_eq_left', decide_eq_true_eq, Bool.not_eq_true', decide_eq_false_iff_not, it_eQ0, it_eQ1, it_eP0, it_eP1, it_eS0, it_eS1, fits_eQ, fits_eP, fits_eS, eqv_eQ, eqv_eP, eqv_eS, eqv_int, eqv_bool, shp_int, shp_bool, shp_none, shp_eQ, shp_eP, shp_eS, dCont, dBreak, dXi, dSetG, dAppG, oIsB, oNotB, dTx, pJoin, pSplit, pPart, pStarts, bStr, bIntS, dFmt, dJs, ↓reduceIte, nsp_none, nsp_bool, nsp_int, nsp_str, nsp_list, nsp_tuple, nsp_eQ, nsp_eP, nsp_eS, dat_pu, dat_ow, seqD_l, seqD_t, not_true_eq_false, Bool.true_eq_false, Bool.not_not, List.length_cons, List.length_nil, mkP, mkS, fits_list, fits_tuple, isIntD, isBoolD, isListD, isStrD, isTupD, Bool.not_true, Bool.not_false, Bool.false_eq_true, it_l0, it_l1, it_l2, it_t0, it_t1, it_t2, shp_ps, shp_pt, shp_ss, shp_is, seqD_eQ, seqD_eP, seqD_eS, walkD_eP, walkD_eS, walkD_l, walkD_t]
    refine ⟨by omega, by omega, by omega, by omega, ?_⟩
    refine ⟨b, rfl, ok.2, hdb, by omega, ?_⟩
    simp only [l_op, l1, l2, l_cl, slen, dRet, dRetF, dSetX, dCallX, dRetX, noOw, dTry, dCpy, dRaise, dRetO, dSetP, dSetS, dSetF, dSeq, dIf, dNext, dCall, dCallF, dB, dBin, dCons, dNil, dTup, dLst, dV, dC, dTV, onB, dTAnd, dTOr, dTNot, dAnd, dOr, dNot, dIfE, dIsN, dNotN, isN, dSl, dSlF, dNoPart, dPart, dPar, dParS, dAsg, dgN, dgT, dgCons, dgNil, dFE, dIsi, dListF, dNeg, dRev, dFrz, dApp, dAppS, dIns, dExtend, dClear, dReverse, dPop, oIx, oI, oIC, add_ii, add_ss, add_ll, add_tt, oSubI, oMulU, oMulI, oFd, oMd, oPw, oLt, oLe, oGt, oGe, oEq, oNe, getF, setF, Cl.d, getS, setS, purF_nil, purF_cons, purH, allF_nil, allF_cons, allH, rho0, endsOf, scalD, len_l, len_t, len_s, bAbs, bInt, bIntU, tup_l, tup_t, true_and, and_true, Option.some.injEq, exists_eq_left', decide_eq_true_eq, Bool.not_eq_true', decide_eq_false_iff_not, it_eQ0, it_eQ1, it_eP0, it_eP1, it_eS0, it_eS1, fits_eQ, fits_eP, fits_eS, eqv_eQ, eqv_eP, eqv_eS, eqv_int, eqv_bool, shp_int, shp_bool, shp_none, shp_eQ, shp_eP, shp_eS, dCont, dBreak, dXi, dSetG, dAppG, oIsB, oNotB, dTx, pJoin, pSplit, pPart, pStarts, bStr, bIntS, dFmt, dJs, ↓reduceIte, nsp_none, nsp_bool, nsp_int, nsp_str, nsp_list, nsp_tuple, nsp_eQ, nsp_eP, nsp_eS, dat_pu, dat_ow, seqD_l, seqD_t, not_true_eq_false, Bool.true_eq_false, Bool.not_not, List.length_cons, List.length_nil, mkP, mkS, fits_list, fits_tuple, isIntD, isBoolD, isListD, isStrD, isTupD, Bool.not_true, Bool.not_false, Bool.false_eq_true, it_l0, it_l1, it_l2, it_t0, it_t1, it_t2, shp_ps, shp_pt, shp_ss, shp_is, seqD_eQ, seqD_eP, seqD_eS, walkD_eP, walkD_eS, walkD_l, walkD_t]
    refine ⟨by omega, by omega, ?_⟩
    have e : "( " ++ tx a ++ " " ++ "and" ++ " " ++ tx b ++ " )" = tx (.and a b) := by
      show _ = "( " ++ tx a ++ " and " ++ tx b ++ " )"
      rw [← ea]
      simp only [as]
    rw [e]
    exact h
  | or a b =>
    have hda : dep a ≤ n := by simp only [dep] at hd; omega
    have hdb : dep b ≤ n := by simp only [dep] at hd; omega
    simp only [wds, List.length_cons, List.length_append, List.length_nil] at hl
    have := tx_len a ok.1
    have := tx_len b ok.2
    refine seq_eq0 rfl s10 s9 (fun c => absurd c (by decide)) fun c => ?_
    refine seq_eq0 rfl s10 s5 (fun c => absurd c (by decide)) fun c => ?_
    refine seq_eq0 rfl s10 s3 (fun c => absurd c (by decide)) fun c => ?_
    rw [and_or]
    simp only [eT, it_t0, fits_tuple, oIn, s10, s8, any_str, dRet, dRetF, dSetX, dCallX, dRetX, noOw, dTry, dCpy, dRaise, dRetO, dSetP, dSetS, dSetF, dSeq, dIf, dNext, dCall, dCallF, dB, dBin, dCons, dNil, dTup, dLst, dV, dC, dTV, onB, dTAnd, dTOr, dTNot, dAnd, dOr, dNot, dIfE, dIsN, dNotN, isN, dSl, dSlF, dNoPart, dPart, dPar, dParS, dAsg, dgN, dgT, dgCons, dgNil, dFE, dIsi, dListF, dNeg, dRev, dFrz, dApp, dAppS, dIns, dExtend, dClear, dReverse, dPop, oIx, oI, oIC, add_ii, add_ss, add_ll, add_tt, oSubI, oMulU, oMulI, oFd, oMd, oPw, oLt, oLe, oGt, oGe, oEq, oNe, getF, setF, Cl.d, getS, setS, purF_nil, purF_cons, purH, allF_nil, allF_cons, allH, rho0, endsOf, scalD, len_l, len_t, len_s, bAbs, bInt, bIntU, tup_l, tup_t, true_and, and_true, Option.some.injEq, exists_eq_left', decide_eq_true_eq, Bool.not_eq_true', decide_eq_false_iff_not, it_eQ0, it_eQ1, it_eP0, it_eP1, it_eS0, it_eS1, fits_eQ, fits_eP, fits_eS, eqv_eQ, eqv_eP, eqv_eS, eqv_int, eqv_bool, shp_int, shp_bool, shp_none, shp_eQ, shp_eP, shp_eS, dCont, dBreak, dXi, dSetG, dAppG, oIsB, oNotB, dTx, pJoin, pSplit, pPart, pStarts, bStr, bIntS, dFmt, dJs, ↓reduceIte, nsp_none, nsp_bool, nsp_int, nsp_str, nsp_list, nsp_tuple, nsp_eQ, nsp_eP, nsp_eS, dat_pu, dat_ow, seqD_l, seqD_t, not_true_eq_false, Bool.true_eq_false, Bool.not_not, List.length_cons, List.length_nil, mkP, mkS, fits_list, fits_tuple, isIntD, isBoolD, isListD, isStrD, isTupD, Bool.not_true, Bool.not_false, Bool.false_eq_true, it_l0, it_l1, it_l2, it_t0, it_t1, it_t2, shp_ps, shp_pt, shp_ss, shp_is, seqD_eQ, seqD_eP, seqD_eS, walkD_eP, walkD_eS, walkD_l, walkD_t]
    rw [if_pos (by decide)]
    refine ⟨a, rfl, ok.1, hda, by omega, ?_⟩
    simp only [it_t0, it_t2, fits_tuple, l_op, l1, l3, slen, dRet, dRetF, dSetX, dCallX, dRetX, noOw, dTry, dCpy, dRaise, dRetO, dSetP, dSetS, dSetF, dSeq, dIf, dNext, dCall, dCallF, dB, dBin, dCons, dNil, dTup, dLst, dV, dC, dTV, onB, dTAnd, dTOr, dTNot, dAnd, dOr, dNot, dIfE, dIsN, dNotN, isN, dSl, dSlF, dNoPart, dPart, dPar, dParS, dAsg, dgN, dgT, dgCons, dgNil, dFE, dIsi, dListF, dNeg, dRev, dFrz, dApp, dAppS, dIns, dExtend, dClear, dReverse, dPop, oIx, oI, oIC, add_ii, add_ss, add_ll, add_tt, oSubI, oMulU, oMulI, oFd, oMd, oPw, oLt, oLe, oGt, oGe, oEq, oNe, getF, setF, Cl.d, getS, setS, purF_nil, purF_cons, purH, allF_nil, allF_cons, allH, rho0, endsOf, scalD, len_l, len_t, len_s, bAbs, bInt, bIntU, tup_l, tup_t, true_and, and_true, Option.some.injEq, exists_eq_left', decide_eq_true_eq, Bool.not_eq_true', decide_eq_false_iff_not, it_eQ0, it_eQ1, it_eP0, it_eP1, it_eS0, it_eS1, fits_eQ, fits_eP, fits_eS, eqv_eQ, eqv_eP, eqv_eS, eqv_int, eqv_bool, shp_int, shp_bool, shp_none, shp_eQ, shp_eP, shp_eS, dCont, dBreak, dXi, dSetG, dAppG, oIsB, oNotB, dTx, pJoin, pSplit, pPart, pStarts, bStr, bIntS, dFmt, dJs, ↓reduceIte, nsp_none, nsp_bool, nsp_int, nsp_str, nsp_list, nsp_tuple, nsp_eQ, nsp_eP, nsp_eS, dat_pu, dat_ow, seqD_l, seqD_t, not_true_eq_false, Bool.true_eq_false, Bool.not_not, List.length_cons, List.length_nil, mkP, mkS, fits_list, fits_tuple, isIntD, isBoolD, isListD, isStrD, isTupD, Bool.not_true, Bool.not_false, Bool.false_eq_true, it_l0, it_l1, it_l2, it_t0, it_t1, it_t2, shp_ps, shp_pt, shp_ss, shp_is, seqD_eQ, seqD_eP, seqD_eS, walkD_eP, walkD_eS, walkD_l, walkD_t]
    refine ⟨by omega, by omega, by omega, by omega, ?_⟩
    refine ⟨b, rfl, ok.2, hdb, by omega, ?_⟩
    simp only [l_op, l1, l3, l_cl, slen, dRet, dRetF, dSetX, dCallX, dRetX, noOw, dTry, dCpy, dRaise, dRetO, dSetP, dSetS, dSetF, dSeq, dIf, dNext, dCall, dCallF, dB, dBin, dCons, dNil, dTup, dLst, dV, dC, dTV, onB, dTAnd, dTOr, dTNot, dAnd, dOr, dNot, dIfE, dIsN, dNotN, isN, dSl, dSlF, dNoPart, dPart, dPar, dParS, dAsg, dgN, dgT, dgCons, dgNil, dFE, dIsi, dListF, dNeg, dRev, dFrz, dApp, dAppS, dIns, dExtend, dClear, dReverse, dPop, oIx, oI, oIC, add_ii, add_ss, add_ll, add_tt, oSubI, oMulU, oMulI, oFd, oMd, oPw, oLt, oLe, oGt, oGe, oEq, oNe, getF, setF, Cl.d, getS, setS, purF_nil, purF_cons, purH, allF_nil, allF_cons, allH, rho0, endsOf, scalD, len_l, len_t, len_s, bAbs, bInt, bIntU, tup_l, tup_t, true_and, and_true, Option.some.injEq, exists_eq_left', decide_eq_true_eq, Bool.not_eq_true', decide_eq_false_iff_not, it_eQ0, it_eQ1, it_eP0, it_eP1, it_eS0, it_eS1, fits_eQ, fits_eP, fits_eS, eqv_eQ, eqv_eP, eqv_eS, eqv_int, eqv_bool, shp_int, shp_bool, shp_none, shp_eQ, shp_eP, shp_eS, dCont, dBreak, dXi, dSetG, dAppG, oIsB, oNotB, dTx, pJoin, pSplit, pPart, pStarts, bStr, bIntS, dFmt, dJs, ↓reduceIte, nsp_none, nsp_bool, nsp_int, nsp_str, nsp_list, nsp_tuple, nsp_eQ, nsp_eP, nsp_eS, dat_pu, dat_ow, seqD_l, seqD_t, not_true_eq_false, Bool.true_eq_false, Bool.not_not, List.length_cons, List.length_nil, mkP, mkS, fits_list, fits_tuple, isIntD, isBoolD, isListD, isStrD, isTupD, Bool.not_true, Bool.not_false, Bool.false_eq_true, it_l0, it_l1, it_l2, it_t0, it_t1, it_t2, shp_ps, shp_pt, shp_ss, shp_is, seqD_eQ, seqD_eP, seqD_eS, walkD_eP, walkD_eS, walkD_l, walkD_t]
    refine ⟨by omega, by omega, ?_⟩
    have e : "( " ++ tx a ++ " " ++ "or" ++ " " ++ tx b ++ " )" = tx (.or a b) := by
      show _ = "( " ++ tx a ++ " or " ++ tx b ++ " )"
      rw [← eo]
      simp only [as]
    rw [e]
    exact h
theorem rd__law_true (n : Nat) (ds : List Dt) (Φ : Slot → Prop) (Ξ : XD → Prop) (h : spr__law_true (n + 1) ds Φ Ξ) : d__law_true n (endsOf Φ Ξ) (rho0 N__law_true ds) := by
  obtain ⟨t, ls, rfl, ok, hd, hls, h⟩ := h
  have hz : (100000 : Nat) < sizeLine := by decide
  obtain ⟨s1, s2, s3, s4, s5, s6, s7, s8⟩ := k_shp
  obtain ⟨s9, s10⟩ := k_shp2
  have hl1 := hls.1
  show dSeq _ _ _ [.pu (eT t), .pu (.list (ls.map eLS)), .un]
  cases t with
  | name z =>
    have sz : SeqAt.shaped (.str z) = true := shp_str (PL.nm_ok ok)
    have sl : SeqAt.shaped (.list ((ls.map (·.1)).map .str)) = true := shp_strl fun y hy => by
      obtain ⟨x, hx, rfl⟩ := List.mem_map.mp hy
      exact (hls.2 x hx).1
    refine seq_eq0 rfl s9 s9 (fun c => ?_) fun c => absurd rfl c
    simp only [eT, it_t1, fits_tuple, dRet, dRetF, dSetX, dCallX, dRetX, noOw, dTry, dCpy, dRaise, dRetO, dSetP, dSetS, dSetF, dSeq, dIf, dNext, dCall, dCallF, dB, dBin, dCons, dNil, dTup, dLst, dV, dC, dTV, onB, dTAnd, dTOr, dTNot, dAnd, dOr, dNot, dIfE, dIsN, dNotN, isN, dSl, dSlF, dNoPart, dPart, dPar, dParS, dAsg, dgN, dgT, dgCons, dgNil, dFE, dIsi, dListF, dNeg, dRev, dFrz, dApp, dAppS, dIns, dExtend, dClear, dReverse, dPop, oIx, oI, oIC, add_ii, add_ss, add_ll, add_tt, oSubI, oMulU, oMulI, oFd, oMd, oPw, oLt, oLe, oGt, oGe, oEq, oNe, getF, setF, Cl.d, getS, setS, purF_nil, purF_cons, purH, allF_nil, allF_cons, allH, rho0, endsOf, scalD, len_l, len_t, len_s, bAbs, bInt, bIntU, tup_l, tup_t, true_and, and_true, Option.some.injEq, exists_eq_left', decide_eq_true_eq, Bool.not_eq_true', decide_eq_false_iff_not, it_eQ0, it_eQ1, it_eP0, it_eP1, it_eS0, it_eS1, fits_eQ, fits_eP, fits_eS, eqv_eQ, eqv_eP, eqv_eS, eqv_int, eqv_bool, shp_int, shp_bool, shp_none, shp_eQ, shp_eP, shp_eS, dCont, dBreak, dXi, dSetG, dAppG, oIsB, oNotB, dTx, pJoin, pSplit, pPart, pStarts, bStr, bIntS, dFmt, dJs, ↓reduceIte, nsp_none, nsp_bool, nsp_int, nsp_str, nsp_list, nsp_tuple, nsp_eQ, nsp_eP, nsp_eS, dat_pu, dat_ow, seqD_l, seqD_t, not_true_eq_false, Bool.true_eq_false, Bool.not_not, List.length_cons, List.length_nil, mkP, mkS, fits_list, fits_tuple, isIntD, isBoolD, isListD, isStrD, isTupD, Bool.not_true, Bool.not_false, Bool.false_eq_true, it_l0, it_l1, it_l2, it_t0, it_t1, it_t2, shp_ps, shp_pt, shp_ss, shp_is, seqD_eQ, seqD_eP, seqD_eS, walkD_eP, walkD_eS, walkD_l, walkD_t]
    refine dLc_mapM (xs := ls) (e := eLS) (fun Q hQ => ?_) (fun x => .str x.1) (by omega) (fun x hx Ψ hΨ => ?_) ?_
    · simp only [diSeq, dRet, dRetF, dSetX, dCallX, dRetX, noOw, dTry, dCpy, dRaise, dRetO, dSetP, dSetS, dSetF, dSeq, dIf, dNext, dCall, dCallF, dB, dBin, dCons, dNil, dTup, dLst, dV, dC, dTV, onB, dTAnd, dTOr, dTNot, dAnd, dOr, dNot, dIfE, dIsN, dNotN, isN, dSl, dSlF, dNoPart, dPart, dPar, dParS, dAsg, dgN, dgT, dgCons, dgNil, dFE, dIsi, dListF, dNeg, dRev, dFrz, dApp, dAppS, dIns, dExtend, dClear, dReverse, dPop, oIx, oI, oIC, add_ii, add_ss, add_ll, add_tt, oSubI, oMulU, oMulI, oFd, oMd, oPw, oLt, oLe, oGt, oGe, oEq, oNe, getF, setF, Cl.d, getS, setS, purF_nil, purF_cons, purH, allF_nil, allF_cons, allH, rho0, endsOf, scalD, len_l, len_t, len_s, bAbs, bInt, bIntU, tup_l, tup_t, true_and, and_true, Option.some.injEq, exists_eq_left', decide_eq_true_eq, Bool.not_eq_true', decide_eq_false_iff_not, it_eQ0, it_eQ1, it_eP0, it_eP1, it_eS0, it_eS1, fits_eQ, fits_eP, fits_eS, eqv_eQ, eqv_eP, eqv_eS, eqv_int, eqv_bool, shp_int, shp_bool, shp_none, shp_eQ, shp_eP, shp_eS, dCont, dBreak, dXi, dSetG, dAppG, oIsB, oNotB, dTx, pJoin, pSplit, pPart, pStarts, bStr, bIntS, dFmt, dJs, ↓reduceIte, nsp_none, nsp_bool, nsp_int, nsp_str, nsp_list, nsp_tuple, nsp_eQ, nsp_eP, nsp_eS, dat_pu, dat_ow, seqD_l, seqD_t, not_true_eq_false, Bool.true_eq_false, Bool.not_not, List.length_cons, List.length_nil, mkP, mkS, fits_list, fits_tuple, isIntD, isBoolD, isListD, isStrD, isTupD, Bool.not_true, Bool.not_false, Bool.false_eq_true, it_l0, it_l1, it_l2, it_t0, it_t1, it_t2, shp_ps, shp_pt, shp_ss, shp_is, seqD_eQ, seqD_eP, seqD_eS, walkD_eP, walkD_eS, walkD_l, walkD_t]
      exact hQ
    · simp only [dcN, wipeF, noneF, eLS, it_t0, fits_tuple, dRet, dRetF, dSetX, dCallX, dRetX, noOw, dTry, dCpy, dRaise, dRetO, dSetP, dSetS, dSetF, dSeq, dIf, dNext, dCall, dCallF, dB, dBin, dCons, dNil, dTup, dLst, dV, dC, dTV, onB, dTAnd, dTOr, dTNot, dAnd, dOr, dNot, dIfE, dIsN, dNotN, isN, dSl, dSlF, dNoPart, dPart, dPar, dParS, dAsg, dgN, dgT, dgCons, dgNil, dFE, dIsi, dListF, dNeg, dRev, dFrz, dApp, dAppS, dIns, dExtend, dClear, dReverse, dPop, oIx, oI, oIC, add_ii, add_ss, add_ll, add_tt, oSubI, oMulU, oMulI, oFd, oMd, oPw, oLt, oLe, oGt, oGe, oEq, oNe, getF, setF, Cl.d, getS, setS, purF_nil, purF_cons, purH, allF_nil, allF_cons, allH, rho0, endsOf, scalD, len_l, len_t, len_s, bAbs, bInt, bIntU, tup_l, tup_t, true_and, and_true, Option.some.injEq, exists_eq_left', decide_eq_true_eq, Bool.not_eq_true', decide_eq_false_iff_not, it_eQ0, it_eQ1, it_eP0, it_eP1, it_eS0, it_eS1, fits_eQ, fits_eP, fits_eS, eqv_eQ, eqv_eP, eqv_eS, eqv_int, eqv_bool, shp_int, shp_bool, shp_none, shp_eQ, shp_eP, shp_eS, dCont, dBreak, dXi, dSetG, dAppG, oIsB, oNotB, dTx, pJoin, pSplit, pPart, pStarts, bStr, bIntS, dFmt, dJs, ↓reduceIte, nsp_none, nsp_bool, nsp_int, nsp_str, nsp_list, nsp_tuple, nsp_eQ, nsp_eP, nsp_eS, dat_pu, dat_ow, seqD_l, seqD_t, not_true_eq_false, Bool.true_eq_false, Bool.not_not, List.length_cons, List.length_nil, mkP, mkS, fits_list, fits_tuple, isIntD, isBoolD, isListD, isStrD, isTupD, Bool.not_true, Bool.not_false, Bool.false_eq_true, it_l0, it_l1, it_l2, it_t0, it_t1, it_t2, shp_ps, shp_pt, shp_ss, shp_is, seqD_eQ, seqD_eP, seqD_eS, walkD_eP, walkD_eS, walkD_l, walkD_t]
      exact hΨ
    · have e : ls.map (fun x => PyData.str x.1) = (ls.map (·.1)).map .str := by rw [List.map_map]; rfl
      rw [e]
      simp only [oIn, sz, sl, in_ls, dRet, dRetF, dSetX, dCallX, dRetX, noOw, dTry, dCpy, dRaise, dRetO, dSetP, dSetS, dSetF, dSeq, dIf, dNext, dCall, dCallF, dB, dBin, dCons, dNil, dTup, dLst, dV, dC, dTV, onB, dTAnd, dTOr, dTNot, dAnd, dOr, dNot, dIfE, dIsN, dNotN, isN, dSl, dSlF, dNoPart, dPart, dPar, dParS, dAsg, dgN, dgT, dgCons, dgNil, dFE, dIsi, dListF, dNeg, dRev, dFrz, dApp, dAppS, dIns, dExtend, dClear, dReverse, dPop, oIx, oI, oIC, add_ii, add_ss, add_ll, add_tt, oSubI, oMulU, oMulI, oFd, oMd, oPw, oLt, oLe, oGt, oGe, oEq, oNe, getF, setF, Cl.d, getS, setS, purF_nil, purF_cons, purH, allF_nil, allF_cons, allH, rho0, endsOf, scalD, len_l, len_t, len_s, bAbs, bInt, bIntU, tup_l, tup_t, true_and, and_true, Option.some.injEq, exists_eq_left', decide_eq_true_eq, Bool.not_eq_true', decide_eq_false_iff_not, it_eQ0, it_eQ1, it_eP0, it_eP1, it_eS0, it_eS1, fits_eQ, fits_eP, fits_eS, eqv_eQ, eqv_eP, eqv_eS, eqv_int, eqv_bool, shp_int, shp_bool, shp_none, shp_eQ, shp_eP, shp_eS, dCont, dBreak, dXi, dSetG, dAppG, oIsB, oNotB, dTx, pJoin, pSplit, pPart, pStarts, bStr, bIntS, dFmt, dJs, ↓reduceIte, nsp_none, nsp_bool, nsp_int, nsp_str, nsp_list, nsp_tuple, nsp_eQ, nsp_eP, nsp_eS, dat_pu, dat_ow, seqD_l, seqD_t, not_true_eq_false, Bool.true_eq_false, Bool.not_not, List.length_cons, List.length_nil, mkP, mkS, fits_list, fits_tuple, isIntD, isBoolD, isListD, isStrD, isTupD, Bool.not_true, Bool.not_false, Bool.false_eq_true, it_l0, it_l1, it_l2, it_t0, it_t1, it_t2, shp_ps, shp_pt, shp_ss, shp_is, seqD_eQ, seqD_eP, seqD_eS, walkD_eP, walkD_eS, walkD_l, walkD_t]
      exact h
  | sheet z =>
    have sz : SeqAt.shaped (.str z) = true := shp_str (PL.nm_ok ok)
    have sl : SeqAt.shaped (.list ((ls.map (·.2)).map .str)) = true := shp_strl fun y hy => by
      obtain ⟨x, hx, rfl⟩ := List.mem_map.mp hy
      exact (hls.2 x hx).2
    refine seq_eq0 rfl s5 s9 (fun c => absurd c (by decide)) fun c => ?_
    refine seq_eq0 rfl s5 s5 (fun c => ?_) fun c => absurd rfl c
    simp only [eT, it_t1, fits_tuple, dRet, dRetF, dSetX, dCallX, dRetX, noOw, dTry, dCpy, dRaise, dRetO, dSetP, dSetS, dSetF, dSeq, dIf, dNext, dCall, dCallF, dB, dBin, dCons, dNil, dTup, dLst, dV, dC, dTV, onB, dTAnd, dTOr, dTNot, dAnd, dOr, dNot, dIfE, dIsN, dNotN, isN, dSl, dSlF, dNoPart, dPart, dPar, dParS, dAsg, dgN, dgT, dgCons, dgNil, dFE, dIsi, dListF, dNeg, dRev, dFrz, dApp, dAppS, dIns, dExtend, dClear, dReverse, dPop, oIx, oI, oIC, add_ii, add_ss, add_ll, add_tt, oSubI, oMulU, oMulI, oFd, oMd, oPw, oLt, oLe, oGt, oGe, oEq, oNe, getF, setF, Cl.d, getS, setS, purF_nil, purF_cons, purH, allF_nil, allF_cons, allH, rho0, endsOf, scalD, len_l, len_t, len_s, bAbs, bInt, bIntU, tup_l, tup_t, true_and, and_true, Option.some.injEq, exists_eq_left', decide_eq_true_eq, Bool.not_eq_true', decide_eq_false_iff_not, it_eQ0, it_eQ1, it_eP0, it_eP1, it_eS0, it_eS1, fits_eQ, fits_eP, fits_eS, eqv_eQ, eqv_eP, eqv_eS, eqv_int, eqv_bool, shp_int, shp_bool, shp_none, shp_eQ, shp_eP, shp_eS, dCont, dBreak, dXi, dSetG, dAppG, oIsB, oNotB, dTx, pJoin, pSplit, pPart, pStarts, bStr, bIntS, dFmt, dJs, ↓reduceIte, nsp_none, nsp_bool, nsp_int, nsp_str, nsp_list, nsp_tuple, nsp_eQ, nsp_eP, nsp_eS, dat_pu, dat_ow, seqD_l, seqD_t, not_true_eq_false, Bool.true_eq_false, Bool.not_not, List.length_cons, List.length_nil, mkP, mkS, fits_list, fits_tuple, isIntD, isBoolD, isListD, isStrD, isTupD, Bool.not_true, Bool.not_false, Bool.false_eq_true, it_l0, it_l1, it_l2, it_t0, it_t1, it_t2, shp_ps, shp_pt, shp_ss, shp_is, seqD_eQ, seqD_eP, seqD_eS, walkD_eP, walkD_eS, walkD_l, walkD_t]
    refine dLc_mapM (xs := ls) (e := eLS) (fun Q hQ => ?_) (fun x => .str x.2) (by omega) (fun x hx Ψ hΨ => ?_) ?_
    · simp only [diSeq, dRet, dRetF, dSetX, dCallX, dRetX, noOw, dTry, dCpy, dRaise, dRetO, dSetP, dSetS, dSetF, dSeq, dIf, dNext, dCall, dCallF, dB, dBin, dCons, dNil, dTup, dLst, dV, dC, dTV, onB, dTAnd, dTOr, dTNot, dAnd, dOr, dNot, dIfE, dIsN, dNotN, isN, dSl, dSlF, dNoPart, dPart, dPar, dParS, dAsg, dgN, dgT, dgCons, dgNil, dFE, dIsi, dListF, dNeg, dRev, dFrz, dApp, dAppS, dIns, dExtend, dClear, dReverse, dPop, oIx, oI, oIC, add_ii, add_ss, add_ll, add_tt, oSubI, oMulU, oMulI, oFd, oMd, oPw, oLt, oLe, oGt, oGe, oEq, oNe, getF, setF, Cl.d, getS, setS, purF_nil, purF_cons, purH, allF_nil, allF_cons, allH, rho0, endsOf, scalD, len_l, len_t, len_s, bAbs, bInt, bIntU, tup_l, tup_t, true_and, and_true, Option.some.injEq, exists_eq_left', decide_eq_true_eq, Bool.not_eq_true', decide_eq_false_iff_not, it_eQ0, it_eQ1, it_eP0, it_eP1, it_eS0, it_eS1, fits_eQ, fits_eP, fits_eS, eqv_eQ, eqv_eP, eqv_eS, eqv_int, eqv_bool, shp_int, shp_bool, shp_none, shp_eQ, shp_eP, shp_eS, dCont, dBreak, dXi, dSetG, dAppG, oIsB, oNotB, dTx, pJoin, pSplit, pPart, pStarts, bStr, bIntS, dFmt, dJs, ↓reduceIte, nsp_none, nsp_bool, nsp_int, nsp_str, nsp_list, nsp_tuple, nsp_eQ, nsp_eP, nsp_eS, dat_pu, dat_ow, seqD_l, seqD_t, not_true_eq_false, Bool.true_eq_false, Bool.not_not, List.length_cons, List.length_nil, mkP, mkS, fits_list, fits_tuple, isIntD, isBoolD, isListD, isStrD, isTupD, Bool.not_true, Bool.not_false, Bool.false_eq_true, it_l0, it_l1, it_l2, it_t0, it_t1, it_t2, shp_ps, shp_pt, shp_ss, shp_is, seqD_eQ, seqD_eP, seqD_eS, walkD_eP, walkD_eS, walkD_l, walkD_t]
      exact hQ
    · simp only [dcN, wipeF, noneF, eLS, it_t1, fits_tuple, dRet, dRetF, dSetX, dCallX, dRetX, noOw, dTry, dCpy, dRaise, dRetO, dSetP, dSetS, dSetF, dSeq, dIf, dNext, dCall, dCallF, dB, dBin, dCons, dNil, dTup, dLst, dV, dC, dTV, onB, dTAnd, dTOr, dTNot, dAnd, dOr, dNot, dIfE, dIsN, dNotN, isN, dSl, dSlF, dNoPart, dPart, dPar, dParS, dAsg, dgN, dgT, dgCons, dgNil, dFE, dIsi, dListF, dNeg, dRev, dFrz, dApp, dAppS, dIns, dExtend, dClear, dReverse, dPop, oIx, oI, oIC, add_ii, add_ss, add_ll, add_tt, oSubI, oMulU, oMulI, oFd, oMd, oPw, oLt, oLe, oGt, oGe, oEq, oNe, getF, setF, Cl.d, getS, setS, purF_nil, purF_cons, purH, allF_nil, allF_cons, allH, rho0, endsOf, scalD, len_l, len_t, len_s, bAbs, bInt, bIntU, tup_l, tup_t, true_and, and_true, Option.some.injEq, exists_eq_left', decide_eq_true_eq, Bool.not_eq_true', decide_eq_false_iff_not, it_eQ0, it_eQ1, it_eP0, it_eP1, it_eS0, it_eS1, fits_eQ, fits_eP, fits_eS, eqv_eQ, eqv_eP, eqv_eS, eqv_int, eqv_bool, shp_int, shp_bool, shp_none, shp_eQ, shp_eP, shp_eS, dCont, dBreak, dXi, dSetG, dAppG, oIsB, oNotB, dTx, pJoin, pSplit, pPart, pStarts, bStr, bIntS, dFmt, dJs, ↓reduceIte, nsp_none, nsp_bool, nsp_int, nsp_str, nsp_list, nsp_tuple, nsp_eQ, nsp_eP, nsp_eS, dat_pu, dat_ow, seqD_l, seqD_t, not_true_eq_false, Bool.true_eq_false, Bool.not_not, List.length_cons, List.length_nil, mkP, mkS, fits_list, fits_tuple, isIntD, isBoolD, isListD, isStrD, isTupD, Bool.not_true, Bool.not_false, Bool.false_eq_true, it_l0, it_l1, it_l2, it_t0, it_t1, it_t2, shp_ps, shp_pt, shp_ss, shp_is, seqD_eQ, seqD_eP, seqD_eS, walkD_eP, walkD_eS, walkD_l, walkD_t]
      exact hΨ
    · have e : ls.map (fun x => PyData.str x.2) = (ls.map (·.2)).map .str := by rw [List.map_map]; rfl
      rw [e]
      simp only [oIn, sz, sl, in_ls, dRet, dRetF, dSetX, dCallX, dRetX, noOw, dTry, dCpy, dRaise, dRetO, dSetP, dSetS, dSetF, dSeq, dIf, dNext, dCall, dCallF, dB, dBin, dCons, dNil, dTup, dLst, dV, dC, dTV, onB, dTAnd, dTOr, dTNot, dAnd, dOr, dNot, dIfE, dIsN, dNotN, isN, dSl, dSlF, dNoPart, dPart, dPar, dParS, dAsg, dgN, dgT, dgCons, dgNil, dFE, dIsi, dListF, dNeg, dRev, dFrz, dApp, dAppS, dIns, dExtend, dClear, dReverse, dPop, oIx, oI, oIC, add_ii, add_ss, add_ll, add_tt, oSubI, oMulU, oMulI, oFd, oMd, oPw, oLt, oLe, oGt, oGe, oEq, oNe, getF, setF, Cl.d, getS, setS, purF_nil, purF_cons, purH, allF_nil, allF_cons, allH, rho0, endsOf, scalD, len_l, len_t, len_s, bAbs, bInt, bIntU, tup_l, tup_t, true_and, and_true, Option.some.injEq, exists_eq_left', decide_eq_true_eq, Bool.not_eq_true', decide_eq_false_iff_not, it_eQ0, it_eQ1, it_eP0, it_eP1, it_eS0, it_eS1, fits_eQ, fits_eP, fits_eS, eqv_eQ, eqv_eP, eqv_eS, eqv_int, eqv_bool, shp_int, shp_bool, shp_none, shp_eQ, shp_eP, shp_eS, dCont, dBreak, dXi, dSetG, dAppG, oIsB, oNotB, dTx, pJoin, pSplit, pPart, pStarts, bStr, bIntS, dFmt, dJs, ↓reduceIte, nsp_none, nsp_bool, nsp_int, nsp_str, nsp_list, nsp_tuple, nsp_eQ, nsp_eP, nsp_eS, dat_pu, dat_ow, seqD_l, seqD_t, not_true_eq_false, Bool.true_eq_false, Bool.not_not, List.length_cons, List.length_nil, mkP, mkS, fits_list, fits_tuple, isIntD, isBoolD, isListD, isStrD, isTupD, Bool.not_true, Bool.not_false, Bool.false_eq_true, it_l0, it_l1, it_l2, it_t0, it_t1, it_t2, shp_ps, shp_pt, shp_ss, shp_is, seqD_eQ, seqD_eP, seqD_eS, walkD_eP, walkD_eS, walkD_l, walkD_t]
      exact h
  | all =>
    refine seq_eq0 rfl s1 s9 (fun c => absurd c (by decide)) fun c => ?_
    refine seq_eq0 rfl s1 s5 (fun c => absurd c (by decide)) fun c => ?_
    refine seq_eq0 rfl s1 s3 (fun c => absurd c (by decide)) fun c => ?_
    refine seq_eq0 rfl s1 s7 (fun c => absurd c (by decide)) fun c => ?_
    refine seq_eq0 rfl s1 s10 (fun c => absurd c (by decide)) fun c => ?_
    simp only [eT, it_t0, fits_tuple, s1, eqv_str, dRet, dRetF, dSetX, dCallX, dRetX, noOw, dTry, dCpy, dRaise, dRetO, dSetP, dSetS, dSetF, dSeq, dIf, dNext, dCall, dCallF, dB, dBin, dCons, dNil, dTup, dLst, dV, dC, dTV, onB, dTAnd, dTOr, dTNot, dAnd, dOr, dNot, dIfE, dIsN, dNotN, isN, dSl, dSlF, dNoPart, dPart, dPar, dParS, dAsg, dgN, dgT, dgCons, dgNil, dFE, dIsi, dListF, dNeg, dRev, dFrz, dApp, dAppS, dIns, dExtend, dClear, dReverse, dPop, oIx, oI, oIC, add_ii, add_ss, add_ll, add_tt, oSubI, oMulU, oMulI, oFd, oMd, oPw, oLt, oLe, oGt, oGe, oEq, oNe, getF, setF, Cl.d, getS, setS, purF_nil, purF_cons, purH, allF_nil, allF_cons, allH, rho0, endsOf, scalD, len_l, len_t, len_s, bAbs, bInt, bIntU, tup_l, tup_t, true_and, and_true, Option.some.injEq, exists_eq_left', decide_eq_true_eq, Bool.not_eq_true', decide_eq_false_iff_not, it_eQ0, it_eQ1, it_eP0, it_eP1, it_eS0, it_eS1, fits_eQ, fits_eP, fits_eS, eqv_eQ, eqv_eP, eqv_eS, eqv_int, eqv_bool, shp_int, shp_bool, shp_none, shp_eQ, shp_eP, shp_eS, dCont, dBreak, dXi, dSetG, dAppG, oIsB, oNotB, dTx, pJoin, pSplit, pPart, pStarts, bStr, bIntS, dFmt, dJs, ↓reduceIte, nsp_none, nsp_bool, nsp_int, nsp_str, nsp_list, nsp_tuple, nsp_eQ, nsp_eP, nsp_eS, dat_pu, dat_ow, seqD_l, seqD_t, not_true_eq_false, Bool.true_eq_false, Bool.not_not, List.length_cons, List.length_nil, mkP, mkS, fits_list, fits_tuple, isIntD, isBoolD, isListD, isStrD, isTupD, Bool.not_true, Bool.not_false, Bool.false_eq_true, it_l0, it_l1, it_l2, it_t0, it_t1, it_t2, shp_ps, shp_pt, shp_ss, shp_is, seqD_eQ, seqD_eP, seqD_eS, walkD_eP, walkD_eS, walkD_l, walkD_t]
    exact h
  | none =>
    refine seq_eq0 rfl s2 s9 (fun c => absurd c (by decide)) fun c => ?_
    refine seq_eq0 rfl s2 s5 (fun c => absurd c (by decide)) fun c => ?_
    refine seq_eq0 rfl s2 s3 (fun c => absurd c (by decide)) fun c => ?_
    refine seq_eq0 rfl s2 s7 (fun c => absurd c (by decide)) fun c => ?_
    refine seq_eq0 rfl s2 s10 (fun c => absurd c (by decide)) fun c => ?_
    simp only [eT, it_t0, fits_tuple, s1, s2, eqv_str, dRet, dRetF, dSetX, dCallX, dRetX, noOw, dTry, dCpy, dRaise, dRetO, dSetP, dSetS, dSetF, dSeq, dIf, dNext, dCall, dCallF, dB, dBin, dCons, dNil, dTup, dLst, dV, dC, dTV, onB, dTAnd, dTOr, dTNot, dAnd, dOr, dNot, dIfE, dIsN, dNotN, isN, dSl, dSlF, dNoPart, dPart, dPar, dParS, dAsg, dgN, dgT, dgCons, dgNil, dFE, dIsi, dListF, dNeg, dRev, dFrz, dApp, dAppS, dIns, dExtend, dClear, dReverse, dPop, oIx, oI, oIC, add_ii, add_ss, add_ll, add_tt, oSubI, oMulU, oMulI, oFd, oMd, oPw, oLt, oLe, oGt, oGe, oEq, oNe, getF, setF, Cl.d, getS, setS, purF_nil, purF_cons, purH, allF_nil, allF_cons, allH, rho0, endsOf, scalD, len_l, len_t, len_s, bAbs, bInt, bIntU, tup_l, tup_t, true_and, and_true, Option.some.injEq, exists_eq_left', decide_eq_true_eq, Bool.not_eq_true', decide_eq_false_iff_not, it_eQ0, it_eQ1, it_eP0, it_eP1, it_eS0, it_eS1, fits_eQ, fits_eP, fits_eS, eqv_eQ, eqv_eP, eqv_eS, eqv_int, eqv_bool, shp_int, shp_bool, shp_none, shp_eQ, shp_eP, shp_eS, dCont, dBreak, dXi, dSetG, dAppG, oIsB, oNotB, dTx, pJoin, pSplit, pPart, pStarts, bStr, bIntS, dFmt, dJs, ↓reduceIte, nsp_none, nsp_bool, nsp_int, nsp_str, nsp_list, nsp_tuple, nsp_eQ, nsp_eP, nsp_eS, dat_pu, dat_ow, seqD_l, seqD_t, not_true_eq_false, Bool.true_eq_false, Bool.not_not, List.length_cons, List.length_nil, mkP, mkS, fits_list, fits_tuple, isIntD, isBoolD, isListD, isStrD, isTupD, Bool.not_true, Bool.not_false, Bool.false_eq_true, it_l0, it_l1, it_l2, it_t0, it_t1, it_t2, shp_ps, shp_pt, shp_ss, shp_is, seqD_eQ, seqD_eP, seqD_eS, walkD_eP, walkD_eS, walkD_l, walkD_t]
    have e : decide (("none" : Str) = "all") = false := by decide
    rw [e]
    exact h
  | not u =>
    have hd : dep u ≤ n := by simp only [dep] at hd; omega
    refine seq_eq0 rfl s3 s9 (fun c => absurd c (by decide)) fun c => ?_
    refine seq_eq0 rfl s3 s5 (fun c => absurd c (by decide)) fun c => ?_
    refine seq_eq0 rfl s3 s3 (fun c => ?_) fun c => absurd rfl c
    simp only [eT, it_t1, fits_tuple, dRet, dRetF, dSetX, dCallX, dRetX, noOw, dTry, dCpy, dRaise, dRetO, dSetP, dSetS, dSetF, dSeq, dIf, dNext, dCall, dCallF, dB, dBin, dCons, dNil, dTup, dLst, dV, dC, dTV, onB, dTAnd, dTOr, dTNot, dAnd, dOr, dNot, dIfE, dIsN, dNotN, isN, dSl, dSlF, dNoPart, dPart, dPar, dParS, dAsg, dgN, dgT, dgCons, dgNil, dFE, dIsi, dListF, dNeg, dRev, dFrz, dApp, dAppS, dIns, dExtend, dClear, dReverse, dPop, oIx, oI, oIC, add_ii, add_ss, add_ll, add_tt, oSubI, oMulU, oMulI, oFd, oMd, oPw, oLt, oLe, oGt, oGe, oEq, oNe, getF, setF, Cl.d, getS, setS, purF_nil, purF_cons, purH, allF_nil, allF_cons, allH, rho0, endsOf, scalD, len_l, len_t, len_s, bAbs, bInt, bIntU, tup_l, tup_t, true_and, and_true, Option.some.injEq, exists_eq_left', decide_eq_true_eq, Bool.not_eq_true', decide_eq_false_iff_not, it_eQ0, it_eQ1, it_eP0, it_eP1, it_eS0, it_eS1, fits_eQ, fits_eP, fits_eS, eqv_eQ, eqv_eP, eqv_eS, eqv_int, eqv_bool, shp_int, shp_bool, shp_none, shp_eQ, shp_eP, shp_eS, dCont, dBreak, dXi, dSetG, dAppG, oIsB, oNotB, dTx, pJoin, pSplit, pPart, pStarts, bStr, bIntS, dFmt, dJs, ↓reduceIte, nsp_none, nsp_bool, nsp_int, nsp_str, nsp_list, nsp_tuple, nsp_eQ, nsp_eP, nsp_eS, dat_pu, dat_ow, seqD_l, seqD_t, not_true_eq_false, Bool.true_eq_false, Bool.not_not, List.length_cons, List.length_nil, mkP, mkS, fits_list, fits_tuple, isIntD, isBoolD, isListD, isStrD, isTupD, Bool.not_true, Bool.not_false, Bool.false_eq_true, it_l0, it_l1, it_l2, it_t0, it_t1, it_t2, shp_ps, shp_pt, shp_ss, shp_is, seqD_eQ, seqD_eP, seqD_eS, walkD_eP, walkD_eS, walkD_l, walkD_t]
    refine ⟨u, ls, rfl, ok, hd, hls, ?_⟩
    simp only [dRet, dRetF, dSetX, dCallX, dRetX, noOw, dTry, dCpy, dRaise, dRetO, dSetP, dSetS, dSetF, dSeq, dIf, dNext, dCall, dCallF, dB, dBin, dCons, dNil, dTup, dLst, dV, dC, dTV, onB, dTAnd, dTOr, dTNot, dAnd, dOr, dNot, dIfE, dIsN, dNotN, isN, dSl, dSlF, dNoPart, dPart, dPar, dParS, dAsg, dgN, dgT, dgCons, dgNil, dFE, dIsi, dListF, dNeg, dRev, dFrz, dApp, dAppS, dIns, dExtend, dClear, dReverse, dPop, oIx, oI, oIC, add_ii, add_ss, add_ll, add_tt, oSubI, oMulU, oMulI, oFd, oMd, oPw, oLt, oLe, oGt, oGe, oEq, oNe, getF, setF, Cl.d, getS, setS, purF_nil, purF_cons, purH, allF_nil, allF_cons, allH, rho0, endsOf, scalD, len_l, len_t, len_s, bAbs, bInt, bIntU, tup_l, tup_t, true_and, and_true, Option.some.injEq, exists_eq_left', decide_eq_true_eq, Bool.not_eq_true', decide_eq_false_iff_not, it_eQ0, it_eQ1, it_eP0, it_eP1, it_eS0, it_eS1, fits_eQ, fits_eP, fits_eS, eqv_eQ, eqv_eP, eqv_eS, eqv_int, eqv_bool, shp_int, shp_bool, shp_none, shp_eQ, shp_eP, shp_eS, dCont, dBreak, dXi, dSetG, dAppG, oIsB, oNotB, dTx, pJoin, pSplit, pPart, pStarts, bStr, bIntS, dFmt, dJs, ↓reduceIte, nsp_none, nsp_bool, nsp_int, nsp_str, nsp_list, nsp_tuple, nsp_eQ, nsp_eP, nsp_eS, dat_pu, dat_ow, seqD_l, seqD_t, not_true_eq_false, Bool.true_eq_false, Bool.not_not, List.length_cons, List.length_nil, mkP, mkS, fits_list, fits_tuple, isIntD, isBoolD, isListD, isStrD, isTupD, Bool.not_true, Bool.not_false, Bool.false_eq_true, it_l0, it_l1, it_l2, it_t0, it_t1, it_t2, shp_ps, shp_pt, shp_ss, shp_is, seqD_eQ, seqD_eP, seqD_eS, walkD_eP, walkD_eS, walkD_l, walkD_t]
    exact h
  | and a b =>
    have hda : dep a ≤ n := by simp only [dep] at hd; omega
    have hdb : dep b ≤ n := by simp only [dep] at hd; omega
    refine seq_eq0 rfl s7 s9 (fun c => absurd c (by decide)) fun c => ?_
    refine seq_eq0 rfl s7 s5 (fun c => absurd c (by decide)) fun c => ?_
    refine seq_eq0 rfl s7 s3 (fun c => absurd c (by decide)) fun c => ?_
    refine seq_eq0 rfl s7 s7 (fun c => ?_) fun c => absurd rfl c
    simp only [eT, it_t1, it_t2, fits_tuple, dRet, dRetF, dSetX, dCallX, dRetX, noOw, dTry, dCpy, dRaise, dRetO, dSetP, dSetS, dSetF, dSeq, dIf, dNext, dCall, dCallF, dB, dBin, dCons, dNil, dTup, dLst, dV, dC, dTV, onB, dTAnd, dTOr, dTNot, dAnd, dOr, dNot, dIfE, dIsN, dNotN, isN, dSl, dSlF, dNoPart, dPart, dPar, dParS, dAsg, dgN, dgT, dgCons, dgNil, dFE, dIsi, dListF, dNeg, dRev, dFrz, dApp, dAppS, dIns, dExtend, dClear, dReverse, dPop, oIx, oI, oIC, add_ii, add_ss, add_ll, add_tt, oSubI, oMulU, oMulI, oFd, oMd, oPw, oLt, oLe, oGt, oGe, oEq, oNe, getF, setF, Cl.d, getS, setS, purF_nil, purF_cons, purH, allF_nil, allF_cons, allH, rho0, endsOf, scalD, len_l, len_t, len_s, bAbs, bInt, bIntU, tup_l, tup_t, true_and, and_true, Option.some.injEq, exists_eq_left', decide_eq_true_eq, Bool.not_eq_true', decide_eq_false_iff_not, it_eQ0, it_eQ1, it_eP0, it_eP1, it_eS0, it_eS1, fits_eQ, fits_eP, fits_eS, eqv_eQ, eqv_eP, eqv_eS, eqv_int, eqv_bool, shp_int, shp_bool, shp_none, shp_eQ, shp_eP, shp_eS, dCont, dBreak, dXi, dSetG, dAppG, oIsB, oNotB, dTx, pJoin, pSplit, pPart, pStarts, bStr, bIntS, dFmt, dJs, ↓reduceIte, nsp_none, nsp_bool, nsp_int, nsp_str, nsp_list, nsp_tuple, nsp_eQ, nsp_eP, nsp_eS, dat_pu, dat_ow, seqD_l, seqD_t, not_true_eq_false, Bool.true_eq_false, Bool.not_not, List.length_cons, List.length_nil, mkP, mkS, fits_list, fits_tuple, isIntD, isBoolD, isListD, isStrD, isTupD, Bool.not_true, Bool.not_false, Bool.false_eq_true, it_l0, it_l1, it_l2, it_t0, it_t1, it_t2, shp_ps, shp_pt, shp_ss, shp_is, seqD_eQ, seqD_eP, seqD_eS, walkD_eP, walkD_eS, walkD_l, walkD_t]
    refine ⟨a, ls, rfl, ok.1, hda, hls, ?_⟩
    simp only [ev] at h
    cases q : ev ls a with
    | false =>
      rw [q] at h
      simp only [dRet, dRetF, dSetX, dCallX, dRetX, noOw, dTry, dCpy, dRaise, dRetO, dSetP, dSetS, dSetF, dSeq, dIf, dNext, dCall, dCallF, dB, dBin, dCons, dNil, dTup, dLst, dV, dC, dTV, onB, dTAnd, dTOr, dTNot, dAnd, dOr, dNot, dIfE, dIsN, dNotN, isN, dSl, dSlF, dNoPart, dPart, dPar, dParS, dAsg, dgN, dgT, dgCons, dgNil, dFE, dIsi, dListF, dNeg, dRev, dFrz, dApp, dAppS, dIns, dExtend, dClear, dReverse, dPop, oIx, oI, oIC, add_ii, add_ss, add_ll, add_tt, oSubI, oMulU, oMulI, oFd, oMd, oPw, oLt, oLe, oGt, oGe, oEq, oNe, getF, setF, Cl.d, getS, setS, purF_nil, purF_cons, purH, allF_nil, allF_cons, allH, rho0, endsOf, scalD, len_l, len_t, len_s, bAbs, bInt, bIntU, tup_l, tup_t, true_and, and_true, Option.some.injEq, exists_eq_left', decide_eq_true_eq, Bool.not_eq_true', decide_eq_false_iff_not, it_eQ0, it_eQ1, it_eP0, it_eP1, it_eS0, it_eS1, fits_eQ, fits_eP, fits_eS, eqv_eQ, eqv_eP, eqv_eS, eqv_int, eqv_bool, shp_int, shp_bool, shp_none, shp_eQ, shp_eP, shp_eS, dCont, dBreak, dXi, dSetG, dAppG, oIsB, oNotB, dTx, pJoin, pSplit, pPart, pStarts, bStr, bIntS, dFmt, dJs, ↓reduceIte, nsp_none, nsp_bool, nsp_int, nsp_str, nsp_list, nsp_tuple, nsp_eQ, nsp_eP, nsp_eS, dat_pu, dat_ow, seqD_l, seqD_t, not_true_eq_false, Bool.true_eq_false, Bool.not_not, List.length_cons, List.length_nil, mkP, mkS, fits_list, fits_tuple, isIntD, isBoolD, isListD, isStrD, isTupD, Bool.not_true, Bool.not_false, Bool.false_eq_true, it_l0, it_l1, it_l2, it_t0, it_t1, it_t2, shp_ps, shp_pt, shp_ss, shp_is, seqD_eQ, seqD_eP, seqD_eS, walkD_eP, walkD_eS, walkD_l, walkD_t]
      exact h
    | true =>
      rw [q] at h
      simp only [it_t1, it_t2, fits_tuple, dRet, dRetF, dSetX, dCallX, dRetX, noOw, dTry, dCpy, dRaise, dRetO, dSetP, dSetS, dSetF, dSeq, dIf, dNext, dCall, dCallF, dB, dBin, dCons, dNil, dTup, dLst, dV, dC, dTV, onB, dTAnd, dTOr, dTNot, dAnd, dOr, dNot, dIfE, dIsN, dNotN, isN, dSl, dSlF, dNoPart, dPart, dPar, dParS, dAsg, dgN, dgT, dgCons, dgNil, dFE, dIsi, dListF, dNeg, dRev, dFrz, dApp, dAppS, dIns, dExtend, dClear, dReverse, dPop, oIx, oI, oIC, add_ii, add_ss, add_ll, add_tt, oSubI, oMulU, oMulI, oFd, oMd, oPw, oLt, oLe, oGt, oGe, oEq, oNe, getF, setF, Cl.d, getS, setS, purF_nil, purF_cons, purH, allF_nil, allF_cons, allH, rho0, endsOf, scalD, len_l, len_t, len_s, bAbs, bInt, bIntU, tup_l, tup_t, true_and, and_true, Option.some.injEq, exists_eq_left', decide_eq_true_eq, Bool.not_eq_true', decide_eq_false_iff_not, it_eQ0, it_eQ1, it_eP0, it_eP1, it_eS0, it_eS1, fits_eQ, fits_eP, fits_eS, eqv_eQ, eqv_eP, eqv_eS, eqv_int, eqv_bool, shp_int, shp_bool, shp_none, shp_eQ, shp_eP, shp_eS, dCont, dBreak, dXi, dSetG, dAppG, oIsB, oNotB, dTx, pJoin, pSplit, pPart, pStarts, bStr, bIntS, dFmt, dJs, ↓reduceIte, nsp_none, nsp_bool, nsp_int, nsp_str, nsp_list, nsp_tuple, nsp_eQ, nsp_eP, nsp_eS, dat_pu, dat_ow, seqD_l, seqD_t, not_true_eq_false, Bool.true_eq_false, Bool.not_not, List.length_cons, List.length_nil, mkP, mkS, fits_list, fits_tuple, isIntD, isBoolD, isListD, isStrD, isTupD, Bool.not_true, Bool.not_false, Bool.false_eq_true, it_l0, it_l1, it_l2, it_t0, it_t1, it_t2, shp_ps, shp_pt, shp_ss, shp_is, seqD_eQ, seqD_eP, seqD_eS, walkD_eP, walkD_eS, walkD_l, walkD_t]
      exact ⟨b, ls, rfl, ok.2, hdb, hls, h⟩
  | or a b =>
    have hda : dep a ≤ n := by simp only [dep] at hd; omega
    have hdb : dep b ≤ n := by simp only [dep] at hd; omega
    refine seq_eq0 rfl s10 s9 (fun c => absurd c (by decide)) fun c => ?_
    refine seq_eq0 rfl s10 s5 (fun c => absurd c (by decide)) fun c => ?_
    refine seq_eq0 rfl s10 s3 (fun c => absurd c (by decide)) fun c => ?_
    refine seq_eq0 rfl s10 s7 (fun c => absurd c (by decide)) fun c => ?_
    refine seq_eq0 rfl s10 s10 (fun c => ?_) fun c => absurd rfl c
    simp only [eT, it_t1, it_t2, fits_tuple, dRet, dRetF, dSetX, dCallX, dRetX, noOw, dTry, dCpy, dRaise, dRetO, dSetP, dSetS, dSetF, dSeq, dIf, dNext, dCall, dCallF, dB, dBin, dCons, dNil, dTup, dLst, dV, dC, dTV, onB, dTAnd, dTOr, dTNot, dAnd, dOr, dNot, dIfE, dIsN, dNotN, isN, dSl, dSlF, dNoPart, dPart, dPar, dParS, dAsg, dgN, dgT, dgCons, dgNil, dFE, dIsi, dListF, dNeg, dRev, dFrz, dApp, dAppS, dIns, dExtend, dClear, dReverse, dPop, oIx, oI, oIC, add_ii, add_ss, add_ll, add_tt, oSubI, oMulU, oMulI, oFd, oMd, oPw, oLt, oLe, oGt, oGe, oEq, oNe, getF, setF, Cl.d, getS, setS, purF_nil, purF_cons, purH, allF_nil, allF_cons, allH, rho0, endsOf, scalD, len_l, len_t, len_s, bAbs, bInt, bIntU, tup_l, tup_t, true_and, and_true, Option.some.injEq, exists_eq_left', decide_eq_true_eq, Bool.not_eq_true', decide_eq_false_iff_not, it_eQ0, it_eQ1, it_eP0, it_eP1, it_eS0, it_eS1, fits_eQ, fits_eP, fits_eS, eqv_eQ, eqv_eP, eqv_eS, eqv_int, eqv_bool, shp_int, shp_bool, shp_none, shp_eQ, shp_eP, shp_eS, dCont, dBreak, dXi, dSetG, dAppG, oIsB, oNotB, dTx, pJoin, pSplit, pPart, pStarts, bStr, bIntS, dFmt, dJs, ↓reduceIte, nsp_none, nsp_bool, nsp_int, nsp_str, nsp_list, nsp_tuple, nsp_eQ, nsp_eP, nsp_eS, dat_pu, dat_ow, seqD_l, seqD_t, not_true_eq_false, Bool.true_eq_false, Bool.not_not, List.length_cons, List.length_nil, mkP, mkS, fits_list, fits_tuple, isIntD, isBoolD, isListD, isStrD, isTupD, Bool.not_true, Bool.not_false, Bool.false_eq_true, it_l0, it_l1, it_l2, it_t0, it_t1, it_t2, shp_ps, shp_pt, shp_ss, shp_is, seqD_eQ, seqD_eP, seqD_eS, walkD_eP, walkD_eS, walkD_l, walkD_t]
    refine ⟨a, ls, rfl, ok.1, hda, hls, ?_⟩
    simp only [ev] at h
    cases q : ev ls a with
    | true =>
      rw [q] at h
      simp only [dRet, dRetF, dSetX, dCallX, dRetX, noOw, dTry, dCpy, dRaise, dRetO, dSetP, dSetS, dSetF, dSeq, dIf, dNext, dCall, dCallF, dB, dBin, dCons, dNil, dTup, dLst, dV, dC, dTV, onB, dTAnd, dTOr, dTNot, dAnd, dOr, dNot, dIfE, dIsN, dNotN, isN, dSl, dSlF, dNoPart, dPart, dPar, dParS, dAsg, dgN, dgT, dgCons, dgNil, dFE, dIsi, dListF, dNeg, dRev, dFrz, dApp, dAppS, dIns, dExtend, dClear, dReverse, dPop, oIx, oI, oIC, add_ii, add_ss, add_ll, add_tt, oSubI, oMulU, oMulI, oFd, oMd, oPw, oLt, oLe, oGt, oGe, oEq, oNe, getF, setF, Cl.d, getS, setS, purF_nil, purF_cons, purH, allF_nil, allF_cons, allH, rho0, endsOf, scalD, len_l, len_t, len_s, bAbs, bInt, bIntU, tup_l, tup_t, true_and, and_true, Option.some.injEq, exists_eq_left', decide_eq_true_eq, Bool.not_eq_true', decide_eq_false_iff_not, it_eQ0, it_eQ1, it_eP0, it_eP1, it_eS0, it_eS1, fits_eQ, fits_eP, fits_eS, eqv_eQ, eqv_eP, eqv_eS, eqv_int, eqv_bool, shp_int, shp_bool, shp_none, shp_eQ, shp_eP, shp_eS, dCont, dBreak, dXi, dSetG, dAppG, oIsB, oNotB, dTx, pJoin, pSplit, pPart, pStarts, bStr, bIntS, dFmt, dJs, ↓reduceIte, nsp_none, nsp_bool, nsp_int, nsp_str, nsp_list, nsp_tuple, nsp_eQ, nsp_eP, nsp_eS, dat_pu, dat_ow, seqD_l, seqD_t, not_true_eq_false, Bool.true_eq_false, Bool.not_not, List.length_cons, List.length_nil, mkP, mkS, fits_list, fits_tuple, isIntD, isBoolD, isListD, isStrD, isTupD, Bool.not_true, Bool.not_false, Bool.false_eq_true, it_l0, it_l1, it_l2, it_t0, it_t1, it_t2, shp_ps, shp_pt, shp_ss, shp_is, seqD_eQ, seqD_eP, seqD_eS, walkD_eP, walkD_eS, walkD_l, walkD_t]
      exact h
    | false =>
      rw [q] at h
      simp only [it_t1, it_t2, fits_tuple, dRet, dRetF, dSetX, dCallX, dRetX, noOw, dTry, dCpy, dRaise, dRetO, dSetP, dSetS, dSetF, dSeq, dIf, dNext, dCall, dCallF, dB, dBin, dCons, dNil, dTup, dLst, dV, dC, dTV, onB, dTAnd, dTOr, dTNot, dAnd, dOr, dNot, dIfE, dIsN, dNotN, isN, dSl, dSlF, dNoPart, dPart, dPar, dParS, dAsg, dgN, dgT, dgCons, dgNil, dFE, dIsi, dListF, dNeg, dRev, dFrz, dApp, dAppS, dIns, dExtend, dClear, dReverse, dPop, oIx, oI, oIC, add_ii, add_ss, add_ll, add_tt, oSubI, oMulU, oMulI, oFd, oMd, oPw, oLt, oLe, oGt, oGe, oEq, oNe, getF, setF, Cl.d, getS, setS, purF_nil, purF_cons, purH, allF_nil, allF_cons, allH, rho0, endsOf, scalD, len_l, len_t, len_s, bAbs, bInt, bIntU, tup_l, tup_t, true_and, and_true, Option.some.injEq, exists_eq_left', decide_eq_true_eq, Bool.not_eq_true', decide_eq_false_iff_not, it_eQ0, it_eQ1, it_eP0, it_eP1, it_eS0, it_eS1, fits_eQ, fits_eP, fits_eS, eqv_eQ, eqv_eP, eqv_eS, eqv_int, eqv_bool, shp_int, shp_bool, shp_none, shp_eQ, shp_eP, shp_eS, dCont, dBreak, dXi, dSetG, dAppG, oIsB, oNotB, dTx, pJoin, pSplit, pPart, pStarts, bStr, bIntS, dFmt, dJs, ↓reduceIte, nsp_none, nsp_bool, nsp_int, nsp_str, nsp_list, nsp_tuple, nsp_eQ, nsp_eP, nsp_eS, dat_pu, dat_ow, seqD_l, seqD_t, not_true_eq_false, Bool.true_eq_false, Bool.not_not, List.length_cons, List.length_nil, mkP, mkS, fits_list, fits_tuple, isIntD, isBoolD, isListD, isStrD, isTupD, Bool.not_true, Bool.not_false, Bool.false_eq_true, it_l0, it_l1, it_l2, it_t0, it_t1, it_t2, shp_ps, shp_pt, shp_ss, shp_is, seqD_eQ, seqD_eP, seqD_eS, walkD_eP, walkD_eS, walkD_l, walkD_t]
      exact ⟨b, ls, rfl, ok.2, hdb, hls, h⟩
/-! ### drawn sayings -/
theorem keyed_st (ns ss : List Str) (r : Nat) : keyed (stD ns ss r) := ⟨rfl, fun m h => by
  injection h with h
  injection h with h1 h2
  injection h1 with h3 h4
  injection h3 with h5
  revert h5
  decide⟩
theorem key_xs (ns ss : List Str) (r : Nat) : keyD "xs" (stD ns ss r) = some xsD := rfl
theorem key_names (ns ss : List Str) (r : Nat) : keyD "names" (stD ns ss r) = some (.list (ns.map .str)) := rfl
theorem key_sheets (ns ss : List Str) (r : Nat) : keyD "sheets" (stD ns ss r) = some (.list (ss.map .str)) := rfl
theorem key_room (ns ss : List Str) (r : Nat) : keyD "room" (stD ns ss r) = some (.int r) := rfl
theorem pickS {ns : List Str} (h : StOk ns) (x : Int) : ∃ z ∈ ns, itemD (.list (ns.map .str)) (x.fmod (ns.length : Int)) = some (.str z) := by
  have hp := h.pos
  obtain ⟨f0, f1⟩ := fmod_b (x := x) (m := (ns.length : Int)) (by omega)
  have hk : (x.fmod (ns.length : Int)).toNat < ns.length := by omega
  exact ⟨ns[(x.fmod (ns.length : Int)).toNat], List.getElem_mem hk, it_at (k := (x.fmod (ns.length : Int)).toNat) (by omega) (by rw [List.getElem?_map, List.getElem?_eq_getElem hk]; rfl)⟩
theorem pop_step {Ψ : Prop} {r x : Nat} (h : r ≤ 40) (k : Ψ) : dBin oAddU (dBin oFd (dV 2) (dC (.int 7))) (dBin oMulU (dC (.int 31)) (dV 1)) [.no, .da (.int r), .da (.int x), .no, .no, .no, .no] (fun d2 => (∃ m : Nat, d2 = .int m) ∧ Ψ) := by
  simp only [dRet, dRetF, dSetX, dCallX, dRetX, noOw, dTry, dCpy, dRaise, dRetO, dSetP, dSetS, dSetF, dSeq, dIf, dNext, dCall, dCallF, dB, dBin, dCons, dNil, dTup, dLst, dV, dC, dTV, onB, dTAnd, dTOr, dTNot, dAnd, dOr, dNot, dIfE, dIsN, dNotN, isN, dSl, dSlF, dNoPart, dPart, dPar, dParS, dAsg, dgN, dgT, dgCons, dgNil, dFE, dIsi, dListF, dNeg, dRev, dFrz, dApp, dAppS, dIns, dExtend, dClear, dReverse, dPop, oIx, oI, oIC, add_ii, add_ss, add_ll, add_tt, oSubI, oMulU, oMulI, oFd, oMd, oPw, oLt, oLe, oGt, oGe, oEq, oNe, getF, setF, Cl.d, getS, setS, purF_nil, purF_cons, purH, allF_nil, allF_cons, allH, rho0, endsOf, scalD, len_l, len_t, len_s, bAbs, bInt, bIntU, tup_l, tup_t, true_and, and_true, Option.some.injEq, exists_eq_left', decide_eq_true_eq, Bool.not_eq_true', decide_eq_false_iff_not, it_eQ0, it_eQ1, it_eP0, it_eP1, it_eS0, it_eS1, fits_eQ, fits_eP, fits_eS, eqv_eQ, eqv_eP, eqv_eS, eqv_int, eqv_bool, shp_int, shp_bool, shp_none, shp_eQ, shp_eP, shp_eS, dCont, dBreak, dXi, dSetG, dAppG, oIsB, oNotB, dTx, pJoin, pSplit, pPart, pStarts, bStr, bIntS, dFmt, dJs, ↓reduceIte, nsp_none, nsp_bool, nsp_int, nsp_str, nsp_list, nsp_tuple, nsp_eQ, nsp_eP, nsp_eS, dat_pu, dat_ow, seqD_l, seqD_t, not_true_eq_false, Bool.true_eq_false, Bool.not_not, List.length_cons, List.length_nil, mkP, mkS, fits_list, fits_tuple, isIntD, isBoolD, isListD, isStrD, isTupD, Bool.not_true, Bool.not_false, Bool.false_eq_true, it_l0, it_l1, it_l2, it_t0, it_t1, it_t2, shp_ps, shp_pt, shp_ss, shp_is, seqD_eQ, seqD_eP, seqD_eS, walkD_eP, walkD_eS, walkD_l, walkD_t]
  refine ⟨cfdN (by decide) (by decide), cmN (by decide) (by omega), ⟨x / 7 + 31 * r, ?_⟩, k⟩
  rw [Int.fdiv_eq_ediv_of_nonneg _ (by decide)]
  simp
theorem rd__law_saying (n : Nat) (ds : List Dt) (Φ : Slot → Prop) (Ξ : XD → Prop) (h : spr__law_saying (n + 1) ds Φ Ξ) : d__law_saying n (endsOf Φ Ξ) (rho0 N__law_saying ds) := by
  obtain ⟨ns, ss, rm, r, rfl, hns, hss, r1, r2, r3, h⟩ := h
  have hz : (100000 : Nat) < sizeLine := by decide
  show dPopIns _ _ _ _ _ _ [.pu (stD ns ss rm), .pu (.int r), .un, .un, .un, .un, .un]
  refine ⟨by simp [noOw], ⟨_, rfl, keyed_st _ _ _, key_xs _ _ _⟩, fun x => ?_⟩
  have f12 := fmod_b (x := (x : Int)) (m := 12) (by decide)
  have hns1 := hns.pos
  have hss1 := hss.pos
  have ef : intF (setS [.pu (stD ns ss rm), .pu (.int r), .un, .un, .un, .un, .un] 2 (.pu (.int x))) = [.no, .da (.int r), .da (.int x), .no, .no, .no, .no] := rfl
  rw [ef]
  refine pop_step r3 ?_
  show dSeq _ _ _ [.pu (stD ns ss rm), .pu (.int r), .pu (.int x), .un, .un, .un, .un]
  refine seq_cut (fun ρ => ρ = [.pu (stD ns ss rm), .pu (.int r), .pu (.int x), .pu (.int ((x : Int).fmod 12)), .un, .un, .un]) (fun E hr hE => ?_) ?_
  · simp only [dRet, dRetF, dSetX, dCallX, dRetX, noOw, dTry, dCpy, dRaise, dRetO, dSetP, dSetS, dSetF, dSeq, dIf, dNext, dCall, dCallF, dB, dBin, dCons, dNil, dTup, dLst, dV, dC, dTV, onB, dTAnd, dTOr, dTNot, dAnd, dOr, dNot, dIfE, dIsN, dNotN, isN, dSl, dSlF, dNoPart, dPart, dPar, dParS, dAsg, dgN, dgT, dgCons, dgNil, dFE, dIsi, dListF, dNeg, dRev, dFrz, dApp, dAppS, dIns, dExtend, dClear, dReverse, dPop, oIx, oI, oIC, add_ii, add_ss, add_ll, add_tt, oSubI, oMulU, oMulI, oFd, oMd, oPw, oLt, oLe, oGt, oGe, oEq, oNe, getF, setF, Cl.d, getS, setS, purF_nil, purF_cons, purH, allF_nil, allF_cons, allH, rho0, endsOf, scalD, len_l, len_t, len_s, bAbs, bInt, bIntU, tup_l, tup_t, true_and, and_true, Option.some.injEq, exists_eq_left', decide_eq_true_eq, Bool.not_eq_true', decide_eq_false_iff_not, it_eQ0, it_eQ1, it_eP0, it_eP1, it_eS0, it_eS1, fits_eQ, fits_eP, fits_eS, eqv_eQ, eqv_eP, eqv_eS, eqv_int, eqv_bool, shp_int, shp_bool, shp_none, shp_eQ, shp_eP, shp_eS, dCont, dBreak, dXi, dSetG, dAppG, oIsB, oNotB, dTx, pJoin, pSplit, pPart, pStarts, bStr, bIntS, dFmt, dJs, ↓reduceIte, nsp_none, nsp_bool, nsp_int, nsp_str, nsp_list, nsp_tuple, nsp_eQ, nsp_eP, nsp_eS, dat_pu, dat_ow, seqD_l, seqD_t, not_true_eq_false, Bool.true_eq_false, Bool.not_not, List.length_cons, List.length_nil, mkP, mkS, fits_list, fits_tuple, isIntD, isBoolD, isListD, isStrD, isTupD, Bool.not_true, Bool.not_false, Bool.false_eq_true, it_l0, it_l1, it_l2, it_t0, it_t1, it_t2, shp_ps, shp_pt, shp_ss, shp_is, seqD_eQ, seqD_eP, seqD_eS, walkD_eP, walkD_eS, walkD_l, walkD_t]
    exact ⟨by decide, hE _ rfl⟩
  rintro _ rfl
  refine seq_cut (fun ρ => 2 ≤ r ∧ ρ = [.pu (stD ns ss rm), .pu (.int r), .pu (.int x), .pu (.int ((x : Int).fmod 12)), .un, .un, .un]) (fun E hr hE => ?_) ?_
  · have f8 := fmod_b (x := (x : Int).fdiv 12) (m := 8) (by decide)
    have leaf : dSeq (dSetP 4 (dBin oMd (dBin oFd (dV 2) (dC (.int 12))) (dC (.int 8)))) (dSeq (dIf (dTV (dBin oLt (dV 4) (dC (.int 6)))) (dRet (dTup (dCons (dC (.str "name")) (dCons (dBin oIx (dKey "names" (dV 0)) (dBin oMd (dBin oFd (dV 2) (dC (.int 96))) (dB bLen (dCons (dKey "names" (dV 0)) dNil)))) dNil)))) dNext)
        (dRet (dTup (dCons (dBin oIx (dLst (dCons (dC (.str "all")) (dCons (dC (.str "none")) dNil))) (dBin oSubI (dV 4) (dC (.int 6)))) dNil)))) E [.pu (stD ns ss rm), .pu (.int r), .pu (.int x), .pu (.int ((x : Int).fmod 12)), .un, .un, .un] := by
      refine seq_cut (fun ρ => ρ = [.pu (stD ns ss rm), .pu (.int r), .pu (.int x), .pu (.int ((x : Int).fmod 12)), .pu (.int (((x : Int).fdiv 12).fmod 8)), .un, .un]) (fun E2 hr2 hE2 => ?_) ?_
      · simp only [dRet, dRetF, dSetX, dCallX, dRetX, noOw, dTry, dCpy, dRaise, dRetO, dSetP, dSetS, dSetF, dSeq, dIf, dNext, dCall, dCallF, dB, dBin, dCons, dNil, dTup, dLst, dV, dC, dTV, onB, dTAnd, dTOr, dTNot, dAnd, dOr, dNot, dIfE, dIsN, dNotN, isN, dSl, dSlF, dNoPart, dPart, dPar, dParS, dAsg, dgN, dgT, dgCons, dgNil, dFE, dIsi, dListF, dNeg, dRev, dFrz, dApp, dAppS, dIns, dExtend, dClear, dReverse, dPop, oIx, oI, oIC, add_ii, add_ss, add_ll, add_tt, oSubI, oMulU, oMulI, oFd, oMd, oPw, oLt, oLe, oGt, oGe, oEq, oNe, getF, setF, Cl.d, getS, setS, purF_nil, purF_cons, purH, allF_nil, allF_cons, allH, rho0, endsOf, scalD, len_l, len_t, len_s, bAbs, bInt, bIntU, tup_l, tup_t, true_and, and_true, Option.some.injEq, exists_eq_left', decide_eq_true_eq, Bool.not_eq_true', decide_eq_false_iff_not, it_eQ0, it_eQ1, it_eP0, it_eP1, it_eS0, it_eS1, fits_eQ, fits_eP, fits_eS, eqv_eQ, eqv_eP, eqv_eS, eqv_int, eqv_bool, shp_int, shp_bool, shp_none, shp_eQ, shp_eP, shp_eS, dCont, dBreak, dXi, dSetG, dAppG, oIsB, oNotB, dTx, pJoin, pSplit, pPart, pStarts, bStr, bIntS, dFmt, dJs, ↓reduceIte, nsp_none, nsp_bool, nsp_int, nsp_str, nsp_list, nsp_tuple, nsp_eQ, nsp_eP, nsp_eS, dat_pu, dat_ow, seqD_l, seqD_t, not_true_eq_false, Bool.true_eq_false, Bool.not_not, List.length_cons, List.length_nil, mkP, mkS, fits_list, fits_tuple, isIntD, isBoolD, isListD, isStrD, isTupD, Bool.not_true, Bool.not_false, Bool.false_eq_true, it_l0, it_l1, it_l2, it_t0, it_t1, it_t2, shp_ps, shp_pt, shp_ss, shp_is, seqD_eQ, seqD_eP, seqD_eS, walkD_eP, walkD_eS, walkD_l, walkD_t]
        exact ⟨cfdN (by decide) (by decide), by decide, hE2 _ rfl⟩
      rintro _ rfl
      refine seq_cut (fun ρ => 6 ≤ ((x : Int).fdiv 12).fmod 8 ∧ ρ = [.pu (stD ns ss rm), .pu (.int r), .pu (.int x), .pu (.int ((x : Int).fmod 12)), .pu (.int (((x : Int).fdiv 12).fmod 8)), .un, .un]) (fun E2 hr2 hE2 => ?_) ?_
      · simp only [dKey, dRet, dRetF, dSetX, dCallX, dRetX, noOw, dTry, dCpy, dRaise, dRetO, dSetP, dSetS, dSetF, dSeq, dIf, dNext, dCall, dCallF, dB, dBin, dCons, dNil, dTup, dLst, dV, dC, dTV, onB, dTAnd, dTOr, dTNot, dAnd, dOr, dNot, dIfE, dIsN, dNotN, isN, dSl, dSlF, dNoPart, dPart, dPar, dParS, dAsg, dgN, dgT, dgCons, dgNil, dFE, dIsi, dListF, dNeg, dRev, dFrz, dApp, dAppS, dIns, dExtend, dClear, dReverse, dPop, oIx, oI, oIC, add_ii, add_ss, add_ll, add_tt, oSubI, oMulU, oMulI, oFd, oMd, oPw, oLt, oLe, oGt, oGe, oEq, oNe, getF, setF, Cl.d, getS, setS, purF_nil, purF_cons, purH, allF_nil, allF_cons, allH, rho0, endsOf, scalD, len_l, len_t, len_s, bAbs, bInt, bIntU, tup_l, tup_t, true_and, and_true, Option.some.injEq, exists_eq_left', decide_eq_true_eq, Bool.not_eq_true', decide_eq_false_iff_not, it_eQ0, it_eQ1, it_eP0, it_eP1, it_eS0, it_eS1, fits_eQ, fits_eP, fits_eS, eqv_eQ, eqv_eP, eqv_eS, eqv_int, eqv_bool, shp_int, shp_bool, shp_none, shp_eQ, shp_eP, shp_eS, dCont, dBreak, dXi, dSetG, dAppG, oIsB, oNotB, dTx, pJoin, pSplit, pPart, pStarts, bStr, bIntS, dFmt, dJs, ↓reduceIte, nsp_none, nsp_bool, nsp_int, nsp_str, nsp_list, nsp_tuple, nsp_eQ, nsp_eP, nsp_eS, dat_pu, dat_ow, seqD_l, seqD_t, not_true_eq_false, Bool.true_eq_false, Bool.not_not, List.length_cons, List.length_nil, mkP, mkS, fits_list, fits_tuple, isIntD, isBoolD, isListD, isStrD, isTupD, Bool.not_true, Bool.not_false, Bool.false_eq_true, it_l0, it_l1, it_l2, it_t0, it_t1, it_t2, shp_ps, shp_pt, shp_ss, shp_is, seqD_eQ, seqD_eP, seqD_eS, walkD_eP, walkD_eS, walkD_l, walkD_t]
        by_cases c : ((x : Int).fdiv 12).fmod 8 < 6
        · obtain ⟨z, hz1, ez⟩ := pickS hns ((x : Int).fdiv 96)
          refine ite_yes c ⟨_, keyed_st _ _ _, key_names _ _ _, cfdN (by decide) (by decide), _, keyed_st _ _ _, key_names _ _ _, ?_⟩
          simp only [List.length_map, dRet, dRetF, dSetX, dCallX, dRetX, noOw, dTry, dCpy, dRaise, dRetO, dSetP, dSetS, dSetF, dSeq, dIf, dNext, dCall, dCallF, dB, dBin, dCons, dNil, dTup, dLst, dV, dC, dTV, onB, dTAnd, dTOr, dTNot, dAnd, dOr, dNot, dIfE, dIsN, dNotN, isN, dSl, dSlF, dNoPart, dPart, dPar, dParS, dAsg, dgN, dgT, dgCons, dgNil, dFE, dIsi, dListF, dNeg, dRev, dFrz, dApp, dAppS, dIns, dExtend, dClear, dReverse, dPop, oIx, oI, oIC, add_ii, add_ss, add_ll, add_tt, oSubI, oMulU, oMulI, oFd, oMd, oPw, oLt, oLe, oGt, oGe, oEq, oNe, getF, setF, Cl.d, getS, setS, purF_nil, purF_cons, purH, allF_nil, allF_cons, allH, rho0, endsOf, scalD, len_l, len_t, len_s, bAbs, bInt, bIntU, tup_l, tup_t, true_and, and_true, Option.some.injEq, exists_eq_left', decide_eq_true_eq, Bool.not_eq_true', decide_eq_false_iff_not, it_eQ0, it_eQ1, it_eP0, it_eP1, it_eS0, it_eS1, fits_eQ, fits_eP, fits_eS, eqv_eQ, eqv_eP, eqv_eS, eqv_int, eqv_bool, shp_int, shp_bool, shp_none, shp_eQ, shp_eP, shp_eS, dCont, dBreak, dXi, dSetG, dAppG, oIsB, oNotB, dTx, pJoin, pSplit, pPart, pStarts, bStr, bIntS, dFmt, dJs, ↓reduceIte, nsp_none, nsp_bool, nsp_int, nsp_str, nsp_list, nsp_tuple, nsp_eQ, nsp_eP, nsp_eS, dat_pu, dat_ow, seqD_l, seqD_t, not_true_eq_false, Bool.true_eq_false, Bool.not_not, List.length_cons, List.length_nil, mkP, mkS, fits_list, fits_tuple, isIntD, isBoolD, isListD, isStrD, isTupD, Bool.not_true, Bool.not_false, Bool.false_eq_true, it_l0, it_l1, it_l2, it_t0, it_t1, it_t2, shp_ps, shp_pt, shp_ss, shp_is, seqD_eQ, seqD_eP, seqD_eS, walkD_eP, walkD_eS, walkD_l, walkD_t]
          refine ⟨by omega, _, ez, ?_⟩
          rw [hr2, hr]
          exact h (.name z) (hns.nm z hz1) r1
        · exact ite_no c (hE2 _ ⟨by omega, rfl⟩)
      rintro _ ⟨c, rfl⟩
      simp only [dRet, dRetF, dSetX, dCallX, dRetX, noOw, dTry, dCpy, dRaise, dRetO, dSetP, dSetS, dSetF, dSeq, dIf, dNext, dCall, dCallF, dB, dBin, dCons, dNil, dTup, dLst, dV, dC, dTV, onB, dTAnd, dTOr, dTNot, dAnd, dOr, dNot, dIfE, dIsN, dNotN, isN, dSl, dSlF, dNoPart, dPart, dPar, dParS, dAsg, dgN, dgT, dgCons, dgNil, dFE, dIsi, dListF, dNeg, dRev, dFrz, dApp, dAppS, dIns, dExtend, dClear, dReverse, dPop, oIx, oI, oIC, add_ii, add_ss, add_ll, add_tt, oSubI, oMulU, oMulI, oFd, oMd, oPw, oLt, oLe, oGt, oGe, oEq, oNe, getF, setF, Cl.d, getS, setS, purF_nil, purF_cons, purH, allF_nil, allF_cons, allH, rho0, endsOf, scalD, len_l, len_t, len_s, bAbs, bInt, bIntU, tup_l, tup_t, true_and, and_true, Option.some.injEq, exists_eq_left', decide_eq_true_eq, Bool.not_eq_true', decide_eq_false_iff_not, it_eQ0, it_eQ1, it_eP0, it_eP1, it_eS0, it_eS1, fits_eQ, fits_eP, fits_eS, eqv_eQ, eqv_eP, eqv_eS, eqv_int, eqv_bool, shp_int, shp_bool, shp_none, shp_eQ, shp_eP, shp_eS, dCont, dBreak, dXi, dSetG, dAppG, oIsB, oNotB, dTx, pJoin, pSplit, pPart, pStarts, bStr, bIntS, dFmt, dJs, ↓reduceIte, nsp_none, nsp_bool, nsp_int, nsp_str, nsp_list, nsp_tuple, nsp_eQ, nsp_eP, nsp_eS, dat_pu, dat_ow, seqD_l, seqD_t, not_true_eq_false, Bool.true_eq_false, Bool.not_not, List.length_cons, List.length_nil, mkP, mkS, fits_list, fits_tuple, isIntD, isBoolD, isListD, isStrD, isTupD, Bool.not_true, Bool.not_false, Bool.false_eq_true, it_l0, it_l1, it_l2, it_t0, it_t1, it_t2, shp_ps, shp_pt, shp_ss, shp_is, seqD_eQ, seqD_eP, seqD_eS, walkD_eP, walkD_eS, walkD_l, walkD_t]
      have hq : ((x : Int).fdiv 12).fmod 8 - 6 = 0 ∨ ((x : Int).fdiv 12).fmod 8 - 6 = 1 := by omega
      rw [hr]
      rcases hq with q | q <;> rw [q]
      · exact ⟨_, it_l0 _ _, h .all trivial r1⟩
      · exact ⟨_, it_l1 _ _ _, h .none trivial r1⟩
    simp only [dIf, dTOr, dTV, dBin, dV, allF_cons, allF_nil, allH, getF, Cl.d, onB, dC, oLt, oI]
    by_cases c : (r : Int) < 2
    · rw [if_pos (decide_eq_true c), if_pos trivial]
      exact leaf
    · rw [if_neg (by simpa using c)]
      by_cases c2 : (x : Int).fmod 12 < 4
      · rw [if_pos (decide_eq_true c2)]
        exact leaf
      · rw [if_neg (by simpa using c2)]
        exact hE _ ⟨by omega, rfl⟩
  rintro _ ⟨r4, rfl⟩
  refine seq_cut (fun ρ => 5 ≤ r ∧ ρ = [.pu (stD ns ss rm), .pu (.int r), .pu (.int x), .pu (.int ((x : Int).fmod 12)), .un, .un, .un]) (fun E hr hE => ?_) ?_
  · have arm : dSeq (dIf (dTV (dBin oEq (dBin oMd (dV 3) (dC (.int 2))) (dC (.int 0)))) (dRet (dTup (dCons (dC (.str "sheet")) (dCons (dBin oIx (dKey "sheets" (dV 0)) (dBin oMd (dBin oFd (dV 2) (dC (.int 12))) (dB bLen (dCons (dKey "sheets" (dV 0)) dNil)))) dNil)))) dNext)
        (dRet (dTup (dCons (dC (.str "not")) (dCons (dCall (spr__law_saying n) (dCons (dV 0) (dCons (dBin oSubI (dV 1) (dC (.int 1))) dNil))) dNil)))) E [.pu (stD ns ss rm), .pu (.int r), .pu (.int x), .pu (.int ((x : Int).fmod 12)), .un, .un, .un] := by
      refine seq_cut (fun ρ => ρ = [.pu (stD ns ss rm), .pu (.int r), .pu (.int x), .pu (.int ((x : Int).fmod 12)), .un, .un, .un]) (fun E2 hr2 hE2 => ?_) ?_
      · simp only [dKey, dRet, dRetF, dSetX, dCallX, dRetX, noOw, dTry, dCpy, dRaise, dRetO, dSetP, dSetS, dSetF, dSeq, dIf, dNext, dCall, dCallF, dB, dBin, dCons, dNil, dTup, dLst, dV, dC, dTV, onB, dTAnd, dTOr, dTNot, dAnd, dOr, dNot, dIfE, dIsN, dNotN, isN, dSl, dSlF, dNoPart, dPart, dPar, dParS, dAsg, dgN, dgT, dgCons, dgNil, dFE, dIsi, dListF, dNeg, dRev, dFrz, dApp, dAppS, dIns, dExtend, dClear, dReverse, dPop, oIx, oI, oIC, add_ii, add_ss, add_ll, add_tt, oSubI, oMulU, oMulI, oFd, oMd, oPw, oLt, oLe, oGt, oGe, oEq, oNe, getF, setF, Cl.d, getS, setS, purF_nil, purF_cons, purH, allF_nil, allF_cons, allH, rho0, endsOf, scalD, len_l, len_t, len_s, bAbs, bInt, bIntU, tup_l, tup_t, true_and, and_true, Option.some.injEq, exists_eq_left', decide_eq_true_eq, Bool.not_eq_true', decide_eq_false_iff_not, it_eQ0, it_eQ1, it_eP0, it_eP1, it_eS0, it_eS1, fits_eQ, fits_eP, fits_eS, eqv_eQ, eqv_eP, eqv_eS, eqv_int, eqv_bool, shp_int, shp_bool, shp_none, shp_eQ, shp_eP, shp_eS, dCont, dBreak, dXi, dSetG, dAppG, oIsB, oNotB, dTx, pJoin, pSplit, pPart, pStarts, bStr, bIntS, dFmt, dJs, ↓reduceIte, nsp_none, nsp_bool, nsp_int, nsp_str, nsp_list, nsp_tuple, nsp_eQ, nsp_eP, nsp_eS, dat_pu, dat_ow, seqD_l, seqD_t, not_true_eq_false, Bool.true_eq_false, Bool.not_not, List.length_cons, List.length_nil, mkP, mkS, fits_list, fits_tuple, isIntD, isBoolD, isListD, isStrD, isTupD, Bool.not_true, Bool.not_false, Bool.false_eq_true, it_l0, it_l1, it_l2, it_t0, it_t1, it_t2, shp_ps, shp_pt, shp_ss, shp_is, seqD_eQ, seqD_eP, seqD_eS, walkD_eP, walkD_eS, walkD_l, walkD_t]
        refine ⟨by decide, ?_⟩
        by_cases c : ((x : Int).fmod 12).fmod 2 = 0
        · obtain ⟨z, hz1, ez⟩ := pickS hss ((x : Int).fdiv 12)
          refine ite_yes c ⟨_, keyed_st _ _ _, key_sheets _ _ _, cfdN (by decide) (by decide), _, keyed_st _ _ _, key_sheets _ _ _, ?_⟩
          simp only [List.length_map, dRet, dRetF, dSetX, dCallX, dRetX, noOw, dTry, dCpy, dRaise, dRetO, dSetP, dSetS, dSetF, dSeq, dIf, dNext, dCall, dCallF, dB, dBin, dCons, dNil, dTup, dLst, dV, dC, dTV, onB, dTAnd, dTOr, dTNot, dAnd, dOr, dNot, dIfE, dIsN, dNotN, isN, dSl, dSlF, dNoPart, dPart, dPar, dParS, dAsg, dgN, dgT, dgCons, dgNil, dFE, dIsi, dListF, dNeg, dRev, dFrz, dApp, dAppS, dIns, dExtend, dClear, dReverse, dPop, oIx, oI, oIC, add_ii, add_ss, add_ll, add_tt, oSubI, oMulU, oMulI, oFd, oMd, oPw, oLt, oLe, oGt, oGe, oEq, oNe, getF, setF, Cl.d, getS, setS, purF_nil, purF_cons, purH, allF_nil, allF_cons, allH, rho0, endsOf, scalD, len_l, len_t, len_s, bAbs, bInt, bIntU, tup_l, tup_t, true_and, and_true, Option.some.injEq, exists_eq_left', decide_eq_true_eq, Bool.not_eq_true', decide_eq_false_iff_not, it_eQ0, it_eQ1, it_eP0, it_eP1, it_eS0, it_eS1, fits_eQ, fits_eP, fits_eS, eqv_eQ, eqv_eP, eqv_eS, eqv_int, eqv_bool, shp_int, shp_bool, shp_none, shp_eQ, shp_eP, shp_eS, dCont, dBreak, dXi, dSetG, dAppG, oIsB, oNotB, dTx, pJoin, pSplit, pPart, pStarts, bStr, bIntS, dFmt, dJs, ↓reduceIte, nsp_none, nsp_bool, nsp_int, nsp_str, nsp_list, nsp_tuple, nsp_eQ, nsp_eP, nsp_eS, dat_pu, dat_ow, seqD_l, seqD_t, not_true_eq_false, Bool.true_eq_false, Bool.not_not, List.length_cons, List.length_nil, mkP, mkS, fits_list, fits_tuple, isIntD, isBoolD, isListD, isStrD, isTupD, Bool.not_true, Bool.not_false, Bool.false_eq_true, it_l0, it_l1, it_l2, it_t0, it_t1, it_t2, shp_ps, shp_pt, shp_ss, shp_is, seqD_eQ, seqD_eP, seqD_eS, walkD_eP, walkD_eS, walkD_l, walkD_t]
          refine ⟨by omega, _, ez, ?_⟩
          rw [hr2, hr]
          exact h (.sheet z) (hss.nm z hz1) r4
        · exact ite_no c (hE2 _ rfl)
      rintro _ rfl
      simp only [dRet, dRetF, dSetX, dCallX, dRetX, noOw, dTry, dCpy, dRaise, dRetO, dSetP, dSetS, dSetF, dSeq, dIf, dNext, dCall, dCallF, dB, dBin, dCons, dNil, dTup, dLst, dV, dC, dTV, onB, dTAnd, dTOr, dTNot, dAnd, dOr, dNot, dIfE, dIsN, dNotN, isN, dSl, dSlF, dNoPart, dPart, dPar, dParS, dAsg, dgN, dgT, dgCons, dgNil, dFE, dIsi, dListF, dNeg, dRev, dFrz, dApp, dAppS, dIns, dExtend, dClear, dReverse, dPop, oIx, oI, oIC, add_ii, add_ss, add_ll, add_tt, oSubI, oMulU, oMulI, oFd, oMd, oPw, oLt, oLe, oGt, oGe, oEq, oNe, getF, setF, Cl.d, getS, setS, purF_nil, purF_cons, purH, allF_nil, allF_cons, allH, rho0, endsOf, scalD, len_l, len_t, len_s, bAbs, bInt, bIntU, tup_l, tup_t, true_and, and_true, Option.some.injEq, exists_eq_left', decide_eq_true_eq, Bool.not_eq_true', decide_eq_false_iff_not, it_eQ0, it_eQ1, it_eP0, it_eP1, it_eS0, it_eS1, fits_eQ, fits_eP, fits_eS, eqv_eQ, eqv_eP, eqv_eS, eqv_int, eqv_bool, shp_int, shp_bool, shp_none, shp_eQ, shp_eP, shp_eS, dCont, dBreak, dXi, dSetG, dAppG, oIsB, oNotB, dTx, pJoin, pSplit, pPart, pStarts, bStr, bIntS, dFmt, dJs, ↓reduceIte, nsp_none, nsp_bool, nsp_int, nsp_str, nsp_list, nsp_tuple, nsp_eQ, nsp_eP, nsp_eS, dat_pu, dat_ow, seqD_l, seqD_t, not_true_eq_false, Bool.true_eq_false, Bool.not_not, List.length_cons, List.length_nil, mkP, mkS, fits_list, fits_tuple, isIntD, isBoolD, isListD, isStrD, isTupD, Bool.not_true, Bool.not_false, Bool.false_eq_true, it_l0, it_l1, it_l2, it_t0, it_t1, it_t2, shp_ps, shp_pt, shp_ss, shp_is, seqD_eQ, seqD_eP, seqD_eS, walkD_eP, walkD_eS, walkD_l, walkD_t]
      refine ⟨ns, ss, rm, r - 1, by rw [Int.ofNat_sub (by omega)]; rfl, hns, hss, by omega, by omega, by omega, fun t ht hl => ?_⟩
      rw [hr]
      exact h (.not t) ht (by simp only [wds, List.length_cons]; omega)
    simp only [dIf, dTOr, dTV, dBin, dV, allF_cons, allF_nil, allH, getF, Cl.d, onB, dC, oLt, oI]
    by_cases c : (r : Int) < 5
    · rw [if_pos (decide_eq_true c), if_pos trivial]
      exact arm
    · rw [if_neg (by simpa using c)]
      by_cases c2 : (x : Int).fmod 12 < 7
      · rw [if_pos (decide_eq_true c2)]
        exact arm
      · rw [if_neg (by simpa using c2)]
        exact hE _ ⟨by omega, rfl⟩
  rintro _ ⟨r5, rfl⟩
  obtain ⟨g0, g1⟩ := fmod_b (x := (x : Int).fdiv 12) (m := (r : Int) - 4) (by omega)
  generalize eg : ((x : Int).fdiv 12).fmod ((r : Int) - 4) = g at g0 g1
  refine seq_cut (fun ρ => ∃ f : Nat, 1 ≤ f ∧ f + 4 ≤ r ∧ ρ = [.pu (stD ns ss rm), .pu (.int r), .pu (.int x), .pu (.int ((x : Int).fmod 12)), .un, .pu (.int f), .un]) (fun E hr hE => ?_) ?_
  · simp only [dRet, dRetF, dSetX, dCallX, dRetX, noOw, dTry, dCpy, dRaise, dRetO, dSetP, dSetS, dSetF, dSeq, dIf, dNext, dCall, dCallF, dB, dBin, dCons, dNil, dTup, dLst, dV, dC, dTV, onB, dTAnd, dTOr, dTNot, dAnd, dOr, dNot, dIfE, dIsN, dNotN, isN, dSl, dSlF, dNoPart, dPart, dPar, dParS, dAsg, dgN, dgT, dgCons, dgNil, dFE, dIsi, dListF, dNeg, dRev, dFrz, dApp, dAppS, dIns, dExtend, dClear, dReverse, dPop, oIx, oI, oIC, add_ii, add_ss, add_ll, add_tt, oSubI, oMulU, oMulI, oFd, oMd, oPw, oLt, oLe, oGt, oGe, oEq, oNe, getF, setF, Cl.d, getS, setS, purF_nil, purF_cons, purH, allF_nil, allF_cons, allH, rho0, endsOf, scalD, len_l, len_t, len_s, bAbs, bInt, bIntU, tup_l, tup_t, true_and, and_true, Option.some.injEq, exists_eq_left', decide_eq_true_eq, Bool.not_eq_true', decide_eq_false_iff_not, it_eQ0, it_eQ1, it_eP0, it_eP1, it_eS0, it_eS1, fits_eQ, fits_eP, fits_eS, eqv_eQ, eqv_eP, eqv_eS, eqv_int, eqv_bool, shp_int, shp_bool, shp_none, shp_eQ, shp_eP, shp_eS, dCont, dBreak, dXi, dSetG, dAppG, oIsB, oNotB, dTx, pJoin, pSplit, pPart, pStarts, bStr, bIntS, dFmt, dJs, ↓reduceIte, nsp_none, nsp_bool, nsp_int, nsp_str, nsp_list, nsp_tuple, nsp_eQ, nsp_eP, nsp_eS, dat_pu, dat_ow, seqD_l, seqD_t, not_true_eq_false, Bool.true_eq_false, Bool.not_not, List.length_cons, List.length_nil, mkP, mkS, fits_list, fits_tuple, isIntD, isBoolD, isListD, isStrD, isTupD, Bool.not_true, Bool.not_false, Bool.false_eq_true, it_l0, it_l1, it_l2, it_t0, it_t1, it_t2, shp_ps, shp_pt, shp_ss, shp_is, seqD_eQ, seqD_eP, seqD_eS, walkD_eP, walkD_eS, walkD_l, walkD_t]
    refine ⟨cfdN (by decide) (by decide), by omega, ?_⟩
    rw [eg]
    refine hE _ ⟨(1 + g).toNat, by omega, by omega, ?_⟩
    rw [Int.toNat_of_nonneg (by omega)]
  rintro _ ⟨f, f1, f2, rfl⟩
  refine seq_cut (fun ρ => ∃ a, Ok a ∧ (wds a).length ≤ f ∧ ρ = [.pu (stD ns ss rm), .pu (.int r), .pu (.int x), .pu (.int ((x : Int).fmod 12)), .un, .pu (.int f), .pu (eT a)]) (fun E hr hE => ?_) ?_
  · simp only [dRet, dRetF, dSetX, dCallX, dRetX, noOw, dTry, dCpy, dRaise, dRetO, dSetP, dSetS, dSetF, dSeq, dIf, dNext, dCall, dCallF, dB, dBin, dCons, dNil, dTup, dLst, dV, dC, dTV, onB, dTAnd, dTOr, dTNot, dAnd, dOr, dNot, dIfE, dIsN, dNotN, isN, dSl, dSlF, dNoPart, dPart, dPar, dParS, dAsg, dgN, dgT, dgCons, dgNil, dFE, dIsi, dListF, dNeg, dRev, dFrz, dApp, dAppS, dIns, dExtend, dClear, dReverse, dPop, oIx, oI, oIC, add_ii, add_ss, add_ll, add_tt, oSubI, oMulU, oMulI, oFd, oMd, oPw, oLt, oLe, oGt, oGe, oEq, oNe, getF, setF, Cl.d, getS, setS, purF_nil, purF_cons, purH, allF_nil, allF_cons, allH, rho0, endsOf, scalD, len_l, len_t, len_s, bAbs, bInt, bIntU, tup_l, tup_t, true_and, and_true, Option.some.injEq, exists_eq_left', decide_eq_true_eq, Bool.not_eq_true', decide_eq_false_iff_not, it_eQ0, it_eQ1, it_eP0, it_eP1, it_eS0, it_eS1, fits_eQ, fits_eP, fits_eS, eqv_eQ, eqv_eP, eqv_eS, eqv_int, eqv_bool, shp_int, shp_bool, shp_none, shp_eQ, shp_eP, shp_eS, dCont, dBreak, dXi, dSetG, dAppG, oIsB, oNotB, dTx, pJoin, pSplit, pPart, pStarts, bStr, bIntS, dFmt, dJs, ↓reduceIte, nsp_none, nsp_bool, nsp_int, nsp_str, nsp_list, nsp_tuple, nsp_eQ, nsp_eP, nsp_eS, dat_pu, dat_ow, seqD_l, seqD_t, not_true_eq_false, Bool.true_eq_false, Bool.not_not, List.length_cons, List.length_nil, mkP, mkS, fits_list, fits_tuple, isIntD, isBoolD, isListD, isStrD, isTupD, Bool.not_true, Bool.not_false, Bool.false_eq_true, it_l0, it_l1, it_l2, it_t0, it_t1, it_t2, shp_ps, shp_pt, shp_ss, shp_is, seqD_eQ, seqD_eP, seqD_eS, walkD_eP, walkD_eS, walkD_l, walkD_t]
    exact ⟨ns, ss, rm, f, rfl, hns, hss, by omega, by omega, by omega, fun t ht hl => hE _ ⟨t, ht, hl, rfl⟩⟩
  rintro _ ⟨a, ha, hal, rfl⟩
  obtain ⟨h0, h1⟩ := fmod_b (x := (x : Int).fdiv 500) (m := 2) (by decide)
  simp only [dRet, dRetF, dSetX, dCallX, dRetX, noOw, dTry, dCpy, dRaise, dRetO, dSetP, dSetS, dSetF, dSeq, dIf, dNext, dCall, dCallF, dB, dBin, dCons, dNil, dTup, dLst, dV, dC, dTV, onB, dTAnd, dTOr, dTNot, dAnd, dOr, dNot, dIfE, dIsN, dNotN, isN, dSl, dSlF, dNoPart, dPart, dPar, dParS, dAsg, dgN, dgT, dgCons, dgNil, dFE, dIsi, dListF, dNeg, dRev, dFrz, dApp, dAppS, dIns, dExtend, dClear, dReverse, dPop, oIx, oI, oIC, add_ii, add_ss, add_ll, add_tt, oSubI, oMulU, oMulI, oFd, oMd, oPw, oLt, oLe, oGt, oGe, oEq, oNe, getF, setF, Cl.d, getS, setS, purF_nil, purF_cons, purH, allF_nil, allF_cons, allH, rho0, endsOf, scalD, len_l, len_t, len_s, bAbs, bInt, bIntU, tup_l, tup_t, true_and, and_true, Option.some.injEq, exists_eq_left', decide_eq_true_eq, Bool.not_eq_true', decide_eq_false_iff_not, it_eQ0, it_eQ1, it_eP0, it_eP1, it_eS0, it_eS1, fits_eQ, fits_eP, fits_eS, eqv_eQ, eqv_eP, eqv_eS, eqv_int, eqv_bool, shp_int, shp_bool, shp_none, shp_eQ, shp_eP, shp_eS, dCont, dBreak, dXi, dSetG, dAppG, oIsB, oNotB, dTx, pJoin, pSplit, pPart, pStarts, bStr, bIntS, dFmt, dJs, ↓reduceIte, nsp_none, nsp_bool, nsp_int, nsp_str, nsp_list, nsp_tuple, nsp_eQ, nsp_eP, nsp_eS, dat_pu, dat_ow, seqD_l, seqD_t, not_true_eq_false, Bool.true_eq_false, Bool.not_not, List.length_cons, List.length_nil, mkP, mkS, fits_list, fits_tuple, isIntD, isBoolD, isListD, isStrD, isTupD, Bool.not_true, Bool.not_false, Bool.false_eq_true, it_l0, it_l1, it_l2, it_t0, it_t1, it_t2, shp_ps, shp_pt, shp_ss, shp_is, seqD_eQ, seqD_eP, seqD_eS, walkD_eP, walkD_eS, walkD_l, walkD_t]
  refine ⟨cfdN (by decide) (by decide), by decide, ?_⟩
  have hq : ((x : Int).fdiv 500).fmod 2 = 0 ∨ ((x : Int).fdiv 500).fmod 2 = 1 := by omega
  rcases hq with q | q <;> rw [q]
  · refine ⟨_, it_l0 _ _, ns, ss, rm, r - 3 - f, by rw [Int.ofNat_sub (by omega), Int.ofNat_sub (by omega)]; rfl, hns, hss, by omega, by omega, by omega, fun t ht hl => ?_⟩
    exact h (.and a t) ⟨ha, ht⟩ (by simp only [wds, List.length_cons, List.length_append, List.length_nil]; omega)
  · refine ⟨_, it_l1 _ _ _, ns, ss, rm, r - 3 - f, by rw [Int.ofNat_sub (by omega), Int.ofNat_sub (by omega)]; rfl, hns, hss, by omega, by omega, by omega, fun t ht hl => ?_⟩
    exact h (.or a t) ⟨ha, ht⟩ (by simp only [wds, List.length_cons, List.length_append, List.length_nil]; omega)
end L2.D3.SY
set_option maxHeartbeats 1000000
/-! Sayings read: the law. -/
namespace L2.D3.SY
open PySem PySem.Spec PyProof.Rows L2.D3
open SX (S)
def sp__law_state : DSp := fun ds Φ _ => ∃ (c : Int) (ns ss : List Str), ds = [.int c, .list (ns.map .str), .list (ss.map .str)] ∧ ∀ rm : Nat, 1 ≤ rm → rm ≤ 40 → Φ (.pu (stD ns ss rm))
abbrev sp__law_words := N6.sp__law_words
abbrev d__law_words := N6.d__law_words
abbrev N__law_words := N6.N__law_words
theorem rd__law_words (ds : List Dt) (Φ : Slot → Prop) (Ξ : XD → Prop) (h : sp__law_words ds Φ Ξ) : d__law_words (endsOf Φ Ξ) (rho0 N__law_words ds) := N6.rd__law_words ds Φ Ξ h
abbrev N__law_state : List Str := ["_law_cell_here", "_law_names", "_law_sheets", "_law_xs"]
def d__law_state : DS := (dSeq (dSetP 3 (dCall sp__law_numbers (dCons (dV 0) (dCons (dC (.int 40)) dNil))))
  (dRet (dState "xs" "names" "sheets" "room" (dSlF (dV 3) (dPart (dC (.int 1))) dNoPart) (dV 1) (dV 2) (dBin oIx (dLst (dCons (dC (.int 3)) (dCons (dC (.int 8)) (dCons (dC (.int 14)) (dCons (dC (.int 40)) dNil))))) (dBin oMd (dBin oIx (dV 3) (dC (.int 0))) (dC (.int 4)))))))
theorem pick4 {x : Int} (h0 : 0 ≤ x) (h1 : x < 4) : ∃ r : Nat, 1 ≤ r ∧ r ≤ 40 ∧ itemD (.list [.int 3, .int 8, .int 14, .int 40]) x = some (.int r) := by
  have hm : x = 0 ∨ x = 1 ∨ x = 2 ∨ x = 3 := by omega
  rcases hm with rfl | rfl | rfl | rfl
  · exact ⟨3, by decide, by decide, rfl⟩
  · exact ⟨8, by decide, by decide, rfl⟩
  · exact ⟨14, by decide, by decide, rfl⟩
  · exact ⟨40, by decide, by decide, rfl⟩
theorem drop_nat : ∀ {xs : List Int}, (∀ x ∈ xs, Drw x) → xs.map PyData.int = (xs.map Int.toNat).map fun (n : Nat) => PyData.int (n : Nat)
  | [], _ => rfl
  | x :: r, h => by
    have := (h x List.mem_cons_self).1
    rw [List.map_cons, List.map_cons, List.map_cons, ← drop_nat (xs := r) fun y hy => h y (List.mem_cons_of_mem _ hy), Int.toNat_of_nonneg this]
theorem rd__law_state (ds : List Dt) (Φ : Slot → Prop) (Ξ : XD → Prop) (h : sp__law_state ds Φ Ξ) : d__law_state (endsOf Φ Ξ) (rho0 N__law_state ds) := by
  obtain ⟨c, ns, ss, rfl, h⟩ := h
  have hz : (100000 : Nat) < sizeLine := by decide
  show dSeq _ _ _ [.pu (.int c), .pu (.list (ns.map .str)), .pu (.list (ss.map .str)), .un]
  refine seq_cut (fun ρ => ∃ xs : List Int, xs.length = 40 ∧ (∀ x ∈ xs, Drw x) ∧ ρ = [.pu (.int c), .pu (.list (ns.map .str)), .pu (.list (ss.map .str)), .pu (.list (xs.map .int))]) (fun E _ hE => ?_) ?_
  · simp only [dRet, dRetF, dSetX, dCallX, dRetX, noOw, dTry, dCpy, dRaise, dRetO, dSetP, dSetS, dSetF, dSeq, dIf, dNext, dCall, dCallF, dB, dBin, dCons, dNil, dTup, dLst, dV, dC, dTV, onB, dTAnd, dTOr, dTNot, dAnd, dOr, dNot, dIfE, dIsN, dNotN, isN, dSl, dSlF, dNoPart, dPart, dPar, dParS, dAsg, dgN, dgT, dgCons, dgNil, dFE, dIsi, dListF, dNeg, dRev, dFrz, dApp, dAppS, dIns, dExtend, dClear, dReverse, dPop, oIx, oI, oIC, add_ii, add_ss, add_ll, add_tt, oSubI, oMulU, oMulI, oFd, oMd, oPw, oLt, oLe, oGt, oGe, oEq, oNe, getF, setF, Cl.d, getS, setS, purF_nil, purF_cons, purH, allF_nil, allF_cons, allH, rho0, endsOf, scalD, len_l, len_t, len_s, bAbs, bInt, bIntU, tup_l, tup_t, true_and, and_true, Option.some.injEq, exists_eq_left', decide_eq_true_eq, Bool.not_eq_true', decide_eq_false_iff_not, it_eQ0, it_eQ1, it_eP0, it_eP1, it_eS0, it_eS1, fits_eQ, fits_eP, fits_eS, eqv_eQ, eqv_eP, eqv_eS, eqv_int, eqv_bool, shp_int, shp_bool, shp_none, shp_eQ, shp_eP, shp_eS, dCont, dBreak, dXi, dSetG, dAppG, oIsB, oNotB, dTx, pJoin, pSplit, pPart, pStarts, bStr, bIntS, dFmt, dJs, ↓reduceIte, nsp_none, nsp_bool, nsp_int, nsp_str, nsp_list, nsp_tuple, nsp_eQ, nsp_eP, nsp_eS, dat_pu, dat_ow, seqD_l, seqD_t, not_true_eq_false, Bool.true_eq_false, Bool.not_not, List.length_cons, List.length_nil, mkP, mkS, fits_list, fits_tuple, isIntD, isBoolD, isListD, isStrD, isTupD, Bool.not_true, Bool.not_false, Bool.false_eq_true, it_l0, it_l1, it_l2, it_t0, it_t1, it_t2, shp_ps, shp_pt, shp_ss, shp_is, seqD_eQ, seqD_eP, seqD_eS, walkD_eP, walkD_eS, walkD_l, walkD_t]
    exact ⟨c, 40, rfl, by decide, fun xs hl hx => hE _ ⟨xs, hl, hx, rfl⟩⟩
  rintro _ ⟨xs, hl, hx, rfl⟩
  have e1 : cutD (xs.map PyData.int) (some (1 : Int)) none = (xs.drop 1).map PyData.int := by
    rw [cutD_map]
    exact congrArg _ (cutD_from xs 1)
  have hk : 0 < xs.length := by omega
  obtain ⟨f0, f1⟩ := fmod_b (x := xs[0]) (m := 4) (by decide)
  obtain ⟨r, r0, r1, er⟩ := pick4 f0 f1
  have i0 : itemD (.list (xs.map PyData.int)) 0 = some (.int xs[0]) := it_at (k := 0) rfl (by rw [List.getElem?_map, List.getElem?_eq_getElem hk]; rfl)
  simp only [dState, dSlF, e1, i0, dRet, dRetF, dSetX, dCallX, dRetX, noOw, dTry, dCpy, dRaise, dRetO, dSetP, dSetS, dSetF, dSeq, dIf, dNext, dCall, dCallF, dB, dBin, dCons, dNil, dTup, dLst, dV, dC, dTV, onB, dTAnd, dTOr, dTNot, dAnd, dOr, dNot, dIfE, dIsN, dNotN, isN, dSl, dSlF, dNoPart, dPart, dPar, dParS, dAsg, dgN, dgT, dgCons, dgNil, dFE, dIsi, dListF, dNeg, dRev, dFrz, dApp, dAppS, dIns, dExtend, dClear, dReverse, dPop, oIx, oI, oIC, add_ii, add_ss, add_ll, add_tt, oSubI, oMulU, oMulI, oFd, oMd, oPw, oLt, oLe, oGt, oGe, oEq, oNe, getF, setF, Cl.d, getS, setS, purF_nil, purF_cons, purH, allF_nil, allF_cons, allH, rho0, endsOf, scalD, len_l, len_t, len_s, bAbs, bInt, bIntU, tup_l, tup_t, true_and, and_true, Option.some.injEq, exists_eq_left', decide_eq_true_eq, Bool.not_eq_true', decide_eq_false_iff_not, it_eQ0, it_eQ1, it_eP0, it_eP1, it_eS0, it_eS1, fits_eQ, fits_eP, fits_eS, eqv_eQ, eqv_eP, eqv_eS, eqv_int, eqv_bool, shp_int, shp_bool, shp_none, shp_eQ, shp_eP, shp_eS, dCont, dBreak, dXi, dSetG, dAppG, oIsB, oNotB, dTx, pJoin, pSplit, pPart, pStarts, bStr, bIntS, dFmt, dJs, ↓reduceIte, nsp_none, nsp_bool, nsp_int, nsp_str, nsp_list, nsp_tuple, nsp_eQ, nsp_eP, nsp_eS, dat_pu, dat_ow, seqD_l, seqD_t, not_true_eq_false, Bool.true_eq_false, Bool.not_not, List.length_cons, List.length_nil, mkP, mkS, fits_list, fits_tuple, isIntD, isBoolD, isListD, isStrD, isTupD, Bool.not_true, Bool.not_false, Bool.false_eq_true, it_l0, it_l1, it_l2, it_t0, it_t1, it_t2, shp_ps, shp_pt, shp_ss, shp_is, seqD_eQ, seqD_eP, seqD_eS, walkD_eP, walkD_eS, walkD_l, walkD_t]
  refine ⟨⟨(xs.drop 1).map Int.toNat, drop_nat fun x hx2 => hx x (List.mem_of_mem_drop hx2), by rw [List.length_map, List.length_drop]; omega, by rw [List.length_map, List.length_drop]; omega⟩, ?_⟩
  exact ⟨by decide, _, er, h r r0 r1⟩
/-! ### lists of lands -/
def eLL (ls : List (Str × Str)) : Dt := .list (ls.map eLS)
def LOk6 (lss : List (List (Str × Str))) : Prop := lss.length ≤ 1000 ∧ ∀ ls ∈ lss, LsOk ls
def sp__law_lists : DSp := fun ds Φ _ => ∃ (ns : List Int) (ws ss : List Str), ds = [.list (ns.map .int), .list (ws.map .str), .list (ss.map .str)] ∧ ns.length ≤ 63 ∧ ws.length = 6 ∧ ss.length = 3 ∧ (∀ z ∈ ws, isNm z = true) ∧ (∀ z ∈ ss, isNm z = true) ∧ ∀ lss, LOk6 lss → Φ (.ow (lss.map eLL))
theorem pickW {ns : List Str} {m : Int} (hm : 0 < m) (hl : (ns.length : Int) = m) (x : Int) : ∃ z ∈ ns, itemD (.list (ns.map .str)) (x.fmod m) = some (.str z) := by
  obtain ⟨f0, f1⟩ := fmod_b (x := x) (m := m) hm
  have hk : (x.fmod m).toNat < ns.length := by omega
  exact ⟨ns[(x.fmod m).toNat], List.getElem_mem hk, it_at (k := (x.fmod m).toNat) (by omega) (by rw [List.getElem?_map, List.getElem?_eq_getElem hk]; rfl)⟩
/-! ### asked -/
def sp__law_asked : DSp := fun ds Φ _ => ∃ (t : Sy) (lss : List (List (Str × Str))), ds = [eS t, eT t, .list (lss.map eLL)] ∧ Ok t ∧ (wds t).length ≤ 40 ∧ LOk6 lss ∧ Φ (.pu (.bool true))
/-! ### the law -/
def tbI_Saying : List (Str × Bool) := CS.map fun c => (c, true)
def sp_law : DSp := dspLaw 63
abbrev N_law : List Str := ["_law_script", "_law_words_here", "_law_sheets", "_law_state_here", "_law_told", "_law_text", "_law_saying_here", "_law_lists_here", "_law_again"]
def d_law : DS := (dSeq (dSetP 1 (dCall sp__law_words (dCons (dCall sp__law_cell (dCons (dV 0) (dCons (dC (.int 0)) dNil))) (dCons (dC (.int 6)) dNil))))
  (dSeq (dSetP 2 (dCall sp__law_words (dCons (dCall sp__law_cell (dCons (dV 0) (dCons (dC (.int 2)) dNil))) (dCons (dC (.int 3)) dNil))))
  (dSeq (dSetP 3 (dCall sp__law_state (dCons (dCall sp__law_cell (dCons (dV 0) (dCons (dC (.int 1)) dNil))) (dCons (dV 1) (dCons (dV 2) dNil)))))
  (dSeq (dSetP 4 (dCall sp__law_saying (dCons (dV 3) (dCons (dKey "room" (dV 3)) dNil))))
  (dSeq (dSetP 5 (dCall sp__law_said (dCons (dV 4) dNil)))
  (dSeq (dSetP 6 (dCall sp_read_saying (dCons (dV 5) dNil)))
  (dSeq (dIf (dTOr (dTNot (dTV (dIsI (rVar 6) tbI_Saying))) (dTV (dBin oNe (dMeth (rVar 6) CS "shown" sp_shown dNil) (dV 5)))) (dRet (dC (.bool false))) dNext)
  (dSeq (dSetP 7 (dCall sp__law_lists (dCons (dV 0) (dCons (dV 1) (dCons (dV 2) dNil)))))
  (dSeq (dIf (dTNot (dTV (dCall sp__law_asked (dCons (dV 6) (dCons (dV 4) (dCons (dV 7) dNil)))))) (dRet (dC (.bool false))) dNext)
  (dSeq (dSetP 8 (dCall sp_read_saying (dCons (dMeth (rVar 6) CS "shown" sp_shown dNil) dNil)))
  (dRet (dAnd (dBin oEq (dMeth (rVar 8) CS "shown" sp_shown dNil) (dV 5)) (dAnd (dCall sp__law_asked (dCons (dV 8) (dCons (dV 4) (dCons (dRev (dV 7)) dNil)))) (dBin oEq (dMeth (rVar 6) CS "shown" sp_shown dNil) (dV 5)))))))))))))))
theorem lookS {c : Str} (h : c ∈ CS) : tbI_Saying.lookup c = some true := by
  simp only [CS, List.mem_cons, List.not_mem_nil, or_false] at h
  rcases h with rfl | rfl | rfl | rfl | rfl | rfl | rfl <;> decide +kernel
theorem tj_mem (c : Nat) : ∀ {ws : List Str}, c ∈ tj ws → c = 32 ∨ ∃ w ∈ ws, c ∈ cw w
  | [], h => by cases h
  | [w], h => .inr ⟨w, List.mem_cons_self, h⟩
  | w :: x :: r, h => by
    rw [tj_cons w (by simp)] at h
    rcases List.mem_append.mp h with h | h
    · exact .inr ⟨w, List.mem_cons_self, h⟩
    · rcases List.mem_cons.mp h with h | h
      · exact .inl h
      · rcases tj_mem c h with h | ⟨y, hy, h⟩
        · exact .inl h
        · exact .inr ⟨y, List.mem_cons_of_mem _ hy, h⟩
theorem tx_ok {t : Sy} (h : Ok t) (hl : (wds t).length ≤ 40) : okD (.str (tx t)) := by
  have := tx_len t h
  simp only [okD]
  refine ⟨by omega, ?_⟩
  have e : tx t = S (tj (wds t)) := (SX.S_tl (tx t)).symm.trans (congrArg S (cw_tx t))
  rw [e]
  refine OkW.str ⟨?_, fun c hc => ?_⟩
  · rw [← SX.S_len, ← e]; omega
  · rcases tj_mem c hc with rfl | ⟨w, hw, hc⟩
    · decide
    · obtain ⟨_, w2, w3⟩ := wd_ok t h w hw
      obtain ⟨v, rfl, hv⟩ := OkW.of (z := w) (by simp only [okD]; exact ⟨by omega, w2⟩)
      exact hv.2 c hc
theorem rd_law (ds : List Dt) (Φ : Slot → Prop) (Ξ : XD → Prop) (h : sp_law ds Φ Ξ) : d_law (endsOf Φ Ξ) (rho0 N_law ds) := by
  obtain ⟨ns, hns, rfl, h⟩ := h
  have hz : (100000 : Nat) < sizeLine := by decide
  show dSeq _ _ _ [.pu (.list (ns.map .int)), .un, .un, .un, .un, .un, .un, .un, .un]
  refine seq_cut (fun ρ => ∃ ws : List Str, ws.length = 6 ∧ (∀ z ∈ ws, isNm z = true) ∧ ρ = [.pu (.list (ns.map .int)), .pu (.list (ws.map .str)), .un, .un, .un, .un, .un, .un, .un]) (fun E _ hE => ?_) ?_
  · simp only [dRet, dRetF, dSetX, dCallX, dRetX, noOw, dTry, dCpy, dRaise, dRetO, dSetP, dSetS, dSetF, dSeq, dIf, dNext, dCall, dCallF, dB, dBin, dCons, dNil, dTup, dLst, dV, dC, dTV, onB, dTAnd, dTOr, dTNot, dAnd, dOr, dNot, dIfE, dIsN, dNotN, isN, dSl, dSlF, dNoPart, dPart, dPar, dParS, dAsg, dgN, dgT, dgCons, dgNil, dFE, dIsi, dListF, dNeg, dRev, dFrz, dApp, dAppS, dIns, dExtend, dClear, dReverse, dPop, oIx, oI, oIC, add_ii, add_ss, add_ll, add_tt, oSubI, oMulU, oMulI, oFd, oMd, oPw, oLt, oLe, oGt, oGe, oEq, oNe, getF, setF, Cl.d, getS, setS, purF_nil, purF_cons, purH, allF_nil, allF_cons, allH, rho0, endsOf, scalD, len_l, len_t, len_s, bAbs, bInt, bIntU, tup_l, tup_t, true_and, and_true, Option.some.injEq, exists_eq_left', decide_eq_true_eq, Bool.not_eq_true', decide_eq_false_iff_not, it_eQ0, it_eQ1, it_eP0, it_eP1, it_eS0, it_eS1, fits_eQ, fits_eP, fits_eS, eqv_eQ, eqv_eP, eqv_eS, eqv_int, eqv_bool, shp_int, shp_bool, shp_none, shp_eQ, shp_eP, shp_eS, dCont, dBreak, dXi, dSetG, dAppG, oIsB, oNotB, dTx, pJoin, pSplit, pPart, pStarts, bStr, bIntS, dFmt, dJs, ↓reduceIte, nsp_none, nsp_bool, nsp_int, nsp_str, nsp_list, nsp_tuple, nsp_eQ, nsp_eP, nsp_eS, dat_pu, dat_ow, seqD_l, seqD_t, not_true_eq_false, Bool.true_eq_false, Bool.not_not, List.length_cons, List.length_nil, mkP, mkS, fits_list, fits_tuple, isIntD, isBoolD, isListD, isStrD, isTupD, Bool.not_true, Bool.not_false, Bool.false_eq_true, it_l0, it_l1, it_l2, it_t0, it_t1, it_t2, shp_ps, shp_pt, shp_ss, shp_is, seqD_eQ, seqD_eP, seqD_eS, walkD_eP, walkD_eS, walkD_l, walkD_t]
    refine ⟨ns, 0, rfl, hns, by decide, by decide, fun c => ?_⟩
    simp only [dRet, dRetF, dSetX, dCallX, dRetX, noOw, dTry, dCpy, dRaise, dRetO, dSetP, dSetS, dSetF, dSeq, dIf, dNext, dCall, dCallF, dB, dBin, dCons, dNil, dTup, dLst, dV, dC, dTV, onB, dTAnd, dTOr, dTNot, dAnd, dOr, dNot, dIfE, dIsN, dNotN, isN, dSl, dSlF, dNoPart, dPart, dPar, dParS, dAsg, dgN, dgT, dgCons, dgNil, dFE, dIsi, dListF, dNeg, dRev, dFrz, dApp, dAppS, dIns, dExtend, dClear, dReverse, dPop, oIx, oI, oIC, add_ii, add_ss, add_ll, add_tt, oSubI, oMulU, oMulI, oFd, oMd, oPw, oLt, oLe, oGt, oGe, oEq, oNe, getF, setF, Cl.d, getS, setS, purF_nil, purF_cons, purH, allF_nil, allF_cons, allH, rho0, endsOf, scalD, len_l, len_t, len_s, bAbs, bInt, bIntU, tup_l, tup_t, true_and, and_true, Option.some.injEq, exists_eq_left', decide_eq_true_eq, Bool.not_eq_true', decide_eq_false_iff_not, it_eQ0, it_eQ1, it_eP0, it_eP1, it_eS0, it_eS1, fits_eQ, fits_eP, fits_eS, eqv_eQ, eqv_eP, eqv_eS, eqv_int, eqv_bool, shp_int, shp_bool, shp_none, shp_eQ, shp_eP, shp_eS, dCont, dBreak, dXi, dSetG, dAppG, oIsB, oNotB, dTx, pJoin, pSplit, pPart, pStarts, bStr, bIntS, dFmt, dJs, ↓reduceIte, nsp_none, nsp_bool, nsp_int, nsp_str, nsp_list, nsp_tuple, nsp_eQ, nsp_eP, nsp_eS, dat_pu, dat_ow, seqD_l, seqD_t, not_true_eq_false, Bool.true_eq_false, Bool.not_not, List.length_cons, List.length_nil, mkP, mkS, fits_list, fits_tuple, isIntD, isBoolD, isListD, isStrD, isTupD, Bool.not_true, Bool.not_false, Bool.false_eq_true, it_l0, it_l1, it_l2, it_t0, it_t1, it_t2, shp_ps, shp_pt, shp_ss, shp_is, seqD_eQ, seqD_eP, seqD_eS, walkD_eP, walkD_eS, walkD_l, walkD_t]
    exact ⟨c, 6, rfl, by decide, fun ws hl _ hw => hE _ ⟨ws, hl, fun z hz => (hw z hz).1, rfl⟩⟩
  rintro _ ⟨ws, wl, wn, rfl⟩
  refine seq_cut (fun ρ => ∃ ss : List Str, ss.length = 3 ∧ (∀ z ∈ ss, isNm z = true) ∧ ρ = [.pu (.list (ns.map .int)), .pu (.list (ws.map .str)), .pu (.list (ss.map .str)), .un, .un, .un, .un, .un, .un]) (fun E _ hE => ?_) ?_
  · simp only [dRet, dRetF, dSetX, dCallX, dRetX, noOw, dTry, dCpy, dRaise, dRetO, dSetP, dSetS, dSetF, dSeq, dIf, dNext, dCall, dCallF, dB, dBin, dCons, dNil, dTup, dLst, dV, dC, dTV, onB, dTAnd, dTOr, dTNot, dAnd, dOr, dNot, dIfE, dIsN, dNotN, isN, dSl, dSlF, dNoPart, dPart, dPar, dParS, dAsg, dgN, dgT, dgCons, dgNil, dFE, dIsi, dListF, dNeg, dRev, dFrz, dApp, dAppS, dIns, dExtend, dClear, dReverse, dPop, oIx, oI, oIC, add_ii, add_ss, add_ll, add_tt, oSubI, oMulU, oMulI, oFd, oMd, oPw, oLt, oLe, oGt, oGe, oEq, oNe, getF, setF, Cl.d, getS, setS, purF_nil, purF_cons, purH, allF_nil, allF_cons, allH, rho0, endsOf, scalD, len_l, len_t, len_s, bAbs, bInt, bIntU, tup_l, tup_t, true_and, and_true, Option.some.injEq, exists_eq_left', decide_eq_true_eq, Bool.not_eq_true', decide_eq_false_iff_not, it_eQ0, it_eQ1, it_eP0, it_eP1, it_eS0, it_eS1, fits_eQ, fits_eP, fits_eS, eqv_eQ, eqv_eP, eqv_eS, eqv_int, eqv_bool, shp_int, shp_bool, shp_none, shp_eQ, shp_eP, shp_eS, dCont, dBreak, dXi, dSetG, dAppG, oIsB, oNotB, dTx, pJoin, pSplit, pPart, pStarts, bStr, bIntS, dFmt, dJs, ↓reduceIte, nsp_none, nsp_bool, nsp_int, nsp_str, nsp_list, nsp_tuple, nsp_eQ, nsp_eP, nsp_eS, dat_pu, dat_ow, seqD_l, seqD_t, not_true_eq_false, Bool.true_eq_false, Bool.not_not, List.length_cons, List.length_nil, mkP, mkS, fits_list, fits_tuple, isIntD, isBoolD, isListD, isStrD, isTupD, Bool.not_true, Bool.not_false, Bool.false_eq_true, it_l0, it_l1, it_l2, it_t0, it_t1, it_t2, shp_ps, shp_pt, shp_ss, shp_is, seqD_eQ, seqD_eP, seqD_eS, walkD_eP, walkD_eS, walkD_l, walkD_t]
    refine ⟨ns, 2, rfl, hns, by decide, by decide, fun c => ?_⟩
    simp only [dRet, dRetF, dSetX, dCallX, dRetX, noOw, dTry, dCpy, dRaise, dRetO, dSetP, dSetS, dSetF, dSeq, dIf, dNext, dCall, dCallF, dB, dBin, dCons, dNil, dTup, dLst, dV, dC, dTV, onB, dTAnd, dTOr, dTNot, dAnd, dOr, dNot, dIfE, dIsN, dNotN, isN, dSl, dSlF, dNoPart, dPart, dPar, dParS, dAsg, dgN, dgT, dgCons, dgNil, dFE, dIsi, dListF, dNeg, dRev, dFrz, dApp, dAppS, dIns, dExtend, dClear, dReverse, dPop, oIx, oI, oIC, add_ii, add_ss, add_ll, add_tt, oSubI, oMulU, oMulI, oFd, oMd, oPw, oLt, oLe, oGt, oGe, oEq, oNe, getF, setF, Cl.d, getS, setS, purF_nil, purF_cons, purH, allF_nil, allF_cons, allH, rho0, endsOf, scalD, len_l, len_t, len_s, bAbs, bInt, bIntU, tup_l, tup_t, true_and, and_true, Option.some.injEq, exists_eq_left', decide_eq_true_eq, Bool.not_eq_true', decide_eq_false_iff_not, it_eQ0, it_eQ1, it_eP0, it_eP1, it_eS0, it_eS1, fits_eQ, fits_eP, fits_eS, eqv_eQ, eqv_eP, eqv_eS, eqv_int, eqv_bool, shp_int, shp_bool, shp_none, shp_eQ, shp_eP, shp_eS, dCont, dBreak, dXi, dSetG, dAppG, oIsB, oNotB, dTx, pJoin, pSplit, pPart, pStarts, bStr, bIntS, dFmt, dJs, ↓reduceIte, nsp_none, nsp_bool, nsp_int, nsp_str, nsp_list, nsp_tuple, nsp_eQ, nsp_eP, nsp_eS, dat_pu, dat_ow, seqD_l, seqD_t, not_true_eq_false, Bool.true_eq_false, Bool.not_not, List.length_cons, List.length_nil, mkP, mkS, fits_list, fits_tuple, isIntD, isBoolD, isListD, isStrD, isTupD, Bool.not_true, Bool.not_false, Bool.false_eq_true, it_l0, it_l1, it_l2, it_t0, it_t1, it_t2, shp_ps, shp_pt, shp_ss, shp_is, seqD_eQ, seqD_eP, seqD_eS, walkD_eP, walkD_eS, walkD_l, walkD_t]
    exact ⟨c, 3, rfl, by decide, fun ws hl _ hw => hE _ ⟨ws, hl, fun z hz => (hw z hz).1, rfl⟩⟩
  rintro _ ⟨ss, sl, sn, rfl⟩
  refine seq_cut (fun ρ => ∃ rm : Nat, 1 ≤ rm ∧ rm ≤ 40 ∧ ρ = [.pu (.list (ns.map .int)), .pu (.list (ws.map .str)), .pu (.list (ss.map .str)), .pu (stD ws ss rm), .un, .un, .un, .un, .un]) (fun E _ hE => ?_) ?_
  · simp only [dRet, dRetF, dSetX, dCallX, dRetX, noOw, dTry, dCpy, dRaise, dRetO, dSetP, dSetS, dSetF, dSeq, dIf, dNext, dCall, dCallF, dB, dBin, dCons, dNil, dTup, dLst, dV, dC, dTV, onB, dTAnd, dTOr, dTNot, dAnd, dOr, dNot, dIfE, dIsN, dNotN, isN, dSl, dSlF, dNoPart, dPart, dPar, dParS, dAsg, dgN, dgT, dgCons, dgNil, dFE, dIsi, dListF, dNeg, dRev, dFrz, dApp, dAppS, dIns, dExtend, dClear, dReverse, dPop, oIx, oI, oIC, add_ii, add_ss, add_ll, add_tt, oSubI, oMulU, oMulI, oFd, oMd, oPw, oLt, oLe, oGt, oGe, oEq, oNe, getF, setF, Cl.d, getS, setS, purF_nil, purF_cons, purH, allF_nil, allF_cons, allH, rho0, endsOf, scalD, len_l, len_t, len_s, bAbs, bInt, bIntU, tup_l, tup_t, true_and, and_true, Option.some.injEq, exists_eq_left', decide_eq_true_eq, Bool.not_eq_true', decide_eq_false_iff_not, it_eQ0, it_eQ1, it_eP0, it_eP1, it_eS0, it_eS1, fits_eQ, fits_eP, fits_eS, eqv_eQ, eqv_eP, eqv_eS, eqv_int, eqv_bool, shp_int, shp_bool, shp_none, shp_eQ, shp_eP, shp_eS, dCont, dBreak, dXi, dSetG, dAppG, oIsB, oNotB, dTx, pJoin, pSplit, pPart, pStarts, bStr, bIntS, dFmt, dJs, ↓reduceIte, nsp_none, nsp_bool, nsp_int, nsp_str, nsp_list, nsp_tuple, nsp_eQ, nsp_eP, nsp_eS, dat_pu, dat_ow, seqD_l, seqD_t, not_true_eq_false, Bool.true_eq_false, Bool.not_not, List.length_cons, List.length_nil, mkP, mkS, fits_list, fits_tuple, isIntD, isBoolD, isListD, isStrD, isTupD, Bool.not_true, Bool.not_false, Bool.false_eq_true, it_l0, it_l1, it_l2, it_t0, it_t1, it_t2, shp_ps, shp_pt, shp_ss, shp_is, seqD_eQ, seqD_eP, seqD_eS, walkD_eP, walkD_eS, walkD_l, walkD_t]
    refine ⟨ns, 1, rfl, hns, by decide, by decide, fun c => ?_⟩
    simp only [dRet, dRetF, dSetX, dCallX, dRetX, noOw, dTry, dCpy, dRaise, dRetO, dSetP, dSetS, dSetF, dSeq, dIf, dNext, dCall, dCallF, dB, dBin, dCons, dNil, dTup, dLst, dV, dC, dTV, onB, dTAnd, dTOr, dTNot, dAnd, dOr, dNot, dIfE, dIsN, dNotN, isN, dSl, dSlF, dNoPart, dPart, dPar, dParS, dAsg, dgN, dgT, dgCons, dgNil, dFE, dIsi, dListF, dNeg, dRev, dFrz, dApp, dAppS, dIns, dExtend, dClear, dReverse, dPop, oIx, oI, oIC, add_ii, add_ss, add_ll, add_tt, oSubI, oMulU, oMulI, oFd, oMd, oPw, oLt, oLe, oGt, oGe, oEq, oNe, getF, setF, Cl.d, getS, setS, purF_nil, purF_cons, purH, allF_nil, allF_cons, allH, rho0, endsOf, scalD, len_l, len_t, len_s, bAbs, bInt, bIntU, tup_l, tup_t, true_and, and_true, Option.some.injEq, exists_eq_left', decide_eq_true_eq, Bool.not_eq_true', decide_eq_false_iff_not, it_eQ0, it_eQ1, it_eP0, it_eP1, it_eS0, it_eS1, fits_eQ, fits_eP, fits_eS, eqv_eQ, eqv_eP, eqv_eS, eqv_int, eqv_bool, shp_int, shp_bool, shp_none, shp_eQ, shp_eP, shp_eS, dCont, dBreak, dXi, dSetG, dAppG, oIsB, oNotB, dTx, pJoin, pSplit, pPart, pStarts, bStr, bIntS, dFmt, dJs, ↓reduceIte, nsp_none, nsp_bool, nsp_int, nsp_str, nsp_list, nsp_tuple, nsp_eQ, nsp_eP, nsp_eS, dat_pu, dat_ow, seqD_l, seqD_t, not_true_eq_false, Bool.true_eq_false, Bool.not_not, List.length_cons, List.length_nil, mkP, mkS, fits_list, fits_tuple, isIntD, isBoolD, isListD, isStrD, isTupD, Bool.not_true, Bool.not_false, Bool.false_eq_true, it_l0, it_l1, it_l2, it_t0, it_t1, it_t2, shp_ps, shp_pt, shp_ss, shp_is, seqD_eQ, seqD_eP, seqD_eS, walkD_eP, walkD_eS, walkD_l, walkD_t]
    exact ⟨c, ws, ss, rfl, fun rm r1 r2 => hE _ ⟨rm, r1, r2, rfl⟩⟩
  rintro _ ⟨rm, r1, r2, rfl⟩
  refine seq_cut (fun ρ => ∃ t, Ok t ∧ (wds t).length ≤ 40 ∧ ρ = [.pu (.list (ns.map .int)), .pu (.list (ws.map .str)), .pu (.list (ss.map .str)), .pu (stD ws ss rm), .pu (eT t), .un, .un, .un, .un]) (fun E _ hE => ?_) ?_
  · simp only [dKey, dRet, dRetF, dSetX, dCallX, dRetX, noOw, dTry, dCpy, dRaise, dRetO, dSetP, dSetS, dSetF, dSeq, dIf, dNext, dCall, dCallF, dB, dBin, dCons, dNil, dTup, dLst, dV, dC, dTV, onB, dTAnd, dTOr, dTNot, dAnd, dOr, dNot, dIfE, dIsN, dNotN, isN, dSl, dSlF, dNoPart, dPart, dPar, dParS, dAsg, dgN, dgT, dgCons, dgNil, dFE, dIsi, dListF, dNeg, dRev, dFrz, dApp, dAppS, dIns, dExtend, dClear, dReverse, dPop, oIx, oI, oIC, add_ii, add_ss, add_ll, add_tt, oSubI, oMulU, oMulI, oFd, oMd, oPw, oLt, oLe, oGt, oGe, oEq, oNe, getF, setF, Cl.d, getS, setS, purF_nil, purF_cons, purH, allF_nil, allF_cons, allH, rho0, endsOf, scalD, len_l, len_t, len_s, bAbs, bInt, bIntU, tup_l, tup_t, true_and, and_true, Option.some.injEq, exists_eq_left', decide_eq_true_eq, Bool.not_eq_true', decide_eq_false_iff_not, it_eQ0, it_eQ1, it_eP0, it_eP1, it_eS0, it_eS1, fits_eQ, fits_eP, fits_eS, eqv_eQ, eqv_eP, eqv_eS, eqv_int, eqv_bool, shp_int, shp_bool, shp_none, shp_eQ, shp_eP, shp_eS, dCont, dBreak, dXi, dSetG, dAppG, oIsB, oNotB, dTx, pJoin, pSplit, pPart, pStarts, bStr, bIntS, dFmt, dJs, ↓reduceIte, nsp_none, nsp_bool, nsp_int, nsp_str, nsp_list, nsp_tuple, nsp_eQ, nsp_eP, nsp_eS, dat_pu, dat_ow, seqD_l, seqD_t, not_true_eq_false, Bool.true_eq_false, Bool.not_not, List.length_cons, List.length_nil, mkP, mkS, fits_list, fits_tuple, isIntD, isBoolD, isListD, isStrD, isTupD, Bool.not_true, Bool.not_false, Bool.false_eq_true, it_l0, it_l1, it_l2, it_t0, it_t1, it_t2, shp_ps, shp_pt, shp_ss, shp_is, seqD_eQ, seqD_eP, seqD_eS, walkD_eP, walkD_eS, walkD_l, walkD_t]
    exact ⟨_, keyed_st _ _ _, key_room _ _ _, ws, ss, rm, rm, rfl, ⟨by omega, by omega, wn⟩, ⟨by omega, by omega, sn⟩, r1, by omega, r2, fun t ht hl => hE _ ⟨t, ht, by omega, rfl⟩⟩
  rintro _ ⟨t, ok, tl, rfl⟩
  have hd := dep_wds t
  have rS := readS_tx ok tl
  have tok := tx_ok ok tl
  have stx := ok_shp tok
  obtain ⟨c, hm, hu⟩ := cls_S t
  have shown : ∀ {i : Nat} {φ : Fro} {Ψ : Dt → Prop}, getF φ i = some (eS t) → Ψ (.str (tx t)) → dMeth (rVar i) CS "shown" sp_shown dNil φ Ψ := fun {i φ Ψ} g k => ⟨eS t, c, g, hu, hm, no_shown t, t, rfl, ok, by omega, by omega, k⟩
  refine seq_cut (fun ρ => ρ = [.pu (.list (ns.map .int)), .pu (.list (ws.map .str)), .pu (.list (ss.map .str)), .pu (stD ws ss rm), .pu (eT t), .pu (.str (tx t)), .un, .un, .un]) (fun E _ hE => ?_) ?_
  · simp only [dRet, dRetF, dSetX, dCallX, dRetX, noOw, dTry, dCpy, dRaise, dRetO, dSetP, dSetS, dSetF, dSeq, dIf, dNext, dCall, dCallF, dB, dBin, dCons, dNil, dTup, dLst, dV, dC, dTV, onB, dTAnd, dTOr, dTNot, dAnd, dOr, dNot, dIfE, dIsN, dNotN, isN, dSl, dSlF, dNoPart, dPart, dPar, dParS, dAsg, dgN, dgT, dgCons, dgNil, dFE, dIsi, dListF, dNeg, dRev, dFrz, dApp, dAppS, dIns, dExtend, dClear, dReverse, dPop, oIx, oI, oIC, add_ii, add_ss, add_ll, add_tt, oSubI, oMulU, oMulI, oFd, oMd, oPw, oLt, oLe, oGt, oGe, oEq, oNe, getF, setF, Cl.d, getS, setS, purF_nil, purF_cons, purH, allF_nil, allF_cons, allH, rho0, endsOf, scalD, len_l, len_t, len_s, bAbs, bInt, bIntU, tup_l, tup_t, true_and, and_true, Option.some.injEq, exists_eq_left', decide_eq_true_eq, Bool.not_eq_true', decide_eq_false_iff_not, it_eQ0, it_eQ1, it_eP0, it_eP1, it_eS0, it_eS1, fits_eQ, fits_eP, fits_eS, eqv_eQ, eqv_eP, eqv_eS, eqv_int, eqv_bool, shp_int, shp_bool, shp_none, shp_eQ, shp_eP, shp_eS, dCont, dBreak, dXi, dSetG, dAppG, oIsB, oNotB, dTx, pJoin, pSplit, pPart, pStarts, bStr, bIntS, dFmt, dJs, ↓reduceIte, nsp_none, nsp_bool, nsp_int, nsp_str, nsp_list, nsp_tuple, nsp_eQ, nsp_eP, nsp_eS, dat_pu, dat_ow, seqD_l, seqD_t, not_true_eq_false, Bool.true_eq_false, Bool.not_not, List.length_cons, List.length_nil, mkP, mkS, fits_list, fits_tuple, isIntD, isBoolD, isListD, isStrD, isTupD, Bool.not_true, Bool.not_false, Bool.false_eq_true, it_l0, it_l1, it_l2, it_t0, it_t1, it_t2, shp_ps, shp_pt, shp_ss, shp_is, seqD_eQ, seqD_eP, seqD_eS, walkD_eP, walkD_eS, walkD_l, walkD_t]
    exact ⟨t, rfl, ok, by omega, by omega, hE _ rfl⟩
  rintro _ rfl
  refine seq_cut (fun ρ => ρ = [.pu (.list (ns.map .int)), .pu (.list (ws.map .str)), .pu (.list (ss.map .str)), .pu (stD ws ss rm), .pu (eT t), .pu (.str (tx t)), .pu (eS t), .un, .un]) (fun E _ hE => ?_) ?_
  · simp only [dRet, dRetF, dSetX, dCallX, dRetX, noOw, dTry, dCpy, dRaise, dRetO, dSetP, dSetS, dSetF, dSeq, dIf, dNext, dCall, dCallF, dB, dBin, dCons, dNil, dTup, dLst, dV, dC, dTV, onB, dTAnd, dTOr, dTNot, dAnd, dOr, dNot, dIfE, dIsN, dNotN, isN, dSl, dSlF, dNoPart, dPart, dPar, dParS, dAsg, dgN, dgT, dgCons, dgNil, dFE, dIsi, dListF, dNeg, dRev, dFrz, dApp, dAppS, dIns, dExtend, dClear, dReverse, dPop, oIx, oI, oIC, add_ii, add_ss, add_ll, add_tt, oSubI, oMulU, oMulI, oFd, oMd, oPw, oLt, oLe, oGt, oGe, oEq, oNe, getF, setF, Cl.d, getS, setS, purF_nil, purF_cons, purH, allF_nil, allF_cons, allH, rho0, endsOf, scalD, len_l, len_t, len_s, bAbs, bInt, bIntU, tup_l, tup_t, true_and, and_true, Option.some.injEq, exists_eq_left', decide_eq_true_eq, Bool.not_eq_true', decide_eq_false_iff_not, it_eQ0, it_eQ1, it_eP0, it_eP1, it_eS0, it_eS1, fits_eQ, fits_eP, fits_eS, eqv_eQ, eqv_eP, eqv_eS, eqv_int, eqv_bool, shp_int, shp_bool, shp_none, shp_eQ, shp_eP, shp_eS, dCont, dBreak, dXi, dSetG, dAppG, oIsB, oNotB, dTx, pJoin, pSplit, pPart, pStarts, bStr, bIntS, dFmt, dJs, ↓reduceIte, nsp_none, nsp_bool, nsp_int, nsp_str, nsp_list, nsp_tuple, nsp_eQ, nsp_eP, nsp_eS, dat_pu, dat_ow, seqD_l, seqD_t, not_true_eq_false, Bool.true_eq_false, Bool.not_not, List.length_cons, List.length_nil, mkP, mkS, fits_list, fits_tuple, isIntD, isBoolD, isListD, isStrD, isTupD, Bool.not_true, Bool.not_false, Bool.false_eq_true, it_l0, it_l1, it_l2, it_t0, it_t1, it_t2, shp_ps, shp_pt, shp_ss, shp_is, seqD_eQ, seqD_eP, seqD_eS, walkD_eP, walkD_eS, walkD_l, walkD_t]
    refine ⟨_, rfl, tok, fun t' ht' => ?_, fun hn => by rw [rS] at hn; cases hn⟩
    rw [rS] at ht'
    cases ht'
    exact hE _ rfl
  rintro _ rfl
  refine seq_cut (fun ρ => ρ = [.pu (.list (ns.map .int)), .pu (.list (ws.map .str)), .pu (.list (ss.map .str)), .pu (stD ws ss rm), .pu (eT t), .pu (.str (tx t)), .pu (eS t), .un, .un]) (fun E _ hE => ?_) ?_
  · simp only [dRet, dRetF, dSetX, dCallX, dRetX, noOw, dTry, dCpy, dRaise, dRetO, dSetP, dSetS, dSetF, dSeq, dIf, dNext, dCall, dCallF, dB, dBin, dCons, dNil, dTup, dLst, dV, dC, dTV, onB, dTAnd, dTOr, dTNot, dAnd, dOr, dNot, dIfE, dIsN, dNotN, isN, dSl, dSlF, dNoPart, dPart, dPar, dParS, dAsg, dgN, dgT, dgCons, dgNil, dFE, dIsi, dListF, dNeg, dRev, dFrz, dApp, dAppS, dIns, dExtend, dClear, dReverse, dPop, oIx, oI, oIC, add_ii, add_ss, add_ll, add_tt, oSubI, oMulU, oMulI, oFd, oMd, oPw, oLt, oLe, oGt, oGe, oEq, oNe, getF, setF, Cl.d, getS, setS, purF_nil, purF_cons, purH, allF_nil, allF_cons, allH, rho0, endsOf, scalD, len_l, len_t, len_s, bAbs, bInt, bIntU, tup_l, tup_t, true_and, and_true, Option.some.injEq, exists_eq_left', decide_eq_true_eq, Bool.not_eq_true', decide_eq_false_iff_not, it_eQ0, it_eQ1, it_eP0, it_eP1, it_eS0, it_eS1, fits_eQ, fits_eP, fits_eS, eqv_eQ, eqv_eP, eqv_eS, eqv_int, eqv_bool, shp_int, shp_bool, shp_none, shp_eQ, shp_eP, shp_eS, dCont, dBreak, dXi, dSetG, dAppG, oIsB, oNotB, dTx, pJoin, pSplit, pPart, pStarts, bStr, bIntS, dFmt, dJs, ↓reduceIte, nsp_none, nsp_bool, nsp_int, nsp_str, nsp_list, nsp_tuple, nsp_eQ, nsp_eP, nsp_eS, dat_pu, dat_ow, seqD_l, seqD_t, not_true_eq_false, Bool.true_eq_false, Bool.not_not, List.length_cons, List.length_nil, mkP, mkS, fits_list, fits_tuple, isIntD, isBoolD, isListD, isStrD, isTupD, Bool.not_true, Bool.not_false, Bool.false_eq_true, it_l0, it_l1, it_l2, it_t0, it_t1, it_t2, shp_ps, shp_pt, shp_ss, shp_is, seqD_eQ, seqD_eP, seqD_eS, walkD_eP, walkD_eS, walkD_l, walkD_t]
    refine ⟨eS t, c, true, rfl, hu, lookS hm, ?_⟩
    simp only [dRet, dRetF, dSetX, dCallX, dRetX, noOw, dTry, dCpy, dRaise, dRetO, dSetP, dSetS, dSetF, dSeq, dIf, dNext, dCall, dCallF, dB, dBin, dCons, dNil, dTup, dLst, dV, dC, dTV, onB, dTAnd, dTOr, dTNot, dAnd, dOr, dNot, dIfE, dIsN, dNotN, isN, dSl, dSlF, dNoPart, dPart, dPar, dParS, dAsg, dgN, dgT, dgCons, dgNil, dFE, dIsi, dListF, dNeg, dRev, dFrz, dApp, dAppS, dIns, dExtend, dClear, dReverse, dPop, oIx, oI, oIC, add_ii, add_ss, add_ll, add_tt, oSubI, oMulU, oMulI, oFd, oMd, oPw, oLt, oLe, oGt, oGe, oEq, oNe, getF, setF, Cl.d, getS, setS, purF_nil, purF_cons, purH, allF_nil, allF_cons, allH, rho0, endsOf, scalD, len_l, len_t, len_s, bAbs, bInt, bIntU, tup_l, tup_t, true_and, and_true, Option.some.injEq, exists_eq_left', decide_eq_true_eq, Bool.not_eq_true', decide_eq_false_iff_not, it_eQ0, it_eQ1, it_eP0, it_eP1, it_eS0, it_eS1, fits_eQ, fits_eP, fits_eS, eqv_eQ, eqv_eP, eqv_eS, eqv_int, eqv_bool, shp_int, shp_bool, shp_none, shp_eQ, shp_eP, shp_eS, dCont, dBreak, dXi, dSetG, dAppG, oIsB, oNotB, dTx, pJoin, pSplit, pPart, pStarts, bStr, bIntS, dFmt, dJs, ↓reduceIte, nsp_none, nsp_bool, nsp_int, nsp_str, nsp_list, nsp_tuple, nsp_eQ, nsp_eP, nsp_eS, dat_pu, dat_ow, seqD_l, seqD_t, not_true_eq_false, Bool.true_eq_false, Bool.not_not, List.length_cons, List.length_nil, mkP, mkS, fits_list, fits_tuple, isIntD, isBoolD, isListD, isStrD, isTupD, Bool.not_true, Bool.not_false, Bool.false_eq_true, it_l0, it_l1, it_l2, it_t0, it_t1, it_t2, shp_ps, shp_pt, shp_ss, shp_is, seqD_eQ, seqD_eP, seqD_eS, walkD_eP, walkD_eS, walkD_l, walkD_t]
    refine shown (i := 6) rfl ?_
    simp only [stx, eqv_str, dRet, dRetF, dSetX, dCallX, dRetX, noOw, dTry, dCpy, dRaise, dRetO, dSetP, dSetS, dSetF, dSeq, dIf, dNext, dCall, dCallF, dB, dBin, dCons, dNil, dTup, dLst, dV, dC, dTV, onB, dTAnd, dTOr, dTNot, dAnd, dOr, dNot, dIfE, dIsN, dNotN, isN, dSl, dSlF, dNoPart, dPart, dPar, dParS, dAsg, dgN, dgT, dgCons, dgNil, dFE, dIsi, dListF, dNeg, dRev, dFrz, dApp, dAppS, dIns, dExtend, dClear, dReverse, dPop, oIx, oI, oIC, add_ii, add_ss, add_ll, add_tt, oSubI, oMulU, oMulI, oFd, oMd, oPw, oLt, oLe, oGt, oGe, oEq, oNe, getF, setF, Cl.d, getS, setS, purF_nil, purF_cons, purH, allF_nil, allF_cons, allH, rho0, endsOf, scalD, len_l, len_t, len_s, bAbs, bInt, bIntU, tup_l, tup_t, true_and, and_true, Option.some.injEq, exists_eq_left', decide_eq_true_eq, Bool.not_eq_true', decide_eq_false_iff_not, it_eQ0, it_eQ1, it_eP0, it_eP1, it_eS0, it_eS1, fits_eQ, fits_eP, fits_eS, eqv_eQ, eqv_eP, eqv_eS, eqv_int, eqv_bool, shp_int, shp_bool, shp_none, shp_eQ, shp_eP, shp_eS, dCont, dBreak, dXi, dSetG, dAppG, oIsB, oNotB, dTx, pJoin, pSplit, pPart, pStarts, bStr, bIntS, dFmt, dJs, ↓reduceIte, nsp_none, nsp_bool, nsp_int, nsp_str, nsp_list, nsp_tuple, nsp_eQ, nsp_eP, nsp_eS, dat_pu, dat_ow, seqD_l, seqD_t, not_true_eq_false, Bool.true_eq_false, Bool.not_not, List.length_cons, List.length_nil, mkP, mkS, fits_list, fits_tuple, isIntD, isBoolD, isListD, isStrD, isTupD, Bool.not_true, Bool.not_false, Bool.false_eq_true, it_l0, it_l1, it_l2, it_t0, it_t1, it_t2, shp_ps, shp_pt, shp_ss, shp_is, seqD_eQ, seqD_eP, seqD_eS, walkD_eP, walkD_eS, walkD_l, walkD_t]
    exact hE _ rfl
  rintro _ rfl
  refine seq_cut (fun ρ => ∃ lss, LOk6 lss ∧ ρ = [.pu (.list (ns.map .int)), .pu (.list (ws.map .str)), .pu (.list (ss.map .str)), .pu (stD ws ss rm), .pu (eT t), .pu (.str (tx t)), .pu (eS t), .pu (.list (lss.map eLL)), .un]) (fun E _ hE => ?_) ?_
  · simp only [dRet, dRetF, dSetX, dCallX, dRetX, noOw, dTry, dCpy, dRaise, dRetO, dSetP, dSetS, dSetF, dSeq, dIf, dNext, dCall, dCallF, dB, dBin, dCons, dNil, dTup, dLst, dV, dC, dTV, onB, dTAnd, dTOr, dTNot, dAnd, dOr, dNot, dIfE, dIsN, dNotN, isN, dSl, dSlF, dNoPart, dPart, dPar, dParS, dAsg, dgN, dgT, dgCons, dgNil, dFE, dIsi, dListF, dNeg, dRev, dFrz, dApp, dAppS, dIns, dExtend, dClear, dReverse, dPop, oIx, oI, oIC, add_ii, add_ss, add_ll, add_tt, oSubI, oMulU, oMulI, oFd, oMd, oPw, oLt, oLe, oGt, oGe, oEq, oNe, getF, setF, Cl.d, getS, setS, purF_nil, purF_cons, purH, allF_nil, allF_cons, allH, rho0, endsOf, scalD, len_l, len_t, len_s, bAbs, bInt, bIntU, tup_l, tup_t, true_and, and_true, Option.some.injEq, exists_eq_left', decide_eq_true_eq, Bool.not_eq_true', decide_eq_false_iff_not, it_eQ0, it_eQ1, it_eP0, it_eP1, it_eS0, it_eS1, fits_eQ, fits_eP, fits_eS, eqv_eQ, eqv_eP, eqv_eS, eqv_int, eqv_bool, shp_int, shp_bool, shp_none, shp_eQ, shp_eP, shp_eS, dCont, dBreak, dXi, dSetG, dAppG, oIsB, oNotB, dTx, pJoin, pSplit, pPart, pStarts, bStr, bIntS, dFmt, dJs, ↓reduceIte, nsp_none, nsp_bool, nsp_int, nsp_str, nsp_list, nsp_tuple, nsp_eQ, nsp_eP, nsp_eS, dat_pu, dat_ow, seqD_l, seqD_t, not_true_eq_false, Bool.true_eq_false, Bool.not_not, List.length_cons, List.length_nil, mkP, mkS, fits_list, fits_tuple, isIntD, isBoolD, isListD, isStrD, isTupD, Bool.not_true, Bool.not_false, Bool.false_eq_true, it_l0, it_l1, it_l2, it_t0, it_t1, it_t2, shp_ps, shp_pt, shp_ss, shp_is, seqD_eQ, seqD_eP, seqD_eS, walkD_eP, walkD_eS, walkD_l, walkD_t]
    exact ⟨ns, ws, ss, rfl, hns, wl, sl, wn, sn, fun lss hl => hE _ ⟨lss, hl, rfl⟩⟩
  rintro _ ⟨lss, hls, rfl⟩
  refine seq_cut (fun ρ => ρ = [.pu (.list (ns.map .int)), .pu (.list (ws.map .str)), .pu (.list (ss.map .str)), .pu (stD ws ss rm), .pu (eT t), .pu (.str (tx t)), .pu (eS t), .pu (.list (lss.map eLL)), .un]) (fun E _ hE => ?_) ?_
  · simp only [dRet, dRetF, dSetX, dCallX, dRetX, noOw, dTry, dCpy, dRaise, dRetO, dSetP, dSetS, dSetF, dSeq, dIf, dNext, dCall, dCallF, dB, dBin, dCons, dNil, dTup, dLst, dV, dC, dTV, onB, dTAnd, dTOr, dTNot, dAnd, dOr, dNot, dIfE, dIsN, dNotN, isN, dSl, dSlF, dNoPart, dPart, dPar, dParS, dAsg, dgN, dgT, dgCons, dgNil, dFE, dIsi, dListF, dNeg, dRev, dFrz, dApp, dAppS, dIns, dExtend, dClear, dReverse, dPop, oIx, oI, oIC, add_ii, add_ss, add_ll, add_tt, oSubI, oMulU, oMulI, oFd, oMd, oPw, oLt, oLe, oGt, oGe, oEq, oNe, getF, setF, Cl.d, getS, setS, purF_nil, purF_cons, purH, allF_nil, allF_cons, allH, rho0, endsOf, scalD, len_l, len_t, len_s, bAbs, bInt, bIntU, tup_l, tup_t, true_and, and_true, Option.some.injEq, exists_eq_left', decide_eq_true_eq, Bool.not_eq_true', decide_eq_false_iff_not, it_eQ0, it_eQ1, it_eP0, it_eP1, it_eS0, it_eS1, fits_eQ, fits_eP, fits_eS, eqv_eQ, eqv_eP, eqv_eS, eqv_int, eqv_bool, shp_int, shp_bool, shp_none, shp_eQ, shp_eP, shp_eS, dCont, dBreak, dXi, dSetG, dAppG, oIsB, oNotB, dTx, pJoin, pSplit, pPart, pStarts, bStr, bIntS, dFmt, dJs, ↓reduceIte, nsp_none, nsp_bool, nsp_int, nsp_str, nsp_list, nsp_tuple, nsp_eQ, nsp_eP, nsp_eS, dat_pu, dat_ow, seqD_l, seqD_t, not_true_eq_false, Bool.true_eq_false, Bool.not_not, List.length_cons, List.length_nil, mkP, mkS, fits_list, fits_tuple, isIntD, isBoolD, isListD, isStrD, isTupD, Bool.not_true, Bool.not_false, Bool.false_eq_true, it_l0, it_l1, it_l2, it_t0, it_t1, it_t2, shp_ps, shp_pt, shp_ss, shp_is, seqD_eQ, seqD_eP, seqD_eS, walkD_eP, walkD_eS, walkD_l, walkD_t]
    refine ⟨t, lss, rfl, ok, tl, hls, ?_⟩
    simp only [dRet, dRetF, dSetX, dCallX, dRetX, noOw, dTry, dCpy, dRaise, dRetO, dSetP, dSetS, dSetF, dSeq, dIf, dNext, dCall, dCallF, dB, dBin, dCons, dNil, dTup, dLst, dV, dC, dTV, onB, dTAnd, dTOr, dTNot, dAnd, dOr, dNot, dIfE, dIsN, dNotN, isN, dSl, dSlF, dNoPart, dPart, dPar, dParS, dAsg, dgN, dgT, dgCons, dgNil, dFE, dIsi, dListF, dNeg, dRev, dFrz, dApp, dAppS, dIns, dExtend, dClear, dReverse, dPop, oIx, oI, oIC, add_ii, add_ss, add_ll, add_tt, oSubI, oMulU, oMulI, oFd, oMd, oPw, oLt, oLe, oGt, oGe, oEq, oNe, getF, setF, Cl.d, getS, setS, purF_nil, purF_cons, purH, allF_nil, allF_cons, allH, rho0, endsOf, scalD, len_l, len_t, len_s, bAbs, bInt, bIntU, tup_l, tup_t, true_and, and_true, Option.some.injEq, exists_eq_left', decide_eq_true_eq, Bool.not_eq_true', decide_eq_false_iff_not, it_eQ0, it_eQ1, it_eP0, it_eP1, it_eS0, it_eS1, fits_eQ, fits_eP, fits_eS, eqv_eQ, eqv_eP, eqv_eS, eqv_int, eqv_bool, shp_int, shp_bool, shp_none, shp_eQ, shp_eP, shp_eS, dCont, dBreak, dXi, dSetG, dAppG, oIsB, oNotB, dTx, pJoin, pSplit, pPart, pStarts, bStr, bIntS, dFmt, dJs, ↓reduceIte, nsp_none, nsp_bool, nsp_int, nsp_str, nsp_list, nsp_tuple, nsp_eQ, nsp_eP, nsp_eS, dat_pu, dat_ow, seqD_l, seqD_t, not_true_eq_false, Bool.true_eq_false, Bool.not_not, List.length_cons, List.length_nil, mkP, mkS, fits_list, fits_tuple, isIntD, isBoolD, isListD, isStrD, isTupD, Bool.not_true, Bool.not_false, Bool.false_eq_true, it_l0, it_l1, it_l2, it_t0, it_t1, it_t2, shp_ps, shp_pt, shp_ss, shp_is, seqD_eQ, seqD_eP, seqD_eS, walkD_eP, walkD_eS, walkD_l, walkD_t]
    exact hE _ rfl
  rintro _ rfl
  refine seq_cut (fun ρ => ρ = [.pu (.list (ns.map .int)), .pu (.list (ws.map .str)), .pu (.list (ss.map .str)), .pu (stD ws ss rm), .pu (eT t), .pu (.str (tx t)), .pu (eS t), .pu (.list (lss.map eLL)), .pu (eS t)]) (fun E _ hE => ?_) ?_
  · simp only [dRet, dRetF, dSetX, dCallX, dRetX, noOw, dTry, dCpy, dRaise, dRetO, dSetP, dSetS, dSetF, dSeq, dIf, dNext, dCall, dCallF, dB, dBin, dCons, dNil, dTup, dLst, dV, dC, dTV, onB, dTAnd, dTOr, dTNot, dAnd, dOr, dNot, dIfE, dIsN, dNotN, isN, dSl, dSlF, dNoPart, dPart, dPar, dParS, dAsg, dgN, dgT, dgCons, dgNil, dFE, dIsi, dListF, dNeg, dRev, dFrz, dApp, dAppS, dIns, dExtend, dClear, dReverse, dPop, oIx, oI, oIC, add_ii, add_ss, add_ll, add_tt, oSubI, oMulU, oMulI, oFd, oMd, oPw, oLt, oLe, oGt, oGe, oEq, oNe, getF, setF, Cl.d, getS, setS, purF_nil, purF_cons, purH, allF_nil, allF_cons, allH, rho0, endsOf, scalD, len_l, len_t, len_s, bAbs, bInt, bIntU, tup_l, tup_t, true_and, and_true, Option.some.injEq, exists_eq_left', decide_eq_true_eq, Bool.not_eq_true', decide_eq_false_iff_not, it_eQ0, it_eQ1, it_eP0, it_eP1, it_eS0, it_eS1, fits_eQ, fits_eP, fits_eS, eqv_eQ, eqv_eP, eqv_eS, eqv_int, eqv_bool, shp_int, shp_bool, shp_none, shp_eQ, shp_eP, shp_eS, dCont, dBreak, dXi, dSetG, dAppG, oIsB, oNotB, dTx, pJoin, pSplit, pPart, pStarts, bStr, bIntS, dFmt, dJs, ↓reduceIte, nsp_none, nsp_bool, nsp_int, nsp_str, nsp_list, nsp_tuple, nsp_eQ, nsp_eP, nsp_eS, dat_pu, dat_ow, seqD_l, seqD_t, not_true_eq_false, Bool.true_eq_false, Bool.not_not, List.length_cons, List.length_nil, mkP, mkS, fits_list, fits_tuple, isIntD, isBoolD, isListD, isStrD, isTupD, Bool.not_true, Bool.not_false, Bool.false_eq_true, it_l0, it_l1, it_l2, it_t0, it_t1, it_t2, shp_ps, shp_pt, shp_ss, shp_is, seqD_eQ, seqD_eP, seqD_eS, walkD_eP, walkD_eS, walkD_l, walkD_t]
    refine shown (i := 6) rfl ?_
    refine ⟨_, rfl, tok, fun t' ht' => ?_, fun hn => by rw [rS] at hn; cases hn⟩
    rw [rS] at ht'
    cases ht'
    exact hE _ rfl
  rintro _ rfl
  simp only [dRet, dRetF, dSetX, dCallX, dRetX, noOw, dTry, dCpy, dRaise, dRetO, dSetP, dSetS, dSetF, dSeq, dIf, dNext, dCall, dCallF, dB, dBin, dCons, dNil, dTup, dLst, dV, dC, dTV, onB, dTAnd, dTOr, dTNot, dAnd, dOr, dNot, dIfE, dIsN, dNotN, isN, dSl, dSlF, dNoPart, dPart, dPar, dParS, dAsg, dgN, dgT, dgCons, dgNil, dFE, dIsi, dListF, dNeg, dRev, dFrz, dApp, dAppS, dIns, dExtend, dClear, dReverse, dPop, oIx, oI, oIC, add_ii, add_ss, add_ll, add_tt, oSubI, oMulU, oMulI, oFd, oMd, oPw, oLt, oLe, oGt, oGe, oEq, oNe, getF, setF, Cl.d, getS, setS, purF_nil, purF_cons, purH, allF_nil, allF_cons, allH, rho0, endsOf, scalD, len_l, len_t, len_s, bAbs, bInt, bIntU, tup_l, tup_t, true_and, and_true, Option.some.injEq, exists_eq_left', decide_eq_true_eq, Bool.not_eq_true', decide_eq_false_iff_not, it_eQ0, it_eQ1, it_eP0, it_eP1, it_eS0, it_eS1, fits_eQ, fits_eP, fits_eS, eqv_eQ, eqv_eP, eqv_eS, eqv_int, eqv_bool, shp_int, shp_bool, shp_none, shp_eQ, shp_eP, shp_eS, dCont, dBreak, dXi, dSetG, dAppG, oIsB, oNotB, dTx, pJoin, pSplit, pPart, pStarts, bStr, bIntS, dFmt, dJs, ↓reduceIte, nsp_none, nsp_bool, nsp_int, nsp_str, nsp_list, nsp_tuple, nsp_eQ, nsp_eP, nsp_eS, dat_pu, dat_ow, seqD_l, seqD_t, not_true_eq_false, Bool.true_eq_false, Bool.not_not, List.length_cons, List.length_nil, mkP, mkS, fits_list, fits_tuple, isIntD, isBoolD, isListD, isStrD, isTupD, Bool.not_true, Bool.not_false, Bool.false_eq_true, it_l0, it_l1, it_l2, it_t0, it_t1, it_t2, shp_ps, shp_pt, shp_ss, shp_is, seqD_eQ, seqD_eP, seqD_eS, walkD_eP, walkD_eS, walkD_l, walkD_t]
  refine shown (i := 8) rfl ?_
  simp only [stx, eqv_str, dRet, dRetF, dSetX, dCallX, dRetX, noOw, dTry, dCpy, dRaise, dRetO, dSetP, dSetS, dSetF, dSeq, dIf, dNext, dCall, dCallF, dB, dBin, dCons, dNil, dTup, dLst, dV, dC, dTV, onB, dTAnd, dTOr, dTNot, dAnd, dOr, dNot, dIfE, dIsN, dNotN, isN, dSl, dSlF, dNoPart, dPart, dPar, dParS, dAsg, dgN, dgT, dgCons, dgNil, dFE, dIsi, dListF, dNeg, dRev, dFrz, dApp, dAppS, dIns, dExtend, dClear, dReverse, dPop, oIx, oI, oIC, add_ii, add_ss, add_ll, add_tt, oSubI, oMulU, oMulI, oFd, oMd, oPw, oLt, oLe, oGt, oGe, oEq, oNe, getF, setF, Cl.d, getS, setS, purF_nil, purF_cons, purH, allF_nil, allF_cons, allH, rho0, endsOf, scalD, len_l, len_t, len_s, bAbs, bInt, bIntU, tup_l, tup_t, true_and, and_true, Option.some.injEq, exists_eq_left', decide_eq_true_eq, Bool.not_eq_true', decide_eq_false_iff_not, it_eQ0, it_eQ1, it_eP0, it_eP1, it_eS0, it_eS1, fits_eQ, fits_eP, fits_eS, eqv_eQ, eqv_eP, eqv_eS, eqv_int, eqv_bool, shp_int, shp_bool, shp_none, shp_eQ, shp_eP, shp_eS, dCont, dBreak, dXi, dSetG, dAppG, oIsB, oNotB, dTx, pJoin, pSplit, pPart, pStarts, bStr, bIntS, dFmt, dJs, ↓reduceIte, nsp_none, nsp_bool, nsp_int, nsp_str, nsp_list, nsp_tuple, nsp_eQ, nsp_eP, nsp_eS, dat_pu, dat_ow, seqD_l, seqD_t, not_true_eq_false, Bool.true_eq_false, Bool.not_not, List.length_cons, List.length_nil, mkP, mkS, fits_list, fits_tuple, isIntD, isBoolD, isListD, isStrD, isTupD, Bool.not_true, Bool.not_false, Bool.false_eq_true, it_l0, it_l1, it_l2, it_t0, it_t1, it_t2, shp_ps, shp_pt, shp_ss, shp_is, seqD_eQ, seqD_eP, seqD_eS, walkD_eP, walkD_eS, walkD_l, walkD_t]
  refine ⟨t, lss.reverse, by rw [List.map_reverse], ok, tl, ⟨by rw [List.length_reverse]; exact hls.1, fun ls hl => hls.2 ls (List.mem_reverse.mp hl)⟩, ?_⟩
  simp only [dRet, dRetF, dSetX, dCallX, dRetX, noOw, dTry, dCpy, dRaise, dRetO, dSetP, dSetS, dSetF, dSeq, dIf, dNext, dCall, dCallF, dB, dBin, dCons, dNil, dTup, dLst, dV, dC, dTV, onB, dTAnd, dTOr, dTNot, dAnd, dOr, dNot, dIfE, dIsN, dNotN, isN, dSl, dSlF, dNoPart, dPart, dPar, dParS, dAsg, dgN, dgT, dgCons, dgNil, dFE, dIsi, dListF, dNeg, dRev, dFrz, dApp, dAppS, dIns, dExtend, dClear, dReverse, dPop, oIx, oI, oIC, add_ii, add_ss, add_ll, add_tt, oSubI, oMulU, oMulI, oFd, oMd, oPw, oLt, oLe, oGt, oGe, oEq, oNe, getF, setF, Cl.d, getS, setS, purF_nil, purF_cons, purH, allF_nil, allF_cons, allH, rho0, endsOf, scalD, len_l, len_t, len_s, bAbs, bInt, bIntU, tup_l, tup_t, true_and, and_true, Option.some.injEq, exists_eq_left', decide_eq_true_eq, Bool.not_eq_true', decide_eq_false_iff_not, it_eQ0, it_eQ1, it_eP0, it_eP1, it_eS0, it_eS1, fits_eQ, fits_eP, fits_eS, eqv_eQ, eqv_eP, eqv_eS, eqv_int, eqv_bool, shp_int, shp_bool, shp_none, shp_eQ, shp_eP, shp_eS, dCont, dBreak, dXi, dSetG, dAppG, oIsB, oNotB, dTx, pJoin, pSplit, pPart, pStarts, bStr, bIntS, dFmt, dJs, ↓reduceIte, nsp_none, nsp_bool, nsp_int, nsp_str, nsp_list, nsp_tuple, nsp_eQ, nsp_eP, nsp_eS, dat_pu, dat_ow, seqD_l, seqD_t, not_true_eq_false, Bool.true_eq_false, Bool.not_not, List.length_cons, List.length_nil, mkP, mkS, fits_list, fits_tuple, isIntD, isBoolD, isListD, isStrD, isTupD, Bool.not_true, Bool.not_false, Bool.false_eq_true, it_l0, it_l1, it_l2, it_t0, it_t1, it_t2, shp_ps, shp_pt, shp_ss, shp_is, seqD_eQ, seqD_eP, seqD_eS, walkD_eP, walkD_eS, walkD_l, walkD_t]
  refine shown (i := 6) rfl ?_
  simp only [stx, eqv_str, dRet, dRetF, dSetX, dCallX, dRetX, noOw, dTry, dCpy, dRaise, dRetO, dSetP, dSetS, dSetF, dSeq, dIf, dNext, dCall, dCallF, dB, dBin, dCons, dNil, dTup, dLst, dV, dC, dTV, onB, dTAnd, dTOr, dTNot, dAnd, dOr, dNot, dIfE, dIsN, dNotN, isN, dSl, dSlF, dNoPart, dPart, dPar, dParS, dAsg, dgN, dgT, dgCons, dgNil, dFE, dIsi, dListF, dNeg, dRev, dFrz, dApp, dAppS, dIns, dExtend, dClear, dReverse, dPop, oIx, oI, oIC, add_ii, add_ss, add_ll, add_tt, oSubI, oMulU, oMulI, oFd, oMd, oPw, oLt, oLe, oGt, oGe, oEq, oNe, getF, setF, Cl.d, getS, setS, purF_nil, purF_cons, purH, allF_nil, allF_cons, allH, rho0, endsOf, scalD, len_l, len_t, len_s, bAbs, bInt, bIntU, tup_l, tup_t, true_and, and_true, Option.some.injEq, exists_eq_left', decide_eq_true_eq, Bool.not_eq_true', decide_eq_false_iff_not, it_eQ0, it_eQ1, it_eP0, it_eP1, it_eS0, it_eS1, fits_eQ, fits_eP, fits_eS, eqv_eQ, eqv_eP, eqv_eS, eqv_int, eqv_bool, shp_int, shp_bool, shp_none, shp_eQ, shp_eP, shp_eS, dCont, dBreak, dXi, dSetG, dAppG, oIsB, oNotB, dTx, pJoin, pSplit, pPart, pStarts, bStr, bIntS, dFmt, dJs, ↓reduceIte, nsp_none, nsp_bool, nsp_int, nsp_str, nsp_list, nsp_tuple, nsp_eQ, nsp_eP, nsp_eS, dat_pu, dat_ow, seqD_l, seqD_t, not_true_eq_false, Bool.true_eq_false, Bool.not_not, List.length_cons, List.length_nil, mkP, mkS, fits_list, fits_tuple, isIntD, isBoolD, isListD, isStrD, isTupD, Bool.not_true, Bool.not_false, Bool.false_eq_true, it_l0, it_l1, it_l2, it_t0, it_t1, it_t2, shp_ps, shp_pt, shp_ss, shp_is, seqD_eQ, seqD_eP, seqD_eS, walkD_eP, walkD_eS, walkD_l, walkD_t]
  exact h
theorem h0_holds (ds : List Dt) (Φ : Slot → Prop) (Ξ : XD → Prop) : ¬ spr_holds 0 ds Φ Ξ := fun ⟨t, _, _, _, hd, _⟩ => by have := dep_pos t; omega
theorem h0_shown (ds : List Dt) (Φ : Slot → Prop) (Ξ : XD → Prop) : ¬ spr_shown 0 ds Φ Ξ := fun ⟨t, _, _, hd, _⟩ => by have := dep_pos t; omega
theorem h0__law_said (ds : List Dt) (Φ : Slot → Prop) (Ξ : XD → Prop) : ¬ spr__law_said 0 ds Φ Ξ := fun ⟨t, _, _, hd, _⟩ => by have := dep_pos t; omega
theorem h0__law_true (ds : List Dt) (Φ : Slot → Prop) (Ξ : XD → Prop) : ¬ spr__law_true 0 ds Φ Ξ := fun ⟨t, _, _, _, hd, _⟩ => by have := dep_pos t; omega
theorem h0__law_saying (ds : List Dt) (Φ : Slot → Prop) (Ξ : XD → Prop) : ¬ spr__law_saying 0 ds Φ Ξ := fun ⟨_, _, _, _, _, _, _, h1, h2, _⟩ => by omega
theorem h0_read_at (ds : List Dt) (Φ : Slot → Prop) (Ξ : XD → Prop) : ¬ spr_read_at 0 ds Φ Ξ := fun ⟨_, _, _, _, h1, h2, _⟩ => by omega
end L2.D3.SY
set_option maxHeartbeats 4000000
/-! Defs that raise nothing, called within an except suite. -/
namespace L2.D3
open PySem PySem.Spec PyProof.Rows
/-! ### the top's end, with the statics -/
def asC (g : Addr → Option Obj) (n : Nat) : List Addr := He.asD g n ++ [cStatics]
def hookC (n : Nat) (fa : List He.Fa) (fn : List He.DefD) (xt : PySem.W.Frag → Bool) : PySem.W.Hook where
  α := Bool × He.AlD
  obs := fun s => (xt (He.frG s.heap.get? (asC s.heap.get? n)), He.obsD fa fn (He.frG s.heap.get? (asC s.heap.get? n)))
  val := fun _ => (true, He.valD fn)
  says := fun _ h => ∃ K : PySem.W.Frag, K.In h ∧ He.SaysD fa fn K ∧ xt K = true
  of := fun _ _ e => ⟨_, He.frG_in, congrArg Prod.snd e, congrArg Prod.fst e⟩
  keeps := fun _ _ _ ⟨K, hK, c⟩ k => ⟨K, PySem.W.Frag.In.keeps hK k, c⟩
def obsC (n : Nat) (fa : List He.Fa) (fn : List He.DefD) (xt : PySem.W.Frag → Bool) (g : Addr → Option Obj) : Bool × He.AlD := (xt (He.frG g (asC g n)), He.obsD fa fn (He.frG g (asC g n)))
theorem obsC_eq {n : Nat} {fa : List He.Fa} {fn : List He.DefD} {xt : PySem.W.Frag → Bool} {g : Addr → Option Obj} {s : Shared} (h : ∀ a, g a = s.heap.get? a) : obsC n fa fn xt g = (hookC n fa fn xt).obs s := by
  have e : g = s.heap.get? := funext h
  rw [e]
  rfl
end L2.D3
set_option maxHeartbeats 4000000
/-! Data classes: checks, how they are put together. -/
namespace L2.D3
open PySem PySem.Spec PyProof.Rows
def ini0B (K : PySem.W.Frag) (c : Str) : Bool := He.eqO (PySem.W.findIn K (.ref (He.ga K c)) "__init__") (some (some (.builtin "object.__init__")))
theorem ini0B_ok {K : PySem.W.Frag} {c : Str} (h : ini0B K c = true) : PySem.W.findIn K (.ref (He.ga K c)) "__init__" = some (some (.builtin "object.__init__")) := He.eqO_ok h
theorem mkMkN {P : Program} {w : World} {K : PySem.W.Frag} {mg : Str → Option Value} {base : Heap} {c qual : Str} {ns yn fs : List Str} {ms : List (Str × Str)} {params : Arguments} {body : List Stmt} {scope : Scope} {fd : FuncData} {dvs : List V} {kws : List (Str × V)} (T : ClsT K c fs ms) (gC : mg c = some (.ref (He.ga K c))) (hm : (("__init__" : Str), c) ∈ ms)
    (F : FunD K "__init__" qual params body scope dvs kws (He.ma K (He.ga K c) "__init__") fd) (S : FnScope ("self" :: yn) ("self" :: yn) scope) (bi : Binds K fd ("self" :: yn) []) (hl : yn.length = ns.length)
    (hb : ∀ cdv A outer s H E, IniS (cxOf (L2.CX P w) P w K mg base ("self" :: yn) qual scope (He.ma K (He.ga K c) "__init__") cdv A outer s H E) (He.ga K c) ns body) : MkN P w K mg base c ns := by
  have M := T.ms _ hm
  exact ⟨T.cn, gC, _, fd, _, ⟨T.mks, M.1, M.2, T.kp⟩, ins_ok F S hl hb, bi⟩
theorem all7 {α : Type} {p : α → Prop} {a b c d e f g : α} (h1 : p a) (h2 : p b) (h3 : p c) (h4 : p d) (h5 : p e) (h6 : p f) (h7 : p g) : ∀ x ∈ [a, b, c, d, e, f, g], p x := by
  intro x hx
  simp only [List.mem_cons, List.not_mem_nil, or_false] at hx
  rcases hx with rfl | rfl | rfl | rfl | rfl | rfl | rfl <;> assumption
end L2.D3
set_option maxHeartbeats 4000000
/-! Expressions that may raise: calls as arguments, calls within a comprehension. -/
namespace L2.D3
open PySem PySem.Spec PyProof.Rows
/-- what a call lets out is taken -/
def Lets (X : Cx) (W : WX) : Prop := ∀ σ, PassesAt (L2.CX X.prog X.w) X σ (WE W σ)
theorem Takes.lets {X : Cx} {W : WX} (tk : Takes X W) : Lets X W := fun σ => passAt tk σ
/-! ### readings -/
abbrev DZ := Fro → (Dt → Prop) → (XD → Prop) → Prop
abbrev DZs := Fro → (List Dt → Prop) → (XD → Prop) → Prop
def XOk (K : PySem.W.Frag) (W : WX) (σ : St) (H : Hp) (Ξ : XD → Prop) : Prop := ∀ x d H', Same H H' → XAt K H' x d → Ξ x → W (.ref (He.ga K x.cls)) d σ H'
theorem XOk.up {K : PySem.W.Frag} {W : WX} {σ : St} {H H1 : Hp} {Ξ : XD → Prop} (h : XOk K W σ H Ξ) (s : Same H H1) : XOk K W σ H1 Ξ := fun x d H' s' a b => h x d H' (s.trans s') a b
def SZ (K : PySem.W.Frag) (W : WX) (te : TE) (de : DZ) : Prop := ∀ (σ : St) (H : Hp) (φ : Fro) (Φ : Dt → Prop) (Ξ : XD → Prop) (Q : VK), EnvF K σ H φ → de φ Φ Ξ → (∀ v H' d, Same H H' → Dp K H' v d → Φ d → Q v H') → XOk K W σ H Ξ → te σ H Q
def SZs (K : PySem.W.Frag) (W : WX) (ta : TA) (da : DZs) : Prop := ∀ (σ : St) (H : Hp) (φ : Fro) (Φ : List Dt → Prop) (Ξ : XD → Prop) (Q : List V → Hp → Prop), EnvF K σ H φ → da φ Φ Ξ → (∀ vs H' ds, Same H H' → DpAll K H' vs ds → Φ ds → Q vs H') → XOk K W σ H Ξ → ta σ H Q
structure GZ (X : Cx) (W : WX) (e : Expr) (de : DZ) : Prop where
  ex : ∃ te, PE X e te ∧ SZ X.K W te de
structure GZs (X : Cx) (W : WX) (es : List Expr) (da : DZs) : Prop where
  ex : ∃ ta, PA X es ta ∧ SZs X.K W ta da
def dzE (de : DE) : DZ := fun φ Φ _ => de φ Φ
def dzNil : DZs := fun _ Φ _ => Φ []
def dzCons (de : DZ) (dr : DZs) : DZs := fun φ Φ Ξ => de φ (fun x => dr φ (fun xs => Φ (x :: xs)) Ξ) Ξ
def dzCall (dsp : DSp) (da : DZs) : DZ := fun φ Φ Ξ => da φ (fun ds => dsp ds (fun s => Φ s.dat) Ξ) Ξ
section
variable {X : Cx} {W : WX}
theorem z_of {e : Expr} {de : DE} (h : GE X e de) : GZ X W e (dzE de) := by
  obtain ⟨te, a1, a2⟩ := h
  exact ⟨te, a1, fun σ H φ Φ Ξ Q env h q _ => a2 σ H φ _ _ env h q⟩
theorem zs_nil : GZs X W [] dzNil := ⟨_, pa_nil, fun σ H φ Φ Ξ Q env h q _ => q [] H [] (Same.refl H) .nil h⟩
theorem zs_cons {e : Expr} {es : List Expr} {de : DZ} {dr : DZs} (he : GZ X W e de) (hr : GZs X W es dr) (hs : starEach (e :: es) X.env = (false, eval e X.env) :: starEach es X.env := by rfl) : GZs X W (e :: es) (dzCons de dr) := by
  obtain ⟨te, a1, a2⟩ := he
  obtain ⟨tr, b1, b2⟩ := hr
  exact ⟨_, pa_cons a1 b1 hs, fun σ H φ Φ Ξ Q env h q x => a2 σ H φ _ Ξ _ env h (fun v H1 d s1 pv h1 => b2 σ H1 φ _ Ξ _ (env.up s1) h1 (fun vs H2 ds s2 ps h2 => q _ H2 _ (s1.trans s2) (.cons (pv.up s2) ps) h2) (x.up s1)) x⟩
theorem z_call {f : Str} {k : Nat} {dsp : DSp} {e : Expr} {es : List Expr} {da : DZs} {p pos : Pos} (N : FN X.prog X.w X.K X.mg X.base f k dsp) (hr : Room k X.A) (lt : Lets X W) (ha : GZs X W (e :: es) da) (hg : Gl X f := by rfl) (hdb : (f == ("__debug__" : Str)) = false := by decide)
    (he : starEach (e :: es) X.env = (false, eval e X.env) :: starEach es X.env := by rfl) (hpl : (backTo pos (starEach es X.env)).any (·.1) = false := by rfl) : GZ X W (.Call (.Name f p) (e :: es) [] pos) (dzCall dsp da) := by
  obtain ⟨fa, fd, ps, us0, dvs, sp, F1, hm, hk, hb, hd, hs⟩ := N
  obtain ⟨ta, a1, a2⟩ := ha
  refine ⟨_, pe_callSD (E := fun σ => WE W σ) F1 hr hg hm hk hb hd lt a1 hdb he hpl, fun σ H φ Φ Ξ Q env h q x => a2 σ H φ _ Ξ _ env h (fun vs H1 ds s1 pd h1 => hs _ _ _ _ ⟨ds, _, _, pd, h1, retOk_data s1 q, fun y d H2 s2 hy z => x y d H2 (s1.trans s2) hy z⟩) x⟩
def tDZ (K : PySem.W.Frag) (de : DZ) (W : WX) : TE := fun σ H Q => ∃ φ Φ Ξ, EnvF K σ H φ ∧ de φ Φ Ξ ∧ (∀ v H' d, Same H H' → Dp K H' v d → Φ d → Q v H') ∧ XOk K W σ H Ξ
theorem GZ.pe {e : Expr} {de : DZ} (h : GZ X W e de) : PE X e (tDZ X.K de W) := by
  obtain ⟨te, a1, a2⟩ := h
  refine ⟨fun pins s σ H Q I hw => ?_⟩
  obtain ⟨φ, Φ, Ξ, env, h1, h2, h3⟩ := hw
  exact a1.run pins s σ H Q I (a2 σ H φ Φ Ξ Q env h1 h2 h3)
end
end L2.D3
set_option maxHeartbeats 4000000
/-! A caught exception handed to a def; is None of what may be one; methods of what a def tells that may raise. -/
namespace L2.D3
open PySem PySem.Spec PyProof.Rows
def dIsNA (i : Nat) : DE := fun φ Φ => (∃ d, getF φ i = some d ∧ Φ (.bool (isN d))) ∨ ∃ x, getA φ i = some (exA x) ∧ Φ (.bool false)
section
variable {X : Cx} {W : WX}
theorem t_isNA {i : Nat} {x : Str} {p : Pos} {j p2} {pos : Pos} (hN : X.N[i]? = some x := by rfl) (hv : Vis X.env.scope x := by first | exact Or.inl rfl | exact Or.inr (Or.inl rfl) | exact Or.inr (Or.inr rfl)) (hd : (x == ("__debug__" : Str)) = false := by decide) (hcd : (x == ("__classdict__" : Str)) = false := by decide) :
    GT X (.Compare (.Name x p) [.Is] [.Constant .none j p2] pos) (dTV (dIsNA i)) := by
  refine ⟨_, pt_cmp (pc_isN (pe_var (i := i) hN hv hd hcd)) rfl, st_test (fun σ H φ Φ Q env h q => ?_)⟩
  rcases h with ⟨d, h1, h2⟩ | ⟨y, h1, h2⟩
  · obtain ⟨v, e1, e2⟩ := env.at_ i d h1
    refine ⟨v, e1, ?_⟩
    show Q (V.bl (decide (v = V.non))) H
    rw [isN_of e2]
    exact q _ H _ (Same.refl H) (.bl _) h2
  · obtain ⟨a, d, e1, _⟩ := an_ex env h1
    exact ⟨_, e1, q _ H _ (Same.refl H) (.bl _) h2⟩
end
/-! defs that take a caught exception -/
abbrev DSx := XD → (Slot → Prop) → Prop
def liftA (K : PySem.W.Frag) (dsp : DSx) : Sp := fun vs H Q _ => ∃ a x Φ, vs = [.ref a] ∧ ExAt K H a x ∧ dsp x Φ ∧ RetOk K H Φ Q
structure FNA (P : Program) (w : World) (K : PySem.W.Frag) (mg : Str → Option Value) (base : Heap) (x : Str) (k : Nat) (dsp : DSx) : Prop where
  ex : ∃ f fd ps, FnOk P w K mg base (L2.CX P w) k f fd ps (liftA K dsp) ∧ mg x = some (.ref f) ∧ PySem.W.keepIn K (.ref f) = true ∧ Binds K fd ps []
def dCallA (i : Nat) (dsp : DSx) : DE := fun φ Φ => ∃ x, getA φ i = some (exA x) ∧ dsp x (fun s => Φ s.dat)
def rhoA (x : XD) : List Str → Rho
  | [] => []
  | _ :: r => .an (exA x) :: rho0 r []
theorem getS_rhoA {x : XD} : ∀ {N : List Str} {i : Nat}, getS (rhoA x N) i = .un ∨ (i = 0 ∧ getS (rhoA x N) i = .an (exA x))
  | [], i => .inl rfl
  | _ :: r, 0 => .inr ⟨rfl, rfl⟩
  | _ :: r, i + 1 => .inl (getS_rho0_nil (N := r))
theorem startA_env {K : PySem.W.Frag} {H : Hp} {y : Str} {N : List Str} {a : Addr} {x : XD} (p : ExAt K H a x) : EnvO K H (start (y :: N) [.ref a]) H (rhoA x (y :: N)) := by
  have len : (rhoA x (y :: N)).length = (start (y :: N) [.ref a]).length := by
    show (rho0 N []).length + 1 = _
    rw [rho0_len]
    unfold start
    rw [List.length_append, List.length_map, List.length_replicate]
    simp
    omega
  refine ⟨Fz.refl H, len, fun i d h => ?_, fun i A h => ?_, fun i es h => ?_, fun i j es es' b hij h => ?_, sep_no fun i t h => ?_⟩
  · rcases getS_rhoA (x := x) (N := y :: N) (i := i) with q | ⟨_, q⟩ <;> rw [q] at h <;> cases h
  · rcases getS_rhoA (x := x) (N := y :: N) (i := i) with q | ⟨e, q⟩
    · rw [q] at h; cases h
    · rw [q] at h
      cases h
      subst e
      exact ⟨.ref a, rfl, a, rfl, p⟩
  · rcases getS_rhoA (x := x) (N := y :: N) (i := i) with q | ⟨_, q⟩ <;> rw [q] at h <;> cases h
  · rcases getS_rhoA (x := x) (N := y :: N) (i := i) with q | ⟨_, q⟩ <;> rw [q] at h <;> cases h
  · rcases getS_rhoA (x := x) (N := y :: N) (i := i) with q | ⟨_, q⟩ <;> rw [q] at h <;> cases h
section
variable {P : Program} {w : World} {K : PySem.W.Frag} {mg : Str → Option Value} {base : Heap} {x qual : Str} {params : Arguments} {body : List Stmt} {scope : Scope} {f : Addr} {fd : FuncData}
theorem fn_okA {y : Str} {N : List Str} {k : Nat} {dsp : DSx} {dvs : List V} {kws : List (Str × V)} (F : FunD K x qual params body scope dvs kws f fd) (S : FnScope (y :: N) [y] scope) (hm : mg x = some (.ref f)) (b : Binds K fd [y] [])
    (hb : ∀ (cdv : Value) (A : Around) (outer : List Env) (s : Shared) (H : Hp) (E : XK), Room k (A.deeper (envOfC qual scope s.heap.objs.size f cdv)) →
      ∃ d, GSs (cxOf (L2.CX P w) P w K mg base (y :: N) qual scope f cdv A outer s H E) (fun cls d _ H => E cls d H) body d ∧ ∀ x Φ, dsp x Φ → d (endsOf Φ fun _ => False) (rhoA x (y :: N))) : FNA P w K mg base x (k + 1) dsp := by
  refine ⟨f, fd, [y], F.ok S (fun vs H Q E h => ?_) (fun cdv A outer s H vs Q E hr h => ?_), hm, F.kp, b⟩
  · obtain ⟨a, x, Φ, rfl, _⟩ := h
    rfl
  · obtain ⟨a, x, Φ, rfl, p, h1, r⟩ := h
    obtain ⟨d, ⟨ts, a1, a2⟩, hd⟩ := hb cdv A outer s H E hr
    exact ⟨ts, a1, a2 _ (endsOf Φ fun _ => False) H _ H _ (startA_env p) (hd x Φ h1) (meets_def r fun x d H' s p z => z.elim)⟩
end
section
variable {X : Cx} {W : WX}
theorem g_callA {x y : Str} {i k : Nat} {dsp : DSx} {p py pos : Pos} (N : FNA X.prog X.w X.K X.mg X.base x k dsp) (hr : Room k X.A) (hN : X.N[i]? = some y := by rfl) (hvs : Vis X.env.scope y := by first | exact Or.inl rfl | exact Or.inr (Or.inl rfl) | exact Or.inr (Or.inr rfl)) (hdy : (y == ("__debug__" : Str)) = false := by decide) (hcy : (y == ("__classdict__" : Str)) = false := by decide)
    (hg : Gl X x := by rfl) (hdb : (x == ("__debug__" : Str)) = false := by decide) (hs : starEach [.Name y py] X.env = (false, eval (.Name y py) X.env) :: starEach [] X.env := by rfl) (hpl : (backTo pos (starEach [] X.env)).any (·.1) = false := by rfl) : GE X (.Call (.Name x p) [.Name y py] [] pos) (dCallA i dsp) := by
  obtain ⟨fa, fd, ps, F1, hm, hk, hb⟩ := N
  refine ⟨_, pe_call F1 hr hg hm hk hb .nil passL (pa_cons (pe_var (i := i) hN hvs hdy hcy) pa_nil hs) hdb hs hpl, fun σ H φ Φ Q env h q => ?_⟩
  obtain ⟨z, h1, h2⟩ := h
  obtain ⟨v, e1, a, rfl, ea⟩ := env.an i (exA z) h1
  exact ⟨.ref a, e1, a, z, _, rfl, ea, h2, retOk_data (Same.refl H) q⟩
/-! o.m(), where o may raise -/
def dzMeth0 (cs : List Str) (m : Str) (dsp : DSp) (dz : DZ) : DZ := fun φ Φ Ξ => ∃ c, c ∈ cs ∧ dz φ (fun d => clsD d = some c ∧ fldD m d = none ∧ dsp [d] (fun s => Φ s.dat) (fun _ => False)) Ξ
theorem z_meth0 {cs : List Str} {m : Str} {k : Nat} {dsp : DSp} {o : Expr} {dz : DZ} {apos pos : Pos} {pl : Sem Bool} (N : MN X.prog X.w X.K X.mg X.base m k cs dsp) (hr : Room k X.A) (ho : GZ X W o dz)
    (ht : eval (.Call (.Attribute o m apos) [] [] pos) X.env = (do
      let ov ← eval o X.env
      standAt apos.atName
      let (f, first) ← holding [ov] (getMethod ov m pl)
      callWith pos f first (backTo pos (starEach [] X.env)) (backToKw pos (keywordEach [] X.env))) := by rfl) :
    GZ X W (.Call (.Attribute o m apos) [] [] pos) (dzMeth0 cs m dsp dz) := by
  obtain ⟨to, o1, o2⟩ := ho
  refine ⟨fun σ H Q => ∃ c, c ∈ cs ∧ tMeth (He.ga X.K c) m (lift X.K (onC c dsp)) [] E0 to tNil σ H Q, pe_any fun c hc => ?_, fun σ H φ Φ Ξ Q env h q xx => ?_⟩
  · obtain ⟨hcl, f, fd, ps, F, hm, hb⟩ := N.ex c hc
    exact pe_meth0 o1 hcl hm F hr hb .nil passL ht
  · obtain ⟨c, hcs, h⟩ := h
    refine ⟨c, hcs, o2 σ H φ _ Ξ _ env h (fun x H1 d s1 p1 e1 => ?_) xx⟩
    obtain ⟨hc, hf, h⟩ := e1
    obtain ⟨a, dx, fs, rfl, h1, _, h3⟩ := dp_ins p1 hc
    refine ⟨a, dx, fs, rfl, h1, h3 m hf, ?_⟩
    show lift X.K (onC c dsp) [V.ref a] H1 Q E0
    exact ⟨[d], _, _, .cons p1 .nil, ⟨⟨d, [], rfl, hc⟩, h⟩, retOk_data s1 q, fun x d H' s p z => z.elim⟩
/-- x = e, e may raise -/
def dSetZ (i : Nat) (de : DZ) : DS := fun E ρ => noOw ρ ∧ de (allF ρ) (fun d => E.nx (setS ρ i (.pu d))) (fun x => E.xr x ρ)
theorem s_setZ {i : Nat} {x : Str} {e : Expr} {de : DZ} {pos2 pos3 : Pos} (hN : X.N.Nodup) (hi : X.N[i]? = some x) (he : GZ X W e de)
    (hx : Loc X.env.scope x := by first | exact Or.inl rfl | exact Or.inr rfl) (hs : swapsWith e (some (.Name x pos2)) pos3.line X.env = pure false := by rfl) (hf : X.fn x = true ∨ X.env.scope.names.lookup x = some .local := by first | exact .inl rfl | exact .inr rfl | assumption) :
    GS X W (.Assign [.Name x pos2] e pos3) (dSetZ i de) := by
  obtain ⟨te, a1, a2⟩ := he
  refine ⟨_, ps_set hN hi hx a1 hs hf, fun D E F σ H ρ env h m => a2 σ H _ _ _ _ env.all h.2 (fun v H' d s p hd => ?_) fun x d H' s hx z => ?_⟩
  · exact m.nx H' _ H' _ (env.fz.same.trans s) ((env.flat h.1 s).putP i p) hd
  · exact m.xr H' σ H' ρ x d (env.fz.same.trans s) (env.flat h.1 s) hx z
end
end L2.D3
set_option maxHeartbeats 4000000
/-! Owned trees: lists of lists, dicts. -/
namespace L2.D3
open PySem PySem.Spec PyProof.Rows
end L2.D3
set_option maxHeartbeats 4000000
/-! Lists of lists. -/
namespace L2.D3
open PySem PySem.Spec PyProof.Rows
end L2.D3
set_option maxHeartbeats 4000000
/-! One item of an owned list, set anew. -/
namespace L2.D3
open PySem PySem.Spec PyProof.Rows
section
variable {X : Cx} {K : PySem.W.Frag} {W : WX}
/-- x[b] = e, x an owned list -/
def dSetAt (i : Nat) (db de : DE) : DS := fun E ρ => match getS ρ i with
  | .ow ds => de (purF ρ) fun d => db (allF ρ) fun k => match k with
    | .int j => ∃ m, ixN ds.length j = some m ∧ E.nx (setS ρ i (.ow (ds.set m d)))
    | _ => False
  | _ => False
theorem s_setAt {i : Nat} {x : Str} {b e : Expr} {db de : DE} {p sp pos : Pos} (hb : GE X b db) (he : GE X e de) (hN : X.N[i]? = some x := by rfl) (hv : Vis X.env.scope x := by first | exact Or.inl rfl | exact Or.inr (Or.inl rfl) | exact Or.inr (Or.inr rfl)) (hdb : (x == ("__debug__" : Str)) = false := by decide) (hcd : (x == ("__classdict__" : Str)) = false := by decide)
    (hs : swapsWithSole [.Subscript (.Name x p) b sp] e pos.line X.env = pure false := by rfl) (hw : swappedStores [.Subscript (.Name x p) b sp] e X.env = pure none := by rfl)
    (h1 : (assignEach [.Subscript (.Name x p) b sp] X.env).map (·.2) = [assign (.Subscript (.Name x p) b sp) X.env] := by rfl)
    (ha : ∀ v, assign (.Subscript (.Name x p) b sp) X.env v = (do
      let ov ← holding [v] (eval (.Name x p) X.env)
      let iv ← holding [v, ov] (eval b X.env)
      standAt sp
      holding [v, ov, iv] (setItem ov iv v)
      release [v, ov, iv] []) := by intro _; rfl) :
    GS X W (.Assign [.Subscript (.Name x p) b sp] e pos) (dSetAt i db de) := by
  obtain ⟨tb, b1, b2⟩ := hb
  obtain ⟨te, a1, a2⟩ := he
  refine ⟨_, ps_asg (pe_frame a1) (pg_sub (pe_var (i := i) hN hv hdb hcd) b1 set_list ha) hs hw h1, fun D E F σ H ρ env h m => ?_⟩
  unfold dSetAt at h
  cases q : getS ρ i with
  | ow ds =>
    rw [q] at h
    refine ss_frame (k := fun v σ H' => gSub (tVar i) tb rSetL v σ H' D.nx) a2 env h fun F' H' v d s env' pv hd => ?_
    obtain ⟨a, us, h1, h2, h3, h4⟩ := env'.ow i ds q
    refine ⟨_, h1, b2 σ H' _ _ _ env'.all hd fun vk H1 dk s1 pk hk => ?_⟩
    split at hk
    · rename_i j
      obtain ⟨mm, hix, hk⟩ := hk
      cases pk
      obtain ⟨F1, sF, env1⟩ := env'.after s1
      obtain ⟨a', vs, g1, g2, g3, g4⟩ := env1.ow i ds q
      rw [h1] at g1
      cases g1
      exact ⟨a, vs, j, mm, rfl, rfl, g2, by rw [g4.len]; exact hix, m.nx F1 _ _ _ (s.trans sF) (env1.mut i q h1 (g4.set (dp_mono sF pv) mm)) hk⟩
    · exact hk.elim
  | _ => rw [q] at h; exact h.elim
end
end L2.D3
set_option maxHeartbeats 4000000
/-! e.replace of written texts, in a list whose first item has spent a token; list * int. -/
namespace L2.D3
open PySem PySem.Spec PyProof.Rows
/-! ### list * int -/
theorem int_rmul_list (a : Int) (t : Tok) (l : Addr) (items : Array Value) (n : Nat) (sl : Array (Option Value)) :
    PySem.Meets (Builtin.«int.__rmul__» ⟨[.int a t, .ref l], []⟩) (fun _ R s => s.heap.get? l = some { cls := .type "list", dict := none, data := .seq items n, slots := sl } ∧ R (.ok (.ret Value.notImplemented)) s) :=
  .of_wp fun prog w A R s h => by obtain ⟨hp, g, d, tk, os⟩ := s; obtain ⟨hl, h⟩ := h; wp_walk; exact ⟨_, rfl, h⟩
theorem list_mul_int (l : Addr) (items : Array Value) (n : Nat) (x : Int) (u : Tok) (sl : Array (Option Value)) (hc0 : ¬(!Builtin.List.listFitsIndex x) = true) (hc1 : ¬items.size * x.toNat > (2 ^ 63 - 1) / 8) (hc2 : ¬Builtin.List.listTooLong (items.size * x.toNat) = true) :
    PySem.Meets (Builtin.«list.__mul__» ⟨[.ref l, .int x u], []⟩) (fun _ R s => s.heap.get? l = some { cls := .type "list", dict := none, data := .seq items n, slots := sl } ∧ R (.ok (.ret (Value.ref s.heap.objs.size))) { s with heap := s.heap.push { cls := Value.type "list", data := Data.seq (List.foldl (fun x1 x2 => x1 ++ x2) #[] (List.replicate (if items.isEmpty = true then 0 else x.toNat) items)) }, toks := s.toks }) :=
  .of_wp fun prog w A R s h => by
    obtain ⟨hp, g, d, tk, os⟩ := s; obtain ⟨hl, h⟩ := h
    have hsz := PySem.AutoListH.joined_fits hc2
    wp_walk; refine wpAny_ite_false (decide_eq_false (Nat.not_lt.mpr hsz)) ?_; wp_walk; exact ⟨_, rfl, h⟩
def rRepL (K : PySem.W.Frag) : V → V → Hp → VK → Prop := fun x y H Q => ∃ l k xs, x = .ref l ∧ y = .int k ∧ SqL K H l xs ∧ 0 ≤ k ∧ k ≤ 1000 ∧ xs.length ≤ 1000 ∧ ∀ p, H p = none → Q (.ref p) (upd H p (.lst (List.replicate k.toNat xs).flatten))
section
variable {X : Cx}
theorem op_repL : OpR X (binaryOp .Mult) (rRepL X.K) := by
  intro pins s σ H x y v u Q I rx ry h
  obtain ⟨l, k, xs, rfl, rfl, hT, h1, h2, hz, q⟩ := h
  cases rx
  obtain ⟨t, rfl⟩ := ry
  obtain ⟨its, r, ⟨⟨cls, dd, data, sl⟩, n, ho, hc, hdd, hd⟩, hs⟩ := I.list hT
  simp only at hc hd hdd
  subst hc hd hdd
  have hle : its.length = xs.length := r.length.symm
  have hsz : its.toArray.size * k.toNat ≤ 1000 * 1000 := by
    rw [List.size_toArray, hle]
    exact Nat.mul_le_mul hz (by omega)
  have hlen : its.toArray.size * k.toNat ≤ sizeLine := by rw [sizeLine_eq]; omega
  have hcap : ¬ its.toArray.size * k.toNat > (2 ^ 63 - 1) / 8 := by omega
  have hfit : ¬ (!Builtin.List.listFitsIndex k) = true := by
    rw [fitsIndex_both (by omega) (by omega)]
    exact Bool.false_ne_true
  have hlong : ¬ Builtin.List.listTooLong (its.toArray.size * k.toNat) = true := by
    rw [notLongL hlen]
    exact Bool.false_ne_true
  have hnew : List.foldl (fun x1 x2 => x1 ++ x2) #[] (List.replicate (if its.toArray.isEmpty = true then 0 else k.toNat) its.toArray) = (List.replicate k.toNat its).flatten.toArray := by
    have f0 : ∀ m : Nat, List.foldl (fun x1 x2 => x1 ++ x2) #[] (List.replicate m its.toArray) = (List.replicate m its).flatten.toArray := fun m => by
      have := L2.foldl_rep its m []
      rw [List.nil_append] at this
      exact this
    rw [f0]
    cases its with
    | nil => simp
    | cons a r' => rw [if_neg (by simp)]
  refine wpAny_binaryOp_repeat_ref (T := "list") (U := "int") (by decide) ⟨_, ho, rfl⟩ (fun s' => typeIs_int s' k t) noFill_list_mul F.fills_int_mul F.slot_int_rmul repeat_list F.slot_int_index.lookup
    (call_meets F.slot_int_rmul (typeIs_int s k t) F.entry_int_rmul (F.args_int_rmul_2 _ _) (int_rmul_list k t l its.toArray n sl)
      ⟨ho, rfl, ⟨_, ho, rfl⟩, call_meets F.slot_list_mul ⟨_, ho, rfl⟩ F.entry_list_mul (F.args_list_mul_2 _ _) (list_mul_int l its.toArray n k t sl hfit hcap hlong) ⟨ho, ?_⟩⟩)
  rw [hnew]
  exact ⟨.ref _, _, I.lnew (t' := s.toks) (r.rep k.toNat) (by rw [PyProof.Rows.lm_len_rep_flat, Nat.mul_comm, ← hle, ← List.size_toArray]; exact hlen), rfl, q _ I.fresh⟩
def oRepL : DO := fun x y Φ => match x, y with
  | .list xs, .int k => 0 ≤ k ∧ k ≤ 1000 ∧ xs.length ≤ 1000 ∧ Φ (.list (List.replicate k.toNat xs).flatten)
  | _, _ => False
theorem o_repL : OpG X (binaryOp .Mult) oRepL := by
  refine ⟨_, op_repL, fun x y H Q dx dy Φ px py ho q => ?_⟩
  cases dx with
  | list xs =>
    cases dy with
    | int k =>
      cases py
      cases px with
      | @lst a us _ hs ha =>
        obtain ⟨h1, h2, h3, hΦ⟩ := ho
        refine ⟨a, k, us, rfl, rfl, hs, h1, h2, by rw [ha.len]; exact h3, fun p n => ?_⟩
        have s := same_new (o := .lst (List.replicate k.toNat us).flatten) n
        exact q _ _ _ s (.lst (SqL.of upd_same) ((ha.rep _).up s)) hΦ
    | _ => exact ho.elim
  | _ => exact ho.elim
/-! ### tokens -/
structure GET (X : Cx) (e : Expr) (de : DE) : Prop where
  ex : ∃ te, PET X e te ∧ SE X.K te de
variable {e : Expr} {es : List Expr} {de : DE} {da dr : DA}
theorem GET.of (h : GE X e de) : GET X e de := by
  obtain ⟨te, a1, a2⟩ := h
  exact ⟨te, fun pins s σ H Q _ I q => a1.run pins s σ H Q I q, a2⟩
end
end L2.D3
set_option maxHeartbeats 1000000
/-! What is no saying, plainly. -/
namespace L2.D3.SY
open PySem PySem.Spec PyProof.Rows L2.D3
open SX (S)
theorem drop_wAt {ws : List Str} {k : Nat} (h : k < ws.length) : ws.drop k = wAt ws k :: ws.drop (k + 1) := by
  unfold wAt
  rw [List.getD_eq_getElem?_getD, List.getElem?_eq_getElem h]
  exact List.drop_eq_getElem_cons h
theorem drop_plus {ws : List Str} {k : Nat} {a q : List Str} (h : ws.drop k = a ++ q) : ws.drop (k + a.length) = q := by
  rw [← List.drop_drop, h, List.drop_left]
/-- what is read is what stands there -/
theorem pr_sound : ∀ (n : Nat) (ws : List Str) (k : Nat) (x : Sy × Nat), pr n ws k = some x → Ok x.1 ∧ x.2 = k + (wds x.1).length ∧ ∃ q, ws.drop k = wds x.1 ++ q
  | 0, ws, k, x, h => by cases h
  | n + 1, ws, k, x, h => by
    by_cases c1 : wAt ws k = "all"
    · rw [pr_all c1] at h
      cases h
      have kl : k < ws.length := wAt_lt (by rw [c1]; decide)
      exact ⟨trivial, rfl, _, by rw [drop_wAt kl, c1]; rfl⟩
    by_cases c2 : wAt ws k = "none"
    · rw [pr_none c2] at h
      cases h
      have kl : k < ws.length := wAt_lt (by rw [c2]; decide)
      exact ⟨trivial, rfl, _, by rw [drop_wAt kl, c2]; rfl⟩
    by_cases c3 : wAt ws k = "not"
    · have kl : k < ws.length := wAt_lt (by rw [c3]; decide)
      rw [pr_not c3] at h
      cases e : pr n ws (k + 1) with
      | none => rw [e] at h; cases h
      | some y =>
        obtain ⟨t, m⟩ := y
        rw [e] at h
        cases h
        obtain ⟨i1, i2, q, i3⟩ := pr_sound n ws (k + 1) _ e
        simp only at i1 i2 i3 ⊢
        refine ⟨i1, ?_, q, ?_⟩
        · simp only [wds, List.length_cons]; omega
        · rw [drop_wAt kl, c3, i3]; rfl
    by_cases c4 : wAt ws k = "("
    · have kl : k < ws.length := wAt_lt (by rw [c4]; decide)
      rw [pr_op c4] at h
      unfold prP at h
      cases e : pr n ws (k + 1) with
      | none => rw [e] at h; cases h
      | some y =>
        obtain ⟨a, m⟩ := y
        rw [e] at h
        simp only at h
        obtain ⟨i1, i2, q, i3⟩ := pr_sound n ws (k + 1) _ e
        simp only at i1 i2 i3
        by_cases cm : wAt ws m = "and" ∨ wAt ws m = "or"
        · rw [if_pos cm] at h
          have ml : m < ws.length := wAt_lt (by rcases cm with z | z <;> rw [z] <;> decide)
          have dm : ws.drop m = q := by rw [i2]; exact drop_plus i3
          rw [drop_wAt ml] at dm
          cases e2 : pr n ws (m + 1) with
          | none => rw [e2] at h; cases h
          | some y2 =>
            obtain ⟨b, e'⟩ := y2
            rw [e2] at h
            simp only at h
            obtain ⟨j1, j2, q2, j3⟩ := pr_sound n ws (m + 1) _ e2
            simp only at j1 j2 j3
            by_cases ce : wAt ws e' = ")"
            · rw [if_pos ce] at h
              have el : e' < ws.length := wAt_lt (by rw [ce]; decide)
              have de : ws.drop e' = q2 := by rw [j2]; exact drop_plus j3
              rw [drop_wAt el] at de
              cases h
              by_cases ca : wAt ws m = "and"
              · simp only [if_pos ca]
                refine ⟨⟨i1, j1⟩, ?_, ws.drop (e' + 1), ?_⟩
                · simp only [wds, List.length_cons, List.length_append, List.length_nil]; omega
                · rw [drop_wAt kl, c4, i3, ← dm, ca, j3, ← de, ce]
                  simp [wds]
              · have co : wAt ws m = "or" := by
                  rcases cm with z | z
                  · exact absurd z ca
                  · exact z
                simp only [if_neg ca]
                refine ⟨⟨i1, j1⟩, ?_, ws.drop (e' + 1), ?_⟩
                · simp only [wds, List.length_cons, List.length_append, List.length_nil]; omega
                · rw [drop_wAt kl, c4, i3, ← dm, co, j3, ← de, ce]
                  simp [wds]
            · rw [if_neg ce] at h; cases h
        · rw [if_neg cm] at h; cases h
    by_cases c5 : wAt ws k = "sheet" ∧ isNm (wAt ws (k + 1)) = true
    · have kl : k < ws.length := wAt_lt (by rw [c5.1]; decide)
      have kl1 : k + 1 < ws.length := wAt_lt (fun z => by have q := c5.2; rw [z] at q; revert q; decide)
      rw [pr_sheet c5.1 c5.2] at h
      cases h
      exact ⟨c5.2, rfl, _, by rw [drop_wAt kl, c5.1, drop_wAt kl1]; rfl⟩
    rw [pr_name c1 c2 c3 c4 c5] at h
    by_cases c6 : isNm (wAt ws k) = true
    · have kl : k < ws.length := wAt_lt (fun z => by have q := c6; rw [z] at q; revert q; decide)
      rw [if_pos c6] at h
      cases h
      exact ⟨c6, rfl, _, by rw [drop_wAt kl]; rfl⟩
    · rw [if_neg c6] at h; cases h
theorem pr_le {n : Nat} {ws : List Str} {k : Nat} {x : Sy × Nat} (hk : k ≤ ws.length) (h : pr n ws k = some x) : x.2 ≤ ws.length := by
  obtain ⟨_, h2, q, h3⟩ := pr_sound n ws k x h
  have := congrArg List.length h3
  rw [List.length_drop, List.length_append] at this
  omega
/-! ### as the law reads -/
def oE : Option (Sy × Nat) → Int
  | some x => x.2
  | none => -1
theorem wAt_ge {ws : List Str} {k : Nat} (h : ws.length ≤ k) : wAt ws k = "" := by
  unfold wAt
  rw [List.getD_eq_getElem?_getD, List.getElem?_eq_none h]
  rfl
theorem nm_empty : ¬ isNm "" = true := by decide
/-! ### texts -/
theorem join_splW (s : Nat) : ∀ (l acc : List Nat), TL.joinL [s] (TL.spl [s] 0 acc l) = acc ++ l
  | [], acc => by
    rw [TL.spl_nil, List.append_nil]
    rfl
  | c :: l, acc => by
    by_cases k : TL.pre [s] (c :: l) = true
    · rw [TL.spl_hit k]
      have ec : c = s := by
        have e : (c :: l).take [s].length = [s] := eq_of_beq k
        simpa using e
      show TL.joinL [s] (acc :: TL.spl [s] 0 [] l) = _
      have ih := join_splW s l []
      cases q : TL.spl [s] 0 [] l with
      | nil =>
        exfalso
        cases l with
        | nil => rw [TL.spl_nil] at q; cases q
        | cons d l =>
          by_cases k2 : TL.pre [s] (d :: l) = true
          · rw [TL.spl_hit k2] at q; cases q
          · rw [TL.spl_miss (by simpa using k2)] at q
            have := join_splW s l [d]
            rw [show ([] : List Nat) ++ [d] = [d] from rfl] at q
            rw [q] at this
            simp [TL.joinL] at this
      | cons p r =>
        rw [q] at ih
        show acc ++ ([s] ++ TL.joinL [s] (p :: r)) = _
        rw [ih, ec]
        simp
    · rw [TL.spl_miss (by simpa using k), join_splW s l (acc ++ [c])]
      simp
theorem tx_of {z : Str} {t : Sy} (h : Txt.split z " " = wds t) : tx t = z := by
  have e32 : (" " : Str) = S [32] := rfl
  refine TL.ext_tl ?_
  show cw (tx t) = cw z
  rw [cw_tx t, ← h]
  unfold tj
  rw [e32, ← SX.S_tl z, SX.split_S (by simp) (by decide), List.map_map]
  have e : (TL.spl [32] 0 [] (cw z)).map (cw ∘ S) = TL.spl [32] 0 [] (cw z) := by
    conv => rhs; rw [← List.map_id (TL.spl [32] 0 [] (cw z))]
    exact List.map_congr_left fun w _ => rfl
  show TL.joinL [32] ((TL.spl [32] 0 [] (cw z)).map (cw ∘ S)) = cw (S (cw z))
  rw [e, join_splW]
  rfl
end L2.D3.SY
set_option maxHeartbeats 1000000
/-! What is no saying: the law. -/
namespace L2.D3.SY
open PySem PySem.Spec PyProof.Rows L2.D3
open SX (S)
theorem readW_some {ws : List Str} {t : Sy} (h : readW ws = some t) : ws = wds t ∧ Ok t ∧ (wds t).length ≤ 40 := by
  unfold readW at h
  by_cases c : ws.length ≤ 40
  · rw [if_pos c] at h
    cases e : pr 41 ws 0 with
    | none => rw [e] at h; cases h
    | some x =>
      obtain ⟨u, m⟩ := x
      rw [e] at h
      simp only at h
      by_cases c2 : m < ws.length
      · rw [if_pos c2] at h; cases h
      · rw [if_neg c2] at h
        cases h
        obtain ⟨h1, h2, q, h3⟩ := pr_sound 41 ws 0 _ e
        simp only [List.drop_zero, Nat.zero_add] at h1 h2 h3
        have l := congrArg List.length h3
        rw [List.length_append] at l
        have hq : q = [] := List.length_eq_zero_iff.mp (by omega)
        rw [hq, List.append_nil] at h3
        exact ⟨h3, h1, by rw [← h3]; exact c⟩
  · rw [if_neg c] at h; cases h
theorem readW_iff (ws : List Str) : (readW ws).isSome = true ↔ ws.length ≤ 40 ∧ oE (pr 41 ws 0) = ws.length := by
  unfold readW
  by_cases c : ws.length ≤ 40
  · rw [if_pos c]
    cases e : pr 41 ws 0 with
    | none =>
      simp only [oE]
      constructor
      · intro z; cases z
      · intro z; omega
    | some x =>
      have := pr_le (Nat.zero_le _) e
      simp only [oE]
      by_cases c2 : x.2 < ws.length
      · rw [if_pos c2]
        constructor
        · intro z; cases z
        · intro z; omega
      · rw [if_neg c2]
        exact ⟨fun _ => ⟨c, by omega⟩, fun _ => rfl⟩
  · rw [if_neg c]
    constructor
    · intro z; cases z
    · intro z; exact absurd z.1 c
theorem readS_some {d : Dt} {t : Sy} (h : readS d = some t) : d = .str (tx t) ∧ Ok t ∧ (wds t).length ≤ 40 := by
  cases d with
  | str z =>
    obtain ⟨h1, h2, h3⟩ := readW_some (ws := Txt.split z " ") h
    exact ⟨by rw [tx_of h1], h2, h3⟩
  | _ => cases h
/-! ### names by the law -/
def sp__law_is_name : DSp := fun ds Φ _ => ∃ z : Str, ds = [.str z] ∧ okD (.str z) ∧ Φ (.pu (.bool (isNm z)))
def spr__law_behind (n : Nat) : DSp := fun ds Φ _ => ∃ (ws : List Str) (k : Nat), ds = [.list (ws.map .str), .int k] ∧ OkWs ws ∧ k ≤ ws.length ∧ ws.length + 1 ≤ n + k ∧ Φ (.pu (.int (oE (pr n ws k))))
def sp__law_behind : DSp := spr__law_behind 41
abbrev N__law_is_name : List Str := ["_law_word", "_law_sign"]
def d__law_is_name : DS := (dSeq (dIf (dTOr (dTNot (dTV (dChn oLt oLt (dC (.int 0)) (dB bLen (dCons (dV 0) dNil)) (dC (.int 9))))) (dTV (dBin oIn (dV 0) (dLst (dCons (dC (.str "and")) (dCons (dC (.str "or")) (dCons (dC (.str "not")) (dCons (dC (.str "all")) (dCons (dC (.str "none")) (dCons (dC (.str "sheet")) dNil)))))))))) (dRet (dC (.bool false))) dNext)
  (dRet (dB bAll (dCons (dFE (dLc [1] (diSeq (dV 0)) (dcN 1) dYes (dBin oIn (dV 1) (dC (.str "abcdefghijklmnopqrstuvwxyz"))))) dNil))))
abbrev N__law_behind : List Str := ["_law_words_here", "_law_at", "_law_middle", "_law_end"]
def d__law_behind (n : Nat) : DS := (dSeq (dIf (dTV (dBin oGe (dV 1) (dB bLen (dCons (dV 0) dNil)))) (dRet (dNeg (dC (.int 1)))) dNext)
  (dSeq (dIf (dTOr (dTV (dBin oIn (dBin oIx (dV 0) (dV 1)) (dTup (dCons (dC (.str "all")) (dCons (dC (.str "none")) dNil))))) (dTV (dCall sp__law_is_name (dCons (dBin oIx (dV 0) (dV 1)) dNil)))) (dRet (dBin oAddU (dV 1) (dC (.int 1)))) dNext)
  (dSeq (dIf (dTV (dBin oEq (dBin oIx (dV 0) (dV 1)) (dC (.str "not")))) (dRet (dCall (spr__law_behind n) (dCons (dV 0) (dCons (dBin oAddU (dV 1) (dC (.int 1))) dNil)))) dNext)
  (dSeq (dIf (dTAnd (dTV (dBin oEq (dBin oIx (dV 0) (dV 1)) (dC (.str "sheet")))) (dTAnd (dTV (dBin oLt (dBin oAddU (dV 1) (dC (.int 1))) (dB bLen (dCons (dV 0) dNil)))) (dTV (dCall sp__law_is_name (dCons (dBin oIx (dV 0) (dBin oAddU (dV 1) (dC (.int 1)))) dNil))))) (dRet (dBin oAddU (dV 1) (dC (.int 2)))) dNext)
  (dSeq (dIf (dTV (dBin oNe (dBin oIx (dV 0) (dV 1)) (dC (.str "(")))) (dRet (dNeg (dC (.int 1)))) dNext)
  (dSeq (dSetP 2 (dCall (spr__law_behind n) (dCons (dV 0) (dCons (dBin oAddU (dV 1) (dC (.int 1))) dNil))))
  (dSeq (dIf (dTOr (dTV (dBin oLt (dV 2) (dC (.int 0)))) (dTOr (dTV (dBin oGe (dV 2) (dB bLen (dCons (dV 0) dNil)))) (dTV (dBin oNin (dBin oIx (dV 0) (dV 2)) (dTup (dCons (dC (.str "and")) (dCons (dC (.str "or")) dNil))))))) (dRet (dNeg (dC (.int 1)))) dNext)
  (dSeq (dSetP 3 (dCall (spr__law_behind n) (dCons (dV 0) (dCons (dBin oAddU (dV 2) (dC (.int 1))) dNil))))
  (dSeq (dIf (dTOr (dTV (dBin oLt (dV 3) (dC (.int 0)))) (dTOr (dTV (dBin oGe (dV 3) (dB bLen (dCons (dV 0) dNil)))) (dTV (dBin oNe (dBin oIx (dV 0) (dV 3)) (dC (.str ")")))))) (dRet (dNeg (dC (.int 1)))) dNext)
  (dRet (dBin oAddU (dV 3) (dC (.int 1)))))))))))))
theorem rd__law_is_name (ds : List Dt) (Φ : Slot → Prop) (Ξ : XD → Prop) (h : sp__law_is_name ds Φ Ξ) : d__law_is_name (endsOf Φ Ξ) (rho0 N__law_is_name ds) := by
  obtain ⟨z, rfl, ho, h⟩ := h
  have hz : (100000 : Nat) < sizeLine := by decide
  unfold d__law_is_name
  rw [N6.words_lst]
  simp only [N__law_is_name, dRet, dRetF, dSetX, dCallX, dRetX, noOw, dTry, dCpy, dRaise, dRetO, dSetP, dSetS, dSetF, dSeq, dIf, dNext, dCall, dCallF, dB, dBin, dCons, dNil, dTup, dLst, dV, dC, dTV, onB, dTAnd, dTOr, dTNot, dAnd, dOr, dNot, dIfE, dIsN, dNotN, isN, dSl, dSlF, dNoPart, dPart, dPar, dParS, dAsg, dgN, dgT, dgCons, dgNil, dFE, dIsi, dListF, dNeg, dRev, dFrz, dApp, dAppS, dIns, dExtend, dClear, dReverse, dPop, oIx, oI, oIC, oAddU, oSubI, oMulU, oMulI, oFd, oMd, oPw, oLt, oLe, oGt, oGe, oEq, oNe, getF, setF, Cl.d, getS, setS, purF_nil, purF_cons, purH, allF_nil, allF_cons, allH, rho0, endsOf, scalD, bLen, bAbs, bInt, bIntU, bTup, true_and, and_true, Option.some.injEq, exists_eq_left', decide_eq_true_eq, Bool.not_eq_true', decide_eq_false_iff_not, it_eQ0, it_eQ1, it_eP0, it_eP1, it_eS0, it_eS1, fits_eQ, fits_eP, fits_eS, eqv_eQ, eqv_eP, eqv_eS, eqv_int, eqv_bool, shp_int, shp_bool, shp_none, shp_eQ, shp_eP, shp_eS, dCont, dBreak, dXi, dSetG, dAppG, oIsB, oNotB, dTx, pJoin, pSplit, pPart, pStarts, bStr, bIntS, dFmt, dJs, ↓reduceIte, nsp_none, nsp_bool, nsp_int, nsp_str, nsp_list, nsp_tuple, nsp_eQ, nsp_eP, nsp_eS, dat_pu, dat_ow, seqD_l, seqD_t, not_true_eq_false, Bool.true_eq_false, Bool.not_not, List.length_cons, List.length_nil, mkP, mkS, fits_list, fits_tuple, isIntD, isBoolD, isListD, isStrD, isTupD, Bool.not_true, Bool.not_false, Bool.false_eq_true, it_l0, it_l1, it_l2, it_t0, it_t1, it_t2, shp_ps, shp_pt, shp_ss, shp_is, seqD_eQ, seqD_eP, seqD_eS, walkD_eP, walkD_eS, walkD_l, walkD_t]
  simp only [okD] at ho
  obtain ⟨ho, hk⟩ := ho
  have hk2 := shp_str hk
  have hk3 := shp_chars hk
  simp only [dChn, hk2, N6.shp_wl, oIn, any_str, isNm, dRet, dRetF, dSetX, dCallX, dRetX, noOw, dTry, dCpy, dRaise, dRetO, dSetP, dSetS, dSetF, dSeq, dIf, dNext, dCall, dCallF, dB, dBin, dCons, dNil, dTup, dLst, dV, dC, dTV, onB, dTAnd, dTOr, dTNot, dAnd, dOr, dNot, dIfE, dIsN, dNotN, isN, dSl, dSlF, dNoPart, dPart, dPar, dParS, dAsg, dgN, dgT, dgCons, dgNil, dFE, dIsi, dListF, dNeg, dRev, dFrz, dApp, dAppS, dIns, dExtend, dClear, dReverse, dPop, oIx, oI, oIC, oAddU, oSubI, oMulU, oMulI, oFd, oMd, oPw, oLt, oLe, oGt, oGe, oEq, oNe, getF, setF, Cl.d, getS, setS, purF_nil, purF_cons, purH, allF_nil, allF_cons, allH, rho0, endsOf, scalD, bLen, bAbs, bInt, bIntU, bTup, true_and, and_true, Option.some.injEq, exists_eq_left', decide_eq_true_eq, Bool.not_eq_true', decide_eq_false_iff_not, it_eQ0, it_eQ1, it_eP0, it_eP1, it_eS0, it_eS1, fits_eQ, fits_eP, fits_eS, eqv_eQ, eqv_eP, eqv_eS, eqv_int, eqv_bool, shp_int, shp_bool, shp_none, shp_eQ, shp_eP, shp_eS, dCont, dBreak, dXi, dSetG, dAppG, oIsB, oNotB, dTx, pJoin, pSplit, pPart, pStarts, bStr, bIntS, dFmt, dJs, ↓reduceIte, nsp_none, nsp_bool, nsp_int, nsp_str, nsp_list, nsp_tuple, nsp_eQ, nsp_eP, nsp_eS, dat_pu, dat_ow, seqD_l, seqD_t, not_true_eq_false, Bool.true_eq_false, Bool.not_not, List.length_cons, List.length_nil, mkP, mkS, fits_list, fits_tuple, isIntD, isBoolD, isListD, isStrD, isTupD, Bool.not_true, Bool.not_false, Bool.false_eq_true, it_l0, it_l1, it_l2, it_t0, it_t1, it_t2, shp_ps, shp_pt, shp_ss, shp_is, seqD_eQ, seqD_eP, seqD_eS, walkD_eP, walkD_eS, walkD_l, walkD_t] at h ⊢
  refine ⟨by omega, ?_⟩
  by_cases c1 : 1 ≤ z.length
  · have c1' : (0 : Int) < z.length := by omega
    simp only [c1, c1', dRet, dRetF, dSetX, dCallX, dRetX, noOw, dTry, dCpy, dRaise, dRetO, dSetP, dSetS, dSetF, dSeq, dIf, dNext, dCall, dCallF, dB, dBin, dCons, dNil, dTup, dLst, dV, dC, dTV, onB, dTAnd, dTOr, dTNot, dAnd, dOr, dNot, dIfE, dIsN, dNotN, isN, dSl, dSlF, dNoPart, dPart, dPar, dParS, dAsg, dgN, dgT, dgCons, dgNil, dFE, dIsi, dListF, dNeg, dRev, dFrz, dApp, dAppS, dIns, dExtend, dClear, dReverse, dPop, oIx, oI, oIC, oAddU, oSubI, oMulU, oMulI, oFd, oMd, oPw, oLt, oLe, oGt, oGe, oEq, oNe, getF, setF, Cl.d, getS, setS, purF_nil, purF_cons, purH, allF_nil, allF_cons, allH, rho0, endsOf, scalD, bLen, bAbs, bInt, bIntU, bTup, true_and, and_true, Option.some.injEq, exists_eq_left', decide_eq_true_eq, Bool.not_eq_true', decide_eq_false_iff_not, it_eQ0, it_eQ1, it_eP0, it_eP1, it_eS0, it_eS1, fits_eQ, fits_eP, fits_eS, eqv_eQ, eqv_eP, eqv_eS, eqv_int, eqv_bool, shp_int, shp_bool, shp_none, shp_eQ, shp_eP, shp_eS, dCont, dBreak, dXi, dSetG, dAppG, oIsB, oNotB, dTx, pJoin, pSplit, pPart, pStarts, bStr, bIntS, dFmt, dJs, ↓reduceIte, nsp_none, nsp_bool, nsp_int, nsp_str, nsp_list, nsp_tuple, nsp_eQ, nsp_eP, nsp_eS, dat_pu, dat_ow, seqD_l, seqD_t, not_true_eq_false, Bool.true_eq_false, Bool.not_not, List.length_cons, List.length_nil, mkP, mkS, fits_list, fits_tuple, isIntD, isBoolD, isListD, isStrD, isTupD, Bool.not_true, Bool.not_false, Bool.false_eq_true, it_l0, it_l1, it_l2, it_t0, it_t1, it_t2, shp_ps, shp_pt, shp_ss, shp_is, seqD_eQ, seqD_eP, seqD_eS, walkD_eP, walkD_eS, walkD_l, walkD_t] at h ⊢
    by_cases c2 : z.length ≤ 8
    · have c2' : (z.length : Int) < 9 := by omega
      simp only [c2, c2', dRet, dRetF, dSetX, dCallX, dRetX, noOw, dTry, dCpy, dRaise, dRetO, dSetP, dSetS, dSetF, dSeq, dIf, dNext, dCall, dCallF, dB, dBin, dCons, dNil, dTup, dLst, dV, dC, dTV, onB, dTAnd, dTOr, dTNot, dAnd, dOr, dNot, dIfE, dIsN, dNotN, isN, dSl, dSlF, dNoPart, dPart, dPar, dParS, dAsg, dgN, dgT, dgCons, dgNil, dFE, dIsi, dListF, dNeg, dRev, dFrz, dApp, dAppS, dIns, dExtend, dClear, dReverse, dPop, oIx, oI, oIC, oAddU, oSubI, oMulU, oMulI, oFd, oMd, oPw, oLt, oLe, oGt, oGe, oEq, oNe, getF, setF, Cl.d, getS, setS, purF_nil, purF_cons, purH, allF_nil, allF_cons, allH, rho0, endsOf, scalD, bLen, bAbs, bInt, bIntU, bTup, true_and, and_true, Option.some.injEq, exists_eq_left', decide_eq_true_eq, Bool.not_eq_true', decide_eq_false_iff_not, it_eQ0, it_eQ1, it_eP0, it_eP1, it_eS0, it_eS1, fits_eQ, fits_eP, fits_eS, eqv_eQ, eqv_eP, eqv_eS, eqv_int, eqv_bool, shp_int, shp_bool, shp_none, shp_eQ, shp_eP, shp_eS, dCont, dBreak, dXi, dSetG, dAppG, oIsB, oNotB, dTx, pJoin, pSplit, pPart, pStarts, bStr, bIntS, dFmt, dJs, ↓reduceIte, nsp_none, nsp_bool, nsp_int, nsp_str, nsp_list, nsp_tuple, nsp_eQ, nsp_eP, nsp_eS, dat_pu, dat_ow, seqD_l, seqD_t, not_true_eq_false, Bool.true_eq_false, Bool.not_not, List.length_cons, List.length_nil, mkP, mkS, fits_list, fits_tuple, isIntD, isBoolD, isListD, isStrD, isTupD, Bool.not_true, Bool.not_false, Bool.false_eq_true, it_l0, it_l1, it_l2, it_t0, it_t1, it_t2, shp_ps, shp_pt, shp_ss, shp_is, seqD_eQ, seqD_eP, seqD_eS, walkD_eP, walkD_eS, walkD_l, walkD_t] at h ⊢
      by_cases c3 : z ∈ WRDS
      · simp only [c3, dRet, dRetF, dSetX, dCallX, dRetX, noOw, dTry, dCpy, dRaise, dRetO, dSetP, dSetS, dSetF, dSeq, dIf, dNext, dCall, dCallF, dB, dBin, dCons, dNil, dTup, dLst, dV, dC, dTV, onB, dTAnd, dTOr, dTNot, dAnd, dOr, dNot, dIfE, dIsN, dNotN, isN, dSl, dSlF, dNoPart, dPart, dPar, dParS, dAsg, dgN, dgT, dgCons, dgNil, dFE, dIsi, dListF, dNeg, dRev, dFrz, dApp, dAppS, dIns, dExtend, dClear, dReverse, dPop, oIx, oI, oIC, oAddU, oSubI, oMulU, oMulI, oFd, oMd, oPw, oLt, oLe, oGt, oGe, oEq, oNe, getF, setF, Cl.d, getS, setS, purF_nil, purF_cons, purH, allF_nil, allF_cons, allH, rho0, endsOf, scalD, bLen, bAbs, bInt, bIntU, bTup, true_and, and_true, Option.some.injEq, exists_eq_left', decide_eq_true_eq, Bool.not_eq_true', decide_eq_false_iff_not, it_eQ0, it_eQ1, it_eP0, it_eP1, it_eS0, it_eS1, fits_eQ, fits_eP, fits_eS, eqv_eQ, eqv_eP, eqv_eS, eqv_int, eqv_bool, shp_int, shp_bool, shp_none, shp_eQ, shp_eP, shp_eS, dCont, dBreak, dXi, dSetG, dAppG, oIsB, oNotB, dTx, pJoin, pSplit, pPart, pStarts, bStr, bIntS, dFmt, dJs, ↓reduceIte, nsp_none, nsp_bool, nsp_int, nsp_str, nsp_list, nsp_tuple, nsp_eQ, nsp_eP, nsp_eS, dat_pu, dat_ow, seqD_l, seqD_t, not_true_eq_false, Bool.true_eq_false, Bool.not_not, List.length_cons, List.length_nil, mkP, mkS, fits_list, fits_tuple, isIntD, isBoolD, isListD, isStrD, isTupD, Bool.not_true, Bool.not_false, Bool.false_eq_true, it_l0, it_l1, it_l2, it_t0, it_t1, it_t2, shp_ps, shp_pt, shp_ss, shp_is, seqD_eQ, seqD_eP, seqD_eS, walkD_eP, walkD_eS, walkD_l, walkD_t] at h ⊢
        simpa using h
      · simp only [c3, dRet, dRetF, dSetX, dCallX, dRetX, noOw, dTry, dCpy, dRaise, dRetO, dSetP, dSetS, dSetF, dSeq, dIf, dNext, dCall, dCallF, dB, dBin, dCons, dNil, dTup, dLst, dV, dC, dTV, onB, dTAnd, dTOr, dTNot, dAnd, dOr, dNot, dIfE, dIsN, dNotN, isN, dSl, dSlF, dNoPart, dPart, dPar, dParS, dAsg, dgN, dgT, dgCons, dgNil, dFE, dIsi, dListF, dNeg, dRev, dFrz, dApp, dAppS, dIns, dExtend, dClear, dReverse, dPop, oIx, oI, oIC, oAddU, oSubI, oMulU, oMulI, oFd, oMd, oPw, oLt, oLe, oGt, oGe, oEq, oNe, getF, setF, Cl.d, getS, setS, purF_nil, purF_cons, purH, allF_nil, allF_cons, allH, rho0, endsOf, scalD, bLen, bAbs, bInt, bIntU, bTup, true_and, and_true, Option.some.injEq, exists_eq_left', decide_eq_true_eq, Bool.not_eq_true', decide_eq_false_iff_not, it_eQ0, it_eQ1, it_eP0, it_eP1, it_eS0, it_eS1, fits_eQ, fits_eP, fits_eS, eqv_eQ, eqv_eP, eqv_eS, eqv_int, eqv_bool, shp_int, shp_bool, shp_none, shp_eQ, shp_eP, shp_eS, dCont, dBreak, dXi, dSetG, dAppG, oIsB, oNotB, dTx, pJoin, pSplit, pPart, pStarts, bStr, bIntS, dFmt, dJs, ↓reduceIte, nsp_none, nsp_bool, nsp_int, nsp_str, nsp_list, nsp_tuple, nsp_eQ, nsp_eP, nsp_eS, dat_pu, dat_ow, seqD_l, seqD_t, not_true_eq_false, Bool.true_eq_false, Bool.not_not, List.length_cons, List.length_nil, mkP, mkS, fits_list, fits_tuple, isIntD, isBoolD, isListD, isStrD, isTupD, Bool.not_true, Bool.not_false, Bool.false_eq_true, it_l0, it_l1, it_l2, it_t0, it_t1, it_t2, shp_ps, shp_pt, shp_ss, shp_is, seqD_eQ, seqD_eP, seqD_eS, walkD_eP, walkD_eS, walkD_l, walkD_t] at h ⊢
        refine dLc_mapM (xs := z.cps.toList) (e := fun c => .str ⟨#[c]⟩) (fun Q hQ => ?_) (fun c => .bool (decide (c ∈ LETS))) ?_ (fun s hs Ψ hΨ => ?_) ?_
        · simp only [diSeq, walkD, dRet, dRetF, dSetX, dCallX, dRetX, noOw, dTry, dCpy, dRaise, dRetO, dSetP, dSetS, dSetF, dSeq, dIf, dNext, dCall, dCallF, dB, dBin, dCons, dNil, dTup, dLst, dV, dC, dTV, onB, dTAnd, dTOr, dTNot, dAnd, dOr, dNot, dIfE, dIsN, dNotN, isN, dSl, dSlF, dNoPart, dPart, dPar, dParS, dAsg, dgN, dgT, dgCons, dgNil, dFE, dIsi, dListF, dNeg, dRev, dFrz, dApp, dAppS, dIns, dExtend, dClear, dReverse, dPop, oIx, oI, oIC, oAddU, oSubI, oMulU, oMulI, oFd, oMd, oPw, oLt, oLe, oGt, oGe, oEq, oNe, getF, setF, Cl.d, getS, setS, purF_nil, purF_cons, purH, allF_nil, allF_cons, allH, rho0, endsOf, scalD, bLen, bAbs, bInt, bIntU, bTup, true_and, and_true, Option.some.injEq, exists_eq_left', decide_eq_true_eq, Bool.not_eq_true', decide_eq_false_iff_not, it_eQ0, it_eQ1, it_eP0, it_eP1, it_eS0, it_eS1, fits_eQ, fits_eP, fits_eS, eqv_eQ, eqv_eP, eqv_eS, eqv_int, eqv_bool, shp_int, shp_bool, shp_none, shp_eQ, shp_eP, shp_eS, dCont, dBreak, dXi, dSetG, dAppG, oIsB, oNotB, dTx, pJoin, pSplit, pPart, pStarts, bStr, bIntS, dFmt, dJs, ↓reduceIte, nsp_none, nsp_bool, nsp_int, nsp_str, nsp_list, nsp_tuple, nsp_eQ, nsp_eP, nsp_eS, dat_pu, dat_ow, seqD_l, seqD_t, not_true_eq_false, Bool.true_eq_false, Bool.not_not, List.length_cons, List.length_nil, mkP, mkS, fits_list, fits_tuple, isIntD, isBoolD, isListD, isStrD, isTupD, Bool.not_true, Bool.not_false, Bool.false_eq_true, it_l0, it_l1, it_l2, it_t0, it_t1, it_t2, shp_ps, shp_pt, shp_ss, shp_is, seqD_eQ, seqD_eP, seqD_eS, walkD_eP, walkD_eS, walkD_l, walkD_t]
          exact hQ
        · have : z.cps.toList.length = z.length := by simp [Str.length]
          omega
        · simp only [dcN, wipeF, noneF, oIn, hk3 s hs, shp_letters, lets_eq, dRet, dRetF, dSetX, dCallX, dRetX, noOw, dTry, dCpy, dRaise, dRetO, dSetP, dSetS, dSetF, dSeq, dIf, dNext, dCall, dCallF, dB, dBin, dCons, dNil, dTup, dLst, dV, dC, dTV, onB, dTAnd, dTOr, dTNot, dAnd, dOr, dNot, dIfE, dIsN, dNotN, isN, dSl, dSlF, dNoPart, dPart, dPar, dParS, dAsg, dgN, dgT, dgCons, dgNil, dFE, dIsi, dListF, dNeg, dRev, dFrz, dApp, dAppS, dIns, dExtend, dClear, dReverse, dPop, oIx, oI, oIC, oAddU, oSubI, oMulU, oMulI, oFd, oMd, oPw, oLt, oLe, oGt, oGe, oEq, oNe, getF, setF, Cl.d, getS, setS, purF_nil, purF_cons, purH, allF_nil, allF_cons, allH, rho0, endsOf, scalD, bLen, bAbs, bInt, bIntU, bTup, true_and, and_true, Option.some.injEq, exists_eq_left', decide_eq_true_eq, Bool.not_eq_true', decide_eq_false_iff_not, it_eQ0, it_eQ1, it_eP0, it_eP1, it_eS0, it_eS1, fits_eQ, fits_eP, fits_eS, eqv_eQ, eqv_eP, eqv_eS, eqv_int, eqv_bool, shp_int, shp_bool, shp_none, shp_eQ, shp_eP, shp_eS, dCont, dBreak, dXi, dSetG, dAppG, oIsB, oNotB, dTx, pJoin, pSplit, pPart, pStarts, bStr, bIntS, dFmt, dJs, ↓reduceIte, nsp_none, nsp_bool, nsp_int, nsp_str, nsp_list, nsp_tuple, nsp_eQ, nsp_eP, nsp_eS, dat_pu, dat_ow, seqD_l, seqD_t, not_true_eq_false, Bool.true_eq_false, Bool.not_not, List.length_cons, List.length_nil, mkP, mkS, fits_list, fits_tuple, isIntD, isBoolD, isListD, isStrD, isTupD, Bool.not_true, Bool.not_false, Bool.false_eq_true, it_l0, it_l1, it_l2, it_t0, it_t1, it_t2, shp_ps, shp_pt, shp_ss, shp_is, seqD_eQ, seqD_eP, seqD_eS, walkD_eP, walkD_eS, walkD_l, walkD_t]
          exact ⟨rfl, hΨ⟩
        · refine ⟨z.cps.toList.map fun c => decide (c ∈ LETS), by rw [List.map_map]; rfl, ?_⟩
          refine all_lets z (fun b => Φ (.pu (.bool b))) ?_
          simpa using h
    · have c2' : ¬ (z.length : Int) < 9 := by omega
      simp only [c2, c2', dRet, dRetF, dSetX, dCallX, dRetX, noOw, dTry, dCpy, dRaise, dRetO, dSetP, dSetS, dSetF, dSeq, dIf, dNext, dCall, dCallF, dB, dBin, dCons, dNil, dTup, dLst, dV, dC, dTV, onB, dTAnd, dTOr, dTNot, dAnd, dOr, dNot, dIfE, dIsN, dNotN, isN, dSl, dSlF, dNoPart, dPart, dPar, dParS, dAsg, dgN, dgT, dgCons, dgNil, dFE, dIsi, dListF, dNeg, dRev, dFrz, dApp, dAppS, dIns, dExtend, dClear, dReverse, dPop, oIx, oI, oIC, oAddU, oSubI, oMulU, oMulI, oFd, oMd, oPw, oLt, oLe, oGt, oGe, oEq, oNe, getF, setF, Cl.d, getS, setS, purF_nil, purF_cons, purH, allF_nil, allF_cons, allH, rho0, endsOf, scalD, bLen, bAbs, bInt, bIntU, bTup, true_and, and_true, Option.some.injEq, exists_eq_left', decide_eq_true_eq, Bool.not_eq_true', decide_eq_false_iff_not, it_eQ0, it_eQ1, it_eP0, it_eP1, it_eS0, it_eS1, fits_eQ, fits_eP, fits_eS, eqv_eQ, eqv_eP, eqv_eS, eqv_int, eqv_bool, shp_int, shp_bool, shp_none, shp_eQ, shp_eP, shp_eS, dCont, dBreak, dXi, dSetG, dAppG, oIsB, oNotB, dTx, pJoin, pSplit, pPart, pStarts, bStr, bIntS, dFmt, dJs, ↓reduceIte, nsp_none, nsp_bool, nsp_int, nsp_str, nsp_list, nsp_tuple, nsp_eQ, nsp_eP, nsp_eS, dat_pu, dat_ow, seqD_l, seqD_t, not_true_eq_false, Bool.true_eq_false, Bool.not_not, List.length_cons, List.length_nil, mkP, mkS, fits_list, fits_tuple, isIntD, isBoolD, isListD, isStrD, isTupD, Bool.not_true, Bool.not_false, Bool.false_eq_true, it_l0, it_l1, it_l2, it_t0, it_t1, it_t2, shp_ps, shp_pt, shp_ss, shp_is, seqD_eQ, seqD_eP, seqD_eS, walkD_eP, walkD_eS, walkD_l, walkD_t] at h ⊢
      simpa using h
  · have c1' : ¬ (0 : Int) < z.length := by omega
    simp only [c1, c1', dRet, dRetF, dSetX, dCallX, dRetX, noOw, dTry, dCpy, dRaise, dRetO, dSetP, dSetS, dSetF, dSeq, dIf, dNext, dCall, dCallF, dB, dBin, dCons, dNil, dTup, dLst, dV, dC, dTV, onB, dTAnd, dTOr, dTNot, dAnd, dOr, dNot, dIfE, dIsN, dNotN, isN, dSl, dSlF, dNoPart, dPart, dPar, dParS, dAsg, dgN, dgT, dgCons, dgNil, dFE, dIsi, dListF, dNeg, dRev, dFrz, dApp, dAppS, dIns, dExtend, dClear, dReverse, dPop, oIx, oI, oIC, oAddU, oSubI, oMulU, oMulI, oFd, oMd, oPw, oLt, oLe, oGt, oGe, oEq, oNe, getF, setF, Cl.d, getS, setS, purF_nil, purF_cons, purH, allF_nil, allF_cons, allH, rho0, endsOf, scalD, bLen, bAbs, bInt, bIntU, bTup, true_and, and_true, Option.some.injEq, exists_eq_left', decide_eq_true_eq, Bool.not_eq_true', decide_eq_false_iff_not, it_eQ0, it_eQ1, it_eP0, it_eP1, it_eS0, it_eS1, fits_eQ, fits_eP, fits_eS, eqv_eQ, eqv_eP, eqv_eS, eqv_int, eqv_bool, shp_int, shp_bool, shp_none, shp_eQ, shp_eP, shp_eS, dCont, dBreak, dXi, dSetG, dAppG, oIsB, oNotB, dTx, pJoin, pSplit, pPart, pStarts, bStr, bIntS, dFmt, dJs, ↓reduceIte, nsp_none, nsp_bool, nsp_int, nsp_str, nsp_list, nsp_tuple, nsp_eQ, nsp_eP, nsp_eS, dat_pu, dat_ow, seqD_l, seqD_t, not_true_eq_false, Bool.true_eq_false, Bool.not_not, List.length_cons, List.length_nil, mkP, mkS, fits_list, fits_tuple, isIntD, isBoolD, isListD, isStrD, isTupD, Bool.not_true, Bool.not_false, Bool.false_eq_true, it_l0, it_l1, it_l2, it_t0, it_t1, it_t2, shp_ps, shp_pt, shp_ss, shp_is, seqD_eQ, seqD_eP, seqD_eS, walkD_eP, walkD_eS, walkD_l, walkD_t] at h ⊢
    simpa using h
theorem it_w {ws : List Str} {k : Nat} (h : k < ws.length) : itemD (.list (ws.map .str)) (k : Int) = some (.str (wAt ws k)) := it_at (k := k) rfl (by
  unfold wAt
  rw [List.getElem?_map, List.getD_eq_getElem?_getD, List.getElem?_eq_getElem h]
  rfl)
theorem all_none : (dTup (dCons (dC (.str "all")) (dCons (dC (.str "none")) dNil))) = dC (.tuple ([("all" : Str), "none"].map .str)) := rfl
theorem shp_an : SeqAt.shaped (.tuple ([("all" : Str), "none"].map .str)) = true := shp_strs (by decide +kernel)
theorem h0__law_behind (ds : List Dt) (Φ : Slot → Prop) (Ξ : XD → Prop) : ¬ spr__law_behind 0 ds Φ Ξ := fun ⟨_, _, _, _, h1, h2, _⟩ => by omega
theorem rd__law_behind (n : Nat) (ds : List Dt) (Φ : Slot → Prop) (Ξ : XD → Prop) (h : spr__law_behind (n + 1) ds Φ Ξ) : d__law_behind n (endsOf Φ Ξ) (rho0 N__law_behind ds) := by
  obtain ⟨ws, k, rfl, hw, hk, hn, h⟩ := h
  have hz : (100000 : Nat) < sizeLine := by decide
  have hl := hw.1
  obtain ⟨s1, s2, s3, s4, s5, s6, s7, s8⟩ := k_shp
  have ok := wAt_ok hw k
  have sw := ok_shp ok
  unfold d__law_behind
  rw [all_none, and_or]
  show dSeq _ _ _ [.pu (.list (ws.map .str)), .pu (.int k), .un, .un]
  refine seq_cut (fun ρ => k < ws.length ∧ ρ = [.pu (.list (ws.map .str)), .pu (.int k), .un, .un]) (fun E hr hE => ?_) ?_
  · simp only [List.length_map, dRet, dRetF, dSetX, dCallX, dRetX, noOw, dTry, dCpy, dRaise, dRetO, dSetP, dSetS, dSetF, dSeq, dIf, dNext, dCall, dCallF, dB, dBin, dCons, dNil, dTup, dLst, dV, dC, dTV, onB, dTAnd, dTOr, dTNot, dAnd, dOr, dNot, dIfE, dIsN, dNotN, isN, dSl, dSlF, dNoPart, dPart, dPar, dParS, dAsg, dgN, dgT, dgCons, dgNil, dFE, dIsi, dListF, dNeg, dRev, dFrz, dApp, dAppS, dIns, dExtend, dClear, dReverse, dPop, oIx, oI, oIC, add_ii, add_ss, add_ll, add_tt, oSubI, oMulU, oMulI, oFd, oMd, oPw, oLt, oLe, oGt, oGe, oEq, oNe, getF, setF, Cl.d, getS, setS, purF_nil, purF_cons, purH, allF_nil, allF_cons, allH, rho0, endsOf, scalD, len_l, len_t, len_s, bAbs, bInt, bIntU, tup_l, tup_t, true_and, and_true, Option.some.injEq, exists_eq_left', decide_eq_true_eq, Bool.not_eq_true', decide_eq_false_iff_not, it_eQ0, it_eQ1, it_eP0, it_eP1, it_eS0, it_eS1, fits_eQ, fits_eP, fits_eS, eqv_eQ, eqv_eP, eqv_eS, eqv_int, eqv_bool, shp_int, shp_bool, shp_none, shp_eQ, shp_eP, shp_eS, dCont, dBreak, dXi, dSetG, dAppG, oIsB, oNotB, dTx, pJoin, pSplit, pPart, pStarts, bStr, bIntS, dFmt, dJs, ↓reduceIte, nsp_none, nsp_bool, nsp_int, nsp_str, nsp_list, nsp_tuple, nsp_eQ, nsp_eP, nsp_eS, dat_pu, dat_ow, seqD_l, seqD_t, not_true_eq_false, Bool.true_eq_false, Bool.not_not, List.length_cons, List.length_nil, mkP, mkS, fits_list, fits_tuple, isIntD, isBoolD, isListD, isStrD, isTupD, Bool.not_true, Bool.not_false, Bool.false_eq_true, it_l0, it_l1, it_l2, it_t0, it_t1, it_t2, shp_ps, shp_pt, shp_ss, shp_is, seqD_eQ, seqD_eP, seqD_eS, walkD_eP, walkD_eS, walkD_l, walkD_t]
    by_cases c : ws.length ≤ k
    · refine ite_yes (by omega) ?_
      have e := wAt_ge c
      rw [pr_name (by rw [e]; decide) (by rw [e]; decide) (by rw [e]; decide) (by rw [e]; decide) (fun z => by rw [e] at z; exact absurd z.1 (by decide)), e, if_neg nm_empty] at h
      rw [hr]
      exact h
    · exact ite_no (by omega) (hE _ ⟨by omega, rfl⟩)
  rintro _ ⟨kl, rfl⟩
  have ik := it_w kl
  refine seq_cut (fun ρ => wAt ws k ≠ "all" ∧ wAt ws k ≠ "none" ∧ ¬ isNm (wAt ws k) = true ∧ ρ = [.pu (.list (ws.map .str)), .pu (.int k), .un, .un]) (fun E hr hE => ?_) ?_
  · simp only [oIn, ik, sw, shp_an, any_str, dRet, dRetF, dSetX, dCallX, dRetX, noOw, dTry, dCpy, dRaise, dRetO, dSetP, dSetS, dSetF, dSeq, dIf, dNext, dCall, dCallF, dB, dBin, dCons, dNil, dTup, dLst, dV, dC, dTV, onB, dTAnd, dTOr, dTNot, dAnd, dOr, dNot, dIfE, dIsN, dNotN, isN, dSl, dSlF, dNoPart, dPart, dPar, dParS, dAsg, dgN, dgT, dgCons, dgNil, dFE, dIsi, dListF, dNeg, dRev, dFrz, dApp, dAppS, dIns, dExtend, dClear, dReverse, dPop, oIx, oI, oIC, add_ii, add_ss, add_ll, add_tt, oSubI, oMulU, oMulI, oFd, oMd, oPw, oLt, oLe, oGt, oGe, oEq, oNe, getF, setF, Cl.d, getS, setS, purF_nil, purF_cons, purH, allF_nil, allF_cons, allH, rho0, endsOf, scalD, len_l, len_t, len_s, bAbs, bInt, bIntU, tup_l, tup_t, true_and, and_true, Option.some.injEq, exists_eq_left', decide_eq_true_eq, Bool.not_eq_true', decide_eq_false_iff_not, it_eQ0, it_eQ1, it_eP0, it_eP1, it_eS0, it_eS1, fits_eQ, fits_eP, fits_eS, eqv_eQ, eqv_eP, eqv_eS, eqv_int, eqv_bool, shp_int, shp_bool, shp_none, shp_eQ, shp_eP, shp_eS, dCont, dBreak, dXi, dSetG, dAppG, oIsB, oNotB, dTx, pJoin, pSplit, pPart, pStarts, bStr, bIntS, dFmt, dJs, ↓reduceIte, nsp_none, nsp_bool, nsp_int, nsp_str, nsp_list, nsp_tuple, nsp_eQ, nsp_eP, nsp_eS, dat_pu, dat_ow, seqD_l, seqD_t, not_true_eq_false, Bool.true_eq_false, Bool.not_not, List.length_cons, List.length_nil, mkP, mkS, fits_list, fits_tuple, isIntD, isBoolD, isListD, isStrD, isTupD, Bool.not_true, Bool.not_false, Bool.false_eq_true, it_l0, it_l1, it_l2, it_t0, it_t1, it_t2, shp_ps, shp_pt, shp_ss, shp_is, seqD_eQ, seqD_eP, seqD_eS, walkD_eP, walkD_eS, walkD_l, walkD_t]
    by_cases c : wAt ws k ∈ ([("all" : Str), "none"] : List Str)
    · refine ite_yes c ?_
      rw [hr]
      simp only [List.mem_cons, List.not_mem_nil, or_false] at c
      rcases c with c | c
      · rw [pr_all c] at h; exact h
      · rw [pr_none c] at h; exact h
    · refine ite_no c ?_
      simp only [List.mem_cons, List.not_mem_nil, or_false, not_or] at c
      refine ⟨_, rfl, ok, ?_⟩
      simp only [dRet, dRetF, dSetX, dCallX, dRetX, noOw, dTry, dCpy, dRaise, dRetO, dSetP, dSetS, dSetF, dSeq, dIf, dNext, dCall, dCallF, dB, dBin, dCons, dNil, dTup, dLst, dV, dC, dTV, onB, dTAnd, dTOr, dTNot, dAnd, dOr, dNot, dIfE, dIsN, dNotN, isN, dSl, dSlF, dNoPart, dPart, dPar, dParS, dAsg, dgN, dgT, dgCons, dgNil, dFE, dIsi, dListF, dNeg, dRev, dFrz, dApp, dAppS, dIns, dExtend, dClear, dReverse, dPop, oIx, oI, oIC, add_ii, add_ss, add_ll, add_tt, oSubI, oMulU, oMulI, oFd, oMd, oPw, oLt, oLe, oGt, oGe, oEq, oNe, getF, setF, Cl.d, getS, setS, purF_nil, purF_cons, purH, allF_nil, allF_cons, allH, rho0, endsOf, scalD, len_l, len_t, len_s, bAbs, bInt, bIntU, tup_l, tup_t, true_and, and_true, Option.some.injEq, exists_eq_left', decide_eq_true_eq, Bool.not_eq_true', decide_eq_false_iff_not, it_eQ0, it_eQ1, it_eP0, it_eP1, it_eS0, it_eS1, fits_eQ, fits_eP, fits_eS, eqv_eQ, eqv_eP, eqv_eS, eqv_int, eqv_bool, shp_int, shp_bool, shp_none, shp_eQ, shp_eP, shp_eS, dCont, dBreak, dXi, dSetG, dAppG, oIsB, oNotB, dTx, pJoin, pSplit, pPart, pStarts, bStr, bIntS, dFmt, dJs, ↓reduceIte, nsp_none, nsp_bool, nsp_int, nsp_str, nsp_list, nsp_tuple, nsp_eQ, nsp_eP, nsp_eS, dat_pu, dat_ow, seqD_l, seqD_t, not_true_eq_false, Bool.true_eq_false, Bool.not_not, List.length_cons, List.length_nil, mkP, mkS, fits_list, fits_tuple, isIntD, isBoolD, isListD, isStrD, isTupD, Bool.not_true, Bool.not_false, Bool.false_eq_true, it_l0, it_l1, it_l2, it_t0, it_t1, it_t2, shp_ps, shp_pt, shp_ss, shp_is, seqD_eQ, seqD_eP, seqD_eS, walkD_eP, walkD_eS, walkD_l, walkD_t]
      by_cases q : isNm (wAt ws k) = true
      · rw [if_pos q, hr]
        obtain ⟨n1, n2, n3, n4, n5, _⟩ := nm_words q
        rw [pr_name n1 n2 n3 n4 (fun z => n5 z.1), if_pos q] at h
        exact h
      · rw [if_neg q]
        exact hE _ ⟨c.1, c.2, q, rfl⟩
  rintro _ ⟨c1, c2, c6, rfl⟩
  refine seq_cut (fun ρ => wAt ws k ≠ "not" ∧ ρ = [.pu (.list (ws.map .str)), .pu (.int k), .un, .un]) (fun E hr hE => ?_) ?_
  · simp only [ik, sw, s3, eqv_str, dRet, dRetF, dSetX, dCallX, dRetX, noOw, dTry, dCpy, dRaise, dRetO, dSetP, dSetS, dSetF, dSeq, dIf, dNext, dCall, dCallF, dB, dBin, dCons, dNil, dTup, dLst, dV, dC, dTV, onB, dTAnd, dTOr, dTNot, dAnd, dOr, dNot, dIfE, dIsN, dNotN, isN, dSl, dSlF, dNoPart, dPart, dPar, dParS, dAsg, dgN, dgT, dgCons, dgNil, dFE, dIsi, dListF, dNeg, dRev, dFrz, dApp, dAppS, dIns, dExtend, dClear, dReverse, dPop, oIx, oI, oIC, add_ii, add_ss, add_ll, add_tt, oSubI, oMulU, oMulI, oFd, oMd, oPw, oLt, oLe, oGt, oGe, oEq, oNe, getF, setF, Cl.d, getS, setS, purF_nil, purF_cons, purH, allF_nil, allF_cons, allH, rho0, endsOf, scalD, len_l, len_t, len_s, bAbs, bInt, bIntU, tup_l, tup_t, true_and, and_true, Option.some.injEq, exists_eq_left', decide_eq_true_eq, Bool.not_eq_true', decide_eq_false_iff_not, it_eQ0, it_eQ1, it_eP0, it_eP1, it_eS0, it_eS1, fits_eQ, fits_eP, fits_eS, eqv_eQ, eqv_eP, eqv_eS, eqv_int, eqv_bool, shp_int, shp_bool, shp_none, shp_eQ, shp_eP, shp_eS, dCont, dBreak, dXi, dSetG, dAppG, oIsB, oNotB, dTx, pJoin, pSplit, pPart, pStarts, bStr, bIntS, dFmt, dJs, ↓reduceIte, nsp_none, nsp_bool, nsp_int, nsp_str, nsp_list, nsp_tuple, nsp_eQ, nsp_eP, nsp_eS, dat_pu, dat_ow, seqD_l, seqD_t, not_true_eq_false, Bool.true_eq_false, Bool.not_not, List.length_cons, List.length_nil, mkP, mkS, fits_list, fits_tuple, isIntD, isBoolD, isListD, isStrD, isTupD, Bool.not_true, Bool.not_false, Bool.false_eq_true, it_l0, it_l1, it_l2, it_t0, it_t1, it_t2, shp_ps, shp_pt, shp_ss, shp_is, seqD_eQ, seqD_eP, seqD_eS, walkD_eP, walkD_eS, walkD_l, walkD_t]
    by_cases c : wAt ws k = "not"
    · refine ite_yes c ⟨ws, k + 1, by simp, hw, by omega, by omega, ?_⟩
      rw [hr]
      rw [pr_not c] at h
      cases e : pr n ws (k + 1) with
      | none => rw [e] at h; exact h
      | some x => rw [e] at h; exact h
    · exact ite_no c (hE _ ⟨c, rfl⟩)
  rintro _ ⟨c3, rfl⟩
  refine seq_cut (fun ρ => ¬ (wAt ws k = "sheet" ∧ isNm (wAt ws (k + 1)) = true) ∧ ρ = [.pu (.list (ws.map .str)), .pu (.int k), .un, .un]) (fun E hr hE => ?_) ?_
  · simp only [ik, sw, s5, eqv_str, List.length_map, dRet, dRetF, dSetX, dCallX, dRetX, noOw, dTry, dCpy, dRaise, dRetO, dSetP, dSetS, dSetF, dSeq, dIf, dNext, dCall, dCallF, dB, dBin, dCons, dNil, dTup, dLst, dV, dC, dTV, onB, dTAnd, dTOr, dTNot, dAnd, dOr, dNot, dIfE, dIsN, dNotN, isN, dSl, dSlF, dNoPart, dPart, dPar, dParS, dAsg, dgN, dgT, dgCons, dgNil, dFE, dIsi, dListF, dNeg, dRev, dFrz, dApp, dAppS, dIns, dExtend, dClear, dReverse, dPop, oIx, oI, oIC, add_ii, add_ss, add_ll, add_tt, oSubI, oMulU, oMulI, oFd, oMd, oPw, oLt, oLe, oGt, oGe, oEq, oNe, getF, setF, Cl.d, getS, setS, purF_nil, purF_cons, purH, allF_nil, allF_cons, allH, rho0, endsOf, scalD, len_l, len_t, len_s, bAbs, bInt, bIntU, tup_l, tup_t, true_and, and_true, Option.some.injEq, exists_eq_left', decide_eq_true_eq, Bool.not_eq_true', decide_eq_false_iff_not, it_eQ0, it_eQ1, it_eP0, it_eP1, it_eS0, it_eS1, fits_eQ, fits_eP, fits_eS, eqv_eQ, eqv_eP, eqv_eS, eqv_int, eqv_bool, shp_int, shp_bool, shp_none, shp_eQ, shp_eP, shp_eS, dCont, dBreak, dXi, dSetG, dAppG, oIsB, oNotB, dTx, pJoin, pSplit, pPart, pStarts, bStr, bIntS, dFmt, dJs, ↓reduceIte, nsp_none, nsp_bool, nsp_int, nsp_str, nsp_list, nsp_tuple, nsp_eQ, nsp_eP, nsp_eS, dat_pu, dat_ow, seqD_l, seqD_t, not_true_eq_false, Bool.true_eq_false, Bool.not_not, List.length_cons, List.length_nil, mkP, mkS, fits_list, fits_tuple, isIntD, isBoolD, isListD, isStrD, isTupD, Bool.not_true, Bool.not_false, Bool.false_eq_true, it_l0, it_l1, it_l2, it_t0, it_t1, it_t2, shp_ps, shp_pt, shp_ss, shp_is, seqD_eQ, seqD_eP, seqD_eS, walkD_eP, walkD_eS, walkD_l, walkD_t]
    by_cases c : wAt ws k = "sheet"
    · refine ite_yes c ?_
      by_cases k1 : k + 1 < ws.length
      · have ik1 : itemD (.list (ws.map PyData.str)) ((k : Int) + 1) = some (.str (wAt ws (k + 1))) := it_w k1
        simp only [ik1, dRet, dRetF, dSetX, dCallX, dRetX, noOw, dTry, dCpy, dRaise, dRetO, dSetP, dSetS, dSetF, dSeq, dIf, dNext, dCall, dCallF, dB, dBin, dCons, dNil, dTup, dLst, dV, dC, dTV, onB, dTAnd, dTOr, dTNot, dAnd, dOr, dNot, dIfE, dIsN, dNotN, isN, dSl, dSlF, dNoPart, dPart, dPar, dParS, dAsg, dgN, dgT, dgCons, dgNil, dFE, dIsi, dListF, dNeg, dRev, dFrz, dApp, dAppS, dIns, dExtend, dClear, dReverse, dPop, oIx, oI, oIC, add_ii, add_ss, add_ll, add_tt, oSubI, oMulU, oMulI, oFd, oMd, oPw, oLt, oLe, oGt, oGe, oEq, oNe, getF, setF, Cl.d, getS, setS, purF_nil, purF_cons, purH, allF_nil, allF_cons, allH, rho0, endsOf, scalD, len_l, len_t, len_s, bAbs, bInt, bIntU, tup_l, tup_t, true_and, and_true, Option.some.injEq, exists_eq_left', decide_eq_true_eq, Bool.not_eq_true', decide_eq_false_iff_not, it_eQ0, it_eQ1, it_eP0, it_eP1, it_eS0, it_eS1, fits_eQ, fits_eP, fits_eS, eqv_eQ, eqv_eP, eqv_eS, eqv_int, eqv_bool, shp_int, shp_bool, shp_none, shp_eQ, shp_eP, shp_eS, dCont, dBreak, dXi, dSetG, dAppG, oIsB, oNotB, dTx, pJoin, pSplit, pPart, pStarts, bStr, bIntS, dFmt, dJs, ↓reduceIte, nsp_none, nsp_bool, nsp_int, nsp_str, nsp_list, nsp_tuple, nsp_eQ, nsp_eP, nsp_eS, dat_pu, dat_ow, seqD_l, seqD_t, not_true_eq_false, Bool.true_eq_false, Bool.not_not, List.length_cons, List.length_nil, mkP, mkS, fits_list, fits_tuple, isIntD, isBoolD, isListD, isStrD, isTupD, Bool.not_true, Bool.not_false, Bool.false_eq_true, it_l0, it_l1, it_l2, it_t0, it_t1, it_t2, shp_ps, shp_pt, shp_ss, shp_is, seqD_eQ, seqD_eP, seqD_eS, walkD_eP, walkD_eS, walkD_l, walkD_t]
        refine ite_yes (by omega) ⟨_, rfl, wAt_ok hw (k + 1), ?_⟩
        simp only [dRet, dRetF, dSetX, dCallX, dRetX, noOw, dTry, dCpy, dRaise, dRetO, dSetP, dSetS, dSetF, dSeq, dIf, dNext, dCall, dCallF, dB, dBin, dCons, dNil, dTup, dLst, dV, dC, dTV, onB, dTAnd, dTOr, dTNot, dAnd, dOr, dNot, dIfE, dIsN, dNotN, isN, dSl, dSlF, dNoPart, dPart, dPar, dParS, dAsg, dgN, dgT, dgCons, dgNil, dFE, dIsi, dListF, dNeg, dRev, dFrz, dApp, dAppS, dIns, dExtend, dClear, dReverse, dPop, oIx, oI, oIC, add_ii, add_ss, add_ll, add_tt, oSubI, oMulU, oMulI, oFd, oMd, oPw, oLt, oLe, oGt, oGe, oEq, oNe, getF, setF, Cl.d, getS, setS, purF_nil, purF_cons, purH, allF_nil, allF_cons, allH, rho0, endsOf, scalD, len_l, len_t, len_s, bAbs, bInt, bIntU, tup_l, tup_t, true_and, and_true, Option.some.injEq, exists_eq_left', decide_eq_true_eq, Bool.not_eq_true', decide_eq_false_iff_not, it_eQ0, it_eQ1, it_eP0, it_eP1, it_eS0, it_eS1, fits_eQ, fits_eP, fits_eS, eqv_eQ, eqv_eP, eqv_eS, eqv_int, eqv_bool, shp_int, shp_bool, shp_none, shp_eQ, shp_eP, shp_eS, dCont, dBreak, dXi, dSetG, dAppG, oIsB, oNotB, dTx, pJoin, pSplit, pPart, pStarts, bStr, bIntS, dFmt, dJs, ↓reduceIte, nsp_none, nsp_bool, nsp_int, nsp_str, nsp_list, nsp_tuple, nsp_eQ, nsp_eP, nsp_eS, dat_pu, dat_ow, seqD_l, seqD_t, not_true_eq_false, Bool.true_eq_false, Bool.not_not, List.length_cons, List.length_nil, mkP, mkS, fits_list, fits_tuple, isIntD, isBoolD, isListD, isStrD, isTupD, Bool.not_true, Bool.not_false, Bool.false_eq_true, it_l0, it_l1, it_l2, it_t0, it_t1, it_t2, shp_ps, shp_pt, shp_ss, shp_is, seqD_eQ, seqD_eP, seqD_eS, walkD_eP, walkD_eS, walkD_l, walkD_t]
        by_cases q : isNm (wAt ws (k + 1)) = true
        · rw [if_pos q, hr]
          rw [pr_sheet c q] at h
          exact h
        · rw [if_neg q]
          exact hE _ ⟨fun z => q z.2, rfl⟩
      · refine ite_no (by omega) ?_
        refine hE _ ⟨fun z => ?_, rfl⟩
        have q := z.2
        rw [wAt_ge (by omega)] at q
        exact nm_empty q
    · refine ite_no c ?_
      exact hE _ ⟨fun z => c z.1, rfl⟩
  rintro _ ⟨c5, rfl⟩
  refine seq_cut (fun ρ => wAt ws k = "(" ∧ ρ = [.pu (.list (ws.map .str)), .pu (.int k), .un, .un]) (fun E hr hE => ?_) ?_
  · simp only [ik, sw, s4, eqv_str, dRet, dRetF, dSetX, dCallX, dRetX, noOw, dTry, dCpy, dRaise, dRetO, dSetP, dSetS, dSetF, dSeq, dIf, dNext, dCall, dCallF, dB, dBin, dCons, dNil, dTup, dLst, dV, dC, dTV, onB, dTAnd, dTOr, dTNot, dAnd, dOr, dNot, dIfE, dIsN, dNotN, isN, dSl, dSlF, dNoPart, dPart, dPar, dParS, dAsg, dgN, dgT, dgCons, dgNil, dFE, dIsi, dListF, dNeg, dRev, dFrz, dApp, dAppS, dIns, dExtend, dClear, dReverse, dPop, oIx, oI, oIC, add_ii, add_ss, add_ll, add_tt, oSubI, oMulU, oMulI, oFd, oMd, oPw, oLt, oLe, oGt, oGe, oEq, oNe, getF, setF, Cl.d, getS, setS, purF_nil, purF_cons, purH, allF_nil, allF_cons, allH, rho0, endsOf, scalD, len_l, len_t, len_s, bAbs, bInt, bIntU, tup_l, tup_t, true_and, and_true, Option.some.injEq, exists_eq_left', decide_eq_true_eq, Bool.not_eq_true', decide_eq_false_iff_not, it_eQ0, it_eQ1, it_eP0, it_eP1, it_eS0, it_eS1, fits_eQ, fits_eP, fits_eS, eqv_eQ, eqv_eP, eqv_eS, eqv_int, eqv_bool, shp_int, shp_bool, shp_none, shp_eQ, shp_eP, shp_eS, dCont, dBreak, dXi, dSetG, dAppG, oIsB, oNotB, dTx, pJoin, pSplit, pPart, pStarts, bStr, bIntS, dFmt, dJs, ↓reduceIte, nsp_none, nsp_bool, nsp_int, nsp_str, nsp_list, nsp_tuple, nsp_eQ, nsp_eP, nsp_eS, dat_pu, dat_ow, seqD_l, seqD_t, not_true_eq_false, Bool.true_eq_false, Bool.not_not, List.length_cons, List.length_nil, mkP, mkS, fits_list, fits_tuple, isIntD, isBoolD, isListD, isStrD, isTupD, Bool.not_true, Bool.not_false, Bool.false_eq_true, it_l0, it_l1, it_l2, it_t0, it_t1, it_t2, shp_ps, shp_pt, shp_ss, shp_is, seqD_eQ, seqD_eP, seqD_eS, walkD_eP, walkD_eS, walkD_l, walkD_t]
    by_cases c : wAt ws k = "("
    · exact ite_no (fun z => z c) (hE _ ⟨c, rfl⟩)
    · refine ite_yes c ?_
      rw [hr]
      rw [pr_name c1 c2 c3 c c5, if_neg c6] at h
      exact h
  rintro _ ⟨c4, rfl⟩
  rw [pr_op c4] at h
  unfold prP at h
  refine seq_cut (fun ρ => ρ = [.pu (.list (ws.map .str)), .pu (.int k), .pu (.int (oE (pr n ws (k + 1)))), .un]) (fun E hr hE => ?_) ?_
  · simp only [dRet, dRetF, dSetX, dCallX, dRetX, noOw, dTry, dCpy, dRaise, dRetO, dSetP, dSetS, dSetF, dSeq, dIf, dNext, dCall, dCallF, dB, dBin, dCons, dNil, dTup, dLst, dV, dC, dTV, onB, dTAnd, dTOr, dTNot, dAnd, dOr, dNot, dIfE, dIsN, dNotN, isN, dSl, dSlF, dNoPart, dPart, dPar, dParS, dAsg, dgN, dgT, dgCons, dgNil, dFE, dIsi, dListF, dNeg, dRev, dFrz, dApp, dAppS, dIns, dExtend, dClear, dReverse, dPop, oIx, oI, oIC, add_ii, add_ss, add_ll, add_tt, oSubI, oMulU, oMulI, oFd, oMd, oPw, oLt, oLe, oGt, oGe, oEq, oNe, getF, setF, Cl.d, getS, setS, purF_nil, purF_cons, purH, allF_nil, allF_cons, allH, rho0, endsOf, scalD, len_l, len_t, len_s, bAbs, bInt, bIntU, tup_l, tup_t, true_and, and_true, Option.some.injEq, exists_eq_left', decide_eq_true_eq, Bool.not_eq_true', decide_eq_false_iff_not, it_eQ0, it_eQ1, it_eP0, it_eP1, it_eS0, it_eS1, fits_eQ, fits_eP, fits_eS, eqv_eQ, eqv_eP, eqv_eS, eqv_int, eqv_bool, shp_int, shp_bool, shp_none, shp_eQ, shp_eP, shp_eS, dCont, dBreak, dXi, dSetG, dAppG, oIsB, oNotB, dTx, pJoin, pSplit, pPart, pStarts, bStr, bIntS, dFmt, dJs, ↓reduceIte, nsp_none, nsp_bool, nsp_int, nsp_str, nsp_list, nsp_tuple, nsp_eQ, nsp_eP, nsp_eS, dat_pu, dat_ow, seqD_l, seqD_t, not_true_eq_false, Bool.true_eq_false, Bool.not_not, List.length_cons, List.length_nil, mkP, mkS, fits_list, fits_tuple, isIntD, isBoolD, isListD, isStrD, isTupD, Bool.not_true, Bool.not_false, Bool.false_eq_true, it_l0, it_l1, it_l2, it_t0, it_t1, it_t2, shp_ps, shp_pt, shp_ss, shp_is, seqD_eQ, seqD_eP, seqD_eS, walkD_eP, walkD_eS, walkD_l, walkD_t]
    exact ⟨ws, k + 1, by simp, hw, by omega, by omega, hE _ rfl⟩
  rintro _ rfl
  refine seq_cut (fun ρ => ∃ a m, pr n ws (k + 1) = some (a, m) ∧ m < ws.length ∧ (wAt ws m = "and" ∨ wAt ws m = "or") ∧ ρ = [.pu (.list (ws.map .str)), .pu (.int k), .pu (.int (m : Nat)), .un]) (fun E hr hE => ?_) ?_
  · cases e : pr n ws (k + 1) with
    | none =>
      rw [e] at h
      simp only [oE, dRet, dRetF, dSetX, dCallX, dRetX, noOw, dTry, dCpy, dRaise, dRetO, dSetP, dSetS, dSetF, dSeq, dIf, dNext, dCall, dCallF, dB, dBin, dCons, dNil, dTup, dLst, dV, dC, dTV, onB, dTAnd, dTOr, dTNot, dAnd, dOr, dNot, dIfE, dIsN, dNotN, isN, dSl, dSlF, dNoPart, dPart, dPar, dParS, dAsg, dgN, dgT, dgCons, dgNil, dFE, dIsi, dListF, dNeg, dRev, dFrz, dApp, dAppS, dIns, dExtend, dClear, dReverse, dPop, oIx, oI, oIC, add_ii, add_ss, add_ll, add_tt, oSubI, oMulU, oMulI, oFd, oMd, oPw, oLt, oLe, oGt, oGe, oEq, oNe, getF, setF, Cl.d, getS, setS, purF_nil, purF_cons, purH, allF_nil, allF_cons, allH, rho0, endsOf, scalD, len_l, len_t, len_s, bAbs, bInt, bIntU, tup_l, tup_t, true_and, and_true, Option.some.injEq, exists_eq_left', decide_eq_true_eq, Bool.not_eq_true', decide_eq_false_iff_not, it_eQ0, it_eQ1, it_eP0, it_eP1, it_eS0, it_eS1, fits_eQ, fits_eP, fits_eS, eqv_eQ, eqv_eP, eqv_eS, eqv_int, eqv_bool, shp_int, shp_bool, shp_none, shp_eQ, shp_eP, shp_eS, dCont, dBreak, dXi, dSetG, dAppG, oIsB, oNotB, dTx, pJoin, pSplit, pPart, pStarts, bStr, bIntS, dFmt, dJs, ↓reduceIte, nsp_none, nsp_bool, nsp_int, nsp_str, nsp_list, nsp_tuple, nsp_eQ, nsp_eP, nsp_eS, dat_pu, dat_ow, seqD_l, seqD_t, not_true_eq_false, Bool.true_eq_false, Bool.not_not, List.length_cons, List.length_nil, mkP, mkS, fits_list, fits_tuple, isIntD, isBoolD, isListD, isStrD, isTupD, Bool.not_true, Bool.not_false, Bool.false_eq_true, it_l0, it_l1, it_l2, it_t0, it_t1, it_t2, shp_ps, shp_pt, shp_ss, shp_is, seqD_eQ, seqD_eP, seqD_eS, walkD_eP, walkD_eS, walkD_l, walkD_t]
      refine ite_yes (by decide) ?_
      rw [hr]
      exact h
    | some x =>
      obtain ⟨a, m⟩ := x
      rw [e] at h
      simp only [oE, List.length_map, dRet, dRetF, dSetX, dCallX, dRetX, noOw, dTry, dCpy, dRaise, dRetO, dSetP, dSetS, dSetF, dSeq, dIf, dNext, dCall, dCallF, dB, dBin, dCons, dNil, dTup, dLst, dV, dC, dTV, onB, dTAnd, dTOr, dTNot, dAnd, dOr, dNot, dIfE, dIsN, dNotN, isN, dSl, dSlF, dNoPart, dPart, dPar, dParS, dAsg, dgN, dgT, dgCons, dgNil, dFE, dIsi, dListF, dNeg, dRev, dFrz, dApp, dAppS, dIns, dExtend, dClear, dReverse, dPop, oIx, oI, oIC, add_ii, add_ss, add_ll, add_tt, oSubI, oMulU, oMulI, oFd, oMd, oPw, oLt, oLe, oGt, oGe, oEq, oNe, getF, setF, Cl.d, getS, setS, purF_nil, purF_cons, purH, allF_nil, allF_cons, allH, rho0, endsOf, scalD, len_l, len_t, len_s, bAbs, bInt, bIntU, tup_l, tup_t, true_and, and_true, Option.some.injEq, exists_eq_left', decide_eq_true_eq, Bool.not_eq_true', decide_eq_false_iff_not, it_eQ0, it_eQ1, it_eP0, it_eP1, it_eS0, it_eS1, fits_eQ, fits_eP, fits_eS, eqv_eQ, eqv_eP, eqv_eS, eqv_int, eqv_bool, shp_int, shp_bool, shp_none, shp_eQ, shp_eP, shp_eS, dCont, dBreak, dXi, dSetG, dAppG, oIsB, oNotB, dTx, pJoin, pSplit, pPart, pStarts, bStr, bIntS, dFmt, dJs, ↓reduceIte, nsp_none, nsp_bool, nsp_int, nsp_str, nsp_list, nsp_tuple, nsp_eQ, nsp_eP, nsp_eS, dat_pu, dat_ow, seqD_l, seqD_t, not_true_eq_false, Bool.true_eq_false, Bool.not_not, List.length_cons, List.length_nil, mkP, mkS, fits_list, fits_tuple, isIntD, isBoolD, isListD, isStrD, isTupD, Bool.not_true, Bool.not_false, Bool.false_eq_true, it_l0, it_l1, it_l2, it_t0, it_t1, it_t2, shp_ps, shp_pt, shp_ss, shp_is, seqD_eQ, seqD_eP, seqD_eS, walkD_eP, walkD_eS, walkD_l, walkD_t] at h ⊢
      refine ite_no (by omega) ?_
      by_cases cl : ws.length ≤ m
      · refine ite_yes (by omega) ?_
        have ew := wAt_ge cl
        rw [if_neg (by rw [ew]; decide)] at h
        rw [hr]
        exact h
      · refine ite_no (by omega) ?_
        have ml : m < ws.length := by omega
        simp only [oNin, it_w ml, ok_shp (wAt_ok hw m), s8, any_str, dRet, dRetF, dSetX, dCallX, dRetX, noOw, dTry, dCpy, dRaise, dRetO, dSetP, dSetS, dSetF, dSeq, dIf, dNext, dCall, dCallF, dB, dBin, dCons, dNil, dTup, dLst, dV, dC, dTV, onB, dTAnd, dTOr, dTNot, dAnd, dOr, dNot, dIfE, dIsN, dNotN, isN, dSl, dSlF, dNoPart, dPart, dPar, dParS, dAsg, dgN, dgT, dgCons, dgNil, dFE, dIsi, dListF, dNeg, dRev, dFrz, dApp, dAppS, dIns, dExtend, dClear, dReverse, dPop, oIx, oI, oIC, add_ii, add_ss, add_ll, add_tt, oSubI, oMulU, oMulI, oFd, oMd, oPw, oLt, oLe, oGt, oGe, oEq, oNe, getF, setF, Cl.d, getS, setS, purF_nil, purF_cons, purH, allF_nil, allF_cons, allH, rho0, endsOf, scalD, len_l, len_t, len_s, bAbs, bInt, bIntU, tup_l, tup_t, true_and, and_true, Option.some.injEq, exists_eq_left', decide_eq_true_eq, Bool.not_eq_true', decide_eq_false_iff_not, it_eQ0, it_eQ1, it_eP0, it_eP1, it_eS0, it_eS1, fits_eQ, fits_eP, fits_eS, eqv_eQ, eqv_eP, eqv_eS, eqv_int, eqv_bool, shp_int, shp_bool, shp_none, shp_eQ, shp_eP, shp_eS, dCont, dBreak, dXi, dSetG, dAppG, oIsB, oNotB, dTx, pJoin, pSplit, pPart, pStarts, bStr, bIntS, dFmt, dJs, ↓reduceIte, nsp_none, nsp_bool, nsp_int, nsp_str, nsp_list, nsp_tuple, nsp_eQ, nsp_eP, nsp_eS, dat_pu, dat_ow, seqD_l, seqD_t, not_true_eq_false, Bool.true_eq_false, Bool.not_not, List.length_cons, List.length_nil, mkP, mkS, fits_list, fits_tuple, isIntD, isBoolD, isListD, isStrD, isTupD, Bool.not_true, Bool.not_false, Bool.false_eq_true, it_l0, it_l1, it_l2, it_t0, it_t1, it_t2, shp_ps, shp_pt, shp_ss, shp_is, seqD_eQ, seqD_eP, seqD_eS, walkD_eP, walkD_eS, walkD_l, walkD_t]
        by_cases cm : wAt ws m ∈ ([("and" : Str), "or"] : List Str)
        · refine ite_no (fun z => z cm) ?_
          exact hE _ ⟨a, m, e, ml, by simpa using cm, rfl⟩
        · refine ite_yes cm ?_
          rw [if_neg (by simpa using cm)] at h
          rw [hr]
          exact h
  rintro _ ⟨a, m, e1, ml, cm, rfl⟩
  have g1 := pr_gt n ws (k + 1) _ e1
  simp only at g1
  rw [e1] at h
  simp only [if_pos cm] at h
  refine seq_cut (fun ρ => ρ = [.pu (.list (ws.map .str)), .pu (.int k), .pu (.int (m : Nat)), .pu (.int (oE (pr n ws (m + 1))))]) (fun E hr hE => ?_) ?_
  · simp only [dRet, dRetF, dSetX, dCallX, dRetX, noOw, dTry, dCpy, dRaise, dRetO, dSetP, dSetS, dSetF, dSeq, dIf, dNext, dCall, dCallF, dB, dBin, dCons, dNil, dTup, dLst, dV, dC, dTV, onB, dTAnd, dTOr, dTNot, dAnd, dOr, dNot, dIfE, dIsN, dNotN, isN, dSl, dSlF, dNoPart, dPart, dPar, dParS, dAsg, dgN, dgT, dgCons, dgNil, dFE, dIsi, dListF, dNeg, dRev, dFrz, dApp, dAppS, dIns, dExtend, dClear, dReverse, dPop, oIx, oI, oIC, add_ii, add_ss, add_ll, add_tt, oSubI, oMulU, oMulI, oFd, oMd, oPw, oLt, oLe, oGt, oGe, oEq, oNe, getF, setF, Cl.d, getS, setS, purF_nil, purF_cons, purH, allF_nil, allF_cons, allH, rho0, endsOf, scalD, len_l, len_t, len_s, bAbs, bInt, bIntU, tup_l, tup_t, true_and, and_true, Option.some.injEq, exists_eq_left', decide_eq_true_eq, Bool.not_eq_true', decide_eq_false_iff_not, it_eQ0, it_eQ1, it_eP0, it_eP1, it_eS0, it_eS1, fits_eQ, fits_eP, fits_eS, eqv_eQ, eqv_eP, eqv_eS, eqv_int, eqv_bool, shp_int, shp_bool, shp_none, shp_eQ, shp_eP, shp_eS, dCont, dBreak, dXi, dSetG, dAppG, oIsB, oNotB, dTx, pJoin, pSplit, pPart, pStarts, bStr, bIntS, dFmt, dJs, ↓reduceIte, nsp_none, nsp_bool, nsp_int, nsp_str, nsp_list, nsp_tuple, nsp_eQ, nsp_eP, nsp_eS, dat_pu, dat_ow, seqD_l, seqD_t, not_true_eq_false, Bool.true_eq_false, Bool.not_not, List.length_cons, List.length_nil, mkP, mkS, fits_list, fits_tuple, isIntD, isBoolD, isListD, isStrD, isTupD, Bool.not_true, Bool.not_false, Bool.false_eq_true, it_l0, it_l1, it_l2, it_t0, it_t1, it_t2, shp_ps, shp_pt, shp_ss, shp_is, seqD_eQ, seqD_eP, seqD_eS, walkD_eP, walkD_eS, walkD_l, walkD_t]
    exact ⟨ws, m + 1, by simp, hw, by omega, by omega, hE _ rfl⟩
  rintro _ rfl
  refine seq_cut (fun ρ => ∃ b e', pr n ws (m + 1) = some (b, e') ∧ wAt ws e' = ")" ∧ ρ = [.pu (.list (ws.map .str)), .pu (.int k), .pu (.int (m : Nat)), .pu (.int (e' : Nat))]) (fun E hr hE => ?_) ?_
  · cases e : pr n ws (m + 1) with
    | none =>
      rw [e] at h
      simp only [oE, dRet, dRetF, dSetX, dCallX, dRetX, noOw, dTry, dCpy, dRaise, dRetO, dSetP, dSetS, dSetF, dSeq, dIf, dNext, dCall, dCallF, dB, dBin, dCons, dNil, dTup, dLst, dV, dC, dTV, onB, dTAnd, dTOr, dTNot, dAnd, dOr, dNot, dIfE, dIsN, dNotN, isN, dSl, dSlF, dNoPart, dPart, dPar, dParS, dAsg, dgN, dgT, dgCons, dgNil, dFE, dIsi, dListF, dNeg, dRev, dFrz, dApp, dAppS, dIns, dExtend, dClear, dReverse, dPop, oIx, oI, oIC, add_ii, add_ss, add_ll, add_tt, oSubI, oMulU, oMulI, oFd, oMd, oPw, oLt, oLe, oGt, oGe, oEq, oNe, getF, setF, Cl.d, getS, setS, purF_nil, purF_cons, purH, allF_nil, allF_cons, allH, rho0, endsOf, scalD, len_l, len_t, len_s, bAbs, bInt, bIntU, tup_l, tup_t, true_and, and_true, Option.some.injEq, exists_eq_left', decide_eq_true_eq, Bool.not_eq_true', decide_eq_false_iff_not, it_eQ0, it_eQ1, it_eP0, it_eP1, it_eS0, it_eS1, fits_eQ, fits_eP, fits_eS, eqv_eQ, eqv_eP, eqv_eS, eqv_int, eqv_bool, shp_int, shp_bool, shp_none, shp_eQ, shp_eP, shp_eS, dCont, dBreak, dXi, dSetG, dAppG, oIsB, oNotB, dTx, pJoin, pSplit, pPart, pStarts, bStr, bIntS, dFmt, dJs, ↓reduceIte, nsp_none, nsp_bool, nsp_int, nsp_str, nsp_list, nsp_tuple, nsp_eQ, nsp_eP, nsp_eS, dat_pu, dat_ow, seqD_l, seqD_t, not_true_eq_false, Bool.true_eq_false, Bool.not_not, List.length_cons, List.length_nil, mkP, mkS, fits_list, fits_tuple, isIntD, isBoolD, isListD, isStrD, isTupD, Bool.not_true, Bool.not_false, Bool.false_eq_true, it_l0, it_l1, it_l2, it_t0, it_t1, it_t2, shp_ps, shp_pt, shp_ss, shp_is, seqD_eQ, seqD_eP, seqD_eS, walkD_eP, walkD_eS, walkD_l, walkD_t]
      refine ite_yes (by decide) ?_
      rw [hr]
      exact h
    | some x =>
      obtain ⟨b, e'⟩ := x
      rw [e] at h
      simp only [oE, List.length_map, dRet, dRetF, dSetX, dCallX, dRetX, noOw, dTry, dCpy, dRaise, dRetO, dSetP, dSetS, dSetF, dSeq, dIf, dNext, dCall, dCallF, dB, dBin, dCons, dNil, dTup, dLst, dV, dC, dTV, onB, dTAnd, dTOr, dTNot, dAnd, dOr, dNot, dIfE, dIsN, dNotN, isN, dSl, dSlF, dNoPart, dPart, dPar, dParS, dAsg, dgN, dgT, dgCons, dgNil, dFE, dIsi, dListF, dNeg, dRev, dFrz, dApp, dAppS, dIns, dExtend, dClear, dReverse, dPop, oIx, oI, oIC, add_ii, add_ss, add_ll, add_tt, oSubI, oMulU, oMulI, oFd, oMd, oPw, oLt, oLe, oGt, oGe, oEq, oNe, getF, setF, Cl.d, getS, setS, purF_nil, purF_cons, purH, allF_nil, allF_cons, allH, rho0, endsOf, scalD, len_l, len_t, len_s, bAbs, bInt, bIntU, tup_l, tup_t, true_and, and_true, Option.some.injEq, exists_eq_left', decide_eq_true_eq, Bool.not_eq_true', decide_eq_false_iff_not, it_eQ0, it_eQ1, it_eP0, it_eP1, it_eS0, it_eS1, fits_eQ, fits_eP, fits_eS, eqv_eQ, eqv_eP, eqv_eS, eqv_int, eqv_bool, shp_int, shp_bool, shp_none, shp_eQ, shp_eP, shp_eS, dCont, dBreak, dXi, dSetG, dAppG, oIsB, oNotB, dTx, pJoin, pSplit, pPart, pStarts, bStr, bIntS, dFmt, dJs, ↓reduceIte, nsp_none, nsp_bool, nsp_int, nsp_str, nsp_list, nsp_tuple, nsp_eQ, nsp_eP, nsp_eS, dat_pu, dat_ow, seqD_l, seqD_t, not_true_eq_false, Bool.true_eq_false, Bool.not_not, List.length_cons, List.length_nil, mkP, mkS, fits_list, fits_tuple, isIntD, isBoolD, isListD, isStrD, isTupD, Bool.not_true, Bool.not_false, Bool.false_eq_true, it_l0, it_l1, it_l2, it_t0, it_t1, it_t2, shp_ps, shp_pt, shp_ss, shp_is, seqD_eQ, seqD_eP, seqD_eS, walkD_eP, walkD_eS, walkD_l, walkD_t] at h ⊢
      refine ite_no (by omega) ?_
      by_cases cl : ws.length ≤ e'
      · refine ite_yes (by omega) ?_
        have ew := wAt_ge cl
        rw [if_neg (by rw [ew]; decide)] at h
        rw [hr]
        exact h
      · refine ite_no (by omega) ?_
        have ml : e' < ws.length := by omega
        simp only [it_w ml, ok_shp (wAt_ok hw e'), s6, eqv_str, dRet, dRetF, dSetX, dCallX, dRetX, noOw, dTry, dCpy, dRaise, dRetO, dSetP, dSetS, dSetF, dSeq, dIf, dNext, dCall, dCallF, dB, dBin, dCons, dNil, dTup, dLst, dV, dC, dTV, onB, dTAnd, dTOr, dTNot, dAnd, dOr, dNot, dIfE, dIsN, dNotN, isN, dSl, dSlF, dNoPart, dPart, dPar, dParS, dAsg, dgN, dgT, dgCons, dgNil, dFE, dIsi, dListF, dNeg, dRev, dFrz, dApp, dAppS, dIns, dExtend, dClear, dReverse, dPop, oIx, oI, oIC, add_ii, add_ss, add_ll, add_tt, oSubI, oMulU, oMulI, oFd, oMd, oPw, oLt, oLe, oGt, oGe, oEq, oNe, getF, setF, Cl.d, getS, setS, purF_nil, purF_cons, purH, allF_nil, allF_cons, allH, rho0, endsOf, scalD, len_l, len_t, len_s, bAbs, bInt, bIntU, tup_l, tup_t, true_and, and_true, Option.some.injEq, exists_eq_left', decide_eq_true_eq, Bool.not_eq_true', decide_eq_false_iff_not, it_eQ0, it_eQ1, it_eP0, it_eP1, it_eS0, it_eS1, fits_eQ, fits_eP, fits_eS, eqv_eQ, eqv_eP, eqv_eS, eqv_int, eqv_bool, shp_int, shp_bool, shp_none, shp_eQ, shp_eP, shp_eS, dCont, dBreak, dXi, dSetG, dAppG, oIsB, oNotB, dTx, pJoin, pSplit, pPart, pStarts, bStr, bIntS, dFmt, dJs, ↓reduceIte, nsp_none, nsp_bool, nsp_int, nsp_str, nsp_list, nsp_tuple, nsp_eQ, nsp_eP, nsp_eS, dat_pu, dat_ow, seqD_l, seqD_t, not_true_eq_false, Bool.true_eq_false, Bool.not_not, List.length_cons, List.length_nil, mkP, mkS, fits_list, fits_tuple, isIntD, isBoolD, isListD, isStrD, isTupD, Bool.not_true, Bool.not_false, Bool.false_eq_true, it_l0, it_l1, it_l2, it_t0, it_t1, it_t2, shp_ps, shp_pt, shp_ss, shp_is, seqD_eQ, seqD_eP, seqD_eS, walkD_eP, walkD_eS, walkD_l, walkD_t]
        by_cases ce : wAt ws e' = ")"
        · exact ite_no (fun z => z ce) (hE _ ⟨b, e', e, ce, rfl⟩)
        · refine ite_yes ce ?_
          rw [if_neg ce] at h
          rw [hr]
          exact h
  rintro _ ⟨b, e', e2, ce, rfl⟩
  rw [e2] at h
  simp only [if_pos ce] at h
  simp only [dRet, dRetF, dSetX, dCallX, dRetX, noOw, dTry, dCpy, dRaise, dRetO, dSetP, dSetS, dSetF, dSeq, dIf, dNext, dCall, dCallF, dB, dBin, dCons, dNil, dTup, dLst, dV, dC, dTV, onB, dTAnd, dTOr, dTNot, dAnd, dOr, dNot, dIfE, dIsN, dNotN, isN, dSl, dSlF, dNoPart, dPart, dPar, dParS, dAsg, dgN, dgT, dgCons, dgNil, dFE, dIsi, dListF, dNeg, dRev, dFrz, dApp, dAppS, dIns, dExtend, dClear, dReverse, dPop, oIx, oI, oIC, add_ii, add_ss, add_ll, add_tt, oSubI, oMulU, oMulI, oFd, oMd, oPw, oLt, oLe, oGt, oGe, oEq, oNe, getF, setF, Cl.d, getS, setS, purF_nil, purF_cons, purH, allF_nil, allF_cons, allH, rho0, endsOf, scalD, len_l, len_t, len_s, bAbs, bInt, bIntU, tup_l, tup_t, true_and, and_true, Option.some.injEq, exists_eq_left', decide_eq_true_eq, Bool.not_eq_true', decide_eq_false_iff_not, it_eQ0, it_eQ1, it_eP0, it_eP1, it_eS0, it_eS1, fits_eQ, fits_eP, fits_eS, eqv_eQ, eqv_eP, eqv_eS, eqv_int, eqv_bool, shp_int, shp_bool, shp_none, shp_eQ, shp_eP, shp_eS, dCont, dBreak, dXi, dSetG, dAppG, oIsB, oNotB, dTx, pJoin, pSplit, pPart, pStarts, bStr, bIntS, dFmt, dJs, ↓reduceIte, nsp_none, nsp_bool, nsp_int, nsp_str, nsp_list, nsp_tuple, nsp_eQ, nsp_eP, nsp_eS, dat_pu, dat_ow, seqD_l, seqD_t, not_true_eq_false, Bool.true_eq_false, Bool.not_not, List.length_cons, List.length_nil, mkP, mkS, fits_list, fits_tuple, isIntD, isBoolD, isListD, isStrD, isTupD, Bool.not_true, Bool.not_false, Bool.false_eq_true, it_l0, it_l1, it_l2, it_t0, it_t1, it_t2, shp_ps, shp_pt, shp_ss, shp_is, seqD_eQ, seqD_eP, seqD_eS, walkD_eP, walkD_eS, walkD_l, walkD_t]
  exact h
end L2.D3.SY
set_option maxHeartbeats 1000000
/-! What is no saying: words spoiled. -/
namespace L2.D3.SY
open PySem PySem.Spec PyProof.Rows L2.D3
open SX (S)
def Wd (z : Str) : Prop := PyData.strOk z = true ∧ z.length ≤ 20
def ODD : List Str := ("(" : Str) :: (")" : Str) :: ("and" : Str) :: ("or" : Str) :: ("not" : Str) :: ("all" : Str) :: ("none" : Str) :: ("sheet" : Str) :: ("" : Str) :: ("A" : Str) :: ("a1" : Str) :: ("abcdefghi" : Str) :: ("_" : Str) :: ("a\n" : Str) :: ("a_" : Str) :: ("()" : Str) :: []
theorem odd_wd : ∀ z ∈ ODD, Wd z := by unfold Wd; decide +kernel
theorem odd_lst : (dLst (dCons (dC (.str "(")) (dCons (dC (.str ")")) (dCons (dC (.str "and")) (dCons (dC (.str "or")) (dCons (dC (.str "not")) (dCons (dC (.str "all")) (dCons (dC (.str "none")) (dCons (dC (.str "sheet")) (dCons (dC (.str "")) (dCons (dC (.str "A")) (dCons (dC (.str "a1")) (dCons (dC (.str "abcdefghi")) (dCons (dC (.str "_")) (dCons (dC (.str "a\n")) (dCons (dC (.str "a_")) (dCons (dC (.str "()")) dNil))))))))))))))))) = dC (.list (ODD.map .str)) := rfl
def UsOk (us : List Str) : Prop := us.length ≤ 60 ∧ ∀ z ∈ us, Wd z
def sp__law_spoiled : DSp := fun ds Φ _ => ∃ (ws : List Str) (xs : List Int) (nms : List Str), ds = [.list (ws.map .str), .list (xs.map .int), .list (nms.map .str)] ∧ 1 ≤ ws.length ∧ ws.length ≤ 40 ∧ (∀ z ∈ ws, Wd z) ∧ xs.length = 4 ∧ nms.length = 6 ∧ (∀ z ∈ nms, isNm z = true) ∧ ∀ us, UsOk us → Φ (.pu (.list (us.map .str))) ∧ Φ (.ow (us.map .str))
abbrev N__law_spoiled : List Str := ["_law_words_here", "_law_xs", "_law_names", "_law_odd", "_law_word", "_law_at", "_law_way", "_law_far", "_law_found"]
def d__law_spoiled : DS := (dSeq (dSetP 3 (dLst (dCons (dC (.str "(")) (dCons (dC (.str ")")) (dCons (dC (.str "and")) (dCons (dC (.str "or")) (dCons (dC (.str "not")) (dCons (dC (.str "all")) (dCons (dC (.str "none")) (dCons (dC (.str "sheet")) (dCons (dC (.str "")) (dCons (dC (.str "A")) (dCons (dC (.str "a1")) (dCons (dC (.str "abcdefghi")) (dCons (dC (.str "_")) (dCons (dC (.str "a\n")) (dCons (dC (.str "a_")) (dCons (dC (.str "()")) dNil))))))))))))))))))
  (dSeq (dSetP 4 (dBin oIx (dBin oAddU (dV 3) (dSl (dV 2) dNoPart (dPart (dC (.int 2))))) (dBin oMd (dBin oIx (dV 1) (dC (.int 1))) (dC (.int 18)))))
  (dSeq (dSetP 5 (dBin oMd (dBin oIx (dV 1) (dC (.int 2))) (dBin oAddU (dB bLen (dCons (dV 0) dNil)) (dC (.int 1)))))
  (dSeq (dSetP 6 (dBin oMd (dBin oIx (dV 1) (dC (.int 0))) (dC (.int 10))))
  (dSeq (dIf (dTV (dBin oLt (dV 6) (dC (.int 2)))) (dRet (dBin oAddU (dBin oAddU (dSl (dV 0) dNoPart (dPart (dV 5))) (dLst (dCons (dV 4) dNil))) (dSl (dV 0) (dPart (dV 5)) dNoPart))) dNext)
  (dSeq (dIf (dTV (dBin oLt (dV 6) (dC (.int 4)))) (dRet (dBin oAddU (dSl (dV 0) dNoPart (dPart (dV 5))) (dSl (dV 0) (dPart (dBin oAddU (dV 5) (dC (.int 1)))) dNoPart))) dNext)
  (dSeq (dIf (dTV (dBin oLt (dV 6) (dC (.int 6)))) (dRet (dBin oAddU (dBin oAddU (dSl (dV 0) dNoPart (dPart (dV 5))) (dLst (dCons (dV 4) dNil))) (dSl (dV 0) (dPart (dBin oAddU (dV 5) (dC (.int 1)))) dNoPart))) dNext)
  (dSeq (dIf (dTV (dBin oEq (dV 6) (dC (.int 6)))) (dRet (dBin oIx (dLst (dCons (dSl (dV 0) dNoPart (dPart (dV 5))) (dCons (dSl (dV 0) (dPart (dV 5)) dNoPart) dNil))) (dBin oMd (dBin oIx (dV 1) (dC (.int 3))) (dC (.int 2))))) dNext)
  (dSeq (dIf (dTV (dBin oEq (dV 6) (dC (.int 7)))) (dRet (dBin oAddU (dBin oRepL (dLst (dCons (dC (.str "not")) dNil)) (dBin oAddU (dC (.int 38)) (dBin oMd (dBin oIx (dV 1) (dC (.int 3))) (dC (.int 12))))) (dLst (dCons (dBin oIx (dV 2) (dC (.int 0))) dNil)))) dNext)
  (dSeq (dIf (dTAnd (dTV (dBin oEq (dV 6) (dC (.int 8)))) (dTV (dBin oGt (dB bLen (dCons (dV 0) dNil)) (dC (.int 1))))) (dSeq (dSetP 7 (dBin oMd (dBin oIx (dV 1) (dC (.int 3))) (dB bLen (dCons (dV 0) dNil))))
  (dSeq (dSetF 8 (dListF (dCons (dV 0) dNil)))
  (dSeq (dSetAt 8 (dV 7) (dBin oIx (dV 0) (dBin oSubI (dV 5) (dC (.int 1)))))
  (dSeq (dSetAt 8 (dBin oSubI (dV 5) (dC (.int 1))) (dBin oIx (dV 0) (dV 7)))
  (dRetO 8))))) dNext)
  (dRet (dV 0))))))))))))
theorem nm_wd {z : Str} (h : isNm z = true) : Wd z := ⟨PL.nm_ok h, by have := nm_len h; omega⟩
theorem ix_ok {n : Nat} {i : Int} (h1 : -(n : Int) ≤ i) (h2 : i < n) : ∃ m, m < n ∧ ixN n i = some m := by
  unfold ixN
  by_cases c : 0 ≤ i
  · exact ⟨i.toNat, by omega, by rw [if_pos c, if_pos h2]⟩
  · exact ⟨(i + n).toNat, by omega, by rw [if_neg c, if_pos h1]⟩
theorem it_ix {ws : List Str} {i : Int} {m : Nat} (hm : m < ws.length) (h : ixN ws.length i = some m) : itemD (.list (ws.map .str)) i = some (.str ws[m]) := by
  show atI (ws.map PyData.str) i = _
  unfold atI
  rw [List.length_map, h]
  show (ws.map PyData.str)[m]? = _
  rw [List.getElem?_map, List.getElem?_eq_getElem hm]
  rfl
theorem rep_not (k : Nat) : (List.replicate k [PyData.str "not"]).flatten = (List.replicate k ("not" : Str)).map .str := by
  induction k with
  | zero => rfl
  | succ k ih => rw [List.replicate_succ, List.flatten_cons, ih]; rfl
theorem us_to {us : List Str} (h : UsOk us) (k : Nat) : UsOk (us.take k) := ⟨by have := h.1; rw [List.length_take]; omega, fun z hz => h.2 z (List.mem_of_mem_take hz)⟩
theorem us_from {us : List Str} (h : UsOk us) (k : Nat) : UsOk (us.drop k) := ⟨by have := h.1; rw [List.length_drop]; omega, fun z hz => h.2 z (List.mem_of_mem_drop hz)⟩
theorem rd__law_spoiled (ds : List Dt) (Φ : Slot → Prop) (Ξ : XD → Prop) (h : sp__law_spoiled ds Φ Ξ) : d__law_spoiled (endsOf Φ Ξ) (rho0 N__law_spoiled ds) := by
  obtain ⟨ws, xs, nms, rfl, w1, w2, wd, xl, nl, nn, h⟩ := h
  have hz : (100000 : Nat) < sizeLine := by decide
  have x1 : 1 < xs.length := by omega
  have x2 : 2 < xs.length := by omega
  have x0 : 0 < xs.length := by omega
  have x3 : 3 < xs.length := by omega
  have i0 : itemD (.list (xs.map PyData.int)) 0 = some (.int xs[0]) := it_at (k := 0) rfl (by rw [List.getElem?_map, List.getElem?_eq_getElem x0]; rfl)
  have i1 : itemD (.list (xs.map PyData.int)) 1 = some (.int xs[1]) := it_at (k := 1) rfl (by rw [List.getElem?_map, List.getElem?_eq_getElem x1]; rfl)
  have i2 : itemD (.list (xs.map PyData.int)) 2 = some (.int xs[2]) := it_at (k := 2) rfl (by rw [List.getElem?_map, List.getElem?_eq_getElem x2]; rfl)
  have i3 : itemD (.list (xs.map PyData.int)) 3 = some (.int xs[3]) := it_at (k := 3) rfl (by rw [List.getElem?_map, List.getElem?_eq_getElem x3]; rfl)
  have uw : UsOk ws := ⟨by omega, wd⟩
  unfold d__law_spoiled
  rw [odd_lst]
  show dSeq _ _ _ [.pu (.list (ws.map .str)), .pu (.list (xs.map .int)), .pu (.list (nms.map .str)), .un, .un, .un, .un, .un, .un]
  refine seq_cut (fun ρ => ρ = [.pu (.list (ws.map .str)), .pu (.list (xs.map .int)), .pu (.list (nms.map .str)), .pu (.list (ODD.map .str)), .un, .un, .un, .un, .un]) (fun E hr hE => ?_) ?_
  · simp only [dRet, dRetF, dSetX, dCallX, dRetX, noOw, dTry, dCpy, dRaise, dRetO, dSetP, dSetS, dSetF, dSeq, dIf, dNext, dCall, dCallF, dB, dBin, dCons, dNil, dTup, dLst, dV, dC, dTV, onB, dTAnd, dTOr, dTNot, dAnd, dOr, dNot, dIfE, dIsN, dNotN, isN, dSl, dSlF, dNoPart, dPart, dPar, dParS, dAsg, dgN, dgT, dgCons, dgNil, dFE, dIsi, dListF, dNeg, dRev, dFrz, dApp, dAppS, dIns, dExtend, dClear, dReverse, dPop, oIx, oI, oIC, add_ii, add_ss, add_ll, add_tt, oSubI, oMulU, oMulI, oFd, oMd, oPw, oLt, oLe, oGt, oGe, oEq, oNe, getF, setF, Cl.d, getS, setS, purF_nil, purF_cons, purH, allF_nil, allF_cons, allH, rho0, endsOf, scalD, len_l, len_t, len_s, bAbs, bInt, bIntU, tup_l, tup_t, true_and, and_true, Option.some.injEq, exists_eq_left', decide_eq_true_eq, Bool.not_eq_true', decide_eq_false_iff_not, it_eQ0, it_eQ1, it_eP0, it_eP1, it_eS0, it_eS1, fits_eQ, fits_eP, fits_eS, eqv_eQ, eqv_eP, eqv_eS, eqv_int, eqv_bool, shp_int, shp_bool, shp_none, shp_eQ, shp_eP, shp_eS, dCont, dBreak, dXi, dSetG, dAppG, oIsB, oNotB, dTx, pJoin, pSplit, pPart, pStarts, bStr, bIntS, dFmt, dJs, ↓reduceIte, nsp_none, nsp_bool, nsp_int, nsp_str, nsp_list, nsp_tuple, nsp_eQ, nsp_eP, nsp_eS, dat_pu, dat_ow, seqD_l, seqD_t, not_true_eq_false, Bool.true_eq_false, Bool.not_not, List.length_cons, List.length_nil, mkP, mkS, fits_list, fits_tuple, isIntD, isBoolD, isListD, isStrD, isTupD, Bool.not_true, Bool.not_false, Bool.false_eq_true, it_l0, it_l1, it_l2, it_t0, it_t1, it_t2, shp_ps, shp_pt, shp_ss, shp_is, seqD_eQ, seqD_eP, seqD_eS, walkD_eP, walkD_eS, walkD_l, walkD_t]
    exact hE _ rfl
  rintro _ rfl
  refine seq_cut (fun ρ => ∃ z, Wd z ∧ ρ = [.pu (.list (ws.map .str)), .pu (.list (xs.map .int)), .pu (.list (nms.map .str)), .pu (.list (ODD.map .str)), .pu (.str z), .un, .un, .un, .un]) (fun E hr hE => ?_) ?_
  · have c1 : cutD (nms.map PyData.str) none (some (2 : Int)) = (nms.take 2).map PyData.str := by
      rw [cutD_map]
      exact congrArg _ (cutD_to nms 2)
    have l18 : (ODD ++ nms.take 2).length = 18 := by
      rw [List.length_append, List.length_take, nl]
      rfl
    have le : (ODD.map PyData.str).length = 16 := rfl
    simp only [sl_l, c1, i1, le, List.length_map, List.length_take, nl, dRet, dRetF, dSetX, dCallX, dRetX, noOw, dTry, dCpy, dRaise, dRetO, dSetP, dSetS, dSetF, dSeq, dIf, dNext, dCall, dCallF, dB, dBin, dCons, dNil, dTup, dLst, dV, dC, dTV, onB, dTAnd, dTOr, dTNot, dAnd, dOr, dNot, dIfE, dIsN, dNotN, isN, dSl, dSlF, dNoPart, dPart, dPar, dParS, dAsg, dgN, dgT, dgCons, dgNil, dFE, dIsi, dListF, dNeg, dRev, dFrz, dApp, dAppS, dIns, dExtend, dClear, dReverse, dPop, oIx, oI, oIC, add_ii, add_ss, add_ll, add_tt, oSubI, oMulU, oMulI, oFd, oMd, oPw, oLt, oLe, oGt, oGe, oEq, oNe, getF, setF, Cl.d, getS, setS, purF_nil, purF_cons, purH, allF_nil, allF_cons, allH, rho0, endsOf, scalD, len_l, len_t, len_s, bAbs, bInt, bIntU, tup_l, tup_t, true_and, and_true, Option.some.injEq, exists_eq_left', decide_eq_true_eq, Bool.not_eq_true', decide_eq_false_iff_not, it_eQ0, it_eQ1, it_eP0, it_eP1, it_eS0, it_eS1, fits_eQ, fits_eP, fits_eS, eqv_eQ, eqv_eP, eqv_eS, eqv_int, eqv_bool, shp_int, shp_bool, shp_none, shp_eQ, shp_eP, shp_eS, dCont, dBreak, dXi, dSetG, dAppG, oIsB, oNotB, dTx, pJoin, pSplit, pPart, pStarts, bStr, bIntS, dFmt, dJs, ↓reduceIte, nsp_none, nsp_bool, nsp_int, nsp_str, nsp_list, nsp_tuple, nsp_eQ, nsp_eP, nsp_eS, dat_pu, dat_ow, seqD_l, seqD_t, not_true_eq_false, Bool.true_eq_false, Bool.not_not, List.length_cons, List.length_nil, mkP, mkS, fits_list, fits_tuple, isIntD, isBoolD, isListD, isStrD, isTupD, Bool.not_true, Bool.not_false, Bool.false_eq_true, it_l0, it_l1, it_l2, it_t0, it_t1, it_t2, shp_ps, shp_pt, shp_ss, shp_is, seqD_eQ, seqD_eP, seqD_eS, walkD_eP, walkD_eS, walkD_l, walkD_t]
    refine ⟨by omega, by decide, ?_⟩
    rw [← List.map_append]
    obtain ⟨z, hz1, ez⟩ := pickW (ns := ODD ++ nms.take 2) (m := 18) (by decide) (by rw [l18]; rfl) xs[1]
    refine ⟨_, ez, hE _ ⟨z, ?_, rfl⟩⟩
    rcases List.mem_append.mp hz1 with q | q
    · exact odd_wd z q
    · exact nm_wd (nn z (List.mem_of_mem_take q))
  rintro _ ⟨z, hzd, rfl⟩
  obtain ⟨f0, f1⟩ := fmod_b (x := xs[2]) (m := (ws.length : Int) + 1) (by omega)
  refine seq_cut (fun ρ => ∃ a : Nat, a ≤ ws.length ∧ ρ = [.pu (.list (ws.map .str)), .pu (.list (xs.map .int)), .pu (.list (nms.map .str)), .pu (.list (ODD.map .str)), .pu (.str z), .pu (.int a), .un, .un, .un]) (fun E hr hE => ?_) ?_
  · simp only [i2, List.length_map, dRet, dRetF, dSetX, dCallX, dRetX, noOw, dTry, dCpy, dRaise, dRetO, dSetP, dSetS, dSetF, dSeq, dIf, dNext, dCall, dCallF, dB, dBin, dCons, dNil, dTup, dLst, dV, dC, dTV, onB, dTAnd, dTOr, dTNot, dAnd, dOr, dNot, dIfE, dIsN, dNotN, isN, dSl, dSlF, dNoPart, dPart, dPar, dParS, dAsg, dgN, dgT, dgCons, dgNil, dFE, dIsi, dListF, dNeg, dRev, dFrz, dApp, dAppS, dIns, dExtend, dClear, dReverse, dPop, oIx, oI, oIC, add_ii, add_ss, add_ll, add_tt, oSubI, oMulU, oMulI, oFd, oMd, oPw, oLt, oLe, oGt, oGe, oEq, oNe, getF, setF, Cl.d, getS, setS, purF_nil, purF_cons, purH, allF_nil, allF_cons, allH, rho0, endsOf, scalD, len_l, len_t, len_s, bAbs, bInt, bIntU, tup_l, tup_t, true_and, and_true, Option.some.injEq, exists_eq_left', decide_eq_true_eq, Bool.not_eq_true', decide_eq_false_iff_not, it_eQ0, it_eQ1, it_eP0, it_eP1, it_eS0, it_eS1, fits_eQ, fits_eP, fits_eS, eqv_eQ, eqv_eP, eqv_eS, eqv_int, eqv_bool, shp_int, shp_bool, shp_none, shp_eQ, shp_eP, shp_eS, dCont, dBreak, dXi, dSetG, dAppG, oIsB, oNotB, dTx, pJoin, pSplit, pPart, pStarts, bStr, bIntS, dFmt, dJs, ↓reduceIte, nsp_none, nsp_bool, nsp_int, nsp_str, nsp_list, nsp_tuple, nsp_eQ, nsp_eP, nsp_eS, dat_pu, dat_ow, seqD_l, seqD_t, not_true_eq_false, Bool.true_eq_false, Bool.not_not, List.length_cons, List.length_nil, mkP, mkS, fits_list, fits_tuple, isIntD, isBoolD, isListD, isStrD, isTupD, Bool.not_true, Bool.not_false, Bool.false_eq_true, it_l0, it_l1, it_l2, it_t0, it_t1, it_t2, shp_ps, shp_pt, shp_ss, shp_is, seqD_eQ, seqD_eP, seqD_eS, walkD_eP, walkD_eS, walkD_l, walkD_t]
    refine ⟨by omega, hE _ ⟨(xs[2].fmod ((ws.length : Int) + 1)).toNat, by omega, ?_⟩⟩
    rw [Int.toNat_of_nonneg f0]
  rintro _ ⟨a, ha, rfl⟩
  obtain ⟨g0, g1⟩ := fmod_b (x := xs[0]) (m := 10) (by decide)
  refine seq_cut (fun ρ => ρ = [.pu (.list (ws.map .str)), .pu (.list (xs.map .int)), .pu (.list (nms.map .str)), .pu (.list (ODD.map .str)), .pu (.str z), .pu (.int a), .pu (.int (xs[0].fmod 10)), .un, .un]) (fun E hr hE => ?_) ?_
  · simp only [i0, dRet, dRetF, dSetX, dCallX, dRetX, noOw, dTry, dCpy, dRaise, dRetO, dSetP, dSetS, dSetF, dSeq, dIf, dNext, dCall, dCallF, dB, dBin, dCons, dNil, dTup, dLst, dV, dC, dTV, onB, dTAnd, dTOr, dTNot, dAnd, dOr, dNot, dIfE, dIsN, dNotN, isN, dSl, dSlF, dNoPart, dPart, dPar, dParS, dAsg, dgN, dgT, dgCons, dgNil, dFE, dIsi, dListF, dNeg, dRev, dFrz, dApp, dAppS, dIns, dExtend, dClear, dReverse, dPop, oIx, oI, oIC, add_ii, add_ss, add_ll, add_tt, oSubI, oMulU, oMulI, oFd, oMd, oPw, oLt, oLe, oGt, oGe, oEq, oNe, getF, setF, Cl.d, getS, setS, purF_nil, purF_cons, purH, allF_nil, allF_cons, allH, rho0, endsOf, scalD, len_l, len_t, len_s, bAbs, bInt, bIntU, tup_l, tup_t, true_and, and_true, Option.some.injEq, exists_eq_left', decide_eq_true_eq, Bool.not_eq_true', decide_eq_false_iff_not, it_eQ0, it_eQ1, it_eP0, it_eP1, it_eS0, it_eS1, fits_eQ, fits_eP, fits_eS, eqv_eQ, eqv_eP, eqv_eS, eqv_int, eqv_bool, shp_int, shp_bool, shp_none, shp_eQ, shp_eP, shp_eS, dCont, dBreak, dXi, dSetG, dAppG, oIsB, oNotB, dTx, pJoin, pSplit, pPart, pStarts, bStr, bIntS, dFmt, dJs, ↓reduceIte, nsp_none, nsp_bool, nsp_int, nsp_str, nsp_list, nsp_tuple, nsp_eQ, nsp_eP, nsp_eS, dat_pu, dat_ow, seqD_l, seqD_t, not_true_eq_false, Bool.true_eq_false, Bool.not_not, List.length_cons, List.length_nil, mkP, mkS, fits_list, fits_tuple, isIntD, isBoolD, isListD, isStrD, isTupD, Bool.not_true, Bool.not_false, Bool.false_eq_true, it_l0, it_l1, it_l2, it_t0, it_t1, it_t2, shp_ps, shp_pt, shp_ss, shp_is, seqD_eQ, seqD_eP, seqD_eS, walkD_eP, walkD_eS, walkD_l, walkD_t]
    exact ⟨by decide, hE _ rfl⟩
  rintro _ rfl
  generalize xs[0].fmod 10 = w at g0 g1
  have ct : cutD (ws.map PyData.str) none (some (a : Int)) = (ws.take a).map PyData.str := by rw [cutD_map, cutD_to]
  have cf : cutD (ws.map PyData.str) (some (a : Int)) none = (ws.drop a).map PyData.str := by rw [cutD_map, cutD_from]
  have cf1 : cutD (ws.map PyData.str) (some ((a : Int) + 1)) none = (ws.drop (a + 1)).map PyData.str := by
    rw [cutD_map]
    exact congrArg _ (cutD_from ws (a + 1))
  refine seq_cut (fun ρ => ρ = [.pu (.list (ws.map .str)), .pu (.list (xs.map .int)), .pu (.list (nms.map .str)), .pu (.list (ODD.map .str)), .pu (.str z), .pu (.int a), .pu (.int w), .un, .un]) (fun E hr hE => ?_) ?_
  · simp only [sl_l, ct, cf, List.length_append, List.length_map, List.length_take, List.length_drop, dRet, dRetF, dSetX, dCallX, dRetX, noOw, dTry, dCpy, dRaise, dRetO, dSetP, dSetS, dSetF, dSeq, dIf, dNext, dCall, dCallF, dB, dBin, dCons, dNil, dTup, dLst, dV, dC, dTV, onB, dTAnd, dTOr, dTNot, dAnd, dOr, dNot, dIfE, dIsN, dNotN, isN, dSl, dSlF, dNoPart, dPart, dPar, dParS, dAsg, dgN, dgT, dgCons, dgNil, dFE, dIsi, dListF, dNeg, dRev, dFrz, dApp, dAppS, dIns, dExtend, dClear, dReverse, dPop, oIx, oI, oIC, add_ii, add_ss, add_ll, add_tt, oSubI, oMulU, oMulI, oFd, oMd, oPw, oLt, oLe, oGt, oGe, oEq, oNe, getF, setF, Cl.d, getS, setS, purF_nil, purF_cons, purH, allF_nil, allF_cons, allH, rho0, endsOf, scalD, len_l, len_t, len_s, bAbs, bInt, bIntU, tup_l, tup_t, true_and, and_true, Option.some.injEq, exists_eq_left', decide_eq_true_eq, Bool.not_eq_true', decide_eq_false_iff_not, it_eQ0, it_eQ1, it_eP0, it_eP1, it_eS0, it_eS1, fits_eQ, fits_eP, fits_eS, eqv_eQ, eqv_eP, eqv_eS, eqv_int, eqv_bool, shp_int, shp_bool, shp_none, shp_eQ, shp_eP, shp_eS, dCont, dBreak, dXi, dSetG, dAppG, oIsB, oNotB, dTx, pJoin, pSplit, pPart, pStarts, bStr, bIntS, dFmt, dJs, ↓reduceIte, nsp_none, nsp_bool, nsp_int, nsp_str, nsp_list, nsp_tuple, nsp_eQ, nsp_eP, nsp_eS, dat_pu, dat_ow, seqD_l, seqD_t, not_true_eq_false, Bool.true_eq_false, Bool.not_not, List.length_cons, List.length_nil, mkP, mkS, fits_list, fits_tuple, isIntD, isBoolD, isListD, isStrD, isTupD, Bool.not_true, Bool.not_false, Bool.false_eq_true, it_l0, it_l1, it_l2, it_t0, it_t1, it_t2, shp_ps, shp_pt, shp_ss, shp_is, seqD_eQ, seqD_eP, seqD_eS, walkD_eP, walkD_eS, walkD_l, walkD_t]
    by_cases c : w < 2
    · refine ite_yes c ⟨by omega, by omega, ?_⟩
      rw [hr]
      have us : UsOk (ws.take a ++ [z] ++ ws.drop a) := by
        refine ⟨by simp only [List.length_append, List.length_take, List.length_drop, List.length_cons, List.length_nil]; omega, fun y hy => ?_⟩
        rcases List.mem_append.mp hy with y1 | y1
        · rcases List.mem_append.mp y1 with y2 | y2
          · exact (us_to uw a).2 y y2
          · rw [List.mem_singleton.mp y2]; exact hzd
        · exact (us_from uw a).2 y y1
      have := (h _ us).1
      rw [List.map_append, List.map_append] at this
      exact this
    · exact ite_no c (hE _ rfl)
  rintro _ rfl
  refine seq_cut (fun ρ => ρ = [.pu (.list (ws.map .str)), .pu (.list (xs.map .int)), .pu (.list (nms.map .str)), .pu (.list (ODD.map .str)), .pu (.str z), .pu (.int a), .pu (.int w), .un, .un]) (fun E hr hE => ?_) ?_
  · simp only [sl_l, ct, cf1, List.length_append, List.length_map, List.length_take, List.length_drop, dRet, dRetF, dSetX, dCallX, dRetX, noOw, dTry, dCpy, dRaise, dRetO, dSetP, dSetS, dSetF, dSeq, dIf, dNext, dCall, dCallF, dB, dBin, dCons, dNil, dTup, dLst, dV, dC, dTV, onB, dTAnd, dTOr, dTNot, dAnd, dOr, dNot, dIfE, dIsN, dNotN, isN, dSl, dSlF, dNoPart, dPart, dPar, dParS, dAsg, dgN, dgT, dgCons, dgNil, dFE, dIsi, dListF, dNeg, dRev, dFrz, dApp, dAppS, dIns, dExtend, dClear, dReverse, dPop, oIx, oI, oIC, add_ii, add_ss, add_ll, add_tt, oSubI, oMulU, oMulI, oFd, oMd, oPw, oLt, oLe, oGt, oGe, oEq, oNe, getF, setF, Cl.d, getS, setS, purF_nil, purF_cons, purH, allF_nil, allF_cons, allH, rho0, endsOf, scalD, len_l, len_t, len_s, bAbs, bInt, bIntU, tup_l, tup_t, true_and, and_true, Option.some.injEq, exists_eq_left', decide_eq_true_eq, Bool.not_eq_true', decide_eq_false_iff_not, it_eQ0, it_eQ1, it_eP0, it_eP1, it_eS0, it_eS1, fits_eQ, fits_eP, fits_eS, eqv_eQ, eqv_eP, eqv_eS, eqv_int, eqv_bool, shp_int, shp_bool, shp_none, shp_eQ, shp_eP, shp_eS, dCont, dBreak, dXi, dSetG, dAppG, oIsB, oNotB, dTx, pJoin, pSplit, pPart, pStarts, bStr, bIntS, dFmt, dJs, ↓reduceIte, nsp_none, nsp_bool, nsp_int, nsp_str, nsp_list, nsp_tuple, nsp_eQ, nsp_eP, nsp_eS, dat_pu, dat_ow, seqD_l, seqD_t, not_true_eq_false, Bool.true_eq_false, Bool.not_not, List.length_cons, List.length_nil, mkP, mkS, fits_list, fits_tuple, isIntD, isBoolD, isListD, isStrD, isTupD, Bool.not_true, Bool.not_false, Bool.false_eq_true, it_l0, it_l1, it_l2, it_t0, it_t1, it_t2, shp_ps, shp_pt, shp_ss, shp_is, seqD_eQ, seqD_eP, seqD_eS, walkD_eP, walkD_eS, walkD_l, walkD_t]
    by_cases c : w < 4
    · refine ite_yes c ⟨by omega, ?_⟩
      rw [hr]
      have us : UsOk (ws.take a ++ ws.drop (a + 1)) := by
        refine ⟨by simp only [List.length_append, List.length_take, List.length_drop]; omega, fun y hy => ?_⟩
        rcases List.mem_append.mp hy with y1 | y1
        · exact (us_to uw a).2 y y1
        · exact (us_from uw (a + 1)).2 y y1
      have := (h _ us).1
      rw [List.map_append] at this
      exact this
    · exact ite_no c (hE _ rfl)
  rintro _ rfl
  refine seq_cut (fun ρ => ρ = [.pu (.list (ws.map .str)), .pu (.list (xs.map .int)), .pu (.list (nms.map .str)), .pu (.list (ODD.map .str)), .pu (.str z), .pu (.int a), .pu (.int w), .un, .un]) (fun E hr hE => ?_) ?_
  · simp only [sl_l, ct, cf1, List.length_append, List.length_map, List.length_take, List.length_drop, dRet, dRetF, dSetX, dCallX, dRetX, noOw, dTry, dCpy, dRaise, dRetO, dSetP, dSetS, dSetF, dSeq, dIf, dNext, dCall, dCallF, dB, dBin, dCons, dNil, dTup, dLst, dV, dC, dTV, onB, dTAnd, dTOr, dTNot, dAnd, dOr, dNot, dIfE, dIsN, dNotN, isN, dSl, dSlF, dNoPart, dPart, dPar, dParS, dAsg, dgN, dgT, dgCons, dgNil, dFE, dIsi, dListF, dNeg, dRev, dFrz, dApp, dAppS, dIns, dExtend, dClear, dReverse, dPop, oIx, oI, oIC, add_ii, add_ss, add_ll, add_tt, oSubI, oMulU, oMulI, oFd, oMd, oPw, oLt, oLe, oGt, oGe, oEq, oNe, getF, setF, Cl.d, getS, setS, purF_nil, purF_cons, purH, allF_nil, allF_cons, allH, rho0, endsOf, scalD, len_l, len_t, len_s, bAbs, bInt, bIntU, tup_l, tup_t, true_and, and_true, Option.some.injEq, exists_eq_left', decide_eq_true_eq, Bool.not_eq_true', decide_eq_false_iff_not, it_eQ0, it_eQ1, it_eP0, it_eP1, it_eS0, it_eS1, fits_eQ, fits_eP, fits_eS, eqv_eQ, eqv_eP, eqv_eS, eqv_int, eqv_bool, shp_int, shp_bool, shp_none, shp_eQ, shp_eP, shp_eS, dCont, dBreak, dXi, dSetG, dAppG, oIsB, oNotB, dTx, pJoin, pSplit, pPart, pStarts, bStr, bIntS, dFmt, dJs, ↓reduceIte, nsp_none, nsp_bool, nsp_int, nsp_str, nsp_list, nsp_tuple, nsp_eQ, nsp_eP, nsp_eS, dat_pu, dat_ow, seqD_l, seqD_t, not_true_eq_false, Bool.true_eq_false, Bool.not_not, List.length_cons, List.length_nil, mkP, mkS, fits_list, fits_tuple, isIntD, isBoolD, isListD, isStrD, isTupD, Bool.not_true, Bool.not_false, Bool.false_eq_true, it_l0, it_l1, it_l2, it_t0, it_t1, it_t2, shp_ps, shp_pt, shp_ss, shp_is, seqD_eQ, seqD_eP, seqD_eS, walkD_eP, walkD_eS, walkD_l, walkD_t]
    by_cases c : w < 6
    · refine ite_yes c ⟨by omega, by omega, ?_⟩
      rw [hr]
      have us : UsOk (ws.take a ++ [z] ++ ws.drop (a + 1)) := by
        refine ⟨by simp only [List.length_append, List.length_take, List.length_drop, List.length_cons, List.length_nil]; omega, fun y hy => ?_⟩
        rcases List.mem_append.mp hy with y1 | y1
        · rcases List.mem_append.mp y1 with y2 | y2
          · exact (us_to uw a).2 y y2
          · rw [List.mem_singleton.mp y2]; exact hzd
        · exact (us_from uw (a + 1)).2 y y1
      have := (h _ us).1
      rw [List.map_append, List.map_append] at this
      exact this
    · exact ite_no c (hE _ rfl)
  rintro _ rfl
  refine seq_cut (fun ρ => ρ = [.pu (.list (ws.map .str)), .pu (.list (xs.map .int)), .pu (.list (nms.map .str)), .pu (.list (ODD.map .str)), .pu (.str z), .pu (.int a), .pu (.int w), .un, .un]) (fun E hr hE => ?_) ?_
  · simp only [sl_l, ct, cf, i3, dRet, dRetF, dSetX, dCallX, dRetX, noOw, dTry, dCpy, dRaise, dRetO, dSetP, dSetS, dSetF, dSeq, dIf, dNext, dCall, dCallF, dB, dBin, dCons, dNil, dTup, dLst, dV, dC, dTV, onB, dTAnd, dTOr, dTNot, dAnd, dOr, dNot, dIfE, dIsN, dNotN, isN, dSl, dSlF, dNoPart, dPart, dPar, dParS, dAsg, dgN, dgT, dgCons, dgNil, dFE, dIsi, dListF, dNeg, dRev, dFrz, dApp, dAppS, dIns, dExtend, dClear, dReverse, dPop, oIx, oI, oIC, add_ii, add_ss, add_ll, add_tt, oSubI, oMulU, oMulI, oFd, oMd, oPw, oLt, oLe, oGt, oGe, oEq, oNe, getF, setF, Cl.d, getS, setS, purF_nil, purF_cons, purH, allF_nil, allF_cons, allH, rho0, endsOf, scalD, len_l, len_t, len_s, bAbs, bInt, bIntU, tup_l, tup_t, true_and, and_true, Option.some.injEq, exists_eq_left', decide_eq_true_eq, Bool.not_eq_true', decide_eq_false_iff_not, it_eQ0, it_eQ1, it_eP0, it_eP1, it_eS0, it_eS1, fits_eQ, fits_eP, fits_eS, eqv_eQ, eqv_eP, eqv_eS, eqv_int, eqv_bool, shp_int, shp_bool, shp_none, shp_eQ, shp_eP, shp_eS, dCont, dBreak, dXi, dSetG, dAppG, oIsB, oNotB, dTx, pJoin, pSplit, pPart, pStarts, bStr, bIntS, dFmt, dJs, ↓reduceIte, nsp_none, nsp_bool, nsp_int, nsp_str, nsp_list, nsp_tuple, nsp_eQ, nsp_eP, nsp_eS, dat_pu, dat_ow, seqD_l, seqD_t, not_true_eq_false, Bool.true_eq_false, Bool.not_not, List.length_cons, List.length_nil, mkP, mkS, fits_list, fits_tuple, isIntD, isBoolD, isListD, isStrD, isTupD, Bool.not_true, Bool.not_false, Bool.false_eq_true, it_l0, it_l1, it_l2, it_t0, it_t1, it_t2, shp_ps, shp_pt, shp_ss, shp_is, seqD_eQ, seqD_eP, seqD_eS, walkD_eP, walkD_eS, walkD_l, walkD_t]
    by_cases c : w = 6
    · refine ite_yes c ⟨by decide, ?_⟩
      rw [hr]
      obtain ⟨q0, q1⟩ := fmod_b (x := xs[3]) (m := 2) (by decide)
      have hq : xs[3].fmod 2 = 0 ∨ xs[3].fmod 2 = 1 := by omega
      rcases hq with q | q <;> rw [q]
      · exact ⟨_, it_l0 _ _, (h _ (us_to uw a)).1⟩
      · exact ⟨_, it_l1 _ _ _, (h _ (us_from uw a)).1⟩
    · exact ite_no c (hE _ rfl)
  rintro _ rfl
  refine seq_cut (fun ρ => ρ = [.pu (.list (ws.map .str)), .pu (.list (xs.map .int)), .pu (.list (nms.map .str)), .pu (.list (ODD.map .str)), .pu (.str z), .pu (.int a), .pu (.int w), .un, .un]) (fun E hr hE => ?_) ?_
  · have n0 : 0 < nms.length := by omega
    have in0 : itemD (.list (nms.map PyData.str)) 0 = some (.str nms[0]) := it_at (k := 0) rfl (by rw [List.getElem?_map, List.getElem?_eq_getElem n0]; rfl)
    simp only [i3, in0, oRepL, dRet, dRetF, dSetX, dCallX, dRetX, noOw, dTry, dCpy, dRaise, dRetO, dSetP, dSetS, dSetF, dSeq, dIf, dNext, dCall, dCallF, dB, dBin, dCons, dNil, dTup, dLst, dV, dC, dTV, onB, dTAnd, dTOr, dTNot, dAnd, dOr, dNot, dIfE, dIsN, dNotN, isN, dSl, dSlF, dNoPart, dPart, dPar, dParS, dAsg, dgN, dgT, dgCons, dgNil, dFE, dIsi, dListF, dNeg, dRev, dFrz, dApp, dAppS, dIns, dExtend, dClear, dReverse, dPop, oIx, oI, oIC, add_ii, add_ss, add_ll, add_tt, oSubI, oMulU, oMulI, oFd, oMd, oPw, oLt, oLe, oGt, oGe, oEq, oNe, getF, setF, Cl.d, getS, setS, purF_nil, purF_cons, purH, allF_nil, allF_cons, allH, rho0, endsOf, scalD, len_l, len_t, len_s, bAbs, bInt, bIntU, tup_l, tup_t, true_and, and_true, Option.some.injEq, exists_eq_left', decide_eq_true_eq, Bool.not_eq_true', decide_eq_false_iff_not, it_eQ0, it_eQ1, it_eP0, it_eP1, it_eS0, it_eS1, fits_eQ, fits_eP, fits_eS, eqv_eQ, eqv_eP, eqv_eS, eqv_int, eqv_bool, shp_int, shp_bool, shp_none, shp_eQ, shp_eP, shp_eS, dCont, dBreak, dXi, dSetG, dAppG, oIsB, oNotB, dTx, pJoin, pSplit, pPart, pStarts, bStr, bIntS, dFmt, dJs, ↓reduceIte, nsp_none, nsp_bool, nsp_int, nsp_str, nsp_list, nsp_tuple, nsp_eQ, nsp_eP, nsp_eS, dat_pu, dat_ow, seqD_l, seqD_t, not_true_eq_false, Bool.true_eq_false, Bool.not_not, List.length_cons, List.length_nil, mkP, mkS, fits_list, fits_tuple, isIntD, isBoolD, isListD, isStrD, isTupD, Bool.not_true, Bool.not_false, Bool.false_eq_true, it_l0, it_l1, it_l2, it_t0, it_t1, it_t2, shp_ps, shp_pt, shp_ss, shp_is, seqD_eQ, seqD_eP, seqD_eS, walkD_eP, walkD_eS, walkD_l, walkD_t]
    by_cases c : w = 7
    · obtain ⟨q0, q1⟩ := fmod_b (x := xs[3]) (m := 12) (by decide)
      generalize xs[3].fmod 12 = v at q0 q1
      refine ite_yes c ⟨by decide, by omega, by omega, by decide, ?_⟩
      rw [rep_not]
      refine ⟨by simp only [List.length_map, List.length_replicate]; omega, ?_⟩
      rw [hr]
      have us : UsOk (List.replicate (38 + v).toNat ("not" : Str) ++ [nms[0]]) := by
        refine ⟨by simp only [List.length_append, List.length_replicate, List.length_cons, List.length_nil]; omega, fun y hy => ?_⟩
        rcases List.mem_append.mp hy with y1 | y1
        · rw [(List.mem_replicate.mp y1).2]
          exact ⟨by decide +kernel, by decide +kernel⟩
        · rw [List.mem_singleton.mp y1]
          exact nm_wd (nn _ (List.getElem_mem n0))
      have := (h _ us).1
      rw [List.map_append] at this
      exact this
    · exact ite_no c (hE _ rfl)
  rintro _ rfl
  refine seq_cut (fun ρ => ρ = [.pu (.list (ws.map .str)), .pu (.list (xs.map .int)), .pu (.list (nms.map .str)), .pu (.list (ODD.map .str)), .pu (.str z), .pu (.int a), .pu (.int w), .un, .un]) (fun E hr hE => ?_) ?_
  · obtain ⟨q0, q1⟩ := fmod_b (x := xs[3]) (m := (ws.length : Int)) (by omega)
    have arm : 1 < ws.length → dSeq (dSetP 7 (dBin oMd (dBin oIx (dV 1) (dC (.int 3))) (dB bLen (dCons (dV 0) dNil))))
        (dSeq (dSetF 8 (dListF (dCons (dV 0) dNil)))
        (dSeq (dSetAt 8 (dV 7) (dBin oIx (dV 0) (dBin oSubI (dV 5) (dC (.int 1)))))
        (dSeq (dSetAt 8 (dBin oSubI (dV 5) (dC (.int 1))) (dBin oIx (dV 0) (dV 7)))
        (dRetO 8)))) E [.pu (.list (ws.map .str)), .pu (.list (xs.map .int)), .pu (.list (nms.map .str)), .pu (.list (ODD.map .str)), .pu (.str z), .pu (.int a), .pu (.int w), .un, .un] := fun wl => by
      obtain ⟨m, m1, m2⟩ := ix_ok (n := ws.length) (i := (a : Int) - 1) (by omega) (by omega)
      obtain ⟨f, f1, f2⟩ := ix_ok (n := ws.length) (i := xs[3].fmod (ws.length : Int)) (by omega) (by omega)
      have im := it_ix m1 m2
      have if_ := it_ix f1 f2
      simp only [i3, im, if_, m2, f2, dSetAt, List.length_map, List.length_set, dRet, dRetF, dSetX, dCallX, dRetX, noOw, dTry, dCpy, dRaise, dRetO, dSetP, dSetS, dSetF, dSeq, dIf, dNext, dCall, dCallF, dB, dBin, dCons, dNil, dTup, dLst, dV, dC, dTV, onB, dTAnd, dTOr, dTNot, dAnd, dOr, dNot, dIfE, dIsN, dNotN, isN, dSl, dSlF, dNoPart, dPart, dPar, dParS, dAsg, dgN, dgT, dgCons, dgNil, dFE, dIsi, dListF, dNeg, dRev, dFrz, dApp, dAppS, dIns, dExtend, dClear, dReverse, dPop, oIx, oI, oIC, add_ii, add_ss, add_ll, add_tt, oSubI, oMulU, oMulI, oFd, oMd, oPw, oLt, oLe, oGt, oGe, oEq, oNe, getF, setF, Cl.d, getS, setS, purF_nil, purF_cons, purH, allF_nil, allF_cons, allH, rho0, endsOf, scalD, len_l, len_t, len_s, bAbs, bInt, bIntU, tup_l, tup_t, true_and, and_true, Option.some.injEq, exists_eq_left', decide_eq_true_eq, Bool.not_eq_true', decide_eq_false_iff_not, it_eQ0, it_eQ1, it_eP0, it_eP1, it_eS0, it_eS1, fits_eQ, fits_eP, fits_eS, eqv_eQ, eqv_eP, eqv_eS, eqv_int, eqv_bool, shp_int, shp_bool, shp_none, shp_eQ, shp_eP, shp_eS, dCont, dBreak, dXi, dSetG, dAppG, oIsB, oNotB, dTx, pJoin, pSplit, pPart, pStarts, bStr, bIntS, dFmt, dJs, ↓reduceIte, nsp_none, nsp_bool, nsp_int, nsp_str, nsp_list, nsp_tuple, nsp_eQ, nsp_eP, nsp_eS, dat_pu, dat_ow, seqD_l, seqD_t, not_true_eq_false, Bool.true_eq_false, Bool.not_not, List.length_cons, List.length_nil, mkP, mkS, fits_list, fits_tuple, isIntD, isBoolD, isListD, isStrD, isTupD, Bool.not_true, Bool.not_false, Bool.false_eq_true, it_l0, it_l1, it_l2, it_t0, it_t1, it_t2, shp_ps, shp_pt, shp_ss, shp_is, seqD_eQ, seqD_eP, seqD_eS, walkD_eP, walkD_eS, walkD_l, walkD_t]
      refine ⟨by omega, ?_⟩
      rw [hr]
      have us : UsOk ((ws.set f ws[m]).set m ws[f]) := by
        refine ⟨by rw [List.length_set, List.length_set]; omega, fun y hy => ?_⟩
        rcases List.mem_or_eq_of_mem_set hy with y1 | y1
        · rcases List.mem_or_eq_of_mem_set y1 with y2 | y2
          · exact wd y y2
          · rw [y2]; exact wd _ (List.getElem_mem m1)
        · rw [y1]; exact wd _ (List.getElem_mem f1)
      have := (h _ us).2
      rw [List.map_set, List.map_set] at this
      exact this
    simp only [dIf, dTAnd, dTV, dBin, dV, allF_cons, allF_nil, allH, getF, Cl.d, onB, dC, oEq, shp_int, eqv_int, true_and]
    by_cases c : w = 8
    · rw [if_pos (decide_eq_true c)]
      simp only [dB, dCons, dV, getF, Cl.d, dNil, len_l, oGt, oI, List.length_map, onB]
      by_cases c2 : (1 : Int) < ws.length
      · rw [if_pos (decide_eq_true c2)]
        exact arm (by omega)
      · rw [if_neg (by simpa using c2)]
        exact hE _ rfl
    · rw [if_neg (by simpa using c)]
      exact hE _ rfl
  rintro _ rfl
  simp only [dRet, dRetF, dSetX, dCallX, dRetX, noOw, dTry, dCpy, dRaise, dRetO, dSetP, dSetS, dSetF, dSeq, dIf, dNext, dCall, dCallF, dB, dBin, dCons, dNil, dTup, dLst, dV, dC, dTV, onB, dTAnd, dTOr, dTNot, dAnd, dOr, dNot, dIfE, dIsN, dNotN, isN, dSl, dSlF, dNoPart, dPart, dPar, dParS, dAsg, dgN, dgT, dgCons, dgNil, dFE, dIsi, dListF, dNeg, dRev, dFrz, dApp, dAppS, dIns, dExtend, dClear, dReverse, dPop, oIx, oI, oIC, add_ii, add_ss, add_ll, add_tt, oSubI, oMulU, oMulI, oFd, oMd, oPw, oLt, oLe, oGt, oGe, oEq, oNe, getF, setF, Cl.d, getS, setS, purF_nil, purF_cons, purH, allF_nil, allF_cons, allH, rho0, endsOf, scalD, len_l, len_t, len_s, bAbs, bInt, bIntU, tup_l, tup_t, true_and, and_true, Option.some.injEq, exists_eq_left', decide_eq_true_eq, Bool.not_eq_true', decide_eq_false_iff_not, it_eQ0, it_eQ1, it_eP0, it_eP1, it_eS0, it_eS1, fits_eQ, fits_eP, fits_eS, eqv_eQ, eqv_eP, eqv_eS, eqv_int, eqv_bool, shp_int, shp_bool, shp_none, shp_eQ, shp_eP, shp_eS, dCont, dBreak, dXi, dSetG, dAppG, oIsB, oNotB, dTx, pJoin, pSplit, pPart, pStarts, bStr, bIntS, dFmt, dJs, ↓reduceIte, nsp_none, nsp_bool, nsp_int, nsp_str, nsp_list, nsp_tuple, nsp_eQ, nsp_eP, nsp_eS, dat_pu, dat_ow, seqD_l, seqD_t, not_true_eq_false, Bool.true_eq_false, Bool.not_not, List.length_cons, List.length_nil, mkP, mkS, fits_list, fits_tuple, isIntD, isBoolD, isListD, isStrD, isTupD, Bool.not_true, Bool.not_false, Bool.false_eq_true, it_l0, it_l1, it_l2, it_t0, it_t1, it_t2, shp_ps, shp_pt, shp_ss, shp_is, seqD_eQ, seqD_eP, seqD_eS, walkD_eP, walkD_eS, walkD_l, walkD_t]
  exact (h _ uw).1
end L2.D3.SY
set_option maxHeartbeats 1000000
/-! What is no saying: the law. -/
namespace L2.D3.SY.K39
open PySem PySem.Spec PyProof.Rows L2.D3 L2.D3.SY
open SX (S)
def tb_NoFace : List (Str × Bool) := [("SheetError", false), ("NoNumber", false), ("OnSide", false), ("NoText", false), ("NoAtlas", false), ("NoRow", false), ("NoSaying", false), ("NoFace", true), ("NoLand", false), ("NoDeed", false), ("NoDeskRow", false)]
def tb_NoDeskRow : List (Str × Bool) := [("SheetError", false), ("NoNumber", false), ("OnSide", false), ("NoText", false), ("NoAtlas", false), ("NoRow", false), ("NoSaying", false), ("NoFace", false), ("NoLand", false), ("NoDeed", false), ("NoDeskRow", true)]
def tb_NoDeed : List (Str × Bool) := [("SheetError", false), ("NoNumber", false), ("OnSide", false), ("NoText", false), ("NoAtlas", false), ("NoRow", false), ("NoSaying", false), ("NoFace", false), ("NoLand", false), ("NoDeed", true), ("NoDeskRow", false)]
def tb_NoAtlas : List (Str × Bool) := [("SheetError", false), ("NoNumber", false), ("OnSide", false), ("NoText", false), ("NoAtlas", true), ("NoRow", false), ("NoSaying", false), ("NoFace", false), ("NoLand", false), ("NoDeed", false), ("NoDeskRow", false)]
def tb_NoText : List (Str × Bool) := [("SheetError", false), ("NoNumber", false), ("OnSide", false), ("NoText", true), ("NoAtlas", false), ("NoRow", false), ("NoSaying", false), ("NoFace", false), ("NoLand", false), ("NoDeed", false), ("NoDeskRow", false)]
def tb_NoRow : List (Str × Bool) := [("SheetError", false), ("NoNumber", false), ("OnSide", false), ("NoText", false), ("NoAtlas", false), ("NoRow", true), ("NoSaying", false), ("NoFace", false), ("NoLand", false), ("NoDeed", false), ("NoDeskRow", false)]
def tb_NoNumber : List (Str × Bool) := [("SheetError", false), ("NoNumber", true), ("OnSide", false), ("NoText", false), ("NoAtlas", false), ("NoRow", false), ("NoSaying", false), ("NoFace", false), ("NoLand", false), ("NoDeed", false), ("NoDeskRow", false)]
def tb_NoLand : List (Str × Bool) := [("SheetError", false), ("NoNumber", false), ("OnSide", false), ("NoText", false), ("NoAtlas", false), ("NoRow", false), ("NoSaying", false), ("NoFace", false), ("NoLand", true), ("NoDeed", false), ("NoDeskRow", false)]
def tb_NoSaying : List (Str × Bool) := [("SheetError", false), ("NoNumber", false), ("OnSide", false), ("NoText", false), ("NoAtlas", false), ("NoRow", false), ("NoSaying", true), ("NoFace", false), ("NoLand", false), ("NoDeed", false), ("NoDeskRow", false)]
def tb_ValueError : List (Str × Bool) := [("SheetError", true), ("NoNumber", true), ("OnSide", true), ("NoText", true), ("NoAtlas", true), ("NoRow", true), ("NoSaying", true), ("NoFace", true), ("NoLand", true), ("NoDeed", true), ("NoDeskRow", true)]
def tb_OnSide : List (Str × Bool) := [("SheetError", false), ("NoNumber", false), ("OnSide", true), ("NoText", false), ("NoAtlas", false), ("NoRow", false), ("NoSaying", false), ("NoFace", false), ("NoLand", false), ("NoDeed", false), ("NoDeskRow", false)]
def tb_SheetError : List (Str × Bool) := [("SheetError", true), ("NoNumber", true), ("OnSide", true), ("NoText", true), ("NoAtlas", true), ("NoRow", true), ("NoSaying", true), ("NoFace", true), ("NoLand", true), ("NoDeed", true), ("NoDeskRow", true)]
def sp__law_only : DSx := fun x Φ => x.cls = "NoSaying" ∧ Φ (.pu (.bool true))
def oT : Option Sy → Dt
  | some t => .tuple [.str "told", .str (tx t)]
  | none => .tuple [.str "refused", .bool true]
def sp__law_refused : DSp := fun ds Φ _ => ∃ d : Dt, ds = [d] ∧ okD d ∧ Φ (.pu (oT (readS d)))
abbrev N__law_only : List Str := ["_law_e", "_law_others"]
def d__law_only : DS := (dSeq (dSetP 1 (dLst (dCons (dIsX 0 tb_NoAtlas) (dCons (dIsX 0 tb_NoDeed) (dCons (dIsX 0 tb_NoDeskRow) (dCons (dIsX 0 tb_NoFace) dNil))))))
  (dSeq (dSetP 1 (dBin oAddU (dV 1) (dLst (dCons (dIsX 0 tb_NoLand) (dCons (dIsX 0 tb_NoNumber) (dCons (dIsX 0 tb_NoRow) (dCons (dIsX 0 tb_NoText) dNil)))))))
  (dRet (dAnd (dIsX 0 tb_NoSaying) (dAnd (dIsX 0 tb_ValueError) (dAnd (dNot (dIsX 0 tb_OnSide)) (dBin oNin (dC (.bool true)) (dV 1))))))))
abbrev N__law_refused : List Str := ["_law_thing", "_law_caught", "_law_told", "_law_e"]
def d__law_refused : DS := (dSeq (dSetP 1 (dC .none))
  (dSeq (dSetP 2 (dC .none))
  (dSeq (dTry tb_SheetError 3 (dSetZ 2 (dzMeth0 CS "shown" sp_shown (dzCall sp_read_saying (dzCons (dzE (dV 0)) dzNil)))) (dCpy 1 3))
  (dSeq (dIf (dTV (dIsNA 1)) (dRet (dTup (dCons (dC (.str "told")) (dCons (dV 2) dNil)))) dNext)
  (dRet (dTup (dCons (dC (.str "refused")) (dCons (dCallA 1 sp__law_only) dNil))))))))
theorem rd__law_only (x : XD) (Φ : Slot → Prop) (h : sp__law_only x Φ) : d__law_only (endsOf Φ fun _ => False) (rhoA x N__law_only) := by
  obtain ⟨hc, h⟩ := h
  have sb : SeqAt.shaped (.list [.bool false, .bool false, .bool false, .bool false, .bool false, .bool false, .bool false, .bool false]) = true := by decide
  have t1 : tb_NoAtlas.lookup x.cls = some false := by rw [hc]; decide +kernel
  have t2 : tb_NoDeed.lookup x.cls = some false := by rw [hc]; decide +kernel
  have t3 : tb_NoDeskRow.lookup x.cls = some false := by rw [hc]; decide +kernel
  have t4 : tb_NoFace.lookup x.cls = some false := by rw [hc]; decide +kernel
  have t5 : tb_NoLand.lookup x.cls = some false := by rw [hc]; decide +kernel
  have t6 : tb_NoNumber.lookup x.cls = some false := by rw [hc]; decide +kernel
  have t7 : tb_NoRow.lookup x.cls = some false := by rw [hc]; decide +kernel
  have t8 : tb_NoText.lookup x.cls = some false := by rw [hc]; decide +kernel
  have t9 : tb_NoSaying.lookup x.cls = some true := by rw [hc]; decide +kernel
  have t10 : tb_ValueError.lookup x.cls = some true := by rw [hc]; decide +kernel
  have t11 : tb_OnSide.lookup x.cls = some false := by rw [hc]; decide +kernel
  have hz : (100000 : Nat) < sizeLine := by decide
  have isx : ∀ {φ : Fro} {tb : List (Str × Bool)} {b : Bool} {Ψ : Dt → Prop}, getA φ 0 = some (exA x) → tb.lookup x.cls = some b → Ψ (.bool b) → dIsX 0 tb φ Ψ := fun g t k => ⟨x, _, g, t, k⟩
  show dSeq _ _ _ [.an (exA x), .un]
  refine seq_cut (fun ρ => ρ = [.an (exA x), .pu (.list [.bool false, .bool false, .bool false, .bool false])]) (fun E hr hE => ?_) ?_
  · simp only [dRet, dRetF, dSetX, dCallX, dRetX, noOw, dTry, dCpy, dRaise, dRetO, dSetP, dSetS, dSetF, dSeq, dIf, dNext, dCall, dCallF, dB, dBin, dCons, dNil, dTup, dLst, dV, dC, dTV, onB, dTAnd, dTOr, dTNot, dAnd, dOr, dNot, dIfE, dIsN, dNotN, isN, dSl, dSlF, dNoPart, dPart, dPar, dParS, dAsg, dgN, dgT, dgCons, dgNil, dFE, dIsi, dListF, dNeg, dRev, dFrz, dApp, dAppS, dIns, dExtend, dClear, dReverse, dPop, oIx, oI, oIC, add_ii, add_ss, add_ll, add_tt, oSubI, oMulU, oMulI, oFd, oMd, oPw, oLt, oLe, oGt, oGe, oEq, oNe, getF, setF, Cl.d, getS, setS, purF_nil, purF_cons, purH, allF_nil, allF_cons, allH, rho0, endsOf, scalD, len_l, len_t, len_s, bAbs, bInt, bIntU, tup_l, tup_t, true_and, and_true, Option.some.injEq, exists_eq_left', decide_eq_true_eq, Bool.not_eq_true', decide_eq_false_iff_not, it_eQ0, it_eQ1, it_eP0, it_eP1, it_eS0, it_eS1, fits_eQ, fits_eP, fits_eS, eqv_eQ, eqv_eP, eqv_eS, eqv_int, eqv_bool, shp_int, shp_bool, shp_none, shp_eQ, shp_eP, shp_eS, dCont, dBreak, dXi, dSetG, dAppG, oIsB, oNotB, dTx, pJoin, pSplit, pPart, pStarts, bStr, bIntS, dFmt, dJs, ↓reduceIte, nsp_none, nsp_bool, nsp_int, nsp_str, nsp_list, nsp_tuple, nsp_eQ, nsp_eP, nsp_eS, dat_pu, dat_ow, seqD_l, seqD_t, not_true_eq_false, Bool.true_eq_false, Bool.not_not, List.length_cons, List.length_nil, mkP, mkS, fits_list, fits_tuple, isIntD, isBoolD, isListD, isStrD, isTupD, Bool.not_true, Bool.not_false, Bool.false_eq_true, it_l0, it_l1, it_l2, it_t0, it_t1, it_t2, shp_ps, shp_pt, shp_ss, shp_is, seqD_eQ, seqD_eP, seqD_eS, walkD_eP, walkD_eS, walkD_l, walkD_t]
    refine isx rfl t1 (isx rfl t2 (isx rfl t3 (isx rfl t4 ?_)))
    exact hE _ rfl
  rintro _ rfl
  refine seq_cut (fun ρ => ρ = [.an (exA x), .pu (.list [.bool false, .bool false, .bool false, .bool false, .bool false, .bool false, .bool false, .bool false])]) (fun E hr hE => ?_) ?_
  · simp only [dRet, dRetF, dSetX, dCallX, dRetX, noOw, dTry, dCpy, dRaise, dRetO, dSetP, dSetS, dSetF, dSeq, dIf, dNext, dCall, dCallF, dB, dBin, dCons, dNil, dTup, dLst, dV, dC, dTV, onB, dTAnd, dTOr, dTNot, dAnd, dOr, dNot, dIfE, dIsN, dNotN, isN, dSl, dSlF, dNoPart, dPart, dPar, dParS, dAsg, dgN, dgT, dgCons, dgNil, dFE, dIsi, dListF, dNeg, dRev, dFrz, dApp, dAppS, dIns, dExtend, dClear, dReverse, dPop, oIx, oI, oIC, add_ii, add_ss, add_ll, add_tt, oSubI, oMulU, oMulI, oFd, oMd, oPw, oLt, oLe, oGt, oGe, oEq, oNe, getF, setF, Cl.d, getS, setS, purF_nil, purF_cons, purH, allF_nil, allF_cons, allH, rho0, endsOf, scalD, len_l, len_t, len_s, bAbs, bInt, bIntU, tup_l, tup_t, true_and, and_true, Option.some.injEq, exists_eq_left', decide_eq_true_eq, Bool.not_eq_true', decide_eq_false_iff_not, it_eQ0, it_eQ1, it_eP0, it_eP1, it_eS0, it_eS1, fits_eQ, fits_eP, fits_eS, eqv_eQ, eqv_eP, eqv_eS, eqv_int, eqv_bool, shp_int, shp_bool, shp_none, shp_eQ, shp_eP, shp_eS, dCont, dBreak, dXi, dSetG, dAppG, oIsB, oNotB, dTx, pJoin, pSplit, pPart, pStarts, bStr, bIntS, dFmt, dJs, ↓reduceIte, nsp_none, nsp_bool, nsp_int, nsp_str, nsp_list, nsp_tuple, nsp_eQ, nsp_eP, nsp_eS, dat_pu, dat_ow, seqD_l, seqD_t, not_true_eq_false, Bool.true_eq_false, Bool.not_not, List.length_cons, List.length_nil, mkP, mkS, fits_list, fits_tuple, isIntD, isBoolD, isListD, isStrD, isTupD, Bool.not_true, Bool.not_false, Bool.false_eq_true, it_l0, it_l1, it_l2, it_t0, it_t1, it_t2, shp_ps, shp_pt, shp_ss, shp_is, seqD_eQ, seqD_eP, seqD_eS, walkD_eP, walkD_eS, walkD_l, walkD_t]
    refine isx rfl t5 (isx rfl t6 (isx rfl t7 (isx rfl t8 ?_)))
    exact ⟨by show 8 ≤ sizeLine; omega, hE _ rfl⟩
  rintro _ rfl
  simp only [dRet, dRetF, dSetX, dCallX, dRetX, noOw, dTry, dCpy, dRaise, dRetO, dSetP, dSetS, dSetF, dSeq, dIf, dNext, dCall, dCallF, dB, dBin, dCons, dNil, dTup, dLst, dV, dC, dTV, onB, dTAnd, dTOr, dTNot, dAnd, dOr, dNot, dIfE, dIsN, dNotN, isN, dSl, dSlF, dNoPart, dPart, dPar, dParS, dAsg, dgN, dgT, dgCons, dgNil, dFE, dIsi, dListF, dNeg, dRev, dFrz, dApp, dAppS, dIns, dExtend, dClear, dReverse, dPop, oIx, oI, oIC, add_ii, add_ss, add_ll, add_tt, oSubI, oMulU, oMulI, oFd, oMd, oPw, oLt, oLe, oGt, oGe, oEq, oNe, getF, setF, Cl.d, getS, setS, purF_nil, purF_cons, purH, allF_nil, allF_cons, allH, rho0, endsOf, scalD, len_l, len_t, len_s, bAbs, bInt, bIntU, tup_l, tup_t, true_and, and_true, Option.some.injEq, exists_eq_left', decide_eq_true_eq, Bool.not_eq_true', decide_eq_false_iff_not, it_eQ0, it_eQ1, it_eP0, it_eP1, it_eS0, it_eS1, fits_eQ, fits_eP, fits_eS, eqv_eQ, eqv_eP, eqv_eS, eqv_int, eqv_bool, shp_int, shp_bool, shp_none, shp_eQ, shp_eP, shp_eS, dCont, dBreak, dXi, dSetG, dAppG, oIsB, oNotB, dTx, pJoin, pSplit, pPart, pStarts, bStr, bIntS, dFmt, dJs, ↓reduceIte, nsp_none, nsp_bool, nsp_int, nsp_str, nsp_list, nsp_tuple, nsp_eQ, nsp_eP, nsp_eS, dat_pu, dat_ow, seqD_l, seqD_t, not_true_eq_false, Bool.true_eq_false, Bool.not_not, List.length_cons, List.length_nil, mkP, mkS, fits_list, fits_tuple, isIntD, isBoolD, isListD, isStrD, isTupD, Bool.not_true, Bool.not_false, Bool.false_eq_true, it_l0, it_l1, it_l2, it_t0, it_t1, it_t2, shp_ps, shp_pt, shp_ss, shp_is, seqD_eQ, seqD_eP, seqD_eS, walkD_eP, walkD_eS, walkD_l, walkD_t]
  refine isx rfl t9 ?_
  simp only [dRet, dRetF, dSetX, dCallX, dRetX, noOw, dTry, dCpy, dRaise, dRetO, dSetP, dSetS, dSetF, dSeq, dIf, dNext, dCall, dCallF, dB, dBin, dCons, dNil, dTup, dLst, dV, dC, dTV, onB, dTAnd, dTOr, dTNot, dAnd, dOr, dNot, dIfE, dIsN, dNotN, isN, dSl, dSlF, dNoPart, dPart, dPar, dParS, dAsg, dgN, dgT, dgCons, dgNil, dFE, dIsi, dListF, dNeg, dRev, dFrz, dApp, dAppS, dIns, dExtend, dClear, dReverse, dPop, oIx, oI, oIC, add_ii, add_ss, add_ll, add_tt, oSubI, oMulU, oMulI, oFd, oMd, oPw, oLt, oLe, oGt, oGe, oEq, oNe, getF, setF, Cl.d, getS, setS, purF_nil, purF_cons, purH, allF_nil, allF_cons, allH, rho0, endsOf, scalD, len_l, len_t, len_s, bAbs, bInt, bIntU, tup_l, tup_t, true_and, and_true, Option.some.injEq, exists_eq_left', decide_eq_true_eq, Bool.not_eq_true', decide_eq_false_iff_not, it_eQ0, it_eQ1, it_eP0, it_eP1, it_eS0, it_eS1, fits_eQ, fits_eP, fits_eS, eqv_eQ, eqv_eP, eqv_eS, eqv_int, eqv_bool, shp_int, shp_bool, shp_none, shp_eQ, shp_eP, shp_eS, dCont, dBreak, dXi, dSetG, dAppG, oIsB, oNotB, dTx, pJoin, pSplit, pPart, pStarts, bStr, bIntS, dFmt, dJs, ↓reduceIte, nsp_none, nsp_bool, nsp_int, nsp_str, nsp_list, nsp_tuple, nsp_eQ, nsp_eP, nsp_eS, dat_pu, dat_ow, seqD_l, seqD_t, not_true_eq_false, Bool.true_eq_false, Bool.not_not, List.length_cons, List.length_nil, mkP, mkS, fits_list, fits_tuple, isIntD, isBoolD, isListD, isStrD, isTupD, Bool.not_true, Bool.not_false, Bool.false_eq_true, it_l0, it_l1, it_l2, it_t0, it_t1, it_t2, shp_ps, shp_pt, shp_ss, shp_is, seqD_eQ, seqD_eP, seqD_eS, walkD_eP, walkD_eS, walkD_l, walkD_t]
  refine isx rfl t10 ?_
  simp only [dRet, dRetF, dSetX, dCallX, dRetX, noOw, dTry, dCpy, dRaise, dRetO, dSetP, dSetS, dSetF, dSeq, dIf, dNext, dCall, dCallF, dB, dBin, dCons, dNil, dTup, dLst, dV, dC, dTV, onB, dTAnd, dTOr, dTNot, dAnd, dOr, dNot, dIfE, dIsN, dNotN, isN, dSl, dSlF, dNoPart, dPart, dPar, dParS, dAsg, dgN, dgT, dgCons, dgNil, dFE, dIsi, dListF, dNeg, dRev, dFrz, dApp, dAppS, dIns, dExtend, dClear, dReverse, dPop, oIx, oI, oIC, add_ii, add_ss, add_ll, add_tt, oSubI, oMulU, oMulI, oFd, oMd, oPw, oLt, oLe, oGt, oGe, oEq, oNe, getF, setF, Cl.d, getS, setS, purF_nil, purF_cons, purH, allF_nil, allF_cons, allH, rho0, endsOf, scalD, len_l, len_t, len_s, bAbs, bInt, bIntU, tup_l, tup_t, true_and, and_true, Option.some.injEq, exists_eq_left', decide_eq_true_eq, Bool.not_eq_true', decide_eq_false_iff_not, it_eQ0, it_eQ1, it_eP0, it_eP1, it_eS0, it_eS1, fits_eQ, fits_eP, fits_eS, eqv_eQ, eqv_eP, eqv_eS, eqv_int, eqv_bool, shp_int, shp_bool, shp_none, shp_eQ, shp_eP, shp_eS, dCont, dBreak, dXi, dSetG, dAppG, oIsB, oNotB, dTx, pJoin, pSplit, pPart, pStarts, bStr, bIntS, dFmt, dJs, ↓reduceIte, nsp_none, nsp_bool, nsp_int, nsp_str, nsp_list, nsp_tuple, nsp_eQ, nsp_eP, nsp_eS, dat_pu, dat_ow, seqD_l, seqD_t, not_true_eq_false, Bool.true_eq_false, Bool.not_not, List.length_cons, List.length_nil, mkP, mkS, fits_list, fits_tuple, isIntD, isBoolD, isListD, isStrD, isTupD, Bool.not_true, Bool.not_false, Bool.false_eq_true, it_l0, it_l1, it_l2, it_t0, it_t1, it_t2, shp_ps, shp_pt, shp_ss, shp_is, seqD_eQ, seqD_eP, seqD_eS, walkD_eP, walkD_eS, walkD_l, walkD_t]
  refine isx rfl t11 ?_
  simp only [oNin, sb, shp_bool, dRet, dRetF, dSetX, dCallX, dRetX, noOw, dTry, dCpy, dRaise, dRetO, dSetP, dSetS, dSetF, dSeq, dIf, dNext, dCall, dCallF, dB, dBin, dCons, dNil, dTup, dLst, dV, dC, dTV, onB, dTAnd, dTOr, dTNot, dAnd, dOr, dNot, dIfE, dIsN, dNotN, isN, dSl, dSlF, dNoPart, dPart, dPar, dParS, dAsg, dgN, dgT, dgCons, dgNil, dFE, dIsi, dListF, dNeg, dRev, dFrz, dApp, dAppS, dIns, dExtend, dClear, dReverse, dPop, oIx, oI, oIC, add_ii, add_ss, add_ll, add_tt, oSubI, oMulU, oMulI, oFd, oMd, oPw, oLt, oLe, oGt, oGe, oEq, oNe, getF, setF, Cl.d, getS, setS, purF_nil, purF_cons, purH, allF_nil, allF_cons, allH, rho0, endsOf, scalD, len_l, len_t, len_s, bAbs, bInt, bIntU, tup_l, tup_t, true_and, and_true, Option.some.injEq, exists_eq_left', decide_eq_true_eq, Bool.not_eq_true', decide_eq_false_iff_not, it_eQ0, it_eQ1, it_eP0, it_eP1, it_eS0, it_eS1, fits_eQ, fits_eP, fits_eS, eqv_eQ, eqv_eP, eqv_eS, eqv_int, eqv_bool, shp_int, shp_bool, shp_none, shp_eQ, shp_eP, shp_eS, dCont, dBreak, dXi, dSetG, dAppG, oIsB, oNotB, dTx, pJoin, pSplit, pPart, pStarts, bStr, bIntS, dFmt, dJs, ↓reduceIte, nsp_none, nsp_bool, nsp_int, nsp_str, nsp_list, nsp_tuple, nsp_eQ, nsp_eP, nsp_eS, dat_pu, dat_ow, seqD_l, seqD_t, not_true_eq_false, Bool.true_eq_false, Bool.not_not, List.length_cons, List.length_nil, mkP, mkS, fits_list, fits_tuple, isIntD, isBoolD, isListD, isStrD, isTupD, Bool.not_true, Bool.not_false, Bool.false_eq_true, it_l0, it_l1, it_l2, it_t0, it_t1, it_t2, shp_ps, shp_pt, shp_ss, shp_is, seqD_eQ, seqD_eP, seqD_eS, walkD_eP, walkD_eS, walkD_l, walkD_t]
  exact h
theorem rd__law_refused (ds : List Dt) (Φ : Slot → Prop) (Ξ : XD → Prop) (h : sp__law_refused ds Φ Ξ) : d__law_refused (endsOf Φ Ξ) (rho0 N__law_refused ds) := by
  obtain ⟨d, rfl, ho, h⟩ := h
  show dSeq _ _ _ [.pu d, .un, .un, .un]
  refine seq_cut (fun ρ => ρ = [.pu d, .pu .none, .un, .un]) (fun E hr hE => ?_) ?_
  · simp only [dRet, dRetF, dSetX, dCallX, dRetX, noOw, dTry, dCpy, dRaise, dRetO, dSetP, dSetS, dSetF, dSeq, dIf, dNext, dCall, dCallF, dB, dBin, dCons, dNil, dTup, dLst, dV, dC, dTV, onB, dTAnd, dTOr, dTNot, dAnd, dOr, dNot, dIfE, dIsN, dNotN, isN, dSl, dSlF, dNoPart, dPart, dPar, dParS, dAsg, dgN, dgT, dgCons, dgNil, dFE, dIsi, dListF, dNeg, dRev, dFrz, dApp, dAppS, dIns, dExtend, dClear, dReverse, dPop, oIx, oI, oIC, add_ii, add_ss, add_ll, add_tt, oSubI, oMulU, oMulI, oFd, oMd, oPw, oLt, oLe, oGt, oGe, oEq, oNe, getF, setF, Cl.d, getS, setS, purF_nil, purF_cons, purH, allF_nil, allF_cons, allH, rho0, endsOf, scalD, len_l, len_t, len_s, bAbs, bInt, bIntU, tup_l, tup_t, true_and, and_true, Option.some.injEq, exists_eq_left', decide_eq_true_eq, Bool.not_eq_true', decide_eq_false_iff_not, it_eQ0, it_eQ1, it_eP0, it_eP1, it_eS0, it_eS1, fits_eQ, fits_eP, fits_eS, eqv_eQ, eqv_eP, eqv_eS, eqv_int, eqv_bool, shp_int, shp_bool, shp_none, shp_eQ, shp_eP, shp_eS, dCont, dBreak, dXi, dSetG, dAppG, oIsB, oNotB, dTx, pJoin, pSplit, pPart, pStarts, bStr, bIntS, dFmt, dJs, ↓reduceIte, nsp_none, nsp_bool, nsp_int, nsp_str, nsp_list, nsp_tuple, nsp_eQ, nsp_eP, nsp_eS, dat_pu, dat_ow, seqD_l, seqD_t, not_true_eq_false, Bool.true_eq_false, Bool.not_not, List.length_cons, List.length_nil, mkP, mkS, fits_list, fits_tuple, isIntD, isBoolD, isListD, isStrD, isTupD, Bool.not_true, Bool.not_false, Bool.false_eq_true, it_l0, it_l1, it_l2, it_t0, it_t1, it_t2, shp_ps, shp_pt, shp_ss, shp_is, seqD_eQ, seqD_eP, seqD_eS, walkD_eP, walkD_eS, walkD_l, walkD_t]
    exact hE _ rfl
  rintro _ rfl
  refine seq_cut (fun ρ => ρ = [.pu d, .pu .none, .pu .none, .un]) (fun E hr hE => ?_) ?_
  · simp only [dRet, dRetF, dSetX, dCallX, dRetX, noOw, dTry, dCpy, dRaise, dRetO, dSetP, dSetS, dSetF, dSeq, dIf, dNext, dCall, dCallF, dB, dBin, dCons, dNil, dTup, dLst, dV, dC, dTV, onB, dTAnd, dTOr, dTNot, dAnd, dOr, dNot, dIfE, dIsN, dNotN, isN, dSl, dSlF, dNoPart, dPart, dPar, dParS, dAsg, dgN, dgT, dgCons, dgNil, dFE, dIsi, dListF, dNeg, dRev, dFrz, dApp, dAppS, dIns, dExtend, dClear, dReverse, dPop, oIx, oI, oIC, add_ii, add_ss, add_ll, add_tt, oSubI, oMulU, oMulI, oFd, oMd, oPw, oLt, oLe, oGt, oGe, oEq, oNe, getF, setF, Cl.d, getS, setS, purF_nil, purF_cons, purH, allF_nil, allF_cons, allH, rho0, endsOf, scalD, len_l, len_t, len_s, bAbs, bInt, bIntU, tup_l, tup_t, true_and, and_true, Option.some.injEq, exists_eq_left', decide_eq_true_eq, Bool.not_eq_true', decide_eq_false_iff_not, it_eQ0, it_eQ1, it_eP0, it_eP1, it_eS0, it_eS1, fits_eQ, fits_eP, fits_eS, eqv_eQ, eqv_eP, eqv_eS, eqv_int, eqv_bool, shp_int, shp_bool, shp_none, shp_eQ, shp_eP, shp_eS, dCont, dBreak, dXi, dSetG, dAppG, oIsB, oNotB, dTx, pJoin, pSplit, pPart, pStarts, bStr, bIntS, dFmt, dJs, ↓reduceIte, nsp_none, nsp_bool, nsp_int, nsp_str, nsp_list, nsp_tuple, nsp_eQ, nsp_eP, nsp_eS, dat_pu, dat_ow, seqD_l, seqD_t, not_true_eq_false, Bool.true_eq_false, Bool.not_not, List.length_cons, List.length_nil, mkP, mkS, fits_list, fits_tuple, isIntD, isBoolD, isListD, isStrD, isTupD, Bool.not_true, Bool.not_false, Bool.false_eq_true, it_l0, it_l1, it_l2, it_t0, it_t1, it_t2, shp_ps, shp_pt, shp_ss, shp_is, seqD_eQ, seqD_eP, seqD_eS, walkD_eP, walkD_eS, walkD_l, walkD_t]
    exact hE _ rfl
  rintro _ rfl
  refine seq_cut (fun ρ => (∃ t, readS d = some t ∧ ρ = [.pu d, .pu .none, .pu (.str (tx t)), .un]) ∨ (readS d = none ∧ ρ = [.pu d, .an (exA xNS), .pu .none, .un])) (fun E hr hE => ?_) ?_
  · have lk : tb_SheetError.lookup xNS.cls = some true := by decide +kernel
    cases e : readS d with
    | some t =>
      obtain ⟨e1, ok, tl⟩ := readS_some e
      have hd := dep_wds t
      obtain ⟨c, hm, hu⟩ := cls_S t
      refine ⟨by simp [noOw], c, hm, d, rfl, ho, fun t' ht' => ?_, fun z => by rw [e] at z; cases z⟩
      rw [e] at ht'
      cases ht'
      exact ⟨hu, no_shown t, t, rfl, ok, by omega, by omega, hE _ (.inl ⟨t, e, rfl⟩)⟩
    | none =>
      refine ⟨by simp [noOw], "OfLand", by simp [CS], d, rfl, ho, (fun t' ht' => by rw [e] at ht'; cases ht'), fun _ => ?_⟩
      simp only [lk]
      exact hE _ (.inr ⟨e, rfl⟩)
  rintro _ (⟨t, e, rfl⟩ | ⟨e, rfl⟩)
  · rw [e] at h
    refine seq_cut (fun ρ => False) (fun E hr hE => ?_) (fun ρ z => z.elim)
    refine .inl ⟨.none, rfl, ?_⟩
    show E.rt _
    rw [hr]
    exact h
  · rw [e] at h
    refine seq_cut (fun ρ => ρ = [.pu d, .an (exA xNS), .pu .none, .un]) (fun E hr hE => ?_) ?_
    · refine .inr ⟨xNS, rfl, ?_⟩
      exact hE _ rfl
    rintro _ rfl
    simp only [dRet, dRetF, dSetX, dCallX, dRetX, noOw, dTry, dCpy, dRaise, dRetO, dSetP, dSetS, dSetF, dSeq, dIf, dNext, dCall, dCallF, dB, dBin, dCons, dNil, dTup, dLst, dV, dC, dTV, onB, dTAnd, dTOr, dTNot, dAnd, dOr, dNot, dIfE, dIsN, dNotN, isN, dSl, dSlF, dNoPart, dPart, dPar, dParS, dAsg, dgN, dgT, dgCons, dgNil, dFE, dIsi, dListF, dNeg, dRev, dFrz, dApp, dAppS, dIns, dExtend, dClear, dReverse, dPop, oIx, oI, oIC, add_ii, add_ss, add_ll, add_tt, oSubI, oMulU, oMulI, oFd, oMd, oPw, oLt, oLe, oGt, oGe, oEq, oNe, getF, setF, Cl.d, getS, setS, purF_nil, purF_cons, purH, allF_nil, allF_cons, allH, rho0, endsOf, scalD, len_l, len_t, len_s, bAbs, bInt, bIntU, tup_l, tup_t, true_and, and_true, Option.some.injEq, exists_eq_left', decide_eq_true_eq, Bool.not_eq_true', decide_eq_false_iff_not, it_eQ0, it_eQ1, it_eP0, it_eP1, it_eS0, it_eS1, fits_eQ, fits_eP, fits_eS, eqv_eQ, eqv_eP, eqv_eS, eqv_int, eqv_bool, shp_int, shp_bool, shp_none, shp_eQ, shp_eP, shp_eS, dCont, dBreak, dXi, dSetG, dAppG, oIsB, oNotB, dTx, pJoin, pSplit, pPart, pStarts, bStr, bIntS, dFmt, dJs, ↓reduceIte, nsp_none, nsp_bool, nsp_int, nsp_str, nsp_list, nsp_tuple, nsp_eQ, nsp_eP, nsp_eS, dat_pu, dat_ow, seqD_l, seqD_t, not_true_eq_false, Bool.true_eq_false, Bool.not_not, List.length_cons, List.length_nil, mkP, mkS, fits_list, fits_tuple, isIntD, isBoolD, isListD, isStrD, isTupD, Bool.not_true, Bool.not_false, Bool.false_eq_true, it_l0, it_l1, it_l2, it_t0, it_t1, it_t2, shp_ps, shp_pt, shp_ss, shp_is, seqD_eQ, seqD_eP, seqD_eS, walkD_eP, walkD_eS, walkD_l, walkD_t]
    exact ⟨xNS, rfl, rfl, h⟩
/-! ### the law -/
def sp_law : DSp := dspLaw 63
abbrev N_law : List Str := ["_law_script", "_law_names", "_law_state_here", "_law_words_here", "_law_cell_here", "_law_text", "_law_due", "_law_thing"]
def d_law : DS := (dSeq (dSetP 1 (dCall sp__law_words (dCons (dCall sp__law_cell (dCons (dV 0) (dCons (dC (.int 0)) dNil))) (dCons (dC (.int 6)) dNil))))
  (dSeq (dSetP 2 (dCall sp__law_state (dCons (dCall sp__law_cell (dCons (dV 0) (dCons (dC (.int 1)) dNil))) (dCons (dV 1) (dCons (dCall sp__law_words (dCons (dCall sp__law_cell (dCons (dV 0) (dCons (dC (.int 2)) dNil))) (dCons (dC (.int 3)) dNil))) dNil)))))
  (dSeq (dSetP 3 (dTx pSplit (dCall sp__law_said (dCons (dCall sp__law_saying (dCons (dV 2) (dCons (dKey "room" (dV 2)) dNil))) dNil)) (dC (.str " "))))
  (dSeq (dFor (diSeq (dBin oAddU (dLst (dCons (dCall sp__law_cell (dCons (dV 0) (dCons (dC (.int 3)) dNil))) dNil)) (dSl (dV 0) (dPart (dC (.int 4))) (dPart (dC (.int 24)))))) (dgN 4) (dSeq (dSetP 5 (dTx pJoin (dC (.str " ")) (dCall sp__law_spoiled (dCons (dV 3) (dCons (dCall sp__law_numbers (dCons (dV 4) (dCons (dC (.int 4)) dNil))) (dCons (dV 1) dNil))))))
  (dSeq (dSetP 6 (dTup (dCons (dC (.str "refused")) (dCons (dC (.bool true)) dNil))))
  (dSeq (dIf (dTAnd (dTV (dBin oLt (dB bLen (dCons (dTx pSplit (dV 5) (dC (.str " "))) dNil)) (dC (.int 41)))) (dTV (dBin oEq (dCall sp__law_behind (dCons (dTx pSplit (dV 5) (dC (.str " "))) (dCons (dC (.int 0)) dNil))) (dB bLen (dCons (dTx pSplit (dV 5) (dC (.str " "))) dNil))))) (dSetP 6 (dTup (dCons (dC (.str "told")) (dCons (dV 5) dNil)))) dNext)
  (dIf (dTV (dBin oNe (dCall sp__law_refused (dCons (dV 5) dNil)) (dV 6))) (dRet (dC (.bool false))) dNext)))))
  (dSeq (dSetP 7 (dBin oIx (dLst (dCons (dC .none) (dCons (dC (.int 7)) (dCons (dLst (dCons (dC (.str "all")) dNil)) (dCons (dC (.bool true)) (dCons (dTup (dCons (dC (.str "all")) dNil)) (dCons (dC (.int 0)) dNil))))))) (dBin oMd (dCall sp__law_cell (dCons (dV 0) (dCons (dC (.int 3)) dNil))) (dC (.int 6)))))
  (dRet (dAnd (dBin oEq (dCall sp__law_refused (dCons (dV 7) dNil)) (dTup (dCons (dC (.str "refused")) (dCons (dC (.bool true)) dNil)))) (dBin oEq (dCall sp__law_refused (dCons (dTx pJoin (dC (.str " ")) (dV 3)) dNil)) (dTup (dCons (dC (.str "told")) (dCons (dTx pJoin (dC (.str " ")) (dV 3)) dNil)))))))))))
theorem us_text {us : List Str} (h : UsOk us) : (us.map (·.length)).sum + us.length * 1 ≤ 16777216 ∧ okD (.str (Txt.join " " us)) := by
  have hs : (us.map (·.length)).sum ≤ 20 * us.length := by
    have := h.2
    clear h
    induction us with
    | nil => simp
    | cons u us ih =>
      have h1 := (this u List.mem_cons_self).2
      have h2 := ih fun z hz => this z (List.mem_cons_of_mem _ hz)
      simp only [List.map_cons, List.sum_cons, List.length_cons]
      omega
  have hl := h.1
  refine ⟨by omega, ?_⟩
  have e : Txt.join " " us = S (tj us) := by
    have e32 : (" " : Str) = S [32] := rfl
    have em : us = (us.map cw).map S := by
      rw [List.map_map]
      conv => lhs; rw [← List.map_id us]
      exact List.map_congr_left fun w _ => (SX.S_tl w).symm
    rw [e32]
    conv => lhs; rw [em]
    rw [SX.join_S]
    rfl
  have lt : ∀ us : List Str, (tj us).length ≤ (us.map (·.length)).sum + us.length := fun us => by
    induction us with
    | nil => simp [tj, TL.joinL]
    | cons u us ih =>
      cases us with
      | nil =>
        rw [tj_one]
        have : (cw u).length = u.length := (TL.len_tl u).symm
        simp only [List.map_cons, List.map_nil, List.sum_cons, List.sum_nil, List.length_cons, List.length_nil]
        omega
      | cons v r =>
        rw [tj_cons u (by simp)]
        have : (cw u).length = u.length := (TL.len_tl u).symm
        rw [List.map_cons, List.sum_cons, List.length_append, List.length_cons, List.length_cons]
        omega
  rw [e]
  refine OkW.ok ⟨by have := lt us; omega, fun c hc => ?_⟩
  rcases tj_mem c hc with rfl | ⟨w, hw, hc⟩
  · decide
  · obtain ⟨w1, w2⟩ := h.2 w hw
    obtain ⟨v, rfl, hv⟩ := OkW.of (z := w) (by simp only [okD]; exact ⟨by omega, w1⟩)
    exact hv.2 c hc
theorem join_wds (t : Sy) : Txt.join " " (wds t) = tx t := by
  have e32 : (" " : Str) = S [32] := rfl
  have em : wds t = ((wds t).map cw).map S := by
    rw [List.map_map]
    conv => lhs; rw [← List.map_id (wds t)]
    exact List.map_congr_left fun w _ => (SX.S_tl w).symm
  rw [e32]
  conv => lhs; rw [em]
  rw [SX.join_S]
  exact (congrArg S (cw_tx t)).symm.trans (SX.S_tl (tx t))
theorem sh_oT {o : Option Sy} (h : ∀ t, o = some t → okD (.str (tx t))) : SeqAt.shaped (oT o) = true := by
  cases o with
  | some t =>
    refine (sh_tuple (n := 0) fun d hd => ?_).shaped (by decide)
    have := h t rfl
    simp only [okD] at this
    rcases List.mem_cons.mp hd with rfl | hd
    · exact sh_str 0 (by decide +kernel)
    · rw [List.mem_singleton.mp hd]; exact sh_str 0 this.2
  | none => exact by decide +kernel
theorem eqv_oT (o : Option Sy) : PyData.eqv (oT o) (oT o) = true := by
  cases o with
  | some t =>
    have e : PyData.eqv (oT (some t)) (oT (some t)) = (PyData.eqv (.str "told") (.str "told") && (PyData.eqv (.str (tx t)) (.str (tx t)) && true)) := by simp only [oT, PyData.eqv, PyData.eqvAll]
    rw [e, eqv_str, eqv_str]
    simp
  | none => rfl
theorem thing_at {x : Int} (h0 : 0 ≤ x) (h1 : x < 6) : ∃ d, okD d ∧ readS d = none ∧ itemD (.list [.none, .int 7, .list [.str "all"], .bool true, .tuple [.str "all"], .int 0]) x = some d := by
  have oa : okD (.str "all") := by simp only [okD]; exact ⟨by decide +kernel, by decide +kernel⟩
  have hm : x = 0 ∨ x = 1 ∨ x = 2 ∨ x = 3 ∨ x = 4 ∨ x = 5 := by omega
  rcases hm with rfl | rfl | rfl | rfl | rfl | rfl
  · exact ⟨.none, trivial, rfl, rfl⟩
  · exact ⟨.int 7, by simp only [okD]; decide, rfl, rfl⟩
  · exact ⟨.list [.str "all"], okL_of (by decide) fun d hd => by rw [List.mem_singleton.mp hd]; exact oa, rfl, rfl⟩
  · exact ⟨.bool true, trivial, rfl, rfl⟩
  · exact ⟨.tuple [.str "all"], okT_of (by decide) fun d hd => by rw [List.mem_singleton.mp hd]; exact oa, rfl, rfl⟩
  · exact ⟨.int 0, by simp only [okD]; decide, rfl, rfl⟩
theorem rd_law (ds : List Dt) (Φ : Slot → Prop) (Ξ : XD → Prop) (h : sp_law ds Φ Ξ) : d_law (endsOf Φ Ξ) (rho0 N_law ds) := by
  obtain ⟨ns, hns, rfl, h⟩ := h
  have hz : (200000 : Nat) < sizeLine := by decide
  show dSeq _ _ _ [.pu (.list (ns.map .int)), .un, .un, .un, .un, .un, .un, .un]
  refine seq_cut (fun ρ => ∃ ws : List Str, ws.length = 6 ∧ (∀ z ∈ ws, isNm z = true) ∧ ρ = [.pu (.list (ns.map .int)), .pu (.list (ws.map .str)), .un, .un, .un, .un, .un, .un]) (fun E _ hE => ?_) ?_
  · simp only [dRet, dRetF, dSetX, dCallX, dRetX, noOw, dTry, dCpy, dRaise, dRetO, dSetP, dSetS, dSetF, dSeq, dIf, dNext, dCall, dCallF, dB, dBin, dCons, dNil, dTup, dLst, dV, dC, dTV, onB, dTAnd, dTOr, dTNot, dAnd, dOr, dNot, dIfE, dIsN, dNotN, isN, dSl, dSlF, dNoPart, dPart, dPar, dParS, dAsg, dgN, dgT, dgCons, dgNil, dFE, dIsi, dListF, dNeg, dRev, dFrz, dApp, dAppS, dIns, dExtend, dClear, dReverse, dPop, oIx, oI, oIC, add_ii, add_ss, add_ll, add_tt, oSubI, oMulU, oMulI, oFd, oMd, oPw, oLt, oLe, oGt, oGe, oEq, oNe, getF, setF, Cl.d, getS, setS, purF_nil, purF_cons, purH, allF_nil, allF_cons, allH, rho0, endsOf, scalD, len_l, len_t, len_s, bAbs, bInt, bIntU, tup_l, tup_t, true_and, and_true, Option.some.injEq, exists_eq_left', decide_eq_true_eq, Bool.not_eq_true', decide_eq_false_iff_not, it_eQ0, it_eQ1, it_eP0, it_eP1, it_eS0, it_eS1, fits_eQ, fits_eP, fits_eS, eqv_eQ, eqv_eP, eqv_eS, eqv_int, eqv_bool, shp_int, shp_bool, shp_none, shp_eQ, shp_eP, shp_eS, dCont, dBreak, dXi, dSetG, dAppG, oIsB, oNotB, dTx, pJoin, pSplit, pPart, pStarts, bStr, bIntS, dFmt, dJs, ↓reduceIte, nsp_none, nsp_bool, nsp_int, nsp_str, nsp_list, nsp_tuple, nsp_eQ, nsp_eP, nsp_eS, dat_pu, dat_ow, seqD_l, seqD_t, not_true_eq_false, Bool.true_eq_false, Bool.not_not, List.length_cons, List.length_nil, mkP, mkS, fits_list, fits_tuple, isIntD, isBoolD, isListD, isStrD, isTupD, Bool.not_true, Bool.not_false, Bool.false_eq_true, it_l0, it_l1, it_l2, it_t0, it_t1, it_t2, shp_ps, shp_pt, shp_ss, shp_is, seqD_eQ, seqD_eP, seqD_eS, walkD_eP, walkD_eS, walkD_l, walkD_t]
    refine ⟨ns, 0, rfl, hns, by decide, by decide, fun c => ?_⟩
    simp only [dRet, dRetF, dSetX, dCallX, dRetX, noOw, dTry, dCpy, dRaise, dRetO, dSetP, dSetS, dSetF, dSeq, dIf, dNext, dCall, dCallF, dB, dBin, dCons, dNil, dTup, dLst, dV, dC, dTV, onB, dTAnd, dTOr, dTNot, dAnd, dOr, dNot, dIfE, dIsN, dNotN, isN, dSl, dSlF, dNoPart, dPart, dPar, dParS, dAsg, dgN, dgT, dgCons, dgNil, dFE, dIsi, dListF, dNeg, dRev, dFrz, dApp, dAppS, dIns, dExtend, dClear, dReverse, dPop, oIx, oI, oIC, add_ii, add_ss, add_ll, add_tt, oSubI, oMulU, oMulI, oFd, oMd, oPw, oLt, oLe, oGt, oGe, oEq, oNe, getF, setF, Cl.d, getS, setS, purF_nil, purF_cons, purH, allF_nil, allF_cons, allH, rho0, endsOf, scalD, len_l, len_t, len_s, bAbs, bInt, bIntU, tup_l, tup_t, true_and, and_true, Option.some.injEq, exists_eq_left', decide_eq_true_eq, Bool.not_eq_true', decide_eq_false_iff_not, it_eQ0, it_eQ1, it_eP0, it_eP1, it_eS0, it_eS1, fits_eQ, fits_eP, fits_eS, eqv_eQ, eqv_eP, eqv_eS, eqv_int, eqv_bool, shp_int, shp_bool, shp_none, shp_eQ, shp_eP, shp_eS, dCont, dBreak, dXi, dSetG, dAppG, oIsB, oNotB, dTx, pJoin, pSplit, pPart, pStarts, bStr, bIntS, dFmt, dJs, ↓reduceIte, nsp_none, nsp_bool, nsp_int, nsp_str, nsp_list, nsp_tuple, nsp_eQ, nsp_eP, nsp_eS, dat_pu, dat_ow, seqD_l, seqD_t, not_true_eq_false, Bool.true_eq_false, Bool.not_not, List.length_cons, List.length_nil, mkP, mkS, fits_list, fits_tuple, isIntD, isBoolD, isListD, isStrD, isTupD, Bool.not_true, Bool.not_false, Bool.false_eq_true, it_l0, it_l1, it_l2, it_t0, it_t1, it_t2, shp_ps, shp_pt, shp_ss, shp_is, seqD_eQ, seqD_eP, seqD_eS, walkD_eP, walkD_eS, walkD_l, walkD_t]
    exact ⟨c, 6, rfl, by decide, fun ws hl _ hw => hE _ ⟨ws, hl, fun z hz => (hw z hz).1, rfl⟩⟩
  rintro _ ⟨ws, wl, wn, rfl⟩
  refine seq_cut (fun ρ => ∃ (rm : Nat) (ss : List Str), ss.length = 3 ∧ (∀ z ∈ ss, isNm z = true) ∧ 1 ≤ rm ∧ rm ≤ 40 ∧ ρ = [.pu (.list (ns.map .int)), .pu (.list (ws.map .str)), .pu (stD ws ss rm), .un, .un, .un, .un, .un]) (fun E _ hE => ?_) ?_
  · simp only [dRet, dRetF, dSetX, dCallX, dRetX, noOw, dTry, dCpy, dRaise, dRetO, dSetP, dSetS, dSetF, dSeq, dIf, dNext, dCall, dCallF, dB, dBin, dCons, dNil, dTup, dLst, dV, dC, dTV, onB, dTAnd, dTOr, dTNot, dAnd, dOr, dNot, dIfE, dIsN, dNotN, isN, dSl, dSlF, dNoPart, dPart, dPar, dParS, dAsg, dgN, dgT, dgCons, dgNil, dFE, dIsi, dListF, dNeg, dRev, dFrz, dApp, dAppS, dIns, dExtend, dClear, dReverse, dPop, oIx, oI, oIC, add_ii, add_ss, add_ll, add_tt, oSubI, oMulU, oMulI, oFd, oMd, oPw, oLt, oLe, oGt, oGe, oEq, oNe, getF, setF, Cl.d, getS, setS, purF_nil, purF_cons, purH, allF_nil, allF_cons, allH, rho0, endsOf, scalD, len_l, len_t, len_s, bAbs, bInt, bIntU, tup_l, tup_t, true_and, and_true, Option.some.injEq, exists_eq_left', decide_eq_true_eq, Bool.not_eq_true', decide_eq_false_iff_not, it_eQ0, it_eQ1, it_eP0, it_eP1, it_eS0, it_eS1, fits_eQ, fits_eP, fits_eS, eqv_eQ, eqv_eP, eqv_eS, eqv_int, eqv_bool, shp_int, shp_bool, shp_none, shp_eQ, shp_eP, shp_eS, dCont, dBreak, dXi, dSetG, dAppG, oIsB, oNotB, dTx, pJoin, pSplit, pPart, pStarts, bStr, bIntS, dFmt, dJs, ↓reduceIte, nsp_none, nsp_bool, nsp_int, nsp_str, nsp_list, nsp_tuple, nsp_eQ, nsp_eP, nsp_eS, dat_pu, dat_ow, seqD_l, seqD_t, not_true_eq_false, Bool.true_eq_false, Bool.not_not, List.length_cons, List.length_nil, mkP, mkS, fits_list, fits_tuple, isIntD, isBoolD, isListD, isStrD, isTupD, Bool.not_true, Bool.not_false, Bool.false_eq_true, it_l0, it_l1, it_l2, it_t0, it_t1, it_t2, shp_ps, shp_pt, shp_ss, shp_is, seqD_eQ, seqD_eP, seqD_eS, walkD_eP, walkD_eS, walkD_l, walkD_t]
    refine ⟨ns, 1, rfl, hns, by decide, by decide, fun c => ?_⟩
    simp only [dRet, dRetF, dSetX, dCallX, dRetX, noOw, dTry, dCpy, dRaise, dRetO, dSetP, dSetS, dSetF, dSeq, dIf, dNext, dCall, dCallF, dB, dBin, dCons, dNil, dTup, dLst, dV, dC, dTV, onB, dTAnd, dTOr, dTNot, dAnd, dOr, dNot, dIfE, dIsN, dNotN, isN, dSl, dSlF, dNoPart, dPart, dPar, dParS, dAsg, dgN, dgT, dgCons, dgNil, dFE, dIsi, dListF, dNeg, dRev, dFrz, dApp, dAppS, dIns, dExtend, dClear, dReverse, dPop, oIx, oI, oIC, add_ii, add_ss, add_ll, add_tt, oSubI, oMulU, oMulI, oFd, oMd, oPw, oLt, oLe, oGt, oGe, oEq, oNe, getF, setF, Cl.d, getS, setS, purF_nil, purF_cons, purH, allF_nil, allF_cons, allH, rho0, endsOf, scalD, len_l, len_t, len_s, bAbs, bInt, bIntU, tup_l, tup_t, true_and, and_true, Option.some.injEq, exists_eq_left', decide_eq_true_eq, Bool.not_eq_true', decide_eq_false_iff_not, it_eQ0, it_eQ1, it_eP0, it_eP1, it_eS0, it_eS1, fits_eQ, fits_eP, fits_eS, eqv_eQ, eqv_eP, eqv_eS, eqv_int, eqv_bool, shp_int, shp_bool, shp_none, shp_eQ, shp_eP, shp_eS, dCont, dBreak, dXi, dSetG, dAppG, oIsB, oNotB, dTx, pJoin, pSplit, pPart, pStarts, bStr, bIntS, dFmt, dJs, ↓reduceIte, nsp_none, nsp_bool, nsp_int, nsp_str, nsp_list, nsp_tuple, nsp_eQ, nsp_eP, nsp_eS, dat_pu, dat_ow, seqD_l, seqD_t, not_true_eq_false, Bool.true_eq_false, Bool.not_not, List.length_cons, List.length_nil, mkP, mkS, fits_list, fits_tuple, isIntD, isBoolD, isListD, isStrD, isTupD, Bool.not_true, Bool.not_false, Bool.false_eq_true, it_l0, it_l1, it_l2, it_t0, it_t1, it_t2, shp_ps, shp_pt, shp_ss, shp_is, seqD_eQ, seqD_eP, seqD_eS, walkD_eP, walkD_eS, walkD_l, walkD_t]
    refine ⟨ns, 2, rfl, hns, by decide, by decide, fun c2 => ?_⟩
    simp only [dRet, dRetF, dSetX, dCallX, dRetX, noOw, dTry, dCpy, dRaise, dRetO, dSetP, dSetS, dSetF, dSeq, dIf, dNext, dCall, dCallF, dB, dBin, dCons, dNil, dTup, dLst, dV, dC, dTV, onB, dTAnd, dTOr, dTNot, dAnd, dOr, dNot, dIfE, dIsN, dNotN, isN, dSl, dSlF, dNoPart, dPart, dPar, dParS, dAsg, dgN, dgT, dgCons, dgNil, dFE, dIsi, dListF, dNeg, dRev, dFrz, dApp, dAppS, dIns, dExtend, dClear, dReverse, dPop, oIx, oI, oIC, add_ii, add_ss, add_ll, add_tt, oSubI, oMulU, oMulI, oFd, oMd, oPw, oLt, oLe, oGt, oGe, oEq, oNe, getF, setF, Cl.d, getS, setS, purF_nil, purF_cons, purH, allF_nil, allF_cons, allH, rho0, endsOf, scalD, len_l, len_t, len_s, bAbs, bInt, bIntU, tup_l, tup_t, true_and, and_true, Option.some.injEq, exists_eq_left', decide_eq_true_eq, Bool.not_eq_true', decide_eq_false_iff_not, it_eQ0, it_eQ1, it_eP0, it_eP1, it_eS0, it_eS1, fits_eQ, fits_eP, fits_eS, eqv_eQ, eqv_eP, eqv_eS, eqv_int, eqv_bool, shp_int, shp_bool, shp_none, shp_eQ, shp_eP, shp_eS, dCont, dBreak, dXi, dSetG, dAppG, oIsB, oNotB, dTx, pJoin, pSplit, pPart, pStarts, bStr, bIntS, dFmt, dJs, ↓reduceIte, nsp_none, nsp_bool, nsp_int, nsp_str, nsp_list, nsp_tuple, nsp_eQ, nsp_eP, nsp_eS, dat_pu, dat_ow, seqD_l, seqD_t, not_true_eq_false, Bool.true_eq_false, Bool.not_not, List.length_cons, List.length_nil, mkP, mkS, fits_list, fits_tuple, isIntD, isBoolD, isListD, isStrD, isTupD, Bool.not_true, Bool.not_false, Bool.false_eq_true, it_l0, it_l1, it_l2, it_t0, it_t1, it_t2, shp_ps, shp_pt, shp_ss, shp_is, seqD_eQ, seqD_eP, seqD_eS, walkD_eP, walkD_eS, walkD_l, walkD_t]
    refine ⟨c2, 3, rfl, by decide, fun ss hl _ hw => ?_⟩
    exact ⟨c, ws, ss, rfl, fun rm r1 r2 => hE _ ⟨rm, ss, hl, fun z hz => (hw z hz).1, r1, r2, rfl⟩⟩
  rintro _ ⟨rm, ss, sl, sn, r1, r2, rfl⟩
  refine seq_cut (fun ρ => ∃ t, Ok t ∧ (wds t).length ≤ 40 ∧ ρ = [.pu (.list (ns.map .int)), .pu (.list (ws.map .str)), .pu (stD ws ss rm), .pu (.list ((wds t).map .str)), .un, .un, .un, .un]) (fun E _ hE => ?_) ?_
  · simp only [dKey, dRet, dRetF, dSetX, dCallX, dRetX, noOw, dTry, dCpy, dRaise, dRetO, dSetP, dSetS, dSetF, dSeq, dIf, dNext, dCall, dCallF, dB, dBin, dCons, dNil, dTup, dLst, dV, dC, dTV, onB, dTAnd, dTOr, dTNot, dAnd, dOr, dNot, dIfE, dIsN, dNotN, isN, dSl, dSlF, dNoPart, dPart, dPar, dParS, dAsg, dgN, dgT, dgCons, dgNil, dFE, dIsi, dListF, dNeg, dRev, dFrz, dApp, dAppS, dIns, dExtend, dClear, dReverse, dPop, oIx, oI, oIC, add_ii, add_ss, add_ll, add_tt, oSubI, oMulU, oMulI, oFd, oMd, oPw, oLt, oLe, oGt, oGe, oEq, oNe, getF, setF, Cl.d, getS, setS, purF_nil, purF_cons, purH, allF_nil, allF_cons, allH, rho0, endsOf, scalD, len_l, len_t, len_s, bAbs, bInt, bIntU, tup_l, tup_t, true_and, and_true, Option.some.injEq, exists_eq_left', decide_eq_true_eq, Bool.not_eq_true', decide_eq_false_iff_not, it_eQ0, it_eQ1, it_eP0, it_eP1, it_eS0, it_eS1, fits_eQ, fits_eP, fits_eS, eqv_eQ, eqv_eP, eqv_eS, eqv_int, eqv_bool, shp_int, shp_bool, shp_none, shp_eQ, shp_eP, shp_eS, dCont, dBreak, dXi, dSetG, dAppG, oIsB, oNotB, dTx, pJoin, pSplit, pPart, pStarts, bStr, bIntS, dFmt, dJs, ↓reduceIte, nsp_none, nsp_bool, nsp_int, nsp_str, nsp_list, nsp_tuple, nsp_eQ, nsp_eP, nsp_eS, dat_pu, dat_ow, seqD_l, seqD_t, not_true_eq_false, Bool.true_eq_false, Bool.not_not, List.length_cons, List.length_nil, mkP, mkS, fits_list, fits_tuple, isIntD, isBoolD, isListD, isStrD, isTupD, Bool.not_true, Bool.not_false, Bool.false_eq_true, it_l0, it_l1, it_l2, it_t0, it_t1, it_t2, shp_ps, shp_pt, shp_ss, shp_is, seqD_eQ, seqD_eP, seqD_eS, walkD_eP, walkD_eS, walkD_l, walkD_t]
    refine ⟨_, keyed_st _ _ _, key_room _ _ _, ws, ss, rm, rm, rfl, ⟨by omega, by omega, wn⟩, ⟨by omega, by omega, sn⟩, r1, by omega, r2, fun t ht hl => ?_⟩
    have hd := dep_wds t
    have tl := tx_len t ht
    simp only [dRet, dRetF, dSetX, dCallX, dRetX, noOw, dTry, dCpy, dRaise, dRetO, dSetP, dSetS, dSetF, dSeq, dIf, dNext, dCall, dCallF, dB, dBin, dCons, dNil, dTup, dLst, dV, dC, dTV, onB, dTAnd, dTOr, dTNot, dAnd, dOr, dNot, dIfE, dIsN, dNotN, isN, dSl, dSlF, dNoPart, dPart, dPar, dParS, dAsg, dgN, dgT, dgCons, dgNil, dFE, dIsi, dListF, dNeg, dRev, dFrz, dApp, dAppS, dIns, dExtend, dClear, dReverse, dPop, oIx, oI, oIC, add_ii, add_ss, add_ll, add_tt, oSubI, oMulU, oMulI, oFd, oMd, oPw, oLt, oLe, oGt, oGe, oEq, oNe, getF, setF, Cl.d, getS, setS, purF_nil, purF_cons, purH, allF_nil, allF_cons, allH, rho0, endsOf, scalD, len_l, len_t, len_s, bAbs, bInt, bIntU, tup_l, tup_t, true_and, and_true, Option.some.injEq, exists_eq_left', decide_eq_true_eq, Bool.not_eq_true', decide_eq_false_iff_not, it_eQ0, it_eQ1, it_eP0, it_eP1, it_eS0, it_eS1, fits_eQ, fits_eP, fits_eS, eqv_eQ, eqv_eP, eqv_eS, eqv_int, eqv_bool, shp_int, shp_bool, shp_none, shp_eQ, shp_eP, shp_eS, dCont, dBreak, dXi, dSetG, dAppG, oIsB, oNotB, dTx, pJoin, pSplit, pPart, pStarts, bStr, bIntS, dFmt, dJs, ↓reduceIte, nsp_none, nsp_bool, nsp_int, nsp_str, nsp_list, nsp_tuple, nsp_eQ, nsp_eP, nsp_eS, dat_pu, dat_ow, seqD_l, seqD_t, not_true_eq_false, Bool.true_eq_false, Bool.not_not, List.length_cons, List.length_nil, mkP, mkS, fits_list, fits_tuple, isIntD, isBoolD, isListD, isStrD, isTupD, Bool.not_true, Bool.not_false, Bool.false_eq_true, it_l0, it_l1, it_l2, it_t0, it_t1, it_t2, shp_ps, shp_pt, shp_ss, shp_is, seqD_eQ, seqD_eP, seqD_eS, walkD_eP, walkD_eS, walkD_l, walkD_t]
    refine ⟨t, rfl, ht, by omega, by omega, ?_⟩
    simp only [dTx, pSplit, dRet, dRetF, dSetX, dCallX, dRetX, noOw, dTry, dCpy, dRaise, dRetO, dSetP, dSetS, dSetF, dSeq, dIf, dNext, dCall, dCallF, dB, dBin, dCons, dNil, dTup, dLst, dV, dC, dTV, onB, dTAnd, dTOr, dTNot, dAnd, dOr, dNot, dIfE, dIsN, dNotN, isN, dSl, dSlF, dNoPart, dPart, dPar, dParS, dAsg, dgN, dgT, dgCons, dgNil, dFE, dIsi, dListF, dNeg, dRev, dFrz, dApp, dAppS, dIns, dExtend, dClear, dReverse, dPop, oIx, oI, oIC, add_ii, add_ss, add_ll, add_tt, oSubI, oMulU, oMulI, oFd, oMd, oPw, oLt, oLe, oGt, oGe, oEq, oNe, getF, setF, Cl.d, getS, setS, purF_nil, purF_cons, purH, allF_nil, allF_cons, allH, rho0, endsOf, scalD, len_l, len_t, len_s, bAbs, bInt, bIntU, tup_l, tup_t, true_and, and_true, Option.some.injEq, exists_eq_left', decide_eq_true_eq, Bool.not_eq_true', decide_eq_false_iff_not, it_eQ0, it_eQ1, it_eP0, it_eP1, it_eS0, it_eS1, fits_eQ, fits_eP, fits_eS, eqv_eQ, eqv_eP, eqv_eS, eqv_int, eqv_bool, shp_int, shp_bool, shp_none, shp_eQ, shp_eP, shp_eS, dCont, dBreak, dXi, dSetG, dAppG, oIsB, oNotB, dTx, pJoin, pSplit, pPart, pStarts, bStr, bIntS, dFmt, dJs, ↓reduceIte, nsp_none, nsp_bool, nsp_int, nsp_str, nsp_list, nsp_tuple, nsp_eQ, nsp_eP, nsp_eS, dat_pu, dat_ow, seqD_l, seqD_t, not_true_eq_false, Bool.true_eq_false, Bool.not_not, List.length_cons, List.length_nil, mkP, mkS, fits_list, fits_tuple, isIntD, isBoolD, isListD, isStrD, isTupD, Bool.not_true, Bool.not_false, Bool.false_eq_true, it_l0, it_l1, it_l2, it_t0, it_t1, it_t2, shp_ps, shp_pt, shp_ss, shp_is, seqD_eQ, seqD_eP, seqD_eS, walkD_eP, walkD_eS, walkD_l, walkD_t]
    refine ⟨_, rfl, rfl, by omega, ?_⟩
    rw [split_tx t ht]
    exact hE _ ⟨t, ht, by omega, rfl⟩
  rintro _ ⟨t, ok, tl, rfl⟩
  have tw : UsOk (wds t) := ⟨by omega, fun z hz => ⟨(wd_ok t ok z hz).2.1, by have := (wd_ok t ok z hz).2.2; omega⟩⟩
  have l2 := cutD_len ns (some 4) (some 24)
  have ask : ∀ (d : Dt) (Ψ : Slot → Prop) (Ξ : XD → Prop), okD d → Ψ (.pu (oT (readS d))) → sp__law_refused [d] Ψ Ξ := fun d Ψ Ξ ho k => ⟨d, rfl, ho, k⟩
  refine seq_forA (fun ds => ∃ cs : List Int, ds = cs.map .int) (fun Q hQ => ?_) (fun k ρ => ∃ a b c : Slot, ρ = [.pu (.list (ns.map .int)), .pu (.list (ws.map .str)), .pu (stD ws ss rm), .pu (.list ((wds t).map .str)), a, b, c, .un]) ⟨_, _, _, rfl⟩ ?_ ?_
  · simp only [diSeq, slD, cutD_map, dRet, dRetF, dSetX, dCallX, dRetX, noOw, dTry, dCpy, dRaise, dRetO, dSetP, dSetS, dSetF, dSeq, dIf, dNext, dCall, dCallF, dB, dBin, dCons, dNil, dTup, dLst, dV, dC, dTV, onB, dTAnd, dTOr, dTNot, dAnd, dOr, dNot, dIfE, dIsN, dNotN, isN, dSl, dSlF, dNoPart, dPart, dPar, dParS, dAsg, dgN, dgT, dgCons, dgNil, dFE, dIsi, dListF, dNeg, dRev, dFrz, dApp, dAppS, dIns, dExtend, dClear, dReverse, dPop, oIx, oI, oIC, add_ii, add_ss, add_ll, add_tt, oSubI, oMulU, oMulI, oFd, oMd, oPw, oLt, oLe, oGt, oGe, oEq, oNe, getF, setF, Cl.d, getS, setS, purF_nil, purF_cons, purH, allF_nil, allF_cons, allH, rho0, endsOf, scalD, len_l, len_t, len_s, bAbs, bInt, bIntU, tup_l, tup_t, true_and, and_true, Option.some.injEq, exists_eq_left', decide_eq_true_eq, Bool.not_eq_true', decide_eq_false_iff_not, it_eQ0, it_eQ1, it_eP0, it_eP1, it_eS0, it_eS1, fits_eQ, fits_eP, fits_eS, eqv_eQ, eqv_eP, eqv_eS, eqv_int, eqv_bool, shp_int, shp_bool, shp_none, shp_eQ, shp_eP, shp_eS, dCont, dBreak, dXi, dSetG, dAppG, oIsB, oNotB, dTx, pJoin, pSplit, pPart, pStarts, bStr, bIntS, dFmt, dJs, ↓reduceIte, nsp_none, nsp_bool, nsp_int, nsp_str, nsp_list, nsp_tuple, nsp_eQ, nsp_eP, nsp_eS, dat_pu, dat_ow, seqD_l, seqD_t, not_true_eq_false, Bool.true_eq_false, Bool.not_not, List.length_cons, List.length_nil, mkP, mkS, fits_list, fits_tuple, isIntD, isBoolD, isListD, isStrD, isTupD, Bool.not_true, Bool.not_false, Bool.false_eq_true, it_l0, it_l1, it_l2, it_t0, it_t1, it_t2, shp_ps, shp_pt, shp_ss, shp_is, seqD_eQ, seqD_eP, seqD_eS, walkD_eP, walkD_eS, walkD_l, walkD_t]
    refine ⟨ns, 3, rfl, hns, by decide, by decide, fun c => ?_⟩
    simp only [slD, cutD_map, List.length_map, dRet, dRetF, dSetX, dCallX, dRetX, noOw, dTry, dCpy, dRaise, dRetO, dSetP, dSetS, dSetF, dSeq, dIf, dNext, dCall, dCallF, dB, dBin, dCons, dNil, dTup, dLst, dV, dC, dTV, onB, dTAnd, dTOr, dTNot, dAnd, dOr, dNot, dIfE, dIsN, dNotN, isN, dSl, dSlF, dNoPart, dPart, dPar, dParS, dAsg, dgN, dgT, dgCons, dgNil, dFE, dIsi, dListF, dNeg, dRev, dFrz, dApp, dAppS, dIns, dExtend, dClear, dReverse, dPop, oIx, oI, oIC, add_ii, add_ss, add_ll, add_tt, oSubI, oMulU, oMulI, oFd, oMd, oPw, oLt, oLe, oGt, oGe, oEq, oNe, getF, setF, Cl.d, getS, setS, purF_nil, purF_cons, purH, allF_nil, allF_cons, allH, rho0, endsOf, scalD, len_l, len_t, len_s, bAbs, bInt, bIntU, tup_l, tup_t, true_and, and_true, Option.some.injEq, exists_eq_left', decide_eq_true_eq, Bool.not_eq_true', decide_eq_false_iff_not, it_eQ0, it_eQ1, it_eP0, it_eP1, it_eS0, it_eS1, fits_eQ, fits_eP, fits_eS, eqv_eQ, eqv_eP, eqv_eS, eqv_int, eqv_bool, shp_int, shp_bool, shp_none, shp_eQ, shp_eP, shp_eS, dCont, dBreak, dXi, dSetG, dAppG, oIsB, oNotB, dTx, pJoin, pSplit, pPart, pStarts, bStr, bIntS, dFmt, dJs, ↓reduceIte, nsp_none, nsp_bool, nsp_int, nsp_str, nsp_list, nsp_tuple, nsp_eQ, nsp_eP, nsp_eS, dat_pu, dat_ow, seqD_l, seqD_t, not_true_eq_false, Bool.true_eq_false, Bool.not_not, List.length_cons, List.length_nil, mkP, mkS, fits_list, fits_tuple, isIntD, isBoolD, isListD, isStrD, isTupD, Bool.not_true, Bool.not_false, Bool.false_eq_true, it_l0, it_l1, it_l2, it_t0, it_t1, it_t2, shp_ps, shp_pt, shp_ss, shp_is, seqD_eQ, seqD_eP, seqD_eS, walkD_eP, walkD_eS, walkD_l, walkD_t]
    exact ⟨by omega, hQ _ ⟨c :: cutD ns (some 4) (some 24), rfl⟩⟩
  · rintro ds ⟨cs, rfl⟩ k d ρ' hkk ⟨a, b, c, rfl⟩
    obtain ⟨cc, hs, rfl⟩ := map_get hkk
    simp only [dgN, setS]
    refine seq_cut (fun ρ => ∃ z : Str, okD (.str z) ∧ ρ = [.pu (.list (ns.map .int)), .pu (.list (ws.map .str)), .pu (stD ws ss rm), .pu (.list ((wds t).map .str)), .pu (.int cc), .pu (.str z), c, .un]) (fun E _ hE => ?_) ?_
    · simp only [dTx, pJoin, dRet, dRetF, dSetX, dCallX, dRetX, noOw, dTry, dCpy, dRaise, dRetO, dSetP, dSetS, dSetF, dSeq, dIf, dNext, dCall, dCallF, dB, dBin, dCons, dNil, dTup, dLst, dV, dC, dTV, onB, dTAnd, dTOr, dTNot, dAnd, dOr, dNot, dIfE, dIsN, dNotN, isN, dSl, dSlF, dNoPart, dPart, dPar, dParS, dAsg, dgN, dgT, dgCons, dgNil, dFE, dIsi, dListF, dNeg, dRev, dFrz, dApp, dAppS, dIns, dExtend, dClear, dReverse, dPop, oIx, oI, oIC, add_ii, add_ss, add_ll, add_tt, oSubI, oMulU, oMulI, oFd, oMd, oPw, oLt, oLe, oGt, oGe, oEq, oNe, getF, setF, Cl.d, getS, setS, purF_nil, purF_cons, purH, allF_nil, allF_cons, allH, rho0, endsOf, scalD, len_l, len_t, len_s, bAbs, bInt, bIntU, tup_l, tup_t, true_and, and_true, Option.some.injEq, exists_eq_left', decide_eq_true_eq, Bool.not_eq_true', decide_eq_false_iff_not, it_eQ0, it_eQ1, it_eP0, it_eP1, it_eS0, it_eS1, fits_eQ, fits_eP, fits_eS, eqv_eQ, eqv_eP, eqv_eS, eqv_int, eqv_bool, shp_int, shp_bool, shp_none, shp_eQ, shp_eP, shp_eS, dCont, dBreak, dXi, dSetG, dAppG, oIsB, oNotB, dTx, pJoin, pSplit, pPart, pStarts, bStr, bIntS, dFmt, dJs, ↓reduceIte, nsp_none, nsp_bool, nsp_int, nsp_str, nsp_list, nsp_tuple, nsp_eQ, nsp_eP, nsp_eS, dat_pu, dat_ow, seqD_l, seqD_t, not_true_eq_false, Bool.true_eq_false, Bool.not_not, List.length_cons, List.length_nil, mkP, mkS, fits_list, fits_tuple, isIntD, isBoolD, isListD, isStrD, isTupD, Bool.not_true, Bool.not_false, Bool.false_eq_true, it_l0, it_l1, it_l2, it_t0, it_t1, it_t2, shp_ps, shp_pt, shp_ss, shp_is, seqD_eQ, seqD_eP, seqD_eS, walkD_eP, walkD_eS, walkD_l, walkD_t]
      refine ⟨cc, 4, rfl, by decide, fun xs hl hx => ?_⟩
      simp only [dRet, dRetF, dSetX, dCallX, dRetX, noOw, dTry, dCpy, dRaise, dRetO, dSetP, dSetS, dSetF, dSeq, dIf, dNext, dCall, dCallF, dB, dBin, dCons, dNil, dTup, dLst, dV, dC, dTV, onB, dTAnd, dTOr, dTNot, dAnd, dOr, dNot, dIfE, dIsN, dNotN, isN, dSl, dSlF, dNoPart, dPart, dPar, dParS, dAsg, dgN, dgT, dgCons, dgNil, dFE, dIsi, dListF, dNeg, dRev, dFrz, dApp, dAppS, dIns, dExtend, dClear, dReverse, dPop, oIx, oI, oIC, add_ii, add_ss, add_ll, add_tt, oSubI, oMulU, oMulI, oFd, oMd, oPw, oLt, oLe, oGt, oGe, oEq, oNe, getF, setF, Cl.d, getS, setS, purF_nil, purF_cons, purH, allF_nil, allF_cons, allH, rho0, endsOf, scalD, len_l, len_t, len_s, bAbs, bInt, bIntU, tup_l, tup_t, true_and, and_true, Option.some.injEq, exists_eq_left', decide_eq_true_eq, Bool.not_eq_true', decide_eq_false_iff_not, it_eQ0, it_eQ1, it_eP0, it_eP1, it_eS0, it_eS1, fits_eQ, fits_eP, fits_eS, eqv_eQ, eqv_eP, eqv_eS, eqv_int, eqv_bool, shp_int, shp_bool, shp_none, shp_eQ, shp_eP, shp_eS, dCont, dBreak, dXi, dSetG, dAppG, oIsB, oNotB, dTx, pJoin, pSplit, pPart, pStarts, bStr, bIntS, dFmt, dJs, ↓reduceIte, nsp_none, nsp_bool, nsp_int, nsp_str, nsp_list, nsp_tuple, nsp_eQ, nsp_eP, nsp_eS, dat_pu, dat_ow, seqD_l, seqD_t, not_true_eq_false, Bool.true_eq_false, Bool.not_not, List.length_cons, List.length_nil, mkP, mkS, fits_list, fits_tuple, isIntD, isBoolD, isListD, isStrD, isTupD, Bool.not_true, Bool.not_false, Bool.false_eq_true, it_l0, it_l1, it_l2, it_t0, it_t1, it_t2, shp_ps, shp_pt, shp_ss, shp_is, seqD_eQ, seqD_eP, seqD_eS, walkD_eP, walkD_eS, walkD_l, walkD_t]
      refine ⟨wds t, xs, ws, rfl, wds_pos t, tl, fun z hz => tw.2 z hz, hl, wl, wn, fun us hu => ?_⟩
      obtain ⟨u1, u2⟩ := us_text hu
      have l1 : (" " : Str).length = 1 := by decide +kernel
      simp only [l1, dRet, dRetF, dSetX, dCallX, dRetX, noOw, dTry, dCpy, dRaise, dRetO, dSetP, dSetS, dSetF, dSeq, dIf, dNext, dCall, dCallF, dB, dBin, dCons, dNil, dTup, dLst, dV, dC, dTV, onB, dTAnd, dTOr, dTNot, dAnd, dOr, dNot, dIfE, dIsN, dNotN, isN, dSl, dSlF, dNoPart, dPart, dPar, dParS, dAsg, dgN, dgT, dgCons, dgNil, dFE, dIsi, dListF, dNeg, dRev, dFrz, dApp, dAppS, dIns, dExtend, dClear, dReverse, dPop, oIx, oI, oIC, add_ii, add_ss, add_ll, add_tt, oSubI, oMulU, oMulI, oFd, oMd, oPw, oLt, oLe, oGt, oGe, oEq, oNe, getF, setF, Cl.d, getS, setS, purF_nil, purF_cons, purH, allF_nil, allF_cons, allH, rho0, endsOf, scalD, len_l, len_t, len_s, bAbs, bInt, bIntU, tup_l, tup_t, true_and, and_true, Option.some.injEq, exists_eq_left', decide_eq_true_eq, Bool.not_eq_true', decide_eq_false_iff_not, it_eQ0, it_eQ1, it_eP0, it_eP1, it_eS0, it_eS1, fits_eQ, fits_eP, fits_eS, eqv_eQ, eqv_eP, eqv_eS, eqv_int, eqv_bool, shp_int, shp_bool, shp_none, shp_eQ, shp_eP, shp_eS, dCont, dBreak, dXi, dSetG, dAppG, oIsB, oNotB, dTx, pJoin, pSplit, pPart, pStarts, bStr, bIntS, dFmt, dJs, ↓reduceIte, nsp_none, nsp_bool, nsp_int, nsp_str, nsp_list, nsp_tuple, nsp_eQ, nsp_eP, nsp_eS, dat_pu, dat_ow, seqD_l, seqD_t, not_true_eq_false, Bool.true_eq_false, Bool.not_not, List.length_cons, List.length_nil, mkP, mkS, fits_list, fits_tuple, isIntD, isBoolD, isListD, isStrD, isTupD, Bool.not_true, Bool.not_false, Bool.false_eq_true, it_l0, it_l1, it_l2, it_t0, it_t1, it_t2, shp_ps, shp_pt, shp_ss, shp_is, seqD_eQ, seqD_eP, seqD_eS, walkD_eP, walkD_eS, walkD_l, walkD_t]
      exact ⟨⟨us, .inl rfl, u1, hE _ ⟨_, u2, rfl⟩⟩, us, .inl rfl, u1, hE _ ⟨_, u2, rfl⟩⟩
    rintro _ ⟨z, ho, rfl⟩
    obtain ⟨zl, sl', so⟩ := split_ok ho
    refine seq_cut (fun ρ => ρ = [.pu (.list (ns.map .int)), .pu (.list (ws.map .str)), .pu (stD ws ss rm), .pu (.list ((wds t).map .str)), .pu (.int cc), .pu (.str z), .pu (oT none), .un]) (fun E _ hE => ?_) ?_
    · simp only [dRet, dRetF, dSetX, dCallX, dRetX, noOw, dTry, dCpy, dRaise, dRetO, dSetP, dSetS, dSetF, dSeq, dIf, dNext, dCall, dCallF, dB, dBin, dCons, dNil, dTup, dLst, dV, dC, dTV, onB, dTAnd, dTOr, dTNot, dAnd, dOr, dNot, dIfE, dIsN, dNotN, isN, dSl, dSlF, dNoPart, dPart, dPar, dParS, dAsg, dgN, dgT, dgCons, dgNil, dFE, dIsi, dListF, dNeg, dRev, dFrz, dApp, dAppS, dIns, dExtend, dClear, dReverse, dPop, oIx, oI, oIC, add_ii, add_ss, add_ll, add_tt, oSubI, oMulU, oMulI, oFd, oMd, oPw, oLt, oLe, oGt, oGe, oEq, oNe, getF, setF, Cl.d, getS, setS, purF_nil, purF_cons, purH, allF_nil, allF_cons, allH, rho0, endsOf, scalD, len_l, len_t, len_s, bAbs, bInt, bIntU, tup_l, tup_t, true_and, and_true, Option.some.injEq, exists_eq_left', decide_eq_true_eq, Bool.not_eq_true', decide_eq_false_iff_not, it_eQ0, it_eQ1, it_eP0, it_eP1, it_eS0, it_eS1, fits_eQ, fits_eP, fits_eS, eqv_eQ, eqv_eP, eqv_eS, eqv_int, eqv_bool, shp_int, shp_bool, shp_none, shp_eQ, shp_eP, shp_eS, dCont, dBreak, dXi, dSetG, dAppG, oIsB, oNotB, dTx, pJoin, pSplit, pPart, pStarts, bStr, bIntS, dFmt, dJs, ↓reduceIte, nsp_none, nsp_bool, nsp_int, nsp_str, nsp_list, nsp_tuple, nsp_eQ, nsp_eP, nsp_eS, dat_pu, dat_ow, seqD_l, seqD_t, not_true_eq_false, Bool.true_eq_false, Bool.not_not, List.length_cons, List.length_nil, mkP, mkS, fits_list, fits_tuple, isIntD, isBoolD, isListD, isStrD, isTupD, Bool.not_true, Bool.not_false, Bool.false_eq_true, it_l0, it_l1, it_l2, it_t0, it_t1, it_t2, shp_ps, shp_pt, shp_ss, shp_is, seqD_eQ, seqD_eP, seqD_eS, walkD_eP, walkD_eS, walkD_l, walkD_t]
      exact hE _ rfl
    rintro _ rfl
    refine seq_cut (fun ρ => ρ = [.pu (.list (ns.map .int)), .pu (.list (ws.map .str)), .pu (stD ws ss rm), .pu (.list ((wds t).map .str)), .pu (.int cc), .pu (.str z), .pu (oT (readS (.str z))), .un]) (fun E _ hE => ?_) ?_
    · have rw1 : readS (.str z) = readW (Txt.split z " ") := rfl
      have ri := readW_iff (Txt.split z " ")
      have rs : ∀ u, readW (Txt.split z " ") = some u → tx u = z := fun u hu => by
        have := (readS_some (d := .str z) (t := u) hu).1
        injection this with q
        exact q.symm
      rw [rw1] at hE
      generalize ew : Txt.split z " " = us at sl' so ri rs hE
      simp only [dRet, dRetF, dSetX, dCallX, dRetX, noOw, dTry, dCpy, dRaise, dRetO, dSetP, dSetS, dSetF, dSeq, dIf, dNext, dCall, dCallF, dB, dBin, dCons, dNil, dTup, dLst, dV, dC, dTV, onB, dTAnd, dTOr, dTNot, dAnd, dOr, dNot, dIfE, dIsN, dNotN, isN, dSl, dSlF, dNoPart, dPart, dPar, dParS, dAsg, dgN, dgT, dgCons, dgNil, dFE, dIsi, dListF, dNeg, dRev, dFrz, dApp, dAppS, dIns, dExtend, dClear, dReverse, dPop, oIx, oI, oIC, add_ii, add_ss, add_ll, add_tt, oSubI, oMulU, oMulI, oFd, oMd, oPw, oLt, oLe, oGt, oGe, oEq, oNe, getF, setF, Cl.d, getS, setS, purF_nil, purF_cons, purH, allF_nil, allF_cons, allH, rho0, endsOf, scalD, len_l, len_t, len_s, bAbs, bInt, bIntU, tup_l, tup_t, true_and, and_true, Option.some.injEq, exists_eq_left', decide_eq_true_eq, Bool.not_eq_true', decide_eq_false_iff_not, it_eQ0, it_eQ1, it_eP0, it_eP1, it_eS0, it_eS1, fits_eQ, fits_eP, fits_eS, eqv_eQ, eqv_eP, eqv_eS, eqv_int, eqv_bool, shp_int, shp_bool, shp_none, shp_eQ, shp_eP, shp_eS, dCont, dBreak, dXi, dSetG, dAppG, oIsB, oNotB, dTx, pJoin, pSplit, pPart, pStarts, bStr, bIntS, dFmt, dJs, ↓reduceIte, nsp_none, nsp_bool, nsp_int, nsp_str, nsp_list, nsp_tuple, nsp_eQ, nsp_eP, nsp_eS, dat_pu, dat_ow, seqD_l, seqD_t, not_true_eq_false, Bool.true_eq_false, Bool.not_not, List.length_cons, List.length_nil, mkP, mkS, fits_list, fits_tuple, isIntD, isBoolD, isListD, isStrD, isTupD, Bool.not_true, Bool.not_false, Bool.false_eq_true, it_l0, it_l1, it_l2, it_t0, it_t1, it_t2, shp_ps, shp_pt, shp_ss, shp_is, seqD_eQ, seqD_eP, seqD_eS, walkD_eP, walkD_eS, walkD_l, walkD_t]
      refine ⟨_, rfl, rfl, by omega, ?_⟩
      rw [ew]
      simp only [List.length_map, dRet, dRetF, dSetX, dCallX, dRetX, noOw, dTry, dCpy, dRaise, dRetO, dSetP, dSetS, dSetF, dSeq, dIf, dNext, dCall, dCallF, dB, dBin, dCons, dNil, dTup, dLst, dV, dC, dTV, onB, dTAnd, dTOr, dTNot, dAnd, dOr, dNot, dIfE, dIsN, dNotN, isN, dSl, dSlF, dNoPart, dPart, dPar, dParS, dAsg, dgN, dgT, dgCons, dgNil, dFE, dIsi, dListF, dNeg, dRev, dFrz, dApp, dAppS, dIns, dExtend, dClear, dReverse, dPop, oIx, oI, oIC, add_ii, add_ss, add_ll, add_tt, oSubI, oMulU, oMulI, oFd, oMd, oPw, oLt, oLe, oGt, oGe, oEq, oNe, getF, setF, Cl.d, getS, setS, purF_nil, purF_cons, purH, allF_nil, allF_cons, allH, rho0, endsOf, scalD, len_l, len_t, len_s, bAbs, bInt, bIntU, tup_l, tup_t, true_and, and_true, Option.some.injEq, exists_eq_left', decide_eq_true_eq, Bool.not_eq_true', decide_eq_false_iff_not, it_eQ0, it_eQ1, it_eP0, it_eP1, it_eS0, it_eS1, fits_eQ, fits_eP, fits_eS, eqv_eQ, eqv_eP, eqv_eS, eqv_int, eqv_bool, shp_int, shp_bool, shp_none, shp_eQ, shp_eP, shp_eS, dCont, dBreak, dXi, dSetG, dAppG, oIsB, oNotB, dTx, pJoin, pSplit, pPart, pStarts, bStr, bIntS, dFmt, dJs, ↓reduceIte, nsp_none, nsp_bool, nsp_int, nsp_str, nsp_list, nsp_tuple, nsp_eQ, nsp_eP, nsp_eS, dat_pu, dat_ow, seqD_l, seqD_t, not_true_eq_false, Bool.true_eq_false, Bool.not_not, List.length_cons, List.length_nil, mkP, mkS, fits_list, fits_tuple, isIntD, isBoolD, isListD, isStrD, isTupD, Bool.not_true, Bool.not_false, Bool.false_eq_true, it_l0, it_l1, it_l2, it_t0, it_t1, it_t2, shp_ps, shp_pt, shp_ss, shp_is, seqD_eQ, seqD_eP, seqD_eS, walkD_eP, walkD_eS, walkD_l, walkD_t]
      by_cases c1 : us.length < 41
      · refine ite_yes (by omega) ?_
        refine ⟨_, rfl, rfl, by omega, ?_⟩
        rw [ew]
        refine ⟨us, 0, rfl, ⟨by omega, so⟩, by omega, by omega, ?_⟩
        simp only [dRet, dRetF, dSetX, dCallX, dRetX, noOw, dTry, dCpy, dRaise, dRetO, dSetP, dSetS, dSetF, dSeq, dIf, dNext, dCall, dCallF, dB, dBin, dCons, dNil, dTup, dLst, dV, dC, dTV, onB, dTAnd, dTOr, dTNot, dAnd, dOr, dNot, dIfE, dIsN, dNotN, isN, dSl, dSlF, dNoPart, dPart, dPar, dParS, dAsg, dgN, dgT, dgCons, dgNil, dFE, dIsi, dListF, dNeg, dRev, dFrz, dApp, dAppS, dIns, dExtend, dClear, dReverse, dPop, oIx, oI, oIC, add_ii, add_ss, add_ll, add_tt, oSubI, oMulU, oMulI, oFd, oMd, oPw, oLt, oLe, oGt, oGe, oEq, oNe, getF, setF, Cl.d, getS, setS, purF_nil, purF_cons, purH, allF_nil, allF_cons, allH, rho0, endsOf, scalD, len_l, len_t, len_s, bAbs, bInt, bIntU, tup_l, tup_t, true_and, and_true, Option.some.injEq, exists_eq_left', decide_eq_true_eq, Bool.not_eq_true', decide_eq_false_iff_not, it_eQ0, it_eQ1, it_eP0, it_eP1, it_eS0, it_eS1, fits_eQ, fits_eP, fits_eS, eqv_eQ, eqv_eP, eqv_eS, eqv_int, eqv_bool, shp_int, shp_bool, shp_none, shp_eQ, shp_eP, shp_eS, dCont, dBreak, dXi, dSetG, dAppG, oIsB, oNotB, dTx, pJoin, pSplit, pPart, pStarts, bStr, bIntS, dFmt, dJs, ↓reduceIte, nsp_none, nsp_bool, nsp_int, nsp_str, nsp_list, nsp_tuple, nsp_eQ, nsp_eP, nsp_eS, dat_pu, dat_ow, seqD_l, seqD_t, not_true_eq_false, Bool.true_eq_false, Bool.not_not, List.length_cons, List.length_nil, mkP, mkS, fits_list, fits_tuple, isIntD, isBoolD, isListD, isStrD, isTupD, Bool.not_true, Bool.not_false, Bool.false_eq_true, it_l0, it_l1, it_l2, it_t0, it_t1, it_t2, shp_ps, shp_pt, shp_ss, shp_is, seqD_eQ, seqD_eP, seqD_eS, walkD_eP, walkD_eS, walkD_l, walkD_t]
        refine ⟨_, rfl, rfl, by omega, ?_⟩
        rw [ew]
        by_cases c2 : oE (pr 41 us 0) = us.length
        · refine ite_yes c2 ?_
          have := ri.mpr ⟨by omega, c2⟩
          cases q : readW us with
          | none => rw [q] at this; cases this
          | some u =>
            rw [q] at hE
            have e := rs u q
            have hE' := hE _ rfl
            simp only [oT, e] at hE'
            exact hE'
        · refine ite_no c2 ?_
          cases q : readW us with
          | none => rw [q] at hE; exact hE _ rfl
          | some u => exact absurd (ri.mp (by rw [q]; rfl)).2 c2
      · refine ite_no (by omega) ?_
        cases q : readW us with
        | none => rw [q] at hE; exact hE _ rfl
        | some u => exact absurd (ri.mp (by rw [q]; rfl)).1 (by omega)
    rintro _ rfl
    have so2 := sh_oT (o := readS (.str z)) fun u hu => by
      obtain ⟨q, _⟩ := readS_some hu
      rw [← q]; exact ho
    simp only [dRet, dRetF, dSetX, dCallX, dRetX, noOw, dTry, dCpy, dRaise, dRetO, dSetP, dSetS, dSetF, dSeq, dIf, dNext, dCall, dCallF, dB, dBin, dCons, dNil, dTup, dLst, dV, dC, dTV, onB, dTAnd, dTOr, dTNot, dAnd, dOr, dNot, dIfE, dIsN, dNotN, isN, dSl, dSlF, dNoPart, dPart, dPar, dParS, dAsg, dgN, dgT, dgCons, dgNil, dFE, dIsi, dListF, dNeg, dRev, dFrz, dApp, dAppS, dIns, dExtend, dClear, dReverse, dPop, oIx, oI, oIC, add_ii, add_ss, add_ll, add_tt, oSubI, oMulU, oMulI, oFd, oMd, oPw, oLt, oLe, oGt, oGe, oEq, oNe, getF, setF, Cl.d, getS, setS, purF_nil, purF_cons, purH, allF_nil, allF_cons, allH, rho0, endsOf, scalD, len_l, len_t, len_s, bAbs, bInt, bIntU, tup_l, tup_t, true_and, and_true, Option.some.injEq, exists_eq_left', decide_eq_true_eq, Bool.not_eq_true', decide_eq_false_iff_not, it_eQ0, it_eQ1, it_eP0, it_eP1, it_eS0, it_eS1, fits_eQ, fits_eP, fits_eS, eqv_eQ, eqv_eP, eqv_eS, eqv_int, eqv_bool, shp_int, shp_bool, shp_none, shp_eQ, shp_eP, shp_eS, dCont, dBreak, dXi, dSetG, dAppG, oIsB, oNotB, dTx, pJoin, pSplit, pPart, pStarts, bStr, bIntS, dFmt, dJs, ↓reduceIte, nsp_none, nsp_bool, nsp_int, nsp_str, nsp_list, nsp_tuple, nsp_eQ, nsp_eP, nsp_eS, dat_pu, dat_ow, seqD_l, seqD_t, not_true_eq_false, Bool.true_eq_false, Bool.not_not, List.length_cons, List.length_nil, mkP, mkS, fits_list, fits_tuple, isIntD, isBoolD, isListD, isStrD, isTupD, Bool.not_true, Bool.not_false, Bool.false_eq_true, it_l0, it_l1, it_l2, it_t0, it_t1, it_t2, shp_ps, shp_pt, shp_ss, shp_is, seqD_eQ, seqD_eP, seqD_eS, walkD_eP, walkD_eS, walkD_l, walkD_t]
    refine ask _ _ _ ho ?_
    simp only [so2, eqv_oT, dRet, dRetF, dSetX, dCallX, dRetX, noOw, dTry, dCpy, dRaise, dRetO, dSetP, dSetS, dSetF, dSeq, dIf, dNext, dCall, dCallF, dB, dBin, dCons, dNil, dTup, dLst, dV, dC, dTV, onB, dTAnd, dTOr, dTNot, dAnd, dOr, dNot, dIfE, dIsN, dNotN, isN, dSl, dSlF, dNoPart, dPart, dPar, dParS, dAsg, dgN, dgT, dgCons, dgNil, dFE, dIsi, dListF, dNeg, dRev, dFrz, dApp, dAppS, dIns, dExtend, dClear, dReverse, dPop, oIx, oI, oIC, add_ii, add_ss, add_ll, add_tt, oSubI, oMulU, oMulI, oFd, oMd, oPw, oLt, oLe, oGt, oGe, oEq, oNe, getF, setF, Cl.d, getS, setS, purF_nil, purF_cons, purH, allF_nil, allF_cons, allH, rho0, endsOf, scalD, len_l, len_t, len_s, bAbs, bInt, bIntU, tup_l, tup_t, true_and, and_true, Option.some.injEq, exists_eq_left', decide_eq_true_eq, Bool.not_eq_true', decide_eq_false_iff_not, it_eQ0, it_eQ1, it_eP0, it_eP1, it_eS0, it_eS1, fits_eQ, fits_eP, fits_eS, eqv_eQ, eqv_eP, eqv_eS, eqv_int, eqv_bool, shp_int, shp_bool, shp_none, shp_eQ, shp_eP, shp_eS, dCont, dBreak, dXi, dSetG, dAppG, oIsB, oNotB, dTx, pJoin, pSplit, pPart, pStarts, bStr, bIntS, dFmt, dJs, ↓reduceIte, nsp_none, nsp_bool, nsp_int, nsp_str, nsp_list, nsp_tuple, nsp_eQ, nsp_eP, nsp_eS, dat_pu, dat_ow, seqD_l, seqD_t, not_true_eq_false, Bool.true_eq_false, Bool.not_not, List.length_cons, List.length_nil, mkP, mkS, fits_list, fits_tuple, isIntD, isBoolD, isListD, isStrD, isTupD, Bool.not_true, Bool.not_false, Bool.false_eq_true, it_l0, it_l1, it_l2, it_t0, it_t1, it_t2, shp_ps, shp_pt, shp_ss, shp_is, seqD_eQ, seqD_eP, seqD_eS, walkD_eP, walkD_eS, walkD_l, walkD_t]
    exact ⟨_, _, _, rfl⟩
  rintro ds ⟨cs, rfl⟩ ρ' ⟨a, b, c, rfl⟩
  refine seq_cut (fun ρ => ∃ d, okD d ∧ readS d = none ∧ ρ = [.pu (.list (ns.map .int)), .pu (.list (ws.map .str)), .pu (stD ws ss rm), .pu (.list ((wds t).map .str)), a, b, c, .pu d]) (fun E _ hE => ?_) ?_
  · simp only [dRet, dRetF, dSetX, dCallX, dRetX, noOw, dTry, dCpy, dRaise, dRetO, dSetP, dSetS, dSetF, dSeq, dIf, dNext, dCall, dCallF, dB, dBin, dCons, dNil, dTup, dLst, dV, dC, dTV, onB, dTAnd, dTOr, dTNot, dAnd, dOr, dNot, dIfE, dIsN, dNotN, isN, dSl, dSlF, dNoPart, dPart, dPar, dParS, dAsg, dgN, dgT, dgCons, dgNil, dFE, dIsi, dListF, dNeg, dRev, dFrz, dApp, dAppS, dIns, dExtend, dClear, dReverse, dPop, oIx, oI, oIC, add_ii, add_ss, add_ll, add_tt, oSubI, oMulU, oMulI, oFd, oMd, oPw, oLt, oLe, oGt, oGe, oEq, oNe, getF, setF, Cl.d, getS, setS, purF_nil, purF_cons, purH, allF_nil, allF_cons, allH, rho0, endsOf, scalD, len_l, len_t, len_s, bAbs, bInt, bIntU, tup_l, tup_t, true_and, and_true, Option.some.injEq, exists_eq_left', decide_eq_true_eq, Bool.not_eq_true', decide_eq_false_iff_not, it_eQ0, it_eQ1, it_eP0, it_eP1, it_eS0, it_eS1, fits_eQ, fits_eP, fits_eS, eqv_eQ, eqv_eP, eqv_eS, eqv_int, eqv_bool, shp_int, shp_bool, shp_none, shp_eQ, shp_eP, shp_eS, dCont, dBreak, dXi, dSetG, dAppG, oIsB, oNotB, dTx, pJoin, pSplit, pPart, pStarts, bStr, bIntS, dFmt, dJs, ↓reduceIte, nsp_none, nsp_bool, nsp_int, nsp_str, nsp_list, nsp_tuple, nsp_eQ, nsp_eP, nsp_eS, dat_pu, dat_ow, seqD_l, seqD_t, not_true_eq_false, Bool.true_eq_false, Bool.not_not, List.length_cons, List.length_nil, mkP, mkS, fits_list, fits_tuple, isIntD, isBoolD, isListD, isStrD, isTupD, Bool.not_true, Bool.not_false, Bool.false_eq_true, it_l0, it_l1, it_l2, it_t0, it_t1, it_t2, shp_ps, shp_pt, shp_ss, shp_is, seqD_eQ, seqD_eP, seqD_eS, walkD_eP, walkD_eS, walkD_l, walkD_t]
    refine ⟨ns, 3, rfl, hns, by decide, by decide, fun c => ?_⟩
    simp only [dRet, dRetF, dSetX, dCallX, dRetX, noOw, dTry, dCpy, dRaise, dRetO, dSetP, dSetS, dSetF, dSeq, dIf, dNext, dCall, dCallF, dB, dBin, dCons, dNil, dTup, dLst, dV, dC, dTV, onB, dTAnd, dTOr, dTNot, dAnd, dOr, dNot, dIfE, dIsN, dNotN, isN, dSl, dSlF, dNoPart, dPart, dPar, dParS, dAsg, dgN, dgT, dgCons, dgNil, dFE, dIsi, dListF, dNeg, dRev, dFrz, dApp, dAppS, dIns, dExtend, dClear, dReverse, dPop, oIx, oI, oIC, add_ii, add_ss, add_ll, add_tt, oSubI, oMulU, oMulI, oFd, oMd, oPw, oLt, oLe, oGt, oGe, oEq, oNe, getF, setF, Cl.d, getS, setS, purF_nil, purF_cons, purH, allF_nil, allF_cons, allH, rho0, endsOf, scalD, len_l, len_t, len_s, bAbs, bInt, bIntU, tup_l, tup_t, true_and, and_true, Option.some.injEq, exists_eq_left', decide_eq_true_eq, Bool.not_eq_true', decide_eq_false_iff_not, it_eQ0, it_eQ1, it_eP0, it_eP1, it_eS0, it_eS1, fits_eQ, fits_eP, fits_eS, eqv_eQ, eqv_eP, eqv_eS, eqv_int, eqv_bool, shp_int, shp_bool, shp_none, shp_eQ, shp_eP, shp_eS, dCont, dBreak, dXi, dSetG, dAppG, oIsB, oNotB, dTx, pJoin, pSplit, pPart, pStarts, bStr, bIntS, dFmt, dJs, ↓reduceIte, nsp_none, nsp_bool, nsp_int, nsp_str, nsp_list, nsp_tuple, nsp_eQ, nsp_eP, nsp_eS, dat_pu, dat_ow, seqD_l, seqD_t, not_true_eq_false, Bool.true_eq_false, Bool.not_not, List.length_cons, List.length_nil, mkP, mkS, fits_list, fits_tuple, isIntD, isBoolD, isListD, isStrD, isTupD, Bool.not_true, Bool.not_false, Bool.false_eq_true, it_l0, it_l1, it_l2, it_t0, it_t1, it_t2, shp_ps, shp_pt, shp_ss, shp_is, seqD_eQ, seqD_eP, seqD_eS, walkD_eP, walkD_eS, walkD_l, walkD_t]
    obtain ⟨f0, f1⟩ := fmod_b (x := c) (m := 6) (by decide)
    obtain ⟨d, o1, o2, o3⟩ := thing_at f0 f1
    exact ⟨by decide, _, o3, hE _ ⟨d, o1, o2, rfl⟩⟩
  rintro _ ⟨d, o1, o2, rfl⟩
  have l1 : (" " : Str).length = 1 := by decide +kernel
  obtain ⟨u1, u2⟩ := us_text tw
  have sn : SeqAt.shaped (.tuple [.str "refused", .bool true]) = true := by decide +kernel
  have en : PyData.eqv (.tuple [.str "refused", .bool true]) (.tuple [.str "refused", .bool true]) = true := eqv_oT none
  have rS := readS_tx ok tl
  have jw := join_wds t
  rw [jw] at u2
  have st := sh_oT (o := some t) fun u hu => by cases hu; exact u2
  have et := eqv_oT (some t)
  simp only [oT] at st et
  simp only [dRet, dRetF, dSetX, dCallX, dRetX, noOw, dTry, dCpy, dRaise, dRetO, dSetP, dSetS, dSetF, dSeq, dIf, dNext, dCall, dCallF, dB, dBin, dCons, dNil, dTup, dLst, dV, dC, dTV, onB, dTAnd, dTOr, dTNot, dAnd, dOr, dNot, dIfE, dIsN, dNotN, isN, dSl, dSlF, dNoPart, dPart, dPar, dParS, dAsg, dgN, dgT, dgCons, dgNil, dFE, dIsi, dListF, dNeg, dRev, dFrz, dApp, dAppS, dIns, dExtend, dClear, dReverse, dPop, oIx, oI, oIC, add_ii, add_ss, add_ll, add_tt, oSubI, oMulU, oMulI, oFd, oMd, oPw, oLt, oLe, oGt, oGe, oEq, oNe, getF, setF, Cl.d, getS, setS, purF_nil, purF_cons, purH, allF_nil, allF_cons, allH, rho0, endsOf, scalD, len_l, len_t, len_s, bAbs, bInt, bIntU, tup_l, tup_t, true_and, and_true, Option.some.injEq, exists_eq_left', decide_eq_true_eq, Bool.not_eq_true', decide_eq_false_iff_not, it_eQ0, it_eQ1, it_eP0, it_eP1, it_eS0, it_eS1, fits_eQ, fits_eP, fits_eS, eqv_eQ, eqv_eP, eqv_eS, eqv_int, eqv_bool, shp_int, shp_bool, shp_none, shp_eQ, shp_eP, shp_eS, dCont, dBreak, dXi, dSetG, dAppG, oIsB, oNotB, dTx, pJoin, pSplit, pPart, pStarts, bStr, bIntS, dFmt, dJs, ↓reduceIte, nsp_none, nsp_bool, nsp_int, nsp_str, nsp_list, nsp_tuple, nsp_eQ, nsp_eP, nsp_eS, dat_pu, dat_ow, seqD_l, seqD_t, not_true_eq_false, Bool.true_eq_false, Bool.not_not, List.length_cons, List.length_nil, mkP, mkS, fits_list, fits_tuple, isIntD, isBoolD, isListD, isStrD, isTupD, Bool.not_true, Bool.not_false, Bool.false_eq_true, it_l0, it_l1, it_l2, it_t0, it_t1, it_t2, shp_ps, shp_pt, shp_ss, shp_is, seqD_eQ, seqD_eP, seqD_eS, walkD_eP, walkD_eS, walkD_l, walkD_t]
  refine ask _ _ _ o1 ?_
  rw [o2]
  simp only [oT, sn, en, dTx, pJoin, l1, dRet, dRetF, dSetX, dCallX, dRetX, noOw, dTry, dCpy, dRaise, dRetO, dSetP, dSetS, dSetF, dSeq, dIf, dNext, dCall, dCallF, dB, dBin, dCons, dNil, dTup, dLst, dV, dC, dTV, onB, dTAnd, dTOr, dTNot, dAnd, dOr, dNot, dIfE, dIsN, dNotN, isN, dSl, dSlF, dNoPart, dPart, dPar, dParS, dAsg, dgN, dgT, dgCons, dgNil, dFE, dIsi, dListF, dNeg, dRev, dFrz, dApp, dAppS, dIns, dExtend, dClear, dReverse, dPop, oIx, oI, oIC, add_ii, add_ss, add_ll, add_tt, oSubI, oMulU, oMulI, oFd, oMd, oPw, oLt, oLe, oGt, oGe, oEq, oNe, getF, setF, Cl.d, getS, setS, purF_nil, purF_cons, purH, allF_nil, allF_cons, allH, rho0, endsOf, scalD, len_l, len_t, len_s, bAbs, bInt, bIntU, tup_l, tup_t, true_and, and_true, Option.some.injEq, exists_eq_left', decide_eq_true_eq, Bool.not_eq_true', decide_eq_false_iff_not, it_eQ0, it_eQ1, it_eP0, it_eP1, it_eS0, it_eS1, fits_eQ, fits_eP, fits_eS, eqv_eQ, eqv_eP, eqv_eS, eqv_int, eqv_bool, shp_int, shp_bool, shp_none, shp_eQ, shp_eP, shp_eS, dCont, dBreak, dXi, dSetG, dAppG, oIsB, oNotB, dTx, pJoin, pSplit, pPart, pStarts, bStr, bIntS, dFmt, dJs, ↓reduceIte, nsp_none, nsp_bool, nsp_int, nsp_str, nsp_list, nsp_tuple, nsp_eQ, nsp_eP, nsp_eS, dat_pu, dat_ow, seqD_l, seqD_t, not_true_eq_false, Bool.true_eq_false, Bool.not_not, List.length_cons, List.length_nil, mkP, mkS, fits_list, fits_tuple, isIntD, isBoolD, isListD, isStrD, isTupD, Bool.not_true, Bool.not_false, Bool.false_eq_true, it_l0, it_l1, it_l2, it_t0, it_t1, it_t2, shp_ps, shp_pt, shp_ss, shp_is, seqD_eQ, seqD_eP, seqD_eS, walkD_eP, walkD_eS, walkD_l, walkD_t]
  refine ⟨wds t, .inl rfl, u1, ?_⟩
  rw [jw]
  refine ask _ _ _ u2 ?_
  rw [rS]
  simp only [oT, dRet, dRetF, dSetX, dCallX, dRetX, noOw, dTry, dCpy, dRaise, dRetO, dSetP, dSetS, dSetF, dSeq, dIf, dNext, dCall, dCallF, dB, dBin, dCons, dNil, dTup, dLst, dV, dC, dTV, onB, dTAnd, dTOr, dTNot, dAnd, dOr, dNot, dIfE, dIsN, dNotN, isN, dSl, dSlF, dNoPart, dPart, dPar, dParS, dAsg, dgN, dgT, dgCons, dgNil, dFE, dIsi, dListF, dNeg, dRev, dFrz, dApp, dAppS, dIns, dExtend, dClear, dReverse, dPop, oIx, oI, oIC, add_ii, add_ss, add_ll, add_tt, oSubI, oMulU, oMulI, oFd, oMd, oPw, oLt, oLe, oGt, oGe, oEq, oNe, getF, setF, Cl.d, getS, setS, purF_nil, purF_cons, purH, allF_nil, allF_cons, allH, rho0, endsOf, scalD, len_l, len_t, len_s, bAbs, bInt, bIntU, tup_l, tup_t, true_and, and_true, Option.some.injEq, exists_eq_left', decide_eq_true_eq, Bool.not_eq_true', decide_eq_false_iff_not, it_eQ0, it_eQ1, it_eP0, it_eP1, it_eS0, it_eS1, fits_eQ, fits_eP, fits_eS, eqv_eQ, eqv_eP, eqv_eS, eqv_int, eqv_bool, shp_int, shp_bool, shp_none, shp_eQ, shp_eP, shp_eS, dCont, dBreak, dXi, dSetG, dAppG, oIsB, oNotB, dTx, pJoin, pSplit, pPart, pStarts, bStr, bIntS, dFmt, dJs, ↓reduceIte, nsp_none, nsp_bool, nsp_int, nsp_str, nsp_list, nsp_tuple, nsp_eQ, nsp_eP, nsp_eS, dat_pu, dat_ow, seqD_l, seqD_t, not_true_eq_false, Bool.true_eq_false, Bool.not_not, List.length_cons, List.length_nil, mkP, mkS, fits_list, fits_tuple, isIntD, isBoolD, isListD, isStrD, isTupD, Bool.not_true, Bool.not_false, Bool.false_eq_true, it_l0, it_l1, it_l2, it_t0, it_t1, it_t2, shp_ps, shp_pt, shp_ss, shp_is, seqD_eQ, seqD_eP, seqD_eS, walkD_eP, walkD_eS, walkD_l, walkD_t]
  refine ⟨wds t, .inl rfl, u1, ?_⟩
  rw [jw]
  simp only [st, et, dRet, dRetF, dSetX, dCallX, dRetX, noOw, dTry, dCpy, dRaise, dRetO, dSetP, dSetS, dSetF, dSeq, dIf, dNext, dCall, dCallF, dB, dBin, dCons, dNil, dTup, dLst, dV, dC, dTV, onB, dTAnd, dTOr, dTNot, dAnd, dOr, dNot, dIfE, dIsN, dNotN, isN, dSl, dSlF, dNoPart, dPart, dPar, dParS, dAsg, dgN, dgT, dgCons, dgNil, dFE, dIsi, dListF, dNeg, dRev, dFrz, dApp, dAppS, dIns, dExtend, dClear, dReverse, dPop, oIx, oI, oIC, add_ii, add_ss, add_ll, add_tt, oSubI, oMulU, oMulI, oFd, oMd, oPw, oLt, oLe, oGt, oGe, oEq, oNe, getF, setF, Cl.d, getS, setS, purF_nil, purF_cons, purH, allF_nil, allF_cons, allH, rho0, endsOf, scalD, len_l, len_t, len_s, bAbs, bInt, bIntU, tup_l, tup_t, true_and, and_true, Option.some.injEq, exists_eq_left', decide_eq_true_eq, Bool.not_eq_true', decide_eq_false_iff_not, it_eQ0, it_eQ1, it_eP0, it_eP1, it_eS0, it_eS1, fits_eQ, fits_eP, fits_eS, eqv_eQ, eqv_eP, eqv_eS, eqv_int, eqv_bool, shp_int, shp_bool, shp_none, shp_eQ, shp_eP, shp_eS, dCont, dBreak, dXi, dSetG, dAppG, oIsB, oNotB, dTx, pJoin, pSplit, pPart, pStarts, bStr, bIntS, dFmt, dJs, ↓reduceIte, nsp_none, nsp_bool, nsp_int, nsp_str, nsp_list, nsp_tuple, nsp_eQ, nsp_eP, nsp_eS, dat_pu, dat_ow, seqD_l, seqD_t, not_true_eq_false, Bool.true_eq_false, Bool.not_not, List.length_cons, List.length_nil, mkP, mkS, fits_list, fits_tuple, isIntD, isBoolD, isListD, isStrD, isTupD, Bool.not_true, Bool.not_false, Bool.false_eq_true, it_l0, it_l1, it_l2, it_t0, it_t1, it_t2, shp_ps, shp_pt, shp_ss, shp_is, seqD_eQ, seqD_eP, seqD_eS, walkD_eP, walkD_eS, walkD_l, walkD_t]
  exact h
end L2.D3.SY.K39
set_option maxHeartbeats 0
namespace L2.D3.SY.K39
open PySem PySem.Spec PyProof.Rows L2.D3
def top (i : Nat) : Stmt := PySem.Challenge.pw_landsheets_k39_no_sayings.main.body.getD i (.Pass ⟨0, 0, 0, 0⟩)
abbrev s_is_name : Stmt := top 15
abbrev s_word_at : Stmt := top 26
abbrev s_read_pair : Stmt := top 27
abbrev s_read_at : Stmt := top 28
abbrev s_read_saying : Stmt := top 29
abbrev s__law_cell : Stmt := top 31
abbrev s__law_numbers : Stmt := top 32
abbrev s__law_words : Stmt := top 33
abbrev s__law_saying : Stmt := top 34
abbrev s__law_said : Stmt := top 35
abbrev s__law_true : Stmt := top 36
abbrev s__law_state : Stmt := top 37
abbrev s__law_is_name : Stmt := top 38
abbrev s__law_behind : Stmt := top 39
abbrev s__law_spoiled : Stmt := top 40
abbrev s__law_only : Stmt := top 41
abbrev s__law_refused : Stmt := top 42
abbrev s_law : Stmt := top 43
abbrev s_Saying__holds : Stmt := inCls 0 (top 18)
abbrev s_Saying__shown : Stmt := inCls 1 (top 18)
abbrev s_OfLand__holds : Stmt := inCls 1 (top 19)
abbrev s_OfLand__shown : Stmt := inCls 2 (top 19)
abbrev s_OfSheet__holds : Stmt := inCls 1 (top 20)
abbrev s_OfSheet__shown : Stmt := inCls 2 (top 20)
abbrev s_Everywhere__holds : Stmt := inCls 0 (top 21)
abbrev s_Everywhere__shown : Stmt := inCls 1 (top 21)
abbrev s_Not__holds : Stmt := inCls 1 (top 23)
abbrev s_Not__shown : Stmt := inCls 2 (top 23)
abbrev s_Both__holds : Stmt := inCls 1 (top 24)
abbrev s_Both__shown : Stmt := inCls 2 (top 24)
abbrev s_Either__holds : Stmt := inCls 1 (top 25)
abbrev s_Either__shown : Stmt := inCls 2 (top 25)
abbrev M_is_name : List Str := ["thing", "sign"]
abbrev M_word_at : List Str := ["words", "at"]
abbrev M_read_pair : List Str := ["words", "at", "one", "middle", "word", "other", "end"]
abbrev M_read_at : List Str := ["words", "at", "word", "inner", "end"]
abbrev M_read_saying : List Str := ["text", "words", "saying", "end"]
abbrev M__law_cell : List Str := ["_law_script", "_law_k", "_law_state_here", "_law_cell_here"]
abbrev M__law_numbers : List Str := ["_law_cell_here", "_law_many", "_law_found", "_law_state_here", "_law_digits", "_law_k"]
abbrev M__law_words : List Str := ["_law_cell_here", "_law_many", "_law_letters", "_law_found", "_law_x", "_law_word", "_law_k", "_law_other"]
abbrev M__law_saying : List Str := ["_law_state_here", "_law_room", "_law_x", "_law_way", "_law_leaf", "_law_first", "_law_one"]
abbrev M__law_said : List Str := ["_law_told"]
abbrev M__law_true : List Str := ["_law_told", "_law_lands", "_law_land"]
abbrev M__law_state : List Str := ["_law_cell_here", "_law_names", "_law_sheets", "_law_xs"]
abbrev M__law_is_name : List Str := ["_law_word", "_law_sign"]
abbrev M__law_behind : List Str := ["_law_words_here", "_law_at", "_law_middle", "_law_end"]
abbrev M__law_spoiled : List Str := ["_law_words_here", "_law_xs", "_law_names", "_law_odd", "_law_word", "_law_at", "_law_way", "_law_far", "_law_found"]
abbrev M__law_only : List Str := ["_law_e", "_law_others"]
abbrev M__law_refused : List Str := ["_law_thing", "_law_caught", "_law_told", "_law_e"]
abbrev M_law : List Str := ["_law_script", "_law_names", "_law_state_here", "_law_words_here", "_law_cell_here", "_law_text", "_law_due", "_law_thing"]
abbrev M_Saying__holds : List Str := ["self", "lands"]
abbrev M_Saying__shown : List Str := ["self"]
abbrev M_OfLand__holds : List Str := ["self", "lands", "land"]
abbrev M_OfLand__shown : List Str := ["self"]
abbrev M_OfSheet__holds : List Str := ["self", "lands", "land"]
abbrev M_OfSheet__shown : List Str := ["self"]
abbrev M_Everywhere__holds : List Str := ["self", "lands"]
abbrev M_Everywhere__shown : List Str := ["self"]
abbrev M_Not__holds : List Str := ["self", "lands"]
abbrev M_Not__shown : List Str := ["self"]
abbrev M_Both__holds : List Str := ["self", "lands"]
abbrev M_Both__shown : List Str := ["self"]
abbrev M_Either__holds : List Str := ["self", "lands"]
abbrev M_Either__shown : List Str := ["self"]
theorem sc_is_name : FnScope M_is_name ["thing"] (defScope s_is_name) := ⟨rfl, rfl, rfl, by decide +kernel, rfl, by decide +kernel, by decide +kernel⟩
theorem sc_word_at : FnScope M_word_at ["words", "at"] (defScope s_word_at) := ⟨rfl, rfl, rfl, by decide +kernel, rfl, by decide +kernel, by decide +kernel⟩
theorem sc_read_pair : FnScope M_read_pair ["words", "at"] (defScope s_read_pair) := ⟨rfl, rfl, rfl, by decide +kernel, rfl, by decide +kernel, by decide +kernel⟩
theorem sc_read_at : FnScope M_read_at ["words", "at"] (defScope s_read_at) := ⟨rfl, rfl, rfl, by decide +kernel, rfl, by decide +kernel, by decide +kernel⟩
theorem sc_read_saying : FnScope M_read_saying ["text"] (defScope s_read_saying) := ⟨rfl, rfl, rfl, by decide +kernel, rfl, by decide +kernel, by decide +kernel⟩
theorem sc__law_cell : FnScope M__law_cell ["_law_script", "_law_k"] (defScope s__law_cell) := ⟨rfl, rfl, rfl, by decide +kernel, rfl, by decide +kernel, by decide +kernel⟩
theorem sc__law_numbers : FnScope M__law_numbers ["_law_cell_here", "_law_many"] (defScope s__law_numbers) := ⟨rfl, rfl, rfl, by decide +kernel, rfl, by decide +kernel, by decide +kernel⟩
theorem sc__law_words : FnScope M__law_words ["_law_cell_here", "_law_many"] (defScope s__law_words) := ⟨rfl, rfl, rfl, by decide +kernel, rfl, by decide +kernel, by decide +kernel⟩
theorem sc__law_saying : FnScope M__law_saying ["_law_state_here", "_law_room"] (defScope s__law_saying) := ⟨rfl, rfl, rfl, by decide +kernel, rfl, by decide +kernel, by decide +kernel⟩
theorem sc__law_said : FnScope M__law_said ["_law_told"] (defScope s__law_said) := ⟨rfl, rfl, rfl, by decide +kernel, rfl, by decide +kernel, by decide +kernel⟩
theorem sc__law_true : FnScope M__law_true ["_law_told", "_law_lands"] (defScope s__law_true) := ⟨rfl, rfl, rfl, by decide +kernel, rfl, by decide +kernel, by decide +kernel⟩
theorem sc__law_state : FnScope M__law_state ["_law_cell_here", "_law_names", "_law_sheets"] (defScope s__law_state) := ⟨rfl, rfl, rfl, by decide +kernel, rfl, by decide +kernel, by decide +kernel⟩
theorem sc__law_is_name : FnScope M__law_is_name ["_law_word"] (defScope s__law_is_name) := ⟨rfl, rfl, rfl, by decide +kernel, rfl, by decide +kernel, by decide +kernel⟩
theorem sc__law_behind : FnScope M__law_behind ["_law_words_here", "_law_at"] (defScope s__law_behind) := ⟨rfl, rfl, rfl, by decide +kernel, rfl, by decide +kernel, by decide +kernel⟩
theorem sc__law_spoiled : FnScope M__law_spoiled ["_law_words_here", "_law_xs", "_law_names"] (defScope s__law_spoiled) := ⟨rfl, rfl, rfl, by decide +kernel, rfl, by decide +kernel, by decide +kernel⟩
theorem sc__law_only : FnScope M__law_only ["_law_e"] (defScope s__law_only) := ⟨rfl, rfl, rfl, by decide +kernel, rfl, by decide +kernel, by decide +kernel⟩
theorem sc__law_refused : FnScope M__law_refused ["_law_thing"] (defScope s__law_refused) := ⟨rfl, rfl, rfl, by decide +kernel, rfl, by decide +kernel, by decide +kernel⟩
theorem sc_law : FnScope M_law ["_law_script"] (defScope s_law) := ⟨rfl, rfl, rfl, by decide +kernel, rfl, by decide +kernel, by decide +kernel⟩
theorem sc_Saying__holds : FnScope M_Saying__holds ["self", "lands"] (defScope s_Saying__holds) := ⟨rfl, rfl, rfl, by decide +kernel, rfl, by decide +kernel, by decide +kernel⟩
theorem sc_Saying__shown : FnScope M_Saying__shown ["self"] (defScope s_Saying__shown) := ⟨rfl, rfl, rfl, by decide +kernel, rfl, by decide +kernel, by decide +kernel⟩
theorem sc_OfLand__holds : FnScope M_OfLand__holds ["self", "lands"] (defScope s_OfLand__holds) := ⟨rfl, rfl, rfl, by decide +kernel, rfl, by decide +kernel, by decide +kernel⟩
theorem sc_OfLand__shown : FnScope M_OfLand__shown ["self"] (defScope s_OfLand__shown) := ⟨rfl, rfl, rfl, by decide +kernel, rfl, by decide +kernel, by decide +kernel⟩
theorem sc_OfSheet__holds : FnScope M_OfSheet__holds ["self", "lands"] (defScope s_OfSheet__holds) := ⟨rfl, rfl, rfl, by decide +kernel, rfl, by decide +kernel, by decide +kernel⟩
theorem sc_OfSheet__shown : FnScope M_OfSheet__shown ["self"] (defScope s_OfSheet__shown) := ⟨rfl, rfl, rfl, by decide +kernel, rfl, by decide +kernel, by decide +kernel⟩
theorem sc_Everywhere__holds : FnScope M_Everywhere__holds ["self", "lands"] (defScope s_Everywhere__holds) := ⟨rfl, rfl, rfl, by decide +kernel, rfl, by decide +kernel, by decide +kernel⟩
theorem sc_Everywhere__shown : FnScope M_Everywhere__shown ["self"] (defScope s_Everywhere__shown) := ⟨rfl, rfl, rfl, by decide +kernel, rfl, by decide +kernel, by decide +kernel⟩
theorem sc_Not__holds : FnScope M_Not__holds ["self", "lands"] (defScope s_Not__holds) := ⟨rfl, rfl, rfl, by decide +kernel, rfl, by decide +kernel, by decide +kernel⟩
theorem sc_Not__shown : FnScope M_Not__shown ["self"] (defScope s_Not__shown) := ⟨rfl, rfl, rfl, by decide +kernel, rfl, by decide +kernel, by decide +kernel⟩
theorem sc_Both__holds : FnScope M_Both__holds ["self", "lands"] (defScope s_Both__holds) := ⟨rfl, rfl, rfl, by decide +kernel, rfl, by decide +kernel, by decide +kernel⟩
theorem sc_Both__shown : FnScope M_Both__shown ["self"] (defScope s_Both__shown) := ⟨rfl, rfl, rfl, by decide +kernel, rfl, by decide +kernel, by decide +kernel⟩
theorem sc_Either__holds : FnScope M_Either__holds ["self", "lands"] (defScope s_Either__holds) := ⟨rfl, rfl, rfl, by decide +kernel, rfl, by decide +kernel, by decide +kernel⟩
theorem sc_Either__shown : FnScope M_Either__shown ["self"] (defScope s_Either__shown) := ⟨rfl, rfl, rfl, by decide +kernel, rfl, by decide +kernel, by decide +kernel⟩
section
variable {P : Program} {w : World} {K : PySem.W.Frag} {mg : Str → Option Value} {base : Heap}
theorem der_is_name {f : Addr} {cdv : Value} {A : Around} {outer : List Env} {s : Shared} {H : Hp} {E : XK} (b_isinstance : mg "isinstance" = none) (b_str : mg "str" = none) (b_len : mg "len" = none) (b_all : mg "all" = none) (c_WORDS : Glo K mg "WORDS" cv_WORDS) (c_LETTERS : Glo K mg "LETTERS" cv_LETTERS) (hr : Room 0 (A.deeper (envOfC "is_name" (defScope s_is_name) s.heap.objs.size f cdv))) :
    GSs (cxOf (L2.CX P w) P w K mg base M_is_name "is_name" (defScope s_is_name) f cdv A outer s H E) (fun cls d _ H => E cls d H) (defBody s_is_name) d_is_name :=
  (s_cons (s_if (GW.t (w_or (t_not (t_val (g_isi b_isinstance b_str (by decide +kernel) ty_str (gv 0)))) (w_or (t_not (t_chain o_le o_le g_int (g_callB c_len b_len (by decide +kernel) (a_cons (gv 0) a_nil)) g_int)) (w_or1 (t_cmp (o_in hr) (gv 0) (g_glob c_WORDS)))))) (s_one (s_ret g_bl)) s_nil)
    (s_one (s_ret (g_callB (c_all rfl) b_all (by decide +kernel) (a_cons (GF.g (f_lc [("sign", 1)] rfl sc_is_name.nd (gi_seq (gv 0)) (blkOk_by (N := M_is_name) (sc := defScope s_is_name) (by decide +kernel)) (fun _ _ _ _ _ => pg_name (i := 1) sc_is_name.nd rfl (Or.inl rfl)) (sgc_name (i := 1) (by decide)) (fun _ _ _ _ _ => ts_nil) (fun _ _ _ _ _ => (g_cmp (o_in hr) (gv 1) (g_glob c_LETTERS))))) a_nil)))))
theorem der_word_at {f : Addr} {cdv : Value} {A : Around} {outer : List Env} {s : Shared} {H : Hp} {E : XK} (b_len : mg "len" = none) (hr : Room 0 (A.deeper (envOfC "word_at" (defScope s_word_at) s.heap.objs.size f cdv))) :
    GSs (cxOf (L2.CX P w) P w K mg base M_word_at "word_at" (defScope s_word_at) f cdv A outer s H E) (fun cls d _ H => E cls d H) (defBody s_word_at) d_word_at :=
  (s_cons (s_if (t_cmp o_lt (gv 1) (g_callB c_len b_len (by decide +kernel) (a_cons (gv 0) a_nil))) (s_one (s_ret (g_ix (gv 0) (gv 1)))) s_nil)
    (s_one (s_ret g_str)))
theorem der_read_pair {n : Nat} {f : Addr} {cdv : Value} {A : Around} {outer : List Env} {s : Shared} {H : Hp} {E : XK} (n_word_at : FN P w K mg base "word_at" 1 sp_word_at) (x_R_read_at : FN P w K mg base "read_at" (20 + 2 * n) (spr_read_at n)) (x_f_NoSaying : ExF K "NoSaying") (x_k_NoSaying : mg "NoSaying" = some (.ref (He.ga K "NoSaying"))) (x_K_Both : MkN P w K mg base "Both" ["one", "other"]) (x_K_Either : MkN P w K mg base "Either" ["one", "other"]) (hr : Room (20 + 2 * n) (A.deeper (envOfC "read_pair" (defScope s_read_pair) s.heap.objs.size f cdv))) :
    GSs (cxOf (L2.CX P w) P w K mg base M_read_pair "read_pair" (defScope s_read_pair) f cdv A outer s H E) (fun cls d _ H => E cls d H) (defBody s_read_pair) (d_read_pair n) :=
  (s_cons (s_asgX x_R_read_at (hr.mono (by omega)) (takes_of rfl rfl rfl rfl) (a_cons (gv 0) (a_cons (gv 1) a_nil)) (gg_tup (n := 2) rfl (ggs_cons (gg_name 2 sc_read_pair.nd) (ggs_cons (gg_name 3 sc_read_pair.nd) ggs_nil))))
    (s_cons (s_setP (i := 4) sc_read_pair.nd rfl (g_call n_word_at (hr.mono (by omega)) (a_cons (gv 0) (a_cons (gv 3) a_nil))))
    (s_cons (s_if (t_cmp (o_nin hr) (gv 4) (g_tup (a_cons g_str (a_cons g_str a_nil)))) (s_one (s_raise rfl (takes_of rfl rfl rfl rfl) x_f_NoSaying x_k_NoSaying)) s_nil)
    (s_cons (s_asgX x_R_read_at (hr.mono (by omega)) (takes_of rfl rfl rfl rfl) (a_cons (gv 0) (a_cons (g_op o_addU (gv 3) g_int) a_nil)) (gg_tup (n := 2) rfl (ggs_cons (gg_name 5 sc_read_pair.nd) (ggs_cons (gg_name 6 sc_read_pair.nd) ggs_nil))))
    (s_cons (s_if (t_cmp (o_ne hr) (g_call n_word_at (hr.mono (by omega)) (a_cons (gv 0) (a_cons (gv 6) a_nil))) g_str) (s_one (s_raise rfl (takes_of rfl rfl rfl rfl) x_f_NoSaying x_k_NoSaying)) s_nil)
    (s_cons (s_if (t_cmp (o_eq hr) (gv 4) g_str) (s_one (s_ret (g_tup (a_cons (g_make x_K_Both (hr.mono (by omega)) (a_cons (gv 2) (a_cons (gv 5) a_nil))) (a_cons (g_op o_addU (gv 6) g_int) a_nil))))) s_nil)
    (s_one (s_ret (g_tup (a_cons (g_make x_K_Either (hr.mono (by omega)) (a_cons (gv 2) (a_cons (gv 5) a_nil))) (a_cons (g_op o_addU (gv 6) g_int) a_nil)))))))))))
theorem der_read_at {n : Nat} {f : Addr} {cdv : Value} {A : Around} {outer : List Env} {s : Shared} {H : Hp} {E : XK} (n_word_at : FN P w K mg base "word_at" 1 sp_word_at) (n_is_name : FN P w K mg base "is_name" 1 sp_is_name) (x_K_Everywhere : MkN0 K mg "Everywhere") (x_K_Nowhere : MkN0 K mg "Nowhere") (x_R_read_at : FN P w K mg base "read_at" (20 + 2 * n) (spr_read_at n)) (x_K_Not : MkN P w K mg base "Not" ["inner"]) (x_R_read_pair : FN P w K mg base "read_pair" (21 + 2 * n) (spr_read_pair n)) (x_K_OfSheet : MkN P w K mg base "OfSheet" ["sheet"]) (x_f_NoSaying : ExF K "NoSaying") (x_k_NoSaying : mg "NoSaying" = some (.ref (He.ga K "NoSaying"))) (x_K_OfLand : MkN P w K mg base "OfLand" ["name"]) (hr : Room (21 + 2 * n) (A.deeper (envOfC "read_at" (defScope s_read_at) s.heap.objs.size f cdv))) :
    GSs (cxOf (L2.CX P w) P w K mg base M_read_at "read_at" (defScope s_read_at) f cdv A outer s H E) (fun cls d _ H => E cls d H) (defBody s_read_at) (d_read_at n) :=
  (s_cons (s_setP (i := 2) sc_read_at.nd rfl (g_call n_word_at (hr.mono (by omega)) (a_cons (gv 0) (a_cons (gv 1) a_nil))))
    (s_cons (s_if (t_cmp (o_eq hr) (gv 2) g_str) (s_one (s_ret (g_tup (a_cons (g_make0 x_K_Everywhere) (a_cons (g_op o_addU (gv 1) g_int) a_nil))))) s_nil)
    (s_cons (s_if (t_cmp (o_eq hr) (gv 2) g_str) (s_one (s_ret (g_tup (a_cons (g_make0 x_K_Nowhere) (a_cons (g_op o_addU (gv 1) g_int) a_nil))))) s_nil)
    (s_cons (s_if (t_cmp (o_eq hr) (gv 2) g_str) (s_cons (s_asgX x_R_read_at (hr.mono (by omega)) (takes_of rfl rfl rfl rfl) (a_cons (gv 0) (a_cons (g_op o_addU (gv 1) g_int) a_nil)) (gg_tup (n := 2) rfl (ggs_cons (gg_name 3 sc_read_at.nd) (ggs_cons (gg_name 4 sc_read_at.nd) ggs_nil))))
    (s_one (s_ret (g_tup (a_cons (g_make x_K_Not (hr.mono (by omega)) (a_cons (gv 3) a_nil)) (a_cons (gv 4) a_nil)))))) s_nil)
    (s_cons (s_if (t_cmp (o_eq hr) (gv 2) g_str) (s_one (s_retX x_R_read_pair (hr.mono (by omega)) (takes_of rfl rfl rfl rfl) (a_cons (gv 0) (a_cons (g_op o_addU (gv 1) g_int) a_nil)))) s_nil)
    (s_cons (s_if (GW.t (w_and (t_cmp (o_eq hr) (gv 2) g_str) (w_and1 (t_val (g_call n_is_name (hr.mono (by omega)) (a_cons (g_call n_word_at (hr.mono (by omega)) (a_cons (gv 0) (a_cons (g_op o_addU (gv 1) g_int) a_nil))) a_nil)))))) (s_one (s_ret (g_tup (a_cons (g_make x_K_OfSheet (hr.mono (by omega)) (a_cons (g_ix (gv 0) (g_op o_addU (gv 1) g_int)) a_nil)) (a_cons (g_op o_addU (gv 1) g_int) a_nil))))) s_nil)
    (s_cons (s_if (t_not (t_val (g_call n_is_name (hr.mono (by omega)) (a_cons (gv 2) a_nil)))) (s_one (s_raise rfl (takes_of rfl rfl rfl rfl) x_f_NoSaying x_k_NoSaying)) s_nil)
    (s_one (s_ret (g_tup (a_cons (g_make x_K_OfLand (hr.mono (by omega)) (a_cons (gv 2) a_nil)) (a_cons (g_op o_addU (gv 1) g_int) a_nil))))))))))))
theorem der_read_saying {f : Addr} {cdv : Value} {A : Around} {outer : List Env} {s : Shared} {H : Hp} {E : XK} (n_read_at : FN P w K mg base "read_at" 102 sp_read_at) (b_isinstance : mg "isinstance" = none) (b_str : mg "str" = none) (b_len : mg "len" = none) (c_MOST_WORDS : Glo K mg "MOST_WORDS" cv_MOST_WORDS) (x_f_NoSaying : ExF K "NoSaying") (x_k_NoSaying : mg "NoSaying" = some (.ref (He.ga K "NoSaying"))) (hr : Room 102 (A.deeper (envOfC "read_saying" (defScope s_read_saying) s.heap.objs.size f cdv))) :
    GSs (cxOf (L2.CX P w) P w K mg base M_read_saying "read_saying" (defScope s_read_saying) f cdv A outer s H E) (fun cls d _ H => E cls d H) (defBody s_read_saying) d_read_saying :=
  (s_cons (s_if (t_not (t_val (g_isi b_isinstance b_str (by decide +kernel) ty_str (gv 0)))) (s_one (s_raise rfl (takes_of rfl rfl rfl rfl) x_f_NoSaying x_k_NoSaying)) s_nil)
    (s_cons (s_setP (i := 1) sc_read_saying.nd rfl (g_split (gv 0) g_str))
    (s_cons (s_if (t_cmp o_gt (g_callB c_len b_len (by decide +kernel) (a_cons (gv 1) a_nil)) (g_glob c_MOST_WORDS)) (s_one (s_raise rfl (takes_of rfl rfl rfl rfl) x_f_NoSaying x_k_NoSaying)) s_nil)
    (s_cons (s_asgX n_read_at (hr.mono (by decide)) (takes_of rfl rfl rfl rfl) (a_cons (gv 1) (a_cons g_int a_nil)) (gg_tup (n := 2) rfl (ggs_cons (gg_name 2 sc_read_saying.nd) (ggs_cons (gg_name 3 sc_read_saying.nd) ggs_nil))))
    (s_cons (s_if (t_cmp o_lt (gv 3) (g_callB c_len b_len (by decide +kernel) (a_cons (gv 1) a_nil))) (s_one (s_raise rfl (takes_of rfl rfl rfl rfl) x_f_NoSaying x_k_NoSaying)) s_nil)
    (s_one (s_ret (gv 2))))))))
theorem der__law_cell {f : Addr} {cdv : Value} {A : Around} {outer : List Env} {s : Shared} {H : Hp} {E : XK} (b_len : mg "len" = none) (hr : Room 0 (A.deeper (envOfC "_law_cell" (defScope s__law_cell) s.heap.objs.size f cdv))) :
    GSs (cxOf (L2.CX P w) P w K mg base M__law_cell "_law_cell" (defScope s__law_cell) f cdv A outer s H E) (fun cls d _ H => E cls d H) (defBody s__law_cell) d__law_cell :=
  (s_cons (s_if (t_cmp o_lt (gv 1) (g_callB c_len b_len (by decide +kernel) (a_cons (gv 0) a_nil))) (s_one (s_ret (g_ix (gv 0) (gv 1)))) s_nil)
    (s_cons (s_setP (i := 2) sc__law_cell.nd rfl (g_op o_md (g_op o_mulU g_int (g_op o_addU (g_op o_addU (g_op o_mulU (gv 1) (gv 1)) (g_op o_mulU g_int (gv 1))) g_int)) g_int))
    (s_cons (s_for (passes_of rfl) rfl (gi_seq (g_slice (gv 0) go_none (go_some g_int))) (gg_name 3 sc__law_cell.nd) (s_one (s_setP (i := 2) sc__law_cell.nd rfl (g_op o_md (g_op o_addU (g_op o_mulU (gv 2) g_int) (gv 3)) g_int))))
    (s_one (s_ret (gv 2))))))
theorem der__law_numbers {f : Addr} {cdv : Value} {A : Around} {outer : List Env} {s : Shared} {H : Hp} {E : XK} (b_abs : mg "abs" = none) (b_range : mg "range" = none) (b_int : mg "int" = none) (hr : Room 0 (A.deeper (envOfC "_law_numbers" (defScope s__law_numbers) s.heap.objs.size f cdv))) :
    GSs (cxOf (L2.CX P w) P w K mg base M__law_numbers "_law_numbers" (defScope s__law_numbers) f cdv A outer s H E) (fun cls d _ H => E cls d H) (defBody s__law_numbers) d__law_numbers :=
  (s_cons (s_setF (i := 2) sc__law_numbers.nd rfl (f_lst a_nil))
    (s_cons (s_setP (i := 3) sc__law_numbers.nd rfl (g_op o_md (g_op o_mulU (g_op o_addU (g_op o_md (gv 0) g_int) g_int) g_int) g_int))
    (s_cons (s_setP (i := 4) sc__law_numbers.nd rfl g_int)
    (s_cons (s_if (GW.t (w_or (t_cmp o_lt (gv 0) g_int) (w_or1 (t_cmp o_ge (gv 0) (g_op o_pw g_int g_int))))) (s_one (s_setP (i := 4) sc__law_numbers.nd rfl (g_callB c_abs b_abs (by decide +kernel) (a_cons (gv 0) a_nil)))) s_nil)
    (s_cons (s_for (passes_of rfl) rfl (gi_rng1 b_range (a_cons (gv 1) a_nil)) (gg_name 5 sc__law_numbers.nd) (s_cons (s_setP (i := 3) sc__law_numbers.nd rfl (g_op o_md (g_op o_addU (g_op o_addU (g_op o_mulU (gv 3) (g_op o_addU (g_op o_md (gv 3) g_int) g_int)) (g_op o_mulU g_int (gv 5))) g_int) g_int))
    (s_cons (s_app (i := 2) (g_ix (g_lst (a_cons (gv 3) (a_cons (g_op o_md (gv 4) g_int) a_nil))) (g_callT c_intU b_int (by decide +kernel) (a_cons (g_cmp o_gt (gv 4) g_int) a_nil))))
    (s_one (s_setP (i := 4) sc__law_numbers.nd rfl (g_op o_fd (gv 4) g_int))))))
    (s_one (s_retO 2)))))))
theorem der__law_words {f : Addr} {cdv : Value} {A : Around} {outer : List Env} {s : Shared} {H : Hp} {E : XK} (n__law_numbers : FN P w K mg base "_law_numbers" 1 sp__law_numbers) (b_range : mg "range" = none) (hr : Room 1 (A.deeper (envOfC "_law_words" (defScope s__law_words) s.heap.objs.size f cdv))) :
    GSs (cxOf (L2.CX P w) P w K mg base M__law_words "_law_words" (defScope s__law_words) f cdv A outer s H E) (fun cls d _ H => E cls d H) (defBody s__law_words) d__law_words :=
  (s_cons (s_setP (i := 2) sc__law_words.nd rfl g_str)
    (s_cons (s_setF (i := 3) sc__law_words.nd rfl (f_lst a_nil))
    (s_cons (s_for (passes_of rfl) rfl (gi_seq (g_call n__law_numbers (hr.mono (by decide)) (a_cons (gv 0) (a_cons (gv 1) a_nil)))) (gg_name 4 sc__law_words.nd) (s_cons (s_setP (i := 5) sc__law_words.nd rfl g_str)
    (s_cons (s_for (passes_of rfl) rfl (gi_rng1 b_range (a_cons (g_ix (g_lst (a_cons g_int (a_cons g_int (a_cons g_int (a_cons g_int (a_cons g_int a_nil)))))) (g_op o_md (gv 4) g_int)) a_nil)) (gg_name 6 sc__law_words.nd) (s_cons (s_setP (i := 4) sc__law_words.nd rfl (g_op o_addU (g_op o_mulU (gv 4) g_int) g_int))
    (s_one (s_setP (i := 5) sc__law_words.nd rfl (g_op o_addU (gv 5) (g_ix (gv 2) (g_op o_md (g_op o_fd (gv 4) g_int) g_int)))))))
    (s_cons (s_if (GW.t (w_or (t_cmp (o_in hr) (gv 5) (gv 3)) (w_or1 (t_cmp (o_in hr) (gv 5) (g_lst (a_cons g_str (a_cons g_str (a_cons g_str (a_cons g_str (a_cons g_str (a_cons g_str a_nil))))))))))) (s_one (s_setS (i := 5) sc__law_words.nd rfl (g_ix (GF.g (f_lc [("_law_other", 7)] rfl sc__law_words.nd (gi_seq (g_lst (a_cons g_str (a_cons g_str (a_cons g_str (a_cons g_str (a_cons g_str (a_cons g_str (a_cons g_str a_nil))))))))) (blkOk_by (N := M__law_words) (sc := defScope s__law_words) (by decide +kernel)) (fun _ _ _ _ _ => pg_name (i := 7) sc__law_words.nd rfl (Or.inl rfl)) (sgc_name (i := 7) (by decide)) (fun _ _ _ _ _ => (ts_one (t_cmp (o_nin hr) (gv 7) (gv 3)))) (fun _ _ _ _ _ => (gv 7)))) g_int))) s_nil)
    (s_one (s_app (i := 3) (gv 5)))))))
    (s_one (s_retO 3)))))
theorem der__law_saying {n : Nat} {f : Addr} {cdv : Value} {A : Around} {outer : List Env} {s : Shared} {H : Hp} {E : XK} (b_len : mg "len" = none) (x_R__law_saying : FN P w K mg base "_law_saying" (10 + n) (spr__law_saying n)) (hr : Room (10 + n) (A.deeper (envOfC "_law_saying" (defScope s__law_saying) s.heap.objs.size f cdv))) :
    GSs (cxOf (L2.CX P w) P w K mg base M__law_saying "_law_saying" (defScope s__law_saying) f cdv A outer s H E) (fun cls d _ H => E cls d H) (defBody s__law_saying) (d__law_saying n) :=
  (s_popins (i := 0) (j := 2) hr sc__law_saying.nd rfl rfl (by decide) (g_op o_addU (g_op o_fd (gv 2) g_int) (g_op o_mulU g_int (gv 1)))
    (s_cons (s_setP (i := 3) sc__law_saying.nd rfl (g_op o_md (gv 2) g_int))
    (s_cons (s_if (GW.t (w_or (t_cmp o_lt (gv 1) g_int) (w_or1 (t_cmp o_lt (gv 3) g_int)))) (s_cons (s_setP (i := 4) sc__law_saying.nd rfl (g_op o_md (g_op o_fd (gv 2) g_int) g_int))
    (s_cons (s_if (t_cmp o_lt (gv 4) g_int) (s_one (s_ret (g_tup (a_cons g_str (a_cons (g_ix (g_key hr (gv 0)) (g_op o_md (g_op o_fd (gv 2) g_int) (g_callB c_len b_len (by decide +kernel) (a_cons (g_key hr (gv 0)) a_nil)))) a_nil))))) s_nil)
    (s_one (s_ret (g_tup (a_cons (g_ix (g_lst (a_cons g_str (a_cons g_str a_nil))) (g_op o_sub (gv 4) g_int)) a_nil)))))) s_nil)
    (s_cons (s_if (GW.t (w_or (t_cmp o_lt (gv 1) g_int) (w_or1 (t_cmp o_lt (gv 3) g_int)))) (s_cons (s_if (t_cmp (o_eq hr) (g_op o_md (gv 3) g_int) g_int) (s_one (s_ret (g_tup (a_cons g_str (a_cons (g_ix (g_key hr (gv 0)) (g_op o_md (g_op o_fd (gv 2) g_int) (g_callB c_len b_len (by decide +kernel) (a_cons (g_key hr (gv 0)) a_nil)))) a_nil))))) s_nil)
    (s_one (s_ret (g_tup (a_cons g_str (a_cons (g_call x_R__law_saying (hr.mono (by omega)) (a_cons (gv 0) (a_cons (g_op o_sub (gv 1) g_int) a_nil))) a_nil)))))) s_nil)
    (s_cons (s_setP (i := 5) sc__law_saying.nd rfl (g_op o_addU g_int (g_op o_md (g_op o_fd (gv 2) g_int) (g_op o_sub (gv 1) g_int))))
    (s_cons (s_setP (i := 6) sc__law_saying.nd rfl (g_call x_R__law_saying (hr.mono (by omega)) (a_cons (gv 0) (a_cons (gv 5) a_nil))))
    (s_one (s_ret (g_tup (a_cons (g_ix (g_lst (a_cons g_str (a_cons g_str a_nil))) (g_op o_md (g_op o_fd (gv 2) g_int) g_int)) (a_cons (gv 6) (a_cons (g_call x_R__law_saying (hr.mono (by omega)) (a_cons (gv 0) (a_cons (g_op o_sub (g_op o_sub (gv 1) g_int) (gv 5)) a_nil))) a_nil))))))))))))
theorem der__law_said {n : Nat} {f : Addr} {cdv : Value} {A : Around} {outer : List Env} {s : Shared} {H : Hp} {E : XK} (x_R__law_said : FN P w K mg base "_law_said" (10 + n) (spr__law_said n)) (hr : Room (10 + n) (A.deeper (envOfC "_law_said" (defScope s__law_said) s.heap.objs.size f cdv))) :
    GSs (cxOf (L2.CX P w) P w K mg base M__law_said "_law_said" (defScope s__law_said) f cdv A outer s H E) (fun cls d _ H => E cls d H) (defBody s__law_said) (d__law_said n) :=
  (s_cons (s_if (t_cmp (o_eq hr) (g_ix (gv 0) g_int) g_str) (s_one (s_ret (g_ix (gv 0) g_int))) s_nil)
    (s_cons (s_if (t_cmp (o_eq hr) (g_ix (gv 0) g_int) g_str) (s_one (s_ret (g_op o_addU g_str (g_ix (gv 0) g_int)))) s_nil)
    (s_cons (s_if (t_cmp (o_eq hr) (g_ix (gv 0) g_int) g_str) (s_one (s_ret (g_op o_addU g_str (g_call x_R__law_said (hr.mono (by omega)) (a_cons (g_ix (gv 0) g_int) a_nil))))) s_nil)
    (s_cons (s_if (t_cmp (o_in hr) (g_ix (gv 0) g_int) (g_tup (a_cons g_str (a_cons g_str a_nil)))) (s_one (s_ret (g_op o_addU (g_op o_addU (g_op o_addU (g_op o_addU (g_op o_addU (g_op o_addU g_str (g_call x_R__law_said (hr.mono (by omega)) (a_cons (g_ix (gv 0) g_int) a_nil))) g_str) (g_ix (gv 0) g_int)) g_str) (g_call x_R__law_said (hr.mono (by omega)) (a_cons (g_ix (gv 0) g_int) a_nil))) g_str))) s_nil)
    (s_one (s_ret (g_ix (gv 0) g_int)))))))
theorem der__law_true {n : Nat} {f : Addr} {cdv : Value} {A : Around} {outer : List Env} {s : Shared} {H : Hp} {E : XK} (x_R__law_true : FN P w K mg base "_law_true" (10 + n) (spr__law_true n)) (hr : Room (10 + n) (A.deeper (envOfC "_law_true" (defScope s__law_true) s.heap.objs.size f cdv))) :
    GSs (cxOf (L2.CX P w) P w K mg base M__law_true "_law_true" (defScope s__law_true) f cdv A outer s H E) (fun cls d _ H => E cls d H) (defBody s__law_true) (d__law_true n) :=
  (s_cons (s_if (t_cmp (o_eq hr) (g_ix (gv 0) g_int) g_str) (s_one (s_ret (g_cmp (o_in hr) (g_ix (gv 0) g_int) (GF.g (f_lc [("_law_land", 2)] rfl sc__law_true.nd (gi_seq (gv 1)) (blkOk_by (N := M__law_true) (sc := defScope s__law_true) (by decide +kernel)) (fun _ _ _ _ _ => pg_name (i := 2) sc__law_true.nd rfl (Or.inl rfl)) (sgc_name (i := 2) (by decide)) (fun _ _ _ _ _ => ts_nil) (fun _ _ _ _ _ => (g_ix (gv 2) g_int))))))) s_nil)
    (s_cons (s_if (t_cmp (o_eq hr) (g_ix (gv 0) g_int) g_str) (s_one (s_ret (g_cmp (o_in hr) (g_ix (gv 0) g_int) (GF.g (f_lc [("_law_land", 2)] rfl sc__law_true.nd (gi_seq (gv 1)) (blkOk_by (N := M__law_true) (sc := defScope s__law_true) (by decide +kernel)) (fun _ _ _ _ _ => pg_name (i := 2) sc__law_true.nd rfl (Or.inl rfl)) (sgc_name (i := 2) (by decide)) (fun _ _ _ _ _ => ts_nil) (fun _ _ _ _ _ => (g_ix (gv 2) g_int))))))) s_nil)
    (s_cons (s_if (t_cmp (o_eq hr) (g_ix (gv 0) g_int) g_str) (s_one (s_ret (g_not (g_call x_R__law_true (hr.mono (by omega)) (a_cons (g_ix (gv 0) g_int) (a_cons (gv 1) a_nil)))))) s_nil)
    (s_cons (s_if (t_cmp (o_eq hr) (g_ix (gv 0) g_int) g_str) (s_one (s_ret (g_and (g_call x_R__law_true (hr.mono (by omega)) (a_cons (g_ix (gv 0) g_int) (a_cons (gv 1) a_nil))) (g_one (g_call x_R__law_true (hr.mono (by omega)) (a_cons (g_ix (gv 0) g_int) (a_cons (gv 1) a_nil))))))) s_nil)
    (s_cons (s_if (t_cmp (o_eq hr) (g_ix (gv 0) g_int) g_str) (s_one (s_ret (g_or (g_call x_R__law_true (hr.mono (by omega)) (a_cons (g_ix (gv 0) g_int) (a_cons (gv 1) a_nil))) (g_one (g_call x_R__law_true (hr.mono (by omega)) (a_cons (g_ix (gv 0) g_int) (a_cons (gv 1) a_nil))))))) s_nil)
    (s_one (s_ret (g_cmp (o_eq hr) (g_ix (gv 0) g_int) g_str))))))))
theorem der__law_state {f : Addr} {cdv : Value} {A : Around} {outer : List Env} {s : Shared} {H : Hp} {E : XK} (n__law_numbers : FN P w K mg base "_law_numbers" 1 sp__law_numbers) (hr : Room 1 (A.deeper (envOfC "_law_state" (defScope s__law_state) s.heap.objs.size f cdv))) :
    GSs (cxOf (L2.CX P w) P w K mg base M__law_state "_law_state" (defScope s__law_state) f cdv A outer s H E) (fun cls d _ H => E cls d H) (defBody s__law_state) d__law_state :=
  (s_cons (s_setP (i := 3) sc__law_state.nd rfl (g_call n__law_numbers (hr.mono (by decide)) (a_cons (gv 0) (a_cons g_int a_nil))))
    (s_one (s_ret (g_state (f_slice (gv 3) (go_some g_int) go_none) (gv 1) (gv 2) (g_ix (g_lst (a_cons g_int (a_cons g_int (a_cons g_int (a_cons g_int a_nil))))) (g_op o_md (g_ix (gv 3) g_int) g_int))))))
theorem der__law_is_name {f : Addr} {cdv : Value} {A : Around} {outer : List Env} {s : Shared} {H : Hp} {E : XK} (b_len : mg "len" = none) (b_all : mg "all" = none) (hr : Room 0 (A.deeper (envOfC "_law_is_name" (defScope s__law_is_name) s.heap.objs.size f cdv))) :
    GSs (cxOf (L2.CX P w) P w K mg base M__law_is_name "_law_is_name" (defScope s__law_is_name) f cdv A outer s H E) (fun cls d _ H => E cls d H) (defBody s__law_is_name) d__law_is_name :=
  (s_cons (s_if (GW.t (w_or (t_not (t_chain o_lt o_lt g_int (g_callB c_len b_len (by decide +kernel) (a_cons (gv 0) a_nil)) g_int)) (w_or1 (t_cmp (o_in hr) (gv 0) (g_lst (a_cons g_str (a_cons g_str (a_cons g_str (a_cons g_str (a_cons g_str (a_cons g_str a_nil))))))))))) (s_one (s_ret g_bl)) s_nil)
    (s_one (s_ret (g_callB (c_all rfl) b_all (by decide +kernel) (a_cons (GF.g (f_lc [("_law_sign", 1)] rfl sc__law_is_name.nd (gi_seq (gv 0)) (blkOk_by (N := M__law_is_name) (sc := defScope s__law_is_name) (by decide +kernel)) (fun _ _ _ _ _ => pg_name (i := 1) sc__law_is_name.nd rfl (Or.inl rfl)) (sgc_name (i := 1) (by decide)) (fun _ _ _ _ _ => ts_nil) (fun _ _ _ _ _ => (g_cmp (o_in hr) (gv 1) g_str)))) a_nil)))))
theorem der__law_behind {n : Nat} {f : Addr} {cdv : Value} {A : Around} {outer : List Env} {s : Shared} {H : Hp} {E : XK} (n__law_is_name : FN P w K mg base "_law_is_name" 1 sp__law_is_name) (b_len : mg "len" = none) (x_R__law_behind : FN P w K mg base "_law_behind" (10 + n) (spr__law_behind n)) (hr : Room (10 + n) (A.deeper (envOfC "_law_behind" (defScope s__law_behind) s.heap.objs.size f cdv))) :
    GSs (cxOf (L2.CX P w) P w K mg base M__law_behind "_law_behind" (defScope s__law_behind) f cdv A outer s H E) (fun cls d _ H => E cls d H) (defBody s__law_behind) (d__law_behind n) :=
  (s_cons (s_if (t_cmp o_ge (gv 1) (g_callB c_len b_len (by decide +kernel) (a_cons (gv 0) a_nil))) (s_one (s_ret (g_neg g_int))) s_nil)
    (s_cons (s_if (GW.t (w_or (t_cmp (o_in hr) (g_ix (gv 0) (gv 1)) (g_tup (a_cons g_str (a_cons g_str a_nil)))) (w_or1 (t_val (g_call n__law_is_name (hr.mono (by omega)) (a_cons (g_ix (gv 0) (gv 1)) a_nil)))))) (s_one (s_ret (g_op o_addU (gv 1) g_int))) s_nil)
    (s_cons (s_if (t_cmp (o_eq hr) (g_ix (gv 0) (gv 1)) g_str) (s_one (s_ret (g_call x_R__law_behind (hr.mono (by omega)) (a_cons (gv 0) (a_cons (g_op o_addU (gv 1) g_int) a_nil))))) s_nil)
    (s_cons (s_if (GW.t (w_and (t_cmp (o_eq hr) (g_ix (gv 0) (gv 1)) g_str) (w_and (t_cmp o_lt (g_op o_addU (gv 1) g_int) (g_callB c_len b_len (by decide +kernel) (a_cons (gv 0) a_nil))) (w_and1 (t_val (g_call n__law_is_name (hr.mono (by omega)) (a_cons (g_ix (gv 0) (g_op o_addU (gv 1) g_int)) a_nil))))))) (s_one (s_ret (g_op o_addU (gv 1) g_int))) s_nil)
    (s_cons (s_if (t_cmp (o_ne hr) (g_ix (gv 0) (gv 1)) g_str) (s_one (s_ret (g_neg g_int))) s_nil)
    (s_cons (s_setP (i := 2) sc__law_behind.nd rfl (g_call x_R__law_behind (hr.mono (by omega)) (a_cons (gv 0) (a_cons (g_op o_addU (gv 1) g_int) a_nil))))
    (s_cons (s_if (GW.t (w_or (t_cmp o_lt (gv 2) g_int) (w_or (t_cmp o_ge (gv 2) (g_callB c_len b_len (by decide +kernel) (a_cons (gv 0) a_nil))) (w_or1 (t_cmp (o_nin hr) (g_ix (gv 0) (gv 2)) (g_tup (a_cons g_str (a_cons g_str a_nil)))))))) (s_one (s_ret (g_neg g_int))) s_nil)
    (s_cons (s_setP (i := 3) sc__law_behind.nd rfl (g_call x_R__law_behind (hr.mono (by omega)) (a_cons (gv 0) (a_cons (g_op o_addU (gv 2) g_int) a_nil))))
    (s_cons (s_if (GW.t (w_or (t_cmp o_lt (gv 3) g_int) (w_or (t_cmp o_ge (gv 3) (g_callB c_len b_len (by decide +kernel) (a_cons (gv 0) a_nil))) (w_or1 (t_cmp (o_ne hr) (g_ix (gv 0) (gv 3)) g_str))))) (s_one (s_ret (g_neg g_int))) s_nil)
    (s_one (s_ret (g_op o_addU (gv 3) g_int))))))))))))
theorem der__law_spoiled {f : Addr} {cdv : Value} {A : Around} {outer : List Env} {s : Shared} {H : Hp} {E : XK} (b_len : mg "len" = none) (b_list : mg "list" = none) (hr : Room 0 (A.deeper (envOfC "_law_spoiled" (defScope s__law_spoiled) s.heap.objs.size f cdv))) :
    GSs (cxOf (L2.CX P w) P w K mg base M__law_spoiled "_law_spoiled" (defScope s__law_spoiled) f cdv A outer s H E) (fun cls d _ H => E cls d H) (defBody s__law_spoiled) d__law_spoiled :=
  (s_cons (s_setP (i := 3) sc__law_spoiled.nd rfl (g_lst (a_cons g_str (a_cons g_str (a_cons g_str (a_cons g_str (a_cons g_str (a_cons g_str (a_cons g_str (a_cons g_str (a_cons g_str (a_cons g_str (a_cons g_str (a_cons g_str (a_cons g_str (a_cons g_str (a_cons g_str (a_cons g_str a_nil))))))))))))))))))
    (s_cons (s_setP (i := 4) sc__law_spoiled.nd rfl (g_ix (g_op o_addU (gv 3) (g_slice (gv 2) go_none (go_some g_int))) (g_op o_md (g_ix (gv 1) g_int) g_int)))
    (s_cons (s_setP (i := 5) sc__law_spoiled.nd rfl (g_op o_md (g_ix (gv 1) g_int) (g_op o_addU (g_callB c_len b_len (by decide +kernel) (a_cons (gv 0) a_nil)) g_int)))
    (s_cons (s_setP (i := 6) sc__law_spoiled.nd rfl (g_op o_md (g_ix (gv 1) g_int) g_int))
    (s_cons (s_if (t_cmp o_lt (gv 6) g_int) (s_one (s_ret (g_op o_addU (g_op o_addU (g_slice (gv 0) go_none (go_some (gv 5))) (g_lst (a_cons (gv 4) a_nil))) (g_slice (gv 0) (go_some (gv 5)) go_none)))) s_nil)
    (s_cons (s_if (t_cmp o_lt (gv 6) g_int) (s_one (s_ret (g_op o_addU (g_slice (gv 0) go_none (go_some (gv 5))) (g_slice (gv 0) (go_some (g_op o_addU (gv 5) g_int)) go_none)))) s_nil)
    (s_cons (s_if (t_cmp o_lt (gv 6) g_int) (s_one (s_ret (g_op o_addU (g_op o_addU (g_slice (gv 0) go_none (go_some (gv 5))) (g_lst (a_cons (gv 4) a_nil))) (g_slice (gv 0) (go_some (g_op o_addU (gv 5) g_int)) go_none)))) s_nil)
    (s_cons (s_if (t_cmp (o_eq hr) (gv 6) g_int) (s_one (s_ret (g_ix (g_lst (a_cons (g_slice (gv 0) go_none (go_some (gv 5))) (a_cons (g_slice (gv 0) (go_some (gv 5)) go_none) a_nil))) (g_op o_md (g_ix (gv 1) g_int) g_int)))) s_nil)
    (s_cons (s_if (t_cmp (o_eq hr) (gv 6) g_int) (s_one (s_ret (g_op o_addU (g_op o_repL (g_lst (a_cons g_str a_nil)) (g_op o_addU g_int (g_op o_md (g_ix (gv 1) g_int) g_int))) (g_lst (a_cons (g_ix (gv 2) g_int) a_nil))))) s_nil)
    (s_cons (s_if (GW.t (w_and (t_cmp (o_eq hr) (gv 6) g_int) (w_and1 (t_cmp o_gt (g_callB c_len b_len (by decide +kernel) (a_cons (gv 0) a_nil)) g_int)))) (s_cons (s_setP (i := 7) sc__law_spoiled.nd rfl (g_op o_md (g_ix (gv 1) g_int) (g_callB c_len b_len (by decide +kernel) (a_cons (gv 0) a_nil))))
    (s_cons (s_setF (i := 8) sc__law_spoiled.nd rfl (f_list b_list (by decide +kernel) (a_cons (gv 0) a_nil)))
    (s_cons (s_setAt (i := 8) (gv 7) (g_ix (gv 0) (g_op o_sub (gv 5) g_int)))
    (s_cons (s_setAt (i := 8) (g_op o_sub (gv 5) g_int) (g_ix (gv 0) (gv 7)))
    (s_one (s_retO 8)))))) s_nil)
    (s_one (s_ret (gv 0)))))))))))))
theorem der__law_only {f : Addr} {cdv : Value} {A : Around} {outer : List Env} {s : Shared} {H : Hp} {E : XK} (b_isinstance : mg "isinstance" = none) (b_ValueError : mg "ValueError" = none) (x_i_NoFace : IsT K tb_NoFace [.own "NoFace"]) (x_k_NoFace : mg "NoFace" = some (.ref (He.ga K "NoFace"))) (x_i_NoDeskRow : IsT K tb_NoDeskRow [.own "NoDeskRow"]) (x_k_NoDeskRow : mg "NoDeskRow" = some (.ref (He.ga K "NoDeskRow"))) (x_i_NoDeed : IsT K tb_NoDeed [.own "NoDeed"]) (x_k_NoDeed : mg "NoDeed" = some (.ref (He.ga K "NoDeed"))) (x_i_NoAtlas : IsT K tb_NoAtlas [.own "NoAtlas"]) (x_k_NoAtlas : mg "NoAtlas" = some (.ref (He.ga K "NoAtlas"))) (x_i_NoText : IsT K tb_NoText [.own "NoText"]) (x_k_NoText : mg "NoText" = some (.ref (He.ga K "NoText"))) (x_i_NoRow : IsT K tb_NoRow [.own "NoRow"]) (x_k_NoRow : mg "NoRow" = some (.ref (He.ga K "NoRow"))) (x_i_NoNumber : IsT K tb_NoNumber [.own "NoNumber"]) (x_k_NoNumber : mg "NoNumber" = some (.ref (He.ga K "NoNumber"))) (x_i_NoLand : IsT K tb_NoLand [.own "NoLand"]) (x_k_NoLand : mg "NoLand" = some (.ref (He.ga K "NoLand"))) (x_i_NoSaying : IsT K tb_NoSaying [.own "NoSaying"]) (x_k_NoSaying : mg "NoSaying" = some (.ref (He.ga K "NoSaying"))) (x_i_ValueError : IsT K tb_ValueError [.ty "ValueError"]) (x_i_OnSide : IsT K tb_OnSide [.own "OnSide"]) (x_k_OnSide : mg "OnSide" = some (.ref (He.ga K "OnSide"))) (hr : Room 0 (A.deeper (envOfC "_law_only" (defScope s__law_only) s.heap.objs.size f cdv))) :
    GSs (cxOf (L2.CX P w) P w K mg base M__law_only "_law_only" (defScope s__law_only) f cdv A outer s H E) (fun cls d _ H => E cls d H) (defBody s__law_only) d__law_only :=
  (s_cons (s_setP (i := 1) sc__law_only.nd rfl (g_lst (a_cons (g_isX (i := 0) b_isinstance x_k_NoAtlas x_i_NoAtlas) (a_cons (g_isX (i := 0) b_isinstance x_k_NoDeed x_i_NoDeed) (a_cons (g_isX (i := 0) b_isinstance x_k_NoDeskRow x_i_NoDeskRow) (a_cons (g_isX (i := 0) b_isinstance x_k_NoFace x_i_NoFace) a_nil))))))
    (s_cons (s_setP (i := 1) sc__law_only.nd rfl (g_op o_addU (gv 1) (g_lst (a_cons (g_isX (i := 0) b_isinstance x_k_NoLand x_i_NoLand) (a_cons (g_isX (i := 0) b_isinstance x_k_NoNumber x_i_NoNumber) (a_cons (g_isX (i := 0) b_isinstance x_k_NoRow x_i_NoRow) (a_cons (g_isX (i := 0) b_isinstance x_k_NoText x_i_NoText) a_nil)))))))
    (s_one (s_ret (g_and (g_isX (i := 0) b_isinstance x_k_NoSaying x_i_NoSaying) (g_and (g_isXB (i := 0) b_isinstance b_ValueError (by decide +kernel) x_i_ValueError) (g_and (g_not (g_isX (i := 0) b_isinstance x_k_OnSide x_i_OnSide)) (g_one (g_cmp (o_nin hr) g_bl (gv 1))))))))))
theorem der__law_refused {f : Addr} {cdv : Value} {A : Around} {outer : List Env} {s : Shared} {H : Hp} {E : XK} (n_read_saying : FN P w K mg base "read_saying" 103 sp_read_saying) (x_M_shown : MN P w K mg base "shown" (51) CS sp_shown) (x_t_SheetError : TryT K tb_SheetError "SheetError") (x_k_SheetError : mg "SheetError" = some (.ref (He.ga K "SheetError"))) (x_A__law_only : FNA P w K mg base "_law_only" 1 sp__law_only) (hr : Room 103 (A.deeper (envOfC "_law_refused" (defScope s__law_refused) s.heap.objs.size f cdv))) :
    GSs (cxOf (L2.CX P w) P w K mg base M__law_refused "_law_refused" (defScope s__law_refused) f cdv A outer s H E) (fun cls d _ H => E cls d H) (defBody s__law_refused) d__law_refused :=
  (s_cons (s_setP (i := 1) sc__law_refused.nd rfl g_non)
    (s_cons (s_setP (i := 2) sc__law_refused.nd rfl g_non)
    (s_cons (s_try (i := 3) rfl rfl rfl sc__law_refused.nd rfl rfl (takes_of rfl rfl rfl rfl) x_k_SheetError x_t_SheetError (fun W2 pn xe tk => (s_one (s_setZ (i := 2) sc__law_refused.nd rfl (z_meth0 x_M_shown (hr.mono (by decide)) (z_call n_read_saying (hr.mono (by decide)) (Takes.lets tk) (zs_cons (z_of (gv 0)) zs_nil)))))) (fun a pn => (s_one (s_cpy (i := 1) (j := 3) sc__law_refused.nd rfl))))
    (s_cons (s_if (t_isNA (i := 1)) (s_one (s_ret (g_tup (a_cons g_str (a_cons (gv 2) a_nil))))) s_nil)
    (s_one (s_ret (g_tup (a_cons g_str (a_cons (g_callA (i := 1) x_A__law_only (hr.mono (by decide))) a_nil)))))))))
theorem der_law {f : Addr} {cdv : Value} {A : Around} {outer : List Env} {s : Shared} {H : Hp} {E : XK} (n__law_words : FN P w K mg base "_law_words" 2 sp__law_words) (n__law_cell : FN P w K mg base "_law_cell" 1 sp__law_cell) (n__law_state : FN P w K mg base "_law_state" 2 sp__law_state) (n__law_said : FN P w K mg base "_law_said" 51 sp__law_said) (n__law_saying : FN P w K mg base "_law_saying" 51 sp__law_saying) (n__law_spoiled : FN P w K mg base "_law_spoiled" 1 sp__law_spoiled) (n__law_numbers : FN P w K mg base "_law_numbers" 1 sp__law_numbers) (n__law_behind : FN P w K mg base "_law_behind" 51 sp__law_behind) (n__law_refused : FN P w K mg base "_law_refused" 104 sp__law_refused) (b_len : mg "len" = none) (hr : Room 104 (A.deeper (envOfC "law" (defScope s_law) s.heap.objs.size f cdv))) :
    GSs (cxOf (L2.CX P w) P w K mg base M_law "law" (defScope s_law) f cdv A outer s H E) (fun cls d _ H => E cls d H) (defBody s_law) d_law :=
  (s_cons (s_setP (i := 1) sc_law.nd rfl (g_call n__law_words (hr.mono (by decide)) (a_cons (g_call n__law_cell (hr.mono (by decide)) (a_cons (gv 0) (a_cons g_int a_nil))) (a_cons g_int a_nil))))
    (s_cons (s_setP (i := 2) sc_law.nd rfl (g_call n__law_state (hr.mono (by decide)) (a_cons (g_call n__law_cell (hr.mono (by decide)) (a_cons (gv 0) (a_cons g_int a_nil))) (a_cons (gv 1) (a_cons (g_call n__law_words (hr.mono (by decide)) (a_cons (g_call n__law_cell (hr.mono (by decide)) (a_cons (gv 0) (a_cons g_int a_nil))) (a_cons g_int a_nil))) a_nil)))))
    (s_cons (s_setP (i := 3) sc_law.nd rfl (g_split (g_call n__law_said (hr.mono (by decide)) (a_cons (g_call n__law_saying (hr.mono (by decide)) (a_cons (gv 2) (a_cons (g_key hr (gv 2)) a_nil))) a_nil)) g_str))
    (s_cons (s_for (passes_of rfl) rfl (gi_seq (g_op o_addU (g_lst (a_cons (g_call n__law_cell (hr.mono (by decide)) (a_cons (gv 0) (a_cons g_int a_nil))) a_nil)) (g_slice (gv 0) (go_some g_int) (go_some g_int)))) (gg_name 4 sc_law.nd) (s_cons (s_setP (i := 5) sc_law.nd rfl (g_join g_str (g_call n__law_spoiled (hr.mono (by decide)) (a_cons (gv 3) (a_cons (g_call n__law_numbers (hr.mono (by decide)) (a_cons (gv 4) (a_cons g_int a_nil))) (a_cons (gv 1) a_nil))))))
    (s_cons (s_setP (i := 6) sc_law.nd rfl (g_tup (a_cons g_str (a_cons g_bl a_nil))))
    (s_cons (s_if (GW.t (w_and (t_cmp o_lt (g_callB c_len b_len (by decide +kernel) (a_cons (g_split (gv 5) g_str) a_nil)) g_int) (w_and1 (t_cmp (o_eq hr) (g_call n__law_behind (hr.mono (by decide)) (a_cons (g_split (gv 5) g_str) (a_cons g_int a_nil))) (g_callB c_len b_len (by decide +kernel) (a_cons (g_split (gv 5) g_str) a_nil)))))) (s_one (s_setP (i := 6) sc_law.nd rfl (g_tup (a_cons g_str (a_cons (gv 5) a_nil))))) s_nil)
    (s_one (s_if (t_cmp (o_ne hr) (g_call n__law_refused (hr.mono (by decide)) (a_cons (gv 5) a_nil)) (gv 6)) (s_one (s_ret g_bl)) s_nil))))))
    (s_cons (s_setP (i := 7) sc_law.nd rfl (g_ix (g_lst (a_cons g_non (a_cons g_int (a_cons (g_lst (a_cons g_str a_nil)) (a_cons g_bl (a_cons (g_tup (a_cons g_str a_nil)) (a_cons g_int a_nil))))))) (g_op o_md (g_call n__law_cell (hr.mono (by decide)) (a_cons (gv 0) (a_cons g_int a_nil))) g_int)))
    (s_one (s_ret (g_and (g_cmp (o_eq hr) (g_call n__law_refused (hr.mono (by decide)) (a_cons (gv 7) a_nil)) (g_tup (a_cons g_str (a_cons g_bl a_nil)))) (g_one (g_cmp (o_eq hr) (g_call n__law_refused (hr.mono (by decide)) (a_cons (g_join g_str (gv 3)) a_nil)) (g_tup (a_cons g_str (a_cons (g_join g_str (gv 3)) a_nil)))))))))))))
theorem der_Saying__holds {n : Nat} {f : Addr} {cdv : Value} {A : Around} {outer : List Env} {s : Shared} {H : Hp} {E : XK}  (hr : Room (10 + n) (A.deeper (envOfC "Saying.holds" (defScope s_Saying__holds) s.heap.objs.size f cdv))) :
    GSs (cxOf (L2.CX P w) P w K mg base M_Saying__holds "Saying.holds" (defScope s_Saying__holds) f cdv A outer s H E) (fun cls d _ H => E cls d H) (defBody s_Saying__holds) (d_Saying__holds n) :=
  (s_one (s_ret g_bl))
theorem der_Saying__shown {n : Nat} {f : Addr} {cdv : Value} {A : Around} {outer : List Env} {s : Shared} {H : Hp} {E : XK}  (hr : Room (10 + n) (A.deeper (envOfC "Saying.shown" (defScope s_Saying__shown) s.heap.objs.size f cdv))) :
    GSs (cxOf (L2.CX P w) P w K mg base M_Saying__shown "Saying.shown" (defScope s_Saying__shown) f cdv A outer s H E) (fun cls d _ H => E cls d H) (defBody s_Saying__shown) (d_Saying__shown n) :=
  (s_one (s_ret g_str))
theorem der_OfLand__holds {n : Nat} {f : Addr} {cdv : Value} {A : Around} {outer : List Env} {s : Shared} {H : Hp} {E : XK} (x_F_OfLand_name : InsF K ["OfLand"] "name") (hr : Room (10 + n) (A.deeper (envOfC "OfLand.holds" (defScope s_OfLand__holds) s.heap.objs.size f cdv))) :
    GSs (cxOf (L2.CX P w) P w K mg base M_OfLand__holds "OfLand.holds" (defScope s_OfLand__holds) f cdv A outer s H E) (fun cls d _ H => E cls d H) (defBody s_OfLand__holds) (d_OfLand__holds n) :=
  (s_one (s_ret (g_cmp (o_in hr) (g_rfld x_F_OfLand_name (g_rvar 0)) (GF.g (f_lc [("land", 2)] rfl sc_OfLand__holds.nd (gi_seq (gv 1)) (blkOk_by (N := M_OfLand__holds) (sc := defScope s_OfLand__holds) (by decide +kernel)) (fun _ _ _ _ _ => pg_name (i := 2) sc_OfLand__holds.nd rfl (Or.inl rfl)) (sgc_name (i := 2) (by decide)) (fun _ _ _ _ _ => ts_nil) (fun _ _ _ _ _ => (g_ix (gv 2) g_int)))))))
theorem der_OfLand__shown {n : Nat} {f : Addr} {cdv : Value} {A : Around} {outer : List Env} {s : Shared} {H : Hp} {E : XK} (x_F_OfLand_name : InsF K ["OfLand"] "name") (hr : Room (10 + n) (A.deeper (envOfC "OfLand.shown" (defScope s_OfLand__shown) s.heap.objs.size f cdv))) :
    GSs (cxOf (L2.CX P w) P w K mg base M_OfLand__shown "OfLand.shown" (defScope s_OfLand__shown) f cdv A outer s H E) (fun cls d _ H => E cls d H) (defBody s_OfLand__shown) (d_OfLand__shown n) :=
  (s_one (s_ret (g_rfld x_F_OfLand_name (g_rvar 0))))
theorem der_OfSheet__holds {n : Nat} {f : Addr} {cdv : Value} {A : Around} {outer : List Env} {s : Shared} {H : Hp} {E : XK} (x_F_OfSheet_sheet : InsF K ["OfSheet"] "sheet") (hr : Room (10 + n) (A.deeper (envOfC "OfSheet.holds" (defScope s_OfSheet__holds) s.heap.objs.size f cdv))) :
    GSs (cxOf (L2.CX P w) P w K mg base M_OfSheet__holds "OfSheet.holds" (defScope s_OfSheet__holds) f cdv A outer s H E) (fun cls d _ H => E cls d H) (defBody s_OfSheet__holds) (d_OfSheet__holds n) :=
  (s_one (s_ret (g_cmp (o_in hr) (g_rfld x_F_OfSheet_sheet (g_rvar 0)) (GF.g (f_lc [("land", 2)] rfl sc_OfSheet__holds.nd (gi_seq (gv 1)) (blkOk_by (N := M_OfSheet__holds) (sc := defScope s_OfSheet__holds) (by decide +kernel)) (fun _ _ _ _ _ => pg_name (i := 2) sc_OfSheet__holds.nd rfl (Or.inl rfl)) (sgc_name (i := 2) (by decide)) (fun _ _ _ _ _ => ts_nil) (fun _ _ _ _ _ => (g_ix (gv 2) g_int)))))))
theorem der_OfSheet__shown {n : Nat} {f : Addr} {cdv : Value} {A : Around} {outer : List Env} {s : Shared} {H : Hp} {E : XK} (x_F_OfSheet_sheet : InsF K ["OfSheet"] "sheet") (hr : Room (10 + n) (A.deeper (envOfC "OfSheet.shown" (defScope s_OfSheet__shown) s.heap.objs.size f cdv))) :
    GSs (cxOf (L2.CX P w) P w K mg base M_OfSheet__shown "OfSheet.shown" (defScope s_OfSheet__shown) f cdv A outer s H E) (fun cls d _ H => E cls d H) (defBody s_OfSheet__shown) (d_OfSheet__shown n) :=
  (s_one (s_ret (g_op o_addU g_str (g_rfld x_F_OfSheet_sheet (g_rvar 0)))))
theorem der_Everywhere__holds {n : Nat} {f : Addr} {cdv : Value} {A : Around} {outer : List Env} {s : Shared} {H : Hp} {E : XK}  (hr : Room (10 + n) (A.deeper (envOfC "Everywhere.holds" (defScope s_Everywhere__holds) s.heap.objs.size f cdv))) :
    GSs (cxOf (L2.CX P w) P w K mg base M_Everywhere__holds "Everywhere.holds" (defScope s_Everywhere__holds) f cdv A outer s H E) (fun cls d _ H => E cls d H) (defBody s_Everywhere__holds) (d_Everywhere__holds n) :=
  (s_one (s_ret g_bl))
theorem der_Everywhere__shown {n : Nat} {f : Addr} {cdv : Value} {A : Around} {outer : List Env} {s : Shared} {H : Hp} {E : XK}  (hr : Room (10 + n) (A.deeper (envOfC "Everywhere.shown" (defScope s_Everywhere__shown) s.heap.objs.size f cdv))) :
    GSs (cxOf (L2.CX P w) P w K mg base M_Everywhere__shown "Everywhere.shown" (defScope s_Everywhere__shown) f cdv A outer s H E) (fun cls d _ H => E cls d H) (defBody s_Everywhere__shown) (d_Everywhere__shown n) :=
  (s_one (s_ret g_str))
theorem der_Not__holds {n : Nat} {f : Addr} {cdv : Value} {A : Around} {outer : List Env} {s : Shared} {H : Hp} {E : XK} (x_F_Not_inner : InsF K ["Not"] "inner") (x_M_holds : MN P w K mg base "holds" (10 + n) CS (spr_holds n)) (hr : Room (10 + n) (A.deeper (envOfC "Not.holds" (defScope s_Not__holds) s.heap.objs.size f cdv))) :
    GSs (cxOf (L2.CX P w) P w K mg base M_Not__holds "Not.holds" (defScope s_Not__holds) f cdv A outer s H E) (fun cls d _ H => E cls d H) (defBody s_Not__holds) (d_Not__holds n) :=
  (s_one (s_ret (g_not (g_meth x_M_holds (hr.mono (by omega)) (g_rfld x_F_Not_inner (g_rvar 0)) (a_cons (gv 1) a_nil)))))
theorem der_Not__shown {n : Nat} {f : Addr} {cdv : Value} {A : Around} {outer : List Env} {s : Shared} {H : Hp} {E : XK} (x_F_Not_inner : InsF K ["Not"] "inner") (x_M_shown : MN P w K mg base "shown" (10 + n) CS (spr_shown n)) (hr : Room (10 + n) (A.deeper (envOfC "Not.shown" (defScope s_Not__shown) s.heap.objs.size f cdv))) :
    GSs (cxOf (L2.CX P w) P w K mg base M_Not__shown "Not.shown" (defScope s_Not__shown) f cdv A outer s H E) (fun cls d _ H => E cls d H) (defBody s_Not__shown) (d_Not__shown n) :=
  (s_one (s_ret (g_op o_addU g_str (g_meth0 x_M_shown (hr.mono (by omega)) (g_rfld x_F_Not_inner (g_rvar 0))))))
theorem der_Both__holds {n : Nat} {f : Addr} {cdv : Value} {A : Around} {outer : List Env} {s : Shared} {H : Hp} {E : XK} (x_F_Both_one : InsF K ["Both"] "one") (x_M_holds : MN P w K mg base "holds" (10 + n) CS (spr_holds n)) (x_F_Both_other : InsF K ["Both"] "other") (hr : Room (10 + n) (A.deeper (envOfC "Both.holds" (defScope s_Both__holds) s.heap.objs.size f cdv))) :
    GSs (cxOf (L2.CX P w) P w K mg base M_Both__holds "Both.holds" (defScope s_Both__holds) f cdv A outer s H E) (fun cls d _ H => E cls d H) (defBody s_Both__holds) (d_Both__holds n) :=
  (s_one (s_ret (g_and (g_meth x_M_holds (hr.mono (by omega)) (g_rfld x_F_Both_one (g_rvar 0)) (a_cons (gv 1) a_nil)) (g_one (g_meth x_M_holds (hr.mono (by omega)) (g_rfld x_F_Both_other (g_rvar 0)) (a_cons (gv 1) a_nil))))))
theorem der_Both__shown {n : Nat} {f : Addr} {cdv : Value} {A : Around} {outer : List Env} {s : Shared} {H : Hp} {E : XK} (x_F_Both_one : InsF K ["Both"] "one") (x_M_shown : MN P w K mg base "shown" (10 + n) CS (spr_shown n)) (x_F_Both_other : InsF K ["Both"] "other") (hr : Room (10 + n) (A.deeper (envOfC "Both.shown" (defScope s_Both__shown) s.heap.objs.size f cdv))) :
    GSs (cxOf (L2.CX P w) P w K mg base M_Both__shown "Both.shown" (defScope s_Both__shown) f cdv A outer s H E) (fun cls d _ H => E cls d H) (defBody s_Both__shown) (d_Both__shown n) :=
  (s_one (s_ret (g_op o_addU (g_op o_addU (g_op o_addU (g_op o_addU g_str (g_meth0 x_M_shown (hr.mono (by omega)) (g_rfld x_F_Both_one (g_rvar 0)))) g_str) (g_meth0 x_M_shown (hr.mono (by omega)) (g_rfld x_F_Both_other (g_rvar 0)))) g_str)))
theorem der_Either__holds {n : Nat} {f : Addr} {cdv : Value} {A : Around} {outer : List Env} {s : Shared} {H : Hp} {E : XK} (x_F_Either_one : InsF K ["Either"] "one") (x_M_holds : MN P w K mg base "holds" (10 + n) CS (spr_holds n)) (x_F_Either_other : InsF K ["Either"] "other") (hr : Room (10 + n) (A.deeper (envOfC "Either.holds" (defScope s_Either__holds) s.heap.objs.size f cdv))) :
    GSs (cxOf (L2.CX P w) P w K mg base M_Either__holds "Either.holds" (defScope s_Either__holds) f cdv A outer s H E) (fun cls d _ H => E cls d H) (defBody s_Either__holds) (d_Either__holds n) :=
  (s_one (s_ret (g_or (g_meth x_M_holds (hr.mono (by omega)) (g_rfld x_F_Either_one (g_rvar 0)) (a_cons (gv 1) a_nil)) (g_one (g_meth x_M_holds (hr.mono (by omega)) (g_rfld x_F_Either_other (g_rvar 0)) (a_cons (gv 1) a_nil))))))
theorem der_Either__shown {n : Nat} {f : Addr} {cdv : Value} {A : Around} {outer : List Env} {s : Shared} {H : Hp} {E : XK} (x_F_Either_one : InsF K ["Either"] "one") (x_M_shown : MN P w K mg base "shown" (10 + n) CS (spr_shown n)) (x_F_Either_other : InsF K ["Either"] "other") (hr : Room (10 + n) (A.deeper (envOfC "Either.shown" (defScope s_Either__shown) s.heap.objs.size f cdv))) :
    GSs (cxOf (L2.CX P w) P w K mg base M_Either__shown "Either.shown" (defScope s_Either__shown) f cdv A outer s H E) (fun cls d _ H => E cls d H) (defBody s_Either__shown) (d_Either__shown n) :=
  (s_one (s_ret (g_op o_addU (g_op o_addU (g_op o_addU (g_op o_addU g_str (g_meth0 x_M_shown (hr.mono (by omega)) (g_rfld x_F_Either_one (g_rvar 0)))) g_str) (g_meth0 x_M_shown (hr.mono (by omega)) (g_rfld x_F_Either_other (g_rvar 0)))) g_str)))
end
theorem len_is_name (ds : List Dt) (Φ : Slot → Prop) (Ξ : XD → Prop) (h : sp_is_name ds Φ Ξ) : ds.length = 1 := by
  first | (obtain ⟨rfl, _⟩ := h; rfl) | (obtain ⟨_, rfl, _⟩ := h; rfl) | (obtain ⟨_, _, rfl, _⟩ := h; rfl) | (obtain ⟨_, _, _, rfl, _⟩ := h; rfl) | (obtain ⟨_, _, _, _, rfl, _⟩ := h; rfl) | (obtain ⟨_, _, _, _, _, rfl, _⟩ := h; rfl) | (obtain ⟨_, _, _, _, _, _, rfl, _⟩ := h; rfl) | (obtain ⟨_, _, _, _, _, _, _, rfl, _⟩ := h; rfl) | (obtain ⟨_, _, _, _, _, _, _, _, rfl, _⟩ := h; rfl) | (obtain ⟨_, _, _, _, _, _, _, _, _, rfl, _⟩ := h; rfl) | (obtain ⟨_, rfl | rfl, _⟩ := h <;> rfl) | (obtain ⟨_, _, rfl | rfl, _⟩ := h <;> rfl) | (obtain ⟨_, _, _, rfl | rfl, _⟩ := h <;> rfl) | (obtain ⟨_, _, _, _, rfl | rfl, _⟩ := h <;> rfl)
theorem len_word_at (ds : List Dt) (Φ : Slot → Prop) (Ξ : XD → Prop) (h : sp_word_at ds Φ Ξ) : ds.length = 2 := by
  first | (obtain ⟨rfl, _⟩ := h; rfl) | (obtain ⟨_, rfl, _⟩ := h; rfl) | (obtain ⟨_, _, rfl, _⟩ := h; rfl) | (obtain ⟨_, _, _, rfl, _⟩ := h; rfl) | (obtain ⟨_, _, _, _, rfl, _⟩ := h; rfl) | (obtain ⟨_, _, _, _, _, rfl, _⟩ := h; rfl) | (obtain ⟨_, _, _, _, _, _, rfl, _⟩ := h; rfl) | (obtain ⟨_, _, _, _, _, _, _, rfl, _⟩ := h; rfl) | (obtain ⟨_, _, _, _, _, _, _, _, rfl, _⟩ := h; rfl) | (obtain ⟨_, _, _, _, _, _, _, _, _, rfl, _⟩ := h; rfl) | (obtain ⟨_, rfl | rfl, _⟩ := h <;> rfl) | (obtain ⟨_, _, rfl | rfl, _⟩ := h <;> rfl) | (obtain ⟨_, _, _, rfl | rfl, _⟩ := h <;> rfl) | (obtain ⟨_, _, _, _, rfl | rfl, _⟩ := h <;> rfl)
theorem lenr_read_pair (n : Nat) (ds : List Dt) (Φ : Slot → Prop) (Ξ : XD → Prop) (h : spr_read_pair n ds Φ Ξ) : ds.length = 2 := by
  first | (obtain ⟨rfl, _⟩ := h; rfl) | (obtain ⟨_, rfl, _⟩ := h; rfl) | (obtain ⟨_, _, rfl, _⟩ := h; rfl) | (obtain ⟨_, _, _, rfl, _⟩ := h; rfl) | (obtain ⟨_, _, _, _, rfl, _⟩ := h; rfl) | (obtain ⟨_, _, _, _, _, rfl, _⟩ := h; rfl) | (obtain ⟨_, _, _, _, _, _, rfl, _⟩ := h; rfl) | (obtain ⟨_, _, _, _, _, _, _, rfl, _⟩ := h; rfl) | (obtain ⟨_, _, _, _, _, _, _, _, rfl, _⟩ := h; rfl) | (obtain ⟨_, _, _, _, _, _, _, _, _, rfl, _⟩ := h; rfl) | (obtain ⟨_, rfl | rfl, _⟩ := h <;> rfl) | (obtain ⟨_, _, rfl | rfl, _⟩ := h <;> rfl) | (obtain ⟨_, _, _, rfl | rfl, _⟩ := h <;> rfl) | (obtain ⟨_, _, _, _, rfl | rfl, _⟩ := h <;> rfl)
theorem lenr_read_at (n : Nat) (ds : List Dt) (Φ : Slot → Prop) (Ξ : XD → Prop) (h : spr_read_at n ds Φ Ξ) : ds.length = 2 := by
  first | (obtain ⟨rfl, _⟩ := h; rfl) | (obtain ⟨_, rfl, _⟩ := h; rfl) | (obtain ⟨_, _, rfl, _⟩ := h; rfl) | (obtain ⟨_, _, _, rfl, _⟩ := h; rfl) | (obtain ⟨_, _, _, _, rfl, _⟩ := h; rfl) | (obtain ⟨_, _, _, _, _, rfl, _⟩ := h; rfl) | (obtain ⟨_, _, _, _, _, _, rfl, _⟩ := h; rfl) | (obtain ⟨_, _, _, _, _, _, _, rfl, _⟩ := h; rfl) | (obtain ⟨_, _, _, _, _, _, _, _, rfl, _⟩ := h; rfl) | (obtain ⟨_, _, _, _, _, _, _, _, _, rfl, _⟩ := h; rfl) | (obtain ⟨_, rfl | rfl, _⟩ := h <;> rfl) | (obtain ⟨_, _, rfl | rfl, _⟩ := h <;> rfl) | (obtain ⟨_, _, _, rfl | rfl, _⟩ := h <;> rfl) | (obtain ⟨_, _, _, _, rfl | rfl, _⟩ := h <;> rfl)
theorem len_read_saying (ds : List Dt) (Φ : Slot → Prop) (Ξ : XD → Prop) (h : sp_read_saying ds Φ Ξ) : ds.length = 1 := by
  first | (obtain ⟨rfl, _⟩ := h; rfl) | (obtain ⟨_, rfl, _⟩ := h; rfl) | (obtain ⟨_, _, rfl, _⟩ := h; rfl) | (obtain ⟨_, _, _, rfl, _⟩ := h; rfl) | (obtain ⟨_, _, _, _, rfl, _⟩ := h; rfl) | (obtain ⟨_, _, _, _, _, rfl, _⟩ := h; rfl) | (obtain ⟨_, _, _, _, _, _, rfl, _⟩ := h; rfl) | (obtain ⟨_, _, _, _, _, _, _, rfl, _⟩ := h; rfl) | (obtain ⟨_, _, _, _, _, _, _, _, rfl, _⟩ := h; rfl) | (obtain ⟨_, _, _, _, _, _, _, _, _, rfl, _⟩ := h; rfl) | (obtain ⟨_, rfl | rfl, _⟩ := h <;> rfl) | (obtain ⟨_, _, rfl | rfl, _⟩ := h <;> rfl) | (obtain ⟨_, _, _, rfl | rfl, _⟩ := h <;> rfl) | (obtain ⟨_, _, _, _, rfl | rfl, _⟩ := h <;> rfl)
theorem len__law_cell (ds : List Dt) (Φ : Slot → Prop) (Ξ : XD → Prop) (h : sp__law_cell ds Φ Ξ) : ds.length = 2 := by
  first | (obtain ⟨rfl, _⟩ := h; rfl) | (obtain ⟨_, rfl, _⟩ := h; rfl) | (obtain ⟨_, _, rfl, _⟩ := h; rfl) | (obtain ⟨_, _, _, rfl, _⟩ := h; rfl) | (obtain ⟨_, _, _, _, rfl, _⟩ := h; rfl) | (obtain ⟨_, _, _, _, _, rfl, _⟩ := h; rfl) | (obtain ⟨_, _, _, _, _, _, rfl, _⟩ := h; rfl) | (obtain ⟨_, _, _, _, _, _, _, rfl, _⟩ := h; rfl) | (obtain ⟨_, _, _, _, _, _, _, _, rfl, _⟩ := h; rfl) | (obtain ⟨_, _, _, _, _, _, _, _, _, rfl, _⟩ := h; rfl) | (obtain ⟨_, rfl | rfl, _⟩ := h <;> rfl) | (obtain ⟨_, _, rfl | rfl, _⟩ := h <;> rfl) | (obtain ⟨_, _, _, rfl | rfl, _⟩ := h <;> rfl) | (obtain ⟨_, _, _, _, rfl | rfl, _⟩ := h <;> rfl)
theorem len__law_numbers (ds : List Dt) (Φ : Slot → Prop) (Ξ : XD → Prop) (h : sp__law_numbers ds Φ Ξ) : ds.length = 2 := by
  first | (obtain ⟨rfl, _⟩ := h; rfl) | (obtain ⟨_, rfl, _⟩ := h; rfl) | (obtain ⟨_, _, rfl, _⟩ := h; rfl) | (obtain ⟨_, _, _, rfl, _⟩ := h; rfl) | (obtain ⟨_, _, _, _, rfl, _⟩ := h; rfl) | (obtain ⟨_, _, _, _, _, rfl, _⟩ := h; rfl) | (obtain ⟨_, _, _, _, _, _, rfl, _⟩ := h; rfl) | (obtain ⟨_, _, _, _, _, _, _, rfl, _⟩ := h; rfl) | (obtain ⟨_, _, _, _, _, _, _, _, rfl, _⟩ := h; rfl) | (obtain ⟨_, _, _, _, _, _, _, _, _, rfl, _⟩ := h; rfl) | (obtain ⟨_, rfl | rfl, _⟩ := h <;> rfl) | (obtain ⟨_, _, rfl | rfl, _⟩ := h <;> rfl) | (obtain ⟨_, _, _, rfl | rfl, _⟩ := h <;> rfl) | (obtain ⟨_, _, _, _, rfl | rfl, _⟩ := h <;> rfl)
theorem len__law_words (ds : List Dt) (Φ : Slot → Prop) (Ξ : XD → Prop) (h : sp__law_words ds Φ Ξ) : ds.length = 2 := by
  first | (obtain ⟨rfl, _⟩ := h; rfl) | (obtain ⟨_, rfl, _⟩ := h; rfl) | (obtain ⟨_, _, rfl, _⟩ := h; rfl) | (obtain ⟨_, _, _, rfl, _⟩ := h; rfl) | (obtain ⟨_, _, _, _, rfl, _⟩ := h; rfl) | (obtain ⟨_, _, _, _, _, rfl, _⟩ := h; rfl) | (obtain ⟨_, _, _, _, _, _, rfl, _⟩ := h; rfl) | (obtain ⟨_, _, _, _, _, _, _, rfl, _⟩ := h; rfl) | (obtain ⟨_, _, _, _, _, _, _, _, rfl, _⟩ := h; rfl) | (obtain ⟨_, _, _, _, _, _, _, _, _, rfl, _⟩ := h; rfl) | (obtain ⟨_, rfl | rfl, _⟩ := h <;> rfl) | (obtain ⟨_, _, rfl | rfl, _⟩ := h <;> rfl) | (obtain ⟨_, _, _, rfl | rfl, _⟩ := h <;> rfl) | (obtain ⟨_, _, _, _, rfl | rfl, _⟩ := h <;> rfl)
theorem lenr__law_saying (n : Nat) (ds : List Dt) (Φ : Slot → Prop) (Ξ : XD → Prop) (h : spr__law_saying n ds Φ Ξ) : ds.length = 2 := by
  first | (obtain ⟨rfl, _⟩ := h; rfl) | (obtain ⟨_, rfl, _⟩ := h; rfl) | (obtain ⟨_, _, rfl, _⟩ := h; rfl) | (obtain ⟨_, _, _, rfl, _⟩ := h; rfl) | (obtain ⟨_, _, _, _, rfl, _⟩ := h; rfl) | (obtain ⟨_, _, _, _, _, rfl, _⟩ := h; rfl) | (obtain ⟨_, _, _, _, _, _, rfl, _⟩ := h; rfl) | (obtain ⟨_, _, _, _, _, _, _, rfl, _⟩ := h; rfl) | (obtain ⟨_, _, _, _, _, _, _, _, rfl, _⟩ := h; rfl) | (obtain ⟨_, _, _, _, _, _, _, _, _, rfl, _⟩ := h; rfl) | (obtain ⟨_, rfl | rfl, _⟩ := h <;> rfl) | (obtain ⟨_, _, rfl | rfl, _⟩ := h <;> rfl) | (obtain ⟨_, _, _, rfl | rfl, _⟩ := h <;> rfl) | (obtain ⟨_, _, _, _, rfl | rfl, _⟩ := h <;> rfl)
theorem lenr__law_said (n : Nat) (ds : List Dt) (Φ : Slot → Prop) (Ξ : XD → Prop) (h : spr__law_said n ds Φ Ξ) : ds.length = 1 := by
  first | (obtain ⟨rfl, _⟩ := h; rfl) | (obtain ⟨_, rfl, _⟩ := h; rfl) | (obtain ⟨_, _, rfl, _⟩ := h; rfl) | (obtain ⟨_, _, _, rfl, _⟩ := h; rfl) | (obtain ⟨_, _, _, _, rfl, _⟩ := h; rfl) | (obtain ⟨_, _, _, _, _, rfl, _⟩ := h; rfl) | (obtain ⟨_, _, _, _, _, _, rfl, _⟩ := h; rfl) | (obtain ⟨_, _, _, _, _, _, _, rfl, _⟩ := h; rfl) | (obtain ⟨_, _, _, _, _, _, _, _, rfl, _⟩ := h; rfl) | (obtain ⟨_, _, _, _, _, _, _, _, _, rfl, _⟩ := h; rfl) | (obtain ⟨_, rfl | rfl, _⟩ := h <;> rfl) | (obtain ⟨_, _, rfl | rfl, _⟩ := h <;> rfl) | (obtain ⟨_, _, _, rfl | rfl, _⟩ := h <;> rfl) | (obtain ⟨_, _, _, _, rfl | rfl, _⟩ := h <;> rfl)
theorem lenr__law_true (n : Nat) (ds : List Dt) (Φ : Slot → Prop) (Ξ : XD → Prop) (h : spr__law_true n ds Φ Ξ) : ds.length = 2 := by
  first | (obtain ⟨rfl, _⟩ := h; rfl) | (obtain ⟨_, rfl, _⟩ := h; rfl) | (obtain ⟨_, _, rfl, _⟩ := h; rfl) | (obtain ⟨_, _, _, rfl, _⟩ := h; rfl) | (obtain ⟨_, _, _, _, rfl, _⟩ := h; rfl) | (obtain ⟨_, _, _, _, _, rfl, _⟩ := h; rfl) | (obtain ⟨_, _, _, _, _, _, rfl, _⟩ := h; rfl) | (obtain ⟨_, _, _, _, _, _, _, rfl, _⟩ := h; rfl) | (obtain ⟨_, _, _, _, _, _, _, _, rfl, _⟩ := h; rfl) | (obtain ⟨_, _, _, _, _, _, _, _, _, rfl, _⟩ := h; rfl) | (obtain ⟨_, rfl | rfl, _⟩ := h <;> rfl) | (obtain ⟨_, _, rfl | rfl, _⟩ := h <;> rfl) | (obtain ⟨_, _, _, rfl | rfl, _⟩ := h <;> rfl) | (obtain ⟨_, _, _, _, rfl | rfl, _⟩ := h <;> rfl)
theorem len__law_state (ds : List Dt) (Φ : Slot → Prop) (Ξ : XD → Prop) (h : sp__law_state ds Φ Ξ) : ds.length = 3 := by
  first | (obtain ⟨rfl, _⟩ := h; rfl) | (obtain ⟨_, rfl, _⟩ := h; rfl) | (obtain ⟨_, _, rfl, _⟩ := h; rfl) | (obtain ⟨_, _, _, rfl, _⟩ := h; rfl) | (obtain ⟨_, _, _, _, rfl, _⟩ := h; rfl) | (obtain ⟨_, _, _, _, _, rfl, _⟩ := h; rfl) | (obtain ⟨_, _, _, _, _, _, rfl, _⟩ := h; rfl) | (obtain ⟨_, _, _, _, _, _, _, rfl, _⟩ := h; rfl) | (obtain ⟨_, _, _, _, _, _, _, _, rfl, _⟩ := h; rfl) | (obtain ⟨_, _, _, _, _, _, _, _, _, rfl, _⟩ := h; rfl) | (obtain ⟨_, rfl | rfl, _⟩ := h <;> rfl) | (obtain ⟨_, _, rfl | rfl, _⟩ := h <;> rfl) | (obtain ⟨_, _, _, rfl | rfl, _⟩ := h <;> rfl) | (obtain ⟨_, _, _, _, rfl | rfl, _⟩ := h <;> rfl)
theorem len__law_is_name (ds : List Dt) (Φ : Slot → Prop) (Ξ : XD → Prop) (h : sp__law_is_name ds Φ Ξ) : ds.length = 1 := by
  first | (obtain ⟨rfl, _⟩ := h; rfl) | (obtain ⟨_, rfl, _⟩ := h; rfl) | (obtain ⟨_, _, rfl, _⟩ := h; rfl) | (obtain ⟨_, _, _, rfl, _⟩ := h; rfl) | (obtain ⟨_, _, _, _, rfl, _⟩ := h; rfl) | (obtain ⟨_, _, _, _, _, rfl, _⟩ := h; rfl) | (obtain ⟨_, _, _, _, _, _, rfl, _⟩ := h; rfl) | (obtain ⟨_, _, _, _, _, _, _, rfl, _⟩ := h; rfl) | (obtain ⟨_, _, _, _, _, _, _, _, rfl, _⟩ := h; rfl) | (obtain ⟨_, _, _, _, _, _, _, _, _, rfl, _⟩ := h; rfl) | (obtain ⟨_, rfl | rfl, _⟩ := h <;> rfl) | (obtain ⟨_, _, rfl | rfl, _⟩ := h <;> rfl) | (obtain ⟨_, _, _, rfl | rfl, _⟩ := h <;> rfl) | (obtain ⟨_, _, _, _, rfl | rfl, _⟩ := h <;> rfl)
theorem lenr__law_behind (n : Nat) (ds : List Dt) (Φ : Slot → Prop) (Ξ : XD → Prop) (h : spr__law_behind n ds Φ Ξ) : ds.length = 2 := by
  first | (obtain ⟨rfl, _⟩ := h; rfl) | (obtain ⟨_, rfl, _⟩ := h; rfl) | (obtain ⟨_, _, rfl, _⟩ := h; rfl) | (obtain ⟨_, _, _, rfl, _⟩ := h; rfl) | (obtain ⟨_, _, _, _, rfl, _⟩ := h; rfl) | (obtain ⟨_, _, _, _, _, rfl, _⟩ := h; rfl) | (obtain ⟨_, _, _, _, _, _, rfl, _⟩ := h; rfl) | (obtain ⟨_, _, _, _, _, _, _, rfl, _⟩ := h; rfl) | (obtain ⟨_, _, _, _, _, _, _, _, rfl, _⟩ := h; rfl) | (obtain ⟨_, _, _, _, _, _, _, _, _, rfl, _⟩ := h; rfl) | (obtain ⟨_, rfl | rfl, _⟩ := h <;> rfl) | (obtain ⟨_, _, rfl | rfl, _⟩ := h <;> rfl) | (obtain ⟨_, _, _, rfl | rfl, _⟩ := h <;> rfl) | (obtain ⟨_, _, _, _, rfl | rfl, _⟩ := h <;> rfl)
theorem len__law_spoiled (ds : List Dt) (Φ : Slot → Prop) (Ξ : XD → Prop) (h : sp__law_spoiled ds Φ Ξ) : ds.length = 3 := by
  first | (obtain ⟨rfl, _⟩ := h; rfl) | (obtain ⟨_, rfl, _⟩ := h; rfl) | (obtain ⟨_, _, rfl, _⟩ := h; rfl) | (obtain ⟨_, _, _, rfl, _⟩ := h; rfl) | (obtain ⟨_, _, _, _, rfl, _⟩ := h; rfl) | (obtain ⟨_, _, _, _, _, rfl, _⟩ := h; rfl) | (obtain ⟨_, _, _, _, _, _, rfl, _⟩ := h; rfl) | (obtain ⟨_, _, _, _, _, _, _, rfl, _⟩ := h; rfl) | (obtain ⟨_, _, _, _, _, _, _, _, rfl, _⟩ := h; rfl) | (obtain ⟨_, _, _, _, _, _, _, _, _, rfl, _⟩ := h; rfl) | (obtain ⟨_, rfl | rfl, _⟩ := h <;> rfl) | (obtain ⟨_, _, rfl | rfl, _⟩ := h <;> rfl) | (obtain ⟨_, _, _, rfl | rfl, _⟩ := h <;> rfl) | (obtain ⟨_, _, _, _, rfl | rfl, _⟩ := h <;> rfl)
theorem len__law_refused (ds : List Dt) (Φ : Slot → Prop) (Ξ : XD → Prop) (h : sp__law_refused ds Φ Ξ) : ds.length = 1 := by
  first | (obtain ⟨rfl, _⟩ := h; rfl) | (obtain ⟨_, rfl, _⟩ := h; rfl) | (obtain ⟨_, _, rfl, _⟩ := h; rfl) | (obtain ⟨_, _, _, rfl, _⟩ := h; rfl) | (obtain ⟨_, _, _, _, rfl, _⟩ := h; rfl) | (obtain ⟨_, _, _, _, _, rfl, _⟩ := h; rfl) | (obtain ⟨_, _, _, _, _, _, rfl, _⟩ := h; rfl) | (obtain ⟨_, _, _, _, _, _, _, rfl, _⟩ := h; rfl) | (obtain ⟨_, _, _, _, _, _, _, _, rfl, _⟩ := h; rfl) | (obtain ⟨_, _, _, _, _, _, _, _, _, rfl, _⟩ := h; rfl) | (obtain ⟨_, rfl | rfl, _⟩ := h <;> rfl) | (obtain ⟨_, _, rfl | rfl, _⟩ := h <;> rfl) | (obtain ⟨_, _, _, rfl | rfl, _⟩ := h <;> rfl) | (obtain ⟨_, _, _, _, rfl | rfl, _⟩ := h <;> rfl)
theorem len_law (ds : List Dt) (Φ : Slot → Prop) (Ξ : XD → Prop) (h : sp_law ds Φ Ξ) : ds.length = 1 := by
  first | (obtain ⟨rfl, _⟩ := h; rfl) | (obtain ⟨_, rfl, _⟩ := h; rfl) | (obtain ⟨_, _, rfl, _⟩ := h; rfl) | (obtain ⟨_, _, _, rfl, _⟩ := h; rfl) | (obtain ⟨_, _, _, _, rfl, _⟩ := h; rfl) | (obtain ⟨_, _, _, _, _, rfl, _⟩ := h; rfl) | (obtain ⟨_, _, _, _, _, _, rfl, _⟩ := h; rfl) | (obtain ⟨_, _, _, _, _, _, _, rfl, _⟩ := h; rfl) | (obtain ⟨_, _, _, _, _, _, _, _, rfl, _⟩ := h; rfl) | (obtain ⟨_, _, _, _, _, _, _, _, _, rfl, _⟩ := h; rfl) | (obtain ⟨_, rfl | rfl, _⟩ := h <;> rfl) | (obtain ⟨_, _, rfl | rfl, _⟩ := h <;> rfl) | (obtain ⟨_, _, _, rfl | rfl, _⟩ := h <;> rfl) | (obtain ⟨_, _, _, _, rfl | rfl, _⟩ := h <;> rfl)
theorem lenr_holds (n : Nat) (ds : List Dt) (Φ : Slot → Prop) (Ξ : XD → Prop) (h : spr_holds n ds Φ Ξ) : ds.length = 2 := by
  first | (obtain ⟨rfl, _⟩ := h; rfl) | (obtain ⟨_, rfl, _⟩ := h; rfl) | (obtain ⟨_, _, rfl, _⟩ := h; rfl) | (obtain ⟨_, _, _, rfl, _⟩ := h; rfl) | (obtain ⟨_, _, _, _, rfl, _⟩ := h; rfl) | (obtain ⟨_, _, _, _, _, rfl, _⟩ := h; rfl) | (obtain ⟨_, _, _, _, _, _, rfl, _⟩ := h; rfl) | (obtain ⟨_, _, _, _, _, _, _, rfl, _⟩ := h; rfl) | (obtain ⟨_, _, _, _, _, _, _, _, rfl, _⟩ := h; rfl) | (obtain ⟨_, _, _, _, _, _, _, _, _, rfl, _⟩ := h; rfl) | (obtain ⟨_, rfl | rfl, _⟩ := h <;> rfl) | (obtain ⟨_, _, rfl | rfl, _⟩ := h <;> rfl) | (obtain ⟨_, _, _, rfl | rfl, _⟩ := h <;> rfl) | (obtain ⟨_, _, _, _, rfl | rfl, _⟩ := h <;> rfl)
theorem lenr_shown (n : Nat) (ds : List Dt) (Φ : Slot → Prop) (Ξ : XD → Prop) (h : spr_shown n ds Φ Ξ) : ds.length = 1 := by
  first | (obtain ⟨rfl, _⟩ := h; rfl) | (obtain ⟨_, rfl, _⟩ := h; rfl) | (obtain ⟨_, _, rfl, _⟩ := h; rfl) | (obtain ⟨_, _, _, rfl, _⟩ := h; rfl) | (obtain ⟨_, _, _, _, rfl, _⟩ := h; rfl) | (obtain ⟨_, _, _, _, _, rfl, _⟩ := h; rfl) | (obtain ⟨_, _, _, _, _, _, rfl, _⟩ := h; rfl) | (obtain ⟨_, _, _, _, _, _, _, rfl, _⟩ := h; rfl) | (obtain ⟨_, _, _, _, _, _, _, _, rfl, _⟩ := h; rfl) | (obtain ⟨_, _, _, _, _, _, _, _, _, rfl, _⟩ := h; rfl) | (obtain ⟨_, rfl | rfl, _⟩ := h <;> rfl) | (obtain ⟨_, _, rfl | rfl, _⟩ := h <;> rfl) | (obtain ⟨_, _, _, rfl | rfl, _⟩ := h <;> rfl) | (obtain ⟨_, _, _, _, rfl | rfl, _⟩ := h <;> rfl)
section
variable {P : Program} {w : World} {K : PySem.W.Frag} {mg : Str → Option Value} {base : Heap}
theorem ok_is_name {f : Addr} {fd : FuncData} (F : FnP K "is_name" s_is_name f fd) (b_isinstance : mg "isinstance" = none) (b_str : mg "str" = none) (b_len : mg "len" = none) (b_all : mg "all" = none) (c_WORDS : Glo K mg "WORDS" cv_WORDS) (c_LETTERS : Glo K mg "LETTERS" cv_LETTERS) : FnOk P w K mg base (L2.CX P w) 1 f fd ["thing"] (lift K sp_is_name) :=
  fn_ok F sc_is_name (by decide) len_is_name (fun cdv A outer s H E hr => ⟨d_is_name, der_is_name b_isinstance b_str b_len b_all c_WORDS c_LETTERS hr, fun ds Φ Ξ h => by rw [rho0_len_eq (N := M_is_name) (M := N_is_name) rfl]; exact rd_is_name ds Φ Ξ h⟩)
theorem ok_word_at {f : Addr} {fd : FuncData} (F : FnP K "word_at" s_word_at f fd) (b_len : mg "len" = none) : FnOk P w K mg base (L2.CX P w) 1 f fd ["words", "at"] (lift K sp_word_at) :=
  fn_ok F sc_word_at (by decide) len_word_at (fun cdv A outer s H E hr => ⟨d_word_at, der_word_at b_len hr, fun ds Φ Ξ h => by rw [rho0_len_eq (N := M_word_at) (M := N_word_at) rfl]; exact rd_word_at ds Φ Ξ h⟩)
theorem ok_read_pair {n : Nat} {f : Addr} {fd : FuncData} (F : FnP K "read_pair" s_read_pair f fd) (n_word_at : FN P w K mg base "word_at" 1 sp_word_at) (x_R_read_at : FN P w K mg base "read_at" (20 + 2 * n) (spr_read_at n)) (x_f_NoSaying : ExF K "NoSaying") (x_k_NoSaying : mg "NoSaying" = some (.ref (He.ga K "NoSaying"))) (x_K_Both : MkN P w K mg base "Both" ["one", "other"]) (x_K_Either : MkN P w K mg base "Either" ["one", "other"]) : FnOk P w K mg base (L2.CX P w) (20 + 2 * n + 1) f fd ["words", "at"] (lift K (spr_read_pair (n))) :=
  fn_ok F sc_read_pair (by decide) (lenr_read_pair _) (fun cdv A outer s H E hr => ⟨d_read_pair n, der_read_pair (n := n) n_word_at x_R_read_at x_f_NoSaying x_k_NoSaying x_K_Both x_K_Either hr, fun ds Φ Ξ h => by rw [rho0_len_eq (N := M_read_pair) (M := N_read_pair) rfl]; exact rd_read_pair n ds Φ Ξ h⟩)
theorem ok_read_at {n : Nat} {f : Addr} {fd : FuncData} (F : FnP K "read_at" s_read_at f fd) (n_word_at : FN P w K mg base "word_at" 1 sp_word_at) (n_is_name : FN P w K mg base "is_name" 1 sp_is_name) (x_K_Everywhere : MkN0 K mg "Everywhere") (x_K_Nowhere : MkN0 K mg "Nowhere") (x_R_read_at : FN P w K mg base "read_at" (20 + 2 * n) (spr_read_at n)) (x_K_Not : MkN P w K mg base "Not" ["inner"]) (x_R_read_pair : FN P w K mg base "read_pair" (21 + 2 * n) (spr_read_pair n)) (x_K_OfSheet : MkN P w K mg base "OfSheet" ["sheet"]) (x_f_NoSaying : ExF K "NoSaying") (x_k_NoSaying : mg "NoSaying" = some (.ref (He.ga K "NoSaying"))) (x_K_OfLand : MkN P w K mg base "OfLand" ["name"]) : FnOk P w K mg base (L2.CX P w) (21 + 2 * n + 1) f fd ["words", "at"] (lift K (spr_read_at (n + 1))) :=
  fn_ok F sc_read_at (by decide) (lenr_read_at _) (fun cdv A outer s H E hr => ⟨d_read_at n, der_read_at (n := n) n_word_at n_is_name x_K_Everywhere x_K_Nowhere x_R_read_at x_K_Not x_R_read_pair x_K_OfSheet x_f_NoSaying x_k_NoSaying x_K_OfLand hr, fun ds Φ Ξ h => by rw [rho0_len_eq (N := M_read_at) (M := N_read_at) rfl]; exact rd_read_at n ds Φ Ξ h⟩)
theorem ok_read_saying {f : Addr} {fd : FuncData} (F : FnP K "read_saying" s_read_saying f fd) (n_read_at : FN P w K mg base "read_at" 102 sp_read_at) (b_isinstance : mg "isinstance" = none) (b_str : mg "str" = none) (b_len : mg "len" = none) (c_MOST_WORDS : Glo K mg "MOST_WORDS" cv_MOST_WORDS) (x_f_NoSaying : ExF K "NoSaying") (x_k_NoSaying : mg "NoSaying" = some (.ref (He.ga K "NoSaying"))) : FnOk P w K mg base (L2.CX P w) 103 f fd ["text"] (lift K sp_read_saying) :=
  fn_ok F sc_read_saying (by decide) len_read_saying (fun cdv A outer s H E hr => ⟨d_read_saying, der_read_saying n_read_at b_isinstance b_str b_len c_MOST_WORDS x_f_NoSaying x_k_NoSaying hr, fun ds Φ Ξ h => by rw [rho0_len_eq (N := M_read_saying) (M := N_read_saying) rfl]; exact rd_read_saying ds Φ Ξ h⟩)
theorem ok__law_cell {f : Addr} {fd : FuncData} (F : FnP K "_law_cell" s__law_cell f fd) (b_len : mg "len" = none) : FnOk P w K mg base (L2.CX P w) 1 f fd ["_law_script", "_law_k"] (lift K sp__law_cell) :=
  fn_ok F sc__law_cell (by decide) len__law_cell (fun cdv A outer s H E hr => ⟨d__law_cell, der__law_cell b_len hr, fun ds Φ Ξ h => by rw [rho0_len_eq (N := M__law_cell) (M := N__law_cell) rfl]; exact rd__law_cell ds Φ Ξ h⟩)
theorem ok__law_numbers {f : Addr} {fd : FuncData} (F : FnP K "_law_numbers" s__law_numbers f fd) (b_abs : mg "abs" = none) (b_range : mg "range" = none) (b_int : mg "int" = none) : FnOk P w K mg base (L2.CX P w) 1 f fd ["_law_cell_here", "_law_many"] (lift K sp__law_numbers) :=
  fn_ok F sc__law_numbers (by decide) len__law_numbers (fun cdv A outer s H E hr => ⟨d__law_numbers, der__law_numbers b_abs b_range b_int hr, fun ds Φ Ξ h => by rw [rho0_len_eq (N := M__law_numbers) (M := N__law_numbers) rfl]; exact rd__law_numbers ds Φ Ξ h⟩)
theorem ok__law_words {f : Addr} {fd : FuncData} (F : FnP K "_law_words" s__law_words f fd) (n__law_numbers : FN P w K mg base "_law_numbers" 1 sp__law_numbers) (b_range : mg "range" = none) : FnOk P w K mg base (L2.CX P w) 2 f fd ["_law_cell_here", "_law_many"] (lift K sp__law_words) :=
  fn_ok F sc__law_words (by decide) len__law_words (fun cdv A outer s H E hr => ⟨d__law_words, der__law_words n__law_numbers b_range hr, fun ds Φ Ξ h => by rw [rho0_len_eq (N := M__law_words) (M := N__law_words) rfl]; exact rd__law_words ds Φ Ξ h⟩)
theorem ok__law_saying {n : Nat} {f : Addr} {fd : FuncData} (F : FnP K "_law_saying" s__law_saying f fd) (b_len : mg "len" = none) (x_R__law_saying : FN P w K mg base "_law_saying" (10 + n) (spr__law_saying n)) : FnOk P w K mg base (L2.CX P w) (10 + n + 1) f fd ["_law_state_here", "_law_room"] (lift K (spr__law_saying (n + 1))) :=
  fn_ok F sc__law_saying (by decide) (lenr__law_saying _) (fun cdv A outer s H E hr => ⟨d__law_saying n, der__law_saying (n := n) b_len x_R__law_saying hr, fun ds Φ Ξ h => by rw [rho0_len_eq (N := M__law_saying) (M := N__law_saying) rfl]; exact rd__law_saying n ds Φ Ξ h⟩)
theorem ok__law_said {n : Nat} {f : Addr} {fd : FuncData} (F : FnP K "_law_said" s__law_said f fd) (x_R__law_said : FN P w K mg base "_law_said" (10 + n) (spr__law_said n)) : FnOk P w K mg base (L2.CX P w) (10 + n + 1) f fd ["_law_told"] (lift K (spr__law_said (n + 1))) :=
  fn_ok F sc__law_said (by decide) (lenr__law_said _) (fun cdv A outer s H E hr => ⟨d__law_said n, der__law_said (n := n) x_R__law_said hr, fun ds Φ Ξ h => by rw [rho0_len_eq (N := M__law_said) (M := N__law_said) rfl]; exact rd__law_said n ds Φ Ξ h⟩)
theorem ok__law_true {n : Nat} {f : Addr} {fd : FuncData} (F : FnP K "_law_true" s__law_true f fd) (x_R__law_true : FN P w K mg base "_law_true" (10 + n) (spr__law_true n)) : FnOk P w K mg base (L2.CX P w) (10 + n + 1) f fd ["_law_told", "_law_lands"] (lift K (spr__law_true (n + 1))) :=
  fn_ok F sc__law_true (by decide) (lenr__law_true _) (fun cdv A outer s H E hr => ⟨d__law_true n, der__law_true (n := n) x_R__law_true hr, fun ds Φ Ξ h => by rw [rho0_len_eq (N := M__law_true) (M := N__law_true) rfl]; exact rd__law_true n ds Φ Ξ h⟩)
theorem ok__law_state {f : Addr} {fd : FuncData} (F : FnP K "_law_state" s__law_state f fd) (n__law_numbers : FN P w K mg base "_law_numbers" 1 sp__law_numbers) : FnOk P w K mg base (L2.CX P w) 2 f fd ["_law_cell_here", "_law_names", "_law_sheets"] (lift K sp__law_state) :=
  fn_ok F sc__law_state (by decide) len__law_state (fun cdv A outer s H E hr => ⟨d__law_state, der__law_state n__law_numbers hr, fun ds Φ Ξ h => by rw [rho0_len_eq (N := M__law_state) (M := N__law_state) rfl]; exact rd__law_state ds Φ Ξ h⟩)
theorem ok__law_is_name {f : Addr} {fd : FuncData} (F : FnP K "_law_is_name" s__law_is_name f fd) (b_len : mg "len" = none) (b_all : mg "all" = none) : FnOk P w K mg base (L2.CX P w) 1 f fd ["_law_word"] (lift K sp__law_is_name) :=
  fn_ok F sc__law_is_name (by decide) len__law_is_name (fun cdv A outer s H E hr => ⟨d__law_is_name, der__law_is_name b_len b_all hr, fun ds Φ Ξ h => by rw [rho0_len_eq (N := M__law_is_name) (M := N__law_is_name) rfl]; exact rd__law_is_name ds Φ Ξ h⟩)
theorem ok__law_behind {n : Nat} {f : Addr} {fd : FuncData} (F : FnP K "_law_behind" s__law_behind f fd) (n__law_is_name : FN P w K mg base "_law_is_name" 1 sp__law_is_name) (b_len : mg "len" = none) (x_R__law_behind : FN P w K mg base "_law_behind" (10 + n) (spr__law_behind n)) : FnOk P w K mg base (L2.CX P w) (10 + n + 1) f fd ["_law_words_here", "_law_at"] (lift K (spr__law_behind (n + 1))) :=
  fn_ok F sc__law_behind (by decide) (lenr__law_behind _) (fun cdv A outer s H E hr => ⟨d__law_behind n, der__law_behind (n := n) n__law_is_name b_len x_R__law_behind hr, fun ds Φ Ξ h => by rw [rho0_len_eq (N := M__law_behind) (M := N__law_behind) rfl]; exact rd__law_behind n ds Φ Ξ h⟩)
theorem ok__law_spoiled {f : Addr} {fd : FuncData} (F : FnP K "_law_spoiled" s__law_spoiled f fd) (b_len : mg "len" = none) (b_list : mg "list" = none) : FnOk P w K mg base (L2.CX P w) 1 f fd ["_law_words_here", "_law_xs", "_law_names"] (lift K sp__law_spoiled) :=
  fn_ok F sc__law_spoiled (by decide) len__law_spoiled (fun cdv A outer s H E hr => ⟨d__law_spoiled, der__law_spoiled b_len b_list hr, fun ds Φ Ξ h => by rw [rho0_len_eq (N := M__law_spoiled) (M := N__law_spoiled) rfl]; exact rd__law_spoiled ds Φ Ξ h⟩)
theorem okA__law_only {f : Addr} {fd : FuncData} (F : FnP K "_law_only" s__law_only f fd) (hm : mg "_law_only" = some (.ref f)) (b : Binds K fd ["_law_e"] []) (b_isinstance : mg "isinstance" = none) (b_ValueError : mg "ValueError" = none) (x_i_NoFace : IsT K tb_NoFace [.own "NoFace"]) (x_k_NoFace : mg "NoFace" = some (.ref (He.ga K "NoFace"))) (x_i_NoDeskRow : IsT K tb_NoDeskRow [.own "NoDeskRow"]) (x_k_NoDeskRow : mg "NoDeskRow" = some (.ref (He.ga K "NoDeskRow"))) (x_i_NoDeed : IsT K tb_NoDeed [.own "NoDeed"]) (x_k_NoDeed : mg "NoDeed" = some (.ref (He.ga K "NoDeed"))) (x_i_NoAtlas : IsT K tb_NoAtlas [.own "NoAtlas"]) (x_k_NoAtlas : mg "NoAtlas" = some (.ref (He.ga K "NoAtlas"))) (x_i_NoText : IsT K tb_NoText [.own "NoText"]) (x_k_NoText : mg "NoText" = some (.ref (He.ga K "NoText"))) (x_i_NoRow : IsT K tb_NoRow [.own "NoRow"]) (x_k_NoRow : mg "NoRow" = some (.ref (He.ga K "NoRow"))) (x_i_NoNumber : IsT K tb_NoNumber [.own "NoNumber"]) (x_k_NoNumber : mg "NoNumber" = some (.ref (He.ga K "NoNumber"))) (x_i_NoLand : IsT K tb_NoLand [.own "NoLand"]) (x_k_NoLand : mg "NoLand" = some (.ref (He.ga K "NoLand"))) (x_i_NoSaying : IsT K tb_NoSaying [.own "NoSaying"]) (x_k_NoSaying : mg "NoSaying" = some (.ref (He.ga K "NoSaying"))) (x_i_ValueError : IsT K tb_ValueError [.ty "ValueError"]) (x_i_OnSide : IsT K tb_OnSide [.own "OnSide"]) (x_k_OnSide : mg "OnSide" = some (.ref (He.ga K "OnSide"))) : FNA P w K mg base "_law_only" 1 sp__law_only :=
  fn_okA F sc__law_only hm b (fun cdv A outer s H E hr => ⟨d__law_only, der__law_only b_isinstance b_ValueError x_i_NoFace x_k_NoFace x_i_NoDeskRow x_k_NoDeskRow x_i_NoDeed x_k_NoDeed x_i_NoAtlas x_k_NoAtlas x_i_NoText x_k_NoText x_i_NoRow x_k_NoRow x_i_NoNumber x_k_NoNumber x_i_NoLand x_k_NoLand x_i_NoSaying x_k_NoSaying x_i_ValueError x_i_OnSide x_k_OnSide hr, fun x Φ h => rd__law_only x Φ h⟩)
theorem ok__law_refused {f : Addr} {fd : FuncData} (F : FnP K "_law_refused" s__law_refused f fd) (n_read_saying : FN P w K mg base "read_saying" 103 sp_read_saying) (x_M_shown : MN P w K mg base "shown" (51) CS sp_shown) (x_t_SheetError : TryT K tb_SheetError "SheetError") (x_k_SheetError : mg "SheetError" = some (.ref (He.ga K "SheetError"))) (x_A__law_only : FNA P w K mg base "_law_only" 1 sp__law_only) : FnOk P w K mg base (L2.CX P w) 104 f fd ["_law_thing"] (lift K sp__law_refused) :=
  fn_ok F sc__law_refused (by decide) len__law_refused (fun cdv A outer s H E hr => ⟨d__law_refused, der__law_refused n_read_saying x_M_shown x_t_SheetError x_k_SheetError x_A__law_only hr, fun ds Φ Ξ h => by rw [rho0_len_eq (N := M__law_refused) (M := N__law_refused) rfl]; exact rd__law_refused ds Φ Ξ h⟩)
theorem ok_law {f : Addr} {fd : FuncData} (F : FnP K "law" s_law f fd) (n__law_words : FN P w K mg base "_law_words" 2 sp__law_words) (n__law_cell : FN P w K mg base "_law_cell" 1 sp__law_cell) (n__law_state : FN P w K mg base "_law_state" 2 sp__law_state) (n__law_said : FN P w K mg base "_law_said" 51 sp__law_said) (n__law_saying : FN P w K mg base "_law_saying" 51 sp__law_saying) (n__law_spoiled : FN P w K mg base "_law_spoiled" 1 sp__law_spoiled) (n__law_numbers : FN P w K mg base "_law_numbers" 1 sp__law_numbers) (n__law_behind : FN P w K mg base "_law_behind" 51 sp__law_behind) (n__law_refused : FN P w K mg base "_law_refused" 104 sp__law_refused) (b_len : mg "len" = none) : FnOk P w K mg base (L2.CX P w) 105 f fd ["_law_script"] (lift K sp_law) :=
  fn_ok F sc_law (by decide) len_law (fun cdv A outer s H E hr => ⟨d_law, der_law n__law_words n__law_cell n__law_state n__law_said n__law_saying n__law_spoiled n__law_numbers n__law_behind n__law_refused b_len hr, fun ds Φ Ξ h => by rw [rho0_len_eq (N := M_law) (M := N_law) rfl]; exact rd_law ds Φ Ξ h⟩)
theorem ok_Saying__holds {n : Nat} {f : Addr} {fd : FuncData} (F : FunD K "holds" "Saying.holds" (defArgs s_Saying__holds) (defBody s_Saying__holds) (defScope s_Saying__holds) [] [] f fd)  : FnOk P w K mg base (L2.CX P w) (10 + n + 1) f fd ["self", "lands"] (lift K (onC "Nowhere" (spr_holds (n + 1)))) :=
  fn_ok F sc_Saying__holds (by decide) (fun ds Φ Ξ h => lenr_holds _ ds Φ Ξ h.2) (fun cdv A outer s H E hr => ⟨d_Saying__holds n, der_Saying__holds (n := n)  hr, fun ds Φ Ξ h => by rw [rho0_len_eq (N := M_Saying__holds) (M := N_Saying__holds) rfl]; exact rd_Saying__holds n ds Φ Ξ h⟩)
theorem ok_Saying__shown {n : Nat} {f : Addr} {fd : FuncData} (F : FunD K "shown" "Saying.shown" (defArgs s_Saying__shown) (defBody s_Saying__shown) (defScope s_Saying__shown) [] [] f fd)  : FnOk P w K mg base (L2.CX P w) (10 + n + 1) f fd ["self"] (lift K (onC "Nowhere" (spr_shown (n + 1)))) :=
  fn_ok F sc_Saying__shown (by decide) (fun ds Φ Ξ h => lenr_shown _ ds Φ Ξ h.2) (fun cdv A outer s H E hr => ⟨d_Saying__shown n, der_Saying__shown (n := n)  hr, fun ds Φ Ξ h => by rw [rho0_len_eq (N := M_Saying__shown) (M := N_Saying__shown) rfl]; exact rd_Saying__shown n ds Φ Ξ h⟩)
theorem ok_OfLand__holds {n : Nat} {f : Addr} {fd : FuncData} (F : FunD K "holds" "OfLand.holds" (defArgs s_OfLand__holds) (defBody s_OfLand__holds) (defScope s_OfLand__holds) [] [] f fd) (x_F_OfLand_name : InsF K ["OfLand"] "name") : FnOk P w K mg base (L2.CX P w) (10 + n + 1) f fd ["self", "lands"] (lift K (onC "OfLand" (spr_holds (n + 1)))) :=
  fn_ok F sc_OfLand__holds (by decide) (fun ds Φ Ξ h => lenr_holds _ ds Φ Ξ h.2) (fun cdv A outer s H E hr => ⟨d_OfLand__holds n, der_OfLand__holds (n := n) x_F_OfLand_name hr, fun ds Φ Ξ h => by rw [rho0_len_eq (N := M_OfLand__holds) (M := N_OfLand__holds) rfl]; exact rd_OfLand__holds n ds Φ Ξ h⟩)
theorem ok_OfLand__shown {n : Nat} {f : Addr} {fd : FuncData} (F : FunD K "shown" "OfLand.shown" (defArgs s_OfLand__shown) (defBody s_OfLand__shown) (defScope s_OfLand__shown) [] [] f fd) (x_F_OfLand_name : InsF K ["OfLand"] "name") : FnOk P w K mg base (L2.CX P w) (10 + n + 1) f fd ["self"] (lift K (onC "OfLand" (spr_shown (n + 1)))) :=
  fn_ok F sc_OfLand__shown (by decide) (fun ds Φ Ξ h => lenr_shown _ ds Φ Ξ h.2) (fun cdv A outer s H E hr => ⟨d_OfLand__shown n, der_OfLand__shown (n := n) x_F_OfLand_name hr, fun ds Φ Ξ h => by rw [rho0_len_eq (N := M_OfLand__shown) (M := N_OfLand__shown) rfl]; exact rd_OfLand__shown n ds Φ Ξ h⟩)
theorem ok_OfSheet__holds {n : Nat} {f : Addr} {fd : FuncData} (F : FunD K "holds" "OfSheet.holds" (defArgs s_OfSheet__holds) (defBody s_OfSheet__holds) (defScope s_OfSheet__holds) [] [] f fd) (x_F_OfSheet_sheet : InsF K ["OfSheet"] "sheet") : FnOk P w K mg base (L2.CX P w) (10 + n + 1) f fd ["self", "lands"] (lift K (onC "OfSheet" (spr_holds (n + 1)))) :=
  fn_ok F sc_OfSheet__holds (by decide) (fun ds Φ Ξ h => lenr_holds _ ds Φ Ξ h.2) (fun cdv A outer s H E hr => ⟨d_OfSheet__holds n, der_OfSheet__holds (n := n) x_F_OfSheet_sheet hr, fun ds Φ Ξ h => by rw [rho0_len_eq (N := M_OfSheet__holds) (M := N_OfSheet__holds) rfl]; exact rd_OfSheet__holds n ds Φ Ξ h⟩)
theorem ok_OfSheet__shown {n : Nat} {f : Addr} {fd : FuncData} (F : FunD K "shown" "OfSheet.shown" (defArgs s_OfSheet__shown) (defBody s_OfSheet__shown) (defScope s_OfSheet__shown) [] [] f fd) (x_F_OfSheet_sheet : InsF K ["OfSheet"] "sheet") : FnOk P w K mg base (L2.CX P w) (10 + n + 1) f fd ["self"] (lift K (onC "OfSheet" (spr_shown (n + 1)))) :=
  fn_ok F sc_OfSheet__shown (by decide) (fun ds Φ Ξ h => lenr_shown _ ds Φ Ξ h.2) (fun cdv A outer s H E hr => ⟨d_OfSheet__shown n, der_OfSheet__shown (n := n) x_F_OfSheet_sheet hr, fun ds Φ Ξ h => by rw [rho0_len_eq (N := M_OfSheet__shown) (M := N_OfSheet__shown) rfl]; exact rd_OfSheet__shown n ds Φ Ξ h⟩)
theorem ok_Everywhere__holds {n : Nat} {f : Addr} {fd : FuncData} (F : FunD K "holds" "Everywhere.holds" (defArgs s_Everywhere__holds) (defBody s_Everywhere__holds) (defScope s_Everywhere__holds) [] [] f fd)  : FnOk P w K mg base (L2.CX P w) (10 + n + 1) f fd ["self", "lands"] (lift K (onC "Everywhere" (spr_holds (n + 1)))) :=
  fn_ok F sc_Everywhere__holds (by decide) (fun ds Φ Ξ h => lenr_holds _ ds Φ Ξ h.2) (fun cdv A outer s H E hr => ⟨d_Everywhere__holds n, der_Everywhere__holds (n := n)  hr, fun ds Φ Ξ h => by rw [rho0_len_eq (N := M_Everywhere__holds) (M := N_Everywhere__holds) rfl]; exact rd_Everywhere__holds n ds Φ Ξ h⟩)
theorem ok_Everywhere__shown {n : Nat} {f : Addr} {fd : FuncData} (F : FunD K "shown" "Everywhere.shown" (defArgs s_Everywhere__shown) (defBody s_Everywhere__shown) (defScope s_Everywhere__shown) [] [] f fd)  : FnOk P w K mg base (L2.CX P w) (10 + n + 1) f fd ["self"] (lift K (onC "Everywhere" (spr_shown (n + 1)))) :=
  fn_ok F sc_Everywhere__shown (by decide) (fun ds Φ Ξ h => lenr_shown _ ds Φ Ξ h.2) (fun cdv A outer s H E hr => ⟨d_Everywhere__shown n, der_Everywhere__shown (n := n)  hr, fun ds Φ Ξ h => by rw [rho0_len_eq (N := M_Everywhere__shown) (M := N_Everywhere__shown) rfl]; exact rd_Everywhere__shown n ds Φ Ξ h⟩)
theorem ok_Not__holds {n : Nat} {f : Addr} {fd : FuncData} (F : FunD K "holds" "Not.holds" (defArgs s_Not__holds) (defBody s_Not__holds) (defScope s_Not__holds) [] [] f fd) (x_F_Not_inner : InsF K ["Not"] "inner") (x_M_holds : MN P w K mg base "holds" (10 + n) CS (spr_holds n)) : FnOk P w K mg base (L2.CX P w) (10 + n + 1) f fd ["self", "lands"] (lift K (onC "Not" (spr_holds (n + 1)))) :=
  fn_ok F sc_Not__holds (by decide) (fun ds Φ Ξ h => lenr_holds _ ds Φ Ξ h.2) (fun cdv A outer s H E hr => ⟨d_Not__holds n, der_Not__holds (n := n) x_F_Not_inner x_M_holds hr, fun ds Φ Ξ h => by rw [rho0_len_eq (N := M_Not__holds) (M := N_Not__holds) rfl]; exact rd_Not__holds n ds Φ Ξ h⟩)
theorem ok_Not__shown {n : Nat} {f : Addr} {fd : FuncData} (F : FunD K "shown" "Not.shown" (defArgs s_Not__shown) (defBody s_Not__shown) (defScope s_Not__shown) [] [] f fd) (x_F_Not_inner : InsF K ["Not"] "inner") (x_M_shown : MN P w K mg base "shown" (10 + n) CS (spr_shown n)) : FnOk P w K mg base (L2.CX P w) (10 + n + 1) f fd ["self"] (lift K (onC "Not" (spr_shown (n + 1)))) :=
  fn_ok F sc_Not__shown (by decide) (fun ds Φ Ξ h => lenr_shown _ ds Φ Ξ h.2) (fun cdv A outer s H E hr => ⟨d_Not__shown n, der_Not__shown (n := n) x_F_Not_inner x_M_shown hr, fun ds Φ Ξ h => by rw [rho0_len_eq (N := M_Not__shown) (M := N_Not__shown) rfl]; exact rd_Not__shown n ds Φ Ξ h⟩)
theorem ok_Both__holds {n : Nat} {f : Addr} {fd : FuncData} (F : FunD K "holds" "Both.holds" (defArgs s_Both__holds) (defBody s_Both__holds) (defScope s_Both__holds) [] [] f fd) (x_F_Both_one : InsF K ["Both"] "one") (x_M_holds : MN P w K mg base "holds" (10 + n) CS (spr_holds n)) (x_F_Both_other : InsF K ["Both"] "other") : FnOk P w K mg base (L2.CX P w) (10 + n + 1) f fd ["self", "lands"] (lift K (onC "Both" (spr_holds (n + 1)))) :=
  fn_ok F sc_Both__holds (by decide) (fun ds Φ Ξ h => lenr_holds _ ds Φ Ξ h.2) (fun cdv A outer s H E hr => ⟨d_Both__holds n, der_Both__holds (n := n) x_F_Both_one x_M_holds x_F_Both_other hr, fun ds Φ Ξ h => by rw [rho0_len_eq (N := M_Both__holds) (M := N_Both__holds) rfl]; exact rd_Both__holds n ds Φ Ξ h⟩)
theorem ok_Both__shown {n : Nat} {f : Addr} {fd : FuncData} (F : FunD K "shown" "Both.shown" (defArgs s_Both__shown) (defBody s_Both__shown) (defScope s_Both__shown) [] [] f fd) (x_F_Both_one : InsF K ["Both"] "one") (x_M_shown : MN P w K mg base "shown" (10 + n) CS (spr_shown n)) (x_F_Both_other : InsF K ["Both"] "other") : FnOk P w K mg base (L2.CX P w) (10 + n + 1) f fd ["self"] (lift K (onC "Both" (spr_shown (n + 1)))) :=
  fn_ok F sc_Both__shown (by decide) (fun ds Φ Ξ h => lenr_shown _ ds Φ Ξ h.2) (fun cdv A outer s H E hr => ⟨d_Both__shown n, der_Both__shown (n := n) x_F_Both_one x_M_shown x_F_Both_other hr, fun ds Φ Ξ h => by rw [rho0_len_eq (N := M_Both__shown) (M := N_Both__shown) rfl]; exact rd_Both__shown n ds Φ Ξ h⟩)
theorem ok_Either__holds {n : Nat} {f : Addr} {fd : FuncData} (F : FunD K "holds" "Either.holds" (defArgs s_Either__holds) (defBody s_Either__holds) (defScope s_Either__holds) [] [] f fd) (x_F_Either_one : InsF K ["Either"] "one") (x_M_holds : MN P w K mg base "holds" (10 + n) CS (spr_holds n)) (x_F_Either_other : InsF K ["Either"] "other") : FnOk P w K mg base (L2.CX P w) (10 + n + 1) f fd ["self", "lands"] (lift K (onC "Either" (spr_holds (n + 1)))) :=
  fn_ok F sc_Either__holds (by decide) (fun ds Φ Ξ h => lenr_holds _ ds Φ Ξ h.2) (fun cdv A outer s H E hr => ⟨d_Either__holds n, der_Either__holds (n := n) x_F_Either_one x_M_holds x_F_Either_other hr, fun ds Φ Ξ h => by rw [rho0_len_eq (N := M_Either__holds) (M := N_Either__holds) rfl]; exact rd_Either__holds n ds Φ Ξ h⟩)
theorem ok_Either__shown {n : Nat} {f : Addr} {fd : FuncData} (F : FunD K "shown" "Either.shown" (defArgs s_Either__shown) (defBody s_Either__shown) (defScope s_Either__shown) [] [] f fd) (x_F_Either_one : InsF K ["Either"] "one") (x_M_shown : MN P w K mg base "shown" (10 + n) CS (spr_shown n)) (x_F_Either_other : InsF K ["Either"] "other") : FnOk P w K mg base (L2.CX P w) (10 + n + 1) f fd ["self"] (lift K (onC "Either" (spr_shown (n + 1)))) :=
  fn_ok F sc_Either__shown (by decide) (fun ds Φ Ξ h => lenr_shown _ ds Φ Ξ h.2) (fun cdv A outer s H E hr => ⟨d_Either__shown n, der_Either__shown (n := n) x_F_Either_one x_M_shown x_F_Either_other hr, fun ds Φ Ξ h => by rw [rho0_len_eq (N := M_Either__shown) (M := N_Either__shown) rfl]; exact rd_Either__shown n ds Φ Ξ h⟩)
end
def D_Saying__holds : He.DefD := ⟨("Saying", some "holds"), "holds", "Saying.holds", defArgs s_Saying__holds, defBody s_Saying__holds, defScope s_Saying__holds, [], []⟩
def D_Saying__shown : He.DefD := ⟨("Saying", some "shown"), "shown", "Saying.shown", defArgs s_Saying__shown, defBody s_Saying__shown, defScope s_Saying__shown, [], []⟩
def D_OfLand__holds : He.DefD := ⟨("OfLand", some "holds"), "holds", "OfLand.holds", defArgs s_OfLand__holds, defBody s_OfLand__holds, defScope s_OfLand__holds, [], []⟩
def D_OfLand__shown : He.DefD := ⟨("OfLand", some "shown"), "shown", "OfLand.shown", defArgs s_OfLand__shown, defBody s_OfLand__shown, defScope s_OfLand__shown, [], []⟩
def D_OfSheet__holds : He.DefD := ⟨("OfSheet", some "holds"), "holds", "OfSheet.holds", defArgs s_OfSheet__holds, defBody s_OfSheet__holds, defScope s_OfSheet__holds, [], []⟩
def D_OfSheet__shown : He.DefD := ⟨("OfSheet", some "shown"), "shown", "OfSheet.shown", defArgs s_OfSheet__shown, defBody s_OfSheet__shown, defScope s_OfSheet__shown, [], []⟩
def D_Everywhere__holds : He.DefD := ⟨("Everywhere", some "holds"), "holds", "Everywhere.holds", defArgs s_Everywhere__holds, defBody s_Everywhere__holds, defScope s_Everywhere__holds, [], []⟩
def D_Everywhere__shown : He.DefD := ⟨("Everywhere", some "shown"), "shown", "Everywhere.shown", defArgs s_Everywhere__shown, defBody s_Everywhere__shown, defScope s_Everywhere__shown, [], []⟩
def D_Not__holds : He.DefD := ⟨("Not", some "holds"), "holds", "Not.holds", defArgs s_Not__holds, defBody s_Not__holds, defScope s_Not__holds, [], []⟩
def D_Not__shown : He.DefD := ⟨("Not", some "shown"), "shown", "Not.shown", defArgs s_Not__shown, defBody s_Not__shown, defScope s_Not__shown, [], []⟩
def D_Both__holds : He.DefD := ⟨("Both", some "holds"), "holds", "Both.holds", defArgs s_Both__holds, defBody s_Both__holds, defScope s_Both__holds, [], []⟩
def D_Both__shown : He.DefD := ⟨("Both", some "shown"), "shown", "Both.shown", defArgs s_Both__shown, defBody s_Both__shown, defScope s_Both__shown, [], []⟩
def D_Either__holds : He.DefD := ⟨("Either", some "holds"), "holds", "Either.holds", defArgs s_Either__holds, defBody s_Either__holds, defScope s_Either__holds, [], []⟩
def D_Either__shown : He.DefD := ⟨("Either", some "shown"), "shown", "Either.shown", defArgs s_Either__shown, defBody s_Either__shown, defScope s_Either__shown, [], []⟩
abbrev m_OfLand : Stmt := inCls 0 (top 19)
def D_init_OfLand : He.DefD := ⟨("OfLand", some "__init__"), "__init__", "OfLand.__init__", defArgs m_OfLand, defBody m_OfLand, defScope m_OfLand, [], []⟩
theorem sc_init_OfLand : FnScope ["self", "name"] ["self", "name"] (defScope m_OfLand) := ⟨rfl, rfl, rfl, by decide +kernel, rfl, by decide +kernel, by decide +kernel⟩
abbrev m_OfSheet : Stmt := inCls 0 (top 20)
def D_init_OfSheet : He.DefD := ⟨("OfSheet", some "__init__"), "__init__", "OfSheet.__init__", defArgs m_OfSheet, defBody m_OfSheet, defScope m_OfSheet, [], []⟩
theorem sc_init_OfSheet : FnScope ["self", "sheet"] ["self", "sheet"] (defScope m_OfSheet) := ⟨rfl, rfl, rfl, by decide +kernel, rfl, by decide +kernel, by decide +kernel⟩
abbrev m_Not : Stmt := inCls 0 (top 23)
def D_init_Not : He.DefD := ⟨("Not", some "__init__"), "__init__", "Not.__init__", defArgs m_Not, defBody m_Not, defScope m_Not, [], []⟩
theorem sc_init_Not : FnScope ["self", "inner"] ["self", "inner"] (defScope m_Not) := ⟨rfl, rfl, rfl, by decide +kernel, rfl, by decide +kernel, by decide +kernel⟩
abbrev m_Both : Stmt := inCls 0 (top 24)
def D_init_Both : He.DefD := ⟨("Both", some "__init__"), "__init__", "Both.__init__", defArgs m_Both, defBody m_Both, defScope m_Both, [], []⟩
theorem sc_init_Both : FnScope ["self", "one", "other"] ["self", "one", "other"] (defScope m_Both) := ⟨rfl, rfl, rfl, by decide +kernel, rfl, by decide +kernel, by decide +kernel⟩
abbrev m_Either : Stmt := inCls 0 (top 25)
def D_init_Either : He.DefD := ⟨("Either", some "__init__"), "__init__", "Either.__init__", defArgs m_Either, defBody m_Either, defScope m_Either, [], []⟩
theorem sc_init_Either : FnScope ["self", "one", "other"] ["self", "one", "other"] (defScope m_Either) := ⟨rfl, rfl, rfl, by decide +kernel, rfl, by decide +kernel, by decide +kernel⟩
def D_is_name : He.DefD := ⟨("is_name", none), "is_name", "is_name", defArgs s_is_name, defBody s_is_name, defScope s_is_name, [], []⟩
def D_word_at : He.DefD := ⟨("word_at", none), "word_at", "word_at", defArgs s_word_at, defBody s_word_at, defScope s_word_at, [], []⟩
def D_read_pair : He.DefD := ⟨("read_pair", none), "read_pair", "read_pair", defArgs s_read_pair, defBody s_read_pair, defScope s_read_pair, [], []⟩
def D_read_at : He.DefD := ⟨("read_at", none), "read_at", "read_at", defArgs s_read_at, defBody s_read_at, defScope s_read_at, [], []⟩
def D_read_saying : He.DefD := ⟨("read_saying", none), "read_saying", "read_saying", defArgs s_read_saying, defBody s_read_saying, defScope s_read_saying, [], []⟩
def D__law_cell : He.DefD := ⟨("_law_cell", none), "_law_cell", "_law_cell", defArgs s__law_cell, defBody s__law_cell, defScope s__law_cell, [], []⟩
def D__law_numbers : He.DefD := ⟨("_law_numbers", none), "_law_numbers", "_law_numbers", defArgs s__law_numbers, defBody s__law_numbers, defScope s__law_numbers, [], []⟩
def D__law_words : He.DefD := ⟨("_law_words", none), "_law_words", "_law_words", defArgs s__law_words, defBody s__law_words, defScope s__law_words, [], []⟩
def D__law_saying : He.DefD := ⟨("_law_saying", none), "_law_saying", "_law_saying", defArgs s__law_saying, defBody s__law_saying, defScope s__law_saying, [], []⟩
def D__law_said : He.DefD := ⟨("_law_said", none), "_law_said", "_law_said", defArgs s__law_said, defBody s__law_said, defScope s__law_said, [], []⟩
def D__law_true : He.DefD := ⟨("_law_true", none), "_law_true", "_law_true", defArgs s__law_true, defBody s__law_true, defScope s__law_true, [], []⟩
def D__law_state : He.DefD := ⟨("_law_state", none), "_law_state", "_law_state", defArgs s__law_state, defBody s__law_state, defScope s__law_state, [], []⟩
def D__law_is_name : He.DefD := ⟨("_law_is_name", none), "_law_is_name", "_law_is_name", defArgs s__law_is_name, defBody s__law_is_name, defScope s__law_is_name, [], []⟩
def D__law_behind : He.DefD := ⟨("_law_behind", none), "_law_behind", "_law_behind", defArgs s__law_behind, defBody s__law_behind, defScope s__law_behind, [], []⟩
def D__law_spoiled : He.DefD := ⟨("_law_spoiled", none), "_law_spoiled", "_law_spoiled", defArgs s__law_spoiled, defBody s__law_spoiled, defScope s__law_spoiled, [], []⟩
def D__law_only : He.DefD := ⟨("_law_only", none), "_law_only", "_law_only", defArgs s__law_only, defBody s__law_only, defScope s__law_only, [], []⟩
def D__law_refused : He.DefD := ⟨("_law_refused", none), "_law_refused", "_law_refused", defArgs s__law_refused, defBody s__law_refused, defScope s__law_refused, [], []⟩
def D_law : He.DefD := ⟨("law", none), "law", "law", defArgs s_law, defBody s_law, defScope s_law, [], []⟩
def fn : List He.DefD := [D_is_name, D_word_at, D_read_pair, D_read_at, D_read_saying, D__law_cell, D__law_numbers, D__law_words, D__law_saying, D__law_said, D__law_true, D__law_state, D__law_is_name, D__law_behind, D__law_spoiled, D__law_only, D__law_refused, D_law, D_Saying__holds, D_Saying__shown, D_OfLand__holds, D_OfLand__shown, D_OfSheet__holds, D_OfSheet__shown, D_Everywhere__holds, D_Everywhere__shown, D_Not__holds, D_Not__shown, D_Both__holds, D_Both__shown, D_Either__holds, D_Either__shown, D_init_OfLand, D_init_OfSheet, D_init_Not, D_init_Both, D_init_Either]
def fa : List He.Fa := [.glo "is_name", .glo "word_at", .glo "read_pair", .glo "read_at", .glo "read_saying", .glo "_law_cell", .glo "_law_numbers", .glo "_law_words", .glo "_law_saying", .glo "_law_said", .glo "_law_true", .glo "_law_state", .glo "_law_is_name", .glo "_law_behind", .glo "_law_spoiled", .glo "_law_only", .glo "_law_refused", .glo "law", .free "isinstance", .free "str", .free "len", .free "all", .free "abs", .free "range", .free "int", .free "list", .free "ValueError", .glo "NoSaying", .glo "NoFace", .glo "NoDeskRow", .glo "NoDeed", .glo "NoAtlas", .glo "NoText", .glo "NoRow", .glo "NoNumber", .glo "NoLand", .glo "OnSide", .glo "SheetError", .glo "OfLand", .glo "OfSheet", .glo "Everywhere", .glo "Nowhere", .glo "Not", .glo "Both", .glo "Either", .exc "NoSaying", .glo "WORDS", .str "LETTERS" "abcdefghijklmnopqrstuvwxyz", .int "MOST_WORDS" 40]
abbrev R : PySem.W.OpenRow := PySem.W.OpenLaw.row PySem.Challenge.rw_landsheets_k39_no_sayings
def xt (K : PySem.W.Frag) : Bool := noLB K && (He.tupB K "WORDS" [.str "and", .str "or", .str "not", .str "all", .str "none", .str "sheet"] && (clsTB K "OfLand" ["name", "sheet", "inner", "one", "other"] [("holds", "OfLand"), ("shown", "OfLand"), ("__init__", "OfLand")] && (clsTB K "OfSheet" ["name", "sheet", "inner", "one", "other"] [("holds", "OfSheet"), ("shown", "OfSheet"), ("__init__", "OfSheet")] && (clsTB K "Everywhere" ["name", "sheet", "inner", "one", "other"] [("holds", "Everywhere"), ("shown", "Everywhere")] && (ini0B K "Everywhere" && (clsTB K "Nowhere" ["name", "sheet", "inner", "one", "other"] [("holds", "Saying"), ("shown", "Saying")] && (ini0B K "Nowhere" && (clsTB K "Not" ["name", "sheet", "inner", "one", "other"] [("holds", "Not"), ("shown", "Not"), ("__init__", "Not")] && (clsTB K "Both" ["name", "sheet", "inner", "one", "other"] [("holds", "Both"), ("shown", "Both"), ("__init__", "Both")] && (clsTB K "Either" ["name", "sheet", "inner", "one", "other"] [("holds", "Either"), ("shown", "Either"), ("__init__", "Either")] && (isB K tb_NoFace [.own "NoFace"] && (isB K tb_NoDeskRow [.own "NoDeskRow"] && (isB K tb_NoDeed [.own "NoDeed"] && (isB K tb_NoAtlas [.own "NoAtlas"] && (isB K tb_NoText [.own "NoText"] && (isB K tb_NoRow [.own "NoRow"] && (isB K tb_NoNumber [.own "NoNumber"] && (isB K tb_NoLand [.own "NoLand"] && (isB K tb_NoSaying [.own "NoSaying"] && (isB K tb_ValueError [.ty "ValueError"] && (isB K tb_OnSide [.own "OnSide"] && (tryB K tb_SheetError "SheetError"))))))))))))))))))))))
abbrev hk : PySem.W.Hook := hookC 4 fa fn xt
def ob (s : PySem.W.SharedT) : Bool × He.AlD := obsC 4 fa fn xt (HandSHeadRun.getT s)
theorem ob_eq (s : PySem.W.SharedT) : ob s = hk.obs s.abs := obsC_eq (HandSHeadRun.getT_eq s)
def loose : List Str := (["SheetError", "NoNumber", "OnSide", "NoText", "NoAtlas", "NoRow", "NoSaying", "NoFace", "NoLand", "NoDeed", "NoDeskRow", "LETTERS", "WORDS", "is_name", "MOST_WORDS", "Saying", "OfLand", "OfSheet", "Everywhere", "Nowhere", "Not", "Both", "Either", "word_at", "read_pair", "read_at", "read_saying", "_law_cell", "_law_numbers", "_law_words"] : List Str) ++ (["_law_saying", "_law_said", "_law_true", "_law_state", "_law_is_name", "_law_behind", "_law_spoiled", "_law_only", "_law_refused"] : List Str)
theorem run (w : World) : HandSHeadRun.RunEq R (PySem.W.view R.prog [43]) hk ob 20000 loose w := by
  intro os
  kernel_rfl
theorem facts {P : Program} {w : World} {K : PySem.W.Frag} {h : Heap} {mg : Str → Option Value} {f : Addr} (X : K.In h) (G : h.Ns mainGlobals mg) (hfa : mg ("law" : Str) = some (.ref f)) (c : He.SaysD fa fn K) (cx : xt K = true) :
    ∃ fd : FuncData, (∀ (s : Shared) (v : Value), BindsTo s fd ⟨[v], []⟩ [("_law_script", v)]) ∧ ∀ base : Heap, K.In base → base.Ns mainGlobals mg → FnOk P w K mg base (L2.CX P w) 105 f fd ["_law_script"] (lift K sp_law) := by
  obtain ⟨z0, y0⟩ := He.ba cx
  have x_noL : NoL K := noL_of z0
  obtain ⟨z1, y1⟩ := He.ba y0
  have y_tup_WORDS := z1
  obtain ⟨z2, y2⟩ := He.ba y1
  have y_T_OfLand := clsTB_ok z2
  obtain ⟨z3, y3⟩ := He.ba y2
  have y_T_OfSheet := clsTB_ok z3
  obtain ⟨z4, y4⟩ := He.ba y3
  have y_T_Everywhere := clsTB_ok z4
  obtain ⟨z5, y5⟩ := He.ba y4
  have y_I0_Everywhere := ini0B_ok z5
  obtain ⟨z6, y6⟩ := He.ba y5
  have y_T_Nowhere := clsTB_ok z6
  obtain ⟨z7, y7⟩ := He.ba y6
  have y_I0_Nowhere := ini0B_ok z7
  obtain ⟨z8, y8⟩ := He.ba y7
  have y_T_Not := clsTB_ok z8
  obtain ⟨z9, y9⟩ := He.ba y8
  have y_T_Both := clsTB_ok z9
  obtain ⟨z10, y10⟩ := He.ba y9
  have y_T_Either := clsTB_ok z10
  obtain ⟨z11, y11⟩ := He.ba y10
  have x_i_NoFace : IsT K tb_NoFace [.own "NoFace"] := isT_of z11
  obtain ⟨z12, y12⟩ := He.ba y11
  have x_i_NoDeskRow : IsT K tb_NoDeskRow [.own "NoDeskRow"] := isT_of z12
  obtain ⟨z13, y13⟩ := He.ba y12
  have x_i_NoDeed : IsT K tb_NoDeed [.own "NoDeed"] := isT_of z13
  obtain ⟨z14, y14⟩ := He.ba y13
  have x_i_NoAtlas : IsT K tb_NoAtlas [.own "NoAtlas"] := isT_of z14
  obtain ⟨z15, y15⟩ := He.ba y14
  have x_i_NoText : IsT K tb_NoText [.own "NoText"] := isT_of z15
  obtain ⟨z16, y16⟩ := He.ba y15
  have x_i_NoRow : IsT K tb_NoRow [.own "NoRow"] := isT_of z16
  obtain ⟨z17, y17⟩ := He.ba y16
  have x_i_NoNumber : IsT K tb_NoNumber [.own "NoNumber"] := isT_of z17
  obtain ⟨z18, y18⟩ := He.ba y17
  have x_i_NoLand : IsT K tb_NoLand [.own "NoLand"] := isT_of z18
  obtain ⟨z19, y19⟩ := He.ba y18
  have x_i_NoSaying : IsT K tb_NoSaying [.own "NoSaying"] := isT_of z19
  obtain ⟨z20, y20⟩ := He.ba y19
  have x_i_ValueError : IsT K tb_ValueError [.ty "ValueError"] := isT_of z20
  obtain ⟨z21, y21⟩ := He.ba y20
  have x_i_OnSide : IsT K tb_OnSide [.own "OnSide"] := isT_of z21
  have x_t_SheetError : TryT K tb_SheetError "SheetError" := tryT_of y21
  have c_WORDS : Glo K mg "WORDS" cv_WORDS := glo_tup (He.glo_ok X G (c.fact 46 (f := .glo "WORDS") rfl)) (fun H => He.tupB_ok y_tup_WORDS H) fun H => (.cons (.str "and") (.cons (.str "or") (.cons (.str "not") (.cons (.str "all") (.cons (.str "none") (.cons (.str "sheet") .nil))))))
  have c_LETTERS : Glo K mg "LETTERS" cv_LETTERS := glo_str (He.str_ok X G (c.fact 47 (f := .str "LETTERS" "abcdefghijklmnopqrstuvwxyz") rfl))
  have c_MOST_WORDS : Glo K mg "MOST_WORDS" cv_MOST_WORDS := glo_int (He.int_ok X G (c.fact 48 (f := .int "MOST_WORDS" 40) rfl))
  have x_k_NoSaying : mg "NoSaying" = some (.ref (He.ga K "NoSaying")) := He.glo_ok X G (c.fact 27 (f := .glo "NoSaying") rfl)
  have x_k_NoFace : mg "NoFace" = some (.ref (He.ga K "NoFace")) := He.glo_ok X G (c.fact 28 (f := .glo "NoFace") rfl)
  have x_k_NoDeskRow : mg "NoDeskRow" = some (.ref (He.ga K "NoDeskRow")) := He.glo_ok X G (c.fact 29 (f := .glo "NoDeskRow") rfl)
  have x_k_NoDeed : mg "NoDeed" = some (.ref (He.ga K "NoDeed")) := He.glo_ok X G (c.fact 30 (f := .glo "NoDeed") rfl)
  have x_k_NoAtlas : mg "NoAtlas" = some (.ref (He.ga K "NoAtlas")) := He.glo_ok X G (c.fact 31 (f := .glo "NoAtlas") rfl)
  have x_k_NoText : mg "NoText" = some (.ref (He.ga K "NoText")) := He.glo_ok X G (c.fact 32 (f := .glo "NoText") rfl)
  have x_k_NoRow : mg "NoRow" = some (.ref (He.ga K "NoRow")) := He.glo_ok X G (c.fact 33 (f := .glo "NoRow") rfl)
  have x_k_NoNumber : mg "NoNumber" = some (.ref (He.ga K "NoNumber")) := He.glo_ok X G (c.fact 34 (f := .glo "NoNumber") rfl)
  have x_k_NoLand : mg "NoLand" = some (.ref (He.ga K "NoLand")) := He.glo_ok X G (c.fact 35 (f := .glo "NoLand") rfl)
  have x_k_OnSide : mg "OnSide" = some (.ref (He.ga K "OnSide")) := He.glo_ok X G (c.fact 36 (f := .glo "OnSide") rfl)
  have x_k_SheetError : mg "SheetError" = some (.ref (He.ga K "SheetError")) := He.glo_ok X G (c.fact 37 (f := .glo "SheetError") rfl)
  have x_k_OfLand : mg "OfLand" = some (.ref (He.ga K "OfLand")) := He.glo_ok X G (c.fact 38 (f := .glo "OfLand") rfl)
  have x_k_OfSheet : mg "OfSheet" = some (.ref (He.ga K "OfSheet")) := He.glo_ok X G (c.fact 39 (f := .glo "OfSheet") rfl)
  have x_k_Everywhere : mg "Everywhere" = some (.ref (He.ga K "Everywhere")) := He.glo_ok X G (c.fact 40 (f := .glo "Everywhere") rfl)
  have x_k_Nowhere : mg "Nowhere" = some (.ref (He.ga K "Nowhere")) := He.glo_ok X G (c.fact 41 (f := .glo "Nowhere") rfl)
  have x_k_Not : mg "Not" = some (.ref (He.ga K "Not")) := He.glo_ok X G (c.fact 42 (f := .glo "Not") rfl)
  have x_k_Both : mg "Both" = some (.ref (He.ga K "Both")) := He.glo_ok X G (c.fact 43 (f := .glo "Both") rfl)
  have x_k_Either : mg "Either" = some (.ref (He.ga K "Either")) := He.glo_ok X G (c.fact 44 (f := .glo "Either") rfl)
  have x_f_NoSaying : ExF K "NoSaying" := exF_of (c.fact 45 (f := .exc "NoSaying") rfl)
  have b_isinstance : mg "isinstance" = none := He.free_ok X G (c.fact 18 (f := .free "isinstance") rfl)
  have b_str : mg "str" = none := He.free_ok X G (c.fact 19 (f := .free "str") rfl)
  have b_len : mg "len" = none := He.free_ok X G (c.fact 20 (f := .free "len") rfl)
  have b_all : mg "all" = none := He.free_ok X G (c.fact 21 (f := .free "all") rfl)
  have b_abs : mg "abs" = none := He.free_ok X G (c.fact 22 (f := .free "abs") rfl)
  have b_range : mg "range" = none := He.free_ok X G (c.fact 23 (f := .free "range") rfl)
  have b_int : mg "int" = none := He.free_ok X G (c.fact 24 (f := .free "int") rfl)
  have b_list : mg "list" = none := He.free_ok X G (c.fact 25 (f := .free "list") rfl)
  have b_ValueError : mg "ValueError" = none := He.free_ok X G (c.fact 26 (f := .free "ValueError") rfl)
  obtain ⟨fd_is_name, F_is_name⟩ := c.def_ 0 (d := D_is_name) rfl
  have g_is_name := He.glo_ok X G (c.fact 0 (f := .glo "is_name") rfl)
  have bi_is_name : Binds K fd_is_name ["thing"] [] := F_is_name.bindsN fun _ _ _ _ _ _ us hl => match us, hl with | [_], _ => rfl
  obtain ⟨fd_word_at, F_word_at⟩ := c.def_ 1 (d := D_word_at) rfl
  have g_word_at := He.glo_ok X G (c.fact 1 (f := .glo "word_at") rfl)
  have bi_word_at : Binds K fd_word_at ["words", "at"] [] := F_word_at.bindsN fun _ _ _ _ _ _ us hl => match us, hl with | [_, _], _ => rfl
  obtain ⟨fd_read_pair, F_read_pair⟩ := c.def_ 2 (d := D_read_pair) rfl
  have g_read_pair := He.glo_ok X G (c.fact 2 (f := .glo "read_pair") rfl)
  have bi_read_pair : Binds K fd_read_pair ["words", "at"] [] := F_read_pair.bindsN fun _ _ _ _ _ _ us hl => match us, hl with | [_, _], _ => rfl
  obtain ⟨fd_read_at, F_read_at⟩ := c.def_ 3 (d := D_read_at) rfl
  have g_read_at := He.glo_ok X G (c.fact 3 (f := .glo "read_at") rfl)
  have bi_read_at : Binds K fd_read_at ["words", "at"] [] := F_read_at.bindsN fun _ _ _ _ _ _ us hl => match us, hl with | [_, _], _ => rfl
  obtain ⟨fd_read_saying, F_read_saying⟩ := c.def_ 4 (d := D_read_saying) rfl
  have g_read_saying := He.glo_ok X G (c.fact 4 (f := .glo "read_saying") rfl)
  have bi_read_saying : Binds K fd_read_saying ["text"] [] := F_read_saying.bindsN fun _ _ _ _ _ _ us hl => match us, hl with | [_], _ => rfl
  obtain ⟨fd__law_cell, F__law_cell⟩ := c.def_ 5 (d := D__law_cell) rfl
  have g__law_cell := He.glo_ok X G (c.fact 5 (f := .glo "_law_cell") rfl)
  have bi__law_cell : Binds K fd__law_cell ["_law_script", "_law_k"] [] := F__law_cell.bindsN fun _ _ _ _ _ _ us hl => match us, hl with | [_, _], _ => rfl
  obtain ⟨fd__law_numbers, F__law_numbers⟩ := c.def_ 6 (d := D__law_numbers) rfl
  have g__law_numbers := He.glo_ok X G (c.fact 6 (f := .glo "_law_numbers") rfl)
  have bi__law_numbers : Binds K fd__law_numbers ["_law_cell_here", "_law_many"] [] := F__law_numbers.bindsN fun _ _ _ _ _ _ us hl => match us, hl with | [_, _], _ => rfl
  obtain ⟨fd__law_words, F__law_words⟩ := c.def_ 7 (d := D__law_words) rfl
  have g__law_words := He.glo_ok X G (c.fact 7 (f := .glo "_law_words") rfl)
  have bi__law_words : Binds K fd__law_words ["_law_cell_here", "_law_many"] [] := F__law_words.bindsN fun _ _ _ _ _ _ us hl => match us, hl with | [_, _], _ => rfl
  obtain ⟨fd__law_saying, F__law_saying⟩ := c.def_ 8 (d := D__law_saying) rfl
  have g__law_saying := He.glo_ok X G (c.fact 8 (f := .glo "_law_saying") rfl)
  have bi__law_saying : Binds K fd__law_saying ["_law_state_here", "_law_room"] [] := F__law_saying.bindsN fun _ _ _ _ _ _ us hl => match us, hl with | [_, _], _ => rfl
  obtain ⟨fd__law_said, F__law_said⟩ := c.def_ 9 (d := D__law_said) rfl
  have g__law_said := He.glo_ok X G (c.fact 9 (f := .glo "_law_said") rfl)
  have bi__law_said : Binds K fd__law_said ["_law_told"] [] := F__law_said.bindsN fun _ _ _ _ _ _ us hl => match us, hl with | [_], _ => rfl
  obtain ⟨fd__law_true, F__law_true⟩ := c.def_ 10 (d := D__law_true) rfl
  have g__law_true := He.glo_ok X G (c.fact 10 (f := .glo "_law_true") rfl)
  have bi__law_true : Binds K fd__law_true ["_law_told", "_law_lands"] [] := F__law_true.bindsN fun _ _ _ _ _ _ us hl => match us, hl with | [_, _], _ => rfl
  obtain ⟨fd__law_state, F__law_state⟩ := c.def_ 11 (d := D__law_state) rfl
  have g__law_state := He.glo_ok X G (c.fact 11 (f := .glo "_law_state") rfl)
  have bi__law_state : Binds K fd__law_state ["_law_cell_here", "_law_names", "_law_sheets"] [] := F__law_state.bindsN fun _ _ _ _ _ _ us hl => match us, hl with | [_, _, _], _ => rfl
  obtain ⟨fd__law_is_name, F__law_is_name⟩ := c.def_ 12 (d := D__law_is_name) rfl
  have g__law_is_name := He.glo_ok X G (c.fact 12 (f := .glo "_law_is_name") rfl)
  have bi__law_is_name : Binds K fd__law_is_name ["_law_word"] [] := F__law_is_name.bindsN fun _ _ _ _ _ _ us hl => match us, hl with | [_], _ => rfl
  obtain ⟨fd__law_behind, F__law_behind⟩ := c.def_ 13 (d := D__law_behind) rfl
  have g__law_behind := He.glo_ok X G (c.fact 13 (f := .glo "_law_behind") rfl)
  have bi__law_behind : Binds K fd__law_behind ["_law_words_here", "_law_at"] [] := F__law_behind.bindsN fun _ _ _ _ _ _ us hl => match us, hl with | [_, _], _ => rfl
  obtain ⟨fd__law_spoiled, F__law_spoiled⟩ := c.def_ 14 (d := D__law_spoiled) rfl
  have g__law_spoiled := He.glo_ok X G (c.fact 14 (f := .glo "_law_spoiled") rfl)
  have bi__law_spoiled : Binds K fd__law_spoiled ["_law_words_here", "_law_xs", "_law_names"] [] := F__law_spoiled.bindsN fun _ _ _ _ _ _ us hl => match us, hl with | [_, _, _], _ => rfl
  obtain ⟨fd__law_only, F__law_only⟩ := c.def_ 15 (d := D__law_only) rfl
  have g__law_only := He.glo_ok X G (c.fact 15 (f := .glo "_law_only") rfl)
  have bi__law_only : Binds K fd__law_only ["_law_e"] [] := F__law_only.bindsN fun _ _ _ _ _ _ us hl => match us, hl with | [_], _ => rfl
  obtain ⟨fd__law_refused, F__law_refused⟩ := c.def_ 16 (d := D__law_refused) rfl
  have g__law_refused := He.glo_ok X G (c.fact 16 (f := .glo "_law_refused") rfl)
  have bi__law_refused : Binds K fd__law_refused ["_law_thing"] [] := F__law_refused.bindsN fun _ _ _ _ _ _ us hl => match us, hl with | [_], _ => rfl
  obtain ⟨fd_law, F_law⟩ := c.def_ 17 (d := D_law) rfl
  have g_law := He.glo_ok X G (c.fact 17 (f := .glo "law") rfl)
  have e := hfa.symm.trans g_law
  cases e
  have b := FunD.bindsA (ps := ["_law_script"]) F_law fun _ _ _ _ _ _ us hl => match us, hl with | [_], _ => rfl
  refine ⟨fd_law, fun s v => b s [v] rfl, fun base _ _ => ?_⟩
  obtain ⟨fd_Saying__holds, F_Saying__holds⟩ := c.def_ 18 (d := D_Saying__holds) rfl
  have bi_Saying__holds : Binds K fd_Saying__holds ["self", "lands"] [] := F_Saying__holds.bindsN fun _ _ _ _ _ _ us hl => match us, hl with | [_, _], _ => rfl
  obtain ⟨fd_Saying__shown, F_Saying__shown⟩ := c.def_ 19 (d := D_Saying__shown) rfl
  have bi_Saying__shown : Binds K fd_Saying__shown ["self"] [] := F_Saying__shown.bindsN fun _ _ _ _ _ _ us hl => match us, hl with | [_], _ => rfl
  obtain ⟨fd_OfLand__holds, F_OfLand__holds⟩ := c.def_ 20 (d := D_OfLand__holds) rfl
  have bi_OfLand__holds : Binds K fd_OfLand__holds ["self", "lands"] [] := F_OfLand__holds.bindsN fun _ _ _ _ _ _ us hl => match us, hl with | [_, _], _ => rfl
  obtain ⟨fd_OfLand__shown, F_OfLand__shown⟩ := c.def_ 21 (d := D_OfLand__shown) rfl
  have bi_OfLand__shown : Binds K fd_OfLand__shown ["self"] [] := F_OfLand__shown.bindsN fun _ _ _ _ _ _ us hl => match us, hl with | [_], _ => rfl
  obtain ⟨fd_OfSheet__holds, F_OfSheet__holds⟩ := c.def_ 22 (d := D_OfSheet__holds) rfl
  have bi_OfSheet__holds : Binds K fd_OfSheet__holds ["self", "lands"] [] := F_OfSheet__holds.bindsN fun _ _ _ _ _ _ us hl => match us, hl with | [_, _], _ => rfl
  obtain ⟨fd_OfSheet__shown, F_OfSheet__shown⟩ := c.def_ 23 (d := D_OfSheet__shown) rfl
  have bi_OfSheet__shown : Binds K fd_OfSheet__shown ["self"] [] := F_OfSheet__shown.bindsN fun _ _ _ _ _ _ us hl => match us, hl with | [_], _ => rfl
  obtain ⟨fd_Everywhere__holds, F_Everywhere__holds⟩ := c.def_ 24 (d := D_Everywhere__holds) rfl
  have bi_Everywhere__holds : Binds K fd_Everywhere__holds ["self", "lands"] [] := F_Everywhere__holds.bindsN fun _ _ _ _ _ _ us hl => match us, hl with | [_, _], _ => rfl
  obtain ⟨fd_Everywhere__shown, F_Everywhere__shown⟩ := c.def_ 25 (d := D_Everywhere__shown) rfl
  have bi_Everywhere__shown : Binds K fd_Everywhere__shown ["self"] [] := F_Everywhere__shown.bindsN fun _ _ _ _ _ _ us hl => match us, hl with | [_], _ => rfl
  obtain ⟨fd_Not__holds, F_Not__holds⟩ := c.def_ 26 (d := D_Not__holds) rfl
  have bi_Not__holds : Binds K fd_Not__holds ["self", "lands"] [] := F_Not__holds.bindsN fun _ _ _ _ _ _ us hl => match us, hl with | [_, _], _ => rfl
  obtain ⟨fd_Not__shown, F_Not__shown⟩ := c.def_ 27 (d := D_Not__shown) rfl
  have bi_Not__shown : Binds K fd_Not__shown ["self"] [] := F_Not__shown.bindsN fun _ _ _ _ _ _ us hl => match us, hl with | [_], _ => rfl
  obtain ⟨fd_Both__holds, F_Both__holds⟩ := c.def_ 28 (d := D_Both__holds) rfl
  have bi_Both__holds : Binds K fd_Both__holds ["self", "lands"] [] := F_Both__holds.bindsN fun _ _ _ _ _ _ us hl => match us, hl with | [_, _], _ => rfl
  obtain ⟨fd_Both__shown, F_Both__shown⟩ := c.def_ 29 (d := D_Both__shown) rfl
  have bi_Both__shown : Binds K fd_Both__shown ["self"] [] := F_Both__shown.bindsN fun _ _ _ _ _ _ us hl => match us, hl with | [_], _ => rfl
  obtain ⟨fd_Either__holds, F_Either__holds⟩ := c.def_ 30 (d := D_Either__holds) rfl
  have bi_Either__holds : Binds K fd_Either__holds ["self", "lands"] [] := F_Either__holds.bindsN fun _ _ _ _ _ _ us hl => match us, hl with | [_, _], _ => rfl
  obtain ⟨fd_Either__shown, F_Either__shown⟩ := c.def_ 31 (d := D_Either__shown) rfl
  have bi_Either__shown : Binds K fd_Either__shown ["self"] [] := F_Either__shown.bindsN fun _ _ _ _ _ _ us hl => match us, hl with | [_], _ => rfl
  obtain ⟨fd_init_OfLand, F_init_OfLand⟩ := c.def_ 32 (d := D_init_OfLand) rfl
  have bi_init_OfLand : Binds K fd_init_OfLand ["self", "name"] [] := F_init_OfLand.bindsN fun _ _ _ _ _ _ us hl => match us, hl with | [_, _], _ => rfl
  have x_K_OfLand : MkN P w K mg base "OfLand" ["name"] := mkMkN y_T_OfLand x_k_OfLand (by simp) F_init_OfLand sc_init_OfLand bi_init_OfLand rfl fun cdv A outer s H E => ins_body1 y_T_OfLand.ic.cl (y_T_OfLand.fs "name" (by simp))
  obtain ⟨fd_init_OfSheet, F_init_OfSheet⟩ := c.def_ 33 (d := D_init_OfSheet) rfl
  have bi_init_OfSheet : Binds K fd_init_OfSheet ["self", "sheet"] [] := F_init_OfSheet.bindsN fun _ _ _ _ _ _ us hl => match us, hl with | [_, _], _ => rfl
  have x_K_OfSheet : MkN P w K mg base "OfSheet" ["sheet"] := mkMkN y_T_OfSheet x_k_OfSheet (by simp) F_init_OfSheet sc_init_OfSheet bi_init_OfSheet rfl fun cdv A outer s H E => ins_body1 y_T_OfSheet.ic.cl (y_T_OfSheet.fs "sheet" (by simp))
  obtain ⟨fd_init_Not, F_init_Not⟩ := c.def_ 34 (d := D_init_Not) rfl
  have bi_init_Not : Binds K fd_init_Not ["self", "inner"] [] := F_init_Not.bindsN fun _ _ _ _ _ _ us hl => match us, hl with | [_, _], _ => rfl
  have x_K_Not : MkN P w K mg base "Not" ["inner"] := mkMkN y_T_Not x_k_Not (by simp) F_init_Not sc_init_Not bi_init_Not rfl fun cdv A outer s H E => ins_body1 y_T_Not.ic.cl (y_T_Not.fs "inner" (by simp))
  obtain ⟨fd_init_Both, F_init_Both⟩ := c.def_ 35 (d := D_init_Both) rfl
  have bi_init_Both : Binds K fd_init_Both ["self", "one", "other"] [] := F_init_Both.bindsN fun _ _ _ _ _ _ us hl => match us, hl with | [_, _, _], _ => rfl
  have x_K_Both : MkN P w K mg base "Both" ["one", "other"] := mkMkN y_T_Both x_k_Both (by simp) F_init_Both sc_init_Both bi_init_Both rfl fun cdv A outer s H E => ins_body2 y_T_Both.ic.cl (y_T_Both.fs "one" (by simp)) (y_T_Both.fs "other" (by simp)) (by decide)
  obtain ⟨fd_init_Either, F_init_Either⟩ := c.def_ 36 (d := D_init_Either) rfl
  have bi_init_Either : Binds K fd_init_Either ["self", "one", "other"] [] := F_init_Either.bindsN fun _ _ _ _ _ _ us hl => match us, hl with | [_, _, _], _ => rfl
  have x_K_Either : MkN P w K mg base "Either" ["one", "other"] := mkMkN y_T_Either x_k_Either (by simp) F_init_Either sc_init_Either bi_init_Either rfl fun cdv A outer s H E => ins_body2 y_T_Either.ic.cl (y_T_Either.fs "one" (by simp)) (y_T_Either.fs "other" (by simp)) (by decide)
  have x_K_Everywhere : MkN0 K mg "Everywhere" := ⟨y_T_Everywhere.cn, x_k_Everywhere, y_T_Everywhere.mks, y_I0_Everywhere, y_T_Everywhere.kp⟩
  have x_K_Nowhere : MkN0 K mg "Nowhere" := ⟨y_T_Nowhere.cn, x_k_Nowhere, y_T_Nowhere.mks, y_I0_Nowhere, y_T_Nowhere.kp⟩
  have x_F_OfLand_name : InsF K ["OfLand"] "name" := fun c hc => by
    simp only [List.mem_cons, List.not_mem_nil, or_false] at hc
    first | (rcases hc with rfl <;> first | exact ⟨y_T_OfLand.ic.cl, y_T_OfLand.fs "name" (by simp)⟩)
  have x_F_OfSheet_sheet : InsF K ["OfSheet"] "sheet" := fun c hc => by
    simp only [List.mem_cons, List.not_mem_nil, or_false] at hc
    first | (rcases hc with rfl <;> first | exact ⟨y_T_OfSheet.ic.cl, y_T_OfSheet.fs "sheet" (by simp)⟩)
  have x_F_Not_inner : InsF K ["Not"] "inner" := fun c hc => by
    simp only [List.mem_cons, List.not_mem_nil, or_false] at hc
    first | (rcases hc with rfl <;> first | exact ⟨y_T_Not.ic.cl, y_T_Not.fs "inner" (by simp)⟩)
  have x_F_Both_one : InsF K ["Both"] "one" := fun c hc => by
    simp only [List.mem_cons, List.not_mem_nil, or_false] at hc
    first | (rcases hc with rfl <;> first | exact ⟨y_T_Both.ic.cl, y_T_Both.fs "one" (by simp)⟩)
  have x_F_Both_other : InsF K ["Both"] "other" := fun c hc => by
    simp only [List.mem_cons, List.not_mem_nil, or_false] at hc
    first | (rcases hc with rfl <;> first | exact ⟨y_T_Both.ic.cl, y_T_Both.fs "other" (by simp)⟩)
  have x_F_Either_one : InsF K ["Either"] "one" := fun c hc => by
    simp only [List.mem_cons, List.not_mem_nil, or_false] at hc
    first | (rcases hc with rfl <;> first | exact ⟨y_T_Either.ic.cl, y_T_Either.fs "one" (by simp)⟩)
  have x_F_Either_other : InsF K ["Either"] "other" := fun c hc => by
    simp only [List.mem_cons, List.not_mem_nil, or_false] at hc
    first | (rcases hc with rfl <;> first | exact ⟨y_T_Either.ic.cl, y_T_Either.fs "other" (by simp)⟩)
  have M_holds : ∀ n, MN P w K mg base "holds" (10 + n) CS (spr_holds n) := by
    intro n
    induction n with
    | zero => exact ⟨all7 ⟨y_T_OfLand.ic.cl, _, _, _, fn_ok0 (k := 9) F_OfLand__holds sc_OfLand__holds (by decide) (fun ds Φ Ξ h => h0_holds ds Φ Ξ h.2), y_T_OfLand.ms ("holds", "OfLand") (by simp), bi_OfLand__holds⟩
        ⟨y_T_OfSheet.ic.cl, _, _, _, fn_ok0 (k := 9) F_OfSheet__holds sc_OfSheet__holds (by decide) (fun ds Φ Ξ h => h0_holds ds Φ Ξ h.2), y_T_OfSheet.ms ("holds", "OfSheet") (by simp), bi_OfSheet__holds⟩
        ⟨y_T_Everywhere.ic.cl, _, _, _, fn_ok0 (k := 9) F_Everywhere__holds sc_Everywhere__holds (by decide) (fun ds Φ Ξ h => h0_holds ds Φ Ξ h.2), y_T_Everywhere.ms ("holds", "Everywhere") (by simp), bi_Everywhere__holds⟩
        ⟨y_T_Nowhere.ic.cl, _, _, _, fn_ok0 (k := 9) F_Saying__holds sc_Saying__holds (by decide) (fun ds Φ Ξ h => h0_holds ds Φ Ξ h.2), y_T_Nowhere.ms ("holds", "Saying") (by simp), bi_Saying__holds⟩
        ⟨y_T_Not.ic.cl, _, _, _, fn_ok0 (k := 9) F_Not__holds sc_Not__holds (by decide) (fun ds Φ Ξ h => h0_holds ds Φ Ξ h.2), y_T_Not.ms ("holds", "Not") (by simp), bi_Not__holds⟩
        ⟨y_T_Both.ic.cl, _, _, _, fn_ok0 (k := 9) F_Both__holds sc_Both__holds (by decide) (fun ds Φ Ξ h => h0_holds ds Φ Ξ h.2), y_T_Both.ms ("holds", "Both") (by simp), bi_Both__holds⟩
        ⟨y_T_Either.ic.cl, _, _, _, fn_ok0 (k := 9) F_Either__holds sc_Either__holds (by decide) (fun ds Φ Ξ h => h0_holds ds Φ Ξ h.2), y_T_Either.ms ("holds", "Either") (by simp), bi_Either__holds⟩⟩
    | succ n ih => exact ⟨all7 ⟨y_T_OfLand.ic.cl, _, _, _, ok_OfLand__holds (n := n) F_OfLand__holds x_F_OfLand_name, y_T_OfLand.ms ("holds", "OfLand") (by simp), bi_OfLand__holds⟩
        ⟨y_T_OfSheet.ic.cl, _, _, _, ok_OfSheet__holds (n := n) F_OfSheet__holds x_F_OfSheet_sheet, y_T_OfSheet.ms ("holds", "OfSheet") (by simp), bi_OfSheet__holds⟩
        ⟨y_T_Everywhere.ic.cl, _, _, _, ok_Everywhere__holds (n := n) F_Everywhere__holds , y_T_Everywhere.ms ("holds", "Everywhere") (by simp), bi_Everywhere__holds⟩
        ⟨y_T_Nowhere.ic.cl, _, _, _, ok_Saying__holds (n := n) F_Saying__holds , y_T_Nowhere.ms ("holds", "Saying") (by simp), bi_Saying__holds⟩
        ⟨y_T_Not.ic.cl, _, _, _, ok_Not__holds (n := n) F_Not__holds x_F_Not_inner ih, y_T_Not.ms ("holds", "Not") (by simp), bi_Not__holds⟩
        ⟨y_T_Both.ic.cl, _, _, _, ok_Both__holds (n := n) F_Both__holds x_F_Both_one ih x_F_Both_other, y_T_Both.ms ("holds", "Both") (by simp), bi_Both__holds⟩
        ⟨y_T_Either.ic.cl, _, _, _, ok_Either__holds (n := n) F_Either__holds x_F_Either_one ih x_F_Either_other, y_T_Either.ms ("holds", "Either") (by simp), bi_Either__holds⟩⟩
  have x_M_holds : MN P w K mg base "holds" 51 CS sp_holds := M_holds 41
  have M_shown : ∀ n, MN P w K mg base "shown" (10 + n) CS (spr_shown n) := by
    intro n
    induction n with
    | zero => exact ⟨all7 ⟨y_T_OfLand.ic.cl, _, _, _, fn_ok0 (k := 9) F_OfLand__shown sc_OfLand__shown (by decide) (fun ds Φ Ξ h => h0_shown ds Φ Ξ h.2), y_T_OfLand.ms ("shown", "OfLand") (by simp), bi_OfLand__shown⟩
        ⟨y_T_OfSheet.ic.cl, _, _, _, fn_ok0 (k := 9) F_OfSheet__shown sc_OfSheet__shown (by decide) (fun ds Φ Ξ h => h0_shown ds Φ Ξ h.2), y_T_OfSheet.ms ("shown", "OfSheet") (by simp), bi_OfSheet__shown⟩
        ⟨y_T_Everywhere.ic.cl, _, _, _, fn_ok0 (k := 9) F_Everywhere__shown sc_Everywhere__shown (by decide) (fun ds Φ Ξ h => h0_shown ds Φ Ξ h.2), y_T_Everywhere.ms ("shown", "Everywhere") (by simp), bi_Everywhere__shown⟩
        ⟨y_T_Nowhere.ic.cl, _, _, _, fn_ok0 (k := 9) F_Saying__shown sc_Saying__shown (by decide) (fun ds Φ Ξ h => h0_shown ds Φ Ξ h.2), y_T_Nowhere.ms ("shown", "Saying") (by simp), bi_Saying__shown⟩
        ⟨y_T_Not.ic.cl, _, _, _, fn_ok0 (k := 9) F_Not__shown sc_Not__shown (by decide) (fun ds Φ Ξ h => h0_shown ds Φ Ξ h.2), y_T_Not.ms ("shown", "Not") (by simp), bi_Not__shown⟩
        ⟨y_T_Both.ic.cl, _, _, _, fn_ok0 (k := 9) F_Both__shown sc_Both__shown (by decide) (fun ds Φ Ξ h => h0_shown ds Φ Ξ h.2), y_T_Both.ms ("shown", "Both") (by simp), bi_Both__shown⟩
        ⟨y_T_Either.ic.cl, _, _, _, fn_ok0 (k := 9) F_Either__shown sc_Either__shown (by decide) (fun ds Φ Ξ h => h0_shown ds Φ Ξ h.2), y_T_Either.ms ("shown", "Either") (by simp), bi_Either__shown⟩⟩
    | succ n ih => exact ⟨all7 ⟨y_T_OfLand.ic.cl, _, _, _, ok_OfLand__shown (n := n) F_OfLand__shown x_F_OfLand_name, y_T_OfLand.ms ("shown", "OfLand") (by simp), bi_OfLand__shown⟩
        ⟨y_T_OfSheet.ic.cl, _, _, _, ok_OfSheet__shown (n := n) F_OfSheet__shown x_F_OfSheet_sheet, y_T_OfSheet.ms ("shown", "OfSheet") (by simp), bi_OfSheet__shown⟩
        ⟨y_T_Everywhere.ic.cl, _, _, _, ok_Everywhere__shown (n := n) F_Everywhere__shown , y_T_Everywhere.ms ("shown", "Everywhere") (by simp), bi_Everywhere__shown⟩
        ⟨y_T_Nowhere.ic.cl, _, _, _, ok_Saying__shown (n := n) F_Saying__shown , y_T_Nowhere.ms ("shown", "Saying") (by simp), bi_Saying__shown⟩
        ⟨y_T_Not.ic.cl, _, _, _, ok_Not__shown (n := n) F_Not__shown x_F_Not_inner ih, y_T_Not.ms ("shown", "Not") (by simp), bi_Not__shown⟩
        ⟨y_T_Both.ic.cl, _, _, _, ok_Both__shown (n := n) F_Both__shown x_F_Both_one ih x_F_Both_other, y_T_Both.ms ("shown", "Both") (by simp), bi_Both__shown⟩
        ⟨y_T_Either.ic.cl, _, _, _, ok_Either__shown (n := n) F_Either__shown x_F_Either_one ih x_F_Either_other, y_T_Either.ms ("shown", "Either") (by simp), bi_Either__shown⟩⟩
  have x_M_shown : MN P w K mg base "shown" 51 CS sp_shown := M_shown 41
  have n_is_name : FN P w K mg base "is_name" 1 sp_is_name := mkFN F_is_name g_is_name (ok_is_name F_is_name b_isinstance b_str b_len b_all c_WORDS c_LETTERS) bi_is_name
  have n_word_at : FN P w K mg base "word_at" 1 sp_word_at := mkFN F_word_at g_word_at (ok_word_at F_word_at b_len) bi_word_at
  have n__law_cell : FN P w K mg base "_law_cell" 1 sp__law_cell := mkFN F__law_cell g__law_cell (ok__law_cell F__law_cell b_len) bi__law_cell
  have n__law_numbers : FN P w K mg base "_law_numbers" 1 sp__law_numbers := mkFN F__law_numbers g__law_numbers (ok__law_numbers F__law_numbers b_abs b_range b_int) bi__law_numbers
  have n__law_is_name : FN P w K mg base "_law_is_name" 1 sp__law_is_name := mkFN F__law_is_name g__law_is_name (ok__law_is_name F__law_is_name b_len b_all) bi__law_is_name
  have n__law_spoiled : FN P w K mg base "_law_spoiled" 1 sp__law_spoiled := mkFN F__law_spoiled g__law_spoiled (ok__law_spoiled F__law_spoiled b_len b_list) bi__law_spoiled
  have x_A__law_only : FNA P w K mg base "_law_only" 1 sp__law_only := okA__law_only F__law_only g__law_only bi__law_only b_isinstance b_ValueError x_i_NoFace x_k_NoFace x_i_NoDeskRow x_k_NoDeskRow x_i_NoDeed x_k_NoDeed x_i_NoAtlas x_k_NoAtlas x_i_NoText x_k_NoText x_i_NoRow x_k_NoRow x_i_NoNumber x_k_NoNumber x_i_NoLand x_k_NoLand x_i_NoSaying x_k_NoSaying x_i_ValueError x_i_OnSide x_k_OnSide
  have n__law_words : FN P w K mg base "_law_words" 2 sp__law_words := mkFN F__law_words g__law_words (ok__law_words F__law_words n__law_numbers b_range) bi__law_words
  have n__law_state : FN P w K mg base "_law_state" 2 sp__law_state := mkFN F__law_state g__law_state (ok__law_state F__law_state n__law_numbers) bi__law_state
  have r__law_saying : ∀ n, FN P w K mg base "_law_saying" (10 + n) (spr__law_saying n) := by
    intro n
    induction n with
    | zero => exact mkFN F__law_saying g__law_saying (fn_ok0 (k := 9) F__law_saying sc__law_saying (by decide) h0__law_saying) bi__law_saying
    | succ n x_R__law_saying =>
      rw [show 10 + (n + 1) = 10 + n + 1 by omega]
      exact mkFN F__law_saying g__law_saying (ok__law_saying (n := n) F__law_saying b_len x_R__law_saying) bi__law_saying
  have n__law_saying : FN P w K mg base "_law_saying" 51 sp__law_saying := r__law_saying 41
  have r__law_said : ∀ n, FN P w K mg base "_law_said" (10 + n) (spr__law_said n) := by
    intro n
    induction n with
    | zero => exact mkFN F__law_said g__law_said (fn_ok0 (k := 9) F__law_said sc__law_said (by decide) h0__law_said) bi__law_said
    | succ n x_R__law_said =>
      rw [show 10 + (n + 1) = 10 + n + 1 by omega]
      exact mkFN F__law_said g__law_said (ok__law_said (n := n) F__law_said x_R__law_said) bi__law_said
  have n__law_said : FN P w K mg base "_law_said" 51 sp__law_said := r__law_said 41
  have r__law_true : ∀ n, FN P w K mg base "_law_true" (10 + n) (spr__law_true n) := by
    intro n
    induction n with
    | zero => exact mkFN F__law_true g__law_true (fn_ok0 (k := 9) F__law_true sc__law_true (by decide) h0__law_true) bi__law_true
    | succ n x_R__law_true =>
      rw [show 10 + (n + 1) = 10 + n + 1 by omega]
      exact mkFN F__law_true g__law_true (ok__law_true (n := n) F__law_true x_R__law_true) bi__law_true
  have n__law_true : FN P w K mg base "_law_true" 51 sp__law_true := r__law_true 41
  have r__law_behind : ∀ n, FN P w K mg base "_law_behind" (10 + n) (spr__law_behind n) := by
    intro n
    induction n with
    | zero => exact mkFN F__law_behind g__law_behind (fn_ok0 (k := 9) F__law_behind sc__law_behind (by decide) h0__law_behind) bi__law_behind
    | succ n x_R__law_behind =>
      rw [show 10 + (n + 1) = 10 + n + 1 by omega]
      exact mkFN F__law_behind g__law_behind (ok__law_behind (n := n) F__law_behind n__law_is_name b_len x_R__law_behind) bi__law_behind
  have n__law_behind : FN P w K mg base "_law_behind" 51 sp__law_behind := r__law_behind 41
  have r_read_at : ∀ n, FN P w K mg base "read_at" (20 + 2 * n) (spr_read_at n) := by
    intro n
    induction n with
    | zero => exact mkFN F_read_at g_read_at (fn_ok0 (k := 19) F_read_at sc_read_at (by decide) h0_read_at) bi_read_at
    | succ n x_R_read_at =>
      have x_R_read_pair : FN P w K mg base "read_pair" (21 + 2 * n) (spr_read_pair n) := by
        rw [show 21 + 2 * n = 20 + 2 * n + 1 by omega]
        exact mkFN F_read_pair g_read_pair (ok_read_pair (n := n) F_read_pair n_word_at x_R_read_at x_f_NoSaying x_k_NoSaying x_K_Both x_K_Either) bi_read_pair
      rw [show 20 + 2 * (n + 1) = 21 + 2 * n + 1 by omega]
      exact mkFN F_read_at g_read_at (ok_read_at (n := n) F_read_at n_word_at n_is_name x_K_Everywhere x_K_Nowhere x_R_read_at x_K_Not x_R_read_pair x_K_OfSheet x_f_NoSaying x_k_NoSaying x_K_OfLand) bi_read_at
  have n_read_at : FN P w K mg base "read_at" 102 sp_read_at := r_read_at 41
  have n_read_saying : FN P w K mg base "read_saying" 103 sp_read_saying := mkFN F_read_saying g_read_saying (ok_read_saying F_read_saying n_read_at b_isinstance b_str b_len c_MOST_WORDS x_f_NoSaying x_k_NoSaying) bi_read_saying
  have n__law_refused : FN P w K mg base "_law_refused" 104 sp__law_refused := mkFN F__law_refused g__law_refused (ok__law_refused F__law_refused n_read_saying x_M_shown x_t_SheetError x_k_SheetError x_A__law_only) bi__law_refused
  exact ok_law F_law n__law_words n__law_cell n__law_state n__law_said n__law_saying n__law_spoiled n__law_numbers n__law_behind n__law_refused b_len
end L2.D3.SY.K39
open PySem PySem.W PySem.Calls PyProof.Rows
theorem PySem.Challenge.cw_landsheets_k39_no_sayings_holds : PySem.Challenge.rw_landsheets_k39_no_sayings.Holds := by
  w_on; o_law
  refine HandSHeadRun.head_any (r := OpenLaw.row PySem.Challenge.rw_landsheets_k39_no_sayings) (q := view (OpenLaw.row PySem.Challenge.rw_landsheets_k39_no_sayings).prog [43]) (H := L2.D3.SY.K39.hk) (ob := L2.D3.SY.K39.ob) (M := 20000) (loose := L2.D3.SY.K39.loose) (d := HandSHeadRun.topDef (OpenLaw.row PySem.Challenge.rw_landsheets_k39_no_sayings).prog 43) (kwd := []) L2.D3.SY.K39.ob_eq
    (by kernel_rfl) (fun s => by kernel_rfl) L2.D3.SY.K39.run (by kernel_rfl) (by kernel_rfl) (by kernel_rfl) (by rfl) (by first | assumption | decide +kernel) (by decide +kernel) ⟨rfl, rfl, rfl, rfl, rfl, by decide +kernel⟩ ?hw ?hc
  case hw => w_witness2
  case hc =>
    refine L2.D3.walk_ofW (lw := PySem.Challenge.rw_landsheets_k39_no_sayings) (m := 63) (k := 105) (x := "_law_script") (C := fun w => L2.CX (PySem.Challenge.rw_landsheets_k39_no_sayings).prog w) rfl (by decide) (by kernel_rfl) ⟨rfl, by decide, by decide⟩ ?F (fun w H s e s2 z => L2.D3.cx_no H s e s2 z)
    intro w mg fa h Y G hmg0
    obtain ⟨K, KX, c, cx⟩ := Y
    have hmg : mg ("law" : PySem.Str) = some (.ref fa) := by
      have e : (HandSHeadRun.topDef (OpenLaw.row PySem.Challenge.rw_landsheets_k39_no_sayings).prog 43).name = ("law" : PySem.Str) := by kernel_rfl
      rw [← e]
      exact hmg0
    obtain ⟨fd, hb, hF⟩ := L2.D3.SY.K39.facts (P := (PySem.Challenge.rw_landsheets_k39_no_sayings).prog) (w := w) KX G hmg c cx
    exact ⟨K, fd, L2.D3.lift K L2.D3.SY.K39.sp_law, KX, hb, fun H a ns hl _ hS => L2.D3.lift_law hl hS, hF⟩
